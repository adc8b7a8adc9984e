import PyProof.Rows.All
import Wide.All
import OpenK.AllK
import Wide.FinOn
import HandS.ForExc
import HandS.TryOnly
import HandS.ExcIs
import HandS.IsInst
import HandS.ForMost
import HandS.WideBits
import HandS.Defaults
import HandS.Zip
import HandS.Flow
import HandS.Style
import HandS.HeadHook1
import HandS.HeadHook2
import HandS.TupAny
import HandS.Rev
import HandS.Conv
import HandS.Deep
import HandS.Small
import HandS.Iter
import HandS.RaiseMore
import HandS.CallSlots
import HandS.Dict
import HandS.HeadEnd
import HandS.EndBits
import PyProof.ReprRoads
import HandS.SortInts
import PyProof.ListRange
import PyProof.EqKinds
import HandS.TupLe
import PyProof.ListStr
import PyProof.WalksMore
import PyProof.SumWalkG
import PyProof.WalkInts
import PyProof.ReprBulk
import PyProof.FitsInt
import PyProof.P3Eq
import HandS.Head0
import HandS.Head1
import HandS.Head2
import PySem.Challenge.RW_swingposts_k35_before_by_search
set_option Elab.async false
set_option linter.all false
set_option maxRecDepth 100000
set_option maxHeartbeats 0
namespace Mi
open PySem PySem.Spec PyProof.Rows L2

/-- a caught exception of the class cls, kept as a value -/
def exoV (cls : Value) (a : Addr) : HO := .ext fun h => ∃ oe, h.get? a = some oe ∧ Zc cls none oe ∧ ∃ vs, oe.data = .fields vs
theorem exoV_ok {P : Program} {w : World} {H : Hp} {h : Heap} {a : Addr} {cls : Value} {oe : Obj} (e : h.get? a = some oe) (z : Zc cls none oe) (d : ∃ vs, oe.data = .fields vs) : ObjOk P w H h a (exoV cls a) :=
  ⟨⟨oe, e, z, d⟩, ⟨oe, e⟩, fun _ _ ⟨o, q, r⟩ k => ⟨o, k o q, r⟩⟩
theorem Inv.adopt {X : Cx} {pins : List (Addr × Obj)} {σ : L2.St} {H : Hp} {s : Shared} {a : Addr} {φ : Heap → Prop} (I : Inv X pins σ H s) (na : H a = none) (h0 : X.s_0.heap.get? a = none) (ob : ObjOk X.prog X.w (upd H a (.ext φ)) s.heap a (.ext φ)) (nL : a ≠ X.env.locals)
    (nC : ∀ x c, X.env.cells.lookup x = some c → c ≠ a) (nP : ∀ p ∈ X.pn ++ pins, p.1 ≠ a) : Inv X pins σ (upd H a (.ext φ)) s := by
  have ne0 : ∀ b o, X.s_0.heap.get? b = some o → b ≠ a := fun b o e z => by
    rw [z, h0] at e
    cases e
  refine ⟨I.ok, I.os, I.bare, ⟨I.base.keep, I.base.slot, fun b o e n hx => ?_, I.base.there, fun b xs e => ?_, fun b o u e => ?_, fun b ps e => ?_⟩, I.loc, I.cell, ?_, fun x c e => ?_, fun p hp => ?_, fun b u e => ?_, I.len⟩
  · rw [upd_ne (ne0 b o e)]
    exact I.base.free b o e n hx
  · have q := I.base.tups b xs e
    rw [upd_ne (ne_of_none q na)]
    exact q
  · have q := I.base.frzs b o u e
    rw [upd_ne (ne_of_none q na)]
    exact q
  · obtain ⟨m, q⟩ := I.base.tbls b ps e
    exact ⟨m, by rw [upd_ne (ne_of_none q na)]; exact q⟩
  · rw [upd_ne (Ne.symm nL)]
    exact I.free
  · rw [upd_ne (nC x c e)]
    exact I.freeC x c e
  · obtain ⟨h1, h2, h3⟩ := I.pin p hp
    exact ⟨h1, by rw [upd_ne (nP p hp)]; exact h2, h3⟩
  · by_cases hb : b = a
    · subst hb
      rw [upd_same] at e
      cases e
      exact ob
    · rw [upd_ne hb] at e
      exact (I.hok b u e).stay (fun c v _ q => q) (fun c q => by rw [upd_ne (ne_of_none q na)]; exact q) fun c xs q => by rw [upd_ne (ne_of_none q na)]; exact q
/-- the suite's context -/
abbrev suiteQ (X : Cx) (a : Addr) (pn : List (Addr × Obj)) : Cx := { X with A := X.A.mark (some (.ref a)), calm := false, pn := pn, xe := fun _ _ => False }
theorem Inv.suiteQ {X : Cx} {pins : List (Addr × Obj)} {σ : L2.St} {H : Hp} {s : Shared} (I : Inv X pins σ H s) (a : Addr) : Inv (suiteQ X a (X.pn ++ pins)) [] σ H s :=
  ⟨I.ok.suite _ _, I.os, I.bare, I.base, I.loc, I.cell, I.free, I.freeC, fun p hp => by rw [List.append_nil] at hp; exact I.pin p hp, I.hok, I.len⟩
theorem Inv.unsuiteQ {X : Cx} {pins : List (Addr × Obj)} {σ : L2.St} {H : Hp} {s : Shared} {a : Addr} (I : Inv (Mi.suiteQ X a (X.pn ++ pins)) [] σ H s) (ok : X.Ok) : Inv X pins σ H s :=
  ⟨ok, I.os, I.bare, I.base, I.loc, I.cell, I.free, I.freeC, fun p hp => I.pin p (List.mem_append_left _ hp), I.hok, I.len⟩
/-- what the clause 'except x as n' wishes -/
def wAsQ (K : PySem.W.Frag) (c : Value) (i : Nat) (ts : TS) (Wout : WX) (D : Ends) : WX := fun cls d σ H =>
  ∃ b, PySem.W.exmOne K cls c = some b ∧ (b = true → d = none ∧ ∀ a, H a = none → ts { nx := fun σ' H' => D.nx (σ'.set i none) H', rt := D.rt, bk := fun σ' H' => D.bk (σ'.set i none) H', ct := fun σ' H' => D.ct (σ'.set i none) H' } (σ.set i (some (.ref a))) (upd H a (exoV cls a))) ∧
    (b = false → Wout cls d σ H)
section
variable {X : Cx} {x n : Str} {c : Value} {i : Nat} {body suite : List Stmt} {b₀ : Stmt} {np pos pos' : Pos} {tb : WX → TS} {ts : TS} {Wout : WX}
theorem ps_try_asQ (hs : X.stack = X.env :: X.outer) (hf : X.env.frame = some X.env.locals) (hex : X.ex = []) (hN : X.N.Nodup) (hi : X.N[i]? = some n) (hln : X.env.kindOf n = some .local) (hc : Names X x c) (tk : Takes X Wout)
    (hb : ∀ (W : WX) (pn : List (Addr × Obj)) (xe : Value → Shared → Prop), Takes (X.tr pn xe) W → PassesOwn (model X.prog X.w) X.A X.env xe → PSs (X.tr pn xe) body (tb W))
    (hsu : ∀ (a : Addr) (pn : List (Addr × Obj)), PSs (suiteQ X a pn) (b₀ :: suite) ts) :
    PS X (.Try body [.ExceptHandler (some (.Name x np)) (some n) (b₀ :: suite) pos'] [] [] pos) (fun D σ H => tb (wAsQ X.K c i ts Wout D) D σ H) := by
  refine ⟨fun pins s σ H D I h => ?_⟩
  have ok := I.ok
  have hfr : X.A.frames = some (X.env :: X.outer) := by rw [ok.frames, hs]
  have hloc : Loc X.env.scope n := .inl hln
  refine wpAny_Try_except ?_
  refine wpAny_mono ((hb (wAsQ X.K c i ts Wout D) (X.pn ++ pins) (fun e s₁ => wpAny (model X.prog X.w) X.A (noteFrame e X.env) (fun _ s₂ => wpAny (model X.prog X.w) X.A (setFlight e none) (fun _ s₃ =>
    wpAny (model X.prog X.w) X.A (handleBy e X.env [.ExceptHandler (some (.Name x np)) (some n) (b₀ :: suite) pos']) (SP X pins D) X.xe s₃) X.xe s₂) X.xe s₁) (fun u s' xx => ?_) PassesOwn.looking).run [] s σ H D (I.toTry _) h) (fun f s1 hsp => ?_) (fun e s1 he => he)
  · -- the catch
    obtain ⟨a, B, sI, pins', σ', H', cls, d, rfl, J', nb, up, sky, na, os, ag, b, hb1, hyes, hno⟩ := xx
    have J : Inv X pins σ' H' sI := J'.ofTry ok
    have sky' : Sky B (X.env :: X.outer) a (Zc cls d) X.env.locals s'.heap := by rw [← hs]; exact sky
    show wpAny (model X.prog X.w) X.A (noteFrame (.ref a) X.env) _ _ _
    refine Sky.land Zc.steady hfr hf sky' fun h3 fl3 up3 => ?_
    have J3 : Inv X pins σ' H' { s' with heap := h3 } := J.landed nb fl3.1 (up.trans up3) os ag
    obtain ⟨oe3, vs3, he3, hz3, hd3⟩ := fl3.there
    have notFr : ∀ {h : Heap} {o : Obj} {vs : Array Value}, h.FunFrames B (X.env :: X.outer) → h.get? a = some o → o.data = .fields vs → a ∉ frs (X.env :: X.outer) := fun {h o vs} ff e dd hm => by
      obtain ⟨_, o', e', hnf⟩ := ff.mem hm
      rw [e] at e'; cases e'
      exact hnf _ dd
    have nfr := notFr fl3.2.2.1 he3 hd3
    have nL : a ≠ X.env.locals := fun z => nfr (List.mem_filterMap.mpr ⟨X.env, List.mem_cons_self, by rw [hf, z]⟩)
    have nF : a ∉ X.fs := fun hm => by
      obtain ⟨e, he, q⟩ := List.mem_filterMap.mp hm
      exact nfr (List.mem_filterMap.mpr ⟨e, List.mem_cons_of_mem _ he, q⟩)
    have nI : sI.heap.get? a = none := by
      cases q : sI.heap.get? a with
      | none => rfl
      | some o =>
        have z := nb a o q (by rw [hs]; exact nfr)
        rw [fl3.2.1] at z
        cases z
    have n0 : X.s_0.heap.get? a = none := by
      cases q : X.s_0.heap.get? a with
      | none => rfl
      | some o =>
        obtain ⟨o', z⟩ := J.base.there a o q (by rw [hex]; exact fun z => nomatch z)
        rw [nI] at z
        cases z
    have nP : ∀ p ∈ X.pn ++ pins, p.1 ≠ a := fun p hp z => by
      have q := (J.pin p hp).1
      rw [z, nI] at q
      cases q
    have S3 := J3.suite he3 hd3 na nL nF
    refine wpAny_handleBy_cons (codeAny_handlers_test ?_) (by intro q; cases q)
    have LT : PySem.W.Looks (model X.prog X.w) h3 (typeOf (.ref a)) cls := fun A Q E s k q => wpAny_typeOf_ref (k _ _ he3) (by rw [hz3.1]; exact q)
    have LM := PySem.W.exm_one (M := model X.prog X.w) (J3.kIn) LT hb1
    have test : ∀ {Q : Value → Shared → Prop} {E : Value → Shared → Prop}, Q c { s' with heap := h3 } → wpAny (model X.prog X.w) (X.A.mark (some (.ref a))) (eval (.Name x np) X.env) Q E { s' with heap := h3 } := fun {Q E} q => by
      obtain ⟨hg, hdbg, hm | ⟨hm, hv, hnn⟩⟩ := hc
      · exact ld_glob (X := X.suite a ((a, oe3) :: (X.pn ++ pins))) S3 hg hm q hdbg
      · exact ld_blt (X := X.suite a ((a, oe3) :: (X.pn ++ pins))) S3 hg hm hv q hnn hdbg
    refine test (LM.here ?_)
    cases b with
    | true =>
      refine codeAny_handlers_suite_as ?_
      refine HandSPX.lands_againZ fl3 fun h4 fl4 up4 => ?_
      have J4 : Inv X pins σ' H' { s' with heap := h4 } := J.landed nb fl4.1 ((up.trans up3).trans up4) os ag
      obtain ⟨oe4, vs4, he4, hz4, hd4⟩ := fl4.there
      obtain ⟨e0, hyes2⟩ := hyes rfl
      subst e0
      have nC : ∀ x c, X.env.cells.lookup x = some c → c ≠ a := fun x c e z => by
        obtain ⟨v, o, ho, hd⟩ := J4.cell x c e
        rw [z] at ho
        have ho : h4.get? a = some o := ho
        rw [he4] at ho
        cases ho
        rw [hd4] at hd
        cases hd
      have J5 : Inv X pins σ' (upd H' a (exoV cls a)) { s' with heap := h4 } := Mi.Inv.adopt J4 na n0 (exoV_ok he4 hz4 ⟨_, hd4⟩) nL nC nP
      have S4 := Mi.Inv.suiteQ J5 a
      refine store_ok (X := suiteQ X a (X.pn ++ pins)) (v := .ref a) S4 hN hi hloc rfl (fun s5 S5 => ?_) (.inr hln)
      refine wpAny_mono ((hsu a (X.pn ++ pins)).run [] s5 _ _ _ S5 (hyes2 a na)) (fun f s6 hsp => ?_) (fun _ _ z => False.elim z)
      have end_ : ∀ {σ6 : L2.St} {H6 : Hp} {Q : Shared → Prop}, Inv (suiteQ X a (X.pn ++ pins)) [] σ6 H6 s6 → (∀ s7, Inv X pins (σ6.set i none) H6 s7 → Q s7) →
          wpAny (model X.prog X.w) X.A (do bindName X.env n .none; unbindBehindTheSuite X.env n pos') (fun _ s7 => Q s7) X.xe s6 := fun {σ6 H6 Q} S6 hq => gone_ok (Mi.Inv.unsuiteQ S6 ok) hN hi hln hq
      cases f with
      | next =>
        obtain ⟨σ6, H6, S6, q6⟩ := hsp
        exact end_ S6 fun s7 J7 => ⟨_, _, J7, q6⟩
      | brk =>
        obtain ⟨σ6, H6, S6, q6⟩ := hsp
        exact end_ S6 fun s7 J7 => ⟨_, _, J7, q6⟩
      | cont =>
        obtain ⟨σ6, H6, S6, q6⟩ := hsp
        exact end_ S6 fun s7 J7 => ⟨_, _, J7, q6⟩
      | ret u =>
        obtain ⟨v6, σ6, H6, S6, r6, q6⟩ := hsp
        exact end_ S6 fun s7 J7 => ⟨_, _, _, J7, r6, q6⟩
    | false =>
      show wpAny _ X.A (handleBy (.ref a) X.env []) _ _ _
      refine wpAny_handleBy_nil ?_
      obtain ⟨k1, k2, k3, oe, vs, T, oT, ts', he, hz, hd, h1, hr⟩ := id fl3
      unfold PySem.passOn
      refine wpAny_bind (wpAny_field he hd h1 ?_)
      rw [if_neg (show ¬ ((Value.ref T == Value.none) = true) from by simp)]
      have fin : wpAny (model X.prog X.w) X.A (setFlight (.ref a) X.env.frame) (fun _ s4 => wpAny (model X.prog X.w) X.A (throw (.ref a) : Sem Flow) (SP X pins D) X.xe s4) X.xe { s' with heap := h3 } := by
        rw [hf]
        refine HandSPX.setFlight_upZ fl3 fun h4 hh4 up4 => wpAny_throw (tk _ _ ?_)
        exact ⟨a, B, sI, pins, σ', H', cls, d, rfl, J, nb, (up.trans up3).trans up4, .inr (.inr (by rw [hs]; exact hh4)), na, os, ag, hno rfl⟩
      first
        | exact wpAny_bind (wpAny_pure (wpAny_bind fin))
        | exact wpAny_bind fin
  · cases f with
    | next =>
      obtain ⟨σ', H', J', q⟩ := hsp
      exact wpAny_execs_nil ⟨σ', H', J'.ofTry ok, q⟩
    | brk =>
      obtain ⟨σ', H', J', q⟩ := hsp
      exact ⟨σ', H', J'.ofTry ok, q⟩
    | cont =>
      obtain ⟨σ', H', J', q⟩ := hsp
      exact ⟨σ', H', J'.ofTry ok, q⟩
    | ret u =>
      obtain ⟨v, σ', H', J', r, q⟩ := hsp
      exact ⟨v, σ', H', J'.ofTry ok, r, q⟩
end
/-- isinstance(e, c), e a caught exception -/
def rIsQ (K : PySem.W.Frag) : List V → Hp → VK → Prop := fun xs H Q => ∃ (a D : Addr) (c : V) (cv : Value) (b : Bool), xs = [.ref a, c] ∧ H a = some (exoV (.ref D) a) ∧ ExcC K D ∧ (∀ u, RelV c u → u = cv) ∧ PySem.W.kitOne K (.ref D) cv = some b ∧ Q (.bl b) H
theorem instQ {X : Cx} {pins : List (Addr × Obj)} {σ : L2.St} {H : Hp} {s : Shared} {a D : Addr} (I : Inv X pins σ H s) (h : H a = some (exoV (.ref D) a)) : ∃ oe, PySem.W.InstAt s.heap a oe D none := by
  obtain ⟨⟨oe, he, ⟨h1, h2⟩, vs, hv⟩, _⟩ := I.hok a _ h
  refine ⟨oe, ?_⟩
  obtain ⟨oc, od, oda, osl⟩ := oe
  dsimp only at h1 h2 hv
  subst h1 h2 hv
  exact ⟨he, rfl, rfl, trivial⟩
theorem call_isQ {X : Cx} : CallR X (.builtin "isinstance") (rIsQ X.K) := by
  intro pins s σ H xs us Q I r h
  obtain ⟨a, D, c, cv, b, rfl, hH, C, hcv, e, q⟩ := h
  cases r with
  | cons rx rr =>
    cases rr with
    | cons rt rr =>
      cases rr
      cases rx
      have ec := hcv _ rt
      subst ec
      obtain ⟨oe, J⟩ := instQ I hH
      exact PySem.W.kia_one (PySem.W.handS_kitx_exc C.hg C.hk C.hs C.hd C.ha C.hn C.ht C.hm) I.kIn J e (fun z => nomatch z) fun tk => ⟨.bl b, H, I.kept (t' := tk) fun _ _ z => z, rfl, q⟩

/-- isinstance(e, (c, ..)) -/
def rIsQT (K : PySem.W.Frag) : List V → Hp → VK → Prop := fun xs H Q => ∃ (a D tp : Addr) (cs : List V) (us : List Value) (b : Bool), xs = [.ref a, .ref tp] ∧ H a = some (exoV (.ref D) a) ∧ ExcC K D ∧ H tp = some (.tup cs) ∧ Paired ClsV cs us ∧ PySem.W.kitAny K (.ref D) us = some b ∧ Q (.bl b) H
theorem call_isQT {X : Cx} : CallR X (.builtin "isinstance") (rIsQT X.K) := by
  intro pins s σ H xs us Q I r h
  obtain ⟨a, D, tp, cs, ws, b, rfl, hH, C, hT, k, e, q⟩ := h
  cases r with
  | cons rx rr =>
    cases rr with
    | cons rt rr =>
      cases rr
      cases rx
      rename_i u2
      cases (show u2 = Value.ref tp from rt)
      obtain ⟨oe, J⟩ := instQ I hH
      obtain ⟨_, its, rv, o, h1, h2, n, h3⟩ := (show ObjOk X.prog X.w H s.heap tp (.tup cs) from I.hok tp _ hT)
      have e3 := ClsV.all k rv
      subst e3
      obtain ⟨oc, od, dt, sl⟩ := o
      simp only at h2 h3
      subst h2 h3
      exact PySem.W.kia_tup (PySem.W.handS_kitx_exc C.hg C.hk C.hs C.hd C.ha C.hn C.ht C.hm) I.kIn J h1 e (fun z => nomatch z) fun tk => ⟨.bl b, H, I.kept (t' := tk) fun _ _ z => z, rfl, q⟩
end Mi

namespace Mi
open PySem PySem.Spec PyProof.Rows L2

/-- pure data -/
inductive D where
  | non | bl (b : Bool) | int (i : Int) | str (s : Str) | tup (xs : List D) | lst (xs : List D)
  | dic (kvs : List (Key × D)) | cst (x : Str) | scr (xs : List D) | exo (c : Str)

/-- what a slot holds, what an expression gives: frozen data; a list of one's own; a caller's list handed in to be changed -/
inductive Sl where
  | fz (d : D) | ow (xs : List D) | io (xs : List D)

abbrev Env := List (Option Sl)

mutual
def Fz (K : PySem.W.Frag) (F : Hp) : D → V → Prop
  | .non, v => v = .non
  | .bl b, v => v = .bl b
  | .int i, v => v = .int i
  | .str s, v => v = .str s
  | .tup ds, v => ∃ a vs, v = .ref a ∧ SqT K F a vs ∧ FzL K F ds vs
  | .lst ds, v => ∃ a vs, v = .ref a ∧ F a = some (.lst vs) ∧ FzL K F ds vs
  | .scr ds, v => ∃ a vs, v = .ref a ∧ SqL K F a vs ∧ FzL K F ds vs
  | .dic kvs, v => ∃ a ws, v = .ref a ∧ F a = some (.dK ws) ∧ FzK K F kvs ws
  | .cst x, v => v = .ref (He.ga K x)
  | .exo c, v => ∃ a, v = .ref a ∧ F a = some (exoV (.ref (He.ga K c)) a)
def FzL (K : PySem.W.Frag) (F : Hp) : List D → List V → Prop
  | [], vs => vs = []
  | d :: ds, vs => ∃ v ws, vs = v :: ws ∧ Fz K F d v ∧ FzL K F ds ws
def FzK (K : PySem.W.Frag) (F : Hp) : List (Key × D) → List (Key × V) → Prop
  | [], ws => ws = []
  | (k, d) :: r, ws => ∃ v w2, ws = (k, v) :: w2 ∧ Fz K F d v ∧ FzK K F r w2
end

theorem same_seqT {K : PySem.W.Frag} {H H' : Hp} {a : Addr} {xs : List V} (e : Same H H') (h : SqT K H a xs) : SqT K H' a xs := by
  rcases h with (h | ⟨o, h⟩) | h
  · exact .inl (.inl (e _ _ h))
  · exact .inl (.inr ⟨o, e _ _ h⟩)
  · exact .inr h

section
variable {K : PySem.W.Frag} {F F' : Hp}
mutual
theorem Fz.mono (h : Same F F') : ∀ {d : D} {v : V}, Fz K F d v → Fz K F' d v
  | .non, _, q => q
  | .bl _, _, q => q
  | .int _, _, q => q
  | .str _, _, q => q
  | .tup _, _, ⟨a, vs, e, s, q⟩ => ⟨a, vs, e, same_seqT h s, FzL.mono h q⟩
  | .lst _, _, ⟨a, vs, e, s, q⟩ => ⟨a, vs, e, h _ _ s, FzL.mono h q⟩
  | .scr _, _, ⟨a, vs, e, s, q⟩ => ⟨a, vs, e, h.seq s, FzL.mono h q⟩
  | .dic _, _, ⟨a, ws, e, s, q⟩ => ⟨a, ws, e, h _ _ s, FzK.mono h q⟩
  | .cst _, _, q => q
  | .exo _, _, ⟨a, e, s⟩ => ⟨a, e, h _ _ s⟩
theorem FzL.mono (h : Same F F') : ∀ {ds : List D} {vs : List V}, FzL K F ds vs → FzL K F' ds vs
  | [], _, q => q
  | _ :: _, _, ⟨v, ws, e, q, r⟩ => ⟨v, ws, e, Fz.mono h q, FzL.mono h r⟩
theorem FzK.mono (h : Same F F') : ∀ {ds : List (Key × D)} {vs : List (Key × V)}, FzK K F ds vs → FzK K F' ds vs
  | [], _, q => q
  | (_, _) :: _, _, ⟨v, ws, e, q, r⟩ => ⟨v, ws, e, Fz.mono h q, FzK.mono h r⟩
end

theorem FzL.length : ∀ {ds : List D} {vs : List V}, FzL K F ds vs → ds.length = vs.length
  | [], _, q => by
    have q : _ = [] := q
    rw [q]
    rfl
  | d :: ds, _, ⟨v, ws, e, _, r⟩ => by rw [e, List.length_cons, List.length_cons, FzL.length r]
theorem FzL.get : ∀ {ds : List D} {vs : List V} {i : Nat} {d : D}, FzL K F ds vs → ds[i]? = some d → ∃ v, vs[i]? = some v ∧ Fz K F d v
  | [], _, _, _, _, e => by simp at e
  | d :: ds, _, 0, _, ⟨v, ws, e, q, _⟩, h => by
    simp at h
    subst h
    exact ⟨v, by rw [e]; rfl, q⟩
  | d :: ds, _, i + 1, x, ⟨v, ws, e, _, r⟩, h => by
    obtain ⟨u, h1, h2⟩ := FzL.get (i := i) (d := x) r (by simpa using h)
    exact ⟨u, by rw [e]; simpa using h1, h2⟩
theorem FzL.back : ∀ {ds : List D} {vs : List V} {i : Nat} {v : V}, FzL K F ds vs → vs[i]? = some v → ∃ d, ds[i]? = some d ∧ Fz K F d v
  | [], _, _, _, q, e => by
    have q : _ = [] := q
    rw [q] at e
    simp at e
  | d :: ds, _, 0, _, ⟨v, ws, e, q, _⟩, h => by
    rw [e] at h
    simp at h
    subst h
    exact ⟨d, rfl, q⟩
  | d :: ds, _, i + 1, x, ⟨v, ws, e, _, r⟩, h => by
    rw [e] at h
    obtain ⟨u, h1, h2⟩ := FzL.back (i := i) (v := x) r (by simpa using h)
    exact ⟨u, by simpa using h1, h2⟩
theorem FzL.mk : ∀ {ds : List D} {vs : List V}, ds.length = vs.length → (∀ (i : Nat) (d : D) (v : V), ds[i]? = some d → vs[i]? = some v → Fz K F d v) → FzL K F ds vs
  | [], [], _, _ => rfl
  | [], _ :: _, e, _ => by simp at e
  | _ :: _, [], e, _ => by simp at e
  | d :: ds, v :: vs, e, h => ⟨v, vs, rfl, h 0 d v rfl rfl, FzL.mk (by simpa using e) fun i d' v' h1 h2 => h (i + 1) d' v' (by simpa using h1) (by simpa using h2)⟩
theorem FzL.at {ds : List D} {vs : List V} {i : Nat} {d : D} {v : V} (q : FzL K F ds vs) (h1 : ds[i]? = some d) (h2 : vs[i]? = some v) : Fz K F d v := by
  obtain ⟨u, e, z⟩ := q.get h1
  rw [h2] at e
  cases e
  exact z
theorem FzL.nil : FzL K F [] [] := rfl
theorem FzL.cons {d : D} {v : V} {ds : List D} {vs : List V} (q : Fz K F d v) (r : FzL K F ds vs) : FzL K F (d :: ds) (v :: vs) := ⟨v, vs, rfl, q, r⟩
theorem FzL.append : ∀ {ds es : List D} {vs us : List V}, FzL K F ds vs → FzL K F es us → FzL K F (ds ++ es) (vs ++ us)
  | [], _, _, _, q, s => by
    have q : _ = [] := q
    rw [q]
    exact s
  | _ :: _, _, _, _, ⟨v, ws, e, q, r⟩, s => by
    rw [e]
    exact ⟨v, _, rfl, q, FzL.append r s⟩
theorem FzL.take {ds : List D} {vs : List V} (n : Nat) (q : FzL K F ds vs) : FzL K F (ds.take n) (vs.take n) := by
  refine FzL.mk (by simp [q.length]) fun i d v h1 h2 => ?_
  rw [List.getElem?_take] at h1 h2
  split at h1
  · rename_i hi
    rw [if_pos hi] at h2
    exact q.at h1 h2
  · cases h1
theorem FzL.drop {ds : List D} {vs : List V} (n : Nat) (q : FzL K F ds vs) : FzL K F (ds.drop n) (vs.drop n) := by
  refine FzL.mk (by simp [q.length]) fun i d v h1 h2 => ?_
  rw [List.getElem?_drop] at h1 h2
  exact q.at h1 h2
theorem FzL.reverse {ds : List D} {vs : List V} (q : FzL K F ds vs) : FzL K F ds.reverse vs.reverse := by
  refine FzL.mk (by simp [q.length]) fun i d v h1 h2 => ?_
  have hl := q.length
  have hi : i < ds.length := by
    have := (List.getElem?_eq_some_iff.mp h1).1
    simpa using this
  rw [List.getElem?_reverse hi] at h1
  rw [List.getElem?_reverse (by omega)] at h2
  rw [← hl] at h2
  exact q.at h1 h2
theorem FzL.set {ds : List D} {vs : List V} {d : D} {v : V} (n : Nat) (q : FzL K F ds vs) (r : Fz K F d v) : FzL K F (ds.set n d) (vs.set n v) := by
  refine FzL.mk (by simp [q.length]) fun i d' v' h1 h2 => ?_
  rw [List.getElem?_set] at h1 h2
  split at h1
  · rename_i hn
    subst hn
    rw [if_pos rfl] at h2
    split at h1
    · cases h1
      split at h2
      · cases h2
        exact r
      · cases h2
    · cases h1
  · rename_i hn
    rw [if_neg hn] at h2
    exact q.at h1 h2
theorem FzL.eraseIdx : ∀ {ds : List D} {vs : List V} (n : Nat), FzL K F ds vs → FzL K F (ds.eraseIdx n) (vs.eraseIdx n)
  | [], _, n, q => by
    have q : _ = [] := q
    rw [q]
    exact rfl
  | _ :: _, _, 0, ⟨v, ws, e, _, r⟩ => by
    rw [e]
    exact r
  | _ :: _, _, n + 1, ⟨v, ws, e, q, r⟩ => by
    rw [e]
    exact ⟨v, _, rfl, q, FzL.eraseIdx n r⟩
theorem FzL.dropLast {ds : List D} {vs : List V} (q : FzL K F ds vs) : FzL K F ds.dropLast vs.dropLast := by
  rw [List.dropLast_eq_take, List.dropLast_eq_take, q.length]
  exact q.take _
theorem FzL.isEmpty {ds : List D} {vs : List V} (q : FzL K F ds vs) : ds.isEmpty = vs.isEmpty := by
  have h := q.length
  cases ds with
  | nil => cases vs with
    | nil => rfl
    | cons _ _ => simp at h
  | cons _ _ => cases vs with
    | nil => simp at h
    | cons _ _ => rfl
end

/-! ### the state of a def's activation -/
def Own (ρ : Env) (i : Nat) (xs : List D) : Prop := ρ[i]? = some (some (.ow xs)) ∨ ρ[i]? = some (some (.io xs))
/-- io: where the lists lie that were handed in to be changed; P: what must stay as it is (never frozen); F: what is frozen for ever -/
structure St (K : PySem.W.Frag) (io : Nat → Option Addr) (P F : Hp) (ρ : Env) (σ : L2.St) (H : Hp) : Prop where
  fh : Same F H
  ph : Same P H
  pf : ∀ a o, P a = some o → F a = none
  len : ρ.length = σ.length
  fz : ∀ (i : Nat) (d : D), ρ[i]? = some (some (.fz d)) → ∃ v, σ[i]? = some (some v) ∧ Fz K F d v
  ow : ∀ (i : Nat) (xs : List D), Own ρ i xs → ∃ a vs, σ[i]? = some (some (.ref a)) ∧ H a = some (.lst vs) ∧ FzL K F xs vs ∧ F a = none ∧ P a = none
  ia : ∀ (i : Nat) (xs : List D) (a : Addr), ρ[i]? = some (some (.io xs)) → σ[i]? = some (some (.ref a)) → io i = some a
  ds : ∀ (i j : Nat) (xs ys : List D) (a : Addr), Own ρ i xs → Own ρ j ys → σ[i]? = some (some (.ref a)) → σ[j]? = some (some (.ref a)) → i = j
/-- an expression's value -/
def Rel (K : PySem.W.Frag) (P F : Hp) (ρ : Env) (σ : L2.St) (H : Hp) (v : V) : Sl → Prop
  | .fz d => Fz K F d v
  | .ow xs => ∃ a vs, v = .ref a ∧ H a = some (.lst vs) ∧ FzL K F xs vs ∧ F a = none ∧ P a = none ∧ ∀ i ys, Own ρ i ys → σ[i]? ≠ some (some (.ref a))
  | .io _ => False
/-- the heap has grown: new things were laid, some of them frozen -/
structure Ext (F H F' H' : Hp) : Prop where
  h : Same H H'
  f : Same F F'
  fh : Same F' H'
  new : ∀ a o, F' a = some o → F a = some o ∨ H a = none
section
variable {K : PySem.W.Frag} {io : Nat → Option Addr} {P F F' : Hp} {ρ : Env} {σ : L2.St} {H H' : Hp}
theorem Ext.refl (h : Same F H) : Ext F H F H := ⟨Same.refl _, Same.refl _, h, fun _ _ e => .inl e⟩
theorem Ext.trans {F1 H1 F2 H2 : Hp} (a : Ext F H F1 H1) (b : Ext F1 H1 F2 H2) : Ext F H F2 H2 := ⟨a.h.trans b.h, a.f.trans b.f, b.fh, fun c o e => by
  rcases b.new c o e with q | q
  · exact a.new c o q
  · exact .inr (a.h.free q)⟩
theorem St.ext (S : St K io P F ρ σ H) (e : Ext F H F' H') : St K io P F' ρ σ H' where
  fh := e.fh
  ph := S.ph.trans e.h
  pf := fun a o q => by
    cases z : F' a with
    | none => rfl
    | some u =>
      rcases e.new a u z with y | y
      · rw [S.pf a o q] at y; cases y
      · rw [S.ph a o q] at y; cases y
  len := S.len
  fz := fun i d q => let ⟨v, h1, h2⟩ := S.fz i d q; ⟨v, h1, h2.mono e.f⟩
  ow := fun i xs q => by
    obtain ⟨a, vs, h1, h2, h3, h4, h5⟩ := S.ow i xs q
    refine ⟨a, vs, h1, e.h _ _ h2, h3.mono e.f, ?_, h5⟩
    cases z : F' a with
    | none => rfl
    | some u =>
      rcases e.new a u z with y | y
      · rw [h4] at y; cases y
      · rw [h2] at y; cases y
  ia := S.ia
  ds := S.ds
/-- a new object, not frozen -/
theorem Ext.laid {p : Addr} {o : HO} (h : Same F H) (n : H p = none) : Ext F H F (upd H p o) where
  h := fun b x e => by rw [upd_ne (ne_of_none e n)]; exact e
  f := Same.refl _
  fh := fun b x e => by rw [upd_ne (ne_of_none (h _ _ e) n)]; exact h _ _ e
  new := fun _ _ e => .inl e
/-- a new object, frozen -/
theorem Ext.froz {p : Addr} {o : HO} (h : Same F H) (n : H p = none) : Ext F H (upd F p o) (upd H p o) where
  h := fun b x e => by rw [upd_ne (ne_of_none e n)]; exact e
  f := fun b x e => by rw [upd_ne (ne_of_none (h _ _ e) n)]; exact e
  fh := fun b x e => by
    by_cases hb : b = p
    · subst hb; rw [upd_same] at e ⊢; exact e
    · rw [upd_ne hb] at e ⊢; exact h _ _ e
  new := fun b x e => by
    by_cases hb : b = p
    · subst hb; exact .inr n
    · rw [upd_ne hb] at e; exact .inl e
/-- a list of one's own is frozen -/
theorem St.freeze {a : Addr} {o : HO} (S : St K io P F ρ σ H) (ha : H a = some o) (fa : F a = none) (pa : P a = none) (no : ∀ i ys, Own ρ i ys → σ[i]? ≠ some (some (.ref a))) : St K io P (upd F a o) ρ σ H ∧ Same F (upd F a o) := by
  have sm : Same F (upd F a o) := fun b x e => by rw [upd_ne (ne_of_none e fa)]; exact e
  refine ⟨⟨fun b x e => ?_, S.ph, fun b x e => ?_, S.len, fun i d q => ?_, fun i xs q => ?_, S.ia, S.ds⟩, sm⟩
  · by_cases hb : b = a
    · subst hb; rw [upd_same] at e; cases e; exact ha
    · rw [upd_ne hb] at e; exact S.fh _ _ e
  · have hb : b ≠ a := ne_of_none e pa
    rw [upd_ne hb]
    exact S.pf b x e
  · obtain ⟨v, h1, h2⟩ := S.fz i d q
    exact ⟨v, h1, h2.mono sm⟩
  · obtain ⟨b, vs, h1, h2, h3, h4, h5⟩ := S.ow i xs q
    refine ⟨b, vs, h1, h2, h3.mono sm, ?_, h5⟩
    have hb : b ≠ a := fun e => by
      subst e
      exact no i xs q h1
    rw [upd_ne hb]
    exact h4
def Sl.d : Sl → D
  | .fz d => d
  | .ow xs => .lst xs
  | .io xs => .lst xs
/-- any value frozen -/
theorem St.cool {v : V} {r : Sl} (S : St K io P F ρ σ H) (h : Rel K P F ρ σ H v r) : ∃ F', Same F F' ∧ St K io P F' ρ σ H ∧ Fz K F' r.d v := by
  cases r with
  | fz d => exact ⟨F, Same.refl _, S, h⟩
  | io xs => exact h.elim
  | ow xs =>
    obtain ⟨a, vs, rfl, h1, h2, h3, h4, h5⟩ := h
    obtain ⟨S', sm⟩ := S.freeze h1 h3 h4 h5
    exact ⟨_, sm, S', a, vs, rfl, upd_same, h2.mono sm⟩
theorem set_self {α : Type} {l : List α} {i : Nat} {x : α} (h : i < l.length) : (l.set i x)[i]? = some x := by
  rw [List.getElem?_set_self h]
theorem set_other {α : Type} {l : List α} {i j : Nat} {x : α} (h : i ≠ j) : (l.set i x)[j]? = l[j]? := by
  rw [List.getElem?_set_ne h]
/-- a slot takes a value -/
theorem St.store {v : V} {r : Sl} {i : Nat} (S : St K io P F ρ σ H) (h : Rel K P F ρ σ H v r) : St K io P F (ρ.set i (some r)) (σ.set i (some v)) H := by
  by_cases hi : i < ρ.length
  · have hi' : i < σ.length := by rw [← S.len]; exact hi
    have other : ∀ {j : Nat} {xs : List D}, j ≠ i → Own (ρ.set i (some r)) j xs → Own ρ j xs := fun {j xs} hj q => by
      rcases q with q | q
      · rw [set_other (Ne.symm hj)] at q; exact .inl q
      · rw [set_other (Ne.symm hj)] at q; exact .inr q
    have self : ∀ {xs : List D}, Own (ρ.set i (some r)) i xs → r = .ow xs := fun {xs} q => by
      rcases q with q | q
      · rw [set_self hi] at q; cases q; rfl
      · rw [set_self hi] at q; cases q; exact h.elim
    refine ⟨S.fh, S.ph, S.pf, by simp [S.len], fun j d q => ?_, fun j xs q => ?_, fun j xs a q1 q2 => ?_, fun j k xs ys a q1 q2 e1 e2 => ?_⟩
    · by_cases hj : j = i
      · subst hj
        rw [set_self hi] at q
        cases q
        exact ⟨v, set_self hi', h⟩
      · rw [set_other (Ne.symm hj)] at q ⊢
        exact S.fz j d q
    · by_cases hj : j = i
      · subst hj
        have e := self q
        subst e
        obtain ⟨a, vs, rfl, h1, h2, h3, h4, _⟩ := h
        exact ⟨a, vs, set_self hi', h1, h2, h3, h4⟩
      · rw [set_other (Ne.symm hj)]
        exact S.ow j xs (other hj q)
    · by_cases hj : j = i
      · subst hj
        have e := self (.inr q1)
        rw [set_self hi] at q1
        cases q1
        cases e
      · rw [set_other (Ne.symm hj)] at q1 q2
        exact S.ia j xs a q1 q2
    · by_cases hj : j = i
      · by_cases hk : k = i
        · rw [hj, hk]
        · subst hj
          have e := self q1
          subst e
          obtain ⟨b, vs, rfl, _, _, _, _, h5⟩ := h
          rw [set_self hi'] at e1
          cases e1
          rw [set_other (Ne.symm hk)] at e2
          exact absurd e2 (h5 k ys (other hk q2))
      · by_cases hk : k = i
        · subst hk
          have e := self q2
          subst e
          obtain ⟨b, vs, rfl, _, _, _, _, h5⟩ := h
          rw [set_self hi'] at e2
          cases e2
          rw [set_other (Ne.symm hj)] at e1
          exact absurd e1 (h5 j xs (other hj q1))
        · rw [set_other (Ne.symm hj)] at e1
          rw [set_other (Ne.symm hk)] at e2
          exact S.ds j k xs ys a (other hj q1) (other hk q2) e1 e2
  · have hi' : ¬ i < σ.length := by rw [← S.len]; exact hi
    rw [List.set_eq_of_length_le (by omega), List.set_eq_of_length_le (by omega)]
    exact S
end
end Mi

namespace Mi
open PySem PySem.Spec PyProof.Rows L2

inductive R (α : Type) where
  | ok (a : α) (ρ : Env) | ex (c : Str) (ρ : Env) | no
abbrev Ex := Env → R Sl
abbrev Te := Env → R Bool
abbrev As := Env → R (List Sl)
def excV (K : PySem.W.Frag) (c : Str) : Value := .ref (He.ga K c)

/-! ### judgements -/
def tJ (K : PySem.W.Frag) (W : WX) (io : Nat → Option Addr) (m : Ex) : TE := fun σ H Q => ∃ P F ρ, St K io P F ρ σ H ∧ match m ρ with
  | .ok r ρ' => ∀ v H' F', Same F F' → St K io P F' ρ' σ H' → Rel K P F' ρ' σ H' v r → Q v H'
  | .ex c ρ' => ∀ H' F', Same F F' → St K io P F' ρ' σ H' → W (excV K c) none σ H'
  | .no => False
def tJT (K : PySem.W.Frag) (W : WX) (io : Nat → Option Addr) (m : Te) : TT := fun σ H Q => ∃ P F ρ, St K io P F ρ σ H ∧ match m ρ with
  | .ok b ρ' => ∀ H' F', Same F F' → St K io P F' ρ' σ H' → Q b H'
  | .ex c ρ' => ∀ H' F', Same F F' → St K io P F' ρ' σ H' → W (excV K c) none σ H'
  | .no => False
structure JE (X : Cx) (W : WX) (io : Nat → Option Addr) (e : Expr) (m : Ex) : Prop where
  pe : PE X e (tJ X.K W io m)
structure JT (X : Cx) (W : WX) (io : Nat → Option Addr) (e : Expr) (m : Te) : Prop where
  pt : PT X e (tJT X.K W io m)
theorem pei {X : Cx} {e : Expr} {t t' : TE} (h : PE X e t) (f : ∀ σ H Q, t' σ H Q → t σ H Q) : PE X e t' := ⟨fun pins s σ H Q I q => h.run pins s σ H Q I (f σ H Q q)⟩
theorem pti {X : Cx} {e : Expr} {t t' : TT} (h : PT X e t) (f : ∀ σ H Q, t' σ H Q → t σ H Q) : PT X e t' := ⟨fun pins s σ H Q I q => h.run pins s σ H Q I (f σ H Q q)⟩

/-- what a part leads to, in its own frozen part F -/
def ToE (K : PySem.W.Frag) (W : WX) (io : Nat → Option Addr) (P F : Hp) (σ : L2.St) (Q : VK) (r : R Sl) : Prop := match r with
  | .ok r ρ' => ∀ v H' F', Same F F' → St K io P F' ρ' σ H' → Rel K P F' ρ' σ H' v r → Q v H'
  | .ex c ρ' => ∀ H' F', Same F F' → St K io P F' ρ' σ H' → W (excV K c) none σ H'
  | .no => False
def ToT (K : PySem.W.Frag) (W : WX) (io : Nat → Option Addr) (P F : Hp) (σ : L2.St) (Q : Bool → Hp → Prop) (r : R Bool) : Prop := match r with
  | .ok b ρ' => ∀ H' F', Same F F' → St K io P F' ρ' σ H' → Q b H'
  | .ex c ρ' => ∀ H' F', Same F F' → St K io P F' ρ' σ H' → W (excV K c) none σ H'
  | .no => False
section
variable {K : PySem.W.Frag} {W : WX} {io : Nat → Option Addr} {P F F' : Hp} {σ : L2.St} {Q : VK} {H : Hp} {ρ : Env}
theorem tJ_of {m : Ex} (S : St K io P F ρ σ H) (h : ToE K W io P F σ Q (m ρ)) : tJ K W io m σ H Q := ⟨P, F, ρ, S, h⟩
theorem ToE.up {r : R Sl} (e : Same F F') (h : ToE K W io P F σ Q r) : ToE K W io P F' σ Q r := by
  cases r with
  | ok r ρ' => exact fun v H' F2 s => h v H' F2 (e.trans s)
  | ex c ρ' => exact fun H' F2 s => h H' F2 (e.trans s)
  | no => exact h
theorem ToT.up {Q : Bool → Hp → Prop} {r : R Bool} (e : Same F F') (h : ToT K W io P F σ Q r) : ToT K W io P F' σ Q r := by
  cases r with
  | ok r ρ' => exact fun H' F2 s => h H' F2 (e.trans s)
  | ex c ρ' => exact fun H' F2 s => h H' F2 (e.trans s)
  | no => exact h
/-- behind a part -/
def R.bind {α β : Type} (r : R α) (f : α → Env → R β) : R β := match r with
  | .ok a ρ => f a ρ
  | .ex c ρ => .ex c ρ
  | .no => .no
theorem tJ_bind {m : Ex} {f : Sl → Env → R Sl} {Q' : VK} (S : St K io P F ρ σ H) (h : ToE K W io P F σ Q ((m ρ).bind f))
    (k : ∀ r ρ1 v H1 F1, Same F F1 → St K io P F1 ρ1 σ H1 → Rel K P F1 ρ1 σ H1 v r → ToE K W io P F1 σ Q (f r ρ1) → Q' v H1) : tJ K W io m σ H Q' := by
  refine ⟨P, F, ρ, S, ?_⟩
  cases e : m ρ with
  | ok r ρ1 =>
    rw [e] at h
    exact fun v H1 F1 s S1 R1 => k r ρ1 v H1 F1 s S1 R1 (h.up s)
  | ex c ρ1 =>
    rw [e] at h
    exact h
  | no =>
    rw [e] at h
    exact h
theorem tJ_bindT {m : Ex} {f : Sl → Env → R Bool} {Q : Bool → Hp → Prop} {Q' : VK} (S : St K io P F ρ σ H) (h : ToT K W io P F σ Q ((m ρ).bind f))
    (k : ∀ r ρ1 v H1 F1, Same F F1 → St K io P F1 ρ1 σ H1 → Rel K P F1 ρ1 σ H1 v r → ToT K W io P F1 σ Q (f r ρ1) → Q' v H1) : tJ K W io m σ H Q' := by
  refine ⟨P, F, ρ, S, ?_⟩
  cases e : m ρ with
  | ok r ρ1 =>
    rw [e] at h
    exact fun v H1 F1 s S1 R1 => k r ρ1 v H1 F1 s S1 R1 (h.up s)
  | ex c ρ1 =>
    rw [e] at h
    exact h
  | no =>
    rw [e] at h
    exact h
theorem tJT_bind {m : Te} {f : Bool → Env → R Sl} {Q' : Bool → Hp → Prop} (S : St K io P F ρ σ H) (h : ToE K W io P F σ Q ((m ρ).bind f))
    (k : ∀ b ρ1 H1 F1, Same F F1 → St K io P F1 ρ1 σ H1 → ToE K W io P F1 σ Q (f b ρ1) → Q' b H1) : tJT K W io m σ H Q' := by
  refine ⟨P, F, ρ, S, ?_⟩
  cases e : m ρ with
  | ok r ρ1 =>
    rw [e] at h
    exact fun H1 F1 s S1 => k r ρ1 H1 F1 s S1 (h.up s)
  | ex c ρ1 =>
    rw [e] at h
    exact h
  | no =>
    rw [e] at h
    exact h
theorem tJT_bindT {m : Te} {f : Bool → Env → R Bool} {Q Q' : Bool → Hp → Prop} (S : St K io P F ρ σ H) (h : ToT K W io P F σ Q ((m ρ).bind f))
    (k : ∀ b ρ1 H1 F1, Same F F1 → St K io P F1 ρ1 σ H1 → ToT K W io P F1 σ Q (f b ρ1) → Q' b H1) : tJT K W io m σ H Q' := by
  refine ⟨P, F, ρ, S, ?_⟩
  cases e : m ρ with
  | ok r ρ1 =>
    rw [e] at h
    exact fun H1 F1 s S1 => k r ρ1 H1 F1 s S1 (h.up s)
  | ex c ρ1 =>
    rw [e] at h
    exact h
  | no =>
    rw [e] at h
    exact h
end

/-! ### operations by values -/
/-- a value just made -/
def RelT (K : PySem.W.Frag) (H F' H' : Hp) (v : V) : Sl → Prop
  | .fz d => Fz K F' d v
  | .ow xs => ∃ a vs, v = .ref a ∧ H' a = some (.lst vs) ∧ FzL K F' xs vs ∧ F' a = none ∧ H a = none
  | .io _ => False
/-- what is wanted of an operation's value -/
def Want (K : PySem.W.Frag) (F H : Hp) (z : Sl) (Q : VK) : Prop := ∀ v H' F', Ext F H F' H' → RelT K H F' H' v z → Q v H'
section
variable {K : PySem.W.Frag} {W : WX} {io : Nat → Option Addr} {P F : Hp} {σ : L2.St} {Q : VK} {H : Hp} {ρ : Env}
theorem RelT.rel {F' H' : Hp} {v : V} {z : Sl} (S : St K io P F ρ σ H) (e : Ext F H F' H') (h : RelT K H F' H' v z) : Rel K P F' ρ σ H' v z := by
  cases z with
  | fz d => exact h
  | io xs => exact h.elim
  | ow xs =>
    obtain ⟨a, vs, rfl, h1, h2, h3, h4⟩ := h
    refine ⟨a, vs, rfl, h1, h2, h3, ?_, fun i ys q z => ?_⟩
    · cases q : P a with
      | none => rfl
      | some o => rw [S.ph a o q] at h4; cases h4
    · obtain ⟨b, us, e1, e2, _⟩ := S.ow i ys q
      rw [e1] at z
      cases z
      rw [e2] at h4
      cases h4
theorem ToE.want {z : Sl} (S : St K io P F ρ σ H) (h : ToE K W io P F σ Q (.ok z ρ)) : Want K F H z Q := fun v H' F' e r => h v H' F' e.f (S.ext e) (r.rel S e)
theorem Want.fz {d : D} {v : V} (h : Want K F H (.fz d) Q) (e : Same F H) (q : Fz K F d v) : Q v H := h v H F (Ext.refl e) q
theorem Want.tup {ds : List D} {vs : List V} {p : Addr} (h : Want K F H (.fz (.tup ds)) Q) (e : Same F H) (n : H p = none) (q : FzL K F ds vs) : Q (.ref p) (upd H p (.tup vs)) :=
  h _ _ _ (Ext.froz e n) ⟨p, vs, rfl, .inl (.inl upd_same), q.mono (Ext.froz (o := .tup vs) e n).f⟩
theorem Want.lst {ds : List D} {vs : List V} {p : Addr} (h : Want K F H (.ow ds) Q) (e : Same F H) (n : H p = none) (q : FzL K F ds vs) : Q (.ref p) (upd H p (.lst vs)) :=
  h _ _ _ (Ext.laid e n) ⟨p, vs, rfl, upd_same, q, e.free n, n⟩
end
/-- data to be read now: frozen, or a list of one's own as it stands -/
def Pk (K : PySem.W.Frag) (F H : Hp) (d : D) (v : V) : Prop := Fz K F d v ∨ ∃ xs a vs, d = .lst xs ∧ v = .ref a ∧ H a = some (.lst vs) ∧ FzL K F xs vs
section
variable {K : PySem.W.Frag} {F H : Hp} {v : V}
theorem Pk.int {i : Int} (h : Pk K F H (.int i) v) : v = .int i := by
  rcases h with h | ⟨_, _, _, h, _⟩
  · exact h
  · cases h
theorem Pk.bl {i : Bool} (h : Pk K F H (.bl i) v) : v = .bl i := by
  rcases h with h | ⟨_, _, _, h, _⟩
  · exact h
  · cases h
theorem Pk.str {i : Str} (h : Pk K F H (.str i) v) : v = .str i := by
  rcases h with h | ⟨_, _, _, h, _⟩
  · exact h
  · cases h
theorem Pk.non (h : Pk K F H .non v) : v = .non := by
  rcases h with h | ⟨_, _, _, h, _⟩
  · exact h
  · cases h
theorem Pk.tup {xs : List D} (h : Pk K F H (.tup xs) v) : ∃ a vs, v = .ref a ∧ SqT K F a vs ∧ FzL K F xs vs := by
  rcases h with h | ⟨_, _, _, h, _⟩
  · exact h
  · cases h
theorem Pk.scr {xs : List D} (h : Pk K F H (.scr xs) v) : ∃ a vs, v = .ref a ∧ SqL K F a vs ∧ FzL K F xs vs := by
  rcases h with h | ⟨_, _, _, h, _⟩
  · exact h
  · cases h
theorem Pk.lst {xs : List D} (e : Same F H) (h : Pk K F H (.lst xs) v) : ∃ a vs, v = .ref a ∧ H a = some (.lst vs) ∧ FzL K F xs vs := by
  rcases h with h | ⟨_, a, vs, h, h1, h2, h3⟩
  · obtain ⟨a, vs, h1, h2, h3⟩ := h
    exact ⟨a, vs, h1, e _ _ h2, h3⟩
  · cases h
    exact ⟨a, vs, h1, h2, h3⟩
theorem Pk.dic {xs : List (Key × D)} (h : Pk K F H (.dic xs) v) : ∃ a ws, v = .ref a ∧ F a = some (.dK ws) ∧ FzK K F xs ws := by
  rcases h with h | ⟨_, _, _, h, _⟩
  · exact h
  · cases h
theorem Pk.cst {x : Str} (h : Pk K F H (.cst x) v) : v = .ref (He.ga K x) := by
  rcases h with h | ⟨_, _, _, h, _⟩
  · exact h
  · cases h
end
/-- an operand: an expression; a name whose list is read where it stands -/
inductive Opd where
  | e (m : Ex) | v (i : Nat)
inductive Pd where
  | d (d : D) | i (i : Nat)
def Opd.run : Opd → Env → R Pd
  | .e m, ρ => (m ρ).bind fun x ρ1 => .ok (.d x.d) ρ1
  | .v i, ρ => .ok (.i i) ρ
def Pd.get (ρ : Env) : Pd → Option D
  | .d x => some x
  | .i k => match ρ[k]? with
    | some (some s) => some s.d
    | _ => none
structure IsV (X : Cx) (i : Nat) (e : Expr) : Prop where
  pe : PE X e (tVar i)
def JO (X : Cx) (W : WX) (io : Nat → Option Addr) (e : Expr) : Opd → Prop
  | .e m => JE X W io e m
  | .v i => IsV X i e
theorem jo_e {X : Cx} {W : WX} {io : Nat → Option Addr} {e : Expr} {m : Ex} (h : JE X W io e m) : JO X W io e (.e m) := h
theorem jo_v {X : Cx} {W : WX} {io : Nat → Option Addr} {pos : Pos} (i : Nat) {x : Str} (hN : X.N[i]? = some x := by rfl) (hv : Vis X.env.scope x := by first | exact Or.inl rfl | exact Or.inr (Or.inl rfl) | exact Or.inr (Or.inr rfl)) (hd : (x == ("__debug__" : Str)) = false := by decide)
    (hcd : (x == ("__classdict__" : Str)) = false := by decide) : JO X W io (.Name x pos) (.v i) := ⟨pe_var hN hv hd hcd⟩
/-- what a pending operand stands for -/
def PdR (K : PySem.W.Frag) (F : Hp) (σ : L2.St) (v : V) : Pd → Prop
  | .d d => Fz K F d v
  | .i i => σ[i]? = some (some v)
def tO (K : PySem.W.Frag) (W : WX) (io : Nat → Option Addr) : Opd → TE
  | .e m => tJ K W io m
  | .v i => tVar i
theorem JO.pe {X : Cx} {W : WX} {io : Nat → Option Addr} {e : Expr} {o : Opd} (h : JO X W io e o) : PE X e (tO X.K W io o) := by
  cases o with
  | e m => exact JE.pe h
  | v i => exact IsV.pe h
section
variable {K : PySem.W.Frag} {W : WX} {io : Nat → Option Addr} {P F F' : Hp} {σ : L2.St} {Q : VK} {H : Hp} {ρ : Env}
theorem PdR.mono {v : V} {p : Pd} (s : Same F F') (h : PdR K F σ v p) : PdR K F' σ v p := by
  cases p with
  | d d => exact Fz.mono s h
  | i i => exact h
theorem PdR.pk {v : V} {p : Pd} {d : D} (S : St K io P F ρ σ H) (h : PdR K F σ v p) (e : p.get ρ = some d) : Pk K F H d v := by
  cases p with
  | d d' =>
    cases e
    exact .inl h
  | i i =>
    have h : σ[i]? = some (some v) := h
    cases q : ρ[i]? with
    | none => simp [Pd.get, q] at e
    | some o =>
      cases o with
      | none => simp [Pd.get, q] at e
      | some s =>
        simp only [Pd.get, q, Option.some.injEq] at e
        subst e
        cases s with
        | fz d =>
          obtain ⟨u, h1, h2⟩ := S.fz i d q
          rw [h] at h1
          cases h1
          exact .inl h2
        | ow xs =>
          obtain ⟨a, vs, h1, h2, h3, _⟩ := S.ow i xs (.inl q)
          rw [h] at h1
          cases h1
          exact .inr ⟨xs, a, vs, rfl, rfl, h2, h3⟩
        | io xs =>
          obtain ⟨a, vs, h1, h2, h3, _⟩ := S.ow i xs (.inr q)
          rw [h] at h1
          cases h1
          exact .inr ⟨xs, a, vs, rfl, rfl, h2, h3⟩
/-- an operand, then the rest -/
theorem tO_bind {o : Opd} {f : Pd → Env → R Sl} {Q' : VK} (S : St K io P F ρ σ H) (h : ToE K W io P F σ Q ((o.run ρ).bind f)) (hv : ∀ i s, o = .v i → ρ[i]? = some (some s) → True)
    (k : ∀ p ρ1 v H1 F1, Same F F1 → St K io P F1 ρ1 σ H1 → PdR K F1 σ v p → ToE K W io P F1 σ Q (f p ρ1) → Q' v H1) (hs : ∀ i, o = .v i → ∃ v, σ[i]? = some (some v)) : tO K W io o σ H Q' := by
  cases o with
  | v i =>
    obtain ⟨v, e⟩ := hs i rfl
    exact ⟨v, e, k (.i i) ρ v H F (Same.refl _) S e h⟩
  | e m =>
    have e : ((Opd.e m).run ρ).bind f = (m ρ).bind fun x ρ1 => f (.d x.d) ρ1 := by
      show R.bind ((m ρ).bind fun x ρ1 => .ok (.d x.d) ρ1) f = _
      cases m ρ <;> rfl
    rw [e] at h
    refine tJ_bind S h fun r ρ1 v H1 F1 s S1 R1 h1 => ?_
    obtain ⟨F1', s', S1', q⟩ := S1.cool R1
    exact k (.d r.d) ρ1 v H1 F1' (s.trans s') S1' q (h1.up s')
end
abbrev Op2 := D → D → Option Sl
abbrev Op1 := D → Option Sl
def OpOk (K : PySem.W.Frag) (r : R2) (f : Op2) : Prop := ∀ (F H : Hp) (x y : V) (dx dy : D) (z : Sl) (Q : VK), Same F H → Pk K F H dx x → Pk K F H dy y → f dx dy = some z → Want K F H z Q → r x y H Q
def Op1Ok (K : PySem.W.Frag) (r : V → Hp → VK → Prop) (f : Op1) : Prop := ∀ (F H : Hp) (x : V) (dx : D) (z : Sl) (Q : VK), Same F H → Pk K F H dx x → f dx = some z → Want K F H z Q → r x H Q
def mk (o : Option Sl) (ρ : Env) : R Sl := match o with
  | some z => .ok z ρ
  | none => .no
/-- the values of pending operands -/
def get2 (f : Op2) (ρ : Env) (p q : Pd) : Option Sl := match p.get ρ, q.get ρ with
  | some x, some y => f x y
  | _, _ => none
def get1 (f : Op1) (ρ : Env) (p : Pd) : Option Sl := match p.get ρ with
  | some x => f x
  | _ => none
def okV (ρ : Env) : Opd → Bool
  | .e _ => true
  | .v i => match ρ[i]? with
    | some (some _) => true
    | _ => false
def mOp2 (f : Op2) (a b : Opd) : Ex := fun ρ => if okV ρ a && okV ρ b then (a.run ρ).bind fun p ρ1 => (b.run ρ1).bind fun q ρ2 => mk (get2 f ρ2 p q) ρ2 else .no
def mOp1 (f : Op1) (a : Opd) : Ex := fun ρ => if okV ρ a then (a.run ρ).bind fun p ρ1 => mk (get1 f ρ1 p) ρ1 else .no
theorem mk_some {K : PySem.W.Frag} {W : WX} {io : Nat → Option Addr} {P F : Hp} {σ : L2.St} {Q : VK} {ρ : Env} {o : Option Sl} (h : ToE K W io P F σ Q (mk o ρ)) : ∃ z, o = some z ∧ ToE K W io P F σ Q (.ok z ρ) := by
  cases o with
  | none => exact h.elim
  | some z => exact ⟨z, rfl, h⟩
theorem okV_v {K : PySem.W.Frag} {io : Nat → Option Addr} {P F H : Hp} {σ : L2.St} {ρ : Env} {o : Opd} (S : St K io P F ρ σ H) (h : okV ρ o = true) : ∀ i, o = .v i → ∃ v, σ[i]? = some (some v) := by
  intro i e
  subst e
  unfold okV at h
  cases q : ρ[i]? with
  | none => simp [q] at h
  | some s =>
    cases s with
    | none => simp [q] at h
    | some s =>
      cases s with
      | fz d => obtain ⟨v, e, _⟩ := S.fz i d q; exact ⟨v, e⟩
      | ow xs => obtain ⟨a, vs, e, _⟩ := S.ow i xs (.inl q); exact ⟨_, e⟩
      | io xs => obtain ⟨a, vs, e, _⟩ := S.ow i xs (.inr q); exact ⟨_, e⟩
theorem toE_if {K : PySem.W.Frag} {W : WX} {io : Nat → Option Addr} {P F : Hp} {σ : L2.St} {Q : VK} {c : Bool} {r : R Sl} (h : ToE K W io P F σ Q (if c then r else .no)) : c = true ∧ ToE K W io P F σ Q r := by
  cases c with
  | true => exact ⟨rfl, h⟩
  | false => exact h.elim
section
variable {X : Cx} {W : WX} {io : Nat → Option Addr} {a b : Expr} {oa ob : Opd} {ma mb : Ex} {pos : Pos}
/-- two parts, then an operation -/
theorem op2_core {r : R2} {f : Op2} (hf : OpOk X.K r f) {σ : L2.St} {H : Hp} {Q : VK} (h : tJ X.K W io (mOp2 f oa ob) σ H Q) : tOp r (tO X.K W io oa) (tO X.K W io ob) σ H Q := by
  obtain ⟨P, F, ρ, S, h⟩ := h
  obtain ⟨hc, h⟩ := toE_if h
  rw [Bool.and_eq_true] at hc
  refine tO_bind S h (fun _ _ _ _ => trivial) (fun p ρ1 v H1 F1 s1 S1 R1 h1 => ?_) (okV_v S hc.1)
  refine tO_bind S1 h1 (fun _ _ _ _ => trivial) (fun q ρ2 u H2 F2 s2 S2 R2 h2 => ?_) (okV_v S hc.2)
  obtain ⟨z, e, h3⟩ := mk_some h2
  unfold get2 at e
  cases e1 : p.get ρ2 with
  | none => rw [e1] at e; cases e
  | some dx =>
    cases e2 : q.get ρ2 with
    | none => rw [e1, e2] at e; cases e
    | some dy =>
      rw [e1, e2] at e
      exact hf F2 H2 v u dx dy z Q S2.fh ((R1.mono s2).pk S2 e1) (R2.pk S2 e2) e (h3.want S2)
theorem op1_core {r : V → Hp → VK → Prop} {f : Op1} (hf : Op1Ok X.K r f) {σ : L2.St} {H : Hp} {Q : VK} (h : tJ X.K W io (mOp1 f oa) σ H Q) : tUn r (tO X.K W io oa) σ H Q := by
  obtain ⟨P, F, ρ, S, h⟩ := h
  obtain ⟨hc, h⟩ := toE_if h
  refine tO_bind S h (fun _ _ _ _ => trivial) (fun p ρ1 v H1 F1 s1 S1 R1 h1 => ?_) (okV_v S hc)
  obtain ⟨z, e, h3⟩ := mk_some h1
  unfold get1 at e
  cases e1 : p.get ρ1 with
  | none => rw [e1] at e; cases e
  | some dx =>
    rw [e1] at e
    exact hf F1 H1 v dx z Q S1.fh (R1.pk S1 e1) e (h3.want S1)
theorem je_op {op : Operator} {r : R2} {f : Op2} (ho : OpR X (binaryOp op) r) (hf : OpOk X.K r f) (ha : JO X W io a oa) (hb : JO X W io b ob) : JE X W io (.BinOp a op b pos) (mOp2 f oa ob) :=
  ⟨pei (pe_op ho ha.pe hb.pe) fun _ _ _ h => op2_core hf h⟩
theorem je_cmp {op : CmpOp} {r : R2} {f : Op2} (ho : OpR X (compareOp op) r) (hf : OpOk X.K r f) (hm : behindInMarks op b = false) (ha : JO X W io a oa) (hb : JO X W io b ob) : JE X W io (.Compare a [op] [b] pos) (mOp2 f oa ob) :=
  ⟨pei (pe_cmpR ho ha.pe hb.pe hm) fun _ _ _ h => op2_core hf h⟩
theorem je_un {op : UnaryOp} {r : V → Hp → VK → Prop} {f : Op1} (ho : UnR X (unaryOp op) r) (hf : Op1Ok X.K r f) (ha : JO X W io a oa) : JE X W io (.UnaryOp op a pos) (mOp1 f oa) :=
  ⟨pei (pe_un ho ha.pe) fun _ _ _ h => op1_core hf h⟩
theorem je_ix {r : R2} {f : Op2} (hr : IxR X r) (hf : OpOk X.K r f) (ha : JO X W io a oa) (hb : JO X W io b ob) (hs : PlainIx b := by exact fun _ _ => rfl) : JE X W io (.Subscript a b pos) (mOp2 f oa ob) :=
  ⟨pei (pe_ix hr ha.pe hb.pe hs) fun _ _ _ h => op2_core hf h⟩

/-! ### names, constants -/
/-- a name: what the slot holds; a list of one's own is frozen by it -/
def mVar (i : Nat) : Ex := fun ρ => match ρ[i]? with
  | some (some (.fz d)) => .ok (.fz d) ρ
  | some (some (.ow xs)) => .ok (.fz (.lst xs)) (ρ.set i (some (.fz (.lst xs))))
  | _ => .no
/-- a list of one's own that goes out and is not met again -/
def mMove (i : Nat) : Ex := fun ρ => match ρ[i]? with
  | some (some (.fz d)) => .ok (.fz d) ρ
  | some (some (.ow xs)) => .ok (.ow xs) (ρ.set i none)
  | _ => .no
def mC (d : D) : Ex := fun ρ => .ok (.fz d) ρ
theorem own_set_none {ρ : Env} {i j : Nat} {o : Option Sl} (ho : ∀ xs, o ≠ some (.ow xs) ∧ o ≠ some (.io xs)) {xs : List D} (q : Own (ρ.set i o) j xs) : j ≠ i ∧ Own ρ j xs := by
  by_cases hj : j = i
  · subst hj
    exfalso
    have hl : j < (ρ.set j o).length := by
      rcases q with q | q <;> exact (List.getElem?_eq_some_iff.mp q).1
    rw [List.length_set] at hl
    rcases q with q | q
    · rw [set_self hl] at q; cases q; exact (ho xs).1 rfl
    · rw [set_self hl] at q; cases q; exact (ho xs).2 rfl
  · refine ⟨hj, ?_⟩
    rcases q with q | q
    · rw [set_other (Ne.symm hj)] at q; exact .inl q
    · rw [set_other (Ne.symm hj)] at q; exact .inr q
/-- the slot is given up -/
theorem St.drop {K : PySem.W.Frag} {io : Nat → Option Addr} {P F : Hp} {σ : L2.St} {H : Hp} {ρ : Env} {i : Nat} (S : St K io P F ρ σ H) : St K io P F (ρ.set i none) σ H := by
  have hn : ∀ xs : List D, (none : Option Sl) ≠ some (.ow xs) ∧ (none : Option Sl) ≠ some (.io xs) := fun xs => ⟨(by intro z; cases z), (by intro z; cases z)⟩
  refine ⟨S.fh, S.ph, S.pf, by simp [S.len], fun j d q => ?_, fun j xs q => S.ow j xs (own_set_none hn q).2, fun j xs a q1 q2 => S.ia j xs a ?_ q2, fun j k xs ys a q1 q2 => S.ds j k xs ys a (own_set_none hn q1).2 (own_set_none hn q2).2⟩
  · by_cases hj : j = i
    · subst hj
      have hl : j < (ρ.set j none).length := (List.getElem?_eq_some_iff.mp q).1
      rw [List.length_set] at hl
      rw [set_self hl] at q
      cases q
    · rw [set_other (Ne.symm hj)] at q
      exact S.fz j d q
  · obtain ⟨hj, _⟩ := own_set_none hn (.inr q1)
    rw [set_other (Ne.symm hj)] at q1
    exact q1
theorem St.own_rel {K : PySem.W.Frag} {io : Nat → Option Addr} {P F : Hp} {σ : L2.St} {H : Hp} {ρ : Env} {i : Nat} {xs : List D} {v : V} (S : St K io P F ρ σ H) (e : ρ[i]? = some (some (.ow xs))) (hv : σ[i]? = some (some v)) : Rel K P F (ρ.set i none) σ H v (.ow xs) := by
  obtain ⟨a, vs, h1, h2, h3, h4, h5⟩ := S.ow i xs (.inl e)
  rw [h1] at hv
  cases hv
  refine ⟨a, vs, rfl, h2, h3, h4, h5, fun j ys q z => ?_⟩
  obtain ⟨hj, q'⟩ := own_set_none (fun xs => ⟨(by intro z; cases z), (by intro z; cases z)⟩) q
  exact hj (S.ds j i ys xs a q' (.inl e) z h1)
theorem je_move (i : Nat) {x : Str} (hN : X.N[i]? = some x := by rfl) (hv : Vis X.env.scope x := by first | exact Or.inl rfl | exact Or.inr (Or.inl rfl) | exact Or.inr (Or.inr rfl)) (hd : (x == ("__debug__" : Str)) = false := by decide)
    (hcd : (x == ("__classdict__" : Str)) = false := by decide) : JE X W io (.Name x pos) (mMove i) := by
  refine ⟨pei (pe_var hN hv hd hcd) fun σ H Q h => ?_⟩
  obtain ⟨P, F, ρ, S, h⟩ := h
  unfold mMove at h
  cases e : ρ[i]? with
  | none => rw [e] at h; exact h.elim
  | some o =>
    rw [e] at h
    cases o with
    | none => exact h.elim
    | some z =>
      cases z with
      | fz d =>
        obtain ⟨v, h1, h2⟩ := S.fz i d e
        exact ⟨v, h1, h v H F (Same.refl _) S h2⟩
      | ow xs =>
        obtain ⟨a, vs, h1, _⟩ := S.ow i xs (.inl e)
        exact ⟨_, h1, h _ H F (Same.refl _) S.drop (S.own_rel e h1)⟩
      | io xs => exact h.elim
/-- a slot's own list is frozen in it -/
theorem St.cool_at {K : PySem.W.Frag} {io : Nat → Option Addr} {P F : Hp} {σ : L2.St} {H : Hp} {ρ : Env} {i : Nat} {xs : List D} {v : V} (S : St K io P F ρ σ H) (e : ρ[i]? = some (some (.ow xs))) (hv : σ[i]? = some (some v)) :
    ∃ F', Same F F' ∧ St K io P F' (ρ.set i (some (.fz (.lst xs)))) σ H ∧ Fz K F' (.lst xs) v := by
  obtain ⟨F', s, S', q⟩ := S.drop.cool (S.own_rel e hv)
  refine ⟨F', s, ?_, q⟩
  have S2 := S'.store (i := i) (v := v) (r := .fz (.lst xs)) q
  have hi : i < σ.length := (List.getElem?_eq_some_iff.mp hv).1
  have e2 : σ.set i (some v) = σ := by
    refine List.ext_getElem? fun j => ?_
    by_cases hj : i = j
    · subst hj; rw [set_self hi, hv]
    · rw [set_other hj]
  rw [e2, List.set_set] at S2
  exact S2
theorem je_var (i : Nat) {x : Str} (hN : X.N[i]? = some x := by rfl) (hv : Vis X.env.scope x := by first | exact Or.inl rfl | exact Or.inr (Or.inl rfl) | exact Or.inr (Or.inr rfl)) (hd : (x == ("__debug__" : Str)) = false := by decide)
    (hcd : (x == ("__classdict__" : Str)) = false := by decide) : JE X W io (.Name x pos) (mVar i) := by
  refine ⟨pei (pe_var hN hv hd hcd) fun σ H Q h => ?_⟩
  obtain ⟨P, F, ρ, S, h⟩ := h
  unfold mVar at h
  cases e : ρ[i]? with
  | none => rw [e] at h; exact h.elim
  | some o =>
    rw [e] at h
    cases o with
    | none => exact h.elim
    | some z =>
      cases z with
      | fz d =>
        obtain ⟨v, h1, h2⟩ := S.fz i d e
        exact ⟨v, h1, h v H F (Same.refl _) S h2⟩
      | ow xs =>
        obtain ⟨a, vs, h1, _⟩ := S.ow i xs (.inl e)
        obtain ⟨F', s, S', q⟩ := S.cool_at e h1
        exact ⟨_, h1, h _ H F' s S' q⟩
      | io xs => exact h.elim
theorem je_c {e : Expr} {v : V} {d : D} (h : PE X e (tC v)) (hd : ∀ F, Fz X.K F d v) : JE X W io e (mC d) := ⟨pei h fun σ H Q q => by
  obtain ⟨P, F, ρ, S, q⟩ := q
  exact q v H F (Same.refl _) S (hd F)⟩
theorem je_int {i : Int} {j : Nat} : JE X W io (.Constant (.int i) j pos) (mC (.int i)) := je_c pe_int fun _ => rfl
theorem je_bl {i : Bool} {j : Nat} : JE X W io (.Constant (.bool i) j pos) (mC (.bl i)) := je_c pe_bl fun _ => rfl
theorem je_str {i : Str} {j : Nat} : JE X W io (.Constant (.str i) j pos) (mC (.str i)) := je_c pe_str fun _ => rfl
theorem je_non {j : Nat} : JE X W io (.Constant .none j pos) (mC .non) := je_c pe_non fun _ => rfl
/-- a module's constant -/
theorem je_gstr {x z : Str} (hm : ∃ t, X.mg x = some (.str z t)) (hg : Gl X x := by rfl) (hd : (x == ("__debug__" : Str)) = false := by decide) : JE X W io (.Name x pos) (mC (.str z)) := by
  obtain ⟨t, e⟩ := hm
  exact je_c (pe_glob hg e (v := .str z) ⟨t, rfl⟩ hd) fun _ => rfl
theorem je_gint {x : Str} {z : Int} (hm : ∃ t, X.mg x = some (.int z t)) (hg : Gl X x := by rfl) (hd : (x == ("__debug__" : Str)) = false := by decide) : JE X W io (.Name x pos) (mC (.int z)) := by
  obtain ⟨t, e⟩ := hm
  exact je_c (pe_glob hg e (v := .int z) ⟨t, rfl⟩ hd) fun _ => rfl
theorem je_gref {x : Str} (hm : X.mg x = some (.ref (He.ga X.K x))) (hg : Gl X x := by rfl) (hd : (x == ("__debug__" : Str)) = false := by decide) : JE X W io (.Name x pos) (mC (.cst x)) :=
  je_c (pe_glob hg hm (v := .ref (He.ga X.K x)) rfl hd) fun _ => rfl
end
end Mi

namespace Mi
open PySem PySem.Spec PyProof.Rows L2

/-! ### bounds of ints -/
@[irreducible] def BIG : Nat := 2 ^ 16777216
@[irreducible] def DVB : Nat := 2 ^ 8192
theorem bits_of {x : Int} {n : Nat} (h : x.natAbs < 2 ^ n) : Builtin.Int.intBits x ≤ n := by
  unfold Builtin.Int.intBits
  split
  · omega
  · rename_i h0
    have : x.natAbs ≠ 0 := by
      intro z
      have : x = 0 := by omega
      subst this
      simp at h0
    have := (Nat.log2_lt this).mpr h
    omega
theorem big_bits {x : Int} (h : x.natAbs < BIG) : Builtin.Int.intBits x ≤ 16777216 := by
  unfold BIG at h
  exact bits_of h
theorem BIG_ge {n : Nat} (h : n ≤ 16777216) : 2 ^ n ≤ BIG := by
  unfold BIG
  exact Nat.pow_le_pow_right (by decide) h
theorem big_of_bits {x : Int} {n : Nat} (h : Builtin.Int.intBits x ≤ n) (hn : n ≤ 16777216) : x.natAbs < BIG := by
  have h1 : x.natAbs < 2 ^ n := by
    unfold Builtin.Int.intBits at h
    split at h
    · rename_i h0
      have : x = 0 := by simpa using h0
      subst this
      exact Nat.two_pow_pos n
    · have h2 : x.natAbs < 2 ^ (x.natAbs.log2 + 1) := Nat.lt_log2_self
      exact Nat.lt_of_lt_of_le h2 (Nat.pow_le_pow_right (by decide) (by omega))
  exact Nat.lt_of_lt_of_le h1 (BIG_ge hn)
theorem DVB_ge {n : Nat} (h : n ≤ 8192) : 2 ^ n ≤ DVB := by
  unfold DVB
  exact Nat.pow_le_pow_right (by decide) h

/-! ### the operations on data -/
def okI (i : Int) : Sl := .fz (.int i)
def okB (b : Bool) : Sl := .fz (.bl b)
def SZ : Nat := 100000
theorem SZ_le : SZ ≤ sizeLine := by rw [sizeLine_eq]; decide
def addD : Op2
  | .int i, .int j => some (okI (i + j))
  | .str a, .str b => if a.length + b.length ≤ SZ then some (.fz (.str (a ++ b))) else none
  | .lst a, .lst b => if a.length + b.length ≤ SZ then some (.ow (a ++ b)) else none
  | .tup a, .tup b => if a.length + b.length ≤ SZ then some (.fz (.tup (a ++ b))) else none
  | _, _ => none
def subD : Op2
  | .int i, .int j => some (okI (i - j))
  | _, _ => none
def mulD : Op2
  | .int i, .int j => if i.natAbs < BIG ∧ j.natAbs < BIG then some (okI (i * j)) else none
  | .lst a, .int k => if -1000000 ≤ k ∧ k ≤ 1000000 ∧ a.length * k.toNat ≤ SZ then some (.ow (List.replicate k.toNat a).flatten) else none
  | _, _ => none
def fdivD : Op2
  | .int i, .int j => if 0 < j ∧ j.natAbs < DVB then some (okI (i / j)) else none
  | _, _ => none
def modD : Op2
  | .int i, .int j => if 0 < j then some (okI (i % j)) else none
  | _, _ => none
def powD : Op2
  | .int i, .int j => if 0 ≤ j ∧ ((i.natAbs < BIG ∧ j ≤ 8) ∨ (i.natAbs < 65536 ∧ j ≤ 100000)) then some (okI (i ^ j.toNat)) else none
  | _, _ => none
def cmpD (p : Int → Int → Bool) : Op2
  | .int i, .int j => some (okB (p i j))
  | _, _ => none
abbrev ltD : Op2 := cmpD fun i j => decide (i < j)
abbrev leD : Op2 := cmpD fun i j => decide (i ≤ j)
abbrev gtD : Op2 := cmpD fun i j => decide (j < i)
abbrev geD : Op2 := cmpD fun i j => decide (j ≤ i)
mutual
def D.py : D → PyData
  | .non => .none
  | .bl b => .bool b
  | .int i => .int i
  | .str s => .str s
  | .tup ds => .tuple (pyL ds)
  | .lst ds => .list (pyL ds)
  | .scr ds => .list (pyL ds)
  | .dic _ => .dict []
  | .cst _ => .dict []
  | .exo _ => .dict []
def pyL : List D → List PyData
  | [] => []
  | d :: ds => d.py :: pyL ds
end
def D.sh (d : D) : Bool := SeqAt.shaped d.py
def D.eq (a b : D) : Bool := PyData.eqv a.py b.py
def eqD : Op2 := fun a b => if a.sh && b.sh then some (okB (a.eq b)) else none
def neD : Op2 := fun a b => if a.sh && b.sh then some (okB (!a.eq b)) else none
def D.isN : D → Bool
  | .non => true
  | _ => false
def isD : Op2 := fun a b => match b with
  | .non => some (okB a.isN)
  | _ => none
def isNotD : Op2 := fun a b => match b with
  | .non => some (okB (!a.isN))
  | _ => none
def D.flat : D → Bool
  | .non | .bl _ | .int _ | .str _ => true
  | _ => false
/-- x in s -/
def D.inB (a : D) : D → Option Bool
  | .str z => match a with
    | .str x => if x.length = 1 then some (z.cps.toList.any fun c => decide (x = ⟨#[c]⟩)) else none
    | _ => none
  | .lst ds => if a.sh && D.sh (.lst ds) then some (ds.any fun y => D.eq y a) else none
  | .tup ds => if a.flat && ds.all D.flat then some (ds.any fun y => D.eq y a) else none
  | _ => none
def inD : Op2 := fun a b => (a.inB b).map okB
def notInD : Op2 := fun a b => (a.inB b).map fun z => okB !z
/-- o[i] -/
def ixD : Op2
  | .lst ds, .int i => (atI ds i).map .fz
  | .tup ds, .int i => (atI ds i).map .fz
  | .scr ds, .int i => (atI ds i).map .fz
  | .str z, .int i => if z.length ≤ SZ then (atI z.cps.toList i).map fun c => .fz (.str ⟨#[c]⟩) else none
  | _, _ => none
def negD : Op1
  | .int i => some (okI (-i))
  | _ => none

/-! ### they are Python's -/
section
variable {K : PySem.W.Frag}
theorem ifs {p : Prop} [Decidable p] {a : Sl} {z : Sl} (h : (if p then some a else none) = some z) : p ∧ a = z := by
  by_cases q : p
  · rw [if_pos q] at h
    exact ⟨q, Option.some.inj h⟩
  · rw [if_neg q] at h
    cases h
theorem FzL.of_lst {F H : Hp} {a : Addr} {vs : List V} (e : Same F H) (h : F a = some (.lst vs)) : H a = some (.lst vs) := e _ _ h

abbrev rAddAll (K : PySem.W.Frag) : R2 := fun x y H Q => (rI0 fun i j => .int (i + j)) x y H Q ∨ (∃ i j, x = .str i ∧ y = .str j ∧ i.length + j.length ≤ sizeLine ∧ Q (.str (i ++ j)) H) ∨ rCat x y H Q ∨ rCatA K x y H Q
theorem opr_add {X : Cx} : OpR X (binaryOp .Add) (rAddAll X.K) := op_add.or (op_add_str.or (op_cat.or op_catA))

/-- two tuples one behind the other -/
theorem want_cat {F H : Hp} {a b : Addr} {vs us : List V} {xs ys : List D} {Q : VK} (e : Same F H) (ha : SqT K F a vs) (hb : SqT K F b us) (ra : FzL K F xs vs) (rb : FzL K F ys us) (w : Want K F H (.fz (.tup (xs ++ ys))) Q) :
    (vs = [] → Q (.ref b) H) ∧ (vs ≠ [] → us = [] → Q (.ref a) H) ∧ (vs ≠ [] → us ≠ [] → ∀ p, H p = none → Q (.ref p) (upd H p (.tup (vs ++ us)))) := by
  refine ⟨fun h0 => ?_, fun _ h0 => ?_, fun _ _ p hp => w.tup e hp (ra.append rb)⟩
  · refine w.fz e ⟨b, us, rfl, hb, ?_⟩
    subst h0
    have : xs = [] := List.length_eq_zero_iff.mp ra.length
    subst this
    exact rb
  · refine w.fz e ⟨a, vs, rfl, ha, ?_⟩
    subst h0
    have : ys = [] := List.length_eq_zero_iff.mp rb.length
    subst this
    rw [List.append_nil]
    exact ra
theorem ok_add : OpOk K (rAddAll K) addD := by
  intro F H x y dx dy z Q e qx qy h w
  cases dx <;> cases dy <;> first | (simp [addD] at h; done) | skip
  · rename_i i j
    cases qx.int; cases qy.int; cases h
    exact .inl ⟨i, j, rfl, rfl, w.fz e rfl⟩
  · rename_i i j
    cases qx.str; cases qy.str
    obtain ⟨h1, rfl⟩ := ifs h
    exact .inr (.inl ⟨i, j, rfl, rfl, Nat.le_trans h1 SZ_le, w.fz e rfl⟩)
  · rename_i xs ys
    obtain ⟨a, vs, rfl, ha, ra⟩ := qx.tup
    obtain ⟨b, us, rfl, hb, rb⟩ := qy.tup
    obtain ⟨h1, rfl⟩ := ifs h
    have h2 : vs.length + us.length ≤ sizeLine := by rw [← ra.length, ← rb.length]; exact Nat.le_trans h1 SZ_le
    exact .inr (.inr (.inr ⟨a, b, vs, us, rfl, rfl, same_seqT e ha, same_seqT e hb, h2, want_cat e ha hb ra rb w⟩))
  · rename_i xs ys
    obtain ⟨a, vs, rfl, ha, ra⟩ := qx.lst e
    obtain ⟨b, us, rfl, hb, rb⟩ := qy.lst e
    obtain ⟨h1, rfl⟩ := ifs h
    have h2 : vs.length + us.length ≤ sizeLine := by rw [← ra.length, ← rb.length]; exact Nat.le_trans h1 SZ_le
    exact .inr (.inr (.inl ⟨a, b, vs, us, rfl, rfl, ha, hb, h2, fun p hp => w.lst e hp (ra.append rb)⟩))
theorem ok_sub : OpOk K (rI0 fun i j => .int (i - j)) subD := by
  intro F H x y dx dy z Q e qx qy h w
  cases dx <;> cases dy <;> first | (simp [subD] at h; done) | skip
  rename_i i j
  cases qx.int; cases qy.int; cases h
  exact ⟨i, j, rfl, rfl, w.fz e rfl⟩
abbrev rMulAll : R2 := fun x y H Q => (rI CMulX fun i j => .int (i * j)) x y H Q ∨ rRep x y H Q
theorem opr_mul {X : Cx} : OpR X (binaryOp .Mult) rMulAll := op_mulX.or op_rep
theorem mulx_big {i j : Int} (hi : i.natAbs < BIG) (hj : j.natAbs < BIG) : CMulX i j := by
  have h1 := big_bits hi
  have h2 := big_bits hj
  unfold CMulX
  omega
theorem ok_mul : OpOk K rMulAll mulD := by
  intro F H x y dx dy z Q e qx qy h w
  cases dx <;> cases dy <;> first | (simp [mulD] at h; done) | skip
  · rename_i i j
    cases qx.int; cases qy.int
    obtain ⟨⟨h1, h2⟩, rfl⟩ := ifs h
    exact .inl ⟨i, j, rfl, rfl, mulx_big h1 h2, w.fz e rfl⟩
  · rename_i xs k
    obtain ⟨a, vs, rfl, ha, ra⟩ := qx.lst e
    cases qy.int
    obtain ⟨⟨h1, h2, h3⟩, rfl⟩ := ifs h
    have h4 : vs.length * k.toNat ≤ sizeLine := by rw [← ra.length]; exact Nat.le_trans h3 SZ_le
    refine .inr ⟨a, k, vs, rfl, rfl, ha, by omega, by omega, h4, fun p hp => w.lst e hp ?_⟩
    have go : ∀ n : Nat, FzL K F (List.replicate n xs).flatten (List.replicate n vs).flatten := fun n => by
      induction n with
      | zero => exact rfl
      | succ n ih =>
        rw [List.replicate_succ, List.replicate_succ, List.flatten_cons, List.flatten_cons]
        exact ra.append ih
    exact go _
theorem ok_fdiv : OpOk K (rI CDivW fun i j => .int (i / j)) fdivD := by
  intro F H x y dx dy z Q e qx qy h w
  cases dx <;> cases dy <;> first | (simp [fdivD] at h; done) | skip
  rename_i i j
  cases qx.int; cases qy.int
  obtain ⟨⟨h1, h2⟩, rfl⟩ := ifs h
  unfold DVB at h2
  exact ⟨i, j, rfl, rfl, wide_div h1 h2 (by decide) (by decide), w.fz e rfl⟩
theorem ok_mod : OpOk K (rI (fun _ j => 0 < j) fun i j => .int (i % j)) modD := by
  intro F H x y dx dy z Q e qx qy h w
  cases dx <;> cases dy <;> first | (simp [modD] at h; done) | skip
  rename_i i j
  cases qx.int; cases qy.int
  obtain ⟨h1, rfl⟩ := ifs h
  exact ⟨i, j, rfl, rfl, h1, w.fz e rfl⟩
def CPowX (i j : Int) : Prop := 0 ≤ j ∧ (Builtin.Int.intBits i : Int) * j ≤ 2 ^ 27
theorem op_powX {X : Cx} : OpR X (binaryOp .Pow) (rI CPowX fun i j => .int (i ^ j.toNat)) := opI fun _ _ _ _ _ _ _ hc q => pow_int hc.1 hc.2 q
theorem ok_pow : OpOk K (rI CPowX fun i j => .int (i ^ j.toNat)) powD := by
  intro F H x y dx dy z Q e qx qy h w
  cases dx <;> cases dy <;> first | (simp [powD] at h; done) | skip
  rename_i i j
  cases qx.int; cases qy.int
  obtain ⟨⟨h1, h2⟩, rfl⟩ := ifs h
  refine ⟨i, j, rfl, rfl, ⟨h1, ?_⟩, w.fz e rfl⟩
  have e27 : (2 : Int) ^ 27 = 134217728 := by decide
  rw [e27]
  rcases h2 with ⟨h2, h3⟩ | ⟨h2, h3⟩
  · have b := big_bits h2
    have : ((Builtin.Int.intBits i : Nat) : Int) * j ≤ 16777216 * 8 := Int.mul_le_mul (by omega) h3 h1 (by omega)
    omega
  · have b := bits_of (n := 16) (x := i) (by omega)
    have : ((Builtin.Int.intBits i : Nat) : Int) * j ≤ 16 * 100000 := Int.mul_le_mul (by omega) h3 h1 (by omega)
    omega
theorem ok_cmp {p : Int → Int → Bool} : OpOk K (rI0 fun i j => .bl (p i j)) (cmpD p) := by
  intro F H x y dx dy z Q e qx qy h w
  cases dx <;> cases dy <;> first | (simp [cmpD] at h; done) | skip
  rename_i i j
  cases qx.int; cases qy.int; cases h
  exact ⟨i, j, rfl, rfl, w.fz e rfl⟩
mutual
theorem Fz.dp {F H : Hp} (e : Same F H) : ∀ {d : D} {v : V}, Fz K F d v → d.py.canLay0 = true → Dp K H v d.py
  | .non, _, q, _ => by cases q; exact .non
  | .bl _, _, q, _ => by cases q; exact .bl _
  | .int _, _, q, _ => by cases q; exact .int _
  | .str _, _, q, _ => by cases q; exact .str _
  | .tup _, _, ⟨a, vs, h1, h2, h3⟩, c => by
    subst h1
    exact .tup (same_seqT e h2) (FzL.dp e h3 (by simpa [D.py, PyData.canLay0] using c))
  | .lst _, _, ⟨a, vs, h1, h2, h3⟩, c => by
    subst h1
    exact .lst (.inl (.inl (e _ _ h2))) (FzL.dp e h3 (by simpa [D.py, PyData.canLay0] using c))
  | .scr _, _, ⟨a, vs, h1, h2, h3⟩, c => by
    subst h1
    exact .lst (e.seq h2) (FzL.dp e h3 (by simpa [D.py, PyData.canLay0] using c))
  | .dic _, _, _, c => by simp [D.py, PyData.canLay0] at c
  | .cst _, _, _, c => by simp [D.py, PyData.canLay0] at c
  | .exo _, _, _, c => by simp [D.py, PyData.canLay0] at c
theorem FzL.dp {F H : Hp} (e : Same F H) : ∀ {ds : List D} {vs : List V}, FzL K F ds vs → PyData.canLayAll0 (pyL ds) = true → DpAll K H vs (pyL ds)
  | [], _, q, _ => by
    have q : _ = [] := q
    rw [q]
    exact .nil
  | d :: ds, _, ⟨v, ws, h1, h2, h3⟩, c => by
    subst h1
    have c2 : d.py.canLay0 = true ∧ PyData.canLayAll0 (pyL ds) = true := by simpa [pyL, PyData.canLayAll0] using c
    exact .cons (Fz.dp e h2 c2.1) (FzL.dp e h3 c2.2)
end
theorem Pk.dp {F H : Hp} {d : D} {v : V} (e : Same F H) (q : Pk K F H d v) (c : d.py.canLay0 = true) : Dp K H v d.py := by
  rcases q with q | ⟨xs, a, vs, rfl, rfl, h, r⟩
  · exact q.dp e c
  · exact .lst (.inl (.inl h)) (FzL.dp e r (by simpa [D.py, PyData.canLay0] using c))
theorem sh_lay {d : D} (h : d.sh = true) : d.py.canLay0 = true := SeqAt.canLay_of_shaped h
theorem ok_eq : OpOk K (rEqD K) eqD := by
  intro F H x y dx dy z Q e qx qy h w
  unfold eqD at h
  obtain ⟨h1, rfl⟩ := ifs h
  rw [Bool.and_eq_true] at h1
  exact ⟨_, _, qx.dp e (sh_lay h1.1), qy.dp e (sh_lay h1.2), h1.1, h1.2, w.fz e rfl⟩
theorem ok_ne : OpOk K (rNeD K) neD := by
  intro F H x y dx dy z Q e qx qy h w
  unfold neD at h
  obtain ⟨h1, rfl⟩ := ifs h
  rw [Bool.and_eq_true] at h1
  exact ⟨_, _, qx.dp e (sh_lay h1.1), qy.dp e (sh_lay h1.2), h1.1, h1.2, w.fz e rfl⟩
theorem Fz.isN {F : Hp} {d : D} {v : V} (q : Fz K F d v) : decide (v = .non) = d.isN := by
  cases d with
  | non => cases q; rfl
  | bl _ => cases q; rfl
  | int _ => cases q; rfl
  | str _ => cases q; rfl
  | tup _ => obtain ⟨a, vs, rfl, _⟩ := q; rfl
  | lst _ => obtain ⟨a, vs, rfl, _⟩ := q; rfl
  | scr _ => obtain ⟨a, vs, rfl, _⟩ := q; rfl
  | dic _ => obtain ⟨a, vs, rfl, _⟩ := q; rfl
  | cst _ => cases q; rfl
  | exo _ => obtain ⟨a, rfl, _⟩ := q; rfl
theorem Pk.isN {F H : Hp} {d : D} {v : V} (q : Pk K F H d v) : decide (v = .non) = d.isN := by
  rcases q with q | ⟨xs, a, vs, rfl, rfl, h, r⟩
  · exact q.isN
  · rfl
theorem ok_is : OpOk K (fun x y H Q => y = .non ∧ Q (.bl (decide (x = .non))) H) isD := by
  intro F H x y dx dy z Q e qx qy h w
  cases dy <;> first | (simp [isD] at h; done) | skip
  cases qy.non; cases h
  exact ⟨rfl, by rw [qx.isN]; exact w.fz e rfl⟩
theorem ok_isNot : OpOk K (fun x y H Q => y = .non ∧ Q (.bl (!decide (x = .non))) H) isNotD := by
  intro F H x y dx dy z Q e qx qy h w
  cases dy <;> first | (simp [isNotD] at h; done) | skip
  cases qy.non; cases h
  exact ⟨rfl, by rw [qx.isN]; exact w.fz e rfl⟩
/-- flat data -/
theorem Pk.flat {F H : Hp} {d : D} {v : V} (q : Pk K F H d v) (f : d.flat = true) : flatV v = true ∧ ∀ (d' : D) (u : V), Pk K F H d' u → d'.flat = true → eqV v u = D.eq d d' := by
  cases d <;> first | (simp [D.flat] at f; done) | skip
  · cases q.non
    refine ⟨rfl, fun d' u q' f' => ?_⟩
    cases d' <;> first | (simp [D.flat] at f'; done) | skip
    · cases q'.non; rfl
    · cases q'.bl; rfl
    · cases q'.int; rfl
    · cases q'.str; rfl
  · cases q.bl
    refine ⟨rfl, fun d' u q' f' => ?_⟩
    cases d' <;> first | (simp [D.flat] at f'; done) | skip
    · cases q'.non; rfl
    · cases q'.bl; rfl
    · cases q'.int; rfl
    · cases q'.str; rfl
  · cases q.int
    refine ⟨rfl, fun d' u q' f' => ?_⟩
    cases d' <;> first | (simp [D.flat] at f'; done) | skip
    · cases q'.non; rfl
    · cases q'.bl; rfl
    · cases q'.int; rfl
    · cases q'.str; rfl
  · cases q.str
    refine ⟨rfl, fun d' u q' f' => ?_⟩
    cases d' <;> first | (simp [D.flat] at f'; done) | skip
    · cases q'.non; rfl
    · cases q'.bl; rfl
    · cases q'.int; rfl
    · cases q'.str; rfl
theorem flat_all {F H : Hp} : ∀ {ds : List D} {vs : List V}, FzL K F ds vs → ds.all D.flat = true → vs.all flatV = true ∧ ∀ (d' : D) (u : V), Pk K F H d' u → d'.flat = true → (vs.any fun y => eqV y u) = ds.any fun y => D.eq y d'
  | [], _, q, _ => by
    have q : _ = [] := q
    rw [q]
    exact ⟨rfl, fun _ _ _ _ => rfl⟩
  | d :: ds, _, ⟨v, ws, h1, h2, h3⟩, c => by
    subst h1
    rw [List.all_cons, Bool.and_eq_true] at c
    obtain ⟨a1, a2⟩ := flat_all (H := H) h3 c.2
    obtain ⟨b1, b2⟩ := Pk.flat (H := H) (.inl h2) c.1
    refine ⟨by rw [List.all_cons, b1, a1]; rfl, fun d' u q' f' => ?_⟩
    rw [List.any_cons, List.any_cons, b2 d' u q' f', a2 d' u q' f']
theorem pyL_any (d : PyData) : ∀ ds : List D, (pyL ds).any (fun z => PyData.eqv z d) = ds.any fun y => PyData.eqv y.py d
  | [] => rfl
  | e :: ds => by
    show (PyData.eqv e.py d || (pyL ds).any _) = _
    rw [pyL_any d ds, List.any_cons]
abbrev rInAll (K : PySem.W.Frag) : R2 := fun x y H Q => rIn K false x y H Q ∨ rInD K x y H Q ∨ (∃ (c : Nat) (z : Str), x = .str ⟨#[c]⟩ ∧ y = .str z ∧ Q (.bl (decide (c ∈ z.cps.toList))) H)
abbrev rNinAll (K : PySem.W.Frag) : R2 := fun x y H Q => rIn K true x y H Q ∨ rNotInD K x y H Q ∨ (∃ (c : Nat) (z : Str), x = .str ⟨#[c]⟩ ∧ y = .str z ∧ Q (.bl (!decide (c ∈ z.cps.toList))) H)
theorem opr_in {X : Cx} (hu : X.A.units + 65 < cLine) : OpR X (compareOp .In) (rInAll X.K) := op_in_seq.or ((op_inD hu).or op_in_sign)
theorem opr_nin {X : Cx} (hu : X.A.units + 65 < cLine) : OpR X (compareOp .NotIn) (rNinAll X.K) := op_notIn_seq.or ((op_notInD hu).or op_notIn_sign)
theorem sign_of {x : Str} (h : x.length = 1) : ∃ c, x = ⟨#[c]⟩ := by
  obtain ⟨cps⟩ := x
  have h : cps.size = 1 := h
  obtain ⟨l⟩ := cps
  match l, h with
  | [c], _ => exact ⟨c, rfl⟩
theorem sign_any (c : Nat) (l : List Nat) : (l.any fun e => decide ((⟨#[c]⟩ : Str) = ⟨#[e]⟩)) = decide (c ∈ l) := by
  induction l with
  | nil => rfl
  | cons e l ih =>
    rw [List.any_cons, ih]
    by_cases h : c = e
    · subst h; simp
    · have h1 : ¬ ((⟨#[c]⟩ : Str) = ⟨#[e]⟩) := fun z => by
        injection z with z
        injection z with z
        injection z with z _
        exact h z
      rw [decide_eq_false h1, Bool.false_or]
      simp [h]
theorem in_core {F H : Hp} {x y : V} {dx dy : D} {b : Bool} (e : Same F H) (qx : Pk K F H dx x) (qy : Pk K F H dy y) (h : dx.inB dy = some b) {Q : Bool → Prop} (q : Q b) :
    (∃ p xs, y = .ref p ∧ (SqL K H p xs ∨ SqT K H p xs) ∧ flatV x = true ∧ xs.all flatV = true ∧ Q (inV x xs)) ∨ (∃ d ds, Dp K H x d ∧ Dp K H y (.list ds) ∧ SeqAt.shaped d = true ∧ SeqAt.shaped (.list ds) = true ∧ Q (ds.any fun z => PyData.eqv z d)) ∨ (∃ (c : Nat) (z : Str), x = .str ⟨#[c]⟩ ∧ y = .str z ∧ Q (decide (c ∈ z.cps.toList))) := by
  cases dy <;> first | (simp [D.inB] at h; done) | skip
  · rename_i z
    cases dx <;> first | (simp [D.inB] at h; done) | skip
    rename_i w
    cases qx.str; cases qy.str
    simp only [D.inB] at h
    split at h
    · rename_i h1
      cases h
      obtain ⟨c, rfl⟩ := sign_of h1
      rw [sign_any] at q
      exact .inr (.inr ⟨c, z, rfl, rfl, q⟩)
    · cases h
  · rename_i ds
    obtain ⟨a, vs, rfl, ha, ra⟩ := qy.tup
    simp only [D.inB] at h
    split at h
    · rename_i h1
      cases h
      rw [Bool.and_eq_true] at h1
      obtain ⟨f1, f2⟩ := flat_all (H := H) ra h1.2
      refine .inl ⟨a, vs, rfl, .inr (same_seqT e ha), (qx.flat h1.1).1, f1, ?_⟩
      unfold inV
      rw [f2 dx x qx h1.1]
      exact q
    · cases h
  · rename_i ds
    simp only [D.inB] at h
    split at h
    · rename_i h1
      cases h
      rw [Bool.and_eq_true] at h1
      refine .inr (.inl ⟨dx.py, pyL ds, qx.dp e (sh_lay h1.1), qy.dp e (sh_lay h1.2), h1.1, h1.2, ?_⟩)
      rw [pyL_any]
      exact q
    · cases h
theorem ok_in : OpOk K (rInAll K) inD := by
  intro F H x y dx dy z Q e qx qy h w
  unfold inD at h
  obtain ⟨b, h1, rfl⟩ := Option.map_eq_some_iff.mp h
  rcases in_core e qx qy h1 (Q := fun b => Q (.bl b) H) (w.fz e rfl) with h2 | h2 | h2
  · exact .inl h2
  · exact .inr (.inl h2)
  · exact .inr (.inr h2)
theorem ok_nin : OpOk K (rNinAll K) notInD := by
  intro F H x y dx dy z Q e qx qy h w
  unfold notInD at h
  obtain ⟨b, h1, rfl⟩ := Option.map_eq_some_iff.mp h
  rcases in_core e qx qy h1 (Q := fun b => Q (.bl !b) H) (w.fz e rfl) with h2 | h2 | h2
  · exact .inl h2
  · exact .inr (.inl h2)
  · exact .inr (.inr h2)
/-! ### subscripts -/
theorem atI_rel {F : Hp} {ds : List D} {vs : List V} {i : Int} {d : D} (q : FzL K F ds vs) (h : atI ds i = some d) : ∃ v, atI vs i = some v ∧ Fz K F d v := by
  unfold atI at h ⊢
  rw [← q.length]
  obtain ⟨j, e1, e2⟩ := Option.bind_eq_some_iff.mp h
  obtain ⟨v, h1, h2⟩ := q.get e2
  exact ⟨v, by rw [e1]; exact h1, h2⟩
theorem ok_ix : OpOk K (rIx K) ixD := by
  intro F H x y dx dy z Q e qx qy h w
  cases dx <;> cases dy <;> first | (simp [ixD] at h; done) | skip
  · rename_i s i
    cases qx.str; cases qy.int
    obtain ⟨h1, h2⟩ : s.length ≤ SZ ∧ (atI s.cps.toList i).map (fun c => Sl.fz (.str ⟨#[c]⟩)) = some z := by
      simp only [ixD] at h
      split at h
      · rename_i h1; exact ⟨h1, h⟩
      · cases h
    obtain ⟨c, h3, rfl⟩ := Option.map_eq_some_iff.mp h2
    exact .inr (.inr ⟨s, i, c, rfl, rfl, Nat.le_trans h1 SZ_le, h3, w.fz e rfl⟩)
  · rename_i ds i
    obtain ⟨a, vs, rfl, ha, ra⟩ := qx.tup
    cases qy.int
    obtain ⟨d, h1, rfl⟩ := Option.map_eq_some_iff.mp h
    obtain ⟨v, h2, h3⟩ := atI_rel ra h1
    exact .inr (.inl ⟨a, vs, i, v, rfl, rfl, same_seqT e ha, h2, w.fz e h3⟩)
  · rename_i ds i
    obtain ⟨a, vs, rfl, ha, ra⟩ := qx.lst e
    cases qy.int
    obtain ⟨d, h1, rfl⟩ := Option.map_eq_some_iff.mp h
    obtain ⟨v, h2, h3⟩ := atI_rel ra h1
    exact .inl ⟨a, vs, i, v, rfl, rfl, .inl (.inl ha), h2, w.fz e h3⟩
  · rename_i ds i
    obtain ⟨a, vs, rfl, ha, ra⟩ := qx.scr
    cases qy.int
    obtain ⟨d, h1, rfl⟩ := Option.map_eq_some_iff.mp h
    obtain ⟨v, h2, h3⟩ := atI_rel ra h1
    exact .inl ⟨a, vs, i, v, rfl, rfl, e.seq ha, h2, w.fz e h3⟩
theorem ok_neg : Op1Ok K (rU fun i => .int (-i)) negD := by
  intro F H x dx z Q e qx h w
  cases dx <;> first | (simp [negD] at h; done) | skip
  rename_i i
  cases qx.int; cases h
  exact ⟨i, rfl, w.fz e rfl⟩
end
end Mi

namespace Mi
open PySem PySem.Spec PyProof.Rows L2

/-! ### operands in a row -/
def runO : List Opd → Env → R (List Pd)
  | [], ρ => .ok [] ρ
  | o :: os, ρ => (o.run ρ).bind fun p ρ1 => (runO os ρ1).bind fun ps ρ2 => .ok (p :: ps) ρ2
def getL (ρ : Env) : List Pd → Option (List D)
  | [] => some []
  | p :: ps => match p.get ρ, getL ρ ps with
    | some d, some ds => some (d :: ds)
    | _, _ => none
def PdRL (K : PySem.W.Frag) (F : Hp) (σ : L2.St) : List V → List Pd → Prop
  | [], [] => True
  | v :: vs, p :: ps => PdR K F σ v p ∧ PdRL K F σ vs ps
  | _, _ => False
def PkL (K : PySem.W.Frag) (F H : Hp) : List D → List V → Prop
  | [], vs => vs = []
  | d :: ds, vs => ∃ v ws, vs = v :: ws ∧ Pk K F H d v ∧ PkL K F H ds ws
def JOs (X : Cx) (W : WX) (io : Nat → Option Addr) : List Expr → List Opd → Prop
  | [], [] => True
  | e :: es, o :: os => JO X W io e o ∧ starEach (e :: es) X.env = (false, eval e X.env) :: starEach es X.env ∧ JOs X W io es os
  | _, _ => False
def tOs (K : PySem.W.Frag) (W : WX) (io : Nat → Option Addr) : List Opd → TA
  | [] => tNil
  | o :: os => tCons (tO K W io o) (tOs K W io os)
section
variable {K : PySem.W.Frag} {W : WX} {io : Nat → Option Addr} {P F F' : Hp} {σ : L2.St} {Q : VK} {H : Hp} {ρ : Env}
theorem PdRL.mono (s : Same F F') : ∀ {vs : List V} {ps : List Pd}, PdRL K F σ vs ps → PdRL K F' σ vs ps
  | [], [], _ => trivial
  | _ :: _, _ :: _, ⟨h1, h2⟩ => ⟨h1.mono s, PdRL.mono s h2⟩
  | [], _ :: _, h => h.elim
  | _ :: _, [], h => h.elim
theorem PdRL.pk (S : St K io P F ρ σ H) : ∀ {vs : List V} {ps : List Pd} {ds : List D}, PdRL K F σ vs ps → getL ρ ps = some ds → PkL K F H ds vs
  | [], [], _, _, e => by
    cases e
    exact rfl
  | v :: vs, p :: ps, ds, ⟨h1, h2⟩, e => by
    unfold getL at e
    cases e1 : p.get ρ with
    | none => rw [e1] at e; cases e
    | some d =>
      cases e2 : getL ρ ps with
      | none => rw [e1, e2] at e; cases e
      | some r =>
        rw [e1, e2] at e
        cases e
        exact ⟨v, vs, rfl, h1.pk S e1, PdRL.pk S h2 e2⟩
  | [], _ :: _, _, h, _ => h.elim
  | _ :: _, [], _, h, _ => h.elim
theorem R.bind_assoc {α β γ : Type} (r : R α) (f : α → Env → R β) (g : β → Env → R γ) : (r.bind f).bind g = r.bind fun a ρ => (f a ρ).bind g := by
  cases r <;> rfl
theorem R.ok_bind {α β : Type} (a : α) (ρ : Env) (f : α → Env → R β) : (R.ok a ρ).bind f = f a ρ := rfl
theorem tOs_bind : ∀ (os : List Opd) {f : List Pd → Env → R Sl} {Q' : List V → Hp → Prop} {F : Hp} {ρ : Env} {H : Hp}, St K io P F ρ σ H → ToE K W io P F σ Q ((runO os ρ).bind f) →
    (∀ ps ρ1 vs H1 F1, Same F F1 → St K io P F1 ρ1 σ H1 → PdRL K F1 σ vs ps → ToE K W io P F1 σ Q (f ps ρ1) → Q' vs H1) → (∀ i, .v i ∈ os → ∃ v, σ[i]? = some (some v)) → tOs K W io os σ H Q'
  | [], f, Q', F, ρ, H, S, h, k, _ => k [] ρ [] H F (Same.refl _) S trivial h
  | o :: os, f, Q', F, ρ, H, S, h, k, hv => by
    have e : (runO (o :: os) ρ).bind f = (o.run ρ).bind fun p ρ1 => (runO os ρ1).bind fun ps ρ2 => f (p :: ps) ρ2 := by
      show R.bind ((o.run ρ).bind fun p ρ1 => (runO os ρ1).bind fun ps ρ2 => .ok (p :: ps) ρ2) f = _
      rw [R.bind_assoc]
      congr 1
      funext p ρ1
      rw [R.bind_assoc]
      rfl
    rw [e] at h
    refine tO_bind S h (fun _ _ _ _ => trivial) (fun p ρ1 v H1 F1 s1 S1 R1 h1 => ?_) (fun i ei => hv i (by rw [ei]; exact List.mem_cons_self ..))
    exact tOs_bind os S1 h1 (fun ps ρ2 vs H2 F2 s2 S2 R2 h2 => k (p :: ps) ρ2 (v :: vs) H2 F2 (s1.trans s2) S2 ⟨R1.mono s2, R2⟩ h2) fun i hi => hv i (List.mem_cons_of_mem _ hi)
end
section
variable {X : Cx} {W : WX} {io : Nat → Option Addr} {e : Expr} {es : List Expr} {o : Opd} {os : List Opd} {pos : Pos}
theorem jos_nil : JOs X W io [] [] := trivial
theorem jos_cons (h : JO X W io e o) (r : JOs X W io es os) (hs : starEach (e :: es) X.env = (false, eval e X.env) :: starEach es X.env := by rfl) : JOs X W io (e :: es) (o :: os) := ⟨h, hs, r⟩
theorem JOs.pa : ∀ {es : List Expr} {os : List Opd}, JOs X W io es os → PA X es (tOs X.K W io os)
  | [], [], _ => pa_nil
  | _ :: _, _ :: _, ⟨h, hs, r⟩ => pa_cons h.pe r.pa hs
  | [], _ :: _, h => h.elim
  | _ :: _, [], h => h.elim
end
/-! ### calls of built-ins -/
abbrev OpN := List D → Option Sl
def CallOk (K : PySem.W.Frag) (r : List V → Hp → VK → Prop) (f : OpN) : Prop := ∀ (F H : Hp) (vs : List V) (ds : List D) (z : Sl) (Q : VK), Same F H → PkL K F H ds vs → f ds = some z → Want K F H z Q → r vs H Q
def getN (f : OpN) (ρ : Env) (ps : List Pd) : Option Sl := match getL ρ ps with
  | some ds => f ds
  | none => none
def mOpN (f : OpN) (os : List Opd) : Ex := fun ρ => if os.all (okV ρ) then (runO os ρ).bind fun ps ρ1 => mk (getN f ρ1 ps) ρ1 else .no
section
variable {X : Cx} {W : WX} {io : Nat → Option Addr} {e : Expr} {es : List Expr} {o : Opd} {os : List Opd} {pos p : Pos} {x : Str}
theorem opN_core {r : List V → Hp → VK → Prop} {f : OpN} (hf : CallOk X.K r f) {σ : L2.St} {H : Hp} {Q : VK} (h : tJ X.K W io (mOpN f os) σ H Q) : tOs X.K W io os σ H fun vs H1 => r vs H1 Q := by
  obtain ⟨P, F, ρ, S, h⟩ := h
  obtain ⟨hc, h⟩ := toE_if h
  refine tOs_bind os S h (fun ps ρ1 vs H1 F1 s1 S1 R1 h1 => ?_) fun i hi => okV_v S (List.all_eq_true.mp hc _ hi) i rfl
  obtain ⟨z, e, h2⟩ := mk_some h1
  unfold getN at e
  cases e1 : getL ρ1 ps with
  | none => rw [e1] at e; cases e
  | some ds =>
    rw [e1] at e
    exact hf F1 H1 vs ds z Q S1.fh (R1.pk S1 e1) e (h2.want S1)
theorem je_callB {id : String} {r : List V → Hp → VK → Prop} {f : OpN} (hc : CallR X (.builtin id) r) (hf : CallOk X.K r f) (hm : X.mg x = none) (hv : bootBuiltins x = some (.builtin id)) (ha : JOs X W io (e :: es) os) (hg : Gl X x := by rfl) (hn : x ≠ "__name__" := by decide) (hdb : (x == ("__debug__" : Str)) = false := by decide)
    (he : starEach (e :: es) X.env = (false, eval e X.env) :: starEach es X.env := by rfl) (hpl : (backTo pos (starEach es X.env)).any (·.1) = false := by rfl) : JE X W io (.Call (.Name x p) (e :: es) [] pos) (mOpN f os) :=
  ⟨pei (pe_callB hc hg hm hv ha.pa hn hdb he hpl) fun _ _ _ h => opN_core hf h⟩
theorem je_callTy {T : String} {r : List V → Hp → VK → Prop} {f : OpN} (hc : CallR X (.type T) r) (hf : CallOk X.K r f) (hm : X.mg x = none) (hv : bootBuiltins x = some (.type T)) (ha : JOs X W io (e :: es) os) (hg : Gl X x := by rfl) (hn : x ≠ "__name__" := by decide) (hdb : (x == ("__debug__" : Str)) = false := by decide)
    (he : starEach (e :: es) X.env = (false, eval e X.env) :: starEach es X.env := by rfl) (hpl : (backTo pos (starEach es X.env)).any (·.1) = false := by rfl) : JE X W io (.Call (.Name x p) (e :: es) [] pos) (mOpN f os) :=
  ⟨pei (pe_callTy hc hg hm hv ha.pa hn hdb he hpl) fun _ _ _ h => opN_core hf h⟩
end
/-! ### displays: frozen parts -/
def runE : List Ex → Env → R (List D)
  | [], ρ => .ok [] ρ
  | m :: ms, ρ => (m ρ).bind fun x ρ1 => (runE ms ρ1).bind fun ds ρ2 => .ok (x.d :: ds) ρ2
def JEs (X : Cx) (W : WX) (io : Nat → Option Addr) : List Expr → List Ex → Prop
  | [], [] => True
  | e :: es, m :: ms => JE X W io e m ∧ starEach (e :: es) X.env = (false, eval e X.env) :: starEach es X.env ∧ JEs X W io es ms
  | _, _ => False
def tEs (K : PySem.W.Frag) (W : WX) (io : Nat → Option Addr) : List Ex → TA
  | [] => tNil
  | m :: ms => tCons (tJ K W io m) (tEs K W io ms)
section
variable {K : PySem.W.Frag} {W : WX} {io : Nat → Option Addr} {P F F' : Hp} {σ : L2.St} {Q : VK} {H : Hp} {ρ : Env}
theorem tEs_bind : ∀ (ms : List Ex) {f : List D → Env → R Sl} {Q' : List V → Hp → Prop} {F : Hp} {ρ : Env} {H : Hp}, St K io P F ρ σ H → ToE K W io P F σ Q ((runE ms ρ).bind f) →
    (∀ ds ρ1 vs H1 F1, Same F F1 → St K io P F1 ρ1 σ H1 → FzL K F1 ds vs → ToE K W io P F1 σ Q (f ds ρ1) → Q' vs H1) → tEs K W io ms σ H Q'
  | [], f, Q', F, ρ, H, S, h, k => k [] ρ [] H F (Same.refl _) S rfl h
  | m :: ms, f, Q', F, ρ, H, S, h, k => by
    have e : (runE (m :: ms) ρ).bind f = (m ρ).bind fun x ρ1 => (runE ms ρ1).bind fun ds ρ2 => f (x.d :: ds) ρ2 := by
      show R.bind ((m ρ).bind fun x ρ1 => (runE ms ρ1).bind fun ds ρ2 => .ok (x.d :: ds) ρ2) f = _
      rw [R.bind_assoc]
      congr 1
      funext p ρ1
      rw [R.bind_assoc]
      rfl
    rw [e] at h
    refine tJ_bind S h fun x ρ1 v H1 F1 s1 S1 R1 h1 => ?_
    obtain ⟨F1', s1', S1', q1⟩ := S1.cool R1
    exact tEs_bind ms S1' (h1.up s1') fun ds ρ2 vs H2 F2 s2 S2 R2 h2 => k (x.d :: ds) ρ2 (v :: vs) H2 F2 ((s1.trans s1').trans s2) S2 ⟨v, vs, rfl, q1.mono s2, R2⟩ h2
end
def mTup (ms : List Ex) : Ex := fun ρ => (runE ms ρ).bind fun ds ρ1 => if ds.length ≤ SZ then .ok (.fz (.tup ds)) ρ1 else .no
def mLst (ms : List Ex) : Ex := fun ρ => (runE ms ρ).bind fun ds ρ1 => if ds.length ≤ SZ then .ok (.ow ds) ρ1 else .no
section
variable {X : Cx} {W : WX} {io : Nat → Option Addr} {e : Expr} {es : List Expr} {m : Ex} {ms : List Ex} {pos : Pos}
theorem jes_nil : JEs X W io [] [] := trivial
theorem jes_cons (h : JE X W io e m) (r : JEs X W io es ms) (hs : starEach (e :: es) X.env = (false, eval e X.env) :: starEach es X.env := by rfl) : JEs X W io (e :: es) (m :: ms) := ⟨h, hs, r⟩
theorem JEs.pa : ∀ {es : List Expr} {ms : List Ex}, JEs X W io es ms → PA X es (tEs X.K W io ms)
  | [], [], _ => pa_nil
  | _ :: _, _ :: _, ⟨h, hs, r⟩ => pa_cons h.pe r.pa hs
  | [], _ :: _, h => h.elim
  | _ :: _, [], h => h.elim
theorem toE_ifp {K : PySem.W.Frag} {W : WX} {io : Nat → Option Addr} {P F : Hp} {σ : L2.St} {Q : VK} {c : Prop} [Decidable c] {r : R Sl} (h : ToE K W io P F σ Q (if c then r else .no)) : c ∧ ToE K W io P F σ Q r := by
  by_cases hc : c
  · rw [if_pos hc] at h
    exact ⟨hc, h⟩
  · rw [if_neg hc] at h
    exact h.elim
theorem je_tup {k : Nat} (h : JEs X W io es ms) : JE X W io (.Tuple es k pos) (mTup ms) := ⟨pei (pe_tup h.pa) fun σ H Q q => by
  obtain ⟨P, F, ρ, S, q⟩ := q
  refine tEs_bind ms S q fun ds ρ1 vs H1 F1 s1 S1 R1 h1 => ?_
  obtain ⟨hl, h1⟩ := toE_ifp h1
  refine ⟨by rw [← R1.length]; exact Nat.le_trans hl SZ_le, fun p hp => ?_⟩
  exact (h1.want S1).tup S1.fh hp R1⟩
theorem je_lst (h : JEs X W io es ms) : JE X W io (.List es pos) (mLst ms) := ⟨pei (pe_lst h.pa) fun σ H Q q => by
  obtain ⟨P, F, ρ, S, q⟩ := q
  refine tEs_bind ms S q fun ds ρ1 vs H1 F1 s1 S1 R1 h1 => ?_
  obtain ⟨hl, h1⟩ := toE_ifp h1
  refine ⟨by rw [← R1.length]; exact Nat.le_trans hl SZ_le, fun p hp => ?_⟩
  exact (h1.want S1).lst S1.fh hp R1⟩
end

/-! ### the built-ins on data -/
def lenD : OpN
  | [.lst xs] => some (okI xs.length)
  | [.tup xs] => some (okI xs.length)
  | [.scr xs] => some (okI xs.length)
  | [.str z] => if z.length ≤ SZ then some (okI z.length) else none
  | _ => none
def absD : OpN
  | [.int i] => some (okI (if i < 0 then -i else i))
  | _ => none
def max2D : OpN
  | [.int i, .int j] => some (okI (if j > i then j else i))
  | _ => none
def min2D : OpN
  | [.int i, .int j] => some (okI (if j < i then j else i))
  | _ => none
def intD : OpN
  | [.int i] => some (okI i)
  | [.bl b] => some (okI (if b then 1 else 0))
  | _ => none
def intsOf : List D → Option (List Int)
  | [] => some []
  | .int i :: r => (intsOf r).map fun l => i :: l
  | _ => none
def boolsOf : List D → Option (List Bool)
  | [] => some []
  | .bl i :: r => (boolsOf r).map fun l => i :: l
  | _ => none
def sumD : OpN
  | [.lst xs] => (intsOf xs).map fun l => okI l.sum
  | _ => none
def allD : OpN
  | [.lst xs] => (boolsOf xs).map fun l => okB (l.all id)
  | _ => none
def anyD : OpN
  | [.lst xs] => (boolsOf xs).map fun l => okB (l.any id)
  | _ => none
def listD : OpN
  | [.lst xs] => some (.ow xs)
  | [.tup xs] => some (.ow xs)
  | _ => none
def tupleD : OpN
  | [.lst xs] => some (.fz (.tup xs))
  | [.tup xs] => some (.fz (.tup xs))
  | _ => none
def divmodD : OpN
  | [.int i, .int j] => if 0 < j ∧ j.natAbs < DVB then some (.fz (.tup [.int (i / j), .int (i % j)])) else none
  | _ => none
section
variable {K : PySem.W.Frag} {F H : Hp}
theorem PkL.one {d : D} {vs : List V} (h : PkL K F H [d] vs) : ∃ v, vs = [v] ∧ Pk K F H d v := by
  obtain ⟨v, ws, rfl, h1, h2⟩ := h
  have h2 : ws = [] := h2
  subst h2
  exact ⟨v, rfl, h1⟩
theorem PkL.two {d e : D} {vs : List V} (h : PkL K F H [d, e] vs) : ∃ v w, vs = [v, w] ∧ Pk K F H d v ∧ Pk K F H e w := by
  obtain ⟨v, ws, rfl, h1, h2⟩ := h
  obtain ⟨w, rfl, h3⟩ := PkL.one h2
  exact ⟨v, w, rfl, h1, h3⟩
theorem ok_len : CallOk K (fun xs H Q => ∃ x n, xs = [x] ∧ LenV K x H n ∧ Q (.int n) H) lenD := by
  intro F H vs ds z Q e q h w
  match ds, h with
  | [.lst xs], h =>
    cases h
    obtain ⟨v, rfl, q1⟩ := q.one
    obtain ⟨a, us, rfl, ha, ra⟩ := q1.lst e
    exact ⟨.ref a, us.length, rfl, .inl ⟨us, .inl (.inl ha), rfl⟩, by rw [← ra.length]; exact w.fz e rfl⟩
  | [.tup xs], h =>
    cases h
    obtain ⟨v, rfl, q1⟩ := q.one
    obtain ⟨a, us, rfl, ha, ra⟩ := q1.tup
    exact ⟨.ref a, us.length, rfl, .inr ⟨us, same_seqT e ha, rfl⟩, by rw [← ra.length]; exact w.fz e rfl⟩
  | [.scr xs], h =>
    cases h
    obtain ⟨v, rfl, q1⟩ := q.one
    obtain ⟨a, us, rfl, ha, ra⟩ := q1.scr
    exact ⟨.ref a, us.length, rfl, .inl ⟨us, e.seq ha, rfl⟩, by rw [← ra.length]; exact w.fz e rfl⟩
  | [.str s], h =>
    obtain ⟨h1, rfl⟩ := ifs h
    obtain ⟨v, rfl, q1⟩ := q.one
    cases q1.str
    exact ⟨.str s, s.length, rfl, ⟨Nat.le_trans h1 SZ_le, rfl⟩, w.fz e rfl⟩
theorem ok_abs : CallOk K (fun xs H Q => ∃ i, xs = [.int i] ∧ Q (.int (if i < 0 then -i else i)) H) absD := by
  intro F H vs ds z Q e q h w
  match ds, h with
  | [.int i], h =>
    cases h
    obtain ⟨v, rfl, q1⟩ := q.one
    cases q1.int
    exact ⟨i, rfl, w.fz e rfl⟩
theorem ok_max2 : CallOk K (fun xs H Q => ∃ i j, xs = [.int i, .int j] ∧ Q (.int (if j > i then j else i)) H) max2D := by
  intro F H vs ds z Q e q h w
  match ds, h with
  | [.int i, .int j], h =>
    cases h
    obtain ⟨v, u, rfl, q1, q2⟩ := q.two
    cases q1.int; cases q2.int
    exact ⟨i, j, rfl, w.fz e rfl⟩
theorem ok_min2 : CallOk K (fun xs H Q => ∃ i j, xs = [.int i, .int j] ∧ Q (.int (if j < i then j else i)) H) min2D := by
  intro F H vs ds z Q e q h w
  match ds, h with
  | [.int i, .int j], h =>
    cases h
    obtain ⟨v, u, rfl, q1, q2⟩ := q.two
    cases q1.int; cases q2.int
    exact ⟨i, j, rfl, w.fz e rfl⟩
theorem ok_int : CallOk K (fun xs H Q => (∃ i, xs = [.int i] ∧ Q (.int i) H) ∨ ∃ k, xs = [.bl k] ∧ Q (.int (if k then 1 else 0)) H) intD := by
  intro F H vs ds z Q e q h w
  match ds, h with
  | [.int i], h =>
    cases h
    obtain ⟨v, rfl, q1⟩ := q.one
    cases q1.int
    exact .inl ⟨i, rfl, w.fz e rfl⟩
  | [.bl i], h =>
    cases h
    obtain ⟨v, rfl, q1⟩ := q.one
    cases q1.bl
    exact .inr ⟨i, rfl, w.fz e rfl⟩
theorem ints_rel : ∀ {xs : List D} {vs : List V} {l : List Int}, FzL K F xs vs → intsOf xs = some l → vs = l.map V.int
  | [], _, _, q, h => by
    have q : _ = [] := q
    cases h
    exact q
  | x :: xs, _, l, ⟨v, ws, e, q, r⟩, h => by
    cases x <;> first | (simp [intsOf] at h; done) | skip
    rename_i i
    obtain ⟨l', h1, rfl⟩ := Option.map_eq_some_iff.mp h
    cases (show v = .int i from q)
    rw [e, ints_rel r h1]
    rfl
theorem bools_rel : ∀ {xs : List D} {vs : List V} {l : List Bool}, FzL K F xs vs → boolsOf xs = some l → vs = l.map V.bl
  | [], _, _, q, h => by
    have q : _ = [] := q
    cases h
    exact q
  | x :: xs, _, l, ⟨v, ws, e, q, r⟩, h => by
    cases x <;> first | (simp [boolsOf] at h; done) | skip
    rename_i i
    obtain ⟨l', h1, rfl⟩ := Option.map_eq_some_iff.mp h
    cases (show v = .bl i from q)
    rw [e, bools_rel r h1]
    rfl
theorem ok_sum : CallOk K (rSum K) sumD := by
  intro F H vs ds z Q e q h w
  match ds, h with
  | [.lst xs], h =>
    obtain ⟨l, h1, rfl⟩ := Option.map_eq_some_iff.mp h
    obtain ⟨v, rfl, q1⟩ := q.one
    obtain ⟨a, us, rfl, ha, ra⟩ := q1.lst e
    have e2 := ints_rel ra h1
    subst e2
    exact ⟨a, l, rfl, .inl (.inl ha), w.fz e rfl⟩
theorem ok_all : CallOk K (rAll K) allD := by
  intro F H vs ds z Q e q h w
  match ds, h with
  | [.lst xs], h =>
    obtain ⟨l, h1, rfl⟩ := Option.map_eq_some_iff.mp h
    obtain ⟨v, rfl, q1⟩ := q.one
    obtain ⟨a, us, rfl, ha, ra⟩ := q1.lst e
    have e2 := bools_rel ra h1
    subst e2
    exact ⟨a, l, rfl, .inl (.inl ha), w.fz e rfl⟩
theorem ok_any : CallOk K (rAny K) anyD := by
  intro F H vs ds z Q e q h w
  match ds, h with
  | [.lst xs], h =>
    obtain ⟨l, h1, rfl⟩ := Option.map_eq_some_iff.mp h
    obtain ⟨v, rfl, q1⟩ := q.one
    obtain ⟨a, us, rfl, ha, ra⟩ := q1.lst e
    have e2 := bools_rel ra h1
    subst e2
    exact ⟨a, l, rfl, .inl (.inl ha), w.fz e rfl⟩
theorem ok_list : CallOk K (fun xs H Q => ∃ p ys, xs = [.ref p] ∧ (SqL K H p ys ∨ SqT K H p ys) ∧ ∀ l, H l = none → Q (.ref l) (upd H l (.lst ys))) listD := by
  intro F H vs ds z Q e q h w
  match ds, h with
  | [.lst xs], h =>
    cases h
    obtain ⟨v, rfl, q1⟩ := q.one
    obtain ⟨a, us, rfl, ha, ra⟩ := q1.lst e
    exact ⟨a, us, rfl, .inl (.inl (.inl ha)), fun l hl => w.lst e hl ra⟩
  | [.tup xs], h =>
    cases h
    obtain ⟨v, rfl, q1⟩ := q.one
    obtain ⟨a, us, rfl, ha, ra⟩ := q1.tup
    exact ⟨a, us, rfl, .inr (same_seqT e ha), fun l hl => w.lst e hl ra⟩
theorem ok_tuple : CallOk K (fun xs H Q => ∃ p ys, xs = [.ref p] ∧ ((SqL K H p ys ∧ ∀ l, H l = none → Q (.ref l) (upd H l (.tup ys))) ∨ (SqT K H p ys ∧ Q (.ref p) H))) tupleD := by
  intro F H vs ds z Q e q h w
  match ds, h with
  | [.lst xs], h =>
    cases h
    obtain ⟨v, rfl, q1⟩ := q.one
    obtain ⟨a, us, rfl, ha, ra⟩ := q1.lst e
    exact ⟨a, us, rfl, .inl ⟨.inl (.inl ha), fun l hl => w.tup e hl ra⟩⟩
  | [.tup xs], h =>
    cases h
    obtain ⟨v, rfl, q1⟩ := q.one
    obtain ⟨a, us, rfl, ha, ra⟩ := q1.tup
    exact ⟨a, us, rfl, .inr ⟨same_seqT e ha, w.fz e ⟨a, us, rfl, ha, ra⟩⟩⟩
theorem ok_divmod : CallOk K (fun xs H Q => ∃ i j, xs = [.int i, .int j] ∧ CDivP i j ∧ ∀ p, H p = none → Q (.ref p) (upd H p (.tup [.int (i / j), .int (i % j)]))) divmodD := by
  intro F H vs ds z Q e q h w
  match ds, h with
  | [.int i, .int j], h =>
    obtain ⟨⟨h1, h2⟩, rfl⟩ := ifs h
    obtain ⟨v, u, rfl, q1, q2⟩ := q.two
    cases q1.int; cases q2.int
    unfold DVB at h2
    refine ⟨i, j, rfl, ⟨h1, PyProof.noPylong_of_log2 ?_⟩, fun p hp => w.tup e hp ⟨_, _, rfl, rfl, _, _, rfl, rfl, rfl⟩⟩
    have h3 := PySem.Flt.log2_lt_of (show 0 < 8192 by decide) h2
    omega
end
/-! ### isinstance -/
def D.ty : D → String
  | .non => "NoneType"
  | .bl _ => "bool"
  | .int _ => "int"
  | .str _ => "str"
  | .tup _ => "tuple"
  | .lst _ => "list"
  | .scr _ => "list"
  | .dic _ => "dict"
  | .cst _ => "?"
  | .exo _ => "?"
def D.isTy (d : D) (T : String) : Bool := d.ty == T || (d.ty == "bool" && T == "int")
def D.notC : D → Bool
  | .cst _ => false
  | .exo _ => false
  | _ => true
def okTy (T : String) : Bool := ["int", "bool", "str", "tuple", "list"].contains T
theorem kit_of_ty {d : D} {T : String} (hd : d.notC = true) (hT : okTy T = true) : kitB d.ty T = some (d.isTy T) := by
  have h : T = "int" ∨ T = "bool" ∨ T = "str" ∨ T = "tuple" ∨ T = "list" := by
    simpa [okTy] using hT
  rcases h with rfl | rfl | rfl | rfl | rfl <;> cases d <;> first | (simp [D.notC] at hd; done) | (simp only [D.isTy, D.ty]; decide +kernel)
theorem Pk.tyX {K : PySem.W.Frag} {F H : Hp} {d : D} {v : V} (e : Same F H) (q : Pk K F H d v) (h : d.notC = true) : TyX K H v (.type d.ty) := by
  cases d with
  | non => cases q.non; exact .base .non
  | bl b => cases q.bl; exact .base (.bl b)
  | int b => cases q.int; exact .base (.int b)
  | str b => cases q.str; exact .base (.str b)
  | tup xs =>
    obtain ⟨a, vs, rfl, h1, _⟩ := q.tup
    rcases same_seqT e h1 with (h2 | ⟨o, h2⟩) | ⟨o, its, n, h2, h3, _⟩
    · exact .base (.tup h2)
    · exact .fTuple h2
    · exact .kTuple h2 h3
  | lst xs =>
    obtain ⟨a, vs, rfl, h1, _⟩ := q.lst e
    exact .base (.lst h1)
  | scr xs =>
    obtain ⟨a, vs, rfl, h1, _⟩ := q.scr
    rcases e.seq h1 with (h2 | ⟨o, h2⟩) | ⟨o, its, n, h2, h3, _⟩
    · exact .base (.lst h2)
    · exact .base (.frz h2)
    · exact .kList h2 h3
  | dic kvs =>
    obtain ⟨a, ws, rfl, h1, _⟩ := q.dic
    exact .base (.dK (e _ _ h1))
  | cst x => cases h
  | exo x => cases h
def isiD (T : String) : Op1 := fun d => if d.notC && okTy T then some (okB (d.isTy T)) else none
def isiTD (Ts : List String) : Op1 := fun d => if d.notC && Ts.all okTy then some (okB (Ts.any d.isTy)) else none
section
variable {X : Cx} {W : WX} {io : Nat → Option Addr} {e : Expr} {o : Opd} {pos p p2 : Pos}
/-- the name of a built-in type -/
structure IsT (X : Cx) (e : Expr) (T : String) : Prop where
  pe : PE X e (tC (.ty T))
theorem isT {x : Str} {T : String} (hm : X.mg x = none) (hv : bootBuiltins x = some (.type T)) (hg : Gl X x := by rfl) (hn : x ≠ "__name__" := by decide) (hd : (x == ("__debug__" : Str)) = false := by decide) : IsT X (.Name x pos) T := ⟨pe_bltn hg hm hv (v := .ty T) rfl hn hd⟩
theorem je_isi {T : String} {c : Expr} (hm : X.mg "isinstance" = none) (ho : JO X W io e o) (hT : IsT X c T) (hg : Gl X "isinstance" := by rfl)
    (h1 : starEach [e, c] X.env = (false, eval e X.env) :: starEach [c] X.env := by rfl) (h2 : starEach [c] X.env = (false, eval c X.env) :: starEach [] X.env := by rfl) (hpl : (backTo pos (starEach [c] X.env)).any (·.1) = false := by rfl) :
    JE X W io (.Call (.Name "isinstance" p) [e, c] [] pos) (mOp1 (isiD T) o) := by
  refine ⟨pei (pe_callB call_isi hg hm (by decide +kernel) (pa_cons ho.pe (pa_cons hT.pe pa_nil h2) h1) (by decide) (by decide) h1 hpl) fun σ H Q h => ?_⟩
  obtain ⟨P, F, ρ, S, h⟩ := h
  obtain ⟨hc, h⟩ := toE_if h
  refine tO_bind S h (fun _ _ _ _ => trivial) (fun p ρ1 v H1 F1 s1 S1 R1 h1 => ?_) (okV_v S hc)
  obtain ⟨z, e, h3⟩ := mk_some h1
  unfold get1 at e
  cases e1 : p.get ρ1 with
  | none => rw [e1] at e; cases e
  | some dx =>
    rw [e1] at e
    obtain ⟨h4, rfl⟩ := ifs e
    rw [Bool.and_eq_true] at h4
    have q := R1.pk S1 e1
    exact ⟨v, .ty T, _, _, _, rfl, .ty T, q.tyX S1.fh h4.1, kit_ty (kit_of_ty h4.1 h4.2), (h3.want S1).fz S1.fh rfl⟩
def IsTs (X : Cx) : List Expr → List String → Prop
  | [], [] => True
  | e :: es, T :: Ts => IsT X e T ∧ starEach (e :: es) X.env = (false, eval e X.env) :: starEach es X.env ∧ IsTs X es Ts
  | _, _ => False
theorem ists_nil : IsTs X [] [] := trivial
theorem ists_cons {T : String} {es : List Expr} {Ts : List String} (h : IsT X e T) (r : IsTs X es Ts) (hs : starEach (e :: es) X.env = (false, eval e X.env) :: starEach es X.env := by rfl) : IsTs X (e :: es) (T :: Ts) := ⟨h, hs, r⟩
def tTs : List String → TA
  | [] => tNil
  | T :: Ts => tCons (tC (.ty T)) (tTs Ts)
theorem IsTs.pa : ∀ {es : List Expr} {Ts : List String}, IsTs X es Ts → PA X es (tTs Ts)
  | [], [], _ => pa_nil
  | _ :: _, _ :: _, ⟨h, hs, r⟩ => pa_cons h.pe r.pa hs
  | [], _ :: _, h => h.elim
  | _ :: _, [], h => h.elim
theorem tTs_run : ∀ (Ts : List String) {σ : L2.St} {H : Hp} {Q : List V → Hp → Prop}, Q (Ts.map V.ty) H → tTs Ts σ H Q
  | [], _, _, _, q => q
  | _ :: Ts, _, _, _, q => tTs_run Ts q
theorem kitAny_of {K : PySem.W.Frag} {d : D} (hd : d.notC = true) : ∀ (Ts : List String), Ts.all okTy = true → PySem.W.kitAny K (.type d.ty) (Ts.map Value.type) = some (Ts.any d.isTy)
  | [], _ => rfl
  | T :: Ts, h => by
    rw [List.all_cons, Bool.and_eq_true] at h
    refine kitAny_cons (kit_ty (kit_of_ty hd h.1)) (fun hb => ?_) fun hb => ?_
    · rw [kitAny_of hd Ts h.2, List.any_cons, hb, Bool.false_or]
    · rw [List.any_cons, hb, Bool.true_or]
theorem je_isiT {Ts : List String} {es : List Expr} {k : Nat} (hm : X.mg "isinstance" = none) (ho : JO X W io e o) (hT : IsTs X es Ts) (hl : Ts.length ≤ 100 := by decide) (hg : Gl X "isinstance" := by rfl)
    (h1 : starEach [e, .Tuple es k p2] X.env = (false, eval e X.env) :: starEach [.Tuple es k p2] X.env := by rfl) (h2 : starEach [.Tuple es k p2] X.env = (false, eval (.Tuple es k p2) X.env) :: starEach [] X.env := by rfl) (hpl : (backTo pos (starEach [.Tuple es k p2] X.env)).any (·.1) = false := by rfl) :
    JE X W io (.Call (.Name "isinstance" p) [e, .Tuple es k p2] [] pos) (mOp1 (isiTD Ts) o) := by
  refine ⟨pei (pe_callB call_isiT hg hm (by decide +kernel) (pa_cons ho.pe (pa_cons (pe_tup hT.pa) pa_nil h2) h1) (by decide) (by decide) h1 hpl) fun σ H Q h => ?_⟩
  obtain ⟨P, F, ρ, S, h⟩ := h
  obtain ⟨hc, h⟩ := toE_if h
  refine tO_bind S h (fun _ _ _ _ => trivial) (fun p ρ1 v H1 F1 s1 S1 R1 h1 => ?_) (okV_v S hc)
  obtain ⟨z, e, h3⟩ := mk_some h1
  unfold get1 at e
  cases e1 : p.get ρ1 with
  | none => rw [e1] at e; cases e
  | some dx =>
    rw [e1] at e
    obtain ⟨h4, rfl⟩ := ifs e
    rw [Bool.and_eq_true] at h4
    refine tTs_run Ts ⟨by rw [List.length_map, sizeLine_eq]; omega, fun n hq => ?_⟩
    have q := R1.pk S1 e1
    have ex := Ext.laid (o := .tup (Ts.map V.ty)) S1.fh hq
    have q' : Pk X.K F1 (upd H1 n (.tup (Ts.map V.ty))) dx v := by
      rcases q with q | ⟨xs, a, vs, r1, r2, r3, r4⟩
      · exact .inl q
      · exact .inr ⟨xs, a, vs, r1, r2, ex.h _ _ r3, r4⟩
    refine ⟨v, n, Ts.map V.ty, _, Ts.map Value.type, _, rfl, upd_same, ?_, q'.tyX ex.fh h4.1, kitAny_of h4.1 Ts h4.2, (h3.want S1) _ _ _ ex rfl⟩
    have : ∀ l : List String, Paired ClsV (l.map V.ty) (l.map Value.type) := fun l => by
      induction l with
      | nil => exact .nil
      | cons a l ih => exact .cons (.ty a) ih
    exact this Ts
end
end Mi

namespace Mi
open PySem PySem.Spec PyProof.Rows L2

/-! ### tests -/
def D.tru : D → Option Bool
  | .non => some false
  | .bl b => some b
  | .int i => some (i != 0)
  | .str z => if z.length ≤ SZ then some ((z.length : Int) != 0) else none
  | .tup xs => some (!xs.isEmpty)
  | .lst xs => some (!xs.isEmpty)
  | .scr xs => some (!xs.isEmpty)
  | .dic xs => some (!xs.isEmpty)
  | .cst _ => none
  | .exo _ => none
def mkT (o : Option Bool) (ρ : Env) : R Bool := match o with
  | some z => .ok z ρ
  | none => .no
def mTru (o : Opd) : Te := fun ρ => if okV ρ o then (o.run ρ).bind fun p ρ1 => mkT ((p.get ρ1).bind D.tru) ρ1 else .no
/-- an expression that gives a bool, as a test -/
def toT (m : Ex) : Te := fun ρ => (m ρ).bind fun r ρ1 => match r with
  | .fz (.bl b) => .ok b ρ1
  | _ => .no
section
variable {K : PySem.W.Frag} {W : WX} {io : Nat → Option Addr} {P F F' : Hp} {σ : L2.St} {H : Hp} {ρ : Env}
theorem toT_if {Q : Bool → Hp → Prop} {c : Bool} {r : R Bool} (h : ToT K W io P F σ Q (if c then r else .no)) : c = true ∧ ToT K W io P F σ Q r := by
  cases c with
  | true => exact ⟨rfl, h⟩
  | false => exact h.elim
theorem mkT_some {Q : Bool → Hp → Prop} {o : Option Bool} (h : ToT K W io P F σ Q (mkT o ρ)) : ∃ z, o = some z ∧ ToT K W io P F σ Q (.ok z ρ) := by
  cases o with
  | none => exact h.elim
  | some z => exact ⟨z, rfl, h⟩
theorem toT_core {m : Ex} {Q : Bool → Hp → Prop} (h : tJT K W io (toT m) σ H Q) : tJ K W io m σ H fun x H' => ∃ k, x = .bl k ∧ Q k H' := by
  obtain ⟨P, F, ρ, S, h⟩ := h
  refine ⟨P, F, ρ, S, ?_⟩
  unfold toT at h
  cases e : m ρ with
  | no => rw [e] at h; exact h
  | ex c ρ1 => rw [e] at h; exact h
  | ok r ρ1 =>
    rw [e] at h
    cases r with
    | io xs => exact (show False from h).elim
    | ow xs => exact (show False from h).elim
    | fz d =>
      cases d <;> first | (exact (show False from h).elim) | skip
      rename_i b
      intro v H' F' s S' r
      cases (show v = .bl b from r)
      exact ⟨b, rfl, (show ∀ H' F', Same F F' → St K io P F' ρ1 σ H' → Q b H' from h) H' F' s S'⟩
/-- an operand, then the rest (a test) -/
theorem tO_bindT {o : Opd} {f : Pd → Env → R Bool} {Q : Bool → Hp → Prop} {Q' : VK} (S : St K io P F ρ σ H) (h : ToT K W io P F σ Q ((o.run ρ).bind f))
    (k : ∀ p ρ1 v H1 F1, Same F F1 → St K io P F1 ρ1 σ H1 → PdR K F1 σ v p → ToT K W io P F1 σ Q (f p ρ1) → Q' v H1) (hs : ∀ i, o = .v i → ∃ v, σ[i]? = some (some v)) : tO K W io o σ H Q' := by
  cases o with
  | v i =>
    obtain ⟨v, e⟩ := hs i rfl
    exact ⟨v, e, k (.i i) ρ v H F (Same.refl _) S e h⟩
  | e m =>
    have e : ((Opd.e m).run ρ).bind f = (m ρ).bind fun x ρ1 => f (.d x.d) ρ1 := by
      show R.bind ((m ρ).bind fun x ρ1 => .ok (.d x.d) ρ1) f = _
      cases m ρ <;> rfl
    rw [e] at h
    refine tJ_bindT S h fun r ρ1 v H1 F1 s1 S1 R1 h1 => ?_
    obtain ⟨F1', s', S1', q⟩ := S1.cool R1
    exact k (.d r.d) ρ1 v H1 F1' (s1.trans s') S1' q (h1.up s')
end
theorem FzK.isEmpty {K : PySem.W.Frag} {F : Hp} : ∀ {ds : List (Key × D)} {ws : List (Key × V)}, FzK K F ds ws → ds.isEmpty = ws.isEmpty
  | [], _, q => by
    have q : _ = [] := q
    rw [q]
    rfl
  | (_, _) :: _, _, ⟨v, w2, e, _, _⟩ => by rw [e]; rfl
theorem Pk.tru {K : PySem.W.Frag} {F H : Hp} {d : D} {v : V} {k : Bool} (e : Same F H) (q : Pk K F H d v) (h : d.tru = some k) : TruV K v H k := by
  cases d with
  | non => cases q.non; cases h; exact rfl
  | bl b => cases q.bl; cases h; exact rfl
  | int i => cases q.int; cases h; exact rfl
  | str z =>
    cases q.str
    simp only [D.tru] at h
    split at h
    · rename_i h1
      cases h
      exact ⟨Nat.le_trans h1 SZ_le, rfl⟩
    · cases h
  | tup xs =>
    obtain ⟨a, vs, rfl, h1, h2⟩ := q.tup
    cases h
    exact .inr (.inl ⟨vs, same_seqT e h1, by rw [h2.isEmpty]⟩)
  | lst xs =>
    obtain ⟨a, vs, rfl, h1, h2⟩ := q.lst e
    cases h
    exact .inl ⟨vs, .inl (.inl h1), by rw [h2.isEmpty]⟩
  | scr xs =>
    obtain ⟨a, vs, rfl, h1, h2⟩ := q.scr
    cases h
    exact .inl ⟨vs, e.seq h1, by rw [h2.isEmpty]⟩
  | dic xs =>
    obtain ⟨a, vs, rfl, h1, h2⟩ := q.dic
    cases h
    exact .inr (.inr ⟨vs, e _ _ h1, by rw [h2.isEmpty]⟩)
  | cst x => cases h
  | exo x => cases h
section
variable {X : Cx} {W : WX} {io : Nat → Option Addr} {a b c : Expr} {o oa ob oc : Opd} {ma mb : Ex} {ta tb : Te} {rest : List Expr} {pos : Pos}
theorem jt_val (ho : JO X W io a o) (he : ∀ whole, isTrue a X.env whole = (do let v ← whole; standAt a.pos; holding [v] (truthy v)) := by intro _; rfl) : JT X W io a (mTru o) := by
  refine ⟨pti (pt_truth ho.pe he) fun σ H Q h => ?_⟩
  obtain ⟨P, F, ρ, S, h⟩ := h
  obtain ⟨hc, h⟩ := toT_if h
  refine tO_bindT S h (fun p ρ1 v H1 F1 s1 S1 R1 h1 => ?_) (okV_v S hc)
  obtain ⟨k, e, h2⟩ := mkT_some h1
  obtain ⟨d, e1, e2⟩ := Option.bind_eq_some_iff.mp e
  exact ⟨k, (R1.pk S1 e1).tru S1.fh e2, h2 H1 F1 (Same.refl _) S1⟩
theorem jt_cmp {op : CmpOp} {r : R2} {f : Op2} (ho : OpR X (compareOp op) r) (hf : OpOk X.K r f) (hm : behindInMarks op b = false) (ha : JO X W io a oa) (hb : JO X W io b ob) : JT X W io (.Compare a [op] [b] pos) (toT (mOp2 f oa ob)) :=
  ⟨pti (pt_cmpR ho ha.pe hb.pe hm) fun _ _ _ h => op2_core hf (toT_core h)⟩
/-! ### chains -/
def mChain (f f' : Op2) (a b c : Opd) : Ex := fun ρ => if okV ρ a && okV ρ b && okV ρ c then (a.run ρ).bind fun p ρ1 => (b.run ρ1).bind fun q ρ2 => match get2 f ρ2 p q with
  | some (.fz (.bl true)) => (c.run ρ2).bind fun r ρ3 => mk (get2 f' ρ3 q r) ρ3
  | some (.fz (.bl false)) => .ok (okB false) ρ2
  | _ => .no else .no
theorem get2_some {f : Op2} {ρ : Env} {p q : Pd} {z : Sl} (h : get2 f ρ p q = some z) : ∃ x y, p.get ρ = some x ∧ q.get ρ = some y ∧ f x y = some z := by
  unfold get2 at h
  cases e1 : p.get ρ with
  | none => rw [e1] at h; cases h
  | some x =>
    cases e2 : q.get ρ with
    | none => rw [e1, e2] at h; cases h
    | some y =>
      rw [e1, e2] at h
      exact ⟨x, y, rfl, rfl, h⟩
theorem okV_keep {K : PySem.W.Frag} {io : Nat → Option Addr} {P F H : Hp} {σ : L2.St} {ρ : Env} {o : Opd} (S : St K io P F ρ σ H) (h : okV ρ o = true) : ∀ i, o = .v i → ∃ v, σ[i]? = some (some v) := okV_v S h
theorem chain_core {r r' : R2} {f f' : Op2} (hf : OpOk X.K r f) (hf' : OpOk X.K r' f') {σ : L2.St} {H : Hp} {Q : VK} (h : tJ X.K W io (mChain f f' oa ob oc) σ H Q) : tChain r r' (tO X.K W io oa) (tO X.K W io ob) (tO X.K W io oc) σ H Q := by
  obtain ⟨P, F, ρ, S, h⟩ := h
  obtain ⟨hc, h⟩ := toE_if h
  rw [Bool.and_eq_true, Bool.and_eq_true] at hc
  refine tO_bind S h (fun _ _ _ _ => trivial) (fun p ρ1 v H1 F1 s1 S1 R1 h1 => ?_) (okV_v S hc.1.1)
  refine tO_bind S1 h1 (fun _ _ _ _ => trivial) (fun q ρ2 u H2 F2 s2 S2 R2 h2 => ?_) (okV_v S hc.1.2)
  cases e : get2 f ρ2 p q with
  | none => rw [e] at h2; exact (show False from h2).elim
  | some z =>
    obtain ⟨x, y, e1, e2, e3⟩ := get2_some e
    rw [e] at h2
    refine hf F2 H2 v u x y z _ S2.fh ((R1.mono s2).pk S2 e1) (R2.pk S2 e2) e3 fun w H3 F3 ex rt => ?_
    cases z with
    | io xs => exact rt.elim
    | ow xs => exact (show False from h2).elim
    | fz d =>
      cases d <;> first | (exact (show False from h2).elim) | skip
      rename_i k
      cases (show w = .bl k from rt)
      refine ⟨k, rfl, ?_⟩
      cases k with
      | false =>
        rw [if_neg Bool.false_ne_true]
        exact (show ∀ v H' F', Same F2 F' → _ from h2) _ H3 F3 ex.f (S2.ext ex) rfl
      | true =>
        rw [if_pos rfl]
        have S3 := S2.ext ex
        have h3 : ToE X.K W io P F3 σ Q ((oc.run ρ2).bind fun r ρ3 => mk (get2 f' ρ3 q r) ρ3) := ToE.up ex.f h2
        refine tO_bind S3 h3 (fun _ _ _ _ => trivial) (fun r ρ4 w H4 F4 s4 S4 R4 h4 => ?_) (fun i ei => okV_v S hc.2 i ei)
        obtain ⟨z', e', h5⟩ := mk_some h4
        obtain ⟨x', y', e1', e2', e3'⟩ := get2_some e'
        exact hf' F4 H4 u w x' y' z' Q S4.fh ((R2.mono (ex.f.trans s4)).pk S4 e1') (R4.pk S4 e2') e3' (h5.want S4)
theorem je_chain {op op' : CmpOp} {r r' : R2} {f f' : Op2} (ho : OpR X (compareOp op) r) (hf : OpOk X.K r f) (ho' : OpR X (compareOp op') r') (hf' : OpOk X.K r' f') (ha : JO X W io a oa) (hb : JO X W io b ob) (hc : JO X W io c oc)
    (hm : lastMarks [op, op'] [b, c] = false := by with_unfolding_all rfl) : JE X W io (.Compare a [op, op'] [b, c] pos) (mChain f f' oa ob oc) := ⟨pei (pe_chain ho ho' ha.pe hb.pe hc.pe hm) fun _ _ _ h => chain_core hf hf' h⟩
theorem jt_chain {op op' : CmpOp} {r r' : R2} {f f' : Op2} (ho : OpR X (compareOp op) r) (hf : OpOk X.K r f) (ho' : OpR X (compareOp op') r') (hf' : OpOk X.K r' f') (ha : JO X W io a oa) (hb : JO X W io b ob) (hc : JO X W io c oc)
    (hm : lastMarks [op, op'] [b, c] = false := by with_unfolding_all rfl) : JT X W io (.Compare a [op, op'] [b, c] pos) (toT (mChain f f' oa ob oc)) := ⟨pti (pt_chain ho ho' ha.pe hb.pe hc.pe hm) fun _ _ _ h => chain_core hf hf' (toT_core h)⟩
/-! ### and, or, not -/
structure JW (X : Cx) (W : WX) (io : Nat → Option Addr) (e : Expr) (m : Te) : Prop where
  pw : PW X e (tJT X.K W io m)
theorem JW.jt {e : Expr} {m : Te} (h : JW X W io e m) : JT X W io e m := ⟨h.pw.pt⟩
theorem pwi {e : Expr} {t t' : TT} (h : PW X e t) (f : ∀ σ H Q, t' σ H Q → t σ H Q) : PW X e t' := ⟨fun wh pins s σ H Q I q => h.run wh pins s σ H Q I (f σ H Q q)⟩
def mAndT (a b : Te) : Te := fun ρ => (a ρ).bind fun c ρ1 => if c then b ρ1 else .ok false ρ1
def mOrT (a b : Te) : Te := fun ρ => (a ρ).bind fun c ρ1 => if c then .ok true ρ1 else b ρ1
def mNotT (a : Te) : Te := fun ρ => (a ρ).bind fun c ρ1 => .ok (!c) ρ1
theorem jw_and1 (h : JT X W io a ta) : JW X W io (.BoolOp .And [a] pos) ta := ⟨pw_and1 h.pt⟩
theorem jw_or1 (h : JT X W io a ta) : JW X W io (.BoolOp .Or [a] pos) ta := ⟨pw_or1 h.pt⟩
theorem jw_and (ha : JT X W io a ta) (hb : JW X W io (.BoolOp .And (b :: rest) pos) tb) : JW X W io (.BoolOp .And (a :: b :: rest) pos) (mAndT ta tb) := by
  refine ⟨pwi (pw_and ha.pt hb.pw) fun σ H Q h => ?_⟩
  obtain ⟨P, F, ρ, S, h⟩ := h
  refine tJT_bindT S h fun c ρ1 H1 F1 s1 S1 h1 => ?_
  cases c with
  | true => exact ⟨P, F1, ρ1, S1, h1⟩
  | false =>
    rw [if_neg Bool.false_ne_true]
    exact h1 H1 F1 (Same.refl _) S1
theorem jw_or (ha : JT X W io a ta) (hb : JW X W io (.BoolOp .Or (b :: rest) pos) tb) : JW X W io (.BoolOp .Or (a :: b :: rest) pos) (mOrT ta tb) := by
  refine ⟨pwi (pw_or ha.pt hb.pw) fun σ H Q h => ?_⟩
  obtain ⟨P, F, ρ, S, h⟩ := h
  refine tJT_bindT S h fun c ρ1 H1 F1 s1 S1 h1 => ?_
  cases c with
  | true =>
    rw [if_pos rfl]
    exact h1 H1 F1 (Same.refl _) S1
  | false => exact ⟨P, F1, ρ1, S1, h1⟩
theorem jt_not (ha : JT X W io a ta) : JT X W io (.UnaryOp .Not a pos) (mNotT ta) := by
  refine ⟨pti (pt_not ha.pt) fun σ H Q h => ?_⟩
  obtain ⟨P, F, ρ, S, h⟩ := h
  exact tJT_bindT S h fun c ρ1 H1 F1 s1 S1 h1 => h1 H1 F1 (Same.refl _) S1
/-- .. as values -/
def mAnd (a b : Ex) : Ex := fun ρ => (a ρ).bind fun x ρ1 => match x with
  | .fz (.bl true) => b ρ1
  | .fz (.bl false) => .ok (okB false) ρ1
  | _ => .no
def mOr (a b : Ex) : Ex := fun ρ => (a ρ).bind fun x ρ1 => match x with
  | .fz (.bl false) => b ρ1
  | .fz (.bl true) => .ok (okB true) ρ1
  | _ => .no
def mNot (a : Ex) : Ex := fun ρ => (a ρ).bind fun x ρ1 => match x with
  | .fz (.bl c) => .ok (okB !c) ρ1
  | _ => .no
theorem je_one {op : BoolOp} (h : JE X W io a ma) : JE X W io (.BoolOp op [a] pos) ma := ⟨pe_one h.pe⟩
theorem je_and (ha : JE X W io a ma) (hb : JE X W io (.BoolOp .And (b :: rest) pos) mb) : JE X W io (.BoolOp .And (a :: b :: rest) pos) (mAnd ma mb) := by
  refine ⟨pei (pe_and ha.pe hb.pe) fun σ H Q h => ?_⟩
  obtain ⟨P, F, ρ, S, h⟩ := h
  refine tJ_bind S h fun x ρ1 v H1 F1 s1 S1 R1 h1 => ?_
  cases x with
  | io xs => exact R1.elim
  | ow xs => exact (show False from h1).elim
  | fz d =>
    cases d <;> first | (exact (show False from h1).elim) | skip
    rename_i k
    cases (show v = .bl k from R1)
    refine ⟨k, rfl, ?_⟩
    cases k with
    | true => exact ⟨P, F1, ρ1, S1, h1⟩
    | false =>
      rw [if_neg Bool.false_ne_true]
      exact (show ∀ v H' F', Same F1 F' → _ from h1) _ H1 F1 (Same.refl _) S1 rfl
theorem je_or (ha : JE X W io a ma) (hb : JE X W io (.BoolOp .Or (b :: rest) pos) mb) : JE X W io (.BoolOp .Or (a :: b :: rest) pos) (mOr ma mb) := by
  refine ⟨pei (pe_or ha.pe hb.pe) fun σ H Q h => ?_⟩
  obtain ⟨P, F, ρ, S, h⟩ := h
  refine tJ_bind S h fun x ρ1 v H1 F1 s1 S1 R1 h1 => ?_
  cases x with
  | io xs => exact R1.elim
  | ow xs => exact (show False from h1).elim
  | fz d =>
    cases d <;> first | (exact (show False from h1).elim) | skip
    rename_i k
    cases (show v = .bl k from R1)
    refine ⟨k, rfl, ?_⟩
    cases k with
    | false => exact ⟨P, F1, ρ1, S1, h1⟩
    | true =>
      rw [if_pos rfl]
      exact (show ∀ v H' F', Same F1 F' → _ from h1) _ H1 F1 (Same.refl _) S1 rfl
theorem je_not (ha : JE X W io a ma) : JE X W io (.UnaryOp .Not a pos) (mNot ma) := by
  refine ⟨pei (pe_not ha.pe) fun σ H Q h => ?_⟩
  obtain ⟨P, F, ρ, S, h⟩ := h
  refine tJ_bind S h fun x ρ1 v H1 F1 s1 S1 R1 h1 => ?_
  cases x with
  | io xs => exact R1.elim
  | ow xs => exact (show False from h1).elim
  | fz d =>
    cases d <;> first | (exact (show False from h1).elim) | skip
    rename_i k
    cases (show v = .bl k from R1)
    exact ⟨k, rfl, (show ∀ v H' F', Same F1 F' → _ from h1) _ H1 F1 (Same.refl _) S1 rfl⟩
def mIf (t : Te) (a b : Ex) : Ex := fun ρ => (t ρ).bind fun c ρ1 => if c then a ρ1 else b ρ1
theorem je_if (ht : JT X W io c ta) (ha : JE X W io a ma) (hb : JE X W io b mb) : JE X W io (.IfExp c a b pos) (mIf ta ma mb) := by
  refine ⟨pei (pe_ifExp ht.pt ha.pe hb.pe) fun σ H Q h => ?_⟩
  obtain ⟨P, F, ρ, S, h⟩ := h
  refine tJT_bind S h fun c ρ1 H1 F1 s1 S1 h1 => ?_
  cases c with
  | true => exact ⟨P, F1, ρ1, S1, h1⟩
  | false => exact ⟨P, F1, ρ1, S1, h1⟩
end
/-! ### slices -/
def cutG {α : Type} (xs : List α) (lo hi : Option Int) : List α := (xs.drop (HT.sIx xs.length 0 lo)).take (HT.sIx xs.length xs.length hi - HT.sIx xs.length 0 lo)
def sliceD (lo hi : Option Int) : Op1
  | .lst xs => some (.ow (cutG xs lo hi))
  | .tup xs => some (.fz (.tup (cutG xs lo hi)))
  | .str z => if z.length ≤ SZ then some (.fz (.str (cutS z lo hi))) else none
  | _ => none
theorem cut_rel {K : PySem.W.Frag} {F : Hp} {ds : List D} {vs : List V} (q : FzL K F ds vs) (lo hi : Option Int) : FzL K F (cutG ds lo hi) (cutV vs lo hi) := by
  unfold cutG cutV
  rw [q.length]
  exact (q.drop _).take _
theorem cut_whole {α : Type} {xs : List α} {lo hi : Option Int} (h : HT.sIx xs.length 0 lo = 0 ∧ HT.sIx xs.length xs.length hi = xs.length) : cutG xs lo hi = xs := by
  unfold cutG
  rw [h.1, h.2]
  simp
/-- a part of a slice: left out, or an int -/
inductive Part where
  | no | e (o : Opd)
def Part.run (ρ : Env) : Part → R (Option Int)
  | .no => .ok none ρ
  | .e o => if okV ρ o then (o.run ρ).bind fun p ρ1 => match p.get ρ1 with
    | some (.int i) => .ok (some i) ρ1
    | _ => .no else .no
def mSl (o : Opd) (lo hi : Part) : Ex := fun ρ => if okV ρ o then (o.run ρ).bind fun p ρ1 => (lo.run ρ1).bind fun l ρ2 => (hi.run ρ2).bind fun h ρ3 => mk (get1 (sliceD l h) ρ3 p) ρ3 else .no
abbrev rSlAll (K : PySem.W.Frag) : V → Option Int → Option Int → Hp → VK → Prop := fun x lo hi H Q => rSlL K x lo hi H Q ∨ rSlA K x lo hi H Q ∨ rSlS x lo hi H Q
theorem slr_all {X : Cx} : SlR X (rSlAll X.K) := sl_list.or (sl_tupA.or sl_str)
theorem ok_slice {K : PySem.W.Frag} {lo hi : Option Int} {F H : Hp} {x : V} {dx : D} {z : Sl} {Q : VK} (e : Same F H) (q : Pk K F H dx x) (h : sliceD lo hi dx = some z) (w : Want K F H z Q) : rSlAll K x lo hi H Q := by
  cases dx <;> first | (simp [sliceD] at h; done) | skip
  · rename_i s
    cases q.str
    simp only [sliceD] at h
    obtain ⟨h1, rfl⟩ := ifs h
    exact .inr (.inr ⟨s, rfl, Nat.le_trans h1 SZ_le, w.fz e rfl⟩)
  · rename_i ds
    obtain ⟨a, vs, rfl, ha, ra⟩ := q.tup
    cases h
    refine .inr (.inl ⟨a, vs, rfl, same_seqT e ha, fun hw => ?_, fun _ p hp => w.tup e hp (cut_rel ra _ _)⟩)
    refine w.fz e ⟨a, vs, rfl, ha, ?_⟩
    rw [← ra.length] at hw
    rw [cut_whole hw]
    exact ra
  · rename_i ds
    obtain ⟨a, vs, rfl, ha, ra⟩ := q.lst e
    cases h
    exact .inl ⟨a, vs, rfl, .inl (.inl ha), fun p hp => w.lst e hp (cut_rel ra _ _)⟩
def JPart (X : Cx) (W : WX) (io : Nat → Option Addr) : Option Expr → Part → Prop
  | none, .no => True
  | some e, .e o => JO X W io e o
  | _, _ => False
def tPartO (K : PySem.W.Frag) (W : WX) (io : Nat → Option Addr) : Part → TO
  | .no => tNoPart
  | .e o => tPart (tO K W io o)
theorem JPart.po {X : Cx} {W : WX} {io : Nat → Option Addr} : ∀ {e : Option Expr} {p : Part}, JPart X W io e p → PO X e (tPartO X.K W io p)
  | none, .no, _ => po_none
  | some _, .e _, h => po_some (JO.pe h)
  | none, .e _, h => h.elim
  | some _, .no, h => h.elim
theorem part_bind {K : PySem.W.Frag} {W : WX} {io : Nat → Option Addr} {P F : Hp} {σ : L2.St} {Q : VK} {H : Hp} {ρ : Env} {pt : Part} {f : Option Int → Env → R Sl} {Q' : Option Int → Hp → Prop} (S : St K io P F ρ σ H) (h : ToE K W io P F σ Q ((pt.run ρ).bind f))
    (k : ∀ i ρ1 H1 F1, Same F F1 → St K io P F1 ρ1 σ H1 → ToE K W io P F1 σ Q (f i ρ1) → Q' i H1) : tPartO K W io pt σ H Q' := by
  cases pt with
  | no => exact k none ρ H F (Same.refl _) S h
  | e o =>
    show tO K W io o σ H fun x H1 => ∃ i, x = .int i ∧ Q' (some i) H1
    have h' : ToE K W io P F σ Q ((if okV ρ o = true then (o.run ρ).bind fun p ρ1 => (match p.get ρ1 with
      | some (.int i) => .ok (some i) ρ1
      | _ => .no : R (Option Int)) else .no).bind f) := h
    by_cases hc : okV ρ o = true
    · rw [if_pos hc, R.bind_assoc] at h'
      refine tO_bind S h' (fun _ _ _ _ => trivial) (fun p ρ1 v H1 F1 s1 S1 R1 h1 => ?_) (okV_v S hc)
      cases e : p.get ρ1 with
      | none => rw [e] at h1; exact (show False from h1).elim
      | some d =>
        rw [e] at h1
        cases d <;> first | (exact (show False from h1).elim) | skip
        rename_i i
        cases (R1.pk S1 e).int
        exact ⟨i, rfl, k (some i) ρ1 H1 F1 s1 S1 h1⟩
    · rw [if_neg hc] at h'
      exact h'.elim
theorem je_slice {X : Cx} {W : WX} {io : Nat → Option Addr} {e : Expr} {lo hi : Option Expr} {o : Opd} {pl ph : Part} {p2 pos : Pos} (ho : JO X W io e o) (hl : JPart X W io lo pl) (hh : JPart X W io hi ph) : JE X W io (.Subscript e (.Slice lo hi none p2) pos) (mSl o pl ph) := by
  refine ⟨pei (pe_slice slr_all ho.pe hl.po hh.po) fun σ H Q h => ?_⟩
  obtain ⟨P, F, ρ, S, h⟩ := h
  obtain ⟨hc, h⟩ := toE_if h
  refine tO_bind S h (fun _ _ _ _ => trivial) (fun p ρ1 v H1 F1 s1 S1 R1 h1 => ?_) (okV_v S hc)
  refine part_bind S1 h1 fun l ρ2 H2 F2 s2 S2 h2 => ?_
  refine part_bind S2 h2 fun u ρ3 H3 F3 s3 S3 h3 => ?_
  obtain ⟨z, e, h4⟩ := mk_some h3
  unfold get1 at e
  cases e1 : p.get ρ3 with
  | none => rw [e1] at e; cases e
  | some dx =>
    rw [e1] at e
    exact ok_slice S3.fh ((R1.mono (s2.trans s3)).pk S3 e1) e (h4.want S3)
end Mi

namespace Mi
open PySem PySem.Spec PyProof.Rows L2

inductive SR where
  | nx (ρ : Env) | rt (r : Sl) (ρ : Env) | bk (ρ : Env) | ct (ρ : Env) | ex (c : Str) (ρ : Env) | no
abbrev Sm := Env → SR
def ToS (K : PySem.W.Frag) (W : WX) (io : Nat → Option Addr) (P F : Hp) (D : Ends) (r : SR) : Prop := match r with
  | .nx ρ' => ∀ σ' H' F', Same F F' → St K io P F' ρ' σ' H' → D.nx σ' H'
  | .rt r ρ' => ∀ v σ' H' F', Same F F' → St K io P F' ρ' σ' H' → Rel K P F' ρ' σ' H' v r → D.rt v H'
  | .bk ρ' => ∀ σ' H' F', Same F F' → St K io P F' ρ' σ' H' → D.bk σ' H'
  | .ct ρ' => ∀ σ' H' F', Same F F' → St K io P F' ρ' σ' H' → D.ct σ' H'
  | .ex c ρ' => ∀ σ' H' F', Same F F' → St K io P F' ρ' σ' H' → W (excV K c) none σ' H'
  | .no => False
def tS (K : PySem.W.Frag) (W : WX) (io : Nat → Option Addr) (m : Sm) : TS := fun D σ H => ∃ P F ρ, St K io P F ρ σ H ∧ ToS K W io P F D (m ρ)
structure JS (X : Cx) (W : WX) (io : Nat → Option Addr) (s : Stmt) (m : Sm) : Prop where
  ps : PS X s (tS X.K W io m)
structure JSs (X : Cx) (W : WX) (io : Nat → Option Addr) (s : List Stmt) (m : Sm) : Prop where
  ps : PSs X s (tS X.K W io m)
theorem psi {X : Cx} {s : Stmt} {t t' : TS} (h : PS X s t) (f : ∀ D σ H, t' D σ H → t D σ H) : PS X s t' := ⟨fun pins s σ H D I q => h.run pins s σ H D I (f D σ H q)⟩
theorem pssi {X : Cx} {s : List Stmt} {t t' : TS} (h : PSs X s t) (f : ∀ D σ H, t' D σ H → t D σ H) : PSs X s t' := ⟨fun pins s σ H D I q => h.run pins s σ H D I (f D σ H q)⟩
/-- behind an expression, in a statement -/
def R.toS {α : Type} (r : R α) (f : α → Env → SR) : SR := match r with
  | .ok a ρ => f a ρ
  | .ex c ρ => .ex c ρ
  | .no => .no
section
variable {K : PySem.W.Frag} {W : WX} {io : Nat → Option Addr} {P F F' : Hp} {σ : L2.St} {H : Hp} {ρ : Env} {D : Ends}
theorem ToS.up {r : SR} (e : Same F F') (h : ToS K W io P F D r) : ToS K W io P F' D r := by
  cases r with
  | nx ρ' => exact fun σ' H' F2 s => h σ' H' F2 (e.trans s)
  | rt r ρ' => exact fun v σ' H' F2 s => h v σ' H' F2 (e.trans s)
  | bk ρ' => exact fun σ' H' F2 s => h σ' H' F2 (e.trans s)
  | ct ρ' => exact fun σ' H' F2 s => h σ' H' F2 (e.trans s)
  | ex c ρ' => exact fun σ' H' F2 s => h σ' H' F2 (e.trans s)
  | no => exact h
theorem ToS.ends {D' : Ends} {r : SR} (h : ToS K W io P F D r) (h1 : ∀ σ H, D.nx σ H → D'.nx σ H) (h2 : ∀ v H, D.rt v H → D'.rt v H) (h3 : ∀ σ H, D.bk σ H → D'.bk σ H) (h4 : ∀ σ H, D.ct σ H → D'.ct σ H) : ToS K W io P F D' r := by
  cases r with
  | nx ρ' => exact fun σ' H' F2 s S => h1 _ _ (h σ' H' F2 s S)
  | rt r ρ' => exact fun v σ' H' F2 s S R => h2 _ _ (h v σ' H' F2 s S R)
  | bk ρ' => exact fun σ' H' F2 s S => h3 _ _ (h σ' H' F2 s S)
  | ct ρ' => exact fun σ' H' F2 s S => h4 _ _ (h σ' H' F2 s S)
  | ex c ρ' => exact h
  | no => exact h
theorem tJ_toS {m : Ex} {f : Sl → Env → SR} {Q' : VK} (S : St K io P F ρ σ H) (h : ToS K W io P F D ((m ρ).toS f))
    (k : ∀ r ρ1 v H1 F1, Same F F1 → St K io P F1 ρ1 σ H1 → Rel K P F1 ρ1 σ H1 v r → ToS K W io P F1 D (f r ρ1) → Q' v H1) : tJ K W io m σ H Q' := by
  refine ⟨P, F, ρ, S, ?_⟩
  cases e : m ρ with
  | ok r ρ1 =>
    rw [e] at h
    exact fun v H1 F1 s S1 R1 => k r ρ1 v H1 F1 s S1 R1 (h.up s)
  | ex c ρ1 =>
    rw [e] at h
    exact fun H' F' s S' => h σ H' F' s S'
  | no =>
    rw [e] at h
    exact h
theorem tJT_toS {m : Te} {f : Bool → Env → SR} {Q' : Bool → Hp → Prop} (S : St K io P F ρ σ H) (h : ToS K W io P F D ((m ρ).toS f))
    (k : ∀ b ρ1 H1 F1, Same F F1 → St K io P F1 ρ1 σ H1 → ToS K W io P F1 D (f b ρ1) → Q' b H1) : tJT K W io m σ H Q' := by
  refine ⟨P, F, ρ, S, ?_⟩
  cases e : m ρ with
  | ok r ρ1 =>
    rw [e] at h
    exact fun H1 F1 s S1 => k r ρ1 H1 F1 s S1 (h.up s)
  | ex c ρ1 =>
    rw [e] at h
    exact fun H' F' s S' => h σ H' F' s S'
  | no =>
    rw [e] at h
    exact h
end
/-! ### blocks -/
def sNil : Sm := .nx
def sSeq (a b : Sm) : Sm := fun ρ => match a ρ with
  | .nx ρ1 => b ρ1
  | r => r
section
variable {X : Cx} {W : WX} {io : Nat → Option Addr} {st : Stmt} {rest : List Stmt} {m n : Sm} {e : Expr} {ma : Ex} {pos : Pos}
theorem jss_nil : JSs X W io [] sNil := ⟨pssi pss_nil fun D σ H h => by
  obtain ⟨P, F, ρ, S, h⟩ := h
  exact h σ H F (Same.refl _) S⟩
theorem jss_one (h : JS X W io st m) : JSs X W io [st] m := ⟨pss_one h.ps⟩
theorem jss_cons (h1 : JS X W io st m) (h2 : JSs X W io rest n) : JSs X W io (st :: rest) (sSeq m n) := ⟨pssi (pss_cons h1.ps h2.ps) fun D σ H h => by
  obtain ⟨P, F, ρ, S, h⟩ := h
  refine ⟨P, F, ρ, S, ?_⟩
  unfold sSeq at h
  cases e : m ρ with
  | nx ρ1 =>
    rw [e] at h
    exact fun σ' H' F' s S' => ⟨P, F', ρ1, S', h.up s⟩
  | rt r ρ1 => rw [e] at h; exact h
  | bk ρ1 => rw [e] at h; exact h
  | ct ρ1 => rw [e] at h; exact h
  | ex c ρ1 => rw [e] at h; exact h
  | no => rw [e] at h; exact h⟩
/-! ### small statements -/
def sPass : Sm := .nx
def sBreak : Sm := .bk
def sCont : Sm := .ct
def sDrop (m : Ex) : Sm := fun ρ => (m ρ).toS fun _ ρ1 => .nx ρ1
def sRet (m : Ex) : Sm := fun ρ => (m ρ).toS fun r ρ1 => .rt r ρ1
def sRetN : Sm := fun ρ => .rt (.fz .non) ρ
def sSet (i : Nat) (m : Ex) : Sm := fun ρ => (m ρ).toS fun r ρ1 => .nx (ρ1.set i (some r))
theorem js_pass : JS X W io (.Pass pos) sPass := ⟨psi ps_pass fun D σ H h => by
  obtain ⟨P, F, ρ, S, h⟩ := h
  exact h σ H F (Same.refl _) S⟩
theorem js_break : JS X W io (.Break pos) sBreak := ⟨psi ps_break fun D σ H h => by
  obtain ⟨P, F, ρ, S, h⟩ := h
  exact h σ H F (Same.refl _) S⟩
theorem js_cont : JS X W io (.Continue pos) sCont := ⟨psi ps_continue fun D σ H h => by
  obtain ⟨P, F, ρ, S, h⟩ := h
  exact h σ H F (Same.refl _) S⟩
theorem js_doc {x : Str} {j : Nat} {pos' : Pos} : JS X W io (.Expr (.Constant (.str x) j pos) pos') sPass := ⟨psi ps_doc fun D σ H h => by
  obtain ⟨P, F, ρ, S, h⟩ := h
  exact h σ H F (Same.refl _) S⟩
theorem js_expr (he : JE X W io e ma) (hs : swapsWith e none pos.line X.env = pure false := by rfl) : JS X W io (.Expr e pos) (sDrop ma) := ⟨psi (ps_expr he.pe hs) fun D σ H h => by
  obtain ⟨P, F, ρ, S, h⟩ := h
  exact tJ_toS S h fun r ρ1 v H1 F1 s S1 R1 h1 => h1 σ H1 F1 (Same.refl _) S1⟩
theorem js_ret (he : JE X W io e ma) : JS X W io (.Return (some e) pos) (sRet ma) := ⟨psi (ps_ret he.pe) fun D σ H h => by
  obtain ⟨P, F, ρ, S, h⟩ := h
  exact tJ_toS S h fun r ρ1 v H1 F1 s S1 R1 h1 => h1 v σ H1 F1 (Same.refl _) S1 R1⟩
theorem js_retN : JS X W io (.Return none pos) sRetN := ⟨psi ps_retN fun D σ H h => by
  obtain ⟨P, F, ρ, S, h⟩ := h
  exact h .non σ H F (Same.refl _) S rfl⟩
theorem js_set (i : Nat) {x : Str} {pos' : Pos} (hN : X.N.Nodup) (he : JE X W io e ma) (hi : X.N[i]? = some x := by rfl) (hx : Loc X.env.scope x := by first | exact Or.inl rfl | exact Or.inr rfl) (hs : swapsWith e (some (.Name x pos')) pos.line X.env = pure false := by rfl) (hf : X.fn x = true ∨ X.env.scope.names.lookup x = some .local := by first | exact .inl rfl | exact .inr rfl) :
    JS X W io (.Assign [.Name x pos'] e pos) (sSet i ma) := ⟨psi (ps_set hN hi hx he.pe hs hf) fun D σ H h => by
  obtain ⟨P, F, ρ, S, h⟩ := h
  exact tJ_toS S h fun r ρ1 v H1 F1 s S1 R1 h1 => h1 _ H1 F1 (Same.refl _) (S1.store R1)⟩
/-! ### targets -/
abbrev Tg := D → Env → Option Env
abbrev Tgs := List D → Env → Option Env
def tG (K : PySem.W.Frag) (io : Nat → Option Addr) (g : Tg) : TG := fun v σ H Q => ∃ P F ρ d, St K io P F ρ σ H ∧ Fz K F d v ∧ ∃ ρ', g d ρ = some ρ' ∧ ∀ σ' H' F', Same F F' → St K io P F' ρ' σ' H' → Q σ' H'
def tGs (K : PySem.W.Frag) (io : Nat → Option Addr) (g : Tgs) : TGs := fun vs σ H Q => ∃ P F ρ ds, St K io P F ρ σ H ∧ FzL K F ds vs ∧ ∃ ρ', g ds ρ = some ρ' ∧ ∀ σ' H' F', Same F F' → St K io P F' ρ' σ' H' → Q σ' H'
structure JG (X : Cx) (io : Nat → Option Addr) (e : Expr) (g : Tg) : Prop where
  pg : PG X e (tG X.K io g)
structure JGs (X : Cx) (io : Nat → Option Addr) (e : List Expr) (g : Tgs) : Prop where
  pgs : PGs X e (tGs X.K io g)
theorem pgi {e : Expr} {t t' : TG} (h : PG X e t) (f : ∀ v σ H Q, t' v σ H Q → t v σ H Q) : PG X e t' := ⟨fun pins s σ H v u Q I r q => h.run pins s σ H v u Q I r (f v σ H Q q)⟩
theorem pgsi {e : List Expr} {t t' : TGs} (h : PGs X e t) (f : ∀ v σ H Q, t' v σ H Q → t v σ H Q) : PGs X e t' := ⟨fun pins s σ H v u Q I r q => h.run pins s σ H v u Q I r (f v σ H Q q)⟩
def gNm (i : Nat) : Tg := fun d ρ => some (ρ.set i (some (.fz d)))
def gsNil : Tgs := fun ds ρ => match ds with
  | [] => some ρ
  | _ => none
def gsCons (g : Tg) (r : Tgs) : Tgs := fun ds ρ => match ds with
  | d :: ds => (g d ρ).bind fun ρ1 => r ds ρ1
  | [] => none
/-- a tuple's or list's items -/
def D.items : D → Option (List D)
  | .tup ds => some ds
  | .lst ds => some ds
  | _ => none
def gSeq (n : Nat) (g : Tgs) : Tg := fun d ρ => d.items.bind fun ds => if ds.length = n then g ds ρ else none
theorem jg_name (i : Nat) {x : Str} (hN : X.N.Nodup) (hi : X.N[i]? = some x := by rfl) (hx : Loc X.env.scope x := by first | exact Or.inl rfl | exact Or.inr rfl) (hf : X.fn x = true ∨ X.env.scope.names.lookup x = some .local := by first | exact .inl rfl | exact .inr rfl) : JG X io (.Name x pos) (gNm i) :=
  ⟨pgi (pg_name hN hi hx hf) fun v σ H Q h => by
    obtain ⟨P, F, ρ, d, S, q, ρ', e, h⟩ := h
    cases e
    exact h _ H F (Same.refl _) (S.store (r := .fz d) q)⟩
theorem jgs_nil : JGs X io [] gsNil := ⟨pgsi pgs_nil fun vs σ H Q h => by
  obtain ⟨P, F, ρ, ds, S, q, ρ', e, h⟩ := h
  cases ds with
  | cons _ _ => cases e
  | nil =>
    cases e
    exact ⟨q, h σ H F (Same.refl _) S⟩⟩
theorem jgs_cons {g : Tg} {r : Tgs} {es : List Expr} (h1 : JG X io e g) (h2 : JGs X io es r) (hs : (assignEach (e :: es) X.env).map (·.2) = assign e X.env :: (assignEach es X.env).map (·.2) := by rfl) : JGs X io (e :: es) (gsCons g r) :=
  ⟨pgsi (pgs_cons h1.pg h2.pgs hs) fun vs σ H Q h => by
    obtain ⟨P, F, ρ, ds, S, q, ρ', e, h⟩ := h
    cases ds with
    | nil => cases e
    | cons d ds =>
      obtain ⟨v, ws, rfl, q1, q2⟩ := q
      obtain ⟨ρ1, e1, e2⟩ := Option.bind_eq_some_iff.mp e
      exact ⟨v, ws, rfl, P, F, ρ, d, S, q1, ρ1, e1, fun σ1 H1 F1 s1 S1 => ⟨P, F1, ρ1, ds, S1, q2.mono s1, ρ', e2, fun σ2 H2 F2 s2 S2 => h σ2 H2 F2 (s1.trans s2) S2⟩⟩⟩
/-- a, b, .. = a tuple or a list of that length -/
theorem pg_seq {es : List Expr} {k : Nat} {t : TGs} {n : Nat} (hc : X.calm = true) (h : PGs X es t)
    (hn : (assignEach es X.env).length = n := by rfl) (hst : (assignEach es X.env).findIdx? (·.1) = none := by rfl) : PG X (.Tuple es k pos) (fun v σ H Q => gTup X.K n t v σ H Q ∨ gLst X.K n t v σ H Q) := by
  refine ⟨fun pins s σ H v u Q I r q => ?_⟩
  rcases q with q | q
  · exact (pg_tup hc h hn hst).run pins s σ H v u Q I r q
  · exact (pg_lst hc h hn hst).run pins s σ H v u Q I r q
theorem jg_seq {es : List Expr} {k : Nat} {g : Tgs} {n : Nat} (hc : X.calm = true) (h : JGs X io es g)
    (hn : (assignEach es X.env).length = n := by rfl) (hst : (assignEach es X.env).findIdx? (·.1) = none := by rfl) : JG X io (.Tuple es k pos) (gSeq n g) := ⟨pgi (pg_seq hc h.pgs hn hst) fun v σ H Q h => by
  obtain ⟨P, F, ρ, d, S, q, ρ', e, h⟩ := h
  obtain ⟨ds, e1, e2⟩ := Option.bind_eq_some_iff.mp e
  have hl : ds.length = n ∧ g ds ρ = some ρ' := by
    split at e2
    · rename_i hl
      exact ⟨hl, e2⟩
    · cases e2
  cases d <;> first | (cases e1; done) | skip
  · cases e1
    obtain ⟨a, vs, rfl, h1, h2⟩ := q
    exact .inl ⟨a, vs, rfl, same_seqT S.fh h1, by rw [← h2.length]; exact hl.1, P, F, ρ, ds, S, h2, ρ', hl.2, h⟩
  · cases e1
    obtain ⟨a, vs, rfl, h1, h2⟩ := q
    exact .inr ⟨a, vs, rfl, .inl (.inl (S.fh _ _ h1)), by rw [← h2.length]; exact hl.1, P, F, ρ, ds, S, h2, ρ', hl.2, h⟩⟩
/-- target = value (a frozen one) -/
def sAsg (g : Tg) (m : Ex) : Sm := fun ρ => (m ρ).toS fun r ρ1 => match g r.d ρ1 with
  | some ρ2 => .nx ρ2
  | none => .no
theorem js_asg {tg : Expr} {g : Tg} (he : JE X W io e ma) (hg : JG X io tg g) (hs : swapsWithSole [tg] e pos.line X.env = pure false := by rfl) (hw : swappedStores [tg] e X.env = pure none := by rfl)
    (h1 : (assignEach [tg] X.env).map (·.2) = [assign tg X.env] := by rfl) : JS X W io (.Assign [tg] e pos) (sAsg g ma) := ⟨psi (ps_asg he.pe hg.pg hs hw h1) fun D σ H h => by
  obtain ⟨P, F, ρ, S, h⟩ := h
  refine tJ_toS S h fun r ρ1 v H1 F1 s S1 R1 h1 => ?_
  obtain ⟨F1', s', S1', q⟩ := S1.cool R1
  cases e2 : g r.d ρ1 with
  | none => rw [e2] at h1; exact (show False from h1).elim
  | some ρ2 =>
    rw [e2] at h1
    exact ⟨P, F1', ρ1, r.d, S1', q, ρ2, e2, fun σ' H' F' s2 S2 => h1 σ' H' F' (s'.trans s2) S2⟩⟩
end
/-! ### several values at once -/
/-- a pending list of one's own is to stay -/
def held (P H : Hp) (v : V) : Sl → Hp
  | .ow _ => match v with
    | .ref a => fun b => if b = a then H a else P b
    | _ => P
  | _ => P
section
variable {K : PySem.W.Frag} {W : WX} {io : Nat → Option Addr} {P P' F F' : Hp} {σ : L2.St} {H H' : Hp} {ρ ρ' : Env}
theorem St.lessP (S : St K io P' F ρ σ H) (h : Same P P') : St K io P F ρ σ H where
  fh := S.fh
  ph := h.trans S.ph
  pf := fun a o e => S.pf a o (h a o e)
  len := S.len
  fz := S.fz
  ow := fun i xs q => by
    obtain ⟨a, vs, h1, h2, h3, h4, h5⟩ := S.ow i xs q
    exact ⟨a, vs, h1, h2, h3, h4, h.free h5⟩
  ia := S.ia
  ds := S.ds
theorem Rel.lessP {v : V} {r : Sl} (R : Rel K P' F ρ σ H v r) (h : Same P P') : Rel K P F ρ σ H v r := by
  cases r with
  | fz d => exact R
  | io xs => exact R
  | ow xs =>
    obtain ⟨a, vs, h1, h2, h3, h4, h5, h6⟩ := R
    exact ⟨a, vs, h1, h2, h3, h4, h.free h5, h6⟩
theorem St.hold {v : V} {r : Sl} (S : St K io P F ρ σ H) (R : Rel K P F ρ σ H v r) : Same P (held P H v r) ∧ St K io (held P H v r) F ρ σ H := by
  cases r with
  | fz d => exact ⟨Same.refl _, S⟩
  | io xs => exact R.elim
  | ow xs =>
    obtain ⟨a, vs, rfl, h2, h3, h4, h5, h6⟩ := R
    have hs : Same P (held P H (.ref a) (.ow xs)) := fun b o e => by
      show (if b = a then H a else P b) = some o
      rw [if_neg (ne_of_none e h5)]
      exact e
    refine ⟨hs, S.fh, fun b o e => ?_, fun b o e => ?_, S.len, S.fz, fun i ys q => ?_, S.ia, S.ds⟩
    · by_cases hb : b = a
      · subst hb
        have e : (if b = b then H b else P b) = some o := e
        rw [if_pos rfl] at e
        exact e
      · have e : (if b = a then H a else P b) = some o := e
        rw [if_neg hb] at e
        exact S.ph b o e
    · by_cases hb : b = a
      · subst hb
        exact h4
      · have e : (if b = a then H a else P b) = some o := e
        rw [if_neg hb] at e
        exact S.pf b o e
    · obtain ⟨b, us, e1, e2, e3, e4, e5⟩ := S.ow i ys q
      refine ⟨b, us, e1, e2, e3, e4, ?_⟩
      show (if b = a then H a else P b) = none
      have hb : b ≠ a := fun z => by
        subst z
        exact h6 i ys q e1
      rw [if_neg hb]
      exact e5
/-- it stood -/
theorem Rel.kept {v : V} {r : Sl} (R : Rel K P F ρ σ H v r) (s : Same F F') (S' : St K io (held P H v r) F' ρ' σ H') : Rel K P F' ρ' σ H' v r := by
  cases r with
  | fz d => exact Fz.mono s R
  | io xs => exact R
  | ow xs =>
    obtain ⟨a, vs, rfl, h2, h3, h4, h5, h6⟩ := R
    have ha : held P H (.ref a) (.ow xs) a = some (.lst vs) := by
      show (if a = a then H a else P a) = _
      rw [if_pos rfl]
      exact h2
    refine ⟨a, vs, rfl, S'.ph a _ ha, h3.mono s, S'.pf a _ ha, h5, fun i ys q e => ?_⟩
    obtain ⟨b, us, e1, _, _, _, e5⟩ := S'.ow i ys q
    rw [e] at e1
    cases e1
    rw [ha] at e5
    cases e5
/-- two values at once stand apart: the first stands behind the second's making -/
theorem St.store2 {v u : V} {r t : Sl} {i j : Nat} (S : St K io P F ρ σ H) (Rv : Rel K P F ρ σ H v r) (Ru : Rel K (held P H v r) F ρ σ H u t) (hP : St K io (held P H v r) F ρ σ H) (hij : i ≠ j) :
    St K io P F ((ρ.set i (some r)).set j (some t)) ((σ.set i (some v)).set j (some u)) H := by
  have S1 := S.store (i := i) Rv
  refine S1.store (i := j) ?_
  cases t with
  | fz d => exact Ru
  | io xs => exact Ru
  | ow xs =>
    obtain ⟨a, vs, rfl, h2, h3, h4, h5, h6⟩ := Ru
    have hsame : Same P (held P H v r) := (S.hold Rv).1
    refine ⟨a, vs, rfl, h2, h3, h4, hsame.free h5, fun k ys q e => ?_⟩
    by_cases hk : k = i
    · subst hk
      by_cases hl : k < ρ.length
      · have er : r = .ow ys := by
          rcases q with q | q
          · rw [set_self hl] at q; cases q; rfl
          · rw [set_self hl] at q; cases q; exact Rv.elim
        subst er
        obtain ⟨b, us, rfl, e2, _⟩ := Rv
        rw [set_self (by rw [← S.len]; exact hl)] at e
        cases e
        have ha : held P H (.ref a) (.ow ys) a = H a := if_pos rfl
        rw [ha, e2] at h5
        cases h5
      · rcases q with q | q
        · have := (List.getElem?_eq_some_iff.mp q).1
          rw [List.length_set] at this
          exact hl this
        · have := (List.getElem?_eq_some_iff.mp q).1
          rw [List.length_set] at this
          exact hl this
    · rw [set_other (Ne.symm hk)] at e
      refine h6 k ys ?_ e
      rcases q with q | q
      · rw [set_other (Ne.symm hk)] at q; exact .inl q
      · rw [set_other (Ne.symm hk)] at q; exact .inr q
end
/-- x, y = a, b -/
def sPar (i j : Nat) (a b : Ex) : Sm := fun ρ => (a ρ).toS fun r ρ1 => (b ρ1).toS fun t ρ2 => .nx ((ρ2.set i (some r)).set j (some t))
section
variable {X : Cx} {W : WX} {io : Nat → Option Addr} {a b c : Expr} {ma mb mc : Ex} {pos : Pos}
theorem tJ_toSP {K : PySem.W.Frag} {P P' F : Hp} {σ : L2.St} {ρ : Env} {H : Hp} {D : Ends} {m : Ex} {f : Sl → Env → SR} {Q' : VK} (S : St K io P' F ρ σ H) (e : Same P P') (h : ToS K W io P F D ((m ρ).toS f))
    (k : ∀ r ρ1 v H1 F1, Same F F1 → St K io P' F1 ρ1 σ H1 → Rel K P' F1 ρ1 σ H1 v r → ToS K W io P F1 D (f r ρ1) → Q' v H1) : tJ K W io m σ H Q' := by
  refine ⟨P', F, ρ, S, ?_⟩
  cases em : m ρ with
  | ok r ρ1 =>
    rw [em] at h
    exact fun v H1 F1 s S1 R1 => k r ρ1 v H1 F1 s S1 R1 (h.up s)
  | ex c ρ1 =>
    rw [em] at h
    exact fun H' F' s S' => h σ H' F' s (S'.lessP e)
  | no =>
    rw [em] at h
    exact h
theorem held_eq {K : PySem.W.Frag} {P F F2 : Hp} {σ : L2.St} {ρ ρ2 : Env} {H1 H2 : Hp} {v : V} {r : Sl} (R1 : Rel K P F ρ σ H1 v r) (S2 : St K io (held P H1 v r) F2 ρ2 σ H2) : held P H2 v r = held P H1 v r := by
  cases r with
  | fz d => rfl
  | io xs => rfl
  | ow xs =>
    obtain ⟨a, vs, rfl, q2, _⟩ := R1
    have ha : held P H1 (.ref a) (.ow xs) a = some (.lst vs) := by
      show (if a = a then H1 a else P a) = _
      rw [if_pos rfl]
      exact q2
    have h3 := S2.ph a _ ha
    funext b
    show (if b = a then H2 a else P b) = (if b = a then H1 a else P b)
    rw [h3, q2]
theorem js_par {i j : Nat} {x y : Str} {px py pt : Pos} {kt k2 : Nat} {pt2 : Pos} (hc : X.calm = true) (hN : X.N.Nodup) (ha : JE X W io a ma) (hb : JE X W io b mb) (hi : X.N[i]? = some x := by rfl) (hj : X.N[j]? = some y := by rfl) (hij : i ≠ j := by decide)
    (hx : X.env.scope.names.lookup x = some .local := by rfl) (hy : X.env.scope.names.lookup y = some .local := by rfl)
    (h1 : starEach [a, b] X.env = (false, eval a X.env) :: starEach [b] X.env := by rfl) (h2 : starEach [b] X.env = (false, eval b X.env) :: starEach [] X.env := by rfl)
    (hw : swappedStores [.Tuple [.Name x px, .Name y py] kt pt] (.Tuple [a, b] k2 pt2) X.env = pure (some [x, y]) := by rfl)
    (hs : swapsWithSole [.Tuple [.Name x px, .Name y py] kt pt] (.Tuple [a, b] k2 pt2) pos.line X.env = pure false := by rfl) :
    JS X W io (.Assign [.Tuple [.Name x px, .Name y py] kt pt] (.Tuple [a, b] k2 pt2) pos) (sPar i j ma mb) := ⟨psi (ps_par hc hN hi hj hij hx hy (pa_cons ha.pe (pa_cons hb.pe pa_nil h2) h1) hw hs) fun D σ H h => by
  obtain ⟨P, F, ρ, S, h⟩ := h
  refine tJ_toS S h fun r ρ1 v H1 F1 s S1 R1 h1 => ?_
  obtain ⟨e1, S1'⟩ := S1.hold R1
  refine tJ_toSP S1' e1 h1 fun t ρ2 u H2 F2 s2 S2 R2 h2 => ?_
  have S2' := S2.lessP e1
  have Rv := R1.kept s2 S2
  have key := held_eq R1 S2
  exact ⟨v, u, rfl, h2 _ H2 F2 (Same.refl _) (S2'.store2 (i := i) (j := j) Rv (by rw [key]; exact R2) (by rw [key]; exact S2) hij)⟩⟩
end
end Mi

namespace Mi
open PySem PySem.Spec PyProof.Rows L2 RZ

/-! ### x op= e -/
def iaddD : Op2
  | .int i, .int j => some (okI (i + j))
  | .str a, .str b => if a.length + b.length ≤ SZ then some (.fz (.str (a ++ b))) else none
  | _, _ => none
abbrev rIadd : R2 := fun x y H Q => (rI0 fun i j => .int (i + j)) x y H Q ∨ (∃ i j, x = .str i ∧ y = .str j ∧ i.length + j.length ≤ sizeLine ∧ Q (.str (i ++ j)) H)
theorem opr_iadd {X : Cx} : OpR X (inplaceOp .Add) rIadd := iop_add.or iop_add_str
theorem ok_iadd {K : PySem.W.Frag} : OpOk K rIadd iaddD := by
  intro F H x y dx dy z Q e qx qy h w
  cases dx <;> cases dy <;> first | (simp [iaddD] at h; done) | skip
  · rename_i i j
    cases qx.int; cases qy.int; cases h
    exact .inl ⟨i, j, rfl, rfl, w.fz e rfl⟩
  · rename_i i j
    cases qx.str; cases qy.str
    obtain ⟨h1, rfl⟩ := ifs h
    exact .inr ⟨i, j, rfl, rfl, Nat.le_trans h1 SZ_le, w.fz e rfl⟩
def sAug (i : Nat) (f : Op2) (m : Ex) : Sm := fun ρ => match ρ[i]? with
  | some (some (.fz d)) => (m ρ).toS fun y ρ1 => match f d y.d with
    | some z => .nx (ρ1.set i (some z))
    | none => .no
  | _ => .no
section
variable {X : Cx} {W : WX} {io : Nat → Option Addr} {e c : Expr} {ma : Ex} {mc : Te} {pos : Pos} {body els : List Stmt} {mb me : Sm}
theorem js_aug (i : Nat) {x : Str} {op : Operator} {r : R2} {f : Op2} {pos' : Pos} (hN : X.N.Nodup) (he : JE X W io e ma) (ho : OpR X (inplaceOp op) r) (hf : OpOk X.K r f) (hi : X.N[i]? = some x := by rfl) (hx : Loc X.env.scope x := by first | exact Or.inl rfl | exact Or.inr rfl)
    (hl : X.fn x = true ∨ X.env.scope.names.lookup x = some .local := by first | exact .inl rfl | exact .inr rfl) : JS X W io (.AugAssign (.Name x pos') op e pos) (sAug i f ma) := ⟨psi (ps_aug hN hi hx he.pe ho hl) fun D σ H h => by
  obtain ⟨P, F, ρ, S, h⟩ := h
  unfold sAug at h
  cases eq : ρ[i]? with
  | none => rw [eq] at h; exact (show False from h).elim
  | some o =>
    rw [eq] at h
    cases o with
    | none => exact (show False from h).elim
    | some s =>
      cases s <;> first | (exact (show False from h).elim) | skip
      rename_i d
      obtain ⟨v, h1, h2⟩ := S.fz i d eq
      refine ⟨v, h1, tJ_toS S h fun y ρ1 u H1 F1 s S1 R1 h3 => ?_⟩
      obtain ⟨F1', s', S1', q⟩ := S1.cool R1
      cases ef : f d y.d with
      | none => rw [ef] at h3; exact (show False from h3).elim
      | some z =>
        rw [ef] at h3
        refine hf F1' H1 v u d y.d z _ S1'.fh (.inl (h2.mono (s.trans s'))) (.inl q) ef fun w H' F' ex rt => ?_
        have S2 := S1'.ext ex
        exact h3 _ H' F' (s'.trans ex.f) (S2.store (rt.rel S1' ex))⟩
/-! ### if -/
def sIf (t : Te) (a b : Sm) : Sm := fun ρ => (t ρ).toS fun c ρ1 => if c then a ρ1 else b ρ1
theorem js_if (hc : JT X W io c mc) (ha : JSs X W io body mb) (hb : JSs X W io els me) : JS X W io (.If c body els pos) (sIf mc mb me) := ⟨psi (ps_if hc.pt ha.ps hb.ps) fun D σ H h => by
  obtain ⟨P, F, ρ, S, h⟩ := h
  refine tJT_toS S h fun b ρ1 H1 F1 s S1 h1 => ?_
  cases b with
  | true => exact ⟨P, F1, ρ1, S1, h1⟩
  | false => exact ⟨P, F1, ρ1, S1, h1⟩⟩
/-! ### while -/
/-- behind a turn -/
def turned (r : SR) (k : Env → SR) : SR := match r with
  | .nx ρ => k ρ
  | .ct ρ => k ρ
  | .bk ρ => .nx ρ
  | r => r
def sWhile : Nat → Te → Sm → Sm
  | 0, _, _ => fun _ => .no
  | n + 1, t, b => fun ρ => (t ρ).toS fun c ρ1 => if c then turned (b ρ1) (sWhile n t b) else .nx ρ1
def FUEL : Nat := 100000
theorem ToS.turned {K : PySem.W.Frag} {P F : Hp} {D : Ends} {r : SR} {k : Env → SR} {N : L2.St → Hp → Prop} (h : ToS K W io P F D (Mi.turned r k)) (hN : ∀ ρ' σ' H' F', Same F F' → St K io P F' ρ' σ' H' → ToS K W io P F' D (k ρ') → N σ' H') :
    ToS K W io P F { D with nx := N, ct := N, bk := D.nx } r := by
  cases r with
  | nx ρ' => exact fun σ' H' F2 s S => hN ρ' σ' H' F2 s S (ToS.up s h)
  | ct ρ' => exact fun σ' H' F2 s S => hN ρ' σ' H' F2 s S (ToS.up s h)
  | bk ρ' => exact h
  | rt r ρ' => exact h
  | ex c ρ' => exact h
  | no => exact h
theorem js_while {n : Nat} (hp : PassesOwn (model X.prog X.w) X.A X.env X.xe) (hc : JT X W io c mc) (hb : JSs X W io body mb) : JS X W io (.While c body [] pos) (sWhile n mc mb) := ⟨psi (ps_while hp hc.pt hb.ps) fun D σ H h => by
  obtain ⟨P, F, ρ, S, h⟩ := h
  refine ⟨fun m σ H => ∃ F' ρ', St X.K io P F' ρ' σ H ∧ ToS X.K W io P F' D (sWhile m mc mb ρ'), ⟨n, F, ρ, S, h⟩, fun m σ H hw => ?_⟩
  obtain ⟨F1, ρ1, S1, h1⟩ := hw
  cases m with
  | zero => exact (show False from h1).elim
  | succ m =>
    have h1' : ToS X.K W io P F1 D ((mc ρ1).toS fun c ρ1 => if c then Mi.turned (mb ρ1) (sWhile m mc mb) else .nx ρ1) := h1
    refine tJT_toS S1 h1' fun b ρ2 H2 F2 s2 S2 h2 => ?_
    cases b with
    | false =>
      rw [if_neg Bool.false_ne_true]
      exact h2 σ H2 F2 (Same.refl _) S2
    | true =>
      rw [if_pos rfl]
      refine ⟨fun σ' H' => ∃ F' ρ', St X.K io P F' ρ' σ' H' ∧ ToS X.K W io P F' D (sWhile m mc mb ρ'), fun σ' H' q => ⟨m, Nat.lt_succ_self m, q⟩, P, F2, ρ2, S2, ?_⟩
      exact ToS.turned (show ToS X.K W io P F2 D (Mi.turned (mb ρ2) (sWhile m mc mb)) from h2) fun ρ' σ' H' F' s S' q => ⟨F', ρ', S', q⟩⟩
end
/-! ### what is walked -/
abbrev Mi' := Env → R (List D)
/-- the iterator yields ds, whatever has been laid and frozen meanwhile -/
structure ItOk (K : PySem.W.Frag) (F : Hp) (J : It) (ds : List D) : Prop where
  stop : ∀ H, Same F H → J.stop ds.length H
  go : ∀ (i : Nat) H, i < ds.length → Same F H → J.go i H
  yld : ∀ (i : Nat) d F2 H x H', ds[i]? = some d → Same F F2 → Same F2 H → J.yld i H x H' → ∃ F3, Ext F2 H F3 H' ∧ Fz K F3 d x
def ToI (K : PySem.W.Frag) (W : WX) (io : Nat → Option Addr) (P F : Hp) (σ : L2.St) (R : It → Hp → Prop) (r : Mi.R (List D)) : Prop := match r with
  | .ok ds ρ' => ∀ J H' F', Same F F' → St K io P F' ρ' σ H' → ItOk K F' J ds → R J H'
  | .ex c ρ' => ∀ H' F', Same F F' → St K io P F' ρ' σ H' → W (excV K c) none σ H'
  | .no => False
def tI (K : PySem.W.Frag) (W : WX) (io : Nat → Option Addr) (m : Mi') : TI := fun σ H R => ∃ P F ρ, St K io P F ρ σ H ∧ ToI K W io P F σ R (m ρ)
structure JI (X : Cx) (W : WX) (io : Nat → Option Addr) (tg iter : Expr) (m : Mi') : Prop where
  pi : PI X tg iter (tI X.K W io m)
theorem pii {X : Cx} {tg iter : Expr} {t t' : TI} (h : PI X tg iter t) (f : ∀ σ H R, t' σ H R → t σ H R) : PI X tg iter t' := ⟨fun pins s σ H R I q => h.run pins s σ H R I (f σ H R q)⟩
theorem ToI.up {K : PySem.W.Frag} {W : WX} {io : Nat → Option Addr} {P F F' : Hp} {σ : L2.St} {R : It → Hp → Prop} {r : Mi.R (List D)} (e : Same F F') (h : ToI K W io P F σ R r) : ToI K W io P F' σ R r := by
  cases r with
  | ok r ρ' => exact fun J H' F2 s => h J H' F2 (e.trans s)
  | ex c ρ' => exact fun H' F2 s => h H' F2 (e.trans s)
  | no => exact h
theorem tJ_bindI {K : PySem.W.Frag} {W : WX} {io : Nat → Option Addr} {P F : Hp} {σ : L2.St} {H : Hp} {ρ : Env} {m : Ex} {f : Sl → Env → R (List D)} {R : It → Hp → Prop} {Q' : VK} (S : St K io P F ρ σ H) (h : ToI K W io P F σ R ((m ρ).bind f))
    (k : ∀ r ρ1 v H1 F1, Same F F1 → St K io P F1 ρ1 σ H1 → Rel K P F1 ρ1 σ H1 v r → ToI K W io P F1 σ R (f r ρ1) → Q' v H1) : tJ K W io m σ H Q' := by
  refine ⟨P, F, ρ, S, ?_⟩
  cases e : m ρ with
  | ok r ρ1 =>
    rw [e] at h
    exact fun v H1 F1 s S1 R1 => k r ρ1 v H1 F1 s S1 R1 (h.up s)
  | ex c ρ1 =>
    rw [e] at h
    exact h
  | no =>
    rw [e] at h
    exact h
/-- a list, a tuple, a text by its signs -/
def D.iter : D → Option (List D)
  | .lst ds => some ds
  | .tup ds => some ds
  | .scr ds => some ds
  | .str z => some (z.cps.toList.map fun c => .str ⟨#[c]⟩)
  | _ => none
def mkI (o : Option (List D)) (ρ : Env) : R (List D) := match o with
  | some z => .ok z ρ
  | none => .no
def iSeq (m : Ex) : Mi' := fun ρ => (m ρ).bind fun r ρ1 => mkI r.d.iter ρ1
section
variable {X : Cx} {W : WX} {io : Nat → Option Addr} {tg e l : Expr} {te tl : TE} {ma mb mc : Ex}
theorem pi_any (hl : PE X l tl) : PI X tg l (fun σ H R => tl σ H fun x H1 => (∃ a, x = .ref a ∧ (∃ xs, SqL X.K H1 a xs) ∧ R (Itl X.K a) H1) ∨ (∃ a, x = .ref a ∧ (∃ xs, SqT X.K H1 a xs) ∧ R (Itt X.K a) H1) ∨ ∃ z, x = .str z ∧ R (Its z) H1) := by
  refine ⟨fun pins s σ H R I h => ?_⟩
  refine thn (hl.run pins s σ H _ I h) fun v s1 ⟨x, H1, I1, r1, q1⟩ => ?_
  rcases q1 with ⟨a, e, ⟨xs, hq⟩, q⟩ | ⟨a, e, ⟨xs, hq⟩, q⟩ | ⟨z, e, q⟩
  · subst e
    cases r1
    obtain ⟨its, rv, p, hz⟩ := I1.list hq
    refine wpAny_pyIter_list p.isList ?_
    refine ⟨s1.heap.objs.size, [s1.heap.objs.size], _, _, H1, rfl, I1.kept (t' := s1.toks) fun b o e => Heap.get?_push_of_some _ e, turn_list a _, ⟨_, Heap.get?_push_size _ rfl, rfl, rfl⟩, fun b hb => ?_, q⟩
    have e : b = s1.heap.objs.size := by simpa using hb
    subst e
    exact I1.fpOk (Nat.le_refl _) (I1.hok.fresh (Nat.le_refl _))
  · subst e
    cases r1
    obtain ⟨its, rv, p, hz⟩ := I1.tuple hq
    refine wpAny_pyIter_tuple (show s1.heap.IsTuple a its.toArray from p) ?_
    refine ⟨s1.heap.objs.size, [s1.heap.objs.size], _, _, H1, rfl, I1.kept (t' := s1.toks) fun b o e => Heap.get?_push_of_some _ e, turn_tuple a _, ⟨_, Heap.get?_push_size _ rfl, rfl, rfl⟩, fun b hb => ?_, q⟩
    have e : b = s1.heap.objs.size := by simpa using hb
    subst e
    exact I1.fpOk (Nat.le_refl _) (I1.hok.fresh (Nat.le_refl _))
  · subst e
    obtain ⟨t, rfl⟩ := r1
    cases ha : z.cps.all (· < 128)
    · exact wpAny_pyIter_wide ha (pi_one (tk := s1.toks) I1 _ (turn_str _ z t "str_iterator" (.inr rfl)) ⟨_, Heap.get?_push_size _ rfl, rfl, rfl⟩ q)
    · exact wpAny_pyIter_ascii ha (pi_one (tk := s1.toks) I1 _ (turn_str _ z t "str_ascii_iterator" (.inl rfl)) ⟨_, Heap.get?_push_size _ rfl, rfl, rfl⟩ q)
theorem itOk_l {K : PySem.W.Frag} {F : Hp} {a : Addr} {vs : List V} {ds : List D} (h : SqL K F a vs) (q : FzL K F ds vs) : ItOk K F (Itl K a) ds where
  stop := fun H e => ⟨vs, e.seq h, by rw [q.length]; exact Nat.le_refl _⟩
  go := fun i H hi e => by
    obtain ⟨v, h1, _⟩ := q.get (d := ds[i]) (List.getElem?_eq_getElem hi)
    exact ⟨vs, v, e.seq h, h1⟩
  yld := fun i d F2 H x H' hd e1 e2 y => by
    obtain ⟨rfl, y⟩ := y
    exact ⟨F2, Ext.refl e2, (q.at hd (y vs ((e1.trans e2).seq h))).mono e1⟩
theorem itOk_t {K : PySem.W.Frag} {F : Hp} {a : Addr} {vs : List V} {ds : List D} (h : SqT K F a vs) (q : FzL K F ds vs) : ItOk K F (Itt K a) ds where
  stop := fun H e => ⟨vs, same_seqT e h, by rw [q.length]; exact Nat.le_refl _⟩
  go := fun i H hi e => by
    obtain ⟨v, h1, _⟩ := q.get (d := ds[i]) (List.getElem?_eq_getElem hi)
    exact ⟨vs, v, same_seqT e h, h1⟩
  yld := fun i d F2 H x H' hd e1 e2 y => by
    obtain ⟨rfl, y⟩ := y
    exact ⟨F2, Ext.refl e2, (q.at hd (y vs (same_seqT (e1.trans e2) h))).mono e1⟩
theorem itOk_s {K : PySem.W.Frag} {F : Hp} {z : Str} : ItOk K F (Its z) (z.cps.toList.map fun c => .str ⟨#[c]⟩) where
  stop := fun H e => by
    show z.cps.size ≤ _
    rw [List.length_map]
    exact Nat.le_of_eq Array.length_toList.symm
  go := fun i H hi e => by
    show i < z.cps.size
    rw [List.length_map] at hi
    exact Nat.lt_of_lt_of_le hi (Nat.le_of_eq Array.length_toList)
  yld := fun i d F2 H x H' hd e1 e2 y => by
    obtain ⟨rfl, c, hc, rfl⟩ := y
    rw [List.getElem?_map, Array.getElem?_toList, hc] at hd
    cases hd
    exact ⟨F2, Ext.refl e2, rfl⟩
theorem itOk_r {K : PySem.W.Frag} {F : Hp} {lo : Int} {n : Nat} : ItOk K F (Itr lo n) ((List.range n).map fun i => .int (lo + (i : Nat))) where
  stop := fun H e => by
    show n ≤ _
    rw [List.length_map, List.length_range]
    exact Nat.le_refl _
  go := fun i H hi e => by
    rw [List.length_map, List.length_range] at hi
    exact hi
  yld := fun i d F2 H x H' hd e1 e2 y => by
    obtain ⟨rfl, rfl⟩ := y
    rw [List.getElem?_map] at hd
    obtain ⟨j, h1, rfl⟩ := Option.map_eq_some_iff.mp hd
    have h2 := (List.getElem?_eq_some_iff.mp h1)
    obtain ⟨h3, h4⟩ := h2
    rw [List.getElem_range] at h4
    subst h4
    exact ⟨F2, Ext.refl e2, rfl⟩
theorem itOk_c {K : PySem.W.Frag} {F : Hp} {lo c : Int} {n : Nat} : ItOk K F (Itc lo c n) ((List.range n).map fun i => .int (lo + (i : Nat) * c)) where
  stop := fun H e => by
    show n ≤ _
    rw [List.length_map, List.length_range]
    exact Nat.le_refl _
  go := fun i H hi e => by
    rw [List.length_map, List.length_range] at hi
    exact hi
  yld := fun i d F2 H x H' hd e1 e2 y => by
    obtain ⟨rfl, rfl⟩ := y
    rw [List.getElem?_map] at hd
    obtain ⟨j, h1, rfl⟩ := Option.map_eq_some_iff.mp hd
    have h2 := (List.getElem?_eq_some_iff.mp h1)
    obtain ⟨h3, h4⟩ := h2
    rw [List.getElem_range] at h4
    subst h4
    exact ⟨F2, Ext.refl e2, rfl⟩
/-- pairs laid at each turn -/
theorem itOk_pair {K : PySem.W.Frag} {F F2 H : Hp} {T : Addr} {x y : V} {d e : D} (s : Same F2 H) (n : H T = none) (q1 : Fz K F2 d x) (q2 : Fz K F2 e y) : ∃ F3, Ext F2 H F3 (upd H T (.tup [x, y])) ∧ Fz K F3 (.tup [d, e]) (.ref T) := by
  have ex := Ext.froz (o := .tup [x, y]) s n
  exact ⟨_, ex, T, [x, y], rfl, .inl (.inl upd_same), x, [y], rfl, q1.mono ex.f, y, [], rfl, q2.mono ex.f, rfl⟩
def zipD (a b : List D) : List D := (a.zip b).map fun p => .tup [p.1, p.2]
def enumD (a : List D) : List D := a.zipIdx.map fun p => .tup [.int (p.2 : Nat), p.1]
theorem itOk_e {K : PySem.W.Frag} {F : Hp} {a : Addr} {vs : List V} {ds : List D} (h : SqL K F a vs) (q : FzL K F ds vs) : ItOk K F (Ite K a) (enumD ds) where
  stop := fun H e => ⟨vs, e.seq h, by unfold enumD; rw [List.length_map, List.length_zipIdx, q.length]; exact Nat.le_refl _⟩
  go := fun i H hi e => by
    unfold enumD at hi
    rw [List.length_map, List.length_zipIdx] at hi
    obtain ⟨v, h1, _⟩ := q.get (d := ds[i]) (List.getElem?_eq_getElem hi)
    exact ⟨vs, v, e.seq h, h1⟩
  yld := fun i d F2 H x H' hd e1 e2 y => by
    obtain ⟨T, v, rfl, n, rfl, y⟩ := y
    unfold enumD at hd
    rw [List.getElem?_map] at hd
    obtain ⟨p, h1, rfl⟩ := Option.map_eq_some_iff.mp hd
    rw [List.getElem?_zipIdx] at h1
    obtain ⟨u, h2, rfl⟩ := Option.map_eq_some_iff.mp h1
    have h3 := (q.at h2 (y vs ((e1.trans e2).seq h))).mono e1
    have e3 : (0 + i : Nat) = i := Nat.zero_add i
    show ∃ F3, Ext F2 H F3 _ ∧ Fz K F3 (.tup [.int ((0 + i : Nat) : Int), u]) _
    rw [e3]
    exact itOk_pair (F := F) e2 n rfl h3
theorem zip_at {a b : List D} {i : Nat} {d : D} (h : (zipD a b)[i]? = some d) : ∃ x y, a[i]? = some x ∧ b[i]? = some y ∧ d = .tup [x, y] := by
  unfold zipD at h
  rw [List.getElem?_map] at h
  obtain ⟨p, h1, rfl⟩ := Option.map_eq_some_iff.mp h
  rw [List.getElem?_zip_eq_some] at h1
  exact ⟨_, _, h1.1, h1.2, rfl⟩
theorem zipD_length (a b : List D) : (zipD a b).length = min a.length b.length := by
  unfold zipD
  rw [List.length_map, List.length_zip]
theorem itOk_zl {K : PySem.W.Frag} {F : Hp} {a b : Addr} {vs us : List V} {ds es : List D} (h : SqL K F a vs) (q : FzL K F ds vs) (h' : SqL K F b us) (q' : FzL K F es us) : ItOk K F (Itz K a b) (zipD ds es) where
  stop := fun H e => ⟨vs, us, e.seq h, e.seq h', by rw [zipD_length, ← q.length, ← q'.length]; omega⟩
  go := fun i H hi e => by
    rw [zipD_length] at hi
    have i1 : i < ds.length := by omega
    have i2 : i < es.length := by omega
    obtain ⟨v, h1, _⟩ := q.get (d := ds[i]) (List.getElem?_eq_getElem i1)
    obtain ⟨u, h2, _⟩ := q'.get (d := es[i]) (List.getElem?_eq_getElem i2)
    exact ⟨vs, us, v, u, e.seq h, e.seq h', h1, h2⟩
  yld := fun i d F2 H x H' hd e1 e2 y => by
    obtain ⟨T, v, u, rfl, n, rfl, y1, y2⟩ := y
    obtain ⟨dx, dy, h1, h2, rfl⟩ := zip_at hd
    exact itOk_pair (F := F) e2 n ((q.at h1 (y1 vs ((e1.trans e2).seq h))).mono e1) ((q'.at h2 (y2 us ((e1.trans e2).seq h'))).mono e1)
theorem itOk_zt {K : PySem.W.Frag} {F : Hp} {a b : Addr} {vs us : List V} {ds es : List D} (h : SqT K F a vs) (q : FzL K F ds vs) (h' : SqT K F b us) (q' : FzL K F es us) : ItOk K F (ItzT K a b) (zipD ds es) where
  stop := fun H e => ⟨vs, us, same_seqT e h, same_seqT e h', by rw [zipD_length, ← q.length, ← q'.length]; omega⟩
  go := fun i H hi e => by
    rw [zipD_length] at hi
    have i1 : i < ds.length := by omega
    have i2 : i < es.length := by omega
    obtain ⟨v, h1, _⟩ := q.get (d := ds[i]) (List.getElem?_eq_getElem i1)
    obtain ⟨u, h2, _⟩ := q'.get (d := es[i]) (List.getElem?_eq_getElem i2)
    exact ⟨vs, us, v, u, same_seqT e h, same_seqT e h', h1, h2⟩
  yld := fun i d F2 H x H' hd e1 e2 y => by
    obtain ⟨T, v, u, rfl, n, rfl, y1, y2⟩ := y
    obtain ⟨dx, dy, h1, h2, rfl⟩ := zip_at hd
    exact itOk_pair (F := F) e2 n ((q.at h1 (y1 vs (same_seqT (e1.trans e2) h))).mono e1) ((q'.at h2 (y2 us (same_seqT (e1.trans e2) h'))).mono e1)
theorem mkI_some {K : PySem.W.Frag} {P F : Hp} {σ : L2.St} {ρ : Env} {R : It → Hp → Prop} {o : Option (List D)} (h : ToI K W io P F σ R (mkI o ρ)) : ∃ z, o = some z ∧ ToI K W io P F σ R (.ok z ρ) := by
  cases o with
  | none => exact h.elim
  | some z => exact ⟨z, rfl, h⟩
theorem ji_seq (h : JE X W io e ma) : JI X W io tg e (iSeq ma) := ⟨pii (pi_any h.pe) fun σ H R q => by
  obtain ⟨P, F, ρ, S, q⟩ := q
  refine tJ_bindI S q fun r ρ1 v H1 F1 s1 S1 R1 h1 => ?_
  obtain ⟨F1', s', S1', q1⟩ := S1.cool R1
  obtain ⟨ds, ed, h2⟩ := mkI_some h1
  have h3 : ∀ J, ItOk X.K F1' J ds → R J H1 := fun J ok => (show ∀ J H' F', Same F1 F' → St X.K io P F' ρ1 σ H' → ItOk X.K F' J ds → R J H' from h2) J H1 F1' s' S1' ok
  cases er : r.d <;> rw [er] at ed q1 <;> first | (simp [D.iter] at ed; done) | skip
  · rename_i z
    cases (show v = .str z from q1)
    cases ed
    exact .inr (.inr ⟨z, rfl, h3 _ itOk_s⟩)
  · cases ed
    obtain ⟨a, vs, rfl, ha, ra⟩ := q1
    exact .inr (.inl ⟨a, rfl, ⟨vs, same_seqT S1'.fh ha⟩, h3 _ (itOk_t ha ra)⟩)
  · cases ed
    obtain ⟨a, vs, rfl, ha, ra⟩ := q1
    exact .inl ⟨a, rfl, ⟨vs, .inl (.inl (S1'.fh _ _ ha))⟩, h3 _ (itOk_l (.inl (.inl ha)) ra)⟩
  · cases ed
    obtain ⟨a, vs, rfl, ha, ra⟩ := q1
    exact .inl ⟨a, rfl, ⟨vs, S1'.fh.seq ha⟩, h3 _ (itOk_l ha ra)⟩⟩
/-- frozen parts, then the walk -/
theorem tEs_bindI {K : PySem.W.Frag} {P : Hp} {σ : L2.St} {R : It → Hp → Prop} : ∀ (ms : List Ex) {f : List D → Env → Mi.R (List D)} {Q' : List V → Hp → Prop} {F : Hp} {ρ : Env} {H : Hp}, St K io P F ρ σ H → ToI K W io P F σ R ((runE ms ρ).bind f) →
    (∀ ds ρ1 vs H1 F1, Same F F1 → St K io P F1 ρ1 σ H1 → FzL K F1 ds vs → ToI K W io P F1 σ R (f ds ρ1) → Q' vs H1) → tEs K W io ms σ H Q'
  | [], f, Q', F, ρ, H, S, h, k => k [] ρ [] H F (Same.refl _) S rfl h
  | m :: ms, f, Q', F, ρ, H, S, h, k => by
    have e : (runE (m :: ms) ρ).bind f = (m ρ).bind fun x ρ1 => (runE ms ρ1).bind fun ds ρ2 => f (x.d :: ds) ρ2 := by
      show Mi.R.bind ((m ρ).bind fun x ρ1 => (runE ms ρ1).bind fun ds ρ2 => .ok (x.d :: ds) ρ2) f = _
      rw [Mi.R.bind_assoc]
      congr 1
      funext p ρ1
      rw [Mi.R.bind_assoc]
      rfl
    rw [e] at h
    refine tJ_bindI S h fun x ρ1 v H1 F1 s1 S1 R1 h1 => ?_
    obtain ⟨F1', s1', S1', q1⟩ := S1.cool R1
    exact tEs_bindI ms S1' (h1.up s1') fun ds ρ2 vs H2 F2 s2 S2 R2 h2 => k (x.d :: ds) ρ2 (v :: vs) H2 F2 ((s1.trans s1').trans s2) S2 ⟨v, vs, rfl, q1.mono s2, R2⟩ h2
def RB : Int := 1000000000
def rangeL (lo : Int) (n : Nat) : List D := (List.range n).map fun i => .int (lo + (i : Nat))
def range1D : List D → Option (List D)
  | [.int j] => if -RB ≤ j ∧ j ≤ RB then some (rangeL 0 j.toNat) else none
  | _ => none
def range2D : List D → Option (List D)
  | [.int i, .int j] => if -RB ≤ i ∧ i ≤ RB ∧ -RB ≤ j ∧ j ≤ RB then some (rangeL i (j - i).toNat) else none
  | _ => none
def range3D : List D → Option (List D)
  | [.int i, .int j, .int c] => if c = -1 ∧ -RB ≤ i ∧ i ≤ RB ∧ -RB ≤ j ∧ j ≤ RB then some ((List.range (i - j).toNat).map fun k => .int (i + (k : Nat) * (-1))) else none
  | _ => none
def iRange1 (a : Ex) : Mi' := fun ρ => (runE [a] ρ).bind fun ds ρ1 => mkI (range1D ds) ρ1
def iRange2 (a b : Ex) : Mi' := fun ρ => (runE [a, b] ρ).bind fun ds ρ1 => mkI (range2D ds) ρ1
def iRange3 (a b c : Ex) : Mi' := fun ρ => (runE [a, b, c] ρ).bind fun ds ρ1 => mkI (range3D ds) ρ1
theorem ji_range1 {p pos : Pos} {a : Expr} (hm : X.mg "range" = none) (ha : JEs X W io [a] [ma]) (hg : Gl X "range" := by rfl) (hs : starEach [a] X.env = [(false, eval a X.env)] := by rfl) : JI X W io tg (.Call (.Name "range" p) [a] [] pos) (iRange1 ma) := ⟨pii (pi_range1 hg hm ha.pa hs) fun σ H R q => by
  obtain ⟨P, F, ρ, S, q⟩ := q
  refine tEs_bindI [ma] S q fun ds ρ1 vs H1 F1 s1 S1 q1 h1 => ?_
  obtain ⟨z, ez, h2⟩ := mkI_some h1
  match ds, ez with
  | [.int j], ez =>
    obtain ⟨v, ws, rfl, e1, e2⟩ := q1
    have e2 : ws = [] := e2
    subst e2
    cases (show v = .int j from e1)
    have e3 : (if -RB ≤ j ∧ j ≤ RB then some (rangeL 0 j.toNat) else none) = some z := ez
    split at e3
    · rename_i hj
      unfold RB at hj
      cases e3
      exact ⟨j, rfl, by omega, by omega, (show ∀ J H' F', Same F1 F' → _ from h2) _ H1 F1 (Same.refl _) S1 (by unfold rangeL; exact itOk_r)⟩
    · cases e3⟩
theorem ji_range2 {p pos : Pos} {a b : Expr} (hm : X.mg "range" = none) (ha : JEs X W io [a, b] [ma, mb]) (hg : Gl X "range" := by rfl) (hs : starEach [a, b] X.env = [(false, eval a X.env), (false, eval b X.env)] := by rfl) (hs2 : starEach [b] X.env = [(false, eval b X.env)] := by rfl) : JI X W io tg (.Call (.Name "range" p) [a, b] [] pos) (iRange2 ma mb) := ⟨pii (pi_range2 hg hm ha.pa hs hs2) fun σ H R q => by
  obtain ⟨P, F, ρ, S, q⟩ := q
  refine tEs_bindI [ma, mb] S q fun ds ρ1 vs H1 F1 s1 S1 q1 h1 => ?_
  obtain ⟨z, ez, h2⟩ := mkI_some h1
  match ds, ez with
  | [.int i, .int j], ez =>
    obtain ⟨v, ws, rfl, e1, w, ws2, rfl, e2, e4⟩ := q1
    have e4 : ws2 = [] := e4
    subst e4
    cases (show v = .int i from e1)
    cases (show w = .int j from e2)
    have e3 : (if -RB ≤ i ∧ i ≤ RB ∧ -RB ≤ j ∧ j ≤ RB then some (rangeL i (j - i).toNat) else none) = some z := ez
    split at e3
    · rename_i hj
      unfold RB at hj
      cases e3
      exact ⟨i, j, rfl, ⟨by omega, by omega, by omega, by omega⟩, (show ∀ J H' F', Same F1 F' → _ from h2) _ H1 F1 (Same.refl _) S1 (by unfold rangeL; exact itOk_r)⟩
    · cases e3⟩
theorem ji_range3 {p pos : Pos} {a b c : Expr} (hm : X.mg "range" = none) (ha : JEs X W io [a, b, c] [ma, mb, mc]) (hg : Gl X "range" := by rfl) (hs : starEach [a, b, c] X.env = (false, eval a X.env) :: starEach [b, c] X.env := by rfl) (hpl : (backTo pos (starEach [b, c] X.env)).any (·.1) = false := by rfl) : JI X W io tg (.Call (.Name "range" p) [a, b, c] [] pos) (iRange3 ma mb mc) := ⟨pii (pi_range3 hg hm ha.pa hs hpl) fun σ H R q => by
  obtain ⟨P, F, ρ, S, q⟩ := q
  refine tEs_bindI [ma, mb, mc] S q fun ds ρ1 vs H1 F1 s1 S1 q1 h1 => ?_
  obtain ⟨z, ez, h2⟩ := mkI_some h1
  match ds, ez with
  | [.int i, .int j, .int c], ez =>
    obtain ⟨v, ws, rfl, e1, w, ws2, rfl, e2, u, ws3, rfl, e4, e5⟩ := q1
    have e5 : ws3 = [] := e5
    subst e5
    cases (show v = .int i from e1)
    cases (show w = .int j from e2)
    cases (show u = .int c from e4)
    have e3 : (if c = -1 ∧ -RB ≤ i ∧ i ≤ RB ∧ -RB ≤ j ∧ j ≤ RB then some ((List.range (i - j).toNat).map fun k => D.int (i + (k : Nat) * (-1))) else none) = some z := ez
    split at e3
    · rename_i hj
      unfold RB at hj
      obtain ⟨rfl, hj⟩ := hj
      cases e3
      exact ⟨i, j, -1, (i - j).toNat, rfl, RgC.neg (by omega) (by omega) (by omega) (by omega), (show ∀ J H' F', Same F1 F' → _ from h2) _ H1 F1 (Same.refl _) S1 itOk_c⟩
    · cases e3⟩
def enumI : List D → Option (List D)
  | [.lst xs] => some (enumD xs)
  | [.scr xs] => some (enumD xs)
  | _ => none
def zipI : List D → Option (List D)
  | [.lst xs, .lst ys] => some (zipD xs ys)
  | [.tup xs, .tup ys] => some (zipD xs ys)
  | _ => none
def iEnumE (ms : List Ex) : Mi' := fun ρ => (runE ms ρ).bind fun ds ρ1 => mkI (enumI ds) ρ1
def iZipE (ms : List Ex) : Mi' := fun ρ => (runE ms ρ).bind fun ds ρ1 => mkI (zipI ds) ρ1
theorem ji_enum {p pos tpos : Pos} {a : Expr} {elts : List Expr} {kk : Nat} (hm : X.mg "enumerate" = none) (ha : JEs X W io [a] [ma]) (hg : Gl X "enumerate" := by rfl) (hs : starEach [a] X.env = [(false, eval a X.env)] := by rfl) : JI X W io (.Tuple elts kk tpos) (.Call (.Name "enumerate" p) [a] [] pos) (iEnumE [ma]) := ⟨pii (pi_enum hg hm ha.pa hs) fun σ H R q => by
  obtain ⟨P, F, ρ, S, q⟩ := q
  refine tEs_bindI [ma] S q fun ds ρ1 vs H1 F1 s1 S1 q1 h1 => ?_
  obtain ⟨z, ez, h2⟩ := mkI_some h1
  match ds, ez with
  | [.lst xs], ez =>
    cases ez
    obtain ⟨v, ws, rfl, ⟨b, us, rfl, hb, rb⟩, e2⟩ := q1
    have e2 : ws = [] := e2
    subst e2
    exact ⟨b, us, rfl, .inl (.inl (S1.fh _ _ hb)), (show ∀ J H' F', Same F1 F' → _ from h2) _ H1 F1 (Same.refl _) S1 (itOk_e (.inl (.inl hb)) rb)⟩
  | [.scr xs], ez =>
    cases ez
    obtain ⟨v, ws, rfl, ⟨b, us, rfl, hb, rb⟩, e2⟩ := q1
    have e2 : ws = [] := e2
    subst e2
    exact ⟨b, us, rfl, S1.fh.seq hb, (show ∀ J H' F', Same F1 F' → _ from h2) _ H1 F1 (Same.refl _) S1 (itOk_e hb rb)⟩⟩
theorem ji_zip {p pos tpos : Pos} {a b : Expr} {elts : List Expr} {kk : Nat} (hm : X.mg "zip" = none) (ha : JEs X W io [a, b] [ma, mb]) (hg : Gl X "zip" := by rfl) (hs : starEach [a, b] X.env = (false, eval a X.env) :: starEach [b] X.env := by rfl) (hpl : (backTo pos (starEach [b] X.env)).any (·.1) = false := by rfl) : JI X W io (.Tuple elts kk tpos) (.Call (.Name "zip" p) [a, b] [] pos) (iZipE [ma, mb]) := ⟨pii (pi_zipA hg hm ha.pa hs hpl) fun σ H R q => by
  obtain ⟨P, F, ρ, S, q⟩ := q
  refine tEs_bindI [ma, mb] S q fun ds ρ1 vs H1 F1 s1 S1 q1 h1 => ?_
  obtain ⟨z, ez, h2⟩ := mkI_some h1
  match ds, ez with
  | [.lst xs, .lst ys], ez =>
    cases ez
    obtain ⟨v, ws, rfl, ⟨c, us, rfl, hb, rb⟩, w, ws2, rfl, ⟨c2, us2, rfl, hb2, rb2⟩, e2⟩ := q1
    have e2 : ws2 = [] := e2
    subst e2
    exact ⟨c, c2, us, us2, rfl, .inl ⟨.inl (.inl (S1.fh _ _ hb)), .inl (.inl (S1.fh _ _ hb2)), (show ∀ J H' F', Same F1 F' → _ from h2) _ H1 F1 (Same.refl _) S1 (itOk_zl (.inl (.inl hb)) rb (.inl (.inl hb2)) rb2)⟩⟩
  | [.tup xs, .tup ys], ez =>
    cases ez
    obtain ⟨v, ws, rfl, ⟨c, us, rfl, hb, rb⟩, w, ws2, rfl, ⟨c2, us2, rfl, hb2, rb2⟩, e2⟩ := q1
    have e2 : ws2 = [] := e2
    subst e2
    exact ⟨c, c2, us, us2, rfl, .inr ⟨same_seqT S1.fh hb, same_seqT S1.fh hb2, (show ∀ J H' F', Same F1 F' → _ from h2) _ H1 F1 (Same.refl _) S1 (itOk_zt hb rb hb2 rb2)⟩⟩⟩
/-! ### for -/
def loopF (g : Tg) (b : Sm) : List D → Env → SR
  | [], ρ => .nx ρ
  | d :: ds, ρ => match g d ρ with
    | some ρ1 => turned (b ρ1) (loopF g b ds)
    | none => .no
def R.toSI (r : R (List D)) (f : List D → Env → SR) : SR := r.toS f
def sFor (mi : Mi') (g : Tg) (b : Sm) : Sm := fun ρ => (mi ρ).toS fun ds ρ1 => loopF g b ds ρ1
theorem js_for {pos : Pos} {body : List Stmt} {g : Tg} {mi : Mi'} {sb : Sm} (hp : PassesOwn (model X.prog X.w) X.A X.env X.xe) (hc : X.calm = true) (hi : JI X W io tg e mi) (hg : JG X io tg g) (hb : JSs X W io body sb) (hs : ∀ x, foldedSetIterable e X.env x = pure x := by intro _; rfl) :
    JS X W io (.For tg e body [] pos) (sFor mi g sb) := ⟨psi (ps_for hp hc hi.pi hg.pg hb.ps hs) fun D σ H h => by
  obtain ⟨P, F, ρ, S, h⟩ := h
  refine ⟨P, F, ρ, S, ?_⟩
  unfold sFor at h
  cases em : mi ρ with
  | no => rw [em] at h; exact h
  | ex c ρ1 => rw [em] at h; exact fun H' F' s S' => h σ H' F' s S'
  | ok ds ρ1 =>
    rw [em] at h
    intro J H1 F1 s1 S1 ok
    have h1 : ToS X.K W io P F1 D (loopF g sb ds ρ1) := ToS.up s1 h
    refine ⟨fun i m σ H => m = ds.length - i ∧ i ≤ ds.length ∧ ∃ F' ρ', Same F1 F' ∧ St X.K io P F' ρ' σ H ∧ ToS X.K W io P F' D (loopF g sb (ds.drop i) ρ'), ⟨ds.length, rfl, Nat.zero_le _, F1, ρ1, Same.refl _, S1, h1⟩, ?_⟩
    rintro i m σ2 H2 ⟨rfl, hi, F2, ρ2, s2, S2, h2⟩
    by_cases hlt : i < ds.length
    · refine .inr ⟨ok.go i H2 hlt (s2.trans S2.fh), ?_⟩
      have ed : ds.drop i = ds[i] :: ds.drop (i + 1) := List.drop_eq_getElem_cons hlt
      rw [ed] at h2
      have h2' : ToS X.K W io P F2 D (match g ds[i] ρ2 with
        | some ρ1 => Mi.turned (sb ρ1) (loopF g sb (ds.drop (i + 1)))
        | none => .no) := h2
      refine ⟨fun σ' H' => ∃ F' ρ', Same F1 F' ∧ St X.K io P F' ρ' σ' H' ∧ ToS X.K W io P F' D (loopF g sb (ds.drop (i + 1)) ρ'), fun σ' H' q => ⟨ds.length - (i + 1), by omega, rfl, hlt, q⟩, fun x H' y => ?_⟩
      obtain ⟨F3, ex, qx⟩ := ok.yld i ds[i] F2 H2 x H' (List.getElem?_eq_getElem hlt) s2 S2.fh y
      have S3 := S2.ext ex
      cases eg : g ds[i] ρ2 with
      | none => rw [eg] at h2'; exact (show False from h2').elim
      | some ρ3 =>
        rw [eg] at h2'
        refine ⟨P, F3, ρ2, ds[i], S3, qx, ρ3, eg, fun σ' H4 F4 s4 S4 => ⟨P, F4, ρ3, S4, ?_⟩⟩
        exact ToS.turned (ToS.up (ex.f.trans s4) (show ToS X.K W io P F2 D (Mi.turned (sb ρ3) (loopF g sb (ds.drop (i + 1)))) from h2')) fun ρ' σ' H' F' s S' q => ⟨F', ρ', (s2.trans (ex.f.trans s4)).trans s, S', q⟩
    · have e : i = ds.length := by omega
      subst e
      rw [List.drop_length] at h2
      exact .inl ⟨ok.stop H2 (s2.trans S2.fh), h2 σ2 H2 F2 (Same.refl _) S2⟩⟩
end
end Mi

namespace Mi
open PySem PySem.Spec PyProof.Rows L2

/-! ### lists of one's own are changed -/
def Sl.own : Sl → Option (List D)
  | .ow xs => some xs
  | .io xs => some xs
  | _ => none
def Sl.as : Sl → List D → Sl
  | .io _, ys => .io ys
  | _, ys => .ow ys
def ownAt (ρ : Env) (i : Nat) : Option (Sl × List D) := match ρ[i]? with
  | some (some s) => s.own.map fun xs => (s, xs)
  | _ => none
section
variable {K : PySem.W.Frag} {W : WX} {io : Nat → Option Addr} {P F F' : Hp} {σ : L2.St} {H : Hp} {ρ : Env}
theorem ownAt_some {i : Nat} {s : Sl} {xs : List D} (h : ownAt ρ i = some (s, xs)) : ρ[i]? = some (some s) ∧ s.own = some xs ∧ Own ρ i xs := by
  unfold ownAt at h
  cases e : ρ[i]? with
  | none => rw [e] at h; cases h
  | some o =>
    rw [e] at h
    cases o with
    | none => cases h
    | some t =>
      obtain ⟨ys, h1, h2⟩ := Option.map_eq_some_iff.mp h
      cases h2
      refine ⟨rfl, h1, ?_⟩
      cases s with
      | fz d => cases h1
      | ow zs => cases h1; exact .inl e
      | io zs => cases h1; exact .inr e
/-- a list of one's own takes other items -/
theorem St.write {i : Nat} {s : Sl} {xs ys : List D} {a : Addr} {us : List V} (S : St K io P F ρ σ H) (h : ownAt ρ i = some (s, xs)) (ha : σ[i]? = some (some (.ref a))) (q : FzL K F ys us) :
    St K io P F (ρ.set i (some (s.as ys))) σ (upd H a (.lst us)) := by
  obtain ⟨e0, e1, e2⟩ := ownAt_some h
  obtain ⟨b, ws, h1, h2, h3, h4, h5⟩ := S.ow i xs e2
  rw [ha] at h1
  cases h1
  have hi : i < ρ.length := (List.getElem?_eq_some_iff.mp e0).1
  have back : ∀ {j zs}, Own (ρ.set i (some (s.as ys))) j zs → (j = i ∧ zs = ys) ∨ (j ≠ i ∧ Own ρ j zs) := fun {j zs} o => by
    by_cases hj : j = i
    · subst hj
      refine .inl ⟨rfl, ?_⟩
      rcases o with o | o
      · rw [set_self hi] at o
        cases s <;> first | (cases e1; done) | skip
        · cases o; rfl
        · cases o
      · rw [set_self hi] at o
        cases s <;> first | (cases e1; done) | skip
        · cases o
        · cases o; rfl
    · refine .inr ⟨hj, ?_⟩
      rcases o with o | o
      · rw [set_other (Ne.symm hj)] at o; exact .inl o
      · rw [set_other (Ne.symm hj)] at o; exact .inr o
  have own : ∀ {j zs}, Own (ρ.set i (some (s.as ys))) j zs → ∃ zs', Own ρ j zs' := fun {j zs} o => by
    rcases back o with ⟨rfl, _⟩ | ⟨_, o⟩
    · exact ⟨_, e2⟩
    · exact ⟨_, o⟩
  refine ⟨fun b o e => ?_, fun b o e => ?_, S.pf, by simp [S.len], fun j d e => ?_, fun j zs o => ?_, fun j zs b e e' => ?_, fun j k zs ws' b o1 o2 e e' => ?_⟩
  · rw [upd_ne (ne_of_none e h4)]
    exact S.fh b o e
  · rw [upd_ne (ne_of_none e h5)]
    exact S.ph b o e
  · by_cases hj : j = i
    · subst hj
      rw [set_self hi] at e
      cases s <;> first | (cases e1; done) | cases e
    · rw [set_other (Ne.symm hj)] at e
      exact S.fz j d e
  · rcases back o with ⟨rfl, rfl⟩ | ⟨hj, o⟩
    · exact ⟨a, us, ha, upd_same, q, h4, h5⟩
    · obtain ⟨b, us', g1, g2, g3, g4, g5⟩ := S.ow j zs o
      refine ⟨b, us', g1, ?_, g3, g4, g5⟩
      have hb : b ≠ a := fun z => by
        subst z
        exact hj (S.ds j i zs xs b o e2 g1 ha)
      rw [upd_ne hb]
      exact g2
  · by_cases hj : j = i
    · subst hj
      rw [set_self hi] at e
      cases s <;> first | (cases e1; done) | (cases e; done) | skip
      exact S.ia j _ b e0 e'
    · rw [set_other (Ne.symm hj)] at e
      exact S.ia j zs b e e'
  · obtain ⟨zs1, o1'⟩ := own o1
    obtain ⟨zs2, o2'⟩ := own o2
    exact S.ds j k zs1 zs2 b o1' o2' e e'
theorem St.at (S : St K io P F ρ σ H) {i : Nat} {s : Sl} {xs : List D} (h : ownAt ρ i = some (s, xs)) : ∃ a vs, σ[i]? = some (some (.ref a)) ∧ H a = some (.lst vs) ∧ FzL K F xs vs := by
  obtain ⟨_, _, e2⟩ := ownAt_some h
  obtain ⟨a, vs, h1, h2, h3, _⟩ := S.ow i xs e2
  exact ⟨a, vs, h1, h2, h3⟩
end
/-- x.m(e, ..): f gives the value and the new items -/
def mMut (i : Nat) (f : List D → List D → Option (D × List D)) (es : List Ex) : Ex := fun ρ => if (ownAt ρ i).isSome then (runE es ρ).bind fun ds ρ1 => match ownAt ρ1 i with
  | some (s, xs) => match f xs ds with
    | some (y, ys) => .ok (.fz y) (ρ1.set i (some (s.as ys)))
    | none => .no
  | none => .no else .no
/-- what such a method asks -/
def MutOk (K : PySem.W.Frag) (r : V → List V → Hp → VK → Prop) (f : List D → List D → Option (D × List D)) : Prop := ∀ (F H : Hp) (a : Addr) (vs us : List V) (xs ds : List D) (y : D) (ys : List D) (Q : VK), Same F H → H a = some (.lst vs) → FzL K F xs vs → FzL K F ds us → f xs ds = some (y, ys) →
  (∀ v ws, Fz K F y v → FzL K F ys ws → Q v (upd H a (.lst ws))) → r (.ref a) us H Q
section
variable {X : Cx} {W : WX} {io : Nat → Option Addr} {e : Expr} {es : List Expr} {ms : List Ex} {pos apos : Pos}
theorem mut_core {r : V → List V → Hp → VK → Prop} {f : List D → List D → Option (D × List D)} (hf : MutOk X.K r f) {i : Nat} {σ : L2.St} {H : Hp} {Q : VK} (h : tJ X.K W io (mMut i f ms) σ H Q) :
    tVar i σ H fun x H1 => tyV X.K "list" x H1 ∧ tEs X.K W io ms σ H1 fun xs H2 => r x xs H2 Q := by
  obtain ⟨P, F, ρ, S, h⟩ := h
  obtain ⟨hc, h⟩ := toE_if h
  obtain ⟨⟨s, xs⟩, ho⟩ := Option.isSome_iff_exists.mp hc
  obtain ⟨a, vs, h1, h2, h3⟩ := S.at ho
  refine ⟨.ref a, h1, .inl ⟨rfl, vs, .inl (.inl h2)⟩, tEs_bind ms S h fun ds ρ1 us H1 F1 s1 S1 R1 h4 => ?_⟩
  cases ho1 : ownAt ρ1 i with
  | none => rw [ho1] at h4; exact (show False from h4).elim
  | some p =>
    obtain ⟨s', xs'⟩ := p
    rw [ho1] at h4
    have h4 : ToE X.K W io P F1 σ Q (match f xs' ds with
      | some (y, ys) => R.ok (Sl.fz y) (ρ1.set i (some (s'.as ys)))
      | none => R.no) := h4
    cases hf1 : f xs' ds with
    | none => rw [hf1] at h4; exact (show False from h4).elim
    | some q =>
      obtain ⟨y, ys⟩ := q
      rw [hf1] at h4
      obtain ⟨a', vs', g1, g2, g3⟩ := S1.at ho1
      rw [h1] at g1
      cases g1
      exact hf F1 H1 a vs' us xs' ds y ys Q S1.fh g2 g3 R1 hf1 fun v ws qy qs => (show ∀ v H' F', Same F1 F' → _ from h4) v _ F1 (Same.refl _) (S1.write ho1 h1 qs) qy
theorem je_mut0 (i : Nat) {x : Str} {name : Str} {id : String} {p : Pos} {r : V → List V → Hp → VK → Prop} {f : List D → List D → Option (D × List D)} (hf : MutOk X.K r f) (slot : Slot "list" name id) (hty : typeOf (.builtin id) = pure (.type "method_descriptor")) (hm : MtR X id r)
    (ho : IsV X i (.Name x p)) (hbase : attributeBase (.Name x p) name X.env (eval (.Name x p) X.env) = eval (.Name x p) X.env := by rfl) (hline : (apos.endLine == pos.line) = true := by rfl) : JE X W io (.Call (.Attribute (.Name x p) name apos) [] [] pos) (mMut i f []) := by
  refine ⟨pei (pe_bm0 PySem.F.plainAttrs_list slot hty hm ho.pe hbase hline) fun σ H Q h => ?_⟩
  exact mut_core hf h
theorem je_mut (i : Nat) {x : Str} {name : Str} {id : String} {p : Pos} {r : V → List V → Hp → VK → Prop} {f : List D → List D → Option (D × List D)} (hf : MutOk X.K r f) (slot : Slot "list" name id) (hty : typeOf (.builtin id) = pure (.type "method_descriptor")) (hm : MtR X id r)
    (ho : IsV X i (.Name x p)) (ha : JEs X W io (e :: es) ms) (hbase : attributeBase (.Name x p) name X.env (eval (.Name x p) X.env) = eval (.Name x p) X.env := by rfl)
    (hfew : ((backTo pos (starEach (e :: es) X.env)).all (fun x => !x.1) && (backToKw pos (keywordEach [] X.env)).all (fun x => x.1.isSome)
      && decide ((e :: es).length + ([] : List Keyword).length + (if ([] : List Keyword).isEmpty then 0 else 1) < 30)) = true := by rfl)
    (hline : (apos.endLine == pos.line) = true := by rfl) (hs : starEach (e :: es) X.env = (false, eval e X.env) :: starEach es X.env := by rfl) (hplain : (backTo pos (starEach es X.env)).any (·.1) = false := by rfl) : JE X W io (.Call (.Attribute (.Name x p) name apos) (e :: es) [] pos) (mMut i f ms) := by
  refine ⟨pei (pe_bm PySem.F.plainAttrs_list slot hty hm ho.pe ha.pa hbase hfew hline hs hplain) fun σ H Q h => ?_⟩
  exact mut_core hf h
end
def fAppend : List D → List D → Option (D × List D) := fun xs ds => match ds with
  | [y] => if xs.length < SZ then some (.non, xs ++ [y]) else none
  | _ => none
def fExtend : List D → List D → Option (D × List D) := fun xs ds => match ds with
  | [.lst ys] => if xs.length + ys.length ≤ SZ then some (.non, xs ++ ys) else none
  | _ => none
def fPop : List D → List D → Option (D × List D) := fun xs ds => match ds with
  | [] => (xs[xs.length - 1]?).map fun y => (y, xs.dropLast)
  | _ => none
def fPopAt : List D → List D → Option (D × List D) := fun xs ds => match ds with
  | [.int i] => if 0 ≤ i ∧ i ≤ RB then (xs[i.toNat]?).map fun y => (y, xs.eraseIdx i.toNat) else none
  | _ => none
def fReverse : List D → List D → Option (D × List D) := fun xs ds => match ds with
  | [] => some (.non, xs.reverse)
  | _ => none
section
variable {K : PySem.W.Frag}
theorem ok_append : MutOk K rAppend fAppend := by
  intro F H a vs us xs ds y ys Q e ha ra rd hf q
  match ds, hf with
  | [d], hf =>
    obtain ⟨v, ws, rfl, h1, h2⟩ := rd
    have h2 : ws = [] := h2
    subst h2
    have hf : (if xs.length < SZ then some (D.non, xs ++ [d]) else none) = some (y, ys) := hf
    split at hf
    · rename_i hl
      cases hf
      exact ⟨a, vs, v, rfl, rfl, ha, by rw [← ra.length]; exact Nat.lt_of_lt_of_le hl SZ_le, q .non _ rfl (ra.append ⟨v, [], rfl, h1, rfl⟩)⟩
    · cases hf
theorem ok_extend : MutOk K rExtend fExtend := by
  intro F H a vs us xs ds y ys Q e ha ra rd hf q
  match ds, hf with
  | [.lst zs], hf =>
    obtain ⟨v, ws, rfl, ⟨b, us2, rfl, hb, rb⟩, h2⟩ := rd
    have h2 : ws = [] := h2
    subst h2
    have hf : (if xs.length + zs.length ≤ SZ then some (D.non, xs ++ zs) else none) = some (y, ys) := hf
    split at hf
    · rename_i hl
      cases hf
      exact ⟨a, b, vs, us2, rfl, rfl, ha, e _ _ hb, by rw [← ra.length, ← rb.length]; exact Nat.le_trans hl SZ_le, q .non _ rfl (ra.append rb)⟩
    · cases hf
theorem ok_pop : MutOk K rPop fPop := by
  intro F H a vs us xs ds y ys Q e ha ra rd hf q
  match ds, hf with
  | [], hf =>
    have rd : us = [] := rd
    subst rd
    obtain ⟨z, h1, h2⟩ := Option.map_eq_some_iff.mp (show (xs[xs.length - 1]?).map (fun y => (y, xs.dropLast)) = some (y, ys) from hf)
    cases h2
    obtain ⟨v, g1, g2⟩ := ra.get h1
    exact ⟨a, vs, v, rfl, rfl, ha, by rw [← ra.length]; exact g1, q v _ g2 ra.dropLast⟩
theorem ok_popAt : MutOk K rPopAt fPopAt := by
  intro F H a vs us xs ds y ys Q e ha ra rd hf q
  match ds, hf with
  | [.int i], hf =>
    obtain ⟨v, ws, rfl, h1, h2⟩ := rd
    have h2 : ws = [] := h2
    subst h2
    cases (show v = .int i from h1)
    have hf : (if 0 ≤ i ∧ i ≤ RB then (xs[i.toNat]?).map fun y => (y, xs.eraseIdx i.toNat) else none) = some (y, ys) := hf
    split at hf
    · rename_i hi
      unfold RB at hi
      obtain ⟨z, h1, h2⟩ := Option.map_eq_some_iff.mp hf
      cases h2
      obtain ⟨v, g1, g2⟩ := ra.get h1
      have hlt := (List.getElem?_eq_some_iff.mp g1).1
      refine ⟨a, vs, i, i.toNat, v, rfl, rfl, ha, by omega, by omega, ?_, g1, q v _ g2 (ra.eraseIdx _)⟩
      have hx : ixN vs.length i = some i.toNat := by
        unfold ixN
        rw [if_pos hi.1, if_pos (by omega)]
      exact (ixN_seq hx).1
    · cases hf
theorem ok_reverse : MutOk K rReverse fReverse := by
  intro F H a vs us xs ds y ys Q e ha ra rd hf q
  match ds, hf with
  | [], hf =>
    have rd : us = [] := rd
    subst rd
    cases hf
    exact ⟨a, vs, rfl, rfl, ha, q .non _ rfl ra.reverse⟩
end
section
variable {X : Cx} {W : WX} {io : Nat → Option Addr} {e i0 : Expr} {m mi : Ex} {pos p : Pos} {x : Str}
theorem mtr_of {id : String} {r : V → List V → Hp → VK → Prop} (h : MtM X id r) : MtR X id r := h
theorem je_append (i : Nat) {apos : Pos} (ho : IsV X i (.Name x p)) (ha : JE X W io e m) (hbase : attributeBase (.Name x p) "append" X.env (eval (.Name x p) X.env) = eval (.Name x p) X.env := by rfl)
    (hfew : ((backTo pos (starEach [e] X.env)).all (fun x => !x.1) && (backToKw pos (keywordEach [] X.env)).all (fun x => x.1.isSome)
      && decide ([e].length + ([] : List Keyword).length + (if ([] : List Keyword).isEmpty then 0 else 1) < 30)) = true := by rfl)
    (hline : (apos.endLine == pos.line) = true := by rfl) (hs : starEach [e] X.env = (false, eval e X.env) :: starEach [] X.env := by rfl) (hplain : (backTo pos (starEach [] X.env)).any (·.1) = false := by rfl) : JE X W io (.Call (.Attribute (.Name x p) "append" apos) [e] [] pos) (mMut i fAppend [m]) :=
  je_mut i ok_append PySem.F.slot_list_append PySem.F.type_list_append mt_append ho ⟨ha, hs, trivial⟩ hbase hfew hline hs hplain
theorem je_extend (i : Nat) {apos : Pos} (ho : IsV X i (.Name x p)) (ha : JE X W io e m) (hbase : attributeBase (.Name x p) "extend" X.env (eval (.Name x p) X.env) = eval (.Name x p) X.env := by rfl)
    (hfew : ((backTo pos (starEach [e] X.env)).all (fun x => !x.1) && (backToKw pos (keywordEach [] X.env)).all (fun x => x.1.isSome)
      && decide ([e].length + ([] : List Keyword).length + (if ([] : List Keyword).isEmpty then 0 else 1) < 30)) = true := by rfl)
    (hline : (apos.endLine == pos.line) = true := by rfl) (hs : starEach [e] X.env = (false, eval e X.env) :: starEach [] X.env := by rfl) (hplain : (backTo pos (starEach [] X.env)).any (·.1) = false := by rfl) : JE X W io (.Call (.Attribute (.Name x p) "extend" apos) [e] [] pos) (mMut i fExtend [m]) :=
  je_mut i ok_extend PySem.F.slot_list_extend PySem.F.type_list_extend mt_extend ho ⟨ha, hs, trivial⟩ hbase hfew hline hs hplain
theorem je_popAt (i : Nat) {apos : Pos} (ho : IsV X i (.Name x p)) (ha : JE X W io e m) (hbase : attributeBase (.Name x p) "pop" X.env (eval (.Name x p) X.env) = eval (.Name x p) X.env := by rfl)
    (hfew : ((backTo pos (starEach [e] X.env)).all (fun x => !x.1) && (backToKw pos (keywordEach [] X.env)).all (fun x => x.1.isSome)
      && decide ([e].length + ([] : List Keyword).length + (if ([] : List Keyword).isEmpty then 0 else 1) < 30)) = true := by rfl)
    (hline : (apos.endLine == pos.line) = true := by rfl) (hs : starEach [e] X.env = (false, eval e X.env) :: starEach [] X.env := by rfl) (hplain : (backTo pos (starEach [] X.env)).any (·.1) = false := by rfl) : JE X W io (.Call (.Attribute (.Name x p) "pop" apos) [e] [] pos) (mMut i fPopAt [m]) :=
  je_mut i ok_popAt PySem.F.slot_list_pop PySem.F.type_list_pop mt_popAt ho ⟨ha, hs, trivial⟩ hbase hfew hline hs hplain
theorem je_pop (i : Nat) {apos : Pos} (ho : IsV X i (.Name x p)) (hbase : attributeBase (.Name x p) "pop" X.env (eval (.Name x p) X.env) = eval (.Name x p) X.env := by rfl) (hline : (apos.endLine == pos.line) = true := by rfl) : JE X W io (.Call (.Attribute (.Name x p) "pop" apos) [] [] pos) (mMut i fPop []) :=
  je_mut0 i ok_pop PySem.F.slot_list_pop PySem.F.type_list_pop mt_pop ho hbase hline
theorem je_reverse (i : Nat) {apos : Pos} (ho : IsV X i (.Name x p)) (hbase : attributeBase (.Name x p) "reverse" X.env (eval (.Name x p) X.env) = eval (.Name x p) X.env := by rfl) (hline : (apos.endLine == pos.line) = true := by rfl) : JE X W io (.Call (.Attribute (.Name x p) "reverse" apos) [] [] pos) (mMut i fReverse []) :=
  je_mut0 i ok_reverse PySem.F.slot_list_reverse PySem.F.type_list_reverse mt_reverse ho hbase hline
theorem isV (i : Nat) (hN : X.N[i]? = some x := by rfl) (hv : Vis X.env.scope x := by first | exact Or.inl rfl | exact Or.inr (Or.inl rfl) | exact Or.inr (Or.inr rfl)) (hd : (x == ("__debug__" : Str)) = false := by decide)
    (hcd : (x == ("__classdict__" : Str)) = false := by decide) : IsV X i (.Name x pos) := ⟨pe_var hN hv hd hcd⟩
/-- x[k] = e -/
def sSetIx (i : Nat) (mi m : Ex) : Sm := fun ρ => (m ρ).toS fun r ρ1 => if (ownAt ρ1 i).isSome then (mi ρ1).toS fun k ρ2 => match ownAt ρ2 i, k.d with
  | some (s, xs), .int j => match ixN xs.length j with
    | some n => .nx (ρ2.set i (some (s.as (xs.set n r.d))))
    | none => .no
  | _, _ => .no else .no
theorem js_setix (i : Nat) {tpos : Pos} (ho : IsV X i (.Name x p)) (hi : JE X W io i0 mi) (he : JE X W io e m)
    (ha : ∀ v, assign (.Subscript (.Name x p) i0 tpos) X.env v = (do
      let ov ← holding [v] (eval (.Name x p) X.env)
      let iv ← holding [v, ov] (eval i0 X.env)
      standAt tpos
      holding [v, ov, iv] (setItem ov iv v)
      release [v, ov, iv] []) := by intro _; rfl) (hs : swapsWithSole [.Subscript (.Name x p) i0 tpos] e pos.line X.env = pure false := by rfl) (hw : swappedStores [.Subscript (.Name x p) i0 tpos] e X.env = pure none := by rfl)
    (h1 : (assignEach [.Subscript (.Name x p) i0 tpos] X.env).map (·.2) = [assign (.Subscript (.Name x p) i0 tpos) X.env] := by rfl) : JS X W io (.Assign [.Subscript (.Name x p) i0 tpos] e pos) (sSetIx i mi m) := ⟨psi (ps_asg he.pe (pg_sub ho.pe hi.pe set_list ha) hs hw h1) fun D σ H h => by
  obtain ⟨P, F, ρ, S, h⟩ := h
  refine tJ_toS S h fun r ρ1 v H1 F1 s1 S1 R1 h1 => ?_
  obtain ⟨F1', s1', S1', q1⟩ := S1.cool R1
  cases ho1 : ownAt ρ1 i with
  | none => rw [ho1] at h1; exact (show False from h1).elim
  | some p1 =>
    obtain ⟨s', xs'⟩ := p1
    rw [ho1] at h1
    obtain ⟨a, vs, g1, g2, g3⟩ := S1'.at ho1
    refine ⟨.ref a, g1, ?_⟩
    have h2 : ToS X.K W io P F1' D ((mi ρ1).toS fun k ρ2 => match ownAt ρ2 i, k.d with
      | some (s, xs), .int j => match ixN xs.length j with
        | some n => .nx (ρ2.set i (some (s.as (xs.set n r.d))))
        | none => .no
      | _, _ => .no) := ToS.up s1' h1
    refine tJ_toS S1' h2 fun k ρ2 u H2 F2 s2 S2 R2 h3 => ?_
    obtain ⟨F2', s2', S2', q2⟩ := S2.cool R2
    cases ho2 : ownAt ρ2 i with
    | none => rw [ho2] at h3; exact (show False from h3).elim
    | some p2 =>
      obtain ⟨s3, xs3⟩ := p2
      rw [ho2] at h3
      cases ek : k.d <;> rw [ek] at h3 q2 <;> first | (exact (show False from h3).elim) | skip
      rename_i j
      cases (show u = .int j from q2)
      cases en : ixN xs3.length j with
      | none =>
        have h3 : ToS X.K W io P F2 D (match ixN xs3.length j with
          | some n => .nx (ρ2.set i (some (s3.as (xs3.set n r.d))))
          | none => .no) := h3
        rw [en] at h3
        exact (show False from h3).elim
      | some n =>
        have h3 : ToS X.K W io P F2 D (match ixN xs3.length j with
          | some n => .nx (ρ2.set i (some (s3.as (xs3.set n r.d))))
          | none => .no) := h3
        rw [en] at h3
        obtain ⟨a', vs', k1, k2, k3⟩ := S2'.at ho2
        rw [g1] at k1
        cases k1
        refine ⟨a, vs', j, n, rfl, rfl, k2, by rw [← k3.length]; exact en, ?_⟩
        exact (show ∀ σ' H' F', Same F2 F' → _ from h3) σ _ F2' s2' (S2'.write ho2 g1 (k3.set n (q1.mono (s2.trans s2'))))⟩
end
/-! ### raise -/
def sRaise (c : Str) : Sm := fun ρ => .ex c ρ
/-- what is known of a class of errors -/
structure ExcF (K : PySem.W.Frag) (mg : Str → Option Value) (c : Str) : Prop where
  g : mg c = some (.ref (He.ga K c))
  x : PySem.W.excIn K (He.ga K c) He.veBase "ValueError.__new__" = true
  k : PySem.W.keepIn K (.ref (He.ga K c)) = true
  b : PySem.W.subIn K (.ref (He.ga K c)) (.type "BaseException") = some true
  t : PySem.W.typeIn K (.ref (He.ga K c)) = some (.type "type")
section
variable {X : Cx} {W : WX} {io : Nat → Option Addr} {pos : Pos} {x : Str}
/-- X() -/
theorem pmk_own0 {p cpos : Pos} (F : ExcF X.K X.mg x) (hg : Gl X x) (hdb : (x == ("__debug__" : Str)) = false := by decide) : PMk X (.Call (.Name x p) [] [] cpos) (fun _ H Q => Q (.ref (He.ga X.K x)) none H) := by
  intro pins s σ H Q I h
  refine wpAny_Call_Name_kw (ld_glob I hg F.g ?_ hdb)
  refine PySem.W.callWith_K0 I.kIn F.k ?_
  show wpAny _ _ (call (.ref (He.ga X.K x)) []) _ _ _
  obtain ⟨bm, N, nm, qn, bs, hdct, sn, sub, ab, col, dd, k0, k1, k2, k3, k5, mN, hC, hN, hni, T⟩ := exc_obj I.kIn F.x
  refine wpAny_call_exc_subT PySem.F.excBase_ValueError T hC hN hni (fun h' e hm => ?_) (Nat.zero_le _)
  exact mk_of I hm (raises_own F.b F.t) h (I.hok.gone hm.new)
theorem js_raise0 {p cpos : Pos} (tk : Takes X W) (hc : X.calm = true) (F : ExcF X.K X.mg x) (hg : Gl X x := by rfl) (hdb : (x == ("__debug__" : Str)) = false := by decide) : JS X W io (.Raise (some (.Call (.Name x p) [] [] cpos)) none pos) (sRaise x) := ⟨psi (ps_raise hc tk (pmk_own0 F hg hdb)) fun D σ H h => by
  obtain ⟨P, F', ρ, S, h⟩ := h
  exact h σ H F' (Same.refl _) S⟩
theorem js_raise1 {p p2 cpos : Pos} {m : Str} {j : Nat} (tk : Takes X W) (hc : X.calm = true) (F : ExcF X.K X.mg x) (hg : Gl X x := by rfl) (hdb : (x == ("__debug__" : Str)) = false := by decide) : JS X W io (.Raise (some (.Call (.Name x p) [.Constant (.str m) j p2] [] cpos)) none pos) (sRaise x) := ⟨psi (ps_raise hc tk (pmk_own PySem.F.excBase_ValueError F.x F.g F.k (raises_own F.b F.t) hg hdb)) fun D σ H h => by
  obtain ⟨P, F', ρ, S, h⟩ := h
  exact h σ H F' (Same.refl _) S⟩
end
/-! ### three values at once -/
def sPar3 (i j l : Nat) (a b c : Ex) : Sm := fun ρ => (a ρ).toS fun r ρ1 => (b ρ1).toS fun t ρ2 => (c ρ2).toS fun u ρ3 => .nx (((ρ3.set i (some r)).set j (some t)).set l (some u))
end Mi

namespace Mi
open PySem PySem.Spec PyProof.Rows L2

/-! ### defs as functions of values -/
inductive FR where
  | ret (r : Sl) (o : Env) | exc (c : Str) (o : Env) | no
abbrev Fn := List Sl → FR
def ioOf (vs : List V) : Nat → Option Addr := fun i => match vs[i]? with
  | some (.ref a) => some a
  | _ => none
def ioE : Option Sl → Option Sl
  | some (.io xs) => some (.io xs)
  | _ => none
def outs (n : Nat) (ρ : Env) : Env := (List.range n).map fun i => ioE (ρ[i]?).join
def FR.of (n : Nat) : SR → FR
  | .nx ρ => .ret (.fz .non) (outs n ρ)
  | .rt r ρ => .ret r (outs n ρ)
  | .ex c ρ => .exc c (outs n ρ)
  | _ => .no
/-- n parameters, k other names -/
def mkFn (n k : Nat) (body : Sm) : Fn := fun args => if args.length = n then FR.of n (body (args.map some ++ List.replicate k none)) else .no
def ToF (K : PySem.W.Frag) (vs : List V) (P F : Hp) (Q : VK) (E : XK) : FR → Prop
  | .ret r o => ∀ v H' F', Same F F' → St K (ioOf vs) P F' o (vs.map some) H' → Rel K P F' o (vs.map some) H' v r → Q v H'
  | .exc c o => ∀ H' F', Same F F' → St K (ioOf vs) P F' o (vs.map some) H' → E (excV K c) none H'
  | .no => False
def spF (K : PySem.W.Frag) (n : Nat) (f : Fn) : Sp := fun vs H Q E => vs.length = n ∧ ∃ P F args, St K (ioOf vs) P F (args.map some) (vs.map some) H ∧ ToF K vs P F Q E (f args)
section
variable {K : PySem.W.Frag} {W : WX} {io : Nat → Option Addr} {P F F' : Hp} {σ σ' : L2.St} {H H' : Hp} {ρ ρ' : Env}
/-- less of a state -/
theorem St.sub (S : St K io P F ρ σ H) (hl : ρ'.length = σ'.length) (h : ∀ (i : Nat) (s : Sl), ρ'[i]? = some (some s) → ρ[i]? = some (some s) ∧ ∀ v, σ[i]? = some (some v) → σ'[i]? = some (some v)) : St K io P F ρ' σ' H := by
  have ho : ∀ {i xs}, Own ρ' i xs → Own ρ i xs ∧ ∀ v, σ[i]? = some (some v) → σ'[i]? = some (some v) := fun {i xs} o => by
    rcases o with o | o
    · exact ⟨.inl (h i _ o).1, (h i _ o).2⟩
    · exact ⟨.inr (h i _ o).1, (h i _ o).2⟩
  have back : ∀ {i xs a}, Own ρ' i xs → σ'[i]? = some (some (.ref a)) → σ[i]? = some (some (.ref a)) := fun {i xs a} o e => by
    obtain ⟨o1, o2⟩ := ho o
    obtain ⟨b, vs, h1, _⟩ := S.ow i xs o1
    have := o2 _ h1
    rw [e] at this
    cases this
    exact h1
  refine ⟨S.fh, S.ph, S.pf, hl, fun i d e => ?_, fun i xs o => ?_, fun i xs a e e' => ?_, fun i j xs ys a o1 o2 e1 e2 => ?_⟩
  · obtain ⟨h1, h2⟩ := h i _ e
    obtain ⟨v, g1, g2⟩ := S.fz i d h1
    exact ⟨v, h2 v g1, g2⟩
  · obtain ⟨o1, o2⟩ := ho o
    obtain ⟨a, vs, g1, g2⟩ := S.ow i xs o1
    exact ⟨a, vs, o2 _ g1, g2⟩
  · exact S.ia i xs a (h i _ e).1 (back (.inr e) e')
  · exact S.ds i j xs ys a (ho o1).1 (ho o2).1 (back o1 e1) (back o2 e2)
theorem outs_get {n : Nat} {i : Nat} {s : Sl} (h : (outs n ρ)[i]? = some (some s)) : i < n ∧ ∃ xs, s = .io xs ∧ ρ[i]? = some (some (.io xs)) := by
  unfold outs at h
  rw [List.getElem?_map, Option.map_eq_some_iff] at h
  obtain ⟨j, h1, h2⟩ := h
  obtain ⟨hj, h1⟩ := List.getElem?_eq_some_iff.mp h1
  rw [List.getElem_range] at h1
  subst h1
  refine ⟨by simpa using hj, ?_⟩
  cases e : ρ[i]? with
  | none => rw [e] at h2; cases h2
  | some o =>
    rw [e] at h2
    cases o with
    | none => cases h2
    | some t =>
      cases t with
      | fz d => cases h2
      | ow xs => cases h2
      | io xs => cases h2; exact ⟨xs, rfl, rfl⟩
theorem outs_ow {n : Nat} {i : Nat} {xs : List D} (o : Own (outs n ρ) i xs) : i < n ∧ ρ[i]? = some (some (.io xs)) := by
  rcases o with o | o
  · obtain ⟨_, _, h, _⟩ := outs_get o
    cases h
  · obtain ⟨h1, _, h2, h3⟩ := outs_get o
    cases h2
    exact ⟨h1, h3⟩
/-- a def's end -/
theorem St.outs {vs : List V} {n : Nat} (S : St K (ioOf vs) P F ρ σ H) (hn : vs.length = n) : St K (ioOf vs) P F (outs n ρ) (vs.map some) H := by
  refine S.sub (by simp [Mi.outs, hn]) fun i s h => ?_
  obtain ⟨h1, xs, rfl, h2⟩ := outs_get h
  refine ⟨h2, fun v hv => ?_⟩
  obtain ⟨a, us, g1, _⟩ := S.ow i xs (.inr h2)
  rw [hv] at g1
  cases g1
  have e := S.ia i xs a h2 hv
  unfold ioOf at e
  rw [List.getElem?_map]
  cases q : vs[i]? with
  | none => rw [q] at e; cases e
  | some x =>
    rw [q] at e
    cases x <;> first | (cases e; done) | skip
    cases e
    rfl
theorem Rel.outs {vs : List V} {n : Nat} {v : V} {r : Sl} (S : St K (ioOf vs) P F ρ σ H) (R : Rel K P F ρ σ H v r) : Rel K P F (outs n ρ) (vs.map some) H v r := by
  cases r with
  | fz d => exact R
  | io xs => exact R
  | ow xs =>
    obtain ⟨a, us, rfl, h1, h2, h3, h4, h5⟩ := R
    refine ⟨a, us, rfl, h1, h2, h3, h4, fun i ys o e => ?_⟩
    obtain ⟨_, o2⟩ := outs_ow o
    obtain ⟨b, ws, g1, _⟩ := S.ow i ys (.inr o2)
    have e2 := S.ia i ys b o2 g1
    have e3 : vs[i]? = some (.ref a) := by
      rw [List.getElem?_map] at e
      obtain ⟨x, q1, q2⟩ := Option.map_eq_some_iff.mp e
      cases q2
      exact q1
    unfold ioOf at e2
    rw [e3] at e2
    cases e2
    exact h5 i ys (.inr o2) g1
theorem ToF.of {vs : List V} {n : Nat} {Q : VK} {E : XK} {r : SR} (hn : vs.length = n) (h : ToF K vs P F Q E (FR.of n r)) :
    ToS K (fun c d _ H => E c d H) (ioOf vs) P F { nx := fun _ H' => Q .non H', rt := Q } r := by
  cases r with
  | nx ρ' => exact fun σ' H' F' s S => h .non H' F' s (S.outs hn) rfl
  | rt r ρ' => exact fun v σ' H' F' s S R => h v H' F' s (S.outs hn) (R.outs S)
  | ex c ρ' => exact fun σ' H' F' s S => h H' F' s (S.outs hn)
  | bk ρ' => exact h.elim
  | ct ρ' => exact h.elim
  | no => exact h.elim
end

/-! ### room, and nothing that repr holds -/
structure RoomG (k : Nat) (A : Around) : Prop where
  room : Room k A
  gd : A.guards = some []
theorem RoomG.mono {j k : Nat} {A : Around} (r : RoomG k A) (h : j ≤ k) : RoomG j A := ⟨r.room.mono h, r.gd⟩
theorem RoomG.deeper {k : Nat} {A : Around} (r : RoomG (k + 1) A) (env : PySem.Env) : RoomG k (A.deeper env) := ⟨r.room.deeper env, r.gd⟩
/-- what a def promises, called with no repr under way -/
structure FnG (P : Program) (w : World) (K : PySem.W.Frag) (mg : Str → Option Value) (base : Heap) (k : Nat) (f : Addr) (fd : FuncData) (ps : List Str) (sp : Sp) : Prop where
  len : ∀ vs H Q E, sp vs H Q E → vs.length = ps.length
  go : ∀ (A : Around) (outer : List PySem.Env) (s : Shared) (H : Hp) (args : Args) (us : List Value) (vs : List V) (Q : VK) (E : XK), RoomG k A → Env0 P w K mg base A outer s H →
    BindsTo s fd args (ps.zip us) → Vals vs us → sp vs H Q E → codeAny (model P w) A (.call (.ref f) args) (CR (L2.CX P w) outer P w H s Q E) s
section
variable {P : Program} {w : World} {K : PySem.W.Frag} {mg : Str → Option Value} {base : Heap} {x qual : Str} {params : Arguments} {body : List Stmt} {scope : Scope} {dvs : List V} {kws : List (Str × V)} {f : Addr} {fd : FuncData} {N ps : List Str} {k : Nat} {sp : Sp}
theorem ce_of {CXx : CXT} {cdv : Value} {A : Around} {outer : List PySem.Env} {s s' : Shared} {H H' : Hp} {Q : VK} {E : XK} {σ' : L2.St} {v : V} {u : Value} (J : Inv (cxOf CXx P w K mg base N qual scope f cdv A outer s H E) [] σ' H' s') (rv : RelV v u) (q : Q v H') : CE outer P w H s Q u s' :=
  ⟨v, H', J.os, J.bare, J.base, J.hok, rv, q⟩
/-- the rule of a def whose body is walked with no repr under way -/
theorem fnG_of (F : FunD K x qual params body scope dvs kws f fd) (S : FnScope N ps scope) (len : ∀ vs H Q E, sp vs H Q E → vs.length = ps.length)
    (hbd : ∀ (cdv : Value) (A : Around) (outer : List PySem.Env) (s : Shared) (H : Hp) (vs : List V) (Q : VK) (E : XK), RoomG k (A.deeper (envOfC qual scope s.heap.objs.size f cdv)) → sp vs H Q E →
      ∃ t, PSs (cxOf (L2.CX P w) P w K mg base N qual scope f cdv A outer s H E) body t ∧ t { nx := fun _ H' => Q .non H', rt := Q } (L2.start N vs) H) :
    FnG P w K mg base (k + 1) f fd ps sp := by
  obtain ⟨oc, od, dV, kV, doc, pm, an, cdv, ct, osl, rfl, hlk, hcode, _⟩ := F.ex
  constructor
  · exact len
  intro A outer s H args us vs Q E room e0 hbind hv want
  have inK : K.In s.heap := PySem.W.Frag.In.keeps e0.mod.kin fun b o e => (e0.bs b o e).1
  have noL : s.heap.NoLimit := Heap.NoLimit.keeps e0.mod.nolimit fun b o e => (e0.bs b o e).1
  have kinds : ∀ y ∈ ps.zip us, scope.names.lookup y.1 = some .local ∨ (scope.names.lookup y.1 = some .cell ∧ ((cellsFrom (s.heap.objs.size + 1) scope.names []).lookup y.1).isSome = true) := by
    rintro ⟨y, z⟩ hy
    cases S.par y (List.of_mem_zip hy).1 with
    | inl h => exact Or.inl h
    | inr h => exact Or.inr ⟨h, PySem.W.cellsFrom_some _ _ _ (Or.inl h)⟩
  apply codeAny_call_function room.room.depth (inK _ _ hlk) rfl S.co S.gen rfl (PySem.W.codeRec_of inK hcode)
  apply hbind
  apply wpAny_newFunctionEnv_cells S.kind kinds
  rintro env rfl s1 ic
  constructor
  · exact noL.keeps ic.toInCall.keep
  apply codeAny_func
  obtain ⟨t, walk, start⟩ := hbd cdv A outer s H vs Q E (room.deeper _) want
  have st := walk.run [] s1 (L2.start N vs) H _ (inv_start S room.room.hd e0 (len _ _ _ _ want) hv ic) start
  refine wpAny_mono st ?_ fun e s' z => z
  intro fl s' z
  cases fl with
  | ret u => obtain ⟨v, σ', H', J, rv, q⟩ := z; exact ce_of J rv q
  | next => obtain ⟨σ', H', J, q⟩ := z; exact ce_of (v := V.non) (u := Value.none) J rfl q
  | brk => obtain ⟨_, _, _, q⟩ := z; exact q.elim
  | cont => obtain ⟨_, _, _, q⟩ := z; exact q.elim
end

/-! ### a def keeps its word -/
section
variable {P : Program} {w : World} {K : PySem.W.Frag} {mg : Str → Option Value} {base : Heap} {x qual : Str} {params : Arguments} {body : List Stmt} {scope : Scope} {dvs : List V} {kws : List (Str × V)} {f : Addr} {fd : FuncData} {N ps : List Str} {m : Sm}
/-- the context of its body -/
abbrev bx (P : Program) (w : World) (K : PySem.W.Frag) (mg : Str → Option Value) (base : Heap) (N : List Str) (qual : Str) (scope : Scope) (f : Addr) (cdv : Value) (A : Around) (outer : List PySem.Env) (s : Shared) (H : Hp) (E : XK) : Cx := cxOf (L2.CX P w) P w K mg base N qual scope f cdv A outer s H E
abbrev wx (E : XK) : WX := fun c d _ H => E c d H
theorem bx_takes {cdv : Value} {A : Around} {outer : List PySem.Env} {s : Shared} {H : Hp} {E : XK} : Takes (bx P w K mg base N qual scope f cdv A outer s H E) (wx E) := takes_of rfl rfl rfl rfl
theorem fn_ok {n k lev : Nat} (F : FunD K x qual params body scope dvs kws f fd) (S : FnScope N ps scope) (hn : ps.length = n) (hk : N.length = n + k)
    (hb : ∀ (cdv : Value) (A : Around) (outer : List PySem.Env) (s : Shared) (H : Hp) (E : XK) (io : Nat → Option Addr), RoomG lev (A.deeper (envOfC qual scope s.heap.objs.size f cdv)) → JSs (bx P w K mg base N qual scope f cdv A outer s H E) (wx E) io body m) :
    FnG P w K mg base (lev + 1) f fd ps (spF K n (mkFn n k m)) := by
  refine fnG_of F S (fun vs H Q E h => by rw [hn]; exact h.1) fun cdv A outer s H vs Q E hr h => ?_
  obtain ⟨hl, P', F', args, S0, h⟩ := h
  refine ⟨_, (hb cdv A outer s H E (ioOf vs) hr).ps, P', F', args.map some ++ List.replicate k none, ?_, ?_⟩
  · have hla : args.length = vs.length := by simpa using S0.len
    refine S0.sub (by unfold L2.start; simp [hla]; omega) fun i t hi => ?_
    have h1 : i < args.length := by
      by_cases h1 : i < args.length
      · exact h1
      · rw [List.getElem?_append_right (by simpa using h1), List.getElem?_replicate] at hi
        split at hi <;> cases hi
    rw [List.getElem?_append_left (by simpa using h1)] at hi
    refine ⟨hi, fun v hv => ?_⟩
    unfold L2.start
    rw [List.getElem?_append_left (by simpa using (hla ▸ h1))]
    exact hv
  · have hla : args.length = n := by rw [← hl]; simpa using S0.len
    have h : ToF K vs P' F' Q E (if args.length = n then FR.of n (m (args.map some ++ List.replicate k none)) else .no) := h
    rw [if_pos hla] at h
    exact h.of hl
end
/-! ### calls -/
def argO : Option (Option Sl) → Option Sl
  | some (some (.fz d)) => some (.fz d)
  | some (some (.ow xs)) => some (.io xs)
  | some (some (.io xs)) => some (.io xs)
  | _ => none
def argS (ρ : Env) : Pd → Option Sl
  | .d d => some (.fz d)
  | .i i => argO ρ[i]?
def argsS (ρ : Env) : List Pd → Option (List Sl)
  | [] => some []
  | p :: ps => match argS ρ p, argsS ρ ps with
    | some x, some xs => some (x :: xs)
    | _, _ => none
/-- what came of the list at slot i -/
def look (i : Nat) : List Pd → Env → Option (Option Sl)
  | .i j :: ps, o => if j = i then some (o.head?.join) else look i ps o.tail
  | .d _ :: ps, o => look i ps o.tail
  | [], _ => none
def back1 (i : Nat) (e : Option Sl) (ps : List Pd) (o : Env) : Option Sl := match e with
  | some (.ow xs) => match look i ps o with
    | none => some (.ow xs)
    | some (some (.io ys)) => some (.ow ys)
    | some _ => none
  | some (.io xs) => match look i ps o with
    | none => some (.io xs)
    | some (some (.io ys)) => some (.io ys)
    | some _ => none
  | e => e
def back (ρ : Env) (ps : List Pd) (o : Env) : Env := ρ.mapIdx fun i e => back1 i e ps o
def isOwn (ρ : Env) (i : Nat) : Bool := match ρ[i]? with
  | some (some (.ow _)) => true
  | some (some (.io _)) => true
  | _ => false
def Pd.at (i : Nat) : Pd → Bool
  | .i j => j == i
  | .d _ => false
def apart (ρ : Env) : List Pd → Bool
  | [] => true
  | .i i :: ps => (!isOwn ρ i || !ps.any (Pd.at i)) && apart ρ ps
  | .d _ :: ps => apart ρ ps
theorem look_some {i : Nat} : ∀ {ps : List Pd} {o : Env} {x : Option Sl}, look i ps o = some x → ∃ k : Nat, ps[k]? = some (Pd.i i) ∧ x = (o[k]?).join
  | .i j :: ps, o, x, h => by
    unfold look at h
    split at h
    · rename_i e
      subst e
      cases h
      exact ⟨0, rfl, by cases o <;> rfl⟩
    · obtain ⟨k, h1, h2⟩ := look_some h
      exact ⟨k + 1, by simpa using h1, by rw [h2]; cases o <;> simp⟩
  | .d _ :: ps, o, x, h => by
    obtain ⟨k, h1, h2⟩ := look_some (ps := ps) h
    exact ⟨k + 1, by simpa using h1, by rw [h2]; cases o <;> simp⟩
  | [], _, _, h => by cases h
theorem look_none {i : Nat} : ∀ {ps : List Pd} {o : Env}, look i ps o = none → ∀ k : Nat, ps[k]? ≠ some (Pd.i i)
  | .i j :: ps, o, h, k, e => by
    unfold look at h
    split at h
    · cases h
    · rename_i hj
      cases k with
      | zero => simp at e; exact hj e
      | succ k => exact look_none h k (by simpa using e)
  | .d _ :: ps, o, h, k, e => by
    cases k with
    | zero => simp at e
    | succ k => exact look_none (ps := ps) h k (by simpa using e)
  | [], _, _, k, e => by simp at e
theorem apart_eq {ρ : Env} {i : Nat} (ho : isOwn ρ i = true) : ∀ {ps : List Pd} {k l : Nat}, apart ρ ps = true → ps[k]? = some (.i i) → ps[l]? = some (.i i) → k = l
  | [], k, l, _, e, _ => by simp at e
  | p :: ps, k, l, h, e1, e2 => by
    have rest : apart ρ ps = true := by
      cases p with
      | d _ => exact h
      | i j => exact (Bool.and_eq_true _ _ ▸ (show ((!isOwn ρ j || !ps.any (Pd.at j)) && apart ρ ps) = true from h)).2
    have hd : p = .i i → ∀ k : Nat, ps[k]? ≠ some (Pd.i i) := fun e k e3 => by
      subst e
      have h := (Bool.and_eq_true _ _ ▸ (show ((!isOwn ρ i || !ps.any (Pd.at i)) && apart ρ ps) = true from h)).1
      rw [ho] at h
      have h : ps.any (Pd.at i) = false := by simpa using h
      have h2 := List.any_eq_false.mp h (.i i) (List.mem_of_getElem? e3)
      simp [Pd.at] at h2
    cases k with
    | zero =>
      cases l with
      | zero => rfl
      | succ l => exact absurd (by simpa using e2) (hd (by simpa using e1) l)
    | succ k =>
      cases l with
      | zero => exact absurd (by simpa using e1) (hd (by simpa using e2) k)
      | succ l => exact congrArg Nat.succ (apart_eq ho rest (by simpa using e1) (by simpa using e2))

theorem isOwn_of {ρ : Env} {i : Nat} {xs : List D} (o : Own ρ i xs) : isOwn ρ i = true := by
  unfold isOwn
  rcases o with o | o <;> rw [o]
theorem argsS_get {ρ : Env} : ∀ {ps : List Pd} {args : List Sl} {k : Nat} {s : Sl}, argsS ρ ps = some args → args[k]? = some s → ∃ p, ps[k]? = some p ∧ argS ρ p = some s
  | [], args, k, s, h, e => by
    cases h
    simp at e
  | p :: ps, args, k, s, h, e => by
    unfold argsS at h
    cases e1 : argS ρ p with
    | none => rw [e1] at h; cases h
    | some x =>
      cases e2 : argsS ρ ps with
      | none => rw [e1, e2] at h; cases h
      | some xs =>
        rw [e1, e2] at h
        cases h
        cases k with
        | zero =>
          simp at e
          subst e
          exact ⟨p, rfl, e1⟩
        | succ k =>
          obtain ⟨q, h1, h2⟩ := argsS_get (k := k) (s := s) e2 (by simpa using e)
          exact ⟨q, by simpa using h1, h2⟩
theorem argsS_len {ρ : Env} : ∀ {ps : List Pd} {args : List Sl}, argsS ρ ps = some args → args.length = ps.length
  | [], args, h => by cases h; rfl
  | p :: ps, args, h => by
    unfold argsS at h
    cases e1 : argS ρ p with
    | none => rw [e1] at h; cases h
    | some x =>
      cases e2 : argsS ρ ps with
      | none => rw [e1, e2] at h; cases h
      | some xs =>
        rw [e1, e2] at h
        cases h
        simp [argsS_len e2]
section
variable {K : PySem.W.Frag} {W : WX} {io : Nat → Option Addr} {P F F' : Hp} {σ : L2.St} {H H' : Hp} {ρ : Env}
theorem PdRL.len : ∀ {vs : List V} {ps : List Pd}, PdRL K F σ vs ps → vs.length = ps.length
  | [], [], _ => rfl
  | _ :: _, _ :: _, ⟨_, h⟩ => congrArg Nat.succ (PdRL.len h)
  | [], _ :: _, h => h.elim
  | _ :: _, [], h => h.elim
theorem PdRL.get : ∀ {vs : List V} {ps : List Pd} {k : Nat} {p : Pd}, PdRL K F σ vs ps → ps[k]? = some p → ∃ v, vs[k]? = some v ∧ PdR K F σ v p
  | [], [], _, _, _, e => by simp at e
  | v :: vs, q :: ps, 0, p, ⟨h1, _⟩, e => by
    simp at e
    subst e
    exact ⟨v, rfl, h1⟩
  | v :: vs, q :: ps, k + 1, p, ⟨_, h⟩, e => by
    obtain ⟨u, h1, h2⟩ := PdRL.get (k := k) (p := p) h (by simpa using e)
    exact ⟨u, by simpa using h1, h2⟩
  | [], _ :: _, _, _, h, _ => h.elim
  | _ :: _, [], _, _, h, _ => h.elim
open Classical in
/-- the lists at hand that are not handed in stay as they are -/
noncomputable def rest (P H : Hp) (ρ : Env) (σ : L2.St) (ps : List Pd) : Hp := fun a => if (∃ (i : Nat) (xs : List D), Own ρ i xs ∧ σ[i]? = some (some (.ref a)) ∧ ∀ k : Nat, ps[k]? ≠ some (Pd.i i)) then H a else P a
theorem rest_in {ps : List Pd} {i : Nat} {xs : List D} {a : Addr} (o : Own ρ i xs) (e : σ[i]? = some (some (.ref a))) (h : ∀ k : Nat, ps[k]? ≠ some (Pd.i i)) : rest P H ρ σ ps a = H a := if_pos ⟨i, xs, o, e, h⟩
theorem rest_same (S : St K io P F ρ σ H) (ps : List Pd) : Same P (rest P H ρ σ ps) := fun a o e => by
  unfold rest
  split
  · exact S.ph a o e
  · exact e
theorem own_arg {ps : List Pd} {args : List Sl} {k : Nat} {xs : List D} (ha : argsS ρ ps = some args) (o : Own (args.map some) k xs) : ∃ i, ps[k]? = some (Pd.i i) ∧ Own ρ i xs := by
  have key : args[k]? = some (.ow xs) ∨ args[k]? = some (.io xs) := by
    rcases o with o | o
    · rw [List.getElem?_map] at o
      obtain ⟨x, h1, h2⟩ := Option.map_eq_some_iff.mp o
      cases h2
      exact .inl h1
    · rw [List.getElem?_map] at o
      obtain ⟨x, h1, h2⟩ := Option.map_eq_some_iff.mp o
      cases h2
      exact .inr h1
  have go : ∀ s, args[k]? = some s → (s = .ow xs ∨ s = .io xs) → ∃ i, ps[k]? = some (Pd.i i) ∧ Own ρ i xs := fun s h hs => by
    obtain ⟨p, h1, h2⟩ := argsS_get ha h
    cases p with
    | d d => cases h2; rcases hs with hs | hs <;> cases hs
    | i i =>
      refine ⟨i, h1, ?_⟩
      have h2 : argO ρ[i]? = _ := h2
      cases q : ρ[i]? with
      | none => rw [q] at h2; cases h2
      | some o =>
        rw [q] at h2
        cases o with
        | none => cases h2
        | some t =>
          cases t with
          | fz d => cases h2; rcases hs with hs | hs <;> cases hs
          | ow ys =>
            cases h2
            rcases hs with hs | hs
            · cases hs
            · cases hs
              exact .inl q
          | io ys =>
            cases h2
            rcases hs with hs | hs
            · cases hs
            · cases hs
              exact .inr q
  rcases key with h | h
  · exact go _ h (.inl rfl)
  · exact go _ h (.inr rfl)
/-- the callee's state -/
theorem St.enter {ps : List Pd} {args : List Sl} {vs : List V} (S : St K io P F ρ σ H) (R : PdRL K F σ vs ps) (ha : argsS ρ ps = some args) (hp : apart ρ ps = true) : St K (ioOf vs) (rest P H ρ σ ps) F (args.map some) (vs.map some) H := by
  have at_ : ∀ {k : Nat} {i : Nat} {a : Addr}, ps[k]? = some (Pd.i i) → (vs.map some)[k]? = some (some (.ref a)) → σ[i]? = some (some (.ref a)) := fun {k i a} h e => by
    obtain ⟨v, h1, h2⟩ := R.get h
    rw [List.getElem?_map, h1] at e
    cases e
    exact h2
  refine ⟨S.fh, fun a o e => ?_, fun a o e => ?_, by simp [argsS_len ha, R.len], fun k d e => ?_, fun k xs o => ?_, fun k xs a e e' => ?_, fun k l xs ys a o1 o2 e1 e2 => ?_⟩
  · unfold rest at e
    split at e
    · exact e
    · exact S.ph a o e
  · unfold rest at e
    split at e
    · rename_i h
      obtain ⟨i, xs, o1, o2, _⟩ := h
      obtain ⟨b, us, h1, _, _, h4, _⟩ := S.ow i xs o1
      rw [o2] at h1
      cases h1
      exact h4
    · exact S.pf a o e
  · rw [List.getElem?_map] at e
    obtain ⟨s, e1, e2⟩ := Option.map_eq_some_iff.mp e
    cases e2
    obtain ⟨p, h1, h2⟩ := argsS_get ha e1
    obtain ⟨v, h3, h4⟩ := R.get h1
    refine ⟨v, by rw [List.getElem?_map, h3]; rfl, ?_⟩
    cases p with
    | d d' => cases h2; exact h4
    | i i =>
      have h4 : σ[i]? = some (some v) := h4
      have h2 : argO ρ[i]? = _ := h2
      cases q : ρ[i]? with
      | none => rw [q] at h2; cases h2
      | some o =>
        rw [q] at h2
        cases o with
        | none => cases h2
        | some t =>
          cases t with
          | ow ys => cases h2
          | io ys => cases h2
          | fz d' =>
            cases h2
            obtain ⟨u, g1, g2⟩ := S.fz i d q
            rw [h4] at g1
            cases g1
            exact g2
  · obtain ⟨i, h1, h2⟩ := own_arg ha o
    obtain ⟨a, us, g1, g2, g3, g4, g5⟩ := S.ow i xs h2
    obtain ⟨v, h3, h4⟩ := R.get h1
    have h4 : σ[i]? = some (some v) := h4
    rw [g1] at h4
    cases h4
    refine ⟨a, us, by rw [List.getElem?_map, h3]; rfl, g2, g3, g4, ?_⟩
    unfold rest
    rw [if_neg]
    · exact g5
    · rintro ⟨j, ys, o2, e2, h5⟩
      have := S.ds i j xs ys a h2 o2 g1 e2
      subst this
      exact h5 k h1
  · rw [List.getElem?_map] at e'
    obtain ⟨v, h1, h2⟩ := Option.map_eq_some_iff.mp e'
    cases h2
    unfold ioOf
    rw [h1]
  · obtain ⟨i, h1, h2⟩ := own_arg ha o1
    obtain ⟨j, h3, h4⟩ := own_arg ha o2
    have := S.ds i j xs ys a h2 h4 (at_ h1 e1) (at_ h3 e2)
    subst this
    exact apart_eq (isOwn_of h2) hp h1 h3
theorem back_get {ps : List Pd} {o : Env} {i : Nat} {s : Sl} (h : (back ρ ps o)[i]? = some (some s)) : ∃ e, ρ[i]? = some e ∧ back1 i e ps o = some s := by
  unfold back at h
  rw [List.getElem?_mapIdx] at h
  obtain ⟨e, h1, h2⟩ := Option.map_eq_some_iff.mp h
  exact ⟨e, h1, h2⟩
theorem back_own {ps : List Pd} {o : Env} {i : Nat} {ys : List D} (h : Own (back ρ ps o) i ys) : (Own ρ i ys ∧ ∀ k : Nat, ps[k]? ≠ some (Pd.i i)) ∨ ∃ (k : Nat) (xs : List D), ps[k]? = some (Pd.i i) ∧ Own ρ i xs ∧ o[k]? = some (some (.io ys)) := by
  have go : ∀ s, (back ρ ps o)[i]? = some (some s) → s = .ow ys ∨ s = .io ys → (Own ρ i ys ∧ ∀ k : Nat, ps[k]? ≠ some (Pd.i i)) ∨ ∃ (k : Nat) (xs : List D), ps[k]? = some (Pd.i i) ∧ Own ρ i xs ∧ o[k]? = some (some (.io ys)) := fun s h hs => by
    obtain ⟨e, h1, h2⟩ := back_get h
    have at2 : ∀ {x : Option Sl}, look i ps o = some x → x = some (.io ys) → ∃ k : Nat, ps[k]? = some (Pd.i i) ∧ o[k]? = some (some (.io ys)) := fun {x} hl hx => by
      obtain ⟨k, g1, g2⟩ := look_some hl
      refine ⟨k, g1, ?_⟩
      rw [hx] at g2
      cases q : o[k]? with
      | none => rw [q] at g2; cases g2
      | some z =>
        rw [q] at g2
        exact congrArg some g2.symm
    cases e with
    | none => cases h2
    | some t =>
      cases t with
      | fz d => cases h2; rcases hs with hs | hs <;> cases hs
      | ow xs =>
        unfold back1 at h2
        cases hl : look i ps o with
        | none =>
          rw [hl] at h2
          cases h2
          rcases hs with hs | hs
          · cases hs; exact .inl ⟨.inl h1, look_none hl⟩
          · cases hs
        | some x =>
          rw [hl] at h2
          cases x with
          | none => cases h2
          | some x =>
            cases x with
            | fz d => cases h2
            | ow zs => cases h2
            | io zs =>
              cases h2
              rcases hs with hs | hs
              · cases hs
                obtain ⟨k, g1, g2⟩ := at2 hl rfl
                exact .inr ⟨k, xs, g1, .inl h1, g2⟩
              · cases hs
      | io xs =>
        unfold back1 at h2
        cases hl : look i ps o with
        | none =>
          rw [hl] at h2
          cases h2
          rcases hs with hs | hs
          · cases hs
          · cases hs; exact .inl ⟨.inr h1, look_none hl⟩
        | some x =>
          rw [hl] at h2
          cases x with
          | none => cases h2
          | some x =>
            cases x with
            | fz d => cases h2
            | ow zs => cases h2
            | io zs =>
              cases h2
              rcases hs with hs | hs
              · cases hs
              · cases hs
                obtain ⟨k, g1, g2⟩ := at2 hl rfl
                exact .inr ⟨k, xs, g1, .inr h1, g2⟩
  rcases h with h | h
  · exact go _ h (.inl rfl)
  · exact go _ h (.inr rfl)
theorem back_fz {ps : List Pd} {o : Env} {i : Nat} {d : D} (h : (back ρ ps o)[i]? = some (some (.fz d))) : ρ[i]? = some (some (.fz d)) := by
  obtain ⟨e, h1, h2⟩ := back_get h
  cases e with
  | none => cases h2
  | some t =>
    cases t with
    | fz d' => cases h2; exact h1
    | ow xs =>
      unfold back1 at h2
      cases hl : look i ps o with
      | none => rw [hl] at h2; cases h2
      | some x =>
        rw [hl] at h2
        cases x with
        | none => cases h2
        | some x => cases x <;> cases h2
    | io xs =>
      unfold back1 at h2
      cases hl : look i ps o with
      | none => rw [hl] at h2; cases h2
      | some x =>
        rw [hl] at h2
        cases x with
        | none => cases h2
        | some x => cases x <;> cases h2
theorem back_io {ps : List Pd} {o : Env} {i : Nat} {ys : List D} (h : (back ρ ps o)[i]? = some (some (.io ys))) : ∃ xs, ρ[i]? = some (some (.io xs)) := by
  obtain ⟨e, h1, h2⟩ := back_get h
  cases e with
  | none => cases h2
  | some t =>
    cases t with
    | fz d' => cases h2
    | ow xs =>
      unfold back1 at h2
      cases hl : look i ps o with
      | none => rw [hl] at h2; cases h2
      | some x =>
        rw [hl] at h2
        cases x with
        | none => cases h2
        | some x => cases x <;> cases h2
    | io xs => exact ⟨xs, h1⟩
section
variable {ps : List Pd} {vs : List V} {o : Env}
/-- behind the call -/
theorem St.leave (S : St K io P F ρ σ H) (R : PdRL K F σ vs ps) (s : Same F F') (S' : St K (ioOf vs) (rest P H ρ σ ps) F' o (vs.map some) H') : St K io P F' (back ρ ps o) σ H' := by
  have sP := rest_same S ps
  have own : ∀ {i ys}, Own (back ρ ps o) i ys → ∃ xs, Own ρ i xs := fun {i ys} h => by
    rcases back_own h with ⟨h, _⟩ | ⟨k, xs, _, h, _⟩
    · exact ⟨_, h⟩
    · exact ⟨_, h⟩
  refine ⟨S'.fh, sP.trans S'.ph, fun a x e => S'.pf a x (sP a x e), by simp [back, S.len], fun i d e => ?_, fun i ys h => ?_, fun i ys a e e' => ?_, fun i j xs ys a o1 o2 e1 e2 => ?_⟩
  · obtain ⟨v, h1, h2⟩ := S.fz i d (back_fz e)
    exact ⟨v, h1, h2.mono s⟩
  · rcases back_own h with ⟨h, hn⟩ | ⟨k, xs, hk, h, ho⟩
    · obtain ⟨a, us, g1, g2, g3, g4, g5⟩ := S.ow i ys h
      have hr : rest P H ρ σ ps a = some (.lst us) := by rw [rest_in h g1 hn, g2]
      exact ⟨a, us, g1, S'.ph a _ hr, g3.mono s, S'.pf a _ hr, g5⟩
    · obtain ⟨a, us, g1, g2, g3, g4, g5⟩ := S'.ow k ys (.inr ho)
      obtain ⟨v, h1, h2⟩ := R.get hk
      have h2 : σ[i]? = some (some v) := h2
      rw [List.getElem?_map, h1] at g1
      cases g1
      exact ⟨a, us, h2, g2, g3, g4, sP.free g5⟩
  · obtain ⟨xs, h⟩ := back_io e
    exact S.ia i xs a h e'
  · obtain ⟨xs', o1'⟩ := own o1
    obtain ⟨ys', o2'⟩ := own o2
    exact S.ds i j xs' ys' a o1' o2' e1 e2
theorem Rel.leave {v : V} {r : Sl} (S : St K io P F ρ σ H) (R : PdRL K F σ vs ps) (S' : St K (ioOf vs) (rest P H ρ σ ps) F' o (vs.map some) H') (q : Rel K (rest P H ρ σ ps) F' o (vs.map some) H' v r) : Rel K P F' (back ρ ps o) σ H' v r := by
  cases r with
  | fz d => exact q
  | io xs => exact q
  | ow xs =>
    obtain ⟨a, us, rfl, h1, h2, h3, h4, h5⟩ := q
    refine ⟨a, us, rfl, h1, h2, h3, (rest_same S ps).free h4, fun i ys h e => ?_⟩
    rcases back_own h with ⟨h, hn⟩ | ⟨k, xs', hk, h, ho⟩
    · obtain ⟨b, ws, g1, g2, _⟩ := S.ow i ys h
      rw [g1] at e
      cases e
      rw [rest_in h g1 hn, g2] at h4
      cases h4
    · obtain ⟨u, g1, g2⟩ := R.get hk
      have g2 : σ[i]? = some (some u) := g2
      rw [e] at g2
      cases g2
      exact h5 k ys (.inr ho) (by rw [List.getElem?_map, g1]; rfl)
end
end
def ofF (ρ : Env) (ps : List Pd) : FR → R Sl
  | .ret r o => .ok r (back ρ ps o)
  | .exc c o => .ex c (back ρ ps o)
  | .no => .no
/-- g: how the values are laid out for the parameters -/
def mCallG (f : Fn) (g : List Pd → List Pd) (os : List Opd) : Ex := fun ρ => if os.all (okV ρ) then (runO os ρ).bind fun ps ρ1 => match argsS ρ1 (g ps) with
  | some args => if apart ρ1 (g ps) then ofF ρ1 (g ps) (f args) else .no
  | none => .no else .no
theorem runO_len : ∀ {os : List Opd} {ρ ρ' : Env} {ps : List Pd}, runO os ρ = .ok ps ρ' → ps.length = os.length
  | [], ρ, ρ', ps, h => by cases h; rfl
  | o :: os, ρ, ρ', ps, h => by
    unfold runO at h
    cases e1 : o.run ρ with
    | ex c ρ1 => rw [e1] at h; cases h
    | no => rw [e1] at h; cases h
    | ok p ρ1 =>
      rw [e1] at h
      have h : ((runO os ρ1).bind fun ps ρ2 => .ok (p :: ps) ρ2) = .ok ps ρ' := h
      cases e2 : runO os ρ1 with
      | ex c ρ1 => rw [e2] at h; cases h
      | no => rw [e2] at h; cases h
      | ok qs ρ2 =>
        rw [e2] at h
        cases h
        exact congrArg Nat.succ (runO_len e2)
theorem runO_bind {β : Type} (os : List Opd) (ρ : Env) (f : List Pd → Env → R β) : (runO os ρ).bind f = (runO os ρ).bind fun ps ρ1 => if ps.length = os.length then f ps ρ1 else .no := by
  cases e : runO os ρ with
  | ex c ρ1 => rfl
  | no => rfl
  | ok ps ρ1 => 
    show f ps ρ1 = if ps.length = os.length then f ps ρ1 else .no
    rw [if_pos (runO_len e)]
def mCall (f : Fn) (os : List Opd) : Ex := mCallG f (fun ps => ps) os
section
variable {X : Cx} {W : WX} {io : Nat → Option Addr} {P F : Hp} {σ : L2.St} {H : Hp} {ρ : Env} {Q : VK}
/-- a call where it is -/
theorem call_core {n : Nat} {f : Fn} {ps : List Pd} {vs : List V} (hn : ps.length = n) (S : St X.K io P F ρ σ H) (R : PdRL X.K F σ vs ps)
    (h : ToE X.K W io P F σ Q (match argsS ρ ps with
      | some args => if apart ρ ps then ofF ρ ps (f args) else .no
      | none => .no)) : spF X.K n f vs H Q (fun c d H' => W c d σ H') := by
  cases ha : argsS ρ ps with
  | none => rw [ha] at h; exact (show False from h).elim
  | some args =>
    rw [ha] at h
    obtain ⟨hp, h⟩ := toE_if (show ToE X.K W io P F σ Q (if apart ρ ps then ofF ρ ps (f args) else .no) from h)
    refine ⟨by rw [R.len, hn], _, F, args, S.enter R ha hp, ?_⟩
    cases e : f args with
    | ret r o =>
      rw [e] at h
      exact fun v H' F' s S' q => h v H' F' s (S.leave R s S') (q.leave S R S')
    | exc c o =>
      rw [e] at h
      exact fun H' F' s S' => h H' F' s (S.leave R s S')
    | no =>
      rw [e] at h
      exact h
end
section
variable {X : Cx} {W : WX} {io : Nat → Option Addr} {k n : Nat} {fa : Addr} {fd : FuncData} {ps : List Str} {f : Fn} {x : Str} {p pos : Pos} {e : Expr} {es : List Expr} {os : List Opd}
theorem run_fnG {pins : List (Addr × Obj)} {σ : L2.St} {H : Hp} {s : Shared} {Q : VK} {us : List Value} {vs : List V} (tk : Takes X W) (F : FnG X.prog X.w X.K X.mg X.base k fa fd ps (spF X.K n f)) (hr : RoomG k X.A) (hb : Binds X.K fd ps [])
    (I : Inv X pins σ H s) (r : Vals vs us) (h : spF X.K n f vs H Q (WE W σ)) : wpAny (model X.prog X.w) X.A (call (.ref fa) us) (EP X pins σ Q) X.xe s := by
  have b := hb s us I.kIn (by rw [List.append_nil, ← r.length]; exact F.len _ _ _ _ h)
  rw [List.append_nil] at b
  apply wpAny_call
  refine codeAny_mono (F.go X.A X.stack s H ⟨us, []⟩ us vs Q (WE W σ) hr I.env0 b r h) ?_
  intro z s' hz
  match z, hz with
  | .error e, hz => exact passAt tk σ pins H s e s' I hz
  | .ok (.ret u), hz => exact I.after hz
theorem pe_callG {t : TA} (tk : Takes X W) (F : FnG X.prog X.w X.K X.mg X.base k fa fd ps (spF X.K n f)) (hr : RoomG k X.A) (hg : Gl X x) (hm : X.mg x = some (.ref fa)) (hk : PySem.W.keepIn X.K (.ref fa) = true) (hb : Binds X.K fd ps []) (ha : PA X (e :: es) t)
    (hdb : (x == ("__debug__" : Str)) = false) (he : starEach (e :: es) X.env = (false, eval e X.env) :: starEach es X.env) (hpl : (backTo pos (starEach es X.env)).any (·.1) = false) :
    PE X (.Call (.Name x p) (e :: es) [] pos) (tCallS (spF X.K n f) (fun σ => WE W σ) t) := by
  constructor
  intro pins s σ H Q I h
  apply wpAny_Call_Name_kw (ld_glob I hg hm ?_ hdb)
  exact PySem.W.callWith_K (h₀ := X.base) I.ok.mod.kin hk (thn (ha.run pos pins s σ H _ I h) fun us s1 ⟨vs, H1, I1, r, q⟩ => ⟨I1.kIn, run_fnG tk F hr hb I1 r q⟩) he hpl
/-- f(e, ..) -/
theorem je_call (tk : Takes X W) (F : FnG X.prog X.w X.K X.mg X.base k fa fd ps (spF X.K n f)) (hr : RoomG k X.A) (hm : X.mg x = some (.ref fa)) (hk : PySem.W.keepIn X.K (.ref fa) = true) (hb : Binds X.K fd ps []) (ho : JOs X W io (e :: es) os) (hl : os.length = n)
    (hg : Gl X x := by rfl) (hdb : (x == ("__debug__" : Str)) = false := by decide) (he : starEach (e :: es) X.env = (false, eval e X.env) :: starEach es X.env := by rfl) (hpl : (backTo pos (starEach es X.env)).any (·.1) = false := by rfl) :
    JE X W io (.Call (.Name x p) (e :: es) [] pos) (mCall f os) := ⟨pei (pe_callG tk F hr hg hm hk hb ho.pa hdb he hpl) fun σ H Q h => by
  obtain ⟨P, F, ρ, S, h⟩ := h
  obtain ⟨hc, h⟩ := toE_if h
  rw [runO_bind] at h
  refine tOs_bind os S h (fun ps ρ1 vs H1 F1 s1 S1 R1 h1 => ?_) fun i hi => okV_v S (List.all_eq_true.mp hc _ hi) i rfl
  obtain ⟨hl1, h1⟩ := toE_ifp h1
  exact call_core (hl1.trans hl) S1 R1 h1⟩
end
end Mi

namespace Mi
open PySem PySem.Spec PyProof.Rows L2

/-! ### targets in a block: what else stays -/
def tGw (K : PySem.W.Frag) (io : Nat → Option Addr) (ws : List Nat) (g : Tg) : TG := fun v σ H Q => ∃ P F ρ d, St K io P F ρ σ H ∧ Fz K F d v ∧ ∃ ρ', g d ρ = some ρ' ∧ ∀ σ' H' F', Same F F' → wipe σ' ws = wipe σ ws → St K io P F' ρ' σ' H' → Q σ' H'
def tGsw (K : PySem.W.Frag) (io : Nat → Option Addr) (ws : List Nat) (g : Tgs) : TGs := fun vs σ H Q => ∃ P F ρ ds, St K io P F ρ σ H ∧ FzL K F ds vs ∧ ∃ ρ', g ds ρ = some ρ' ∧ ∀ σ' H' F', Same F F' → wipe σ' ws = wipe σ ws → St K io P F' ρ' σ' H' → Q σ' H'
structure JGw (X : Cx) (io : Nat → Option Addr) (ws : List Nat) (e : Expr) (g : Tg) : Prop where
  pg : PG X e (tGw X.K io ws g)
structure JGsw (X : Cx) (io : Nat → Option Addr) (ws : List Nat) (e : List Expr) (g : Tgs) : Prop where
  pgs : PGs X e (tGsw X.K io ws g)
theorem wipe_set {σ : L2.St} {i : Nat} {v : V} : ∀ {ws : List Nat}, i ∈ ws → wipe (σ.set i (some v)) ws = wipe σ ws := fun {ws} h => by
  refine List.ext_getElem? fun j => ?_
  by_cases hj : j ∈ ws
  · have key : ∀ (τ : L2.St), (wipe τ ws)[j]? = if j < τ.length then some none else none := fun τ => by
      by_cases hl : j < τ.length
      · rw [if_pos hl]
        have hl2 : j < (wipe τ ws).length := by rw [wipe_length]; exact hl
        rw [List.getElem?_eq_getElem hl2]
        cases e : (wipe τ ws)[j] with
        | none => rfl
        | some x =>
          have : (wipe τ ws)[j]? = some (some x) := by rw [List.getElem?_eq_getElem hl2, e]
          exact absurd hj (wipe_some this).2
      · rw [if_neg hl]
        exact List.getElem?_eq_none (by rw [wipe_length]; omega)
    rw [key, key, List.length_set]
  · rw [wipe_out hj, wipe_out hj, List.getElem?_set_ne (fun e : i = j => hj (by rw [← e]; exact h))]
section
variable {X : Cx} {io : Nat → Option Addr} {ws : List Nat} {pos : Pos} {e : Expr}
theorem jgw_name (i : Nat) {x : Str} (hN : X.N.Nodup) (hw : i ∈ ws := by decide) (hi : X.N[i]? = some x := by rfl) (hx : Loc X.env.scope x := by first | exact Or.inl rfl | exact Or.inr rfl) (hf : X.fn x = true ∨ X.env.scope.names.lookup x = some .local := by first | exact .inl rfl | exact .inr rfl) : JGw X io ws (.Name x pos) (gNm i) :=
  ⟨pgi (pg_name hN hi hx hf) fun v σ H Q h => by
    obtain ⟨P, F, ρ, d, S, q, ρ', e, h⟩ := h
    cases e
    exact h _ H F (Same.refl _) (wipe_set hw) (S.store (r := .fz d) q)⟩
theorem jgsw_nil : JGsw X io ws [] gsNil := ⟨pgsi pgs_nil fun vs σ H Q h => by
  obtain ⟨P, F, ρ, ds, S, q, ρ', e, h⟩ := h
  cases ds with
  | cons _ _ => cases e
  | nil =>
    cases e
    exact ⟨q, h σ H F (Same.refl _) rfl S⟩⟩
theorem jgsw_cons {g : Tg} {r : Tgs} {es : List Expr} (h1 : JGw X io ws e g) (h2 : JGsw X io ws es r) (hs : (assignEach (e :: es) X.env).map (·.2) = assign e X.env :: (assignEach es X.env).map (·.2) := by rfl) : JGsw X io ws (e :: es) (gsCons g r) :=
  ⟨pgsi (pgs_cons h1.pg h2.pgs hs) fun vs σ H Q h => by
    obtain ⟨P, F, ρ, ds, S, q, ρ', e, h⟩ := h
    cases ds with
    | nil => cases e
    | cons d ds =>
      obtain ⟨v, us, rfl, q1, q2⟩ := q
      obtain ⟨ρ1, e1, e2⟩ := Option.bind_eq_some_iff.mp e
      exact ⟨v, us, rfl, P, F, ρ, d, S, q1, ρ1, e1, fun σ1 H1 F1 s1 w1 S1 => ⟨P, F1, ρ1, ds, S1, q2.mono s1, ρ', e2, fun σ2 H2 F2 s2 w2 S2 => h σ2 H2 F2 (s1.trans s2) (w2.trans w1) S2⟩⟩⟩
theorem jgw_seq {es : List Expr} {k : Nat} {g : Tgs} {n : Nat} (hc : X.calm = true) (h : JGsw X io ws es g)
    (hn : (assignEach es X.env).length = n := by rfl) (hst : (assignEach es X.env).findIdx? (·.1) = none := by rfl) : JGw X io ws (.Tuple es k pos) (gSeq n g) := ⟨pgi (pg_seq hc h.pgs hn hst) fun v σ H Q h => by
  obtain ⟨P, F, ρ, d, S, q, ρ', e, h⟩ := h
  obtain ⟨ds, e1, e2⟩ := Option.bind_eq_some_iff.mp e
  have hl : ds.length = n ∧ g ds ρ = some ρ' := by
    split at e2
    · rename_i hl
      exact ⟨hl, e2⟩
    · cases e2
  cases d <;> first | (cases e1; done) | skip
  · cases e1
    obtain ⟨a, vs, rfl, h1, h2⟩ := q
    exact .inl ⟨a, vs, rfl, same_seqT S.fh h1, by rw [← h2.length]; exact hl.1, P, F, ρ, ds, S, h2, ρ', hl.2, h⟩
  · cases e1
    obtain ⟨a, vs, rfl, h1, h2⟩ := q
    exact .inr ⟨a, vs, rfl, .inl (.inl (S.fh _ _ h1)), by rw [← h2.length]; exact hl.1, P, F, ρ, ds, S, h2, ρ', hl.2, h⟩⟩
end
/-! ### the block's own slots -/
def wipeE (ρ : Env) (ws : List Nat) : Env := ρ.mapIdx fun i e => if ws.contains i then none else e
def unwipe (ws : List Nat) (ρ1 ρ2 : Env) : Env := ρ2.mapIdx fun i e => if ws.contains i then (match ρ1[i]? with
  | some (some (.fz d)) => some (.fz d)
  | _ => none) else e
section
variable {K : PySem.W.Frag} {io : Nat → Option Addr} {P F F1 F2 : Hp} {σ : L2.St} {H H1 H2 : Hp} {ρ ρ1 ρ2 : Env} {ws : List Nat}
theorem wipeE_get {i : Nat} {s : Sl} (h : (wipeE ρ ws)[i]? = some (some s)) : ρ[i]? = some (some s) ∧ i ∉ ws := by
  unfold wipeE at h
  rw [List.getElem?_mapIdx] at h
  obtain ⟨e, h1, h2⟩ := Option.map_eq_some_iff.mp h
  by_cases hi : ws.contains i = true
  · rw [if_pos hi] at h2; cases h2
  · rw [if_neg hi] at h2
    subst h2
    exact ⟨h1, by simpa using hi⟩
theorem St.wipe (S : St K io P F ρ σ H) : St K io P F (wipeE ρ ws) (wipe σ ws) H := by
  refine S.sub (by unfold wipeE; rw [List.length_mapIdx, wipe_length, S.len]) fun i s h => ?_
  obtain ⟨h1, h2⟩ := wipeE_get h
  exact ⟨h1, fun v hv => by rw [wipe_out h2]; exact hv⟩
theorem unwipe_get {i : Nat} {s : Sl} (h : (unwipe ws ρ1 ρ2)[i]? = some (some s)) : (i ∈ ws ∧ ∃ d, s = .fz d ∧ ρ1[i]? = some (some (.fz d))) ∨ (i ∉ ws ∧ ρ2[i]? = some (some s)) := by
  unfold unwipe at h
  rw [List.getElem?_mapIdx] at h
  obtain ⟨e, h1, h2⟩ := Option.map_eq_some_iff.mp h
  by_cases hi : ws.contains i = true
  · rw [if_pos hi] at h2
    refine .inl ⟨by simpa using hi, ?_⟩
    cases q : ρ1[i]? with
    | none => rw [q] at h2; cases h2
    | some o =>
      rw [q] at h2
      cases o with
      | none => cases h2
      | some t => cases t <;> first | (cases h2; done) | (cases h2; exact ⟨_, rfl, rfl⟩)
  · rw [if_neg hi] at h2
    subst h2
    exact .inr ⟨by simpa using hi, h1⟩
theorem unwipe_own {i : Nat} {xs : List D} (o : Own (unwipe ws ρ1 ρ2) i xs) : i ∉ ws ∧ Own ρ2 i xs := by
  rcases o with o | o
  · rcases unwipe_get o with ⟨_, d, e, _⟩ | ⟨h1, h2⟩
    · cases e
    · exact ⟨h1, .inl h2⟩
  · rcases unwipe_get o with ⟨_, d, e, _⟩ | ⟨h1, h2⟩
    · cases e
    · exact ⟨h1, .inr h2⟩
theorem St.unwipe (S1 : St K io P F1 ρ1 σ H1) (S2 : St K io P F2 ρ2 (L2.wipe σ ws) H2) (s : Same F1 F2) : St K io P F2 (unwipe ws ρ1 ρ2) σ H2 := by
  refine ⟨S2.fh, S2.ph, S2.pf, by unfold Mi.unwipe; rw [List.length_mapIdx, S2.len, wipe_length], fun i d e => ?_, fun i xs o => ?_, fun i xs a e e' => ?_, fun i j xs ys a o1 o2 e1 e2 => ?_⟩
  · rcases unwipe_get e with ⟨_, d', e', h⟩ | ⟨h1, h2⟩
    · cases e'
      obtain ⟨v, g1, g2⟩ := S1.fz i d h
      exact ⟨v, g1, g2.mono s⟩
    · obtain ⟨v, g1, g2⟩ := S2.fz i d h2
      rw [wipe_out h1] at g1
      exact ⟨v, g1, g2⟩
  · obtain ⟨h1, h2⟩ := unwipe_own o
    obtain ⟨a, vs, g1, g2⟩ := S2.ow i xs h2
    rw [wipe_out h1] at g1
    exact ⟨a, vs, g1, g2⟩
  · rcases unwipe_get e with ⟨_, d', e2, h⟩ | ⟨h1, h2⟩
    · cases e2
    · exact S2.ia i xs a h2 (by rw [wipe_out h1]; exact e')
  · obtain ⟨h1, h2⟩ := unwipe_own o1
    obtain ⟨h3, h4⟩ := unwipe_own o2
    exact S2.ds i j xs ys a h2 h4 (by rw [wipe_out h1]; exact e1) (by rw [wipe_out h3]; exact e2)
/-- a new list, which stays as long as the block runs -/
theorem St.lay {D : Addr} {o : HO} (S : St K io P F ρ σ H) (n : H D = none) : St K io (upd P D o) F ρ σ (upd H D o) := by
  refine ⟨fun b x e => ?_, fun b x e => ?_, fun b x e => ?_, S.len, S.fz, fun i xs q => ?_, S.ia, S.ds⟩
  · rw [upd_ne (ne_of_none (S.fh _ _ e) n)]; exact S.fh _ _ e
  · by_cases hb : b = D
    · subst hb; rw [upd_same] at e ⊢; exact e
    · rw [upd_ne hb] at e ⊢; exact S.ph _ _ e
  · by_cases hb : b = D
    · subst hb; exact S.fh.free n
    · rw [upd_ne hb] at e; exact S.pf _ _ e
  · obtain ⟨a, vs, h1, h2, h3, h4, h5⟩ := S.ow i xs q
    have ha : a ≠ D := ne_of_none h2 n
    exact ⟨a, vs, h1, by rw [upd_ne ha]; exact h2, h3, h4, by rw [upd_ne ha]; exact h5⟩
theorem St.grow {D : Addr} {o o' : HO} (S : St K io (upd P D o) F ρ σ H) : St K io (upd P D o') F ρ σ (upd H D o') := by
  have fD : F D = none := S.pf D o upd_same
  refine ⟨fun b x e => ?_, fun b x e => ?_, fun b x e => ?_, S.len, S.fz, fun i xs q => ?_, S.ia, S.ds⟩
  · rw [upd_ne (ne_of_none e fD)]; exact S.fh _ _ e
  · by_cases hb : b = D
    · subst hb; rw [upd_same] at e ⊢; exact e
    · rw [upd_ne hb] at e ⊢; exact S.ph b x (by rw [upd_ne hb]; exact e)
  · by_cases hb : b = D
    · subst hb; exact fD
    · rw [upd_ne hb] at e; exact S.pf b x (by rw [upd_ne hb]; exact e)
  · obtain ⟨a, vs, h1, h2, h3, h4, h5⟩ := S.ow i xs q
    have ha : a ≠ D := fun e => by
      subst e
      rw [upd_same] at h5
      cases h5
    rw [upd_ne ha] at h5
    exact ⟨a, vs, h1, by rw [upd_ne ha]; exact h2, h3, h4, by rw [upd_ne ha]; exact h5⟩
end
/-! ### the loop -/
def turnC (g : Tg) (tt : Te) (te : Ex) (ws : List Nat) (d : D) (ρ : Env) : R (Option D) := match g d ρ with
  | none => .no
  | some ρ1 => (tt ρ1).bind fun b ρ2 => if b then (te ρ2).bind fun r ρ3 => .ok (some r.d) (wipeE ρ3 ws) else .ok none (wipeE ρ2 ws)
def loopC (f : D → Env → R (Option D)) : List D → Env → List D → R (List D)
  | [], ρ, acc => .ok acc ρ
  | d :: ds, ρ, acc => match f d ρ with
    | .ok (some x) ρ1 => if acc.length < SZ then loopC f ds ρ1 (acc ++ [x]) else .no
    | .ok none ρ1 => loopC f ds ρ1 acc
    | _ => .no
def mComp (mi : Mi') (g : Tg) (tt : Te) (te : Ex) (ws : List Nat) : Ex := fun ρ => (mi ρ).bind fun ds ρ1 => (loopC (turnC g tt te ws) ds (wipeE ρ1 ws) []).bind fun acc ρ2 => .ok (.ow acc) (unwipe ws ρ1 ρ2)
abbrev w0 : WX := fun _ _ _ _ => False
structure JTs (X : Cx) (W : WX) (io : Nat → Option Addr) (es : List Expr) (m : Te) : Prop where
  pts : PTs X es (tJT X.K W io m)
def tYesE : Te := fun ρ => .ok true ρ
theorem ptsi {X : Cx} {es : List Expr} {t t' : TT} (h : PTs X es t) (f : ∀ σ H Q, t' σ H Q → t σ H Q) : PTs X es t' := ⟨fun pins s σ H Q I q => h.run pins s σ H Q I (f σ H Q q)⟩
theorem jts_nil {X : Cx} {W : WX} {io : Nat → Option Addr} : JTs X W io [] tYesE := ⟨ptsi pts_nil fun σ H Q h => by
  obtain ⟨P, F, ρ, S, h⟩ := h
  exact h H F (Same.refl _) S⟩
theorem jts_one {X : Cx} {W : WX} {io : Nat → Option Addr} {e : Expr} {m : Te} (h : JT X W io e m) : JTs X W io [e] m := ⟨pts_one h.pt⟩
/-- what the loop leads to -/
def ToC (K : PySem.W.Frag) (io : Nat → Option Addr) (P F : Hp) (σw : L2.St) (Dl : Addr) (Q : VK) (r : R (List D)) : Prop := match r with
  | .ok acc ρ2 => ∀ H' F' vs, Same F F' → St K io (upd P Dl (.lst vs)) F' ρ2 σw H' → FzL K F' acc vs → Q (.ref Dl) H'
  | _ => False
theorem ToC.up {K : PySem.W.Frag} {io : Nat → Option Addr} {P F F' : Hp} {σw : L2.St} {Dl : Addr} {Q : VK} {r : R (List D)} (s : Same F F') (h : ToC K io P F σw Dl Q r) : ToC K io P F' σw Dl Q r := by
  cases r with
  | ok acc ρ => exact fun H' F2 vs s2 => h H' F2 vs (s.trans s2)
  | ex c ρ => exact h
  | no => exact h
section
variable {X : Cx} {W : WX} {io : Nat → Option Addr} {P F : Hp} {σ : L2.St} {H : Hp} {ρ : Env}
/-- the loop's law: the list stands, the turns follow -/
theorem comp_core {J : It} {ds : List D} {ws : List Nat} {g : Tg} {tt : Te} {te : Ex} {Q : VK} (S : St X.K io P F ρ σ H) (ok : ItOk X.K F J ds) (h : ∀ Dl, P Dl = none → ToC X.K io P F (wipe σ ws) Dl Q (loopC (turnC g tt te ws) ds (wipeE ρ ws) [])) :
    ∀ Dl, H Dl = none → ∃ Wm : Nat → Nat → Hp → Prop, (∃ m, Wm 0 m (upd H Dl (.lst []))) ∧ ∀ i m H, Wm i m H →
      (J.stop i H ∧ Q (.ref Dl) H) ∨ (J.go i H ∧ ∃ Nx : Hp → Prop, (∀ H', Nx H' → ∃ m', m' < m ∧ Wm (i + 1) m' H') ∧ ∀ x H', J.yld i H x H' → tGw X.K io ws g x (wipe σ ws) H' fun σ2 H2 => wipe σ2 ws = wipe σ ws ∧ tJT X.K w0 io tt σ2 H2 fun b H3 =>
        if b = true then tJ X.K w0 io te σ2 H3 fun y H4 => ∃ acc, H4 Dl = some (.lst acc) ∧ acc.length < sizeLine ∧ Nx (upd H4 Dl (.lst (acc ++ [y]))) else Nx H3) := by
  intro Dl hD
  have hP : P Dl = none := S.ph.free hD
  have h := h Dl hP
  refine ⟨fun i m H => m = ds.length - i ∧ i ≤ ds.length ∧ ∃ F' ρ' acc vs, Same F F' ∧ St X.K io (upd P Dl (.lst vs)) F' ρ' (wipe σ ws) H ∧ FzL X.K F' acc vs ∧ ToC X.K io P F' (wipe σ ws) Dl Q (loopC (turnC g tt te ws) (ds.drop i) ρ' acc),
    ⟨ds.length, rfl, Nat.zero_le _, F, wipeE ρ ws, [], [], Same.refl _, S.wipe.lay hD, rfl, h⟩, ?_⟩
  rintro i m H2 ⟨rfl, hi, F2, ρ2, acc, vs, s2, S2, R2, h2⟩
  by_cases hlt : i < ds.length
  · refine .inr ⟨ok.go i H2 hlt (s2.trans S2.fh), ?_⟩
    have ed : ds.drop i = ds[i] :: ds.drop (i + 1) := List.drop_eq_getElem_cons hlt
    rw [ed] at h2
    have h2' : ToC X.K io P F2 (wipe σ ws) Dl Q (match turnC g tt te ws ds[i] ρ2 with
      | .ok (some x) ρ1 => if acc.length < SZ then loopC (turnC g tt te ws) (ds.drop (i + 1)) ρ1 (acc ++ [x]) else .no
      | .ok none ρ1 => loopC (turnC g tt te ws) (ds.drop (i + 1)) ρ1 acc
      | _ => .no) := h2
    refine ⟨fun H' => ∃ F' ρ' acc vs, Same F F' ∧ St X.K io (upd P Dl (.lst vs)) F' ρ' (wipe σ ws) H' ∧ FzL X.K F' acc vs ∧ ToC X.K io P F' (wipe σ ws) Dl Q (loopC (turnC g tt te ws) (ds.drop (i + 1)) ρ' acc), fun H' q => ⟨ds.length - (i + 1), by omega, rfl, hlt, q⟩, fun x H' y => ?_⟩
    obtain ⟨F3, ex, qx⟩ := ok.yld i ds[i] F2 H2 x H' (List.getElem?_eq_getElem hlt) s2 S2.fh y
    have S3 := S2.ext ex
    cases eg : g ds[i] ρ2 with
    | none => rw [show turnC g tt te ws ds[i] ρ2 = .no by unfold turnC; rw [eg]] at h2'; exact h2'.elim
    | some ρ3 =>
      have kk : turnC g tt te ws ds[i] ρ2 = (tt ρ3).bind fun b ρ2 => if b then (te ρ2).bind fun r ρ3 => .ok (some r.d) (wipeE ρ3 ws) else .ok none (wipeE ρ2 ws) := by unfold turnC; rw [eg]
      rw [kk] at h2'
      refine ⟨_, F3, ρ2, ds[i], S3, qx, ρ3, eg, fun σ4 H4 F4 s4 w4 S4 => ?_⟩
      have w4' : wipe σ4 ws = wipe σ ws := by
        rw [w4]
        refine List.ext_getElem? fun j => ?_
        by_cases hj : j ∈ ws
        · have : ∀ τ : L2.St, τ.length = σ.length → (wipe τ ws)[j]? = if j < σ.length then some none else none := fun τ hτ => by
            by_cases hl : j < σ.length
            · rw [if_pos hl]
              have hl2 : j < (wipe τ ws).length := by rw [wipe_length, hτ]; exact hl
              rw [List.getElem?_eq_getElem hl2]
              cases e : (wipe τ ws)[j] with
              | none => rfl
              | some x =>
                have : (wipe τ ws)[j]? = some (some x) := by rw [List.getElem?_eq_getElem hl2, e]
                exact absurd hj (wipe_some this).2
            · rw [if_neg hl]
              exact List.getElem?_eq_none (by rw [wipe_length, hτ]; omega)
          rw [this _ (wipe_length _ _), this _ rfl]
        · rw [wipe_out hj]
      refine ⟨w4', _, F4, ρ3, S4, ?_⟩
      cases et : tt ρ3 with
      | no => rw [et] at h2'; exact h2'.elim
      | ex c ρ5 => rw [et] at h2'; exact h2'.elim
      | ok b ρ5 =>
        rw [et] at h2'
        intro H5 F5 s5 S5
        have sF5 : Same F2 F5 := ex.f.trans (s4.trans s5)
        cases b with
        | false =>
          have h2' : ToC X.K io P F2 (wipe σ ws) Dl Q (loopC (turnC g tt te ws) (ds.drop (i + 1)) (wipeE ρ5 ws) acc) := h2'
          show ∃ F' ρ' acc vs, _
          refine ⟨F5, wipeE ρ5 ws, acc, vs, s2.trans sF5, ?_, R2.mono sF5, h2'.up sF5⟩
          rw [← w4']
          exact S5.wipe
        | true =>
          have h2' : ToC X.K io P F2 (wipe σ ws) Dl Q (match (te ρ5).bind fun r ρ3 => .ok (some r.d) (wipeE ρ3 ws) with
            | .ok (some x) ρ1 => if acc.length < SZ then loopC (turnC g tt te ws) (ds.drop (i + 1)) ρ1 (acc ++ [x]) else .no
            | .ok none ρ1 => loopC (turnC g tt te ws) (ds.drop (i + 1)) ρ1 acc
            | _ => .no) := h2'
          show tJ X.K w0 io te σ4 H5 _
          refine ⟨_, F5, ρ5, S5, ?_⟩
          cases ee : te ρ5 with
          | no => rw [ee] at h2'; exact h2'.elim
          | ex c ρ6 => rw [ee] at h2'; exact h2'.elim
          | ok r ρ6 =>
            rw [ee] at h2'
            have h2' : ToC X.K io P F2 (wipe σ ws) Dl Q (if acc.length < SZ then loopC (turnC g tt te ws) (ds.drop (i + 1)) (wipeE ρ6 ws) (acc ++ [r.d]) else .no) := h2'
            intro v H6 F6 s6 S6 R6
            by_cases hz : acc.length < SZ
            · rw [if_pos hz] at h2'
              obtain ⟨F7, s7, S7, q7⟩ := S6.cool R6
              have sF7 : Same F2 F7 := sF5.trans (s6.trans s7)
              refine ⟨vs, S6.ph Dl _ upd_same, by rw [← R2.length]; exact Nat.lt_of_lt_of_le hz SZ_le, F7, wipeE ρ6 ws, acc ++ [r.d], vs ++ [v], s2.trans sF7, ?_, (R2.mono sF7).append ⟨v, [], rfl, q7, rfl⟩, h2'.up sF7⟩
              rw [← w4']
              exact S7.wipe.grow
            · rw [if_neg hz] at h2'
              exact h2'.elim
  · have e : i = ds.length := by omega
    subst e
    rw [List.drop_length] at h2
    exact .inl ⟨ok.stop H2 (s2.trans S2.fh), h2 H2 F2 vs (Same.refl _) S2 R2⟩
/-- behind the loop -/
theorem ToC.of {ws : List Nat} {Q : VK} {r : R (List D)} (S : St X.K io P F ρ σ H) (h : ToE X.K W io P F σ Q (r.bind fun acc ρ2 => .ok (.ow acc) (unwipe ws ρ ρ2))) (hr : ∀ c ρ', r ≠ .ex c ρ') : ∀ Dl, P Dl = none → ToC X.K io P F (wipe σ ws) Dl Q r := fun Dl hP => by
  cases r with
  | no => exact h.elim
  | ex c ρ' => exact absurd rfl (hr c ρ')
  | ok acc ρ2 =>
    intro H' F' vs s S2 R2
    have sP : Same P (upd P Dl (.lst vs)) := fun b x e => by rw [upd_ne (ne_of_none e hP)]; exact e
    have hDl := S2.ph Dl _ upd_same
    have fD : F' Dl = none := S2.pf Dl _ upd_same
    refine h (.ref Dl) H' F' s (S.unwipe (S2.lessP sP) s) ⟨Dl, vs, rfl, hDl, R2, fD, hP, fun i ys o e => ?_⟩
    obtain ⟨h1, h2⟩ := unwipe_own o
    obtain ⟨a, us, g1, _, _, _, g5⟩ := S2.ow i ys h2
    rw [wipe_out h1, e] at g1
    cases g1
    rw [upd_same] at g5
    cases g5
theorem loopC_ex {f : D → Env → R (Option D)} : ∀ {ds : List D} {ρ : Env} {acc : List D} {c : Str} {ρ' : Env}, loopC f ds ρ acc ≠ .ex c ρ'
  | [], _, _, _, _, e => by cases e
  | d :: ds, ρ, acc, c, ρ', e => by
    unfold loopC at e
    cases q : f d ρ with
    | no => rw [q] at e; cases e
    | ex _ _ => rw [q] at e; cases e
    | ok o ρ1 =>
      rw [q] at e
      cases o with
      | none => exact loopC_ex e
      | some x =>
        have e : (if acc.length < SZ then loopC f ds ρ1 (acc ++ [x]) else .no) = .ex c ρ' := e
        split at e
        · exact loopC_ex e
        · cases e
variable {elt tg iter : Expr} {ifs : List Expr} {scope : Scope} {own : List (Str × Nat)} {pos spos : Pos} {mi : Mi'} {g : Tg} {tt : Te} {te : Ex}
theorem tLc_of {σ : L2.St} {H : Hp} {Q : VK} (h : tJ X.K W io (mComp mi g tt te (own.map (·.2))) σ H Q) : tLc (tI X.K W io mi) (tGw X.K io (own.map (·.2)) g) (tJT X.K w0 io tt) (tJ X.K w0 io te) (own.map (·.2)) σ H Q := by
  obtain ⟨P, F, ρ, S, h⟩ := h
  refine ⟨P, F, ρ, S, ?_⟩
  have h : ToE X.K W io P F σ Q ((mi ρ).bind fun ds ρ1 => (loopC (turnC g tt te (own.map (·.2))) ds (wipeE ρ1 (own.map (·.2))) []).bind fun acc ρ2 => .ok (.ow acc) (unwipe (own.map (·.2)) ρ1 ρ2)) := h
  cases em : mi ρ with
  | no => rw [em] at h; exact h
  | ex c ρ1 => rw [em] at h; exact h
  | ok ds ρ1 =>
    rw [em] at h
    intro J H1 F1 s1 S1 ok
    exact comp_core S1 ok (ToC.of S1 (ToE.up s1 h) fun _ _ => loopC_ex)
theorem je_comp (hc : X.calm = true) (hN : X.N.Nodup) (own : List (Str × Nat)) (hi : JI X W io tg iter mi) (ok : BlkOk X.N X.env.scope scope own)
    (hb : ∀ (s : Shared) (H : Hp) (C : Addr) (cl : List (Str × Addr)) (fp : List Addr), JGw (X.blk s H scope (compEnvC scope cl C X.env) fp) io (own.map (·.2)) tg g ∧ JTs (X.blk s H scope (compEnvC scope cl C X.env) fp) w0 io ifs tt ∧ JE (X.blk s H scope (compEnvC scope cl C X.env) fp) w0 io elt te)
    (hs : ∀ x, foldedSetIterable iter X.env x = pure x := by intro _; rfl) : JE X W io (.ListComp elt [⟨tg, iter, ifs, 0⟩] scope pos) (mComp mi g tt te (own.map (·.2))) :=
  ⟨pei (pe_lc hc hN hi.pi ok (fun s H C cl fp => (hb s H C cl fp).1.pg) (fun s H C cl fp => (hb s H C cl fp).2.1.pts) (fun s H C cl fp => (hb s H C cl fp).2.2.pe) hs) fun _ _ _ h => tLc_of h⟩
theorem js_setComp (i : Nat) {y : Str} {py : Pos} (hc : X.calm = true) (hN : X.N.Nodup) (own : List (Str × Nat)) (hi : JI X W io tg iter mi) (ok : BlkOk X.N X.env.scope scope own)
    (hb : ∀ (s : Shared) (H : Hp) (C : Addr) (cl : List (Str × Addr)) (fp : List Addr), JGw (X.blk s H scope (compEnvC scope cl C X.env) fp) io (own.map (·.2)) tg g ∧ JTs (X.blk s H scope (compEnvC scope cl C X.env) fp) w0 io ifs tt ∧ JE (X.blk s H scope (compEnvC scope cl C X.env) fp) w0 io elt te)
    (hy : X.N[i]? = some y := by rfl) (hyl : X.env.scope.names.lookup y = some .local := by rfl) (hsw : swapsWith (.ListComp elt [⟨tg, iter, ifs, 0⟩] scope pos) (some (.Name y py)) spos.line X.env = pure true := by rfl)
    (hs : ∀ x, foldedSetIterable iter X.env x = pure x := by intro _; rfl) : JS X W io (.Assign [.Name y py] (.ListComp elt [⟨tg, iter, ifs, 0⟩] scope pos) spos) (sSet i (mComp mi g tt te (own.map (·.2)))) :=
  ⟨psi (ps_setLc hc hN hy hyl hsw hi.pi ok (fun s H C cl fp => (hb s H C cl fp).1.pg) (fun s H C cl fp => (hb s H C cl fp).2.1.pts) (fun s H C cl fp => (hb s H C cl fp).2.2.pe) hs) fun D σ H h => by
    obtain ⟨P, F, ρ, S, h⟩ := h
    show tLc _ _ _ _ _ σ H fun x H1 => gName i x σ H1 D.nx
    exact tLc_of (tJ_toS S h fun r ρ1 v H1 F1 s S1 R1 h1 => h1 _ H1 F1 (Same.refl _) (S1.store R1))⟩
end
end Mi

namespace Mi
open PySem PySem.Spec PyProof.Rows L2

/-! ### calls with keywords -/
/-- the values in the parameters' order -/
def permL {α : Type} (pm : List Nat) (l : List α) : List α := pm.filterMap fun i => l[i]?
theorem permL_vals {vs : List V} {us : List Value} (r : Vals vs us) : ∀ (pm : List Nat), Vals (permL pm vs) (permL pm us)
  | [] => .nil
  | i :: pm => by
    unfold permL
    rw [List.filterMap_cons, List.filterMap_cons]
    cases e : vs[i]? with
    | none =>
      have e2 : us[i]? = none := by
        have h := List.getElem?_eq_none_iff.mp e
        exact List.getElem?_eq_none (by rw [← r.length]; exact h)
      rw [e2]
      exact permL_vals r pm
    | some v =>
      obtain ⟨u, hu, rv⟩ := r.get e
      rw [hu]
      exact .cons rv (permL_vals r pm)
theorem permL_pd {K : PySem.W.Frag} {F : Hp} {σ : L2.St} {vs : List V} {ps : List Pd} (r : PdRL K F σ vs ps) : ∀ (pm : List Nat), PdRL K F σ (permL pm vs) (permL pm ps)
  | [] => trivial
  | i :: pm => by
    unfold permL
    rw [List.filterMap_cons, List.filterMap_cons]
    cases e : ps[i]? with
    | none =>
      have e2 : vs[i]? = none := by
        have h := List.getElem?_eq_none_iff.mp e
        exact List.getElem?_eq_none (by rw [r.len]; exact h)
      rw [e2]
      exact permL_pd r pm
    | some p =>
      obtain ⟨v, hv, rv⟩ := r.get e
      rw [hv]
      exact ⟨rv, permL_pd r pm⟩
theorem PdRL.append {K : PySem.W.Frag} {F : Hp} {σ : L2.St} : ∀ {vs us : List V} {ps qs : List Pd}, PdRL K F σ vs ps → PdRL K F σ us qs → PdRL K F σ (vs ++ us) (ps ++ qs)
  | [], _, [], _, _, h => h
  | _ :: _, _, _ :: _, _, ⟨h1, h2⟩, h => ⟨h1, h2.append h⟩
  | [], _, _ :: _, _, h, _ => h.elim
  | _ :: _, _, [], _, h, _ => h.elim
def KB (fd : FuncData) (ps ks : List Str) (n : Nat) (pm : List Nat) : Prop := ∀ (s : Shared) (us ws : List Value), us.length = n → ws.length = ks.length → BindsTo s fd ⟨us, ks.zip ws⟩ (ps.zip (permL pm (us ++ ws)))
theorem kb_of {K : PySem.W.Frag} {x qual : Str} {params : Arguments} {body : List Stmt} {scope : Scope} {kws : List (Str × V)} {f : Addr} {fd : FuncData} {ps ks : List Str} {n : Nat} {pm : List Nat} (F : FunD K x qual params body scope [] kws f fd)
    (h : ∀ (kV doc pm_ : Value) (an : Option Addr) (cdv ct : Value) (us ws : List Value), us.length = n → ws.length = ks.length → bindArgs (PySem.W.fnOf x qual params body scope .none kV doc pm_ an cdv ct) ⟨us, ks.zip ws⟩ = pure (ps.zip (permL pm (us ++ ws)))) : KB fd ps ks n pm := by
  obtain ⟨oc, od, dV, kV, doc, pm_, an, cdv, ct, osl, rfl, lk, hcd, hD, hK⟩ := F.ex
  rcases hD with ⟨_, rfl⟩ | ⟨e, _⟩
  · exact fun s us ws h1 h2 => .of_eq (h kV doc pm_ an cdv ct us ws h1 h2)
  · exact absurd rfl e
def mCallK (f : Fn) (pm : List Nat) (os qs : List Opd) : Ex := fun ρ => if os.all (okV ρ) && qs.all (okV ρ) then (runO os ρ).bind fun ps ρ1 => (runO qs ρ1).bind fun rs ρ2 => match argsS ρ2 (permL pm (ps ++ rs)) with
  | some args => if apart ρ2 (permL pm (ps ++ rs)) then ofF ρ2 (permL pm (ps ++ rs)) (f args) else .no
  | none => .no else .no
/-- keywords' values -/
def JKs (X : Cx) (W : WX) (io : Nat → Option Addr) : List Keyword → List Opd → Prop
  | [], [] => True
  | k :: ks, o :: os => JO X W io k.2 o ∧ JKs X W io ks os
  | _, _ => False
section
variable {X : Cx} {W : WX} {io : Nat → Option Addr} {k n : Nat} {fa : Addr} {fd : FuncData} {ps ks : List Str} {f : Fn} {x : Str} {p pos : Pos} {e : Expr} {es : List Expr} {os qs : List Opd} {pm : List Nat} {kws : List Keyword} {kpos : Pos} {nm : Option Str} {o : Opd}
theorem jks_nil : JKs X W io [] [] := trivial
theorem jks_cons (h : JO X W io e o) (r : JKs X W io kws os) : JKs X W io (⟨nm, e, kpos⟩ :: kws) (o :: os) := ⟨h, r⟩
theorem JKs.pk : ∀ {kws : List Keyword} {os : List Opd}, JKs X W io kws os → PK X kws (tOs X.K W io os)
  | [], [], _ => pk_nil
  | ⟨_, _, _⟩ :: _, _ :: _, ⟨h, r⟩ => pk_cons h.pe r.pk
  | [], _ :: _, h => h.elim
  | _ :: _, [], h => h.elim
theorem run_fnQ {pins : List (Addr × Obj)} {σ : L2.St} {H : Hp} {s : Shared} {Q : VK} {us ws : List Value} {vs zs : List V} (tk : Takes X W) (F : FnG X.prog X.w X.K X.mg X.base k fa fd ps (spF X.K n f)) (hr : RoomG k X.A) {m : Nat} (hb : KB fd ps ks m pm)
    (I : Inv X pins σ H s) (r : Vals vs us) (rz : Vals zs ws) (hu : us.length = m) (hw : ws.length = ks.length) (h : spF X.K n f (permL pm (vs ++ zs)) H Q (WE W σ)) : wpAny (model X.prog X.w) X.A (call (.ref fa) us (ks.zip ws)) (EP X pins σ Q) X.xe s := by
  have r2 := permL_vals (r.append rz) pm
  refine wpAny_call (codeAny_mono (F.go X.A X.stack s H ⟨us, ks.zip ws⟩ (permL pm (us ++ ws)) (permL pm (vs ++ zs)) Q (WE W σ) hr I.env0 (hb s us ws hu hw) r2 h) fun r s' hq => ?_)
  cases r with
  | error e => exact passAt tk σ pins H s e s' I hq
  | ok fl =>
    cases fl with
    | ret u => exact I.after hq
    | next => exact False.elim hq
    | brk => exact False.elim hq
    | cont => exact False.elim hq
theorem permL_len {α β : Type} {l : List α} {l' : List β} (h : l.length = l'.length) : ∀ pm : List Nat, (permL pm l).length = (permL pm l').length
  | [] => rfl
  | i :: pm => by
    unfold permL
    rw [List.filterMap_cons, List.filterMap_cons]
    cases e : l[i]? with
    | none =>
      have h1 := List.getElem?_eq_none_iff.mp e
      rw [List.getElem?_eq_none (by omega : l'.length ≤ i)]
      exact permL_len h pm
    | some v =>
      have h1 := (List.getElem?_eq_some_iff.mp e).1
      rw [List.getElem?_eq_getElem (by omega : i < l'.length)]
      exact congrArg Nat.succ (permL_len h pm)
/-- both rows of operands -/
theorem tOs2 {K : PySem.W.Frag} {P F : Hp} {σ : L2.St} {ρ : Env} {H : Hp} {Q : VK} {g : List Pd → Env → R Sl} {Q' : List V → List V → Hp → Prop} (S : St K io P F ρ σ H) (hc : (os.all (okV ρ) && qs.all (okV ρ)) = true)
    (h : ToE K W io P F σ Q ((runO os ρ).bind fun ps ρ1 => (runO qs ρ1).bind fun rs ρ2 => g (ps ++ rs) ρ2))
    (kk : ∀ ps rs ρ2 vs zs H2 F2, ps.length = os.length → rs.length = qs.length → St K io P F2 ρ2 σ H2 → PdRL K F2 σ vs ps → PdRL K F2 σ zs rs → ToE K W io P F2 σ Q (g (ps ++ rs) ρ2) → Q' vs zs H2) : tOs K W io os σ H fun vs H1 => tOs K W io qs σ H1 fun zs H2 => Q' vs zs H2 := by
  rw [Bool.and_eq_true] at hc
  rw [runO_bind] at h
  have v1 : ∀ i, Opd.v i ∈ os → ∃ v, σ[i]? = some (some v) := fun i hi => okV_v S (List.all_eq_true.mp hc.1 _ hi) i rfl
  have v2 : ∀ i, Opd.v i ∈ qs → ∃ v, σ[i]? = some (some v) := fun i hi => okV_v S (List.all_eq_true.mp hc.2 _ hi) i rfl
  refine tOs_bind os S h (fun ps ρ1 vs H1 F1 s1 S1 R1 h1 => ?_) v1
  obtain ⟨l1, h1⟩ := toE_ifp h1
  rw [runO_bind] at h1
  refine tOs_bind qs S1 h1 (fun rs ρ2 zs H2 F2 s2 S2 R2 h2 => ?_) v2
  obtain ⟨l2, h2⟩ := toE_ifp h2
  exact kk ps rs ρ2 vs zs H2 F2 l1 l2 S2 (R1.mono s2) R2 h2
/-- f(e, .., k = v, ..) -/
theorem je_callK (tk : Takes X W) (F : FnG X.prog X.w X.K X.mg X.base k fa fd ps (spF X.K n f)) (hr : RoomG k X.A) (hm : X.mg x = some (.ref fa)) (hk : PySem.W.keepIn X.K (.ref fa) = true) (hb : KB fd ps ks os.length pm) (ho : JOs X W io (e :: es) os) (hq : JKs X W io kws qs)
    (hl : ∀ (l : List Nat), l.length = os.length + qs.length → (permL pm l).length = n) (hl2 : qs.length = ks.length := by rfl)
    (hall : (backToKw pos (keywordEach kws X.env)).all (·.1.isSome) = true := by rfl) (hks : (backToKw pos (keywordEach kws X.env)).filterMap (·.1) = ks := by rfl)
    (hg : Gl X x := by rfl) (hdb : (x == ("__debug__" : Str)) = false := by decide) (he : starEach (e :: es) X.env = (false, eval e X.env) :: starEach es X.env := by rfl)
    (hpl : ((backTo pos (starEach (e :: es) X.env)).any (·.1) || (backToKw pos (keywordEach kws X.env)).any (·.1.isNone)) = false := by rfl) :
    JE X W io (.Call (.Name x p) (e :: es) kws pos) (mCallK f pm os qs) := by
  refine ⟨⟨fun pins s σ H Q I h => ?_⟩⟩
  obtain ⟨P, F', ρ, S, h⟩ := h
  obtain ⟨hc, h⟩ := toE_if h
  have h3 := tOs2 (g := fun l ρ2 => match argsS ρ2 (permL pm l) with
    | some args => if apart ρ2 (permL pm l) then ofF ρ2 (permL pm l) (f args) else .no
    | none => .no) (Q' := fun vs zs H2 => vs.length = os.length ∧ zs.length = qs.length ∧ spF X.K n f (permL pm (vs ++ zs)) H2 Q (WE W σ)) S hc h fun qs1 rs1 ρ2 vs zs H2 F2 l1 l2 S2 R1 R2 h2 =>
      ⟨R1.len.trans l1, R2.len.trans l2, call_core (by
        rw [permL_len (l' := List.replicate (os.length + qs.length) 0) (by simp [l1, l2]) pm]
        exact hl _ (by simp)) S2 (permL_pd (R1.append R2) pm) h2⟩
  refine wpAny_Call_Name_kw (ld_glob I hg hm ?_ hdb)
  refine PySem.W.callWith_KW (h₀ := X.base) I.ok.mod.kin hk hall (thn (ho.pa.run pos pins s σ H _ I h3) fun us s1 ⟨vs, H1, I1, r, q⟩ => ?_) hpl he
  refine thn (hq.pk.run pos pins s1 σ H1 _ I1 q) fun ws s2 ⟨zs, H2, I2, rz, q2⟩ => ⟨I2.kIn, ?_⟩
  rw [hks]
  obtain ⟨l1, l2, q2⟩ := q2
  exact run_fnQ (us := us) tk F hr hb I2 r rz (r.length.symm.trans l1) (by rw [← rz.length, l2, hl2]) q2
/-- f(k = v, ..) -/
theorem je_callK0 (tk : Takes X W) (F : FnG X.prog X.w X.K X.mg X.base k fa fd ps (spF X.K n f)) (hr : RoomG k X.A) (hm : X.mg x = some (.ref fa)) (hk : PySem.W.keepIn X.K (.ref fa) = true) (hb : KB fd ps ks 0 pm) (hq : JKs X W io kws qs)
    (hl : ∀ (l : List Nat), l.length = qs.length → (permL pm l).length = n) (hl2 : qs.length = ks.length := by rfl)
    (hall : (backToKw pos (keywordEach kws X.env)).all (·.1.isSome) = true := by rfl) (hks : (backToKw pos (keywordEach kws X.env)).filterMap (·.1) = ks := by rfl)
    (hg : Gl X x := by rfl) (hdb : (x == ("__debug__" : Str)) = false := by decide)
    (hpl : ((backTo pos (starEach [] X.env)).any (·.1) || (backToKw pos (keywordEach kws X.env)).any (·.1.isNone)) = false := by rfl) :
    JE X W io (.Call (.Name x p) [] kws pos) (mCallK f pm [] qs) := by
  refine ⟨⟨fun pins s σ H Q I h => ?_⟩⟩
  obtain ⟨P, F', ρ, S, h⟩ := h
  obtain ⟨hc, h⟩ := toE_if h
  have h3 := tOs2 (os := []) (g := fun l ρ2 => match argsS ρ2 (permL pm l) with
    | some args => if apart ρ2 (permL pm l) then ofF ρ2 (permL pm l) (f args) else .no
    | none => .no) (Q' := fun vs zs H2 => vs.length = 0 ∧ zs.length = qs.length ∧ spF X.K n f (permL pm (vs ++ zs)) H2 Q (WE W σ)) S hc h fun qs1 rs1 ρ2 vs zs H2 F2 l1 l2 S2 R1 R2 h2 =>
      ⟨R1.len.trans l1, R2.len.trans l2, call_core (by
        rw [permL_len (l' := List.replicate qs.length 0) (by rw [List.length_append, l1, l2]; simp) pm]
        exact hl _ (by simp)) S2 (permL_pd (R1.append R2) pm) h2⟩
  refine wpAny_Call_Name_kw (ld_glob I hg hm ?_ hdb)
  have h4 : tOs X.K W io qs σ H fun zs H2 => zs.length = qs.length ∧ spF X.K n f (permL pm ([] ++ zs)) H2 Q (WE W σ) := by
    have h3 : tOs X.K W io qs σ H fun zs H2 => (0 = 0 ∧ zs.length = qs.length ∧ spF X.K n f (permL pm ([] ++ zs)) H2 Q (WE W σ)) := h3
    have e : (fun (zs : List V) (H2 : Hp) => ((0 : Nat) = 0 ∧ zs.length = qs.length ∧ spF X.K n f (permL pm ([] ++ zs)) H2 Q (WE W σ))) = fun zs H2 => zs.length = qs.length ∧ spF X.K n f (permL pm ([] ++ zs)) H2 Q (WE W σ) := by
      funext zs H2
      simp
    rw [e] at h3
    exact h3
  refine PySem.W.callWith_KW0 (h₀ := X.base) I.ok.mod.kin hk hall (thn (hq.pk.run pos pins s σ H _ I h4) fun ws s2 ⟨zs, H2, I2, rz, l2, q2⟩ => ⟨I2.kIn, ?_⟩) hpl
  rw [hks]
  exact run_fnQ (us := []) tk F hr hb I2 .nil rz rfl (by rw [← rz.length, l2, hl2]) q2
/-- f() -/
theorem je_call0 (tk : Takes X W) (F : FnG X.prog X.w X.K X.mg X.base k fa fd ps (spF X.K 0 f)) (hr : RoomG k X.A) (hm : X.mg x = some (.ref fa)) (hk : PySem.W.keepIn X.K (.ref fa) = true) (hb : Binds X.K fd ps [])
    (hg : Gl X x := by rfl) (hdb : (x == ("__debug__" : Str)) = false := by decide) : JE X W io (.Call (.Name x p) [] [] pos) (mCall f []) := by
  refine ⟨⟨fun pins s σ H Q I h => ?_⟩⟩
  obtain ⟨P, F', ρ, S, h⟩ := h
  have h : ToE X.K W io P F' σ Q (match argsS ρ [] with
    | some args => if apart ρ [] then ofF ρ [] (f args) else .no
    | none => .no) := h
  refine wpAny_Call_Name_kw (ld_glob I hg hm ?_ hdb)
  exact PySem.W.callWith_K0 I.kIn hk (run_fnG (us := []) tk F hr hb I .nil (call_core (ps := []) (vs := []) rfl S trivial h))
end
/-! ### try -/
def goneR (i : Nat) : SR → SR
  | .nx ρ => .nx (ρ.set i none)
  | .bk ρ => .bk (ρ.set i none)
  | .ct ρ => .ct (ρ.set i none)
  | .rt r ρ => .rt r ρ
  | _ => .no
def coldR : SR → SR
  | .ex _ _ => .no
  | r => r
def sTryAs (tab : List (Str × Bool)) (i : Nat) (b su : Sm) : Sm := fun ρ => match b ρ with
  | .ex c ρ1 => match tab.lookup c with
    | some true => goneR i (su (ρ1.set i (some (.fz (.exo c)))))
    | some false => .ex c ρ1
    | none => .no
  | r => r
def sTry (tab : List (Str × Bool)) (b su : Sm) : Sm := fun ρ => match b ρ with
  | .ex c ρ1 => match tab.lookup c with
    | some true => coldR (su ρ1)
    | some false => .ex c ρ1
    | none => .no
  | r => r
def TabX (K : PySem.W.Frag) (cv : Value) (tab : List (Str × Bool)) : Prop := ∀ p ∈ tab, PySem.W.exmOne K (excV K p.1) cv = some p.2
theorem mem_of_lookup {α : Type} : ∀ {l : List (Str × α)} {x : Str} {v : α}, l.lookup x = some v → (x, v) ∈ l
  | [], x, v, h => by cases h
  | (y, w) :: l, x, v, h => by
    rw [List.lookup_cons] at h
    cases e : x == y with
    | true =>
      rw [e] at h
      cases h
      have e2 : x = y := by simpa using e
      rw [e2]
      exact List.mem_cons_self ..
    | false =>
      rw [e] at h
      exact List.mem_cons_of_mem _ (mem_of_lookup h)
section
variable {K : PySem.W.Frag} {io : Nat → Option Addr} {P F : Hp} {σ : L2.St} {H : Hp} {ρ : Env}
theorem St.gone (S : St K io P F ρ σ H) (i : Nat) : St K io P F (ρ.set i none) (σ.set i none) H := by
  refine S.sub (by simp [S.len]) fun j s h => ?_
  by_cases hj : i = j
  · subst hj
    have hl : i < (ρ.set i none).length := (List.getElem?_eq_some_iff.mp h).1
    rw [List.length_set] at hl
    rw [set_self hl] at h
    cases h
  · rw [set_other hj] at h
    exact ⟨h, fun v hv => by rw [set_other hj]; exact hv⟩
end
section
variable {X : Cx} {W : WX} {io : Nat → Option Addr} {x n : Str} {cv : Value} {i : Nat} {body suite : List Stmt} {b₀ : Stmt} {np pos pos' : Pos} {mb ms : Sm} {tab : List (Str × Bool)}
theorem js_tryAs (tk : Takes X W) (hN : X.N.Nodup) (hc : Names X x cv) (ht : TabX X.K cv tab)
    (hb : ∀ (W' : WX) (pn : List (Addr × Obj)) (xe : Value → Shared → Prop), Takes (X.tr pn xe) W' → PassesOwn (model X.prog X.w) X.A X.env xe → JSs (X.tr pn xe) W' io body mb)
    (hsu : ∀ (a : Addr) (pn : List (Addr × Obj)), JSs (suiteQ X a pn) w0 io (b₀ :: suite) ms)
    (hs : X.stack = X.env :: X.outer := by rfl) (hf : X.env.frame = some X.env.locals := by rfl) (hex : X.ex = [] := by rfl) (hi : X.N[i]? = some n := by rfl) (hln : X.env.kindOf n = some .local := by rfl) :
    JS X W io (.Try body [.ExceptHandler (some (.Name x np)) (some n) (b₀ :: suite) pos'] [] [] pos) (sTryAs tab i mb ms) := ⟨psi (ps_try_asQ (Wout := W) (tb := fun W' => tS X.K W' io mb) (ts := tS X.K w0 io ms) hs hf hex hN hi hln hc tk (fun W' pn xe h1 h2 => (hb W' pn xe h1 h2).ps) (fun a pn => (hsu a pn).ps)) fun D σ H h => by
  obtain ⟨P, F, ρ, S, h⟩ := h
  refine ⟨P, F, ρ, S, ?_⟩
  unfold sTryAs at h
  cases e : mb ρ with
  | nx ρ1 => rw [e] at h; exact h
  | rt r ρ1 => rw [e] at h; exact h
  | bk ρ1 => rw [e] at h; exact h
  | ct ρ1 => rw [e] at h; exact h
  | no => rw [e] at h; exact h
  | ex c ρ1 =>
    rw [e] at h
    have h : ToS X.K W io P F D (match tab.lookup c with
      | some true => goneR i (ms (ρ1.set i (some (.fz (.exo c)))))
      | some false => .ex c ρ1
      | none => .no) := h
    intro σ' H' F' s S'
    cases et : tab.lookup c with
    | none => rw [et] at h; exact h.elim
    | some b =>
      rw [et] at h
      have hx := ht _ (mem_of_lookup et)
      cases b with
      | false => exact ⟨false, hx, ⟨fun z => Bool.noConfusion z, fun _ => h σ' H' F' s S'⟩⟩
      | true =>
        refine ⟨true, hx, ⟨fun _ => ⟨rfl, fun a na => ?_⟩, fun z => Bool.noConfusion z⟩⟩
        have ex := Ext.froz (o := exoV (excV X.K c) a) S'.fh na
        have S2 := (S'.ext ex).store (i := i) (v := .ref a) (r := .fz (.exo c)) ⟨a, rfl, upd_same⟩
        refine ⟨P, _, _, S2, ?_⟩
        have h : ToS X.K W io P _ D (goneR i (ms (ρ1.set i (some (.fz (.exo c)))))) := ToS.up (s.trans ex.f) h
        cases em : ms (ρ1.set i (some (.fz (.exo c)))) with
        | nx ρ2 => rw [em] at h; exact fun σ3 H3 F3 s3 S3 => h _ H3 F3 s3 (S3.gone i)
        | bk ρ2 => rw [em] at h; exact fun σ3 H3 F3 s3 S3 => h _ H3 F3 s3 (S3.gone i)
        | ct ρ2 => rw [em] at h; exact fun σ3 H3 F3 s3 S3 => h _ H3 F3 s3 (S3.gone i)
        | rt r ρ2 => rw [em] at h; exact h
        | ex c2 ρ2 => rw [em] at h; exact h.elim
        | no => rw [em] at h; exact h.elim⟩
theorem js_try (tk : Takes X W) (hc : Names X x cv) (ht : TabX X.K cv tab)
    (hb : ∀ (W' : WX) (pn : List (Addr × Obj)) (xe : Value → Shared → Prop), Takes (X.tr pn xe) W' → PassesOwn (model X.prog X.w) X.A X.env xe → JSs (X.tr pn xe) W' io body mb)
    (hsu : ∀ (a : Addr) (pn : List (Addr × Obj)), JSs (X.suite a pn) w0 io (b₀ :: suite) ms)
    (hs : X.stack = X.env :: X.outer := by rfl) (hf : X.env.frame = some X.env.locals := by rfl) :
    JS X W io (.Try body [.ExceptHandler (some (.Name x np)) none (b₀ :: suite) pos'] [] [] pos) (sTry tab mb ms) := ⟨psi (ps_try_only (Wout := W) (tb := fun W' => tS X.K W' io mb) (ts := fun _ _ _ => tS X.K w0 io ms) hs hf hc tk (fun W' pn xe h1 h2 => (hb W' pn xe h1 h2).ps) (fun a oe cls d pn _ _ => (hsu a _).ps)) fun D σ H h => by
  obtain ⟨P, F, ρ, S, h⟩ := h
  refine ⟨P, F, ρ, S, ?_⟩
  unfold sTry at h
  cases e : mb ρ with
  | nx ρ1 => rw [e] at h; exact h
  | rt r ρ1 => rw [e] at h; exact h
  | bk ρ1 => rw [e] at h; exact h
  | ct ρ1 => rw [e] at h; exact h
  | no => rw [e] at h; exact h
  | ex c ρ1 =>
    rw [e] at h
    have h : ToS X.K W io P F D (match tab.lookup c with
      | some true => coldR (ms ρ1)
      | some false => .ex c ρ1
      | none => .no) := h
    intro σ' H' F' s S'
    cases et : tab.lookup c with
    | none => rw [et] at h; exact h.elim
    | some b =>
      rw [et] at h
      have hx := ht _ (mem_of_lookup et)
      cases b with
      | false => exact ⟨false, hx, ⟨fun z => Bool.noConfusion z, fun _ => h σ' H' F' s S'⟩⟩
      | true =>
        refine ⟨true, hx, ⟨fun _ a na => ?_, fun z => Bool.noConfusion z⟩⟩
        refine ⟨P, F', ρ1, S', ?_⟩
        have h : ToS X.K W io P F' D (coldR (ms ρ1)) := ToS.up s h
        cases em : ms ρ1 with
        | nx ρ2 => rw [em] at h; exact h
        | bk ρ2 => rw [em] at h; exact h
        | ct ρ2 => rw [em] at h; exact h
        | rt r ρ2 => rw [em] at h; exact h
        | ex c2 ρ2 => rw [em] at h; exact h.elim
        | no => rw [em] at h; exact h⟩
end
/-! ### isinstance of a caught exception -/
def isE (tab : List (Str × Bool)) : Op1 := fun d => match d with
  | .exo c => (tab.lookup c).map okB
  | _ => none
/-- a class by name: own or built-in -/
structure IsC (X : Cx) (e : Expr) (c : V) (cv : Value) : Prop where
  pe : PE X e (tC c)
  k : ClsV c cv
def TabE (K : PySem.W.Frag) (cv : Value) (tab : List (Str × Bool)) : Prop := ∀ p ∈ tab, ExcC K (He.ga K p.1) ∧ PySem.W.kitOne K (.ref (He.ga K p.1)) cv = some p.2
def TabEs (K : PySem.W.Frag) (cvs : List Value) (tab : List (Str × Bool)) : Prop := ∀ p ∈ tab, ExcC K (He.ga K p.1) ∧ PySem.W.kitAny K (.ref (He.ga K p.1)) cvs = some p.2
section
variable {X : Cx} {W : WX} {io : Nat → Option Addr} {e c : Expr} {o : Opd} {pos p p2 : Pos} {tab : List (Str × Bool)} {cv : Value} {vc : V}
theorem isC_own {x : Str} (hm : X.mg x = some (.ref (He.ga X.K x))) (hg : Gl X x := by rfl) (hd : (x == ("__debug__" : Str)) = false := by decide) : IsC X (.Name x pos) (.ref (He.ga X.K x)) (.ref (He.ga X.K x)) := ⟨pe_glob hg hm (v := .ref (He.ga X.K x)) rfl hd, .own _⟩
theorem isC_ty {x : Str} {T : String} (hm : X.mg x = none) (hv : bootBuiltins x = some (.type T)) (hg : Gl X x := by rfl) (hn : x ≠ "__name__" := by decide) (hd : (x == ("__debug__" : Str)) = false := by decide) : IsC X (.Name x pos) (.ty T) (.type T) := ⟨pe_bltn hg hm hv (v := .ty T) rfl hn hd, .ty T⟩
theorem je_isE (hm : X.mg "isinstance" = none) (ho : JO X W io e o) (hT : IsC X c vc cv) (ht : TabE X.K cv tab) (hg : Gl X "isinstance" := by rfl)
    (h1 : starEach [e, c] X.env = (false, eval e X.env) :: starEach [c] X.env := by rfl) (h2 : starEach [c] X.env = (false, eval c X.env) :: starEach [] X.env := by rfl) (hpl : (backTo pos (starEach [c] X.env)).any (·.1) = false := by rfl) :
    JE X W io (.Call (.Name "isinstance" p) [e, c] [] pos) (mOp1 (isE tab) o) := by
  refine ⟨pei (pe_callB call_isQ hg hm (by decide +kernel) (pa_cons ho.pe (pa_cons hT.pe pa_nil h2) h1) (by decide) (by decide) h1 hpl) fun σ H Q h => ?_⟩
  obtain ⟨P, F, ρ, S, h⟩ := h
  obtain ⟨hc, h⟩ := toE_if h
  refine tO_bind S h (fun _ _ _ _ => trivial) (fun p ρ1 v H1 F1 s1 S1 R1 h1 => ?_) (okV_v S hc)
  obtain ⟨z, e, h3⟩ := mk_some h1
  unfold get1 at e
  cases e1 : p.get ρ1 with
  | none => rw [e1] at e; cases e
  | some dx =>
    rw [e1] at e
    cases dx <;> first | (cases e; done) | skip
    rename_i cc
    obtain ⟨b, eb, ez⟩ := Option.map_eq_some_iff.mp (show (tab.lookup cc).map okB = some z from e)
    subst ez
    obtain ⟨hx, hk⟩ := ht _ (mem_of_lookup eb)
    rcases R1.pk S1 e1 with q | ⟨xs, a, vs, r1, _⟩
    · obtain ⟨a, rfl, ha⟩ := q
      exact ⟨a, _, vc, cv, b, rfl, S1.fh _ _ ha, hx, fun u r => hT.k.eq r, hk, (h3.want S1).fz S1.fh rfl⟩
    · cases r1
def IsCs (X : Cx) : List Expr → List V → List Value → Prop
  | [], [], [] => True
  | e :: es, c :: cs, v :: vs => IsC X e c v ∧ starEach (e :: es) X.env = (false, eval e X.env) :: starEach es X.env ∧ IsCs X es cs vs
  | _, _, _ => False
theorem iscs_nil : IsCs X [] [] [] := trivial
theorem iscs_cons {es : List Expr} {cs : List V} {vs : List Value} (h : IsC X e vc cv) (r : IsCs X es cs vs) (hs : starEach (e :: es) X.env = (false, eval e X.env) :: starEach es X.env := by rfl) : IsCs X (e :: es) (vc :: cs) (cv :: vs) := ⟨h, hs, r⟩
def tCs : List V → TA
  | [] => tNil
  | c :: cs => tCons (tC c) (tCs cs)
theorem IsCs.pa : ∀ {es : List Expr} {cs : List V} {vs : List Value}, IsCs X es cs vs → PA X es (tCs cs)
  | [], [], [], _ => pa_nil
  | _ :: _, _ :: _, _ :: _, ⟨h, hs, r⟩ => pa_cons h.pe r.pa hs
  | [], [], _ :: _, h => h.elim
  | [], _ :: _, _, h => h.elim
  | _ :: _, [], _, h => h.elim
  | _ :: _, _ :: _, [], h => h.elim
theorem IsCs.cl : ∀ {es : List Expr} {cs : List V} {vs : List Value}, IsCs X es cs vs → Paired ClsV cs vs ∧ cs.length = es.length
  | [], [], [], _ => ⟨.nil, rfl⟩
  | _ :: _, _ :: _, _ :: _, ⟨h, hs, r⟩ => ⟨.cons h.k r.cl.1, congrArg Nat.succ r.cl.2⟩
  | [], [], _ :: _, h => h.elim
  | [], _ :: _, _, h => h.elim
  | _ :: _, [], _, h => h.elim
  | _ :: _, _ :: _, [], h => h.elim
theorem tCs_run : ∀ (cs : List V) {σ : L2.St} {H : Hp} {Q : List V → Hp → Prop}, Q cs H → tCs cs σ H Q
  | [], _, _, _, q => q
  | _ :: cs, _, _, _, q => tCs_run cs q
theorem je_isET {es : List Expr} {k : Nat} {cs : List V} {vs : List Value} (hm : X.mg "isinstance" = none) (ho : JO X W io e o) (hT : IsCs X es cs vs) (ht : TabEs X.K vs tab) (hl : es.length ≤ 100 := by decide) (hg : Gl X "isinstance" := by rfl)
    (h1 : starEach [e, .Tuple es k p2] X.env = (false, eval e X.env) :: starEach [.Tuple es k p2] X.env := by rfl) (h2 : starEach [.Tuple es k p2] X.env = (false, eval (.Tuple es k p2) X.env) :: starEach [] X.env := by rfl) (hpl : (backTo pos (starEach [.Tuple es k p2] X.env)).any (·.1) = false := by rfl) :
    JE X W io (.Call (.Name "isinstance" p) [e, .Tuple es k p2] [] pos) (mOp1 (isE tab) o) := by
  refine ⟨pei (pe_callB call_isQT hg hm (by decide +kernel) (pa_cons ho.pe (pa_cons (pe_tup hT.pa) pa_nil h2) h1) (by decide) (by decide) h1 hpl) fun σ H Q h => ?_⟩
  obtain ⟨P, F, ρ, S, h⟩ := h
  obtain ⟨hc, h⟩ := toE_if h
  refine tO_bind S h (fun _ _ _ _ => trivial) (fun p ρ1 v H1 F1 s1 S1 R1 h1 => ?_) (okV_v S hc)
  obtain ⟨z, e, h3⟩ := mk_some h1
  unfold get1 at e
  cases e1 : p.get ρ1 with
  | none => rw [e1] at e; cases e
  | some dx =>
    rw [e1] at e
    cases dx <;> first | (cases e; done) | skip
    rename_i cc
    obtain ⟨b, eb, ez⟩ := Option.map_eq_some_iff.mp (show (tab.lookup cc).map okB = some z from e)
    subst ez
    obtain ⟨hx, hk⟩ := ht _ (mem_of_lookup eb)
    rcases R1.pk S1 e1 with q | ⟨xs, a, vs, r1, _⟩
    · obtain ⟨a, rfl, ha⟩ := q
      refine tCs_run cs ⟨by rw [hT.cl.2, sizeLine_eq]; omega, fun n hq => ?_⟩
      have ex := Ext.laid (o := .tup cs) S1.fh hq
      exact ⟨a, _, n, cs, vs, b, rfl, ex.h _ _ (S1.fh _ _ ha), hx, upd_same, hT.cl.1, hk, (h3.want S1) _ _ _ ex rfl⟩
    · cases r1
end
end Mi

namespace Mi
open PySem PySem.Spec PyProof.Rows L2

/-! ### t[::-1], t a tuple -/
section
variable {prog : Program} {w : World} {A : Around} {E : Value → Shared → Prop} {s : Shared}
theorem fmc {α β : Type} {f g : α → Option β} : ∀ {l : List α}, (∀ x ∈ l, f x = g x) → l.filterMap f = l.filterMap g
  | [], _ => rfl
  | a :: l, h => by
    rw [List.filterMap_cons, List.filterMap_cons, h a (List.mem_cons_self ..), fmc fun x hx => h x (List.mem_cons_of_mem _ hx)]
open HT in
theorem rev_pick (xs : Array Value) : ((List.range xs.size).filterMap fun (m : Nat) => xs[(((xs.size : Int) - 1) + (m : Int) * (-1)).toNat]?).toArray = xs.toList.reverse.toArray := by
  rw [← PySem.W.krv_pick xs]
  unfold slicePick
  rw [PySem.W.krv_bounds]
  show _ = ((sliceRange ((xs.size : Int) - 1) (-1) (-1)).filterMap (xs[·]?)).toArray
  rw [PySem.W.krv_sliceRange, List.filterMap_map]
  congr 1
  refine fmc fun k hk => ?_
  have := List.mem_range.mp hk
  show xs[(((xs.size : Int) - 1) + (k : Int) * (-1)).toNat]? = xs[xs.size - 1 - k]?
  congr 1
  omega
open HT in
theorem getItem_tuple_rev {t sl : Addr} {items : Array Value} {vs : Value} {Q : Value → Shared → Prop} (ht : IsTup s.heap t items) (hs : s.heap.IsSliceOf sl .none .none vs) (ps : IsPart vs (some (-1)))
    (h : Q (.ref s.heap.objs.size) { s with heap := s.heap.push { cls := .type "tuple", data := .seq items.toList.reverse.toArray } })
    (hsz : items.size ≤ sizeLine) : wpAny (model prog w) A (getItem (.ref t) (.ref sl)) Q E s := by
  have htake : sizeOk (.seq items.toList.reverse.toArray) := by
    show items.toList.reverse.toArray.size ≤ sizeLine
    rw [List.size_toArray, List.length_reverse, Array.length_toList]
    exact hsz
  obtain ⟨os, hos, hcs, hds⟩ := id hs
  have hTs : s.TypeIs (.ref sl) "slice" := ⟨os, hos, hcs⟩
  unfold getItem
  try with_reducible refine wpAny_holding ?_
  first | refine wpAny_bind (wpAny_pure ?_) | skip
  refine wpAny_bind (wpAny_sequenceKey ht.typeIs (by decide) ?_)
  refine wpAny_bind (wpAny_callSpecial?_slot (name := Str.ofString "__getitem__") ht.typeIs PyProof.Rows.slot_tuple_getitem
    (wpAny_call_entry PyProof.Rows.slot_tuple_getitem ht.typeIs entry_tuple_getitem ?_ (args_tuple_getitem _ _)))
  show wpAny _ _ (Builtin.Tuple.tupleItemsOf (.ref t) >>= _) _ _ s
  refine wpAny_bind (tupleItemsOf_ ht ?_)
  refine wpAny_bind (wpAny_typeOf hTs ?_)
  rw [if_pos (by decide)]
  have ap : ∀ {Q : Int × Int × Nat → Shared → Prop} {A : Around} {E : Value → Shared → Prop}, Q ((items.size : Int) - 1, -1, items.size) s → wpAny (model prog w) A (Builtin.Slice.sliceApplied (.ref sl) (pure (items.size : Int))) Q E s := by
    intro Q A E h
    unfold Builtin.Slice.sliceApplied Builtin.Slice.sliceFields
    refine wpAny_bind (wpAny_bind (wpAny_field hos hds (x := .none) rfl (wpAny_bind (wpAny_field hos hds (x := .none) rfl (wpAny_bind (wpAny_field hos hds (x := vs) rfl (wpAny_pure ?_)))))))
    refine wpAny_bind (slicePart_ ps ?_)
    show wpAny _ _ (if ((-1 : Int) == 0) = true then _ else _) _ _ s
    rw [if_neg (by decide)]
    refine wpAny_bind (slicePart_none (wpAny_bind (slicePart_none (wpAny_bind (wpAny_pure ?_)))))
    show wpAny _ _ (pure ((items.size : Int) - 1, (-1 : Int), Builtin.Slice.slicePlaces ((items.size : Int) - 1) (-1) (-1))) _ _ s
    have e : Builtin.Slice.slicePlaces ((items.size : Int) - 1) (-1) (-1) = items.size := by
      unfold Builtin.Slice.slicePlaces
      have h1 : ¬ ((-1 : Int) > 0) := by decide
      simp only [h1, if_false]
      by_cases h : (items.size : Int) - 1 > -1
      · have e : ((items.size : Int) - 1 - -1 - 1) / (- -1) + 1 = (items.size : Int) := by
          rw [show (- -1 : Int) = 1 by decide, Int.ediv_one]
          omega
        simp only [h, if_true, e, Int.toNat_natCast]
      · simp only [h, if_false]
        omega
    rw [e]
    exact wpAny_pure h
  refine wpAny_bind (ap ?_)
  have hno : ¬ ((((items.size : Int) - 1) == 0 && (-1 : Int) == 1 && items.size == items.size) = true) := by
    intro q
    rw [Bool.and_eq_true, Bool.and_eq_true] at q
    exact absurd q.1.2 (by decide)
  show wpAny _ _ (if (((items.size : Int) - 1) == 0 && (-1 : Int) == 1 && items.size == items.size) = true then _ else _) _ _ s
  rw [if_neg hno, rev_pick]
  first
    | exact wpAny_bind (m := Builtin.Tuple.tupleExact _) (wpAny_newObj_type (wpAny_pure ⟨_, rfl, wpAny_pure h⟩) htake)
    | exact wpAny_bind (m := Builtin.Tuple.tupleExact _) (wpAny_newObj_type (wpAny_bind (wpAny_pure (wpAny_pure ⟨_, rfl, wpAny_pure h⟩))) htake)
    | exact wpAny_bind (wpAny_bind (m := Builtin.Tuple.tupleExact _) (wpAny_newObj_type (wpAny_pure (wpAny_pure ⟨_, rfl, wpAny_pure h⟩)) htake))
    | exact wpAny_bind (wpAny_bind (m := Builtin.Tuple.tupleExact _) (wpAny_newObj_type (wpAny_pure ⟨_, rfl, wpAny_pure h⟩) htake))
end
section
variable {X : Cx} {W : WX} {io : Nat → Option Addr}
def rRev (K : PySem.W.Frag) : V → Hp → VK → Prop := fun x H Q => (∃ a xs, x = .ref a ∧ SqL K H a xs ∧ ∀ p, H p = none → Q (.ref p) (upd H p (.lst xs.reverse))) ∨ (∃ a xs, x = .ref a ∧ SqT K H a xs ∧ ∀ p, H p = none → Q (.ref p) (upd H p (.tup xs.reverse)))
theorem pe_revA {e : Expr} {te : TE} {k : Nat} {p1 p2 p3 pos : Pos} (he : PE X e te) : PE X (.Subscript e (.Slice none none (some (.UnaryOp .USub (.Constant (.int 1) k p1) p2)) p3) pos) (tUn (rRev X.K) te) := by
  refine ⟨fun pins s σ H Q I h => ?_⟩
  refine Subscript_ (thn (he.run pins s σ H _ I h) fun v s1 ⟨x, H1, I1, r1, q1⟩ => ?_)
  have hst : PO X (some (.UnaryOp .USub (.Constant (.int 1) k p1) p2)) (tPart (tUn (rU fun i => .int (-i)) (tC (.int 1)))) := po_some (pe_un un_neg pe_int)
  refine wpAny_Slice (thn (po_none.run pins s1 σ H1 (fun o H2 => o = none ∧ H2 = H1) I1 ⟨rfl, rfl⟩) fun vl s2 ⟨l, H2, I2, pl, el, e2⟩ => ?_)
  subst el e2
  refine thn (po_none.run pins s2 σ H2 (fun o H3 => o = none ∧ H3 = H2) I2 ⟨rfl, rfl⟩) fun vu s3 ⟨u, H3, I3, pu, eu, e3⟩ => ?_
  subst eu e3
  refine thn (hst.run pins s3 σ H3 (fun o H4 => o = some (-1) ∧ H4 = H3) I3 ⟨1, rfl, -1, rfl, rfl, rfl⟩) fun vs s4 ⟨o, H4, I4, ps, eo, e4⟩ => ?_
  subst eo e4
  have I5 : Inv X pins σ H4 { s4 with heap := s4.heap.push { cls := .type "slice", data := .fields #[vl, vu, vs] } } := I4.kept (t' := s4.toks) fun b ob q => Heap.get?_push_of_some _ q
  rcases q1 with ⟨a, xs, ex, hx, q⟩ | ⟨a, xs, ex, hx, q⟩
  · subst ex
    cases r1
    obtain ⟨its, r, ht, hz⟩ := I5.list hx
    have hlen := r.length
    show wpAny (model X.prog X.w) X.A (subscriptTail e (.Slice none none (some (.UnaryOp .USub (.Constant (.int 1) k p1) p2)) p3) (.ref a) (.ref s4.heap.objs.size)) (EP X pins σ Q) X.xe { s4 with heap := s4.heap.push { cls := .type "slice", data := .fields #[vl, vu, vs] } }
    refine tail_any (ops := [.ref a, .ref s4.heap.objs.size]) ht.isList.typeIs (PySem.slot_list_getitem.lookup) ?_ (by with_unfolding_all rfl)
    refine wpAny_getItem_list_slice ht.isList (Heap.IsSliceOf.new _ vl vu vs) pl pu ps (by decide) ?_ (by rw [List.size_toArray]; omega)
    rw [PySem.W.krv_pick]
    refine ⟨.ref _, _, I5.laid (t' := s4.toks) (o := .lst xs.reverse) (fun b ob q => Heap.get?_push_of_some _ q) (Nat.le_refl _) ?_, rfl, q _ (I5.hok.fresh (Nat.le_refl _))⟩
    exact ⟨by rw [List.length_reverse]; exact hz, _, 0, r.reverse, Heap.get?_push_size _ rfl⟩
  · subst ex
    cases r1
    obtain ⟨its, r, ht, hz⟩ := I5.tuple hx
    have hlen := r.length
    cases pl
    cases pu
    show wpAny (model X.prog X.w) X.A (subscriptTail e (.Slice none none (some (.UnaryOp .USub (.Constant (.int 1) k p1) p2)) p3) (.ref a) (.ref s4.heap.objs.size)) (EP X pins σ Q) X.xe { s4 with heap := s4.heap.push { cls := .type "slice", data := .fields #[.none, .none, vs] } }
    have ht' : IsTup (s4.heap.push { cls := .type "slice", data := .fields #[.none, .none, vs] }) a its.toArray := ht
    refine tail_any (ops := [.ref a, .ref s4.heap.objs.size]) (s := { s4 with heap := s4.heap.push { cls := .type "slice", data := .fields #[.none, .none, vs] } }) ht'.typeIs (PyProof.Rows.slot_tuple_getitem.lookup) ?_ (by with_unfolding_all rfl)
    refine getItem_tuple_rev ht' (Heap.IsSliceOf.new _ .none .none vs) ps ?_ (by rw [List.size_toArray]; omega)
    have hl : its.toArray.toList.reverse.toArray = its.reverse.toArray := by simp
    rw [hl]
    refine ⟨.ref _, _, I5.laid (t' := s4.toks) (o := .tup xs.reverse) (fun b ob q => Heap.get?_push_of_some _ q) (Nat.le_refl _) ?_, rfl, q _ (I5.hok.fresh (Nat.le_refl _))⟩
    exact ⟨by rw [List.length_reverse]; exact hz, _, r.reverse, ⟨_, Heap.get?_push_size _ rfl, rfl, _, rfl⟩⟩
def revD : Op1
  | .lst xs => some (.ow xs.reverse)
  | .tup xs => some (.fz (.tup xs.reverse))
  | _ => none
theorem ok_rev : Op1Ok X.K (rRev X.K) revD := by
  intro F H x dx z Q e q h w
  cases dx <;> first | (simp [revD] at h; done) | skip
  · obtain ⟨a, vs, rfl, h1, h2⟩ := q.tup
    cases h
    exact .inr ⟨a, vs, rfl, same_seqT e h1, fun p hp => w.tup e hp h2.reverse⟩
  · obtain ⟨a, vs, rfl, h1, h2⟩ := q.lst e
    cases h
    exact .inl ⟨a, vs, rfl, .inl (.inl h1), fun p hp => w.lst e hp h2.reverse⟩
theorem je_rev {e : Expr} {o : Opd} {k : Nat} {p1 p2 p3 pos : Pos} (h : JO X W io e o) : JE X W io (.Subscript e (.Slice none none (some (.UnaryOp .USub (.Constant (.int 1) k p1) p2)) p3) pos) (mOp1 revD o) := ⟨pei (pe_revA h.pe) fun _ _ _ h => op1_core ok_rev h⟩
/-- {} -/
theorem je_dic0 {pos : Pos} : JE X W io (.Dict [] [] pos) (mC (.dic [])) := ⟨pei pe_dnewK fun σ H Q h => by
  obtain ⟨P, F, ρ, S, h⟩ := h
  intro p hp
  have ex := Ext.froz (o := .dK []) S.fh hp
  exact h (.ref p) _ _ ex.f (S.ext ex) ⟨p, [], rfl, upd_same, rfl⟩⟩
end
end Mi

namespace Mi
open PySem PySem.Spec PyProof.Rows L2

/-! ### a def by its name -/
structure FnK (P : Program) (w : World) (K : PySem.W.Frag) (mg : Str → Option Value) (base : Heap) (k n : Nat) (x : Str) (ps : List Str) (kws : List (Nat × List Str × List Nat)) (f : Fn) : Prop where
  ex : ∃ fd, (∃ oc od osl, K.lookup (He.ga K x) = some ⟨oc, od, .func fd, osl⟩) ∧ FnG P w K mg base k (He.ga K x) fd ps (spF K n f) ∧ Binds K fd ps [] ∧ ∀ q ∈ kws, KB fd ps q.2.1 q.1 q.2.2
  g : mg x = some (.ref (He.ga K x))
  kp : PySem.W.keepIn K (.ref (He.ga K x)) = true
section
variable {P : Program} {w : World} {K : PySem.W.Frag} {mg : Str → Option Value} {base : Heap} {x qual : Str} {params : Arguments} {body : List Stmt} {scope : Scope} {kv : List (Str × V)} {fd : FuncData} {N ps : List Str} {m : Sm} {kws : List (Nat × List Str × List Nat)} {lev : Nat}
theorem fnK_of (F : FunD K x qual params body scope [] kv (He.ga K x) fd) (g : mg x = some (.ref (He.ga K x))) (S : FnScope N ps scope) {n k : Nat} (hn : ps.length = n) (hk : N.length = n + k) (hb : Binds K fd ps []) (hq : ∀ q ∈ kws, KB fd ps q.2.1 q.1 q.2.2)
    (h : ∀ (cdv : Value) (A : Around) (outer : List PySem.Env) (s : Shared) (H : Hp) (E : XK) (io : Nat → Option Addr), RoomG lev (A.deeper (envOfC qual scope s.heap.objs.size (He.ga K x) cdv)) → JSs (bx P w K mg base N qual scope (He.ga K x) cdv A outer s H E) (wx E) io body m) :
    FnK P w K mg base (lev + 1) n x ps kws (mkFn n k m) := by
  refine ⟨⟨fd, ?_, fn_ok F S hn hk h, hb, hq⟩, g, F.kp⟩
  obtain ⟨oc, od, dV, kV, doc, pm, an, cdv, ct, osl, rfl, lk, _⟩ := F.ex
  exact ⟨oc, od, osl, lk⟩
theorem fnK_none {n : Nat} (d : ∃ fd, FunD K x qual params body scope [] kv (He.ga K x) fd) (g : mg x = some (.ref (He.ga K x))) (hn : ps.length = n) (hb : ∀ fd, FunD K x qual params body scope [] kv (He.ga K x) fd → Binds K fd ps []) (hq : ∀ fd, FunD K x qual params body scope [] kv (He.ga K x) fd → ∀ q ∈ kws, KB fd ps q.2.1 q.1 q.2.2) :
    FnK P w K mg base lev n x ps kws (fun _ => .no) := by
  obtain ⟨fd, F⟩ := d
  refine ⟨⟨fd, ?_, ⟨fun vs H Q E h => by rw [hn]; exact h.1, fun A outer s H args us vs Q E hr he hB hv h => ?_⟩, hb fd F, hq fd F⟩, g, F.kp⟩
  · obtain ⟨oc, od, dV, kV, doc, pm, an, cdv, ct, osl, rfl, lk, _⟩ := F.ex
    exact ⟨oc, od, osl, lk⟩
  · obtain ⟨_, P', F', args, S, h⟩ := h
    exact h.elim
theorem bx_passes {f : Addr} {cdv : Value} {A : Around} {outer : List PySem.Env} {s : Shared} {H : Hp} {E : XK} : PassesOwn (model (bx P w K mg base N qual scope f cdv A outer s H E).prog (bx P w K mg base N qual scope f cdv A outer s H E).w) (bx P w K mg base N qual scope f cdv A outer s H E).A (bx P w K mg base N qual scope f cdv A outer s H E).env (bx P w K mg base N qual scope f cdv A outer s H E).xe := passes_of rfl
end
theorem u64 {lev : Nat} {A : Around} (h : RoomG lev A) : A.units + 64 < cLine := by
  have := h.room.un
  omega
theorem u65 {lev : Nat} {A : Around} (h : RoomG lev A) : A.units + 65 < cLine := by
  have := h.room.un
  omega
section
variable {X : Cx} {W : WX} {io : Nat → Option Addr} {k n lev : Nat} {ps ks : List Str} {kws : List (Nat × List Str × List Nat)} {f : Fn} {x : Str} {p pos : Pos} {e : Expr} {es : List Expr} {os qs : List Opd} {pm : List Nat} {kw : List Keyword}
theorem je_callF (tk : Takes X W) (F : FnK X.prog X.w X.K X.mg X.base k n x ps kws f) (hr : RoomG lev X.A) (hk : k ≤ lev) (ho : JOs X W io (e :: es) os) (hl : os.length = n)
    (hg : Gl X x := by rfl) (hdb : (x == ("__debug__" : Str)) = false := by decide) (he : starEach (e :: es) X.env = (false, eval e X.env) :: starEach es X.env := by rfl) (hpl : (backTo pos (starEach es X.env)).any (·.1) = false := by rfl) :
    JE X W io (.Call (.Name x p) (e :: es) [] pos) (mCall f os) := by
  obtain ⟨fd, _, F1, hb, _⟩ := F.ex
  exact je_call tk F1 (hr.mono hk) F.g F.kp hb ho hl hg hdb he hpl
theorem je_callF0 (tk : Takes X W) (F : FnK X.prog X.w X.K X.mg X.base k 0 x ps kws f) (hr : RoomG lev X.A) (hk : k ≤ lev) (hg : Gl X x := by rfl) (hdb : (x == ("__debug__" : Str)) = false := by decide) : JE X W io (.Call (.Name x p) [] [] pos) (mCall f []) := by
  obtain ⟨fd, _, F1, hb, _⟩ := F.ex
  exact je_call0 tk F1 (hr.mono hk) F.g F.kp hb hg hdb
theorem je_callFK (tk : Takes X W) (F : FnK X.prog X.w X.K X.mg X.base k n x ps kws f) (hr : RoomG lev X.A) (hk : k ≤ lev) (j : Nat) (ho : JOs X W io (e :: es) os) (hq : JKs X W io kw qs) (hj : kws[j]? = some (os.length, ks, pm)) (hl : (permL pm (List.replicate (os.length + qs.length) 0)).length = n) (hl2 : qs.length = ks.length := by rfl)
    (hall : (backToKw pos (keywordEach kw X.env)).all (·.1.isSome) = true := by rfl) (hks : (backToKw pos (keywordEach kw X.env)).filterMap (·.1) = ks := by rfl)
    (hg : Gl X x := by rfl) (hdb : (x == ("__debug__" : Str)) = false := by decide) (he : starEach (e :: es) X.env = (false, eval e X.env) :: starEach es X.env := by rfl)
    (hpl : ((backTo pos (starEach (e :: es) X.env)).any (·.1) || (backToKw pos (keywordEach kw X.env)).any (·.1.isNone)) = false := by rfl) :
    JE X W io (.Call (.Name x p) (e :: es) kw pos) (mCallK f pm os qs) := by
  obtain ⟨fd, _, F1, _, hb⟩ := F.ex
  exact je_callK tk F1 (hr.mono hk) F.g F.kp (hb _ (List.mem_of_getElem? hj)) ho hq (fun l h => (permL_len (by rw [h, List.length_replicate]) pm).trans hl) hl2 hall hks hg hdb he hpl
theorem je_callFK0 (tk : Takes X W) (F : FnK X.prog X.w X.K X.mg X.base k n x ps kws f) (hr : RoomG lev X.A) (hk : k ≤ lev) (j : Nat) (hq : JKs X W io kw qs) (hj : kws[j]? = some (0, ks, pm)) (hl : (permL pm (List.replicate qs.length 0)).length = n) (hl2 : qs.length = ks.length := by rfl)
    (hall : (backToKw pos (keywordEach kw X.env)).all (·.1.isSome) = true := by rfl) (hks : (backToKw pos (keywordEach kw X.env)).filterMap (·.1) = ks := by rfl)
    (hg : Gl X x := by rfl) (hdb : (x == ("__debug__" : Str)) = false := by decide)
    (hpl : ((backTo pos (starEach [] X.env)).any (·.1) || (backToKw pos (keywordEach kw X.env)).any (·.1.isNone)) = false := by rfl) :
    JE X W io (.Call (.Name x p) [] kw pos) (mCallK f pm [] qs) := by
  obtain ⟨fd, _, F1, _, hb⟩ := F.ex
  exact je_callK0 tk F1 (hr.mono hk) F.g F.kp (hb _ (List.mem_of_getElem? hj)) hq (fun l h => (permL_len (by rw [h, List.length_replicate]) pm).trans hl) hl2 hall hks hg hdb hpl
end
/-! ### x, y, z = a, b, c -/
section
variable {X : Cx} {W : WX} {io : Nat → Option Addr} {a b c : Expr} {ma mb mc : Ex} {pos : Pos}
theorem js_par3 {i j l : Nat} {x y z : Str} {px py pz pt : Pos} {kt k2 : Nat} {pt2 : Pos} (hc : X.calm = true) (hN : X.N.Nodup) (ha : JE X W io a ma) (hb : JE X W io b mb) (hd : JE X W io c mc) (hi : X.N[i]? = some x := by rfl) (hj : X.N[j]? = some y := by rfl) (hl : X.N[l]? = some z := by rfl)
    (hij : i ≠ j := by decide) (hil : i ≠ l := by decide) (hjl : j ≠ l := by decide)
    (hx : X.env.scope.names.lookup x = some .local := by rfl) (hy : X.env.scope.names.lookup y = some .local := by rfl) (hz : X.env.scope.names.lookup z = some .local := by rfl)
    (h1 : starEach [a, b, c] X.env = (false, eval a X.env) :: starEach [b, c] X.env := by rfl) (h2 : starEach [b, c] X.env = (false, eval b X.env) :: starEach [c] X.env := by rfl) (h3 : starEach [c] X.env = (false, eval c X.env) :: starEach [] X.env := by rfl)
    (hw : swappedStores [.Tuple [.Name x px, .Name y py, .Name z pz] kt pt] (.Tuple [a, b, c] k2 pt2) X.env = pure (some [x, y, z]) := by rfl)
    (hs : swapsWithSole [.Tuple [.Name x px, .Name y py, .Name z pz] kt pt] (.Tuple [a, b, c] k2 pt2) pos.line X.env = pure false := by rfl) :
    JS X W io (.Assign [.Tuple [.Name x px, .Name y py, .Name z pz] kt pt] (.Tuple [a, b, c] k2 pt2) pos) (sPar3 i j l ma mb mc) := ⟨psi (ps_par3 hc hN hi hj hl hij hil hjl hx hy hz (pa_cons ha.pe (pa_cons hb.pe (pa_cons hd.pe pa_nil h3) h2) h1) hw hs) fun D σ H h => by
  obtain ⟨P, F, ρ, S, h⟩ := h
  refine tJ_toS S h fun r ρ1 v H1 F1 s S1 R1 h1 => ?_
  obtain ⟨e1, S1'⟩ := S1.hold R1
  refine tJ_toSP S1' e1 h1 fun t ρ2 u H2 F2 s2 S2 R2 h2 => ?_
  have Rv := R1.kept s2 S2
  have key := held_eq R1 S2
  obtain ⟨e2, S2'⟩ := S2.hold R2
  refine tJ_toSP S2' (e1.trans e2) h2 fun q ρ3 y3 H3 F3 s3 S3 R3 h3 => ?_
  refine ⟨v, u, y3, rfl, ?_⟩
  have Ru := R2.kept s3 S3
  have key2 := held_eq R2 S3
  -- all three stand at H3
  have S3a : St X.K io (held P H1 v r) F3 ρ3 σ H3 := S3.lessP e2
  have Rv3 : Rel X.K P F3 ρ3 σ H3 v r := R1.kept (s2.trans s3) S3a
  have key3 := held_eq R1 S3a
  have S3b : St X.K io P F3 ρ3 σ H3 := S3a.lessP e1
  refine h3 _ H3 F3 (Same.refl _) ?_
  have T1 : St X.K io P F3 ((ρ3.set i (some r)).set j (some t)) ((σ.set i (some v)).set j (some u)) H3 := S3b.store2 (i := i) (j := j) Rv3 (by rw [key3]; exact Ru) (by rw [key3]; exact S3a) hij
  refine T1.store (i := l) ?_
  cases q with
  | fz d => exact R3
  | io xs => exact R3
  | ow xs =>
    obtain ⟨a3, vs3, rfl, g2, g3, g4, g5, g6⟩ := R3
    refine ⟨a3, vs3, rfl, g2, g3, g4, (e1.trans e2).free g5, fun m ys o e => ?_⟩
    by_cases hmj : m = j
    · subst hmj
      by_cases hlen : m < ρ3.length
      · have hl1 : m < (ρ3.set i (some r)).length := by simpa using hlen
        have et : t = .ow ys := by
          rcases o with o | o
          · rw [set_self hl1] at o; cases o; rfl
          · rw [set_self hl1] at o; cases o; exact Ru.elim
        subst et
        obtain ⟨b, us, rfl, k2, _⟩ := Ru
        rw [set_self (by rw [List.length_set, ← S3b.len]; exact hlen)] at e
        cases e
        have hz : held (held P H1 v r) H2 (.ref a3) (.ow ys) a3 = H2 a3 := if_pos rfl
        have z2 := S3.ph a3
        rw [hz] at g5
        obtain ⟨b2, us2, e7, e8, _⟩ := R2
        cases e7
        rw [e8] at g5
        cases g5
      · rcases o with o | o
        · have := (List.getElem?_eq_some_iff.mp o).1
          simp at this
          exact hlen this
        · have := (List.getElem?_eq_some_iff.mp o).1
          simp at this
          exact hlen this
    · by_cases hmi : m = i
      · subst hmi
        by_cases hlen : m < ρ3.length
        · have er : r = .ow ys := by
            rcases o with o | o
            · rw [set_other (Ne.symm hmj), set_self hlen] at o; cases o; rfl
            · rw [set_other (Ne.symm hmj), set_self hlen] at o; cases o; exact Rv3.elim
          subst er
          rw [set_other (Ne.symm hmj)] at e
          obtain ⟨b2, us2, e7, e8, _⟩ := R1
          subst e7
          rw [set_self (by rw [← S3b.len]; exact hlen)] at e
          cases e
          have hz : held P H1 (.ref a3) (.ow ys) a3 = some (.lst us2) := (if_pos rfl).trans e8
          have := e2 a3 _ hz
          rw [this] at g5
          cases g5
        · rcases o with o | o
          · have := (List.getElem?_eq_some_iff.mp o).1
            simp at this
            exact hlen this
          · have := (List.getElem?_eq_some_iff.mp o).1
            simp at this
            exact hlen this
      · have o' : Own ρ3 m ys := by
          rcases o with o | o
          · rw [set_other (Ne.symm hmj), set_other (Ne.symm hmi)] at o; exact .inl o
          · rw [set_other (Ne.symm hmj), set_other (Ne.symm hmi)] at o; exact .inr o
        rw [set_other (Ne.symm hmj), set_other (Ne.symm hmi)] at e
        exact g6 m ys o' e⟩
end
/-! ### the head -/
inductive Qf where
  | exc (x : Str) | kit (x y : Str) (b : Bool) | kitT (x : Str) (T : String) (b : Bool) | kits (x : Str) (ys : List Str) (b : Bool)
def excB (K : PySem.W.Frag) (D : Addr) : Bool :=
  decide (PySem.W.findIn K (.ref D) "__getattribute__" = some (some (.builtin "BaseException.__getattribute__"))) && decide (PySem.W.findIn K (.ref D) "__getattr__" = some none) && decide (PySem.W.subIn K (.ref D) (.type "BaseException") = some true) && PySem.W.hasDictIn K D &&
  decide (PySem.W.findIn K (.ref D) "__class__" = some (some (.builtin "object.__class__"))) && decide (PySem.W.specialIn K (.builtin "object.__class__") "__get__" = some (some (.builtin "getset_descriptor.__get__"))) && decide (PySem.W.takesIn K (.builtin "object.__class__") = some true) && decide (PySem.W.mroIn K D (.type "object") = some true)
theorem excB_ok {K : PySem.W.Frag} {D : Addr} (h : excB K D = true) : ExcC K D := by
  unfold excB at h
  simp only [Bool.and_eq_true, decide_eq_true_eq] at h
  obtain ⟨⟨⟨⟨⟨⟨⟨h1, h2⟩, h3⟩, h4⟩, h5⟩, h6⟩, h7⟩, h8⟩ := h
  exact ⟨h1, h2, h3, h4, h5, h6, h7, h8⟩
def Qf.ok (K : PySem.W.Frag) : Qf → Bool
  | .exc x => excB K (He.ga K x)
  | .kit x y b => decide (PySem.W.kitOne K (.ref (He.ga K x)) (.ref (He.ga K y)) = some b)
  | .kitT x T b => decide (PySem.W.kitOne K (.ref (He.ga K x)) (.type T) = some b)
  | .kits x ys b => decide (PySem.W.kitAny K (.ref (He.ga K x)) (ys.map fun y => .ref (He.ga K y)) = some b)
section
variable {K : PySem.W.Frag} {x y : Str} {T : String} {ys : List Str} {b : Bool}
theorem Qf.exc_ok (h : (Qf.exc x).ok K = true) : ExcC K (He.ga K x) := excB_ok h
theorem Qf.kit_ok (h : (Qf.kit x y b).ok K = true) : PySem.W.kitOne K (.ref (He.ga K x)) (.ref (He.ga K y)) = some b := of_decide_eq_true h
theorem Qf.kitT_ok (h : (Qf.kitT x T b).ok K = true) : PySem.W.kitOne K (.ref (He.ga K x)) (.type T) = some b := of_decide_eq_true h
theorem Qf.kits_ok (h : (Qf.kits x ys b).ok K = true) : PySem.W.kitAny K (.ref (He.ga K x)) (ys.map fun y => .ref (He.ga K y)) = some b := of_decide_eq_true h
theorem qf_at {qf : List Qf} (e : (qf.all fun f => f.ok K) = true) (i : Nat) {f : Qf} (h : qf[i]? = some f) : f.ok K = true := List.all_eq_true.mp e f (List.mem_of_getElem? h)
theorem excF_of {h : Heap} {mg : Str → Option Value} (X : K.In h) (G : h.Ns mainGlobals mg) (c1 : (He.Fa.glo x).ok K = true) (c2 : (He.Fa.exc x).ok K = true) : ExcF K mg x := by
  obtain ⟨h1, h2, h3, h4⟩ := He.exc_ok c2
  exact ⟨He.glo_ok X G c1, h1, h2, h3, h4⟩
end
def obsQ (n : Nat) (fa : List He.Fa) (fn : List He.DefD) (qf : List Qf) (g : Addr → Option Obj) : He.AlD × Bool := (fun K : PySem.W.Frag => (He.obsD fa fn K, qf.all fun f => f.ok K)) (He.frG g (He.asD g n))
def hookQ (n : Nat) (fa : List He.Fa) (fn : List He.DefD) (qf : List Qf) : PySem.W.Hook where
  α := He.AlD × Bool
  obs := fun s => obsQ n fa fn qf s.heap.get?
  val := fun _ => (He.valD fn, true)
  says := fun _ h => ∃ K : PySem.W.Frag, K.In h ∧ He.SaysD fa fn K ∧ (qf.all fun f => f.ok K) = true
  of := fun _ _ e => ⟨_, He.frG_in, congrArg (fun z : He.AlD × Bool => z.1) e, congrArg (fun z : He.AlD × Bool => z.2) e⟩
  keeps := fun _ _ _ ⟨K, hK, c⟩ k => ⟨K, PySem.W.Frag.In.keeps hK k, c⟩
theorem obsQ_eq {n : Nat} {fa : List He.Fa} {fn : List He.DefD} {qf : List Qf} {g : Addr → Option Obj} {s : Shared} (h : ∀ a, g a = s.heap.get? a) : obsQ n fa fn qf g = (hookQ n fa fn qf).obs s := by
  have e : g = s.heap.get? := funext h
  rw [e] <;> rfl
/-! ### the end -/
theorem cx_none {P : Program} {w : World} {H : Hp} {s : Shared} {e : Value} {s' : Shared} (c : L2.CX P w [] H s (fun _ _ _ => False) e s') : False := by
  obtain ⟨_, _, _, _, _, _, _, _, _, _, _, _, z⟩ := c
  exact z
theorem FzL.ints {K : PySem.W.Frag} {F : Hp} : ∀ (ns : List Int), FzL K F (ns.map D.int) (ns.map V.int)
  | [] => rfl
  | n :: ns => ⟨.int n, ns.map V.int, rfl, rfl, FzL.ints ns⟩
/-- the law is called -/
theorem law_sp {K : PySem.W.Frag} {f : Fn} {H : Hp} {a : Addr} {ns : List Int} (hS : SqL K H a (ns.map V.int)) (h : ∃ o, f [.fz (.scr (ns.map .int))] = .ret (.fz (.bl true)) o) : spF K 1 f [.ref a] H (fun v _ => v = .bl true) fun _ _ _ => False := by
  obtain ⟨o, e⟩ := h
  refine ⟨rfl, fun _ => none, H, [.fz (.scr (ns.map .int))], ⟨Same.refl _, fun b o e => (nomatch (show (none : Option HO) = some o from e)), fun b o e => (nomatch (show (none : Option HO) = some o from e)), rfl, fun i d hi => ?_, fun i xs o => ?_, fun i xs b hi => ?_, fun i j xs ys b o => ?_⟩, ?_⟩
  · cases i with
    | zero =>
      cases hi
      exact ⟨.ref a, rfl, a, _, rfl, hS, FzL.ints ns⟩
    | succ i => simp at hi
  · rcases o with o | o <;> cases i <;> simp at o
  · cases i <;> simp at hi
  · rcases o with o | o <;> cases i <;> simp at o
  · rw [e]
    exact fun v H' F' s S r => r
/-- what is tracked at the law's call: the script, or nothing where the module owns it -/
theorem head_heap {P : Program} {w : World} {K : PySem.W.Frag} {a : Addr} {s : Shared} {vs : List Value} {ns : List Int} (inK : K.In s.heap) (ha : s.heap.get? a = some { cls := .type "list", data := .seq vs.toArray }) (hi : IntsAre vs ns) (hl : ns.length ≤ sizeLine) :
    ∃ H : Hp, Only H ∧ SqL K H a (ns.map V.int) ∧ HOk P w H s.heap ∧ (∀ b, H b ≠ none → b = a) ∧ (H a ≠ none → K.lookup a = none) := by
  have rv := vals_ints hi
  by_cases hk : ∃ o, K.lookup a = some o
  · obtain ⟨o, hk⟩ := hk
    have e := (inK a o hk).symm.trans ha
    obtain rfl : o = { cls := .type "list", data := .seq vs.toArray } := Option.some.inj e
    refine ⟨fun _ => none, fun _ => Or.inl rfl, Or.inr ⟨_, vs.toArray, _, hk, rfl, rfl, rfl, ?_, ?_⟩, ?_, fun b z => absurd rfl z, fun z => absurd rfl z⟩
    · rw [List.size_toArray, hi.length]; exact hl
    · simpa using rv
    · intro b u z
      exact (nomatch (show (none : Option HO) = some u from z))
  · have hk : K.lookup a = none := by
      cases e : K.lookup a with
      | none => rfl
      | some o => exact absurd ⟨o, e⟩ hk
    let u : HO := .frz { cls := .type "list", data := .seq vs.toArray } (.lst (ns.map V.int))
    have at0 : upd (fun _ => none) a u a = some u := upd_same
    have off : ∀ b, b ≠ a → upd (fun _ => none) a u b = none := fun b hb => upd_ne hb
    refine ⟨upd (fun _ => none) a u, fun b => ?_, Or.inl (Or.inr ⟨_, at0⟩), fun b z hz => ?_, fun b hb => ?_, fun _ => hk⟩
    · by_cases hb : b = a
      · subst hb; exact Or.inr ⟨_, _, at0⟩
      · exact Or.inl (off b hb)
    · by_cases hb : b = a
      · subst hb
        obtain rfl : u = z := Option.some.inj (at0.symm.trans hz)
        exact ⟨ha, by rw [List.length_map]; exact hl, vs, _, rv, ha⟩
      · rw [off b hb] at hz; cases hz
    · by_cases e : b = a
      · exact e
      · exact absurd (off b e) hb
/-- the head, for a def that wants no repr under way -/
theorem law_callG {P : Program} {w : World} {K : PySem.W.Frag} {mg mb : Str → Option Value} {k : Nat} {fa a : Addr} {fd : FuncData} {x : Str} {sp : Sp} {s : Shared} {vs : List Value} {ns : List Int} (inK : K.In s.heap) (hns : s.heap.Ns mainGlobals mg)
    (hb : s.heap.Ns builtinsNs mb) (hbb : ∀ x : Str, x ≠ "__name__" → mb x = bootBuiltins x) (hlim : s.heap.NoLimit) (hg : s.gens = #[]) (ha : s.heap.get? a = some { cls := .type "list", data := .seq vs.toArray }) (hi : IntsAre vs ns) (hl : ns.length ≤ sizeLine)
    (hr : Room k callerA) (F : ∀ base : Heap, K.In base → base.Ns mainGlobals mg → FnG P w K mg base k fa fd [x] sp) (hbind : ∀ (s : Shared) (u : Value), BindsTo s fd ⟨[u], []⟩ [(x, u)])
    (hsp : ∀ H : Hp, SqL K H a (ns.map V.int) → sp [.ref a] H (fun v _ => v = .bl true) fun _ _ _ => False) (hCX : ∀ H e s', L2.CX P w [] H s (fun _ _ _ => False) e s' → False) :
    codeAny (model P w) callerA (.call (.ref fa) ⟨[.ref a], []⟩) (fun r s' => r = .ok (.ret (.bool true)) ∧ OldK s.heap s'.heap ∧ s'.os = s.os ∧ AllBare s'.gens) s := by
  obtain ⟨H, only, hS, hok, one, hK⟩ := head_heap (P := P) (w := w) inK ha hi hl
  have free : ∀ {b : Addr} {o : Obj} {es : Array DictEntry} {ep : Nat}, s.heap.get? b = some o → o.data = .dict es ep → H b = none := by
    intro b o es ep e d
    by_cases q : H b = none
    · exact q
    · obtain rfl := one b q
      obtain rfl := Option.some.inj (ha.symm.trans e)
      exact (nomatch (show Data.seq vs.toArray _ = Data.dict es ep from d))
  have kept : ∀ {b : Addr} {m : Str → Option Value}, s.heap.Ns b m → (hidT s.heap H).Ns b m := by
    rintro b m ⟨o, es, ep, e, d, z⟩
    exact ⟨o, es, ep, hidT_get e (free e d), d, z⟩
  have inKb : K.In (hidT s.heap H) := by
    intro b o e
    apply hidT_get (inK b o e)
    by_cases q : H b = none
    · exact q
    · have := one b q
      subst this
      rw [hK q] at e; cases e
  have md : Mod K mg (hidT s.heap H) := by
    obtain ⟨mc, l1, l2⟩ := hlim
    exact ⟨inKb, kept hns, ⟨mb, kept hb, hbb⟩, ⟨mc, kept l1, l2⟩⟩
  have e0 : Env0 P w K mg (hidT s.heap H) callerA [] s H := by
    refine ⟨rfl, md, fun b o e => of_hidT e, Nat.le_of_eq (hidT_size _ _), trivial, ?_, hok, .of_eq hg⟩
    intro b hb
    exact (nomatch (show b ∈ ([] : List Addr) from hb))
  have run := (F _ inKb (kept hns)).go callerA [] s H ⟨[.ref a], []⟩ [.ref a] [.ref a] _ _ ⟨hr, rfl⟩ e0 (hbind s (.ref a)) (.cons rfl .nil) (hsp H hS)
  refine codeAny_mono run ?_
  intro r s' z
  match r, z with
  | .error e, z => exact (hCX H e s' z).elim
  | .ok (.ret u), z =>
    obtain ⟨v, H', os, bare, un, hok', rv, rfl⟩ := z
    obtain rfl : u = Value.bool true := rv
    refine ⟨rfl, OldK.of_keep fun b o e => ?_, os, bare⟩
    rcases only b with q | ⟨ob, xs, q⟩
    · refine un.keep b o e q ?_ ?_
      · intro z
        exact (nomatch (show b ∈ ([] : List Addr) from z))
      · simp
    · obtain ⟨e1, _⟩ := hok b _ q
      obtain ⟨e2, _⟩ := hok' b _ (un.frzs b ob _ q)
      rw [Option.some.inj (e.symm.trans e1)]
      exact e2
theorem walk_ofQ {l : PySem.W.OpenLaw} {n k : Nat} {q : Program} {loose : List Str} {XP : (Str → Option Value) → Heap → Prop} {YP : World → Heap → Prop} {d : DefRec} {x : Str} {f : Fn}
    (hn : l.most = some n) (hn2 : n ≤ sizeLine) (hdf : d.params.defaults = []) (hr : Room k callerA)
    (F : ∀ (w : World) (mg : Str → Option Value) (fa : Addr) (h : Heap), YP w h → h.Ns mainGlobals mg → mg d.name = some (.ref fa) →
      ∃ (K : PySem.W.Frag) (fd : FuncData), K.In h ∧ (∀ (s : Shared) (u : Value), BindsTo s fd ⟨[u], []⟩ [(x, u)]) ∧
        ∀ base : Heap, K.In base → base.Ns mainGlobals mg → FnG l.prog w K mg base k fa fd [x] (spF K 1 f))
    (ht : ∀ ns : List Int, ns.length ≤ n → (∀ z ∈ ns, Builtin.Int.intBits z ≤ 1048576) → ∃ o, f [.fz (.scr (ns.map .int))] = .ret (.fz (.bl true)) o) :
    PySem.W.WalkO q loose XP YP l.row.toRowW d [] (fun f vs => PySem.call f vs) := by
  refine Att.attach_callB hn hdf fun w s₀ s₁ mg mb fa o pm cd doc a vs ns G Y ho hd hcd hmg hobj hints hlen hbits hg => ?_
  obtain ⟨K, fd, KX, hb, hF⟩ := F w mg fa _ Y G.T.g hmg
  exact law_callG KX G.T.g G.T.b G.T.builtins G.T.nolimit hg hobj hints (Nat.le_trans hlen hn2) hr hF hb (fun H hS => law_sp hS (ht ns hlen hbits)) fun H e s' => cx_none
theorem walk_end {P : Program} {w : World} {K : PySem.W.Frag} {h : Heap} {mg : Str → Option Value} {k : Nat} {x y qual : Str} {params : Arguments} {body : List Stmt} {scope : Scope} {kv : List (Str × V)} {f : Fn} (KX : K.In h) (d : ∃ fd, FunD K y qual params body scope [] kv (He.ga K y) fd)
    (hb : ∀ fd, FunD K y qual params body scope [] kv (He.ga K y) fd → ∀ (s : Shared) (u : Value), BindsTo s fd ⟨[u], []⟩ [(x, u)]) (ok : ∀ base : Heap, FnK P w K mg base k 1 y [x] [] f) :
    ∃ fd : FuncData, K.In h ∧ (∀ (s : Shared) (u : Value), BindsTo s fd ⟨[u], []⟩ [(x, u)]) ∧ ∀ base : Heap, K.In base → base.Ns mainGlobals mg → FnG P w K mg base k (He.ga K y) fd [x] (spF K 1 f) := by
  obtain ⟨fd, F⟩ := d
  refine ⟨fd, KX, hb fd F, fun base _ _ => ?_⟩
  obtain ⟨fd2, ⟨oc2, od2, osl2, l2⟩, F2, _⟩ := (ok base).ex
  obtain ⟨oc, od, dV, kV, doc, pm, an, cdv, ct, osl, rfl, lk, _⟩ := F.ex
  rw [lk] at l2
  cases l2
  exact F2
end Mi

namespace Mi
open PySem PySem.Spec PyProof.Rows L2
/-! ### f(e), a list of one's own goes in and is changed -/
def of1 (ρ : Env) : FR → R Sl
  | .ret r _ => .ok r ρ
  | .exc c _ => .ex c ρ
  | .no => .no
def go1 (f : Fn) (ρ : Env) : Sl → R Sl
  | .ow xs => of1 ρ (f [.io xs])
  | .fz d => of1 ρ (f [.fz d])
  | .io _ => .no
def mCall1 (f : Fn) (m : Ex) : Ex := fun ρ => (m ρ).bind fun r ρ1 => go1 f ρ1 r
theorem back_nil (ρ : Env) (o : Env) : back ρ [] o = ρ := by
  refine List.ext_getElem? fun i => ?_
  unfold back
  rw [List.getElem?_mapIdx]
  cases e : ρ[i]? with
  | none => rfl
  | some x =>
    cases x with
    | none => rfl
    | some s => cases s <;> rfl
section
variable {K : PySem.W.Frag} {W : WX} {io : Nat → Option Addr} {P F F' : Hp} {σ : L2.St} {H H' : Hp} {ρ : Env} {Q : VK}
theorem call1_core {f : Fn} {v : V} {r : Sl} (S : St K io P F ρ σ H) (R : Rel K P F ρ σ H v r)
    (h : ToE K W io P F σ Q (go1 f ρ r)) : spF K 1 f [v] H Q (fun c d H' => W c d σ H') := by
  have R0 : PdRL K F σ [] [] := trivial
  have back2 : ∀ {F' : Hp} {o : Env} {H' : Hp}, Same F F' → St K (ioOf [v]) (rest P H ρ σ []) F' o ([v].map some) H' → St K io P F' ρ σ H' := fun {F' o H'} s S' => by
    have S2 : St K (ioOf []) (rest P H ρ σ []) F' [] (([] : List V).map some) H' := ⟨S'.fh, S'.ph, S'.pf, rfl, fun i d e => by simp at e, fun i xs o => by rcases o with o | o <;> simp at o, fun i xs a e => by simp at e, fun i j xs ys a o => by rcases o with o | o <;> simp at o⟩
    have z := S.leave R0 s S2
    rw [back_nil] at z
    exact z
  have rel2 : ∀ {F' : Hp} {o : Env} {H' : Hp} {u : V} {t : Sl}, Same F F' → St K (ioOf [v]) (rest P H ρ σ []) F' o ([v].map some) H' → Rel K (rest P H ρ σ []) F' o ([v].map some) H' u t → Rel K P F' ρ σ H' u t := fun {F' o H' u t} s S' q => by
    cases t with
    | fz d => exact q
    | io xs => exact q
    | ow xs =>
      obtain ⟨a, us, rfl, h1, h2, h3, h4, h5⟩ := q
      refine ⟨a, us, rfl, h1, h2, h3, (rest_same S []).free h4, fun i ys o e => ?_⟩
      obtain ⟨b, ws, g1, g2, _⟩ := S.ow i ys o
      rw [e] at g1
      cases g1
      rw [rest_in o e (fun k => by simp), g2] at h4
      cases h4
  have rest_pf : ∀ a o, rest P H ρ σ [] a = some o → F a = none := fun a o e => by
    unfold rest at e
    split at e
    · rename_i h
      obtain ⟨i, xs, o1, o2, _⟩ := h
      obtain ⟨b, us, h1, _, _, h4, _⟩ := S.ow i xs o1
      rw [o2] at h1
      cases h1
      exact h4
    · exact S.pf a o e
  have rest_ph : Same (rest P H ρ σ []) H := fun a o e => by
    unfold rest at e
    split at e
    · exact e
    · exact S.ph a o e
  cases r with
  | io xs => exact R.elim
  | fz d =>
    refine ⟨rfl, rest P H ρ σ [], F, [.fz d], ⟨S.fh, rest_ph, rest_pf, rfl, fun i e he => ?_, fun i xs o => ?_, fun i xs a he => ?_, fun i j xs ys a o => ?_⟩, ?_⟩
    · cases i with
      | zero => cases he; exact ⟨v, rfl, R⟩
      | succ i => simp at he
    · rcases o with o | o <;> cases i <;> simp at o
    · cases i <;> simp at he
    · rcases o with o | o <;> cases i <;> simp at o
    · have h : ToE K W io P F σ Q (of1 ρ (f [.fz d])) := h
      cases e : f [.fz d] with
      | ret r o => rw [e] at h; exact fun v H' F' s S' q => h v H' F' s (back2 s S') (rel2 s S' q)
      | exc c o => rw [e] at h; exact fun H' F' s S' => h H' F' s (back2 s S')
      | no => rw [e] at h; exact h
  | ow xs =>
    obtain ⟨a, us, rfl, h1, h2, h3, h4, h5⟩ := R
    have ra : rest P H ρ σ [] a = none := by
      unfold rest
      rw [if_neg]
      · exact h4
      · rintro ⟨i, ys, o, e, _⟩
        exact h5 i ys o e
    refine ⟨rfl, rest P H ρ σ [], F, [.io xs], ⟨S.fh, rest_ph, rest_pf, rfl, fun i e he => ?_, fun i ys o => ?_, fun i ys b he e => ?_, fun i j ys zs b o o' e e' => ?_⟩, ?_⟩
    · cases i <;> simp at he
    · cases i with
      | zero =>
        rcases o with o | o
        · cases o
        · cases o
          exact ⟨a, us, rfl, h1, h2, h3, ra⟩
      | succ i => rcases o with o | o <;> simp at o
    · cases i with
      | zero => cases e; rfl
      | succ i => simp at he
    · cases i with
      | zero =>
        cases j with
        | zero => rfl
        | succ j => rcases o' with o | o <;> simp at o
      | succ i => rcases o with o | o <;> simp at o
    · have h : ToE K W io P F σ Q (of1 ρ (f [.io xs])) := h
      cases e : f [.io xs] with
      | ret r o => rw [e] at h; exact fun v H' F' s S' q => h v H' F' s (back2 s S') (rel2 s S' q)
      | exc c o => rw [e] at h; exact fun H' F' s S' => h H' F' s (back2 s S')
      | no => rw [e] at h; exact h
end
section
variable {X : Cx} {W : WX} {io : Nat → Option Addr} {k n lev : Nat} {ps : List Str} {kws : List (Nat × List Str × List Nat)} {f : Fn} {x : Str} {p pos : Pos} {e : Expr} {m : Ex}
theorem je_call1 (tk : Takes X W) (F : FnK X.prog X.w X.K X.mg X.base k 1 x ps kws f) (hr : RoomG lev X.A) (hk : k ≤ lev) (ho : JE X W io e m)
    (hg : Gl X x := by rfl) (hdb : (x == ("__debug__" : Str)) = false := by decide) (he : starEach [e] X.env = (false, eval e X.env) :: starEach [] X.env := by rfl) (hpl : (backTo pos (starEach [] X.env)).any (·.1) = false := by rfl) :
    JE X W io (.Call (.Name x p) [e] [] pos) (mCall1 f m) := by
  obtain ⟨fd, _, F1, hb, _⟩ := F.ex
  refine ⟨pei (pe_callG tk F1 (hr.mono hk) hg F.g F.kp hb (pa_cons ho.pe pa_nil he) hdb he hpl) fun σ H Q h => ?_⟩
  obtain ⟨P, F', ρ, S, h⟩ := h
  exact tJ_bind S h fun r ρ1 v H1 F1 s1 S1 R1 h1 => call1_core S1 R1 h1
end
/-! ### x = [[..], [..]], then x[1].append(e) -/
def sNest (i : Nat) (ms ns : List Ex) (m : Ex) : Sm := fun ρ => if i < ρ.length then (runE ms ρ).toS fun ds ρ1 => if ds.length ≤ SZ then (runE ns ρ1).toS fun es ρ2 => if es.length < SZ then (m (ρ2.set i none)).toS fun r ρ3 => .nx (ρ3.set i (some (.fz (.lst [.lst ds, .lst (es ++ [r.d])])))) else .no else .no else .no
section
variable {K : PySem.W.Frag} {W : WX} {io : Nat → Option Addr} {P F F' : Hp} {σ : L2.St} {H H' : Hp} {ρ : Env} {Dn : Ends}
theorem tEs_toSP : ∀ (ms : List Ex) {f : List D → Env → SR} {Q' : List V → Hp → Prop} {P P' F : Hp} {ρ : Env} {H : Hp}, St K io P' F ρ σ H → Same P P' → ToS K W io P F Dn ((runE ms ρ).toS f) →
    (∀ ds ρ1 vs H1 F1, Same F F1 → St K io P' F1 ρ1 σ H1 → FzL K F1 ds vs → ToS K W io P F1 Dn (f ds ρ1) → Q' vs H1) → tEs K W io ms σ H Q'
  | [], f, Q', P, P', F, ρ, H, S, e, h, k => k [] ρ [] H F (Same.refl _) S rfl h
  | m :: ms, f, Q', P, P', F, ρ, H, S, e, h, k => by
    have eq : (runE (m :: ms) ρ).toS f = (m ρ).toS fun x ρ1 => (runE ms ρ1).toS fun ds ρ2 => f (x.d :: ds) ρ2 := by
      show ((m ρ).bind fun x ρ1 => (runE ms ρ1).bind fun ds ρ2 => .ok (x.d :: ds) ρ2).toS f = _
      cases m ρ with
      | no => rfl
      | ex c ρ1 => rfl
      | ok x ρ1 =>
        show ((runE ms ρ1).bind fun ds ρ2 => .ok (x.d :: ds) ρ2).toS f = (runE ms ρ1).toS fun ds ρ2 => f (x.d :: ds) ρ2
        cases runE ms ρ1 <;> rfl
    rw [eq] at h
    refine tJ_toSP S e h fun x ρ1 v H1 F1 s1 S1 R1 h1 => ?_
    obtain ⟨F1', s1', S1', q1⟩ := S1.cool R1
    exact tEs_toSP ms S1' e (h1.up s1') fun ds ρ2 vs H2 F2 s2 S2 R2 h2 => k (x.d :: ds) ρ2 (v :: vs) H2 F2 ((s1.trans s1').trans s2) S2 ⟨v, vs, rfl, q1.mono s2, R2⟩ h2
/-- a kept object may be written -/
theorem St.thaw {P2 : Hp} {D : Addr} {o o' : HO} (S : St K io P2 F ρ σ H) (hP : Same P P2) (h2 : P2 D = some o) (hd : P D = none) : St K io P F ρ σ (upd H D o') := by
  have fD : F D = none := S.pf D o h2
  refine ⟨fun b x e => ?_, fun b x e => ?_, fun b x e => S.pf b x (hP b x e), S.len, S.fz, fun i xs q => ?_, S.ia, S.ds⟩
  · rw [upd_ne (ne_of_none e fD)]; exact S.fh _ _ e
  · rw [upd_ne (ne_of_none e hd)]; exact S.ph b x (hP b x e)
  · obtain ⟨a, vs, h1, h3, h4, h5, h6⟩ := S.ow i xs q
    have ha : a ≠ D := fun e => by
      subst e
      rw [h2] at h6
      cases h6
    exact ⟨a, vs, h1, by rw [upd_ne ha]; exact h3, h4, h5, hP.free h6⟩
theorem St.hole (S : St K io P F ρ σ H) (i : Nat) (x : Option V) : St K io P F (ρ.set i none) (σ.set i x) H := by
  refine S.sub (by simp [S.len]) fun j s h => ?_
  by_cases hj : i = j
  · subst hj
    have hl : i < (ρ.set i none).length := (List.getElem?_eq_some_iff.mp h).1
    rw [List.length_set] at hl
    rw [set_self hl] at h
    cases h
  · rw [set_other hj] at h
    exact ⟨h, fun v hv => by rw [set_other hj]; exact hv⟩
def seqR (r : SR) (b : Sm) : SR := match r with
  | .nx ρ1 => b ρ1
  | r => r
theorem sSeq_eq (a b : Sm) (ρ : Env) : sSeq a b ρ = seqR (a ρ) b := by
  unfold sSeq seqR
  rfl
theorem seqR_toS {α : Type} (r : R α) (f : α → Env → SR) (b : Sm) : seqR (r.toS f) b = r.toS fun a ρ => seqR (f a ρ) b := by
  cases r <;> rfl
theorem seqR_if {c : Prop} [Decidable c] (r : SR) (b : Sm) : seqR (if c then r else .no) b = if c then seqR r b else .no := by
  split <;> rfl
theorem toS_ifp {c : Prop} [Decidable c] {r : SR} (h : ToS K W io P F Dn (if c then r else .no)) : c ∧ ToS K W io P F Dn r := by
  by_cases hc : c
  · rw [if_pos hc] at h
    exact ⟨hc, h⟩
  · rw [if_neg hc] at h
    exact h.elim
theorem upd_same' {P : Hp} {a : Addr} {o : HO} (h : P a = none) : Same P (upd P a o) := fun b x e => by
  rw [upd_ne (ne_of_none e h)]
  exact e
theorem St.nown (S : St K io P F ρ σ H) {a : Addr} {o : HO} (h : P a = some o) : ∀ i ys, Own ρ i ys → σ[i]? ≠ some (some (.ref a)) := fun i ys q e => by
  obtain ⟨b, us, h1, _, _, _, h5⟩ := S.ow i ys q
  rw [e] at h1
  cases h1
  rw [h] at h5
  cases h5
end
section
variable {X : Cx} {W : WX} {io : Nat → Option Addr} {e : Expr} {es0 es1 : List Expr} {m : Ex} {ms0 ms1 : List Ex} {rest : List Stmt} {n : Sm} {x : Str} {p0 p1 p2 p3 q0 q1 q2 q3 q4 pos1 pos2 : Pos} {j : Nat}
theorem jss_nest (i : Nat) (hN : X.N.Nodup) (ha : JEs X W io es0 ms0) (hb : JEs X W io es1 ms1) (he : JE X W io e m) (hr : JSs X W io rest n)
    (hi : X.N[i]? = some x := by rfl) (hx : Loc X.env.scope x := by first | exact Or.inl rfl | exact Or.inr rfl) (hf : X.fn x = true ∨ X.env.scope.names.lookup x = some .local := by first | exact .inl rfl | exact .inr rfl)
    (hv : Vis X.env.scope x := by first | exact Or.inl rfl | exact Or.inr (Or.inl rfl) | exact Or.inr (Or.inr rfl)) (hd : (x == ("__debug__" : Str)) = false := by decide) (hcd : (x == ("__classdict__" : Str)) = false := by decide)
    (h1 : starEach [.List es0 p1, .List es1 p2] X.env = (false, eval (.List es0 p1) X.env) :: starEach [.List es1 p2] X.env := by rfl) (h2 : starEach [.List es1 p2] X.env = (false, eval (.List es1 p2) X.env) :: starEach [] X.env := by rfl)
    (hs1 : swapsWith (.List [.List es0 p1, .List es1 p2] p3) (some (.Name x p0)) pos1.line X.env = pure false := by rfl)
    (hs2 : swapsWith (.Call (.Attribute (.Subscript (.Name x q0) (.Constant (.int 1) j q1) q2) "append" q3) [e] [] q4) none pos2.line X.env = pure false := by rfl)
    (hbase : attributeBase (.Subscript (.Name x q0) (.Constant (.int 1) j q1) q2) "append" X.env (eval (.Subscript (.Name x q0) (.Constant (.int 1) j q1) q2) X.env) = eval (.Subscript (.Name x q0) (.Constant (.int 1) j q1) q2) X.env := by rfl)
    (hfew : ((backTo q4 (starEach [e] X.env)).all (fun x => !x.1) && (backToKw q4 (keywordEach [] X.env)).all (fun x => x.1.isSome)
      && decide ([e].length + ([] : List Keyword).length + (if ([] : List Keyword).isEmpty then 0 else 1) < 30)) = true := by rfl)
    (hline : (q3.endLine == q4.line) = true := by rfl) (hst : starEach [e] X.env = (false, eval e X.env) :: starEach [] X.env := by rfl) (hplain : (backTo q4 (starEach [] X.env)).any (·.1) = false := by rfl) :
    JSs X W io (.Assign [.Name x p0] (.List [.List es0 p1, .List es1 p2] p3) pos1 :: .Expr (.Call (.Attribute (.Subscript (.Name x q0) (.Constant (.int 1) j q1) q2) "append" q3) [e] [] q4) pos2 :: rest) (sSeq (sNest i ms0 ms1 m) n) := by
  have s1 := ps_set (pos := pos1) (pos' := p0) hN hi hx (pe_lst (pos := p3) (pa_cons (pe_lst (pos := p1) ha.pa) (pa_cons (pe_lst (pos := p2) hb.pa) pa_nil h2) h1)) hs1 hf
  have s2 := ps_expr (pos := pos2) (pe_bm (apos := q3) (cpos := q4) PySem.F.plainAttrs_list PySem.F.slot_list_append PySem.F.type_list_append mt_append (pe_ix (pos := q2) ix_seq (pe_var (pos := q0) hi hv hd hcd) (pe_int (i := 1) (j := j) (pos := q1)) (fun _ _ => rfl)) (pa_cons he.pe pa_nil hst) hbase hfew hline hst hplain) hs2
  refine ⟨pssi (pss_cons s1 (pss_cons s2 hr.ps)) fun D σ H h => ?_⟩
  obtain ⟨P, F, ρ, S, h⟩ := h
  rw [sSeq_eq] at h
  unfold sNest at h
  rw [seqR_if] at h
  obtain ⟨hlen, h⟩ := toS_ifp h
  rw [seqR_toS] at h
  show tEs X.K W io ms0 σ H fun xs H1 => xs.length ≤ sizeLine ∧ ∀ a0, H1 a0 = none → (tEs X.K W io ms1 σ (upd H1 a0 (.lst xs)) fun ys H2 => ys.length ≤ sizeLine ∧ ∀ a1, H2 a1 = none → ([V.ref a0, .ref a1].length ≤ sizeLine ∧ ∀ a2, upd H2 a1 (.lst ys) a2 = none → _))
  refine tEs_toSP ms0 S (Same.refl P) h fun ds0 ρ1 vs0 H1 F1 t1 S1 R1 h1 => ?_
  rw [seqR_if] at h1
  obtain ⟨l0, h1⟩ := toS_ifp h1
  rw [seqR_toS] at h1
  refine ⟨by rw [← R1.length]; exact Nat.le_trans l0 SZ_le, fun a0 n0 => ?_⟩
  have S1' := S1.lay (o := .lst vs0) n0
  have z0 : P a0 = none := S1.ph.free n0
  refine tEs_toSP ms1 S1' (upd_same' z0) h1 fun ds1 ρ2 vs1 H2 F2 t2 S2 R2 h2 => ?_
  rw [seqR_if] at h2
  obtain ⟨l1, h2⟩ := toS_ifp h2
  rw [seqR_toS] at h2
  refine ⟨by rw [← R2.length]; exact Nat.le_trans (Nat.le_of_lt l1) SZ_le, fun a1 n1 => ⟨by rw [sizeLine_eq]; exact (by decide : (2 : Nat) ≤ 16777216), fun a2 n2 => ?_⟩⟩
  have S2' := S2.lay (o := .lst vs1) n1
  have S2'' := S2'.lay (o := .lst [.ref a0, .ref a1]) n2
  have y1 : upd P a0 (.lst vs0) a1 = none := S2.ph.free n1
  have y2 : upd (upd P a0 (.lst vs0)) a1 (.lst vs1) a2 = none := S2'.ph.free n2
  have d10 : a1 ≠ a0 := fun e => by
    rw [e, upd_same] at y1
    cases y1
  have d21 : a2 ≠ a1 := fun e => by
    rw [e, upd_same] at y2
    cases y2
  rw [upd_ne d21] at y2
  have d20 : a2 ≠ a0 := fun e => by
    rw [e, upd_same] at y2
    cases y2
  have z1 : P a1 = none := by rw [upd_ne d10] at y1; exact y1
  have z2 : P a2 = none := by rw [upd_ne d20] at y2; exact y2
  have S3 := S2''.hole i (some (.ref a2))
  have hs : Same P (upd (upd (upd P a0 (.lst vs0)) a1 (.lst vs1)) a2 (.lst [.ref a0, .ref a1])) := fun b x e => by
    rw [upd_ne (ne_of_none e z2), upd_ne (ne_of_none e z1), upd_ne (ne_of_none e z0)]
    exact e
  have hl2 : i < σ.length := by rw [← S.len]; exact hlen
  show ∃ v, (σ.set i (some (.ref a2)))[i]? = some (some v) ∧ rIx X.K v (.int 1) _ _
  refine ⟨.ref a2, set_self hl2, .inl ⟨a2, [.ref a0, .ref a1], 1, .ref a1, rfl, rfl, .inl (.inl upd_same), rfl, .inl ⟨rfl, vs1, .inl (.inl (by rw [upd_ne (Ne.symm d21), upd_same]))⟩, ?_⟩⟩
  show tJ X.K W io m (σ.set i (some (.ref a2))) _ fun v H4 => rAppend (.ref a1) [v] H4 (fun _ H5 => tS X.K W io n D (σ.set i (some (.ref a2))) H5)
  refine tJ_toSP S3 hs h2 fun r ρ3 v H4 F4 t4 S4 R4 h4 => ?_
  obtain ⟨F5, t5, S5, q5⟩ := S4.cool R4
  have k1 := S5.ph a1 (.lst vs1) (by rw [upd_ne (Ne.symm d21), upd_same])
  have k0 := S5.ph a0 (.lst vs0) (by rw [upd_ne (Ne.symm d20), upd_ne (Ne.symm d10), upd_same])
  have k2 := S5.ph a2 (.lst [.ref a0, .ref a1]) upd_same
  have f1 := S5.pf a1 (.lst vs1) (by rw [upd_ne (Ne.symm d21), upd_same])
  have f0 := S5.pf a0 (.lst vs0) (by rw [upd_ne (Ne.symm d20), upd_ne (Ne.symm d10), upd_same])
  have f2 := S5.pf a2 (.lst [.ref a0, .ref a1]) upd_same
  have o1 := S5.nown (a := a1) (o := .lst vs1) (by rw [upd_ne (Ne.symm d21), upd_same])
  have o0 := S5.nown (a := a0) (o := .lst vs0) (by rw [upd_ne (Ne.symm d20), upd_ne (Ne.symm d10), upd_same])
  have o2 := S5.nown (a := a2) (o := .lst [.ref a0, .ref a1]) upd_same
  refine ⟨a1, vs1, v, rfl, rfl, k1, by rw [← R2.length]; exact Nat.lt_of_lt_of_le l1 SZ_le, ?_⟩
  have S6 := S5.thaw (D := a1) (o := .lst vs1) (o' := .lst (vs1 ++ [v])) hs (by rw [upd_ne (Ne.symm d21), upd_same]) z1
  obtain ⟨S7, u7⟩ := S6.freeze (a := a0) (o := .lst vs0) (by rw [upd_ne (Ne.symm d10)]; exact k0) f0 z0 o0
  obtain ⟨S8, u8⟩ := S7.freeze (a := a1) (o := .lst (vs1 ++ [v])) upd_same (by rw [upd_ne d10]; exact f1) z1 o1
  obtain ⟨S9, u9⟩ := S8.freeze (a := a2) (o := .lst [.ref a0, .ref a1]) (by rw [upd_ne d21]; exact k2) (by rw [upd_ne d21, upd_ne d20]; exact f2) z2 o2
  have u79 := u7.trans (u8.trans u9)
  have S10 := S9.store (i := i) (v := .ref a2) (r := .fz (.lst [.lst ds0, .lst (ds1 ++ [r.d])])) ⟨a2, [.ref a0, .ref a1], rfl, upd_same,
    ⟨.ref a0, [.ref a1], rfl, ⟨a0, vs0, rfl, by rw [upd_ne (Ne.symm d20), upd_ne (Ne.symm d10), upd_same], R1.mono (t2.trans (t4.trans (t5.trans u79)))⟩,
    ⟨.ref a1, [], rfl, ⟨a1, vs1 ++ [v], rfl, by rw [upd_ne (Ne.symm d21), upd_same], (R2.mono (t4.trans (t5.trans u79))).append ⟨v, [], rfl, q5.mono u79, rfl⟩⟩, rfl⟩⟩⟩
  rw [List.set_set] at S10
  exact ⟨P, _, _, S10, ToS.up (t5.trans u79) (show ToS X.K W io P F4 D (n (ρ3.set i (some (.fz (.lst [.lst ds0, .lst (ds1 ++ [r.d])]))))) from h4)⟩
end
end Mi

namespace Mi
open PySem PySem.Spec PyProof.Rows L2
/-! ### reckoning with what the defs are: the environment stands written out -/
section
variable {s : Option Sl} {l ρ : Env} {a b c : Ex} {m : Ex} {o oa ob oc : Opd} {os : List Opd} {ms : List Ex} {f g : Op2} {f1 : Op1} {fN : OpN} {i j k : Nat} {x y : Sl} {d e : D} {t u : Te} {A B : Sm} {r : SR}
theorem ev_seq : sSeq A B (s :: l) = seqR (A (s :: l)) B := rfl
theorem ev_seq_nx : seqR (.nx ρ) B = B ρ := rfl
theorem ev_seq_rt : seqR (.rt x ρ) B = .rt x ρ := rfl
theorem ev_seq_ex {z : Str} : seqR (.ex z ρ) B = .ex z ρ := rfl
theorem ev_seq_bk : seqR (.bk ρ) B = .bk ρ := rfl
theorem ev_seq_ct : seqR (.ct ρ) B = .ct ρ := rfl
theorem ev_nil : sNil (s :: l) = .nx (s :: l) := rfl
theorem ev_pass : sPass (s :: l) = .nx (s :: l) := rfl
theorem ev_break : sBreak (s :: l) = .bk (s :: l) := rfl
theorem ev_cont : sCont (s :: l) = .ct (s :: l) := rfl
theorem ev_retN : sRetN (s :: l) = .rt (.fz .non) (s :: l) := rfl
theorem ev_ret : sRet m (s :: l) = (m (s :: l)).toS fun r ρ1 => .rt r ρ1 := rfl
theorem ev_drop : sDrop m (s :: l) = (m (s :: l)).toS fun _ ρ1 => .nx ρ1 := rfl
theorem ev_set : sSet i m (s :: l) = (m (s :: l)).toS fun r ρ1 => .nx (ρ1.set i (some r)) := rfl
theorem ev_raise {z : Str} : sRaise z (s :: l) = .ex z (s :: l) := rfl
theorem ev_if : sIf t A B (s :: l) = (t (s :: l)).toS fun c ρ1 => if c then A ρ1 else B ρ1 := rfl
theorem ev_par : sPar i j a b (s :: l) = (a (s :: l)).toS fun r ρ1 => (b ρ1).toS fun t ρ2 => .nx ((ρ2.set i (some r)).set j (some t)) := rfl
theorem ev_par3 : sPar3 i j k a b c (s :: l) = (a (s :: l)).toS fun r ρ1 => (b ρ1).toS fun t ρ2 => (c ρ2).toS fun u ρ3 => .nx (((ρ3.set i (some r)).set j (some t)).set k (some u)) := rfl
theorem ev_asg {tg : Tg} : sAsg tg m (s :: l) = (m (s :: l)).toS fun r ρ1 => match tg r.d ρ1 with
  | some ρ2 => .nx ρ2
  | none => .no := rfl
theorem ev_toS_ok {α : Type} {z : α} {h : α → Env → SR} : (R.ok z ρ).toS h = h z ρ := rfl
theorem ev_toS_ex {α : Type} {z : Str} {h : α → Env → SR} : (R.ex z ρ : R α).toS h = .ex z ρ := rfl
theorem ev_toS_no {α : Type} {h : α → Env → SR} : (R.no : R α).toS h = .no := rfl
theorem ev_bind_ok {α β : Type} {z : α} {h : α → Env → R β} : (R.ok z ρ).bind h = h z ρ := rfl
theorem ev_bind_ex {α β : Type} {z : Str} {h : α → Env → R β} : (R.ex z ρ : R α).bind h = .ex z ρ := rfl
theorem ev_bind_no {α β : Type} {h : α → Env → R β} : (R.no : R α).bind h = .no := rfl
theorem ev_it {α : Sort _} {p q : α} : (if (true : Bool) = true then p else q) = p := rfl
theorem ev_if_f {α : Sort _} {p q : α} : (if (false : Bool) = true then p else q) = q := rfl
theorem ev_C : mC d (s :: l) = .ok (.fz d) (s :: l) := rfl
def varR (i : Nat) (ρ : Env) : Option (Option Sl) → R Sl
  | some (some (.fz d)) => .ok (.fz d) ρ
  | some (some (.ow xs)) => .ok (.fz (.lst xs)) (ρ.set i (some (.fz (.lst xs))))
  | _ => .no
theorem ev_var : mVar i (s :: l) = varR i (s :: l) (s :: l)[i]? := rfl
theorem ev_var1 : varR i ρ (some (some (.fz d))) = .ok (.fz d) ρ := rfl
theorem ev_var2 {xs : List D} : varR i ρ (some (some (.ow xs))) = .ok (.fz (.lst xs)) (ρ.set i (some (.fz (.lst xs)))) := rfl
def movR (i : Nat) (ρ : Env) : Option (Option Sl) → R Sl
  | some (some (.fz d)) => .ok (.fz d) ρ
  | some (some (.ow xs)) => .ok (.ow xs) (ρ.set i none)
  | _ => .no
theorem ev_mov : mMove i (s :: l) = movR i (s :: l) (s :: l)[i]? := rfl
theorem ev_mov1 : movR i ρ (some (some (.fz d))) = .ok (.fz d) ρ := rfl
theorem ev_mov2 {xs : List D} : movR i ρ (some (some (.ow xs))) = .ok (.ow xs) (ρ.set i none) := rfl
def okO : Option (Option Sl) → Bool
  | some (some _) => true
  | _ => false
theorem ev_okV_e : okV (s :: l) (.e m) = true := rfl
theorem ev_okV_v : okV (s :: l) (.v i) = okO (s :: l)[i]? := rfl
theorem ev_okO : okO (some (some x)) = true := rfl
theorem ev_run_e : (Opd.e m).run (s :: l) = (m (s :: l)).bind fun x ρ1 => .ok (.d x.d) ρ1 := rfl
theorem ev_run_v : (Opd.v i).run (s :: l) = .ok (.i i) (s :: l) := rfl
def getO : Option (Option Sl) → Option D
  | some (some s) => some s.d
  | _ => none
theorem ev_get_d : (Pd.d d).get (s :: l) = some d := rfl
theorem ev_get_i : (Pd.i i).get (s :: l) = getO (s :: l)[i]? := rfl
theorem ev_getO : getO (some (some x)) = some x.d := rfl
theorem ev_d_fz : (Sl.fz d).d = d := rfl
theorem ev_d_ow {xs : List D} : (Sl.ow xs).d = .lst xs := rfl
theorem ev_d_io {xs : List D} : (Sl.io xs).d = .lst xs := rfl
theorem ev_op2 : mOp2 f oa ob (s :: l) = if okV (s :: l) oa && okV (s :: l) ob then (oa.run (s :: l)).bind fun p ρ1 => (ob.run ρ1).bind fun q ρ2 => mk (get2 f ρ2 p q) ρ2 else .no := rfl
def g2 (f : Op2) : Option D → Option D → Option Sl
  | some x, some y => f x y
  | _, _ => none
theorem ev_get2 {p q : Pd} : get2 f (s :: l) p q = g2 f (p.get (s :: l)) (q.get (s :: l)) := rfl
theorem ev_g2 : g2 f (some d) (some e) = f d e := rfl
theorem ev_op1 : mOp1 f1 oa (s :: l) = if okV (s :: l) oa then (oa.run (s :: l)).bind fun p ρ1 => mk (get1 f1 ρ1 p) ρ1 else .no := rfl
def g1 (f : Op1) : Option D → Option Sl
  | some x => f x
  | _ => none
theorem ev_get1 {p : Pd} : get1 f1 (s :: l) p = g1 f1 (p.get (s :: l)) := rfl
theorem ev_g1 : g1 f1 (some d) = f1 d := rfl
theorem ev_mk : mk (some x) ρ = .ok x ρ := rfl
theorem ev_mk0 : mk none ρ = .no := rfl
theorem ev_opN : mOpN fN os (s :: l) = if os.all (okV (s :: l)) then (runO os (s :: l)).bind fun ps ρ1 => mk (getN fN ρ1 ps) ρ1 else .no := rfl
theorem ev_all_nil {α : Type} {p : α → Bool} : ([] : List α).all p = true := rfl
theorem ev_all_cons {α : Type} {p : α → Bool} {z : α} {zs : List α} : (z :: zs).all p = (p z && zs.all p) := rfl
theorem ev_runO_nil : runO [] (s :: l) = .ok [] (s :: l) := rfl
theorem ev_runO_cons : runO (o :: os) (s :: l) = (o.run (s :: l)).bind fun p ρ1 => (runO os ρ1).bind fun ps ρ2 => .ok (p :: ps) ρ2 := rfl
def gN (f : OpN) : Option (List D) → Option Sl
  | some ds => f ds
  | none => none
theorem ev_getN {ps : List Pd} : getN fN (s :: l) ps = gN fN (getL (s :: l) ps) := rfl
theorem ev_gN {ds : List D} : gN fN (some ds) = fN ds := rfl
def gL : Option D → Option (List D) → Option (List D)
  | some d, some ds => some (d :: ds)
  | _, _ => none
theorem ev_getL_nil : getL (s :: l) [] = some [] := rfl
theorem ev_getL_cons {p : Pd} {ps : List Pd} : getL (s :: l) (p :: ps) = gL (p.get (s :: l)) (getL (s :: l) ps) := rfl
theorem ev_gL {ds : List D} : gL (some d) (some ds) = some (d :: ds) := rfl
theorem ev_runE_nil : runE [] (s :: l) = .ok [] (s :: l) := rfl
theorem ev_runE_cons : runE (m :: ms) (s :: l) = (m (s :: l)).bind fun x ρ1 => (runE ms ρ1).bind fun ds ρ2 => .ok (x.d :: ds) ρ2 := rfl
theorem ev_tup : mTup ms (s :: l) = (runE ms (s :: l)).bind fun ds ρ1 => if ds.length ≤ SZ then .ok (.fz (.tup ds)) ρ1 else .no := rfl
theorem ev_lst : mLst ms (s :: l) = (runE ms (s :: l)).bind fun ds ρ1 => if ds.length ≤ SZ then .ok (.ow ds) ρ1 else .no := rfl
theorem ev_mIf : mIf t a b (s :: l) = (t (s :: l)).bind fun c ρ1 => if c then a ρ1 else b ρ1 := rfl
def blR (k : Bool → Env → R Sl) (x : Sl) (ρ : Env) : R Sl := match x with
  | .fz (.bl c) => k c ρ
  | _ => .no
theorem ev_and : mAnd a b (s :: l) = (a (s :: l)).bind fun x ρ1 => blR (fun c ρ1 => if c then b ρ1 else .ok (okB false) ρ1) x ρ1 := by
  unfold mAnd
  congr 1
  funext x ρ1
  cases x with
  | fz d => cases d <;> first | rfl | (rename_i c; cases c <;> rfl)
  | ow xs => rfl
  | io xs => rfl
theorem ev_or : mOr a b (s :: l) = (a (s :: l)).bind fun x ρ1 => blR (fun c ρ1 => if c then .ok (okB true) ρ1 else b ρ1) x ρ1 := by
  unfold mOr
  congr 1
  funext x ρ1
  cases x with
  | fz d => cases d <;> first | rfl | (rename_i c; cases c <;> rfl)
  | ow xs => rfl
  | io xs => rfl
theorem ev_not : mNot a (s :: l) = (a (s :: l)).bind fun x ρ1 => blR (fun c ρ1 => .ok (okB !c) ρ1) x ρ1 := rfl
theorem ev_blR {h : Bool → Env → R Sl} {z : Bool} : blR h (.fz (.bl z)) ρ = h z ρ := rfl
def blT (x : Sl) (ρ : Env) : R Bool := match x with
  | .fz (.bl b) => .ok b ρ
  | _ => .no
theorem ev_toT : toT m (s :: l) = (m (s :: l)).bind fun r ρ1 => blT r ρ1 := rfl
theorem ev_blT {z : Bool} : blT (.fz (.bl z)) ρ = .ok z ρ := rfl
theorem ev_okI {z : Int} : okI z = .fz (.int z) := rfl
theorem ev_okB {z : Bool} : okB z = .fz (.bl z) := rfl
theorem ev_tru : mTru o (s :: l) = if okV (s :: l) o then (o.run (s :: l)).bind fun p ρ1 => mkT ((p.get ρ1).bind D.tru) ρ1 else .no := rfl
theorem ev_mkT {z : Bool} : mkT (some z) ρ = .ok z ρ := rfl
theorem ev_obind {α β : Type} {z : α} {h : α → Option β} : (some z).bind h = h z := rfl
theorem ev_tru_bl {z : Bool} : D.tru (.bl z) = some z := rfl
theorem ev_andT : mAndT t u (s :: l) = (t (s :: l)).bind fun c ρ1 => if c then u ρ1 else .ok false ρ1 := rfl
theorem ev_orT : mOrT t u (s :: l) = (t (s :: l)).bind fun c ρ1 => if c then .ok true ρ1 else u ρ1 := rfl
theorem ev_notT : mNotT t (s :: l) = (t (s :: l)).bind fun c ρ1 => .ok (!c) ρ1 := rfl
def chR (k : Env → R Sl) (x : Option Sl) (ρ : Env) : R Sl := match x with
  | some (.fz (.bl true)) => k ρ
  | some (.fz (.bl false)) => .ok (okB false) ρ
  | _ => .no
theorem ev_chain : mChain f g oa ob oc (s :: l) = if okV (s :: l) oa && okV (s :: l) ob && okV (s :: l) oc then (oa.run (s :: l)).bind fun p ρ1 => (ob.run ρ1).bind fun q ρ2 => chR (fun ρ2 => (oc.run ρ2).bind fun r ρ3 => mk (get2 g ρ3 q r) ρ3) (get2 f ρ2 p q) ρ2 else .no := rfl
theorem ev_chR {h : Env → R Sl} {z : Bool} : chR h (some (.fz (.bl z))) ρ = if z then h ρ else .ok (okB false) ρ := by cases z <;> rfl
/-! calls -/
theorem ev_fn {n k : Nat} {args : List Sl} : mkFn n k A args = if args.length = n then FR.of n (A (args.map some ++ List.replicate k none)) else .no := rfl
def outsL : Nat → Env → Env
  | 0, _ => []
  | n + 1, e :: l => ioE e :: outsL n l
  | n + 1, [] => none :: outsL n []
theorem outsL_eq : ∀ (n : Nat) (ρ : Env), outs n ρ = outsL n ρ := fun n => by
  have key : ∀ (n k : Nat) (ρ : Env), (List.range' k n).map (fun i => ioE (ρ[i]?).join) = outsL n (ρ.drop k) := fun n => by
    induction n with
    | zero => intro k ρ; rfl
    | succ n ih =>
      intro k ρ
      rw [List.range'_succ, List.map_cons, ih]
      cases e : ρ.drop k with
      | nil =>
        have h1 : ρ[k]? = none := by
          have := congrArg List.length e
          rw [List.length_drop, List.length_nil] at this
          exact List.getElem?_eq_none (by omega)
        have h2 : ρ.drop (k + 1) = [] := by
          have := congrArg List.length e
          rw [List.length_drop, List.length_nil] at this
          exact List.drop_eq_nil_of_le (by omega)
        rw [h1, h2]
        rfl
      | cons x l =>
        have h1 : ρ[k]? = some x := by
          have := congrArg (fun z : Env => z[0]?) e
          simpa using this
        have h2 : ρ.drop (k + 1) = l := by
          have := congrArg List.tail e
          simpa using this
        rw [h1, h2]
        rfl
  intro ρ
  have := key n 0 ρ
  rw [List.drop_zero] at this
  rw [← this, ← List.range_eq_range']
  rfl
theorem ev_of_nx {n : Nat} : FR.of n (.nx ρ) = .ret (.fz .non) (outsL n ρ) := by rw [← outsL_eq]; rfl
theorem ev_of_rt {n : Nat} : FR.of n (.rt x ρ) = .ret x (outsL n ρ) := by rw [← outsL_eq]; rfl
theorem ev_of_ex {n : Nat} {z : Str} : FR.of n (.ex z ρ) = .exc z (outsL n ρ) := by rw [← outsL_eq]; rfl
theorem ev_outs0 : outsL 0 ρ = [] := rfl
theorem ev_outs1 {n : Nat} : outsL (n + 1) (s :: l) = ioE s :: outsL n l := rfl
theorem ev_ioE_n : ioE none = none := rfl
theorem ev_ioE_f : ioE (some (.fz d)) = none := rfl
theorem ev_ioE_o {xs : List D} : ioE (some (.ow xs)) = none := rfl
theorem ev_ioE_i {xs : List D} : ioE (some (.io xs)) = some (.io xs) := rfl
def callR (f : Fn) (ρ : Env) (ps : List Pd) : Option (List Sl) → R Sl
  | some args => if apart ρ ps then ofF ρ ps (f args) else .no
  | none => .no
theorem ev_call {h : Fn} : mCall h os (s :: l) = if os.all (okV (s :: l)) then (runO os (s :: l)).bind fun ps ρ1 => callR h ρ1 ps (argsS ρ1 ps) else .no := rfl
theorem ev_callK {h : Fn} {pm : List Nat} {qs : List Opd} : mCallK h pm os qs (s :: l) = if os.all (okV (s :: l)) && qs.all (okV (s :: l)) then (runO os (s :: l)).bind fun ps ρ1 => (runO qs ρ1).bind fun rs ρ2 => callR h ρ2 (permL pm (ps ++ rs)) (argsS ρ2 (permL pm (ps ++ rs))) else .no := rfl
theorem ev_callR {h : Fn} {ps : List Pd} {args : List Sl} : callR h ρ ps (some args) = if apart ρ ps then ofF ρ ps (h args) else .no := rfl
def argC : Option Sl → Option (List Sl) → Option (List Sl)
  | some x, some xs => some (x :: xs)
  | _, _ => none
theorem ev_args_nil : argsS (s :: l) [] = some [] := rfl
theorem ev_args_cons {p : Pd} {ps : List Pd} : argsS (s :: l) (p :: ps) = argC (argS (s :: l) p) (argsS (s :: l) ps) := rfl
theorem ev_argC {xs : List Sl} : argC (some x) (some xs) = some (x :: xs) := rfl
theorem ev_arg_d : argS (s :: l) (.d d) = some (.fz d) := rfl
theorem ev_arg_i : argS (s :: l) (.i i) = argO (s :: l)[i]? := rfl
theorem ev_argO_f : argO (some (some (.fz d))) = some (.fz d) := rfl
theorem ev_argO_o {xs : List D} : argO (some (some (.ow xs))) = some (.io xs) := rfl
theorem ev_argO_i {xs : List D} : argO (some (some (.io xs))) = some (.io xs) := rfl
theorem ev_apart_nil : apart (s :: l) [] = true := rfl
theorem ev_apart_d {ps : List Pd} : apart (s :: l) (.d d :: ps) = apart (s :: l) ps := rfl
theorem ev_apart_i {ps : List Pd} : apart (s :: l) (.i i :: ps) = ((!isOwn (s :: l) i || !ps.any (Pd.at i)) && apart (s :: l) ps) := rfl
theorem ev_any_nil {α : Type} {p : α → Bool} : ([] : List α).any p = false := rfl
theorem ev_any_cons {α : Type} {p : α → Bool} {z : α} {zs : List α} : (z :: zs).any p = (p z || zs.any p) := rfl
theorem ev_at_d : Pd.at i (.d d) = false := rfl
theorem ev_at_i : Pd.at i (.i j) = (j == i) := rfl
theorem ev_ofF_ret {ps : List Pd} {w : Env} : ofF ρ ps (.ret x w) = .ok x (back ρ ps w) := rfl
theorem ev_ofF_exc {ps : List Pd} {w : Env} {z : Str} : ofF ρ ps (.exc z w) = .ex z (back ρ ps w) := rfl
def backG (n : Nat) (ps : List Pd) (w : Env) : Env → Env
  | [] => []
  | e :: l => back1 n e ps w :: backG (n + 1) ps w l
theorem back_eq {ps : List Pd} {w : Env} : back ρ ps w = backG 0 ps w ρ := by
  have key : ∀ (ρ : Env) (n : Nat), ρ.mapIdx (fun i e => back1 (n + i) e ps w) = backG n ps w ρ := fun ρ => by
    induction ρ with
    | nil => intro n; rfl
    | cons e l ih =>
      intro n
      rw [List.mapIdx_cons]
      show back1 (n + 0) e ps w :: _ = back1 n e ps w :: backG (n + 1) ps w l
      rw [← ih (n + 1)]
      congr 1
      congr 1
      funext i x
      rw [Nat.add_right_comm, Nat.add_assoc]
  have := key ρ 0
  rw [← this]
  unfold back
  congr 1
  funext i e
  rw [Nat.zero_add]
theorem ev_back0 {n : Nat} {ps : List Pd} {w : Env} : backG n ps w [] = [] := rfl
theorem ev_back1 {n : Nat} {ps : List Pd} {w : Env} : backG n ps w (s :: l) = back1 n s ps w :: backG (n + 1) ps w l := rfl
theorem ev_b1n {n : Nat} {ps : List Pd} {w : Env} : back1 n none ps w = none := rfl
theorem ev_b1f {n : Nat} {ps : List Pd} {w : Env} : back1 n (some (.fz d)) ps w = some (.fz d) := rfl
def bkO (xs : List D) : Option (Option Sl) → Option Sl
  | none => some (.ow xs)
  | some (some (.io ys)) => some (.ow ys)
  | some _ => none
def bkI (xs : List D) : Option (Option Sl) → Option Sl
  | none => some (.io xs)
  | some (some (.io ys)) => some (.io ys)
  | some _ => none
theorem ev_b1o {n : Nat} {ps : List Pd} {w : Env} {xs : List D} : back1 n (some (.ow xs)) ps w = bkO xs (look n ps w) := rfl
theorem ev_b1i {n : Nat} {ps : List Pd} {w : Env} {xs : List D} : back1 n (some (.io xs)) ps w = bkI xs (look n ps w) := rfl
theorem ev_bkO0 {xs : List D} : bkO xs none = some (.ow xs) := rfl
theorem ev_bkO1 {xs ys : List D} : bkO xs (some (some (.io ys))) = some (.ow ys) := rfl
theorem ev_bkI0 {xs : List D} : bkI xs none = some (.io xs) := rfl
theorem ev_bkI1 {xs ys : List D} : bkI xs (some (some (.io ys))) = some (.io ys) := rfl
theorem ev_look0 {n : Nat} {w : Env} : look n [] w = none := rfl
theorem ev_look_d {n : Nat} {ps : List Pd} {w : Env} : look n (.d d :: ps) w = look n ps w.tail := rfl
theorem ev_look_i {n : Nat} {ps : List Pd} {w : Env} : look n (.i j :: ps) w = if j = n then some (w.head?.join) else look n ps w.tail := rfl
theorem ev_join {α : Type} {z : Option α} : (some z).join = z := rfl
theorem ev_head {α : Type} {z : α} {zs : List α} : (z :: zs).head? = some z := rfl
theorem ev_tail {α : Type} {z : α} {zs : List α} : (z :: zs).tail = zs := rfl
theorem ev_call1 {h : Fn} : mCall1 h m (s :: l) = (m (s :: l)).bind fun r ρ1 => go1 h ρ1 r := rfl
theorem ev_go_o {h : Fn} {xs : List D} : go1 h ρ (.ow xs) = of1 ρ (h [.io xs]) := rfl
theorem ev_go_f {h : Fn} : go1 h ρ (.fz d) = of1 ρ (h [.fz d]) := rfl
theorem ev_of1_r {w : Env} : of1 ρ (.ret x w) = .ok x ρ := rfl
theorem ev_of1_e {w : Env} {z : Str} : of1 ρ (.exc z w) = .ex z ρ := rfl
end
end Mi

namespace Mi
open PySem PySem.Spec PyProof.Rows L2
/-! ### reckoning with data -/
theorem BIG_ge' : 2 ^ 600 ≤ BIG := BIG_ge (by decide)
theorem DVB_ge' : 2 ^ 600 ≤ DVB := DVB_ge (by decide)
theorem LIM_BIG {n : Nat} (h : n ≤ 1000000000000000000000000000000000000000000000000000000000000000000000000000000000000000000000000000000000000000000000000000000000000000000000000000000) : n < BIG := Nat.lt_of_lt_of_le (Nat.lt_of_le_of_lt h (show (1000000000000000000000000000000000000000000000000000000000000000000000000000000000000000000000000000000000000000000000000000000000000000000000000000000 : Nat) < 2 ^ 600 by decide)) BIG_ge'
theorem LIM_DVB {n : Nat} (h : n ≤ 1000000000000000000000000000000000000000000000000000000000000000000000000000000000000000000000000000000000000000000000000000000000000000000000000000000) : n < DVB := Nat.lt_of_lt_of_le (Nat.lt_of_le_of_lt h (show (1000000000000000000000000000000000000000000000000000000000000000000000000000000000000000000000000000000000000000000000000000000000000000000000000000000 : Nat) < 2 ^ 600 by decide)) DVB_ge'
section
variable {s : Option Sl} {l ρ : Env} {a b c m mi : Ex} {i j : Int} {xs ys : List D} {d e : D} {x y : Sl} {r : SR} {n k : Nat} {u v : Str}
theorem op_add_i : addD (.int i) (.int j) = some (.fz (.int (i + j))) := rfl
theorem op_sub_i : subD (.int i) (.int j) = some (.fz (.int (i - j))) := rfl
theorem op_iadd_i : iaddD (.int i) (.int j) = some (.fz (.int (i + j))) := rfl
theorem op_mul_i (h1 : i.natAbs ≤ 1000000000000000000000000000000000000000000000000000000000000000000000000000000000000000000000000000000000000000000000000000000000000000000000000000000) (h2 : j.natAbs ≤ 1000000000000000000000000000000000000000000000000000000000000000000000000000000000000000000000000000000000000000000000000000000000000000000000000000000) : mulD (.int i) (.int j) = some (.fz (.int (i * j))) := if_pos ⟨LIM_BIG h1, LIM_BIG h2⟩
theorem op_fdiv_i (h1 : 0 < j) (h2 : j.natAbs ≤ 1000000000000000000000000000000000000000000000000000000000000000000000000000000000000000000000000000000000000000000000000000000000000000000000000000000) : fdivD (.int i) (.int j) = some (.fz (.int (i / j))) := if_pos ⟨h1, LIM_DVB h2⟩
theorem op_mod_i (h1 : 0 < j) : modD (.int i) (.int j) = some (.fz (.int (i % j))) := if_pos h1
theorem op_pow8_i (h1 : i.natAbs ≤ 1000000000000000000000000000000000000000000000000000000000000000000000000000000000000000000000000000000000000000000000000000000000000000000000000000000) (h2 : 0 ≤ j) (h3 : j ≤ 8) : powD (.int i) (.int j) = some (.fz (.int (i ^ j.toNat))) := if_pos ⟨h2, .inl ⟨LIM_BIG h1, h3⟩⟩
theorem op_powL_i (h1 : i.natAbs < 65536) (h2 : 0 ≤ j) (h3 : j ≤ 100000) : powD (.int i) (.int j) = some (.fz (.int (i ^ j.toNat))) := if_pos ⟨h2, .inr ⟨h1, h3⟩⟩
theorem op_lt_i : ltD (.int i) (.int j) = some (.fz (.bl (decide (i < j)))) := rfl
theorem op_le_i : leD (.int i) (.int j) = some (.fz (.bl (decide (i ≤ j)))) := rfl
theorem op_gt_i : gtD (.int i) (.int j) = some (.fz (.bl (decide (j < i)))) := rfl
theorem op_ge_i : geD (.int i) (.int j) = some (.fz (.bl (decide (j ≤ i)))) := rfl
theorem op_neg_i : negD (.int i) = some (.fz (.int (-i))) := rfl
theorem op_eq_i : eqD (.int i) (.int j) = some (.fz (.bl (decide (i = j)))) := rfl
theorem op_ne_i : neD (.int i) (.int j) = some (.fz (.bl (!decide (i = j)))) := rfl
theorem op_eq_s (h1 : D.sh (.str u) = true) (h2 : D.sh (.str v) = true) : eqD (.str u) (.str v) = some (.fz (.bl (u == v))) := by
  unfold eqD
  rw [h1, h2]
  rfl
theorem op_ne_s (h1 : D.sh (.str u) = true) (h2 : D.sh (.str v) = true) : neD (.str u) (.str v) = some (.fz (.bl (!(u == v)))) := by
  unfold neD
  rw [h1, h2]
  rfl
theorem op_is_n : isD .non .non = some (.fz (.bl true)) := rfl
theorem op_len_l : lenD [.lst xs] = some (.fz (.int xs.length)) := rfl
theorem op_len_t : lenD [.tup xs] = some (.fz (.int xs.length)) := rfl
theorem op_len_s : lenD [.scr xs] = some (.fz (.int xs.length)) := rfl
theorem op_abs_i : absD [.int i] = some (.fz (.int (if i < 0 then -i else i))) := rfl
theorem op_max_i : max2D [.int i, .int j] = some (.fz (.int (if j > i then j else i))) := rfl
theorem op_min_i : min2D [.int i, .int j] = some (.fz (.int (if j < i then j else i))) := rfl
theorem op_int_i : intD [.int i] = some (.fz (.int i)) := rfl
theorem op_int_b {z : Bool} : intD [.bl z] = some (.fz (.int (if z then 1 else 0))) := rfl
theorem op_divmod_i (h1 : 0 < j) (h2 : j.natAbs ≤ 1000000000000000000000000000000000000000000000000000000000000000000000000000000000000000000000000000000000000000000000000000000000000000000000000000000) : divmodD [.int i, .int j] = some (.fz (.tup [.int (i / j), .int (i % j)])) := if_pos ⟨h1, LIM_DVB h2⟩
theorem op_tup_l : tupleD [.lst xs] = some (.fz (.tup xs)) := rfl
theorem op_tup_t : tupleD [.tup xs] = some (.fz (.tup xs)) := rfl
theorem op_list_l : listD [.lst xs] = some (.ow xs) := rfl
theorem op_list_t : listD [.tup xs] = some (.ow xs) := rfl
theorem op_rev_l : revD (.lst xs) = some (.ow xs.reverse) := rfl
theorem op_rev_t : revD (.tup xs) = some (.fz (.tup xs.reverse)) := rfl
theorem op_add_l (h : xs.length + ys.length ≤ SZ) : addD (.lst xs) (.lst ys) = some (.ow (xs ++ ys)) := if_pos h
def ownO : Option (Option Sl) → Option (Sl × List D)
  | some (some s) => s.own.map fun xs => (s, xs)
  | _ => none
theorem op_own_o : ownO (some (some (.ow xs))) = some (.ow xs, xs) := rfl
theorem op_own_i : ownO (some (some (.io xs))) = some (.io xs, xs) := rfl
def stN (ρ : Env) (i : Nat) (s : Sl) (xs : List D) (r : D) : Option Nat → SR
  | some n => .nx (ρ.set i (some (s.as (xs.set n r))))
  | none => .no
def setR (ρ : Env) (i : Nat) (r : D) : Option (Sl × List D) → D → SR
  | some (s, xs), .int j => stN ρ i s xs r (ixN xs.length j)
  | _, _ => .no
theorem op_setix {p : Nat} : sSetIx p mi m (s :: l) = (m (s :: l)).toS fun r ρ1 => if (ownO ρ1[p]?).isSome then (mi ρ1).toS fun k ρ2 => setR ρ2 p r.d (ownO ρ2[p]?) k.d else .no := rfl
theorem op_setR {p : Nat} : setR ρ p d (some (x, xs)) (.int j) = stN ρ p x xs d (ixN xs.length j) := rfl
theorem op_stN {p : Nat} : stN ρ p x xs d (some n) = .nx (ρ.set p (some (x.as (xs.set n d)))) := rfl
theorem op_as_o : (Sl.ow xs).as ys = .ow ys := rfl
theorem op_as_i : (Sl.io xs).as ys = .io ys := rfl
theorem op_isS {α : Type} {z : α} : (some z).isSome = true := rfl
def mutS (i : Nat) (ρ : Env) (s : Sl) : Option (D × List D) → R Sl
  | some (y, ys) => .ok (.fz y) (ρ.set i (some (s.as ys)))
  | none => .no
def mutR (f : List D → List D → Option (D × List D)) (i : Nat) (ρ : Env) (ds : List D) : Option (Sl × List D) → R Sl
  | some (s, xs) => mutS i ρ s (f xs ds)
  | none => .no
theorem op_mut {p : Nat} {f : List D → List D → Option (D × List D)} {es : List Ex} : mMut p f es (s :: l) = if (ownO (s :: l)[p]?).isSome then (runE es (s :: l)).bind fun ds ρ1 => mutR f p ρ1 ds (ownO ρ1[p]?) else .no := by
  unfold mMut
  congr 1
theorem op_mutR {p : Nat} {f : List D → List D → Option (D × List D)} : mutR f p ρ ys (some (x, xs)) = mutS p ρ x (f xs ys) := rfl
theorem op_mutS {p : Nat} : mutS p ρ x (some (d, ys)) = .ok (.fz d) (ρ.set p (some (x.as ys))) := rfl
theorem op_append (h : xs.length < SZ) : fAppend xs [d] = some (.non, xs ++ [d]) := if_pos h
theorem ix_l_nn (h0 : 0 ≤ j) (h1 : j < xs.length) : ixD (.lst xs) (.int j) = (xs[j.toNat]?).map .fz := by
  show ((ixN xs.length j).bind fun n => xs[n]?).map Sl.fz = _
  unfold ixN
  rw [if_pos h0, if_pos h1]
  rfl
theorem ix_s_nn (h0 : 0 ≤ j) (h1 : j < xs.length) : ixD (.scr xs) (.int j) = (xs[j.toNat]?).map .fz := by
  show ((ixN xs.length j).bind fun n => xs[n]?).map Sl.fz = _
  unfold ixN
  rw [if_pos h0, if_pos h1]
  rfl
theorem op_asg_seq {n : Nat} {g : Tgs} (h : xs.length = n) : gSeq n g (.tup xs) ρ = g xs ρ := if_pos h
theorem op_asg_seql {n : Nat} {g : Tgs} (h : xs.length = n) : gSeq n g (.lst xs) ρ = g xs ρ := if_pos h
theorem op_asg_cons {g : Tg} {r : Tgs} : gsCons g r (d :: xs) ρ = (g d ρ).bind fun ρ1 => r xs ρ1 := rfl
theorem op_asg_nil : gsNil [] ρ = some ρ := rfl
theorem op_asg_nm {p : Nat} : gNm p d ρ = some (ρ.set p (some (.fz d))) := rfl
def asgR : Option Env → SR
  | some ρ => .nx ρ
  | none => .no
theorem op_asg {g : Tg} : sAsg g m (s :: l) = (m (s :: l)).toS fun r ρ1 => asgR (g r.d ρ1) := by
  unfold sAsg
  congr 1
theorem op_asgR : asgR (some ρ) = .nx ρ := rfl
theorem ixN_1_0 : ixN 1 0 = some 0 := rfl
theorem ixN_1_m1 : ixN 1 (-1) = some 0 := rfl
theorem ixN_2_0 : ixN 2 0 = some 0 := rfl
theorem ixN_2_1 : ixN 2 1 = some 1 := rfl
theorem ixN_2_m1 : ixN 2 (-1) = some 1 := rfl
theorem ixN_3_0 : ixN 3 0 = some 0 := rfl
theorem ixN_3_1 : ixN 3 1 = some 1 := rfl
theorem ixN_3_2 : ixN 3 2 = some 2 := rfl
theorem ixN_3_m1 : ixN 3 (-1) = some 2 := rfl
theorem ixN_4_0 : ixN 4 0 = some 0 := rfl
theorem ixN_4_1 : ixN 4 1 = some 1 := rfl
theorem ixN_4_2 : ixN 4 2 = some 2 := rfl
theorem ixN_4_3 : ixN 4 3 = some 3 := rfl
theorem ixN_4_m1 : ixN 4 (-1) = some 3 := rfl
theorem ixN_5_0 : ixN 5 0 = some 0 := rfl
theorem ixN_5_1 : ixN 5 1 = some 1 := rfl
theorem ixN_5_2 : ixN 5 2 = some 2 := rfl
theorem ixN_5_3 : ixN 5 3 = some 3 := rfl
theorem ixN_5_4 : ixN 5 4 = some 4 := rfl
theorem ixN_5_m1 : ixN 5 (-1) = some 4 := rfl
theorem ixN_6_0 : ixN 6 0 = some 0 := rfl
theorem ixN_6_1 : ixN 6 1 = some 1 := rfl
theorem ixN_6_2 : ixN 6 2 = some 2 := rfl
theorem ixN_6_3 : ixN 6 3 = some 3 := rfl
theorem ixN_6_4 : ixN 6 4 = some 4 := rfl
theorem ixN_6_5 : ixN 6 5 = some 5 := rfl
theorem ixN_6_m1 : ixN 6 (-1) = some 5 := rfl
theorem ixN_7_0 : ixN 7 0 = some 0 := rfl
theorem ixN_7_1 : ixN 7 1 = some 1 := rfl
theorem ixN_7_2 : ixN 7 2 = some 2 := rfl
theorem ixN_7_3 : ixN 7 3 = some 3 := rfl
theorem ixN_7_4 : ixN 7 4 = some 4 := rfl
theorem ixN_7_5 : ixN 7 5 = some 5 := rfl
theorem ixN_7_6 : ixN 7 6 = some 6 := rfl
theorem ixN_7_m1 : ixN 7 (-1) = some 6 := rfl
theorem ixN_8_0 : ixN 8 0 = some 0 := rfl
theorem ixN_8_1 : ixN 8 1 = some 1 := rfl
theorem ixN_8_2 : ixN 8 2 = some 2 := rfl
theorem ixN_8_3 : ixN 8 3 = some 3 := rfl
theorem ixN_8_4 : ixN 8 4 = some 4 := rfl
theorem ixN_8_5 : ixN 8 5 = some 5 := rfl
theorem ixN_8_6 : ixN 8 6 = some 6 := rfl
theorem ixN_8_7 : ixN 8 7 = some 7 := rfl
theorem ixN_8_m1 : ixN 8 (-1) = some 7 := rfl
theorem ixN_9_0 : ixN 9 0 = some 0 := rfl
theorem ixN_9_1 : ixN 9 1 = some 1 := rfl
theorem ixN_9_2 : ixN 9 2 = some 2 := rfl
theorem ixN_9_3 : ixN 9 3 = some 3 := rfl
theorem ixN_9_4 : ixN 9 4 = some 4 := rfl
theorem ixN_9_5 : ixN 9 5 = some 5 := rfl
theorem ixN_9_6 : ixN 9 6 = some 6 := rfl
theorem ixN_9_7 : ixN 9 7 = some 7 := rfl
theorem ixN_9_8 : ixN 9 8 = some 8 := rfl
theorem ixN_9_m1 : ixN 9 (-1) = some 8 := rfl
theorem ixN_10_0 : ixN 10 0 = some 0 := rfl
theorem ixN_10_1 : ixN 10 1 = some 1 := rfl
theorem ixN_10_2 : ixN 10 2 = some 2 := rfl
theorem ixN_10_3 : ixN 10 3 = some 3 := rfl
theorem ixN_10_4 : ixN 10 4 = some 4 := rfl
theorem ixN_10_5 : ixN 10 5 = some 5 := rfl
theorem ixN_10_6 : ixN 10 6 = some 6 := rfl
theorem ixN_10_7 : ixN 10 7 = some 7 := rfl
theorem ixN_10_8 : ixN 10 8 = some 8 := rfl
theorem ixN_10_9 : ixN 10 9 = some 9 := rfl
theorem ixN_10_m1 : ixN 10 (-1) = some 9 := rfl
theorem ixN_11_0 : ixN 11 0 = some 0 := rfl
theorem ixN_11_1 : ixN 11 1 = some 1 := rfl
theorem ixN_11_2 : ixN 11 2 = some 2 := rfl
theorem ixN_11_3 : ixN 11 3 = some 3 := rfl
theorem ixN_11_4 : ixN 11 4 = some 4 := rfl
theorem ixN_11_5 : ixN 11 5 = some 5 := rfl
theorem ixN_11_6 : ixN 11 6 = some 6 := rfl
theorem ixN_11_7 : ixN 11 7 = some 7 := rfl
theorem ixN_11_8 : ixN 11 8 = some 8 := rfl
theorem ixN_11_9 : ixN 11 9 = some 9 := rfl
theorem ixN_11_10 : ixN 11 10 = some 10 := rfl
theorem ixN_11_m1 : ixN 11 (-1) = some 10 := rfl
theorem ixN_12_0 : ixN 12 0 = some 0 := rfl
theorem ixN_12_1 : ixN 12 1 = some 1 := rfl
theorem ixN_12_2 : ixN 12 2 = some 2 := rfl
theorem ixN_12_3 : ixN 12 3 = some 3 := rfl
theorem ixN_12_4 : ixN 12 4 = some 4 := rfl
theorem ixN_12_5 : ixN 12 5 = some 5 := rfl
theorem ixN_12_6 : ixN 12 6 = some 6 := rfl
theorem ixN_12_7 : ixN 12 7 = some 7 := rfl
theorem ixN_12_8 : ixN 12 8 = some 8 := rfl
theorem ixN_12_9 : ixN 12 9 = some 9 := rfl
theorem ixN_12_10 : ixN 12 10 = some 10 := rfl
theorem ixN_12_11 : ixN 12 11 = some 11 := rfl
theorem ixN_12_m1 : ixN 12 (-1) = some 11 := rfl
theorem ixN_13_0 : ixN 13 0 = some 0 := rfl
theorem ixN_13_1 : ixN 13 1 = some 1 := rfl
theorem ixN_13_2 : ixN 13 2 = some 2 := rfl
theorem ixN_13_3 : ixN 13 3 = some 3 := rfl
theorem ixN_13_4 : ixN 13 4 = some 4 := rfl
theorem ixN_13_5 : ixN 13 5 = some 5 := rfl
theorem ixN_13_6 : ixN 13 6 = some 6 := rfl
theorem ixN_13_7 : ixN 13 7 = some 7 := rfl
theorem ixN_13_8 : ixN 13 8 = some 8 := rfl
theorem ixN_13_9 : ixN 13 9 = some 9 := rfl
theorem ixN_13_10 : ixN 13 10 = some 10 := rfl
theorem ixN_13_11 : ixN 13 11 = some 11 := rfl
theorem ixN_13_12 : ixN 13 12 = some 12 := rfl
theorem ixN_13_m1 : ixN 13 (-1) = some 12 := rfl
theorem ixN_14_0 : ixN 14 0 = some 0 := rfl
theorem ixN_14_1 : ixN 14 1 = some 1 := rfl
theorem ixN_14_2 : ixN 14 2 = some 2 := rfl
theorem ixN_14_3 : ixN 14 3 = some 3 := rfl
theorem ixN_14_4 : ixN 14 4 = some 4 := rfl
theorem ixN_14_5 : ixN 14 5 = some 5 := rfl
theorem ixN_14_6 : ixN 14 6 = some 6 := rfl
theorem ixN_14_7 : ixN 14 7 = some 7 := rfl
theorem ixN_14_8 : ixN 14 8 = some 8 := rfl
theorem ixN_14_9 : ixN 14 9 = some 9 := rfl
theorem ixN_14_10 : ixN 14 10 = some 10 := rfl
theorem ixN_14_11 : ixN 14 11 = some 11 := rfl
theorem ixN_14_12 : ixN 14 12 = some 12 := rfl
theorem ixN_14_13 : ixN 14 13 = some 13 := rfl
theorem ixN_14_m1 : ixN 14 (-1) = some 13 := rfl
theorem ixN_15_0 : ixN 15 0 = some 0 := rfl
theorem ixN_15_1 : ixN 15 1 = some 1 := rfl
theorem ixN_15_2 : ixN 15 2 = some 2 := rfl
theorem ixN_15_3 : ixN 15 3 = some 3 := rfl
theorem ixN_15_4 : ixN 15 4 = some 4 := rfl
theorem ixN_15_5 : ixN 15 5 = some 5 := rfl
theorem ixN_15_6 : ixN 15 6 = some 6 := rfl
theorem ixN_15_7 : ixN 15 7 = some 7 := rfl
theorem ixN_15_8 : ixN 15 8 = some 8 := rfl
theorem ixN_15_9 : ixN 15 9 = some 9 := rfl
theorem ixN_15_10 : ixN 15 10 = some 10 := rfl
theorem ixN_15_11 : ixN 15 11 = some 11 := rfl
theorem ixN_15_12 : ixN 15 12 = some 12 := rfl
theorem ixN_15_13 : ixN 15 13 = some 13 := rfl
theorem ixN_15_14 : ixN 15 14 = some 14 := rfl
theorem ixN_15_m1 : ixN 15 (-1) = some 14 := rfl
theorem ix_l0 {x0 : D} : ixD (.lst (x0 :: xs)) (.int 0) = some (.fz x0) := by
  show ((ixN (x0 :: xs).length 0).bind fun n => (x0 :: xs)[n]?).map Sl.fz = _
  have e : ixN (x0 :: xs).length 0 = some 0 := by
    unfold ixN
    rw [if_pos (by decide), if_pos (by simp only [List.length_cons]; omega)]
    rfl
  rw [e]
  rfl
theorem ix_t0 {x0 : D} : ixD (.tup (x0 :: xs)) (.int 0) = some (.fz x0) := by
  show ((ixN (x0 :: xs).length 0).bind fun n => (x0 :: xs)[n]?).map Sl.fz = _
  have e : ixN (x0 :: xs).length 0 = some 0 := by
    unfold ixN
    rw [if_pos (by decide), if_pos (by simp only [List.length_cons]; omega)]
    rfl
  rw [e]
  rfl
theorem ix_l1 {x0 x1 : D} : ixD (.lst (x0 :: x1 :: xs)) (.int 1) = some (.fz x1) := by
  show ((ixN (x0 :: x1 :: xs).length 1).bind fun n => (x0 :: x1 :: xs)[n]?).map Sl.fz = _
  have e : ixN (x0 :: x1 :: xs).length 1 = some 1 := by
    unfold ixN
    rw [if_pos (by decide), if_pos (by simp only [List.length_cons]; omega)]
    rfl
  rw [e]
  rfl
theorem ix_t1 {x0 x1 : D} : ixD (.tup (x0 :: x1 :: xs)) (.int 1) = some (.fz x1) := by
  show ((ixN (x0 :: x1 :: xs).length 1).bind fun n => (x0 :: x1 :: xs)[n]?).map Sl.fz = _
  have e : ixN (x0 :: x1 :: xs).length 1 = some 1 := by
    unfold ixN
    rw [if_pos (by decide), if_pos (by simp only [List.length_cons]; omega)]
    rfl
  rw [e]
  rfl
theorem ix_l2 {x0 x1 x2 : D} : ixD (.lst (x0 :: x1 :: x2 :: xs)) (.int 2) = some (.fz x2) := by
  show ((ixN (x0 :: x1 :: x2 :: xs).length 2).bind fun n => (x0 :: x1 :: x2 :: xs)[n]?).map Sl.fz = _
  have e : ixN (x0 :: x1 :: x2 :: xs).length 2 = some 2 := by
    unfold ixN
    rw [if_pos (by decide), if_pos (by simp only [List.length_cons]; omega)]
    rfl
  rw [e]
  rfl
theorem ix_t2 {x0 x1 x2 : D} : ixD (.tup (x0 :: x1 :: x2 :: xs)) (.int 2) = some (.fz x2) := by
  show ((ixN (x0 :: x1 :: x2 :: xs).length 2).bind fun n => (x0 :: x1 :: x2 :: xs)[n]?).map Sl.fz = _
  have e : ixN (x0 :: x1 :: x2 :: xs).length 2 = some 2 := by
    unfold ixN
    rw [if_pos (by decide), if_pos (by simp only [List.length_cons]; omega)]
    rfl
  rw [e]
  rfl
theorem ix_l3 {x0 x1 x2 x3 : D} : ixD (.lst (x0 :: x1 :: x2 :: x3 :: xs)) (.int 3) = some (.fz x3) := by
  show ((ixN (x0 :: x1 :: x2 :: x3 :: xs).length 3).bind fun n => (x0 :: x1 :: x2 :: x3 :: xs)[n]?).map Sl.fz = _
  have e : ixN (x0 :: x1 :: x2 :: x3 :: xs).length 3 = some 3 := by
    unfold ixN
    rw [if_pos (by decide), if_pos (by simp only [List.length_cons]; omega)]
    rfl
  rw [e]
  rfl
theorem ix_t3 {x0 x1 x2 x3 : D} : ixD (.tup (x0 :: x1 :: x2 :: x3 :: xs)) (.int 3) = some (.fz x3) := by
  show ((ixN (x0 :: x1 :: x2 :: x3 :: xs).length 3).bind fun n => (x0 :: x1 :: x2 :: x3 :: xs)[n]?).map Sl.fz = _
  have e : ixN (x0 :: x1 :: x2 :: x3 :: xs).length 3 = some 3 := by
    unfold ixN
    rw [if_pos (by decide), if_pos (by simp only [List.length_cons]; omega)]
    rfl
  rw [e]
  rfl
theorem ix_l4 {x0 x1 x2 x3 x4 : D} : ixD (.lst (x0 :: x1 :: x2 :: x3 :: x4 :: xs)) (.int 4) = some (.fz x4) := by
  show ((ixN (x0 :: x1 :: x2 :: x3 :: x4 :: xs).length 4).bind fun n => (x0 :: x1 :: x2 :: x3 :: x4 :: xs)[n]?).map Sl.fz = _
  have e : ixN (x0 :: x1 :: x2 :: x3 :: x4 :: xs).length 4 = some 4 := by
    unfold ixN
    rw [if_pos (by decide), if_pos (by simp only [List.length_cons]; omega)]
    rfl
  rw [e]
  rfl
theorem ix_t4 {x0 x1 x2 x3 x4 : D} : ixD (.tup (x0 :: x1 :: x2 :: x3 :: x4 :: xs)) (.int 4) = some (.fz x4) := by
  show ((ixN (x0 :: x1 :: x2 :: x3 :: x4 :: xs).length 4).bind fun n => (x0 :: x1 :: x2 :: x3 :: x4 :: xs)[n]?).map Sl.fz = _
  have e : ixN (x0 :: x1 :: x2 :: x3 :: x4 :: xs).length 4 = some 4 := by
    unfold ixN
    rw [if_pos (by decide), if_pos (by simp only [List.length_cons]; omega)]
    rfl
  rw [e]
  rfl
theorem ix_l5 {x0 x1 x2 x3 x4 x5 : D} : ixD (.lst (x0 :: x1 :: x2 :: x3 :: x4 :: x5 :: xs)) (.int 5) = some (.fz x5) := by
  show ((ixN (x0 :: x1 :: x2 :: x3 :: x4 :: x5 :: xs).length 5).bind fun n => (x0 :: x1 :: x2 :: x3 :: x4 :: x5 :: xs)[n]?).map Sl.fz = _
  have e : ixN (x0 :: x1 :: x2 :: x3 :: x4 :: x5 :: xs).length 5 = some 5 := by
    unfold ixN
    rw [if_pos (by decide), if_pos (by simp only [List.length_cons]; omega)]
    rfl
  rw [e]
  rfl
theorem ix_t5 {x0 x1 x2 x3 x4 x5 : D} : ixD (.tup (x0 :: x1 :: x2 :: x3 :: x4 :: x5 :: xs)) (.int 5) = some (.fz x5) := by
  show ((ixN (x0 :: x1 :: x2 :: x3 :: x4 :: x5 :: xs).length 5).bind fun n => (x0 :: x1 :: x2 :: x3 :: x4 :: x5 :: xs)[n]?).map Sl.fz = _
  have e : ixN (x0 :: x1 :: x2 :: x3 :: x4 :: x5 :: xs).length 5 = some 5 := by
    unfold ixN
    rw [if_pos (by decide), if_pos (by simp only [List.length_cons]; omega)]
    rfl
  rw [e]
  rfl
theorem ix_l6 {x0 x1 x2 x3 x4 x5 x6 : D} : ixD (.lst (x0 :: x1 :: x2 :: x3 :: x4 :: x5 :: x6 :: xs)) (.int 6) = some (.fz x6) := by
  show ((ixN (x0 :: x1 :: x2 :: x3 :: x4 :: x5 :: x6 :: xs).length 6).bind fun n => (x0 :: x1 :: x2 :: x3 :: x4 :: x5 :: x6 :: xs)[n]?).map Sl.fz = _
  have e : ixN (x0 :: x1 :: x2 :: x3 :: x4 :: x5 :: x6 :: xs).length 6 = some 6 := by
    unfold ixN
    rw [if_pos (by decide), if_pos (by simp only [List.length_cons]; omega)]
    rfl
  rw [e]
  rfl
theorem ix_t6 {x0 x1 x2 x3 x4 x5 x6 : D} : ixD (.tup (x0 :: x1 :: x2 :: x3 :: x4 :: x5 :: x6 :: xs)) (.int 6) = some (.fz x6) := by
  show ((ixN (x0 :: x1 :: x2 :: x3 :: x4 :: x5 :: x6 :: xs).length 6).bind fun n => (x0 :: x1 :: x2 :: x3 :: x4 :: x5 :: x6 :: xs)[n]?).map Sl.fz = _
  have e : ixN (x0 :: x1 :: x2 :: x3 :: x4 :: x5 :: x6 :: xs).length 6 = some 6 := by
    unfold ixN
    rw [if_pos (by decide), if_pos (by simp only [List.length_cons]; omega)]
    rfl
  rw [e]
  rfl
theorem ix_l7 {x0 x1 x2 x3 x4 x5 x6 x7 : D} : ixD (.lst (x0 :: x1 :: x2 :: x3 :: x4 :: x5 :: x6 :: x7 :: xs)) (.int 7) = some (.fz x7) := by
  show ((ixN (x0 :: x1 :: x2 :: x3 :: x4 :: x5 :: x6 :: x7 :: xs).length 7).bind fun n => (x0 :: x1 :: x2 :: x3 :: x4 :: x5 :: x6 :: x7 :: xs)[n]?).map Sl.fz = _
  have e : ixN (x0 :: x1 :: x2 :: x3 :: x4 :: x5 :: x6 :: x7 :: xs).length 7 = some 7 := by
    unfold ixN
    rw [if_pos (by decide), if_pos (by simp only [List.length_cons]; omega)]
    rfl
  rw [e]
  rfl
theorem ix_t7 {x0 x1 x2 x3 x4 x5 x6 x7 : D} : ixD (.tup (x0 :: x1 :: x2 :: x3 :: x4 :: x5 :: x6 :: x7 :: xs)) (.int 7) = some (.fz x7) := by
  show ((ixN (x0 :: x1 :: x2 :: x3 :: x4 :: x5 :: x6 :: x7 :: xs).length 7).bind fun n => (x0 :: x1 :: x2 :: x3 :: x4 :: x5 :: x6 :: x7 :: xs)[n]?).map Sl.fz = _
  have e : ixN (x0 :: x1 :: x2 :: x3 :: x4 :: x5 :: x6 :: x7 :: xs).length 7 = some 7 := by
    unfold ixN
    rw [if_pos (by decide), if_pos (by simp only [List.length_cons]; omega)]
    rfl
  rw [e]
  rfl
theorem ix_l8 {x0 x1 x2 x3 x4 x5 x6 x7 x8 : D} : ixD (.lst (x0 :: x1 :: x2 :: x3 :: x4 :: x5 :: x6 :: x7 :: x8 :: xs)) (.int 8) = some (.fz x8) := by
  show ((ixN (x0 :: x1 :: x2 :: x3 :: x4 :: x5 :: x6 :: x7 :: x8 :: xs).length 8).bind fun n => (x0 :: x1 :: x2 :: x3 :: x4 :: x5 :: x6 :: x7 :: x8 :: xs)[n]?).map Sl.fz = _
  have e : ixN (x0 :: x1 :: x2 :: x3 :: x4 :: x5 :: x6 :: x7 :: x8 :: xs).length 8 = some 8 := by
    unfold ixN
    rw [if_pos (by decide), if_pos (by simp only [List.length_cons]; omega)]
    rfl
  rw [e]
  rfl
theorem ix_t8 {x0 x1 x2 x3 x4 x5 x6 x7 x8 : D} : ixD (.tup (x0 :: x1 :: x2 :: x3 :: x4 :: x5 :: x6 :: x7 :: x8 :: xs)) (.int 8) = some (.fz x8) := by
  show ((ixN (x0 :: x1 :: x2 :: x3 :: x4 :: x5 :: x6 :: x7 :: x8 :: xs).length 8).bind fun n => (x0 :: x1 :: x2 :: x3 :: x4 :: x5 :: x6 :: x7 :: x8 :: xs)[n]?).map Sl.fz = _
  have e : ixN (x0 :: x1 :: x2 :: x3 :: x4 :: x5 :: x6 :: x7 :: x8 :: xs).length 8 = some 8 := by
    unfold ixN
    rw [if_pos (by decide), if_pos (by simp only [List.length_cons]; omega)]
    rfl
  rw [e]
  rfl
theorem ix_l9 {x0 x1 x2 x3 x4 x5 x6 x7 x8 x9 : D} : ixD (.lst (x0 :: x1 :: x2 :: x3 :: x4 :: x5 :: x6 :: x7 :: x8 :: x9 :: xs)) (.int 9) = some (.fz x9) := by
  show ((ixN (x0 :: x1 :: x2 :: x3 :: x4 :: x5 :: x6 :: x7 :: x8 :: x9 :: xs).length 9).bind fun n => (x0 :: x1 :: x2 :: x3 :: x4 :: x5 :: x6 :: x7 :: x8 :: x9 :: xs)[n]?).map Sl.fz = _
  have e : ixN (x0 :: x1 :: x2 :: x3 :: x4 :: x5 :: x6 :: x7 :: x8 :: x9 :: xs).length 9 = some 9 := by
    unfold ixN
    rw [if_pos (by decide), if_pos (by simp only [List.length_cons]; omega)]
    rfl
  rw [e]
  rfl
theorem ix_t9 {x0 x1 x2 x3 x4 x5 x6 x7 x8 x9 : D} : ixD (.tup (x0 :: x1 :: x2 :: x3 :: x4 :: x5 :: x6 :: x7 :: x8 :: x9 :: xs)) (.int 9) = some (.fz x9) := by
  show ((ixN (x0 :: x1 :: x2 :: x3 :: x4 :: x5 :: x6 :: x7 :: x8 :: x9 :: xs).length 9).bind fun n => (x0 :: x1 :: x2 :: x3 :: x4 :: x5 :: x6 :: x7 :: x8 :: x9 :: xs)[n]?).map Sl.fz = _
  have e : ixN (x0 :: x1 :: x2 :: x3 :: x4 :: x5 :: x6 :: x7 :: x8 :: x9 :: xs).length 9 = some 9 := by
    unfold ixN
    rw [if_pos (by decide), if_pos (by simp only [List.length_cons]; omega)]
    rfl
  rw [e]
  rfl
theorem ix_l10 {x0 x1 x2 x3 x4 x5 x6 x7 x8 x9 x10 : D} : ixD (.lst (x0 :: x1 :: x2 :: x3 :: x4 :: x5 :: x6 :: x7 :: x8 :: x9 :: x10 :: xs)) (.int 10) = some (.fz x10) := by
  show ((ixN (x0 :: x1 :: x2 :: x3 :: x4 :: x5 :: x6 :: x7 :: x8 :: x9 :: x10 :: xs).length 10).bind fun n => (x0 :: x1 :: x2 :: x3 :: x4 :: x5 :: x6 :: x7 :: x8 :: x9 :: x10 :: xs)[n]?).map Sl.fz = _
  have e : ixN (x0 :: x1 :: x2 :: x3 :: x4 :: x5 :: x6 :: x7 :: x8 :: x9 :: x10 :: xs).length 10 = some 10 := by
    unfold ixN
    rw [if_pos (by decide), if_pos (by simp only [List.length_cons]; omega)]
    rfl
  rw [e]
  rfl
theorem ix_t10 {x0 x1 x2 x3 x4 x5 x6 x7 x8 x9 x10 : D} : ixD (.tup (x0 :: x1 :: x2 :: x3 :: x4 :: x5 :: x6 :: x7 :: x8 :: x9 :: x10 :: xs)) (.int 10) = some (.fz x10) := by
  show ((ixN (x0 :: x1 :: x2 :: x3 :: x4 :: x5 :: x6 :: x7 :: x8 :: x9 :: x10 :: xs).length 10).bind fun n => (x0 :: x1 :: x2 :: x3 :: x4 :: x5 :: x6 :: x7 :: x8 :: x9 :: x10 :: xs)[n]?).map Sl.fz = _
  have e : ixN (x0 :: x1 :: x2 :: x3 :: x4 :: x5 :: x6 :: x7 :: x8 :: x9 :: x10 :: xs).length 10 = some 10 := by
    unfold ixN
    rw [if_pos (by decide), if_pos (by simp only [List.length_cons]; omega)]
    rfl
  rw [e]
  rfl
theorem ix_l11 {x0 x1 x2 x3 x4 x5 x6 x7 x8 x9 x10 x11 : D} : ixD (.lst (x0 :: x1 :: x2 :: x3 :: x4 :: x5 :: x6 :: x7 :: x8 :: x9 :: x10 :: x11 :: xs)) (.int 11) = some (.fz x11) := by
  show ((ixN (x0 :: x1 :: x2 :: x3 :: x4 :: x5 :: x6 :: x7 :: x8 :: x9 :: x10 :: x11 :: xs).length 11).bind fun n => (x0 :: x1 :: x2 :: x3 :: x4 :: x5 :: x6 :: x7 :: x8 :: x9 :: x10 :: x11 :: xs)[n]?).map Sl.fz = _
  have e : ixN (x0 :: x1 :: x2 :: x3 :: x4 :: x5 :: x6 :: x7 :: x8 :: x9 :: x10 :: x11 :: xs).length 11 = some 11 := by
    unfold ixN
    rw [if_pos (by decide), if_pos (by simp only [List.length_cons]; omega)]
    rfl
  rw [e]
  rfl
theorem ix_t11 {x0 x1 x2 x3 x4 x5 x6 x7 x8 x9 x10 x11 : D} : ixD (.tup (x0 :: x1 :: x2 :: x3 :: x4 :: x5 :: x6 :: x7 :: x8 :: x9 :: x10 :: x11 :: xs)) (.int 11) = some (.fz x11) := by
  show ((ixN (x0 :: x1 :: x2 :: x3 :: x4 :: x5 :: x6 :: x7 :: x8 :: x9 :: x10 :: x11 :: xs).length 11).bind fun n => (x0 :: x1 :: x2 :: x3 :: x4 :: x5 :: x6 :: x7 :: x8 :: x9 :: x10 :: x11 :: xs)[n]?).map Sl.fz = _
  have e : ixN (x0 :: x1 :: x2 :: x3 :: x4 :: x5 :: x6 :: x7 :: x8 :: x9 :: x10 :: x11 :: xs).length 11 = some 11 := by
    unfold ixN
    rw [if_pos (by decide), if_pos (by simp only [List.length_cons]; omega)]
    rfl
  rw [e]
  rfl
theorem ix_l12 {x0 x1 x2 x3 x4 x5 x6 x7 x8 x9 x10 x11 x12 : D} : ixD (.lst (x0 :: x1 :: x2 :: x3 :: x4 :: x5 :: x6 :: x7 :: x8 :: x9 :: x10 :: x11 :: x12 :: xs)) (.int 12) = some (.fz x12) := by
  show ((ixN (x0 :: x1 :: x2 :: x3 :: x4 :: x5 :: x6 :: x7 :: x8 :: x9 :: x10 :: x11 :: x12 :: xs).length 12).bind fun n => (x0 :: x1 :: x2 :: x3 :: x4 :: x5 :: x6 :: x7 :: x8 :: x9 :: x10 :: x11 :: x12 :: xs)[n]?).map Sl.fz = _
  have e : ixN (x0 :: x1 :: x2 :: x3 :: x4 :: x5 :: x6 :: x7 :: x8 :: x9 :: x10 :: x11 :: x12 :: xs).length 12 = some 12 := by
    unfold ixN
    rw [if_pos (by decide), if_pos (by simp only [List.length_cons]; omega)]
    rfl
  rw [e]
  rfl
theorem ix_t12 {x0 x1 x2 x3 x4 x5 x6 x7 x8 x9 x10 x11 x12 : D} : ixD (.tup (x0 :: x1 :: x2 :: x3 :: x4 :: x5 :: x6 :: x7 :: x8 :: x9 :: x10 :: x11 :: x12 :: xs)) (.int 12) = some (.fz x12) := by
  show ((ixN (x0 :: x1 :: x2 :: x3 :: x4 :: x5 :: x6 :: x7 :: x8 :: x9 :: x10 :: x11 :: x12 :: xs).length 12).bind fun n => (x0 :: x1 :: x2 :: x3 :: x4 :: x5 :: x6 :: x7 :: x8 :: x9 :: x10 :: x11 :: x12 :: xs)[n]?).map Sl.fz = _
  have e : ixN (x0 :: x1 :: x2 :: x3 :: x4 :: x5 :: x6 :: x7 :: x8 :: x9 :: x10 :: x11 :: x12 :: xs).length 12 = some 12 := by
    unfold ixN
    rw [if_pos (by decide), if_pos (by simp only [List.length_cons]; omega)]
    rfl
  rw [e]
  rfl
theorem ix_l13 {x0 x1 x2 x3 x4 x5 x6 x7 x8 x9 x10 x11 x12 x13 : D} : ixD (.lst (x0 :: x1 :: x2 :: x3 :: x4 :: x5 :: x6 :: x7 :: x8 :: x9 :: x10 :: x11 :: x12 :: x13 :: xs)) (.int 13) = some (.fz x13) := by
  show ((ixN (x0 :: x1 :: x2 :: x3 :: x4 :: x5 :: x6 :: x7 :: x8 :: x9 :: x10 :: x11 :: x12 :: x13 :: xs).length 13).bind fun n => (x0 :: x1 :: x2 :: x3 :: x4 :: x5 :: x6 :: x7 :: x8 :: x9 :: x10 :: x11 :: x12 :: x13 :: xs)[n]?).map Sl.fz = _
  have e : ixN (x0 :: x1 :: x2 :: x3 :: x4 :: x5 :: x6 :: x7 :: x8 :: x9 :: x10 :: x11 :: x12 :: x13 :: xs).length 13 = some 13 := by
    unfold ixN
    rw [if_pos (by decide), if_pos (by simp only [List.length_cons]; omega)]
    rfl
  rw [e]
  rfl
theorem ix_t13 {x0 x1 x2 x3 x4 x5 x6 x7 x8 x9 x10 x11 x12 x13 : D} : ixD (.tup (x0 :: x1 :: x2 :: x3 :: x4 :: x5 :: x6 :: x7 :: x8 :: x9 :: x10 :: x11 :: x12 :: x13 :: xs)) (.int 13) = some (.fz x13) := by
  show ((ixN (x0 :: x1 :: x2 :: x3 :: x4 :: x5 :: x6 :: x7 :: x8 :: x9 :: x10 :: x11 :: x12 :: x13 :: xs).length 13).bind fun n => (x0 :: x1 :: x2 :: x3 :: x4 :: x5 :: x6 :: x7 :: x8 :: x9 :: x10 :: x11 :: x12 :: x13 :: xs)[n]?).map Sl.fz = _
  have e : ixN (x0 :: x1 :: x2 :: x3 :: x4 :: x5 :: x6 :: x7 :: x8 :: x9 :: x10 :: x11 :: x12 :: x13 :: xs).length 13 = some 13 := by
    unfold ixN
    rw [if_pos (by decide), if_pos (by simp only [List.length_cons]; omega)]
    rfl
  rw [e]
  rfl
end
end Mi

namespace Mi
open PySem PySem.Spec PyProof.Rows L2
/-! ### reckoning with loops, comprehensions, try -/
section
variable {s : Option Sl} {l ρ : Env} {a b c m : Ex} {t : Te} {A B : Sm} {g : Tg} {mi : Mi'} {d : D} {ds xs : List D} {x : Sl} {r : SR} {k : Env → SR} {ws : List Nat} {i : Nat}
theorem ev_for : sFor mi g B (s :: l) = (mi (s :: l)).toS fun ds ρ1 => loopF g B ds ρ1 := rfl
theorem ev_iSeq : iSeq m (s :: l) = (m (s :: l)).bind fun r ρ1 => mkI r.d.iter ρ1 := rfl
theorem ev_mkI : mkI (some ds) ρ = .ok ds ρ := rfl
theorem ev_iter_l : D.iter (.lst ds) = some ds := rfl
theorem ev_iter_t : D.iter (.tup ds) = some ds := rfl
theorem ev_iter_s : D.iter (.scr ds) = some ds := rfl
theorem ev_turn_nx : turned (.nx ρ) k = k ρ := rfl
theorem ev_turn_ct : turned (.ct ρ) k = k ρ := rfl
theorem ev_turn_bk : turned (.bk ρ) k = .nx ρ := rfl
theorem ev_turn_rt : turned (.rt x ρ) k = .rt x ρ := rfl
theorem ev_turn_ex {z : Str} : turned (.ex z ρ) k = .ex z ρ := rfl
theorem ev_loop0 : loopF g B [] ρ = .nx ρ := rfl
def forR (B : Sm) (k : Env → SR) : Option Env → SR
  | some ρ => turned (B ρ) k
  | none => .no
theorem loop_cons : loopF g B (d :: ds) ρ = forR B (loopF g B ds) (g d ρ) := by
  show (match g d ρ with
    | some ρ1 => turned (B ρ1) (loopF g B ds)
    | none => .no) = _
  cases g d ρ <;> rfl
theorem ev_forR : forR B k (some ρ) = turned (B ρ) k := rfl
theorem ev_range1 : iRange1 m (s :: l) = (runE [m] (s :: l)).bind fun ds ρ1 => mkI (range1D ds) ρ1 := rfl
theorem ev_range2 : iRange2 a b (s :: l) = (runE [a, b] (s :: l)).bind fun ds ρ1 => mkI (range2D ds) ρ1 := rfl
theorem ev_range1D {n : Int} (h0 : -1000000000 ≤ n) (h : n ≤ 1000000000) : range1D [.int n] = some (rangeL 0 n.toNat) := by
  show (if -RB ≤ n ∧ n ≤ RB then some (rangeL 0 n.toNat) else none) = _
  unfold RB
  exact if_pos ⟨h0, h⟩
theorem ev_enum {ms : List Ex} : iEnumE ms (s :: l) = (runE ms (s :: l)).bind fun ds ρ1 => mkI (enumI ds) ρ1 := rfl
theorem ev_enumI : enumI [.lst ds] = some (enumD ds) := rfl
theorem ev_zip {ms : List Ex} : iZipE ms (s :: l) = (runE ms (s :: l)).bind fun ds ρ1 => mkI (zipI ds) ρ1 := rfl
def wipeG (ws : List Nat) : Nat → Env → Env
  | _, [] => []
  | n, e :: l => (if ws.contains n then none else e) :: wipeG ws (n + 1) l
theorem wipe_eq : wipeE ρ ws = wipeG ws 0 ρ := by
  have key : ∀ (ρ : Env) (n : Nat), ρ.mapIdx (fun i e => if ws.contains (n + i) then none else e) = wipeG ws n ρ := fun ρ => by
    induction ρ with
    | nil => intro n; rfl
    | cons e l ih =>
      intro n
      rw [List.mapIdx_cons]
      show (if ws.contains (n + 0) then none else e) :: _ = _ :: wipeG ws (n + 1) l
      rw [← ih (n + 1), Nat.add_zero]
      congr 1
      congr 1
      funext i x
      rw [Nat.add_right_comm, Nat.add_assoc]
  have := key ρ 0
  rw [← this]
  unfold wipeE
  congr 1
  funext i e
  rw [Nat.zero_add]
theorem ev_wipe0 {n : Nat} : wipeG ws n [] = [] := rfl
theorem ev_wipe1 {n : Nat} : wipeG ws n (s :: l) = (if ws.contains n then none else s) :: wipeG ws (n + 1) l := rfl
def unO (e : Option Sl) : Option (Option Sl) → Option Sl
  | some (some (.fz d)) => some (.fz d)
  | _ => none
def unG (ws : List Nat) (ρ1 : Env) : Nat → Env → Env
  | _, [] => []
  | n, e :: l => (if ws.contains n then unO e ρ1[n]? else e) :: unG ws ρ1 (n + 1) l
theorem unwipe_eq {ρ1 : Env} : unwipe ws ρ1 ρ = unG ws ρ1 0 ρ := by
  have key : ∀ (ρ : Env) (n : Nat), ρ.mapIdx (fun i e => if ws.contains (n + i) then unO e ρ1[n + i]? else e) = unG ws ρ1 n ρ := fun ρ => by
    induction ρ with
    | nil => intro n; rfl
    | cons e l ih =>
      intro n
      rw [List.mapIdx_cons]
      show (if ws.contains (n + 0) then unO e ρ1[n + 0]? else e) :: _ = _ :: unG ws ρ1 (n + 1) l
      rw [← ih (n + 1), Nat.add_zero]
      congr 1
      congr 1
      funext i x
      rw [Nat.add_right_comm, Nat.add_assoc]
  have := key ρ 0
  rw [← this]
  unfold unwipe
  congr 1
  funext i e
  rw [Nat.zero_add]
  rfl
theorem ev_un0 {n : Nat} {ρ1 : Env} : unG ws ρ1 n [] = [] := rfl
theorem ev_un1 {n : Nat} {ρ1 : Env} : unG ws ρ1 n (s :: l) = (if ws.contains n then unO s ρ1[n]? else s) :: unG ws ρ1 (n + 1) l := rfl
theorem ev_unO_f {e : Option Sl} : unO e (some (some (.fz d))) = some (.fz d) := rfl
theorem ev_unO_n {e : Option Sl} : unO e (some none) = none := rfl
theorem ev_comp {te : Ex} : mComp mi g t te ws (s :: l) = (mi (s :: l)).bind fun ds ρ1 => (loopC (turnC g t te ws) ds (wipeE ρ1 ws) []).bind fun acc ρ2 => .ok (.ow acc) (unwipe ws ρ1 ρ2) := rfl
theorem ev_lc0 {f : D → Env → R (Option D)} : loopC f [] ρ xs = .ok xs ρ := rfl
def lcR (k : Env → List D → R (List D)) (acc : List D) : R (Option D) → R (List D)
  | .ok (some x) ρ => if acc.length < SZ then k ρ (acc ++ [x]) else .no
  | .ok none ρ => k ρ acc
  | _ => .no
theorem lc_cons {f : D → Env → R (Option D)} : loopC f (d :: ds) ρ xs = lcR (loopC f ds) xs (f d ρ) := by
  show (match f d ρ with
    | .ok (some x) ρ1 => if xs.length < SZ then loopC f ds ρ1 (xs ++ [x]) else .no
    | .ok none ρ1 => loopC f ds ρ1 xs
    | _ => .no) = _
  cases f d ρ with
  | ok o ρ1 => cases o <;> rfl
  | ex c ρ1 => rfl
  | no => rfl
theorem ev_lcR1 {k : Env → List D → R (List D)} (h : xs.length < SZ) : lcR k xs (.ok (some d) ρ) = k ρ (xs ++ [d]) := if_pos h
theorem ev_lcR0 {k : Env → List D → R (List D)} : lcR k xs (.ok none ρ) = k ρ xs := rfl
def tcR (t : Te) (te : Ex) (ws : List Nat) : Option Env → R (Option D)
  | none => .no
  | some ρ1 => (t ρ1).bind fun b ρ2 => if b then (te ρ2).bind fun r ρ3 => .ok (some r.d) (wipeE ρ3 ws) else .ok none (wipeE ρ2 ws)
theorem ev_turnC {te : Ex} : turnC g t te ws d (s :: l) = tcR t te ws (g d (s :: l)) := by
  unfold turnC tcR
  cases g d (s :: l) <;> rfl
theorem ev_tcR {te : Ex} : tcR t te ws (some ρ) = (t ρ).bind fun b ρ2 => if b then (te ρ2).bind fun r ρ3 => .ok (some r.d) (wipeE ρ3 ws) else .ok none (wipeE ρ2 ws) := rfl
theorem ev_yes : tYesE (s :: l) = .ok true (s :: l) := rfl
def tryR (i : Nat) (su : Sm) (c : Str) (ρ : Env) : Option Bool → SR
  | some true => goneR i (su (ρ.set i (some (.fz (.exo c)))))
  | some false => .ex c ρ
  | none => .no
def tryS (tab : List (Str × Bool)) (i : Nat) (su : Sm) : SR → SR
  | .ex c ρ => tryR i su c ρ (tab.lookup c)
  | r => r
theorem ev_tryAs {tab : List (Str × Bool)} : sTryAs tab i A B (s :: l) = tryS tab i B (A (s :: l)) := by
  unfold sTryAs
  cases A (s :: l) <;> rfl
theorem ev_tryS_ex {tab : List (Str × Bool)} {z : Str} : tryS tab i B (.ex z ρ) = tryR i B z ρ (tab.lookup z) := rfl
theorem ev_tryS_nx {tab : List (Str × Bool)} : tryS tab i B (.nx ρ) = .nx ρ := rfl
theorem ev_tryS_rt {tab : List (Str × Bool)} : tryS tab i B (.rt x ρ) = .rt x ρ := rfl
theorem ev_tryR {z : Str} : tryR i B z ρ (some true) = goneR i (B (ρ.set i (some (.fz (.exo z))))) := rfl
theorem ev_gone_nx : goneR i (.nx ρ) = .nx (ρ.set i none) := rfl
theorem ev_gone_rt : goneR i (.rt x ρ) = .rt x ρ := rfl
theorem ev_nest {ms ns : List Ex} : sNest i ms ns m (s :: l) = if i < (s :: l).length then (runE ms (s :: l)).toS fun ds ρ1 => if ds.length ≤ SZ then (runE ns ρ1).toS fun es ρ2 => if es.length < SZ then (m (ρ2.set i none)).toS fun r ρ3 => .nx (ρ3.set i (some (.fz (.lst [.lst ds, .lst (es ++ [r.d])])))) else .no else .no else .no := rfl
theorem ev_isE {tab : List (Str × Bool)} {z : Str} : isE tab (.exo z) = (tab.lookup z).map okB := rfl
end
end Mi

namespace Mi
open PySem PySem.Spec PyProof.Rows L2
/-! ### what may be compared -/
def Flt (k : Nat) (d : D) : Prop := d.py.canLay0 = true ∧ d.py.depth ≤ k
theorem pyL_flt {k : Nat} : ∀ {xs : List D}, (∀ x ∈ xs, Flt k x) → PyData.canLayAll0 (pyL xs) = true ∧ PyData.depthAll (pyL xs) ≤ k
  | [], _ => ⟨rfl, Nat.zero_le _⟩
  | x :: xs, h => by
    obtain ⟨h1, h2⟩ := h x (List.mem_cons_self ..)
    obtain ⟨h3, h4⟩ := pyL_flt fun y hy => h y (List.mem_cons_of_mem _ hy)
    refine ⟨?_, ?_⟩
    · show (PyData.canLay0 x.py && PyData.canLayAll0 (pyL xs)) = true
      rw [h1, h3]
      rfl
    · show max (PyData.depth x.py) (PyData.depthAll (pyL xs)) ≤ k
      omega
theorem flt_lst {k : Nat} {xs : List D} (h : ∀ x ∈ xs, Flt k x) : Flt (k + 1) (.lst xs) := ⟨(pyL_flt h).1, Nat.succ_le_succ (pyL_flt h).2⟩
theorem flt_tup {k : Nat} {xs : List D} (h : ∀ x ∈ xs, Flt k x) : Flt (k + 1) (.tup xs) := ⟨(pyL_flt h).1, Nat.succ_le_succ (pyL_flt h).2⟩
theorem flt_int {k : Nat} {i : Int} : Flt k (.int i) := ⟨rfl, Nat.zero_le _⟩
theorem flt_str {k : Nat} {z : Str} (h : PySem.PyData.strOk z = true) : Flt k (.str z) := ⟨h, Nat.zero_le _⟩
theorem sh_flt {k : Nat} {d : D} (h : Flt k d) (hk : k ≤ 64) : D.sh d = true := by
  show (d.py.canLay0 && decide (d.py.depth ≤ 64)) = true
  rw [h.1, decide_eq_true (Nat.le_trans h.2 hk)]
  rfl
/-- L and R -/
def sideS (q : Bool) : Str := if q then "L" else "R"
def runD (r : Bool × Int) : D := .tup [.str (sideS r.1), .int r.2]
theorem flt_run (r : Bool × Int) : Flt 1 (runD r) := flt_tup fun x hx => by
  simp only [List.mem_cons, List.not_mem_nil, or_false] at hx
  rcases hx with rfl | rfl
  · refine flt_str ?_
    cases r.1 <;> decide +kernel
  · exact flt_int
theorem flt_runs (l : List (Bool × Int)) : Flt 2 (.lst (l.map runD)) := flt_lst fun x hx => by
  obtain ⟨r, _, rfl⟩ := List.mem_map.mp hx
  exact flt_run r
theorem sh_runs (l : List (Bool × Int)) : D.sh (.lst (l.map runD)) = true := sh_flt (flt_runs l) (by decide)
theorem sh_side (q : Bool) : D.sh (.str (sideS q)) = true := by cases q <;> decide +kernel
theorem side_eq (p q : Bool) : (sideS p == sideS q) = (p == q) := by cases p <;> cases q <;> decide +kernel
theorem ne_nil (l : List (Bool × Int)) : neD (.lst (l.map runD)) (.lst []) = some (.fz (.bl !l.isEmpty)) := by
  unfold neD
  rw [sh_runs, show D.sh (.lst []) = true by decide +kernel]
  cases l <;> rfl
theorem ix_last {xs : List D} {d : D} : ixD (.lst (xs ++ [d])) (.int (-1)) = some (.fz d) := by
  show ((ixN (xs ++ [d]).length (-1)).bind fun n => (xs ++ [d])[n]?).map Sl.fz = _
  have e : ixN (xs ++ [d]).length (-1) = some xs.length := by
    unfold ixN
    rw [if_neg (by decide), if_pos (by rw [List.length_append]; simp; omega)]
    congr 1
    rw [List.length_append, List.length_cons, List.length_nil]
    omega
  rw [e]
  simp
theorem ixN_last {xs : List D} {d : D} : ixN (xs ++ [d]).length (-1) = some xs.length := by
  unfold ixN
  rw [if_neg (by decide), if_pos (by rw [List.length_append]; simp; omega)]
  congr 1
  rw [List.length_append, List.length_cons, List.length_nil]
  omega
theorem set_last {xs : List D} {d e : D} : (xs ++ [d]).set xs.length e = xs ++ [e] := by
  induction xs with
  | nil => rfl
  | cons x xs ih => simp [ih]
end Mi

namespace Mi
open PySem PySem.Spec PyProof.Rows L2
/-! ### reckoning with slices, zip, isinstance, in -/
section
variable {s : Option Sl} {l ρ : Env} {o : Opd} {lo hi : Part} {d : D} {ds es : List D} {i : Int}
theorem ev_sl : mSl o lo hi (s :: l) = if okV (s :: l) o then (o.run (s :: l)).bind fun p ρ1 => (lo.run ρ1).bind fun l ρ2 => (hi.run ρ2).bind fun h ρ3 => mk (get1 (sliceD l h) ρ3 p) ρ3 else .no := rfl
def partR (ρ : Env) : Option D → R (Option Int)
  | some (.int i) => .ok (some i) ρ
  | _ => .no
theorem ev_part0 : Part.run ρ .no = .ok none ρ := rfl
theorem ev_part1 : Part.run (s :: l) (.e o) = if okV (s :: l) o then (o.run (s :: l)).bind fun p ρ1 => partR ρ1 (p.get ρ1) else .no := by
  unfold Part.run
  congr 1
theorem ev_partR : partR ρ (some (.int i)) = .ok (some i) ρ := rfl
theorem ev_sl_t {a b : Option Int} : sliceD a b (.tup ds) = some (.fz (.tup (cutG ds a b))) := rfl
theorem ev_sl_l {a b : Option Int} : sliceD a b (.lst ds) = some (.ow (cutG ds a b)) := rfl
theorem cut1 {α : Type} : ∀ (ds : List α), cutG ds (some 1) none = ds.drop 1
  | [] => rfl
  | x :: ds => by
    have e : HT.sIx (x :: ds).length 0 (some 1) = 1 := by
      show (if (1 : Int) < 0 then ((1 : Int) + ((x :: ds).length : Int)).toNat else min (1 : Int).toNat (x :: ds).length) = 1
      rw [if_neg (by decide)]
      show min 1 (ds.length + 1) = 1
      omega
    unfold cutG
    rw [e]
    apply List.take_of_length_le
    rw [List.length_drop]
    exact Nat.le_refl _
theorem ev_cast0 : ((0 : Nat) : Int) = 0 := rfl
theorem ev_cast1 : ((1 : Nat) : Int) = 1 := rfl
theorem ev_cast2 : ((2 : Nat) : Int) = 2 := rfl
theorem ev_cast3 : ((3 : Nat) : Int) = 3 := rfl
theorem ev_cast4 : ((4 : Nat) : Int) = 4 := rfl
theorem ev_cast5 : ((5 : Nat) : Int) = 5 := rfl
theorem ev_cast6 : ((6 : Nat) : Int) = 6 := rfl
theorem ev_cast7 : ((7 : Nat) : Int) = 7 := rfl
theorem ev_cast8 : ((8 : Nat) : Int) = 8 := rfl
theorem ev_cast9 : ((9 : Nat) : Int) = 9 := rfl
theorem ev_cast10 : ((10 : Nat) : Int) = 10 := rfl
theorem ev_cast11 : ((11 : Nat) : Int) = 11 := rfl
theorem ev_cast12 : ((12 : Nat) : Int) = 12 := rfl
theorem ev_cast13 : ((13 : Nat) : Int) = 13 := rfl
theorem ev_cast14 : ((14 : Nat) : Int) = 14 := rfl
theorem ev_cast15 : ((15 : Nat) : Int) = 15 := rfl
theorem ev_cast16 : ((16 : Nat) : Int) = 16 := rfl
theorem ev_cast17 : ((17 : Nat) : Int) = 17 := rfl
theorem ev_cast18 : ((18 : Nat) : Int) = 18 := rfl
theorem ev_cast19 : ((19 : Nat) : Int) = 19 := rfl
theorem ev_cast20 : ((20 : Nat) : Int) = 20 := rfl
theorem ev_add_t (h : ds.length + es.length ≤ SZ) : addD (.tup ds) (.tup es) = some (.fz (.tup (ds ++ es))) := if_pos h
theorem ev_isi_tt : isiD "tuple" (.tup ds) = some (.fz (.bl true)) := by kernel_rfl
theorem ev_isi_ti : isiD "tuple" (.int i) = some (.fz (.bl false)) := by kernel_rfl
theorem ev_is_t : isD (.tup ds) .non = some (.fz (.bl false)) := rfl
theorem ev_isnot_t : isNotD (.tup ds) .non = some (.fz (.bl true)) := rfl
theorem ev_isnot_n : isNotD .non .non = some (.fz (.bl false)) := rfl
theorem ev_zip_tt : zipI [.tup ds, .tup es] = some (zipD ds es) := rfl
theorem ev_zip_ll : zipI [.lst ds, .lst es] = some (zipD ds es) := rfl
end
end Mi

namespace Mi
open PySem PySem.Spec PyProof.Rows L2

/-! ### dict displays and d[k] -/
def valD (kvs : List (Key × D)) (k : Key) : Option D := (kvs.find? fun kv => decide (kv.1 = k)).map (·.2)
def dgetD : Op2
  | .dic kvs, .int i => (valD kvs (.inl i)).map .fz
  | .dic kvs, .str s => (valD kvs (.inr s)).map .fz
  | _, _ => none
theorem FzK.val {K : PySem.W.Frag} {F : Hp} {k : Key} {d : D} : ∀ {kvs : List (Key × D)} {ws : List (Key × V)}, FzK K F kvs ws → valD kvs k = some d → ∃ v, valV ws k = some v ∧ Fz K F d v
  | [], _, _, h => by cases h
  | (q, x) :: r, ws, ⟨v, w2, e, hx, hr⟩, h => by
    subst e
    by_cases hk : q = k
    · have : valD ((q, x) :: r) k = some x := by simp [valD, List.find?_cons, hk]
      rw [this] at h
      cases h
      exact ⟨v, valV_pos hk, hx⟩
    · have : valD ((q, x) :: r) k = valD r k := by simp [valD, List.find?_cons, hk]
      rw [this] at h
      obtain ⟨u, h1, h2⟩ := FzK.val hr h
      exact ⟨u, by rw [valV_neg hk]; exact h1, h2⟩
def rDGet : R2 := fun x y H Q => ∃ a v, x = .ref a ∧ DGet H a y (some v) ∧ Q v H
theorem ok_dget {K : PySem.W.Frag} : OpOk K rDGet dgetD := by
  intro F H x y dx dy z Q e qx qy h w
  cases dx <;> cases dy <;> first | (simp [dgetD] at h; done) | skip
  · rename_i kvs i
    obtain ⟨a, ws, rfl, h1, h2⟩ := qx.dic
    cases qy.int
    have h : (valD kvs (.inl i)).map Sl.fz = some z := h
    cases hd : valD kvs (.inl i) with
    | none => rw [hd] at h; cases h
    | some d =>
      rw [hd] at h; cases h
      obtain ⟨v, e1, e2⟩ := h2.val hd
      exact ⟨a, v, rfl, .inl ⟨ws, .inl i, .inl (e _ _ h1), rfl, e1.symm⟩, w.fz e e2⟩
  · rename_i kvs i
    obtain ⟨a, ws, rfl, h1, h2⟩ := qx.dic
    cases qy.str
    have h : (valD kvs (.inr i)).map Sl.fz = some z := h
    cases hd : valD kvs (.inr i) with
    | none => rw [hd] at h; cases h
    | some d =>
      rw [hd] at h; cases h
      obtain ⟨v, e1, e2⟩ := h2.val hd
      exact ⟨a, v, rfl, .inl ⟨ws, .inr i, .inl (e _ _ h1), rfl, e1.symm⟩, w.fz e e2⟩
section
variable {X : Cx} {W : WX} {io : Nat → Option Addr} {a b : Expr} {oa ob : Opd} {pos : Pos}
theorem je_dget (hu : X.A.units + 64 < cLine) (ha : JO X W io a oa) (hb : JO X W io b ob) (hs : NoSl b := by exact fun _ _ => rfl) : JE X W io (.Subscript a b pos) (mOp2 dgetD oa ob) :=
  ⟨pei (pe_dget (by omega) ha.pe hb.pe hs) fun _ _ _ h => op2_core ok_dget h⟩
end

section
variable {K : PySem.W.Frag} {W : WX} {io : Nat → Option Addr} {P P' F F' : Hp} {σ : L2.St} {Q : VK} {H : Hp} {ρ : Env}
/-- less to be left alone -/
theorem St.less (S : St K io P' F ρ σ H) (pp : Same P P') : St K io P F ρ σ H where
  fh := S.fh
  ph := pp.trans S.ph
  pf := fun a o q => S.pf a o (pp _ _ q)
  len := S.len
  fz := S.fz
  ow := fun i xs q => by
    obtain ⟨a, vs, h1, h2, h3, h4, h5⟩ := S.ow i xs q
    refine ⟨a, vs, h1, h2, h3, h4, ?_⟩
    cases z : P a with
    | none => rfl
    | some u => rw [pp _ _ z] at h5; cases h5
  ia := S.ia
  ds := S.ds
theorem tJ_bindP {m : Ex} {f : Sl → Env → R Sl} {Q' : VK} (pp : Same P P') (S : St K io P' F ρ σ H) (h : ToE K W io P F σ Q ((m ρ).bind f))
    (k : ∀ r ρ1 v H1 F1, Same F F1 → St K io P' F1 ρ1 σ H1 → Rel K P' F1 ρ1 σ H1 v r → ToE K W io P F1 σ Q (f r ρ1) → Q' v H1) : tJ K W io m σ H Q' := by
  refine ⟨P', F, ρ, S, ?_⟩
  cases e : m ρ with
  | ok r ρ1 => rw [e] at h; exact fun v H' F' s S' R' => k r ρ1 v H' F' s S' R' (ToE.up s h)
  | ex c ρ1 => rw [e] at h; exact fun H' F' s S' => h H' F' s (S'.less pp)
  | no => rw [e] at h; exact h.elim
def trD (K : PySem.W.Frag) (W : WX) (io : Nat → Option Addr) : List Key → List Ex → List (TE × TE)
  | q :: qs, m :: ms => (tC (kV q), tJ K W io m) :: trD K W io qs ms
  | _, _ => []
theorem tD_bind (pp : Same P P') : ∀ (qs : List Key) (ms : List Ex) {f : List D → Env → R Sl} {Q' : List (V × V) → Hp → Prop} {F : Hp} {ρ : Env} {H : Hp}, qs.length = ms.length → St K io P' F ρ σ H → ToE K W io P F σ Q ((runE ms ρ).bind f) →
    (∀ ds ρ1 (ws : List (Key × V)) H1 F1, Same F F1 → St K io P' F1 ρ1 σ H1 → FzK K F1 (qs.zip ds) ws → ds.length = ms.length → ToE K W io P F1 σ Q (f ds ρ1) → Q' (ws.map fun kv => (kV kv.1, kv.2)) H1) → tPairs (trD K W io qs ms) σ H Q'
  | [], [], f, Q', F, ρ, H, _, S, h, k => k [] ρ [] H F (Same.refl _) S rfl rfl h
  | q :: qs, m :: ms, f, Q', F, ρ, H, hl, S, h, k => by
    have e : (runE (m :: ms) ρ).bind f = (m ρ).bind fun x ρ1 => (runE ms ρ1).bind fun ds ρ2 => f (x.d :: ds) ρ2 := by
      show R.bind ((m ρ).bind fun x ρ1 => (runE ms ρ1).bind fun ds ρ2 => .ok (x.d :: ds) ρ2) f = _
      rw [R.bind_assoc]
      congr 1
      funext p ρ1
      rw [R.bind_assoc]
      rfl
    rw [e] at h
    show tJ K W io m σ H _
    refine tJ_bindP pp S h fun x ρ1 v H1 F1 s1 S1 R1 h1 => ?_
    obtain ⟨F1', s1', S1', q1⟩ := S1.cool R1
    exact tD_bind pp qs ms (by simpa using hl) S1' (h1.up s1') fun ds ρ2 ws H2 F2 s2 S2 R2 hd h2 => k (x.d :: ds) ρ2 ((q, v) :: ws) H2 F2 ((s1.trans s1').trans s2) S2 ⟨v, ws, rfl, q1.mono s2, R2⟩ (by simp [hd]) h2
  | [], _ :: _, _, _, _, _, _, hl, _, _, _ => by simp at hl
  | _ :: _, [], _, _, _, _, _, hl, _, _, _ => by simp at hl
end

def mDisp (ks : List Key) (ms : List Ex) : Ex := fun ρ => (runE ms ρ).bind fun ds ρ1 => .ok (.fz (.dic (ks.zip ds))) ρ1
section
variable {X : Cx} {W : WX} {io : Nat → Option Addr} {pos : Pos}
def JDs (X : Cx) (W : WX) (io : Nat → Option Addr) : List (Option Expr) → List Expr → List Key → List Ex → Prop
  | [], [], [], [] => True
  | some k :: ks, v :: vs, q :: qs, m :: ms => PE X k (tC (kV q)) ∧ JE X W io v m ∧ JDs X W io ks vs qs ms
  | _, _, _, _ => False
theorem jds_nil : JDs X W io [] [] [] [] := trivial
theorem jds_str {z : Str} {j : Nat} {p : Pos} {v : Expr} {m : Ex} {ks : List (Option Expr)} {vs : List Expr} {qs : List Key} {ms : List Ex} (h : JE X W io v m) (r : JDs X W io ks vs qs ms) :
    JDs X W io (some (.Constant (.str z) j p) :: ks) (v :: vs) (.inr z :: qs) (m :: ms) := ⟨pe_str, h, r⟩
theorem jds_int {z : Int} {j : Nat} {p : Pos} {v : Expr} {m : Ex} {ks : List (Option Expr)} {vs : List Expr} {qs : List Key} {ms : List Ex} (h : JE X W io v m) (r : JDs X W io ks vs qs ms) :
    JDs X W io (some (.Constant (.int z) j p) :: ks) (v :: vs) (.inl z :: qs) (m :: ms) := ⟨pe_int, h, r⟩
theorem JDs.pps : ∀ {ks : List (Option Expr)} {vs : List Expr} {qs : List Key} {ms : List Ex}, JDs X W io ks vs qs ms → PPs X pos ks vs (trD X.K W io qs ms) ∧ ks.all (·.isSome) = true ∧ ks.length = vs.length ∧ qs.length = ms.length ∧ qs.length = ks.length
  | [], [], [], [], _ => ⟨pps_nil, rfl, rfl, rfl, rfl⟩
  | some k :: ks, v :: vs, q :: qs, m :: ms, ⟨h1, h2, h3⟩ => by
    obtain ⟨g1, g2, g3, g4, g5⟩ := JDs.pps h3
    exact ⟨pps_cons h1 h2.pe g1, by simpa using g2, by simp [g3], by simp [g4], by simp [g5]⟩
theorem FzK.fst {K : PySem.W.Frag} {F : Hp} : ∀ {kvs : List (Key × D)} {ws : List (Key × V)}, FzK K F kvs ws → ws.map (·.1) = kvs.map (·.1)
  | [], _, h => by
    have h : _ = [] := h
    rw [h]; rfl
  | (q, x) :: r, ws, ⟨v, w2, e, hx, hr⟩ => by subst e; simp [FzK.fst hr]
theorem mergeK_nodup : ∀ (ws acc : List (Key × V)), ((acc ++ ws).map (·.1)).Nodup → mergeK acc ws = acc ++ ws
  | [], acc, _ => by simp [mergeK]
  | p :: r, acc, h => by
    have e : mergeK acc (p :: r) = mergeK (putK acc p.1 p.2) r := rfl
    have h2 : putK acc p.1 p.2 = acc ++ [p] := by
      unfold putK
      rw [if_neg]
      intro hh
      rw [List.any_eq_true] at hh
      obtain ⟨x, hx, hx2⟩ := hh
      have hx2 : x.1 = p.1 := by simpa using hx2
      rw [List.map_append, List.nodup_append] at h
      exact h.2.2 x.1 (List.mem_map_of_mem hx) p.1 (by simp) hx2
    rw [e, h2, mergeK_nodup r (acc ++ [p]) (by simpa using h)]
    simp
theorem zip_fst : ∀ {qs : List Key} {ds : List D}, qs.length = ds.length → (qs.zip ds).map (·.1) = qs
  | [], [], _ => rfl
  | q :: qs, d :: ds, h => by simp [zip_fst (qs := qs) (ds := ds) (by simpa using h)]
  | [], _ :: _, h => by simp at h
  | _ :: _, [], h => by simp at h
theorem je_disp {ks : List (Option Expr)} {vs : List Expr} {qs : List Key} {ms : List Ex} (h : JDs X W io ks vs qs ms) (nd : qs.Nodup := by decide) (h0 : ks ≠ [] := by exact List.cons_ne_nil _ _) (h15 : ks.length ≤ 15 := by decide) : JE X W io (.Dict ks vs pos) (mDisp qs ms) := by
  obtain ⟨g1, g2, g3, g4, g5⟩ := h.pps (pos := pos)
  refine ⟨pei (pe_disp g1 g2 g3 h0 h15) fun σ H Q q => ?_⟩
  obtain ⟨P, F, ρ, S, q⟩ := q
  intro p hp
  have hP : P p = none := by
    cases z : P p with
    | none => rfl
    | some u => rw [S.ph _ _ z] at hp; cases hp
  have hF : F p = none := by
    cases z : F p with
    | none => rfl
    | some u => rw [S.fh _ _ z] at hp; cases hp
  have pp : Same P (upd P p (.dK [])) := fun b x e => by rw [upd_ne (ne_of_none e hP)]; exact e
  have S0 : St X.K io P F ρ σ (upd H p (.dK [])) := S.ext (Ext.laid S.fh hp)
  have S1 : St X.K io (upd P p (.dK [])) F ρ σ (upd H p (.dK [])) := by
    refine ⟨S0.fh, fun b x e => ?_, fun b x e => ?_, S0.len, S0.fz, fun i xs o => ?_, S0.ia, S0.ds⟩
    · by_cases hb : b = p
      · subst hb; rw [upd_same] at e ⊢; exact e
      · rw [upd_ne hb] at e; exact S0.ph _ _ e
    · by_cases hb : b = p
      · subst hb; exact hF
      · rw [upd_ne hb] at e; exact S0.pf _ _ e
    · obtain ⟨a, us, e1, e2, e3, e4, e5⟩ := S.ow i xs o
      have ha : a ≠ p := ne_of_none e2 hp
      exact ⟨a, us, e1, by rw [upd_ne ha]; exact e2, e3, e4, by rw [upd_ne ha]; exact e5⟩
  refine tD_bind pp qs ms g4 S1 q fun ds ρ1 ws H2 F2 s2 S2 R2 hd h2 => ?_
  have hH2 : H2 p = some (.dK []) := S2.ph _ _ upd_same
  have hF2 : F2 p = none := S2.pf _ _ upd_same
  have hw : ws.map (·.1) = qs := by rw [R2.fst]; exact zip_fst (by rw [g4, hd])
  have hm : mergeK [] ws = ws := mergeK_nodup ws [] (by rw [List.nil_append, hw]; exact nd)
  refine ⟨hH2, ws, rfl, ?_, ?_⟩
  · have : ws.length = qs.length := by rw [← hw]; simp
    rw [this, g5]; exact h15
  rw [hm]
  have sm : Same F2 (upd F2 p (.dK ws)) := fun b x e => by rw [upd_ne (ne_of_none e hF2)]; exact e
  refine h2 (.ref p) _ (upd F2 p (.dK ws)) sm ?_ ⟨p, ws, rfl, upd_same, ?_⟩
  · have S3 := S2.less pp
    refine ⟨fun b x e => ?_, fun b x e => ?_, fun b x e => ?_, S3.len, fun i d e => ?_, fun i xs o => ?_, S3.ia, S3.ds⟩
    · by_cases hb : b = p
      · subst hb; rw [upd_same] at e ⊢; exact e
      · rw [upd_ne hb] at e ⊢; exact S3.fh _ _ e
    · have hb : b ≠ p := ne_of_none e hP
      rw [upd_ne hb]; exact S3.ph _ _ e
    · have hb : b ≠ p := ne_of_none e hP
      rw [upd_ne hb]; exact S3.pf _ _ e
    · obtain ⟨v, e1, e2⟩ := S3.fz i d e
      exact ⟨v, e1, e2.mono sm⟩
    · obtain ⟨a, us, e1, e2, e3, e4, e5⟩ := S2.ow i xs o
      have ha : a ≠ p := fun z => by subst z; rw [upd_same] at e5; cases e5
      exact ⟨a, us, e1, by rw [upd_ne ha]; exact e2, e3.mono sm, by rw [upd_ne ha]; exact e4, by rw [upd_ne ha] at e5; exact e5⟩
  · exact FzK.mono sm R2
end
end Mi

namespace Mi
open PySem PySem.Spec PyProof.Rows L2

/-! ### repr of lists and tuples; two texts compared -/
def D.isSeq : D → Bool
  | .lst _ | .tup _ => true
  | _ => false
def reprD : OpN
  | [d] => if d.isSeq && d.sh && d.py.showable && decide (d.py.shown.length ≤ sizeLine) then some (.fz (.str d.py.shown)) else none
  | _ => none
def rRepr (K : PySem.W.Frag) : List V → Hp → VK → Prop := fun xs H Q => ∃ a d, xs = [V.ref a] ∧ Dp K H (.ref a) d ∧ SeqAt.shaped d = true ∧ d.showable = true ∧ d.shown.length ≤ sizeLine ∧ Q (.str d.shown) H
theorem u66 {lev : Nat} {A : Around} (h : RoomG lev A) : A.units + 66 < cLine := by
  have := h.room.un
  omega
section
variable {X : Cx}
theorem call_reprG (hg : X.A.guards = some []) (hu : X.A.units + 66 < cLine) : CallR X (.builtin "repr") (rRepr X.K) := by
  intro pins s σ H xs us Q I r h
  obtain ⟨a, d, rfl, hd, sh, sw, sz, q⟩ := h
  rw [Vals.ref1 r]
  obtain ⟨as, rd⟩ := Dp.reads I d (.ref a) (.ref a) hd rfl
  have hdep : d.depth ≤ 64 := by
    have z : (d.canLay0 && decide (d.depth ≤ 64)) = true := sh
    rw [Bool.and_eq_true, decide_eq_true_eq] at z
    exact z.2
  exact repr_of_reads' rd sw (PyData.noDict_hsm (PyData.hasDict_of_canLay d (SeqAt.canLay_of_shaped sh))) hg (by omega) (fun _ _ e => e) (fun h' u tk hk => ⟨.str _, H, I.kept hk, ⟨u, rfl⟩, q⟩) sz
end
section
variable {K : PySem.W.Frag}
theorem ok_repr : CallOk K (rRepr K) reprD := by
  intro F H vs ds z Q e q h w
  match ds, h with
  | [d], h =>
    obtain ⟨v, rfl, q1⟩ := q.one
    obtain ⟨h1, rfl⟩ := ifs h
    simp only [Bool.and_eq_true, decide_eq_true_eq] at h1
    obtain ⟨⟨⟨h2, h3⟩, h4⟩, h5⟩ := h1
    have hv : ∃ a, v = .ref a := by
      cases d <;> first | (simp [D.isSeq] at h2; done) | skip
      · obtain ⟨a, us, rfl, _⟩ := q1.tup
        exact ⟨a, rfl⟩
      · obtain ⟨a, us, rfl, _⟩ := q1.lst e
        exact ⟨a, rfl⟩
    obtain ⟨a, rfl⟩ := hv
    exact ⟨a, d.py, rfl, q1.dp e (sh_lay h3), h3, h4, h5, w.fz e rfl⟩
def eqsD : Op2
  | .str a, .str b => some (okB (decide (a = b)))
  | _, _ => none
def nesD : Op2
  | .str a, .str b => some (okB (!decide (a = b)))
  | _, _ => none
theorem dec_vstr {a b : Str} : decide (V.str a = V.str b) = decide (a = b) := by
  by_cases h : a = b <;> simp [h]
theorem ok_eqs : OpOk K rEq eqsD := by
  intro F H x y dx dy z Q e qx qy h w
  cases dx <;> cases dy <;> first | (simp [eqsD] at h; done) | skip
  cases qx.str; cases qy.str; cases h
  exact ⟨rfl, by rw [dec_vstr]; exact w.fz e rfl⟩
theorem ok_nes : OpOk K rNe nesD := by
  intro F H x y dx dy z Q e qx qy h w
  cases dx <;> cases dy <;> first | (simp [nesD] at h; done) | skip
  cases qx.str; cases qy.str; cases h
  exact ⟨rfl, by rw [dec_vstr]; exact w.fz e rfl⟩
theorem op_eqs {a b : Str} : eqsD (.str a) (.str b) = some (.fz (.bl (decide (a = b)))) := rfl
theorem op_nes {a b : Str} : nesD (.str a) (.str b) = some (.fz (.bl (!decide (a = b)))) := rfl
/-! ### max, min of a list of ints -/
def maxL : List Int → Int
  | [] => 0
  | [n] => n
  | n :: m :: r => if n < maxL (m :: r) then maxL (m :: r) else n
def minL : List Int → Int
  | [] => 0
  | [n] => n
  | n :: m :: r => if minL (m :: r) < n then minL (m :: r) else n
theorem maxL_spec : ∀ {l : List Int}, l ≠ [] → maxL l ∈ l ∧ ∀ y ∈ l, y ≤ maxL l
  | [], h => absurd rfl h
  | [n], _ => ⟨List.mem_cons_self .., fun y hy => by simp at hy; subst hy; exact Int.le_refl _⟩
  | n :: m :: r, _ => by
    obtain ⟨h1, h2⟩ := maxL_spec (l := m :: r) (by simp)
    unfold maxL
    split
    · exact ⟨List.mem_cons_of_mem _ h1, fun y hy => by
        rcases List.mem_cons.mp hy with rfl | hy
        · omega
        · exact h2 y hy⟩
    · exact ⟨List.mem_cons_self .., fun y hy => by
        rcases List.mem_cons.mp hy with rfl | hy
        · omega
        · have := h2 y hy
          omega⟩
theorem minL_spec : ∀ {l : List Int}, l ≠ [] → minL l ∈ l ∧ ∀ y ∈ l, minL l ≤ y
  | [], h => absurd rfl h
  | [n], _ => ⟨List.mem_cons_self .., fun y hy => by simp at hy; subst hy; exact Int.le_refl _⟩
  | n :: m :: r, _ => by
    obtain ⟨h1, h2⟩ := minL_spec (l := m :: r) (by simp)
    unfold minL
    split
    · exact ⟨List.mem_cons_of_mem _ h1, fun y hy => by
        rcases List.mem_cons.mp hy with rfl | hy
        · omega
        · exact h2 y hy⟩
    · exact ⟨List.mem_cons_self .., fun y hy => by
        rcases List.mem_cons.mp hy with rfl | hy
        · omega
        · have := h2 y hy
          omega⟩
def maxlD : OpN
  | [.lst xs] => match intsOf xs with
    | some (n :: ns) => some (okI (maxL (n :: ns)))
    | _ => none
  | _ => none
def minlD : OpN
  | [.lst xs] => match intsOf xs with
    | some (n :: ns) => some (okI (minL (n :: ns)))
    | _ => none
  | _ => none
theorem ok_maxl : CallOk K (rMax K) maxlD := by
  intro F H vs ds z Q e q h w
  match ds, h with
  | [.lst xs], h =>
    obtain ⟨v, rfl, q1⟩ := q.one
    obtain ⟨a, us, rfl, ha, ra⟩ := q1.lst e
    cases e1 : intsOf xs with
    | none => simp [maxlD, e1] at h
    | some l =>
      cases l with
      | nil => simp [maxlD, e1] at h
      | cons n ns =>
        have h : some (okI (maxL (n :: ns))) = some z := by simpa [maxlD, e1] using h
        cases h
        have e2 := ints_rel ra e1
        subst e2
        obtain ⟨h1, h2⟩ := maxL_spec (l := n :: ns) (by simp)
        refine ⟨a, n :: ns, rfl, .inl (.inl ha), by simp, fun m hm hle => ?_⟩
        have : m = maxL (n :: ns) := Int.le_antisymm (h2 m hm) (hle _ h1)
        subst this
        exact w.fz e rfl
theorem ok_minl : CallOk K (rMin K) minlD := by
  intro F H vs ds z Q e q h w
  match ds, h with
  | [.lst xs], h =>
    obtain ⟨v, rfl, q1⟩ := q.one
    obtain ⟨a, us, rfl, ha, ra⟩ := q1.lst e
    cases e1 : intsOf xs with
    | none => simp [minlD, e1] at h
    | some l =>
      cases l with
      | nil => simp [minlD, e1] at h
      | cons n ns =>
        have h : some (okI (minL (n :: ns))) = some z := by simpa [minlD, e1] using h
        cases h
        have e2 := ints_rel ra e1
        subst e2
        obtain ⟨h1, h2⟩ := minL_spec (l := n :: ns) (by simp)
        refine ⟨a, n :: ns, rfl, .inl (.inl ha), by simp, fun m hm hle => ?_⟩
        have : m = minL (n :: ns) := Int.le_antisymm (hle _ h1) (h2 m hm)
        subst this
        exact w.fz e rfl
theorem ints_map : ∀ l : List Int, intsOf (l.map .int) = some l
  | [] => rfl
  | n :: l => by
    show (intsOf (l.map .int)).map (fun r => n :: r) = _
    rw [ints_map l]
    rfl
theorem sum_ints (l : List Int) : sumD [.lst (l.map .int)] = some (.fz (.int l.sum)) := by
  show (intsOf (l.map .int)).map (fun r => okI r.sum) = _
  rw [ints_map]
  rfl
end
section
variable {n m : Nat} {e : Option Sl} {a b c d : D} {ps : List Pd} {w : Mi.Env}
theorem bk_of (h : look n ps w = none) : back1 n e ps w = e := by
  cases e with
  | none => rfl
  | some s =>
    cases s with
    | fz x => rfl
    | ow xs => unfold back1; simp only [h]
    | io xs => unfold back1; simp only [h]
theorem bk_d0 : back1 n e [] w = e := bk_of rfl
theorem bk_d1 : back1 n e [.d a] w = e := bk_of rfl
theorem bk_d2 : back1 n e [.d a, .d b] w = e := bk_of rfl
theorem bk_d3 : back1 n e [.d a, .d b, .d c] w = e := bk_of rfl
theorem bk_d4 : back1 n e [.d a, .d b, .d c, .d d] w = e := bk_of rfl
theorem bk_i0 (h : m ≠ n) : back1 n e [.i m] w = e := bk_of (by
  unfold look
  rw [if_neg h]
  rfl)
theorem bk_i1 (h : m ≠ n) : back1 n e [.i m, .d a] w = e := bk_of (by
  unfold look
  rw [if_neg h]
  rfl)
theorem bk_i2 (h : m ≠ n) : back1 n e [.i m, .d a, .d b] w = e := bk_of (by
  unfold look
  rw [if_neg h]
  rfl)
theorem bk_i3 (h : m ≠ n) : back1 n e [.i m, .d a, .d b, .d c] w = e := bk_of (by
  unfold look
  rw [if_neg h]
  rfl)
end
/-! ### ranges -/
def rb1 (x : R (List D)) : R (List D) := x.bind fun ds ρ1 => mkI (range1D ds) ρ1
theorem rg1_eq {s : Option Sl} {l : Env} {a : Ex} : iRange1 a (s :: l) = rb1 (runE [a] (s :: l)) := rfl
theorem rb1_ok {ρ : Env} {j : Int} (h2 : -1000000000 ≤ j) (h3 : j ≤ 1000000000) : rb1 (.ok [.int j] ρ) = .ok (rangeL 0 j.toNat) ρ := by
  unfold rb1
  rw [ev_bind_ok, ev_range1D h2 h3, ev_mkI]
theorem range2_ok {i j : Int} (h0 : -1000000000 ≤ i) (h1 : i ≤ 1000000000) (h2 : -1000000000 ≤ j) (h3 : j ≤ 1000000000) : range2D [.int i, .int j] = some (rangeL i (j - i).toNat) := by
  show (if -RB ≤ i ∧ i ≤ RB ∧ -RB ≤ j ∧ j ≤ RB then some (rangeL i (j - i).toNat) else none) = _
  unfold RB
  exact if_pos ⟨h0, h1, h2, h3⟩
def rb2 (x : R (List D)) : R (List D) := x.bind fun ds ρ1 => mkI (range2D ds) ρ1
theorem rg2_eq {s : Option Sl} {l : Env} {a b : Ex} : iRange2 a b (s :: l) = rb2 (runE [a, b] (s :: l)) := rfl
theorem rb2_ok {ρ : Env} {i j : Int} (h0 : -1000000000 ≤ i) (h1 : i ≤ 1000000000) (h2 : -1000000000 ≤ j) (h3 : j ≤ 1000000000) : rb2 (.ok [.int i, .int j] ρ) = .ok (rangeL i (j - i).toNat) ρ := by
  unfold rb2
  rw [ev_bind_ok, range2_ok h0 h1 h2 h3, ev_mkI]
theorem rangeL_succ (lo : Int) (n : Nat) : rangeL lo (n + 1) = .int lo :: rangeL (lo + 1) n := by
  unfold rangeL
  rw [List.range_succ_eq_map, List.map_cons, List.map_map]
  congr 1
  · show D.int (lo + ((0 : Nat) : Int)) = _
    congr 1
    exact Int.add_zero lo
  · apply List.map_congr_left
    intro a _
    show D.int (lo + ((a + 1 : Nat) : Int)) = .int (lo + 1 + (a : Nat))
    congr 1
    omega
/-! ### rows: x op= e, try -/
section
variable {s : Option Sl} {l ρ : Env} {i : Nat} {f : Op2} {m : Ex} {d : D} {x z : Sl} {A B : Sm} {tab : List (Str × Bool)} {c : Str}
def augS (i : Nat) (ρ : Env) : Option Sl → SR
  | some z => .nx (ρ.set i (some z))
  | none => .no
def augR (i : Nat) (f : Op2) (m : Ex) (ρ : Env) : Option (Option Sl) → SR
  | some (some (.fz d)) => (m ρ).toS fun y ρ1 => augS i ρ1 (f d y.d)
  | _ => .no
theorem ev_aug : sAug i f m (s :: l) = augR i f m (s :: l) (s :: l)[i]? := by
  unfold sAug augR
  rcases (s :: l)[i]? with _ | _ | (d | xs | xs) <;> rfl
theorem ev_augR : augR i f m ρ (some (some (.fz d))) = (m ρ).toS fun y ρ1 => augS i ρ1 (f d y.d) := rfl
theorem ev_augS : augS i ρ (some z) = .nx (ρ.set i (some z)) := rfl
def tryU (B : Sm) (c : Str) (ρ : Env) : Option Bool → SR
  | some true => coldR (B ρ)
  | some false => .ex c ρ
  | none => .no
def tryT (tab : List (Str × Bool)) (B : Sm) : SR → SR
  | .ex c ρ => tryU B c ρ (tab.lookup c)
  | r => r
theorem ev_try : sTry tab A B (s :: l) = tryT tab B (A (s :: l)) := by
  unfold sTry tryT
  cases A (s :: l) with
  | ex c ρ =>
    show (match tab.lookup c with
      | some true => coldR (B ρ)
      | some false => .ex c ρ
      | none => .no) = tryU B c ρ (tab.lookup c)
    cases tab.lookup c with
    | none => rfl
    | some b => cases b <;> rfl
  | _ => rfl
theorem ev_tryT_ex : tryT tab B (.ex c ρ) = tryU B c ρ (tab.lookup c) := rfl
theorem ev_tryT_nx : tryT tab B (.nx ρ) = .nx ρ := rfl
theorem ev_tryT_rt : tryT tab B (.rt x ρ) = .rt x ρ := rfl
theorem ev_tryT_bk : tryT tab B (.bk ρ) = .bk ρ := rfl
theorem ev_tryT_ct : tryT tab B (.ct ρ) = .ct ρ := rfl
theorem ev_tryU : tryU B c ρ (some true) = coldR (B ρ) := rfl
theorem ev_tryU0 : tryU B c ρ (some false) = .ex c ρ := rfl
theorem ev_cold_nx : coldR (.nx ρ) = .nx ρ := rfl
theorem ev_cold_rt : coldR (.rt x ρ) = .rt x ρ := rfl
theorem ev_reprD (h1 : d.isSeq = true) (h2 : d.sh = true) (h3 : d.py.showable = true) (h4 : d.py.shown.length ≤ sizeLine) : reprD [d] = some (.fz (.str d.py.shown)) := by
  unfold reprD
  simp only [h1, h2, h3, Bool.and_true, decide_eq_true h4, if_true]
end
end Mi

namespace Mi
open PySem PySem.Spec PyProof.Rows L2
/-! ### xs.count(text) -/
def strsOf : List D → Option (List Str)
  | [] => some []
  | .str i :: r => (strsOf r).map fun l => i :: l
  | _ => none
def eqS (k : Str) : Value → Bool
  | .str a _ => a == k
  | _ => false
theorem strs_at {k : Str} {t : Tok} : ∀ {ss : List Str} {us : List Value}, Vals (ss.map V.str) us → (∀ y ∈ us, ∀ (A : Around) (s : Shared), SeqAt.EqAt A s y (.str k t) (eqS k y)) ∧ us.countP (eqS k) = ss.count k
  | [], _, .nil => ⟨fun y hy => (nomatch hy), rfl⟩
  | a :: ss, _, .cons r rs => by
    obtain ⟨h1, h2⟩ := strs_at (k := k) (t := t) rs
    obtain ⟨u, rfl⟩ := r
    constructor
    · intro y hy A s
      rcases List.mem_cons.mp hy with rfl | hy
      · exact SeqAt.EqAt.str_str a u k t
      · exact h1 y hy A s
    · rw [List.countP_cons, List.count_cons, h2]
      rfl
def rCntS (K : PySem.W.Frag) : V → List V → Hp → VK → Prop := fun x xs H Q => ∃ (p : Addr) (ss : List Str) (k : Str), x = .ref p ∧ xs = [.str k] ∧ SqL K H p (ss.map V.str) ∧ Q (.int (ss.count k : Nat)) H
section
variable {X : Cx}
theorem mt_scount : MtR X "list.count" (rCntS X.K) := by
  intro pins s σ H x xs v us Q I rx rxs h
  obtain ⟨p, ss, k, rfl, rfl, hs, q⟩ := h
  cases rx
  obtain ⟨u, rfl, t, rfl⟩ := rxs.one
  obtain ⟨its, rv, ⟨⟨cls, dd, data, sl⟩, n, ho, hc, hdn, hd⟩, hlen⟩ := I.list hs
  simp only at hc hd
  subst hc hd
  obtain ⟨h1, h2⟩ := strs_at (k := k) (t := t) rv
  refine call_meets PySem.F.slot_list_count ⟨_, ho, rfl⟩ PySem.F.entry_list_count (PySem.F.args_list_count_2 _ _) (SeqAt.list_countAt p its.toArray n dd sl (.str k t) (eqS k)) ⟨ho, ?_, ?_⟩
  · intro y hy
    exact h1 y (by simpa using hy) _ _
  · have ec : its.toArray.toList.countP (eqS k) = ss.count k := h2
    refine ⟨.int (ss.count k : Nat), H, I.tok _, ⟨s.toks, ?_⟩, q⟩
    rw [ec]
end
/-- e.count(text) -/
def cntD : Op2
  | .lst xs, .str z => (strsOf xs).map fun l => okI (l.count z : Nat)
  | _, _ => none
def isL : Option D → Bool
  | some (.lst _) => true
  | _ => false
def mCnt (oa : Opd) (mb : Ex) : Ex := fun ρ => if okV ρ oa then (oa.run ρ).bind fun p ρ1 => if isL (p.get ρ1) then (mb ρ1).bind fun y ρ2 => mk (get1 (fun x => cntD x y.d) ρ2 p) ρ2 else .no else .no
section
variable {K : PySem.W.Frag}
theorem strs_rel {F : Hp} : ∀ {xs : List D} {vs : List V} {l : List Str}, FzL K F xs vs → strsOf xs = some l → vs = l.map V.str
  | [], _, _, q, h => by
    have q : _ = [] := q
    cases h
    exact q
  | x :: xs, _, l, ⟨v, ws, e, q, r⟩, h => by
    cases x <;> first | (simp [strsOf] at h; done) | skip
    rename_i i
    obtain ⟨l', h1, rfl⟩ := Option.map_eq_some_iff.mp h
    cases (show v = .str i from q)
    rw [e, strs_rel r h1]
    rfl
theorem ok_cnt : OpOk K (fun x y H Q => rCntS K x [y] H Q) cntD := by
  intro F H x y dx dy z Q e qx qy h w
  cases dx <;> cases dy <;> first | (simp [cntD] at h; done) | skip
  rename_i xs z
  obtain ⟨l, h1, rfl⟩ := Option.map_eq_some_iff.mp h
  obtain ⟨a, us, rfl, ha, ra⟩ := qx.lst e
  cases qy.str
  have e2 := strs_rel ra h1
  subst e2
  exact ⟨a, l, z, rfl, rfl, .inl (.inl ha), w.fz e rfl⟩
end
section
variable {X : Cx} {W : WX} {io : Nat → Option Addr} {o e : Expr} {oa : Opd} {mb : Ex} {apos cpos : Pos}
theorem je_cnt (ho : JO X W io o oa) (he : JE X W io e mb) (hbase : attributeBase o "count" X.env (eval o X.env) = eval o X.env := by rfl)
    (hfew : ((backTo cpos (starEach [e] X.env)).all (fun x => !x.1) && (backToKw cpos (keywordEach [] X.env)).all (fun x => x.1.isSome)
      && decide (([e] : List Expr).length + ([] : List Keyword).length + (if ([] : List Keyword).isEmpty then 0 else 1) < 30)) = true := by rfl)
    (hline : (apos.endLine == cpos.line) = true := by rfl) (hs : starEach [e] X.env = (false, eval e X.env) :: starEach [] X.env := by rfl) (hplain : (backTo cpos (starEach [] X.env)).any (·.1) = false := by rfl) :
    JE X W io (.Call (.Attribute o "count" apos) [e] [] cpos) (mCnt oa mb) := by
  refine ⟨pei (pe_bm PySem.F.plainAttrs_list PySem.F.slot_list_count PySem.F.type_list_count mt_scount ho.pe (pa_cons he.pe pa_nil hs) hbase hfew hline hs hplain) fun σ H Q h => ?_⟩
  obtain ⟨P, F, ρ, S, h⟩ := h
  obtain ⟨hc, h⟩ := toE_if h
  refine tO_bind S h (fun _ _ _ _ => trivial) (fun p ρ1 v H1 F1 s1 S1 R1 h1 => ?_) (okV_v S hc)
  obtain ⟨hl, h1⟩ := toE_if h1
  cases e0 : p.get ρ1 with
  | none => rw [e0] at hl; cases hl
  | some d0 =>
    rw [e0] at hl
    cases d0 <;> first | (simp [isL] at hl; done) | skip
    rename_i ys
    obtain ⟨a0, us0, ev, ha0, ra0⟩ := (R1.pk S1 e0).lst S1.fh
    subst ev
    refine ⟨.inl ⟨rfl, us0, .inl (.inl ha0)⟩, ?_⟩
    refine tJ_bind S1 h1 fun y ρ2 w H2 F2 s2 S2 R2 h2 => ?_
    obtain ⟨F3, s3, S3, q3⟩ := S2.cool R2
    have h3 : ToE X.K W io P F3 σ Q (mk (get1 (fun x => cntD x y.d) ρ2 p) ρ2) := h2.up s3
    obtain ⟨z, ez, h4⟩ := mk_some h3
    unfold get1 at ez
    cases e1 : p.get ρ2 with
    | none => rw [e1] at ez; cases ez
    | some dx =>
      rw [e1] at ez
      exact ok_cnt F3 H2 _ w dx y.d z Q S3.fh ((R1.mono (s2.trans s3)).pk S3 e1) (.inl q3) ez (h4.want S3)
end
/-! ### sorted(list of ints) -/
def insI (n : Int) : List Int → List Int
  | [] => [n]
  | m :: l => if n ≤ m then n :: m :: l else m :: insI n l
def sortI : List Int → List Int
  | [] => []
  | n :: l => insI n (sortI l)
theorem insI_perm (n : Int) : ∀ l : List Int, (insI n l).Perm (n :: l)
  | [] => List.Perm.refl _
  | m :: l => by
    unfold insI
    split
    · exact List.Perm.refl _
    · exact ((insI_perm n l).cons m).trans (List.Perm.swap n m l)
theorem sortI_perm : ∀ l : List Int, (sortI l).Perm l
  | [] => List.Perm.refl _
  | n :: l => (insI_perm n (sortI l)).trans ((sortI_perm l).cons n)
theorem insI_pw (n : Int) : ∀ {l : List Int}, l.Pairwise (· ≤ ·) → (insI n l).Pairwise (· ≤ ·)
  | [], _ => List.pairwise_singleton _ _
  | m :: l, h => by
    obtain ⟨h1, h2⟩ := List.pairwise_cons.mp h
    unfold insI
    split
    · rename_i hn
      refine List.pairwise_cons.mpr ⟨fun y hy => ?_, h⟩
      rcases List.mem_cons.mp hy with rfl | hy
      · exact hn
      · exact Int.le_trans hn (h1 y hy)
    · rename_i hn
      refine List.pairwise_cons.mpr ⟨fun y hy => ?_, insI_pw n h2⟩
      rcases List.mem_cons.mp ((insI_perm n l).mem_iff.mp hy) with rfl | hy
      · omega
      · exact h1 y hy
theorem sortI_pw : ∀ l : List Int, (sortI l).Pairwise (· ≤ ·)
  | [] => List.Pairwise.nil
  | n :: l => insI_pw n (sortI_pw l)
theorem sorted_uniq : ∀ {a b : List Int}, a.Perm b → a.Pairwise (· ≤ ·) → b.Pairwise (· ≤ ·) → a = b
  | [], b, p, _, _ => (List.nil_perm.mp p).symm
  | x :: a, [], p, _, _ => absurd (List.perm_nil.mp p) (by simp)
  | x :: a, y :: b, p, h1, h2 => by
    obtain ⟨h3, h4⟩ := List.pairwise_cons.mp h1
    obtain ⟨h5, h6⟩ := List.pairwise_cons.mp h2
    have e : x = y := by
      have k1 : x ≤ y := by
        rcases List.mem_cons.mp (p.mem_iff.mpr (List.mem_cons_self ..)) with k | k
        · omega
        · exact h3 y k
      have k2 : y ≤ x := by
        rcases List.mem_cons.mp (p.mem_iff.mp (List.mem_cons_self ..)) with k | k
        · omega
        · exact h5 x k
      omega
    subst e
    rw [sorted_uniq (List.Perm.cons_inv p) h4 h6]
def sortD : OpN
  | [.lst xs] => (intsOf xs).map fun l => .ow ((sortI l).map .int)
  | _ => none
theorem FzL.ints2 {K : PySem.W.Frag} {F : Hp} : ∀ (ns : List Int), FzL K F (ns.map D.int) (ns.map V.int)
  | [] => rfl
  | n :: ns => ⟨.int n, ns.map V.int, rfl, rfl, FzL.ints2 ns⟩
theorem ok_sort {K : PySem.W.Frag} : CallOk K (rSortedI K) sortD := by
  intro F H vs ds z Q e q h w
  match ds, h with
  | [.lst xs], h =>
    obtain ⟨l, h1, rfl⟩ := Option.map_eq_some_iff.mp h
    obtain ⟨v, rfl, q1⟩ := q.one
    obtain ⟨a, us, rfl, ha, ra⟩ := q1.lst e
    have e2 := ints_rel ra h1
    subst e2
    refine ⟨a, l, rfl, .inl (.inl ha), fun ns' p hp hs hn => ?_⟩
    have := sorted_uniq (hp.trans (sortI_perm l).symm) hs (sortI_pw l)
    subst this
    exact w.lst e hn (FzL.ints2 _)
/-! ### list(range(a, b)) -/
def rLR : List V → Hp → VK → Prop := fun xs H Q => ∃ (p : Addr) (i j : Int), xs = [.ref p] ∧ H p = some (.rng i j) ∧ -RB ≤ i ∧ i ≤ RB ∧ -RB ≤ j ∧ j ≤ RB ∧ (j - i).toNat ≤ SZ ∧ ∀ l, H l = none → Q (.ref l) (upd H l (.lst ((List.range (j - i).toNat).map fun k => V.int (i + (k : Nat)))))
def mLR (a b : Ex) : Ex := fun ρ => (runE [a, b] ρ).bind fun ds ρ1 => match range2D ds with
  | some xs => if xs.length ≤ SZ then .ok (.ow xs) ρ1 else .no
  | none => .no
theorem vals_rng : ∀ (l : List Value) (lo : Int), (∀ (k : Nat) (v : Value), l[k]? = some v → ∃ t, v = .int (lo + (k : Nat)) t) → Vals ((List.range l.length).map fun k => V.int (lo + (k : Nat))) l
  | [], _, _ => .nil
  | x :: l, lo, h => by
    have ih := vals_rng l (lo + 1) fun k v hk => by
      obtain ⟨t, e⟩ := h (k + 1) v (by simpa using hk)
      refine ⟨t, ?_⟩
      rw [e]
      congr 1
      omega
    obtain ⟨t, e⟩ := h 0 x rfl
    subst e
    rw [List.length_cons, List.range_succ_eq_map, List.map_cons, List.map_map]
    refine .cons ⟨t, rfl⟩ ?_
    have e2 : ((fun k : Nat => V.int (lo + (k : Nat))) ∘ Nat.succ) = fun k : Nat => V.int (lo + 1 + (k : Nat)) := by
      funext k
      show V.int (lo + ((k + 1 : Nat) : Int)) = _
      congr 1
      omega
    rw [e2]
    exact ih
section
variable {X : Cx}
theorem call_list_rng (hc : X.calm = true) : CallR X (.type "list") rLR := by
  intro pins s σ H xs us Q I r h
  obtain ⟨p, i, j, rfl, hp, b1, b2, b3, b4, hz, q⟩ := h
  unfold RB at b1 b2 b3 b4
  rw [Vals.ref1 r]
  obtain ⟨t, u, v, ho⟩ := I.hok p _ hp
  have hsz : Builtin.Range.rangeSize i j 1 = ((j - i).toNat : Int) := by
    rw [rangeSize_one]
    split <;> omega
  have hz2 := SZ_le
  rw [sizeLine_eq] at hz2
  refine call_list_range (I.ok.hd hc) (a := i) (b := j) (c := 1) ho (small_one (by omega) (by omega) (by omega) (by omega)) hsz (by omega) fun h' tk acc c' hk hS hi => ?_
  obtain ⟨h1, h2⟩ := hi
  have hv : Vals ((List.range (j - i).toNat).map fun k => V.int (i + (k : Nat))) acc.toList := by
    have e : acc.toList.length = (j - i).toNat := by simpa using h1
    rw [← e]
    refine vals_rng _ i fun k v hk => ?_
    obtain ⟨t, e⟩ := h2 k v (by simpa using hk)
    exact ⟨t, by rw [e, Int.mul_one]⟩
  refine ⟨.ref s.heap.objs.size, upd H s.heap.objs.size (.lst ((List.range (j - i).toNat).map fun k => V.int (i + (k : Nat)))), I.laid (t' := tk) hk (Nat.le_refl _) ?_, rfl, q _ (I.hok.fresh (Nat.le_refl _))⟩
  exact ⟨by rw [List.length_map, List.length_range, sizeLine_eq]; omega, acc.toList, c', hv, by simpa using hS⟩
end
theorem fz_rng {K : PySem.W.Frag} {F : Hp} (i : Int) : ∀ l : List Nat, FzL K F (l.map fun k => D.int (i + (k : Nat))) (l.map fun k => V.int (i + (k : Nat)))
  | [] => rfl
  | k :: l => ⟨_, _, rfl, rfl, fz_rng i l⟩
section
variable {X : Cx} {W : WX} {io : Nat → Option Addr} {a b : Expr} {ma mb : Ex} {p p2 pos pos2 : Pos}
theorem je_lr (hcalm : X.calm = true) (hm : X.mg "list" = none) (hm2 : X.mg "range" = none) (ha : JEs X W io [a, b] [ma, mb]) (hg : Gl X "list" := by rfl) (hg2 : Gl X "range" := by rfl)
    (hs : starEach [.Call (.Name "range" p2) [a, b] [] pos2] X.env = (false, eval (.Call (.Name "range" p2) [a, b] [] pos2) X.env) :: starEach [] X.env := by rfl)
    (he : starEach [a, b] X.env = (false, eval a X.env) :: starEach [b] X.env := by rfl) (hpl2 : (backTo pos2 (starEach [b] X.env)).any (·.1) = false := by rfl) (hpl : (backTo pos (starEach [] X.env)).any (·.1) = false := by rfl) :
    JE X W io (.Call (.Name "list" p) [.Call (.Name "range" p2) [a, b] [] pos2] [] pos) (mLR ma mb) := by
  refine ⟨pei (pe_callTy (call_list_rng hcalm) hg hm (by decide +kernel) (pa_cons (pe_callTy cr_range2 hg2 hm2 (by decide +kernel) ha.pa (by decide) (by decide) he hpl2) pa_nil hs) (by decide) (by decide) hs hpl) fun σ H Q h => ?_⟩
  obtain ⟨P, F, ρ, S, h⟩ := h
  show tEs X.K W io [ma, mb] σ H fun vs H1 => ∃ i j, vs = [V.int i, V.int j] ∧ ∀ p : Addr, H1 p = none → rLR [V.ref p] (upd H1 p (.rng i j)) Q
  refine tEs_bind [ma, mb] S h fun ds ρ1 vs H1 F1 s1 S1 q1 h1 => ?_
  have h1 : ToE X.K W io P F1 σ Q (match range2D ds with
    | some xs => if xs.length ≤ SZ then .ok (.ow xs) ρ1 else .no
    | none => .no) := h1
  cases er : range2D ds with
  | none =>
    rw [er] at h1
    exact h1.elim
  | some xs =>
    rw [er] at h1
    match ds, er with
    | [.int i, .int j], er =>
      obtain ⟨v, ws, rfl, e1, w, ws2, rfl, e2, e4⟩ := q1
      have e4 : ws2 = [] := e4
      subst e4
      cases (show v = .int i from e1)
      cases (show w = .int j from e2)
      have er : (if -RB ≤ i ∧ i ≤ RB ∧ -RB ≤ j ∧ j ≤ RB then some (rangeL i (j - i).toNat) else none) = some xs := er
      by_cases hb : -RB ≤ i ∧ i ≤ RB ∧ -RB ≤ j ∧ j ≤ RB
      · rw [if_pos hb] at er
        obtain rfl := Option.some.inj er
        obtain ⟨hl, h2⟩ := toE_ifp h1
        refine ⟨i, j, rfl, fun p hp => ?_⟩
        have S2 := S1.ext (Ext.laid (o := .rng i j) S1.fh hp)
        refine ⟨p, i, j, rfl, upd_same, hb.1, hb.2.1, hb.2.2.1, hb.2.2.2, by unfold rangeL at hl; rw [List.length_map, List.length_range] at hl; exact hl, fun l hl2 => ?_⟩
        exact (h2.want S2).lst S2.fh hl2 (fz_rng i _)
      · rw [if_neg hb] at er
        cases er
end
/-! ### rows -/
section
variable {s : Option Sl} {l : Env} {a b m : Ex} {oa : Opd}
def lrR (x : R (List D)) : R Sl := x.bind fun ds ρ1 => match range2D ds with
  | some xs => if xs.length ≤ SZ then .ok (.ow xs) ρ1 else .no
  | none => .no
theorem ev_lr : mLR a b (s :: l) = lrR (runE [a, b] (s :: l)) := rfl
theorem lr_ok {ρ : Env} {i j : Int} (h0 : -1000000000 ≤ i) (h1 : i ≤ 1000000000) (h2 : -1000000000 ≤ j) (h3 : j ≤ 1000000000) (h4 : (j - i).toNat ≤ 100000) : lrR (.ok [.int i, .int j] ρ) = .ok (.ow (rangeL i (j - i).toNat)) ρ := by
  unfold lrR
  rw [ev_bind_ok, range2_ok h0 h1 h2 h3]
  have : (rangeL i (j - i).toNat).length ≤ SZ := by
    unfold rangeL SZ
    rw [List.length_map, List.length_range]
    omega
  show (if (rangeL i (j - i).toNat).length ≤ SZ then R.ok (Sl.ow (rangeL i (j - i).toNat)) ρ else .no) = _
  rw [if_pos this]
theorem ev_cnt : mCnt oa m (s :: l) = if okV (s :: l) oa then (oa.run (s :: l)).bind fun p ρ1 => if isL (p.get ρ1) then (m ρ1).bind fun y ρ2 => mk (get1 (fun x => cntD x y.d) ρ2 p) ρ2 else .no else .no := rfl
theorem ev_isL {xs : List D} : isL (some (.lst xs)) = true := rfl
end
end Mi

namespace Mi
open PySem PySem.Spec PyProof.Rows L2
/-! ### repr of any plain value -/
def rReprB : List V → Hp → VK → Prop := fun xs H Q => ∃ b, xs = [V.bl b] ∧ Q (.str (if b then "True" else "False")) H
def rReprN : List V → Hp → VK → Prop := fun xs H Q => xs = [V.non] ∧ Q (.str "None") H
def rReprI : List V → Hp → VK → Prop := fun xs H Q => ∃ i, xs = [V.int i] ∧ i.natAbs.log2 < 1920 ∧ Q (.str (toString i)) H
def rReprS : List V → Hp → VK → Prop := fun xs H Q => ∃ z, xs = [V.str z] ∧ (reprText z).length ≤ sizeLine ∧ Q (.str (reprText z)) H
section
variable {X : Cx}
theorem call_reprB : CallR X (.builtin "repr") rReprB := by
  intro pins s σ H xs us Q I r h
  obtain ⟨b, rfl, q⟩ := h
  obtain ⟨u, rfl, t⟩ := vals1 r
  cases (show u = .bool b from t)
  exact PySem.P.repr_of_bool ⟨.str _, H, I.tok _, ⟨_, rfl⟩, q⟩
theorem call_reprN : CallR X (.builtin "repr") rReprN := by
  intro pins s σ H xs us Q I r h
  obtain ⟨rfl, q⟩ := h
  obtain ⟨u, rfl, t⟩ := vals1 r
  cases (show u = .none from t)
  exact PySem.P.repr_of_none ⟨.str _, H, I.tok _, ⟨_, rfl⟩, q⟩
theorem call_reprI : CallR X (.builtin "repr") rReprI := by
  intro pins s σ H xs us Q I r h
  obtain ⟨i, rfl, hz, q⟩ := h
  obtain ⟨u, rfl, t, rfl⟩ := vals1 r
  exact PySem.P.repr_of_int hz ⟨.str _, H, I.tok _, ⟨_, rfl⟩, q⟩
theorem call_reprS : CallR X (.builtin "repr") rReprS := by
  intro pins s σ H xs us Q I r h
  obtain ⟨z, rfl, hz, q⟩ := h
  obtain ⟨u, rfl, t, rfl⟩ := vals1 r
  exact PySem.P.repr_of_str (⟨.str _, H, I.tok _, ⟨_, rfl⟩, q⟩) hz
end
def rRepr2 (K : PySem.W.Frag) : List V → Hp → VK → Prop := fun xs H Q => rRepr K xs H Q ∨ rReprB xs H Q ∨ rReprN xs H Q ∨ rReprI xs H Q ∨ rReprS xs H Q
theorem call_repr2 {X : Cx} (hg : X.A.guards = some []) (hu : X.A.units + 66 < cLine) : CallR X (.builtin "repr") (rRepr2 X.K) :=
  (call_reprG hg hu).or (call_reprB.or (call_reprN.or (call_reprI.or call_reprS)))
def reprD2 : OpN
  | [.bl b] => some (.fz (.str (if b then "True" else "False")))
  | [.non] => some (.fz (.str "None"))
  | [.int i] => if i.natAbs.log2 < 1920 then some (.fz (.str (toString i))) else none
  | [.str z] => if (reprText z).length ≤ sizeLine then some (.fz (.str (reprText z))) else none
  | ds => reprD ds
theorem ok_repr2 {K : PySem.W.Frag} : CallOk K (rRepr2 K) reprD2 := by
  intro F H vs ds z Q e q h w
  match ds, h with
  | [.bl b], h =>
    obtain ⟨v, rfl, q1⟩ := q.one
    cases q1.bl
    cases h
    exact .inr (.inl ⟨b, rfl, w.fz e rfl⟩)
  | [.non], h =>
    obtain ⟨v, rfl, q1⟩ := q.one
    cases q1.non
    cases h
    exact .inr (.inr (.inl ⟨rfl, w.fz e rfl⟩))
  | [.int i], h =>
    obtain ⟨v, rfl, q1⟩ := q.one
    cases q1.int
    obtain ⟨h1, rfl⟩ := ifs h
    exact .inr (.inr (.inr (.inl ⟨i, rfl, h1, w.fz e rfl⟩)))
  | [.str z], h =>
    obtain ⟨v, rfl, q1⟩ := q.one
    cases q1.str
    obtain ⟨h1, rfl⟩ := ifs h
    exact .inr (.inr (.inr (.inr ⟨z, rfl, h1, w.fz e rfl⟩)))
  | [.tup xs], h => exact .inl (ok_repr F H vs _ z Q e q h w)
  | [.lst xs], h => exact .inl (ok_repr F H vs _ z Q e q h w)
  | [.dic xs], h => exact .inl (ok_repr F H vs _ z Q e q h w)
  | [.cst x], h => exact .inl (ok_repr F H vs _ z Q e q h w)
  | [.scr xs], h => exact .inl (ok_repr F H vs _ z Q e q h w)
  | [.exo c], h => exact .inl (ok_repr F H vs _ z Q e q h w)
  | [], h => exact .inl (ok_repr F H vs _ z Q e q h w)
  | a :: b :: ds, h =>
    have h : reprD (a :: b :: ds) = some z := by cases a <;> exact h
    exact .inl (ok_repr F H vs _ z Q e q h w)
section
variable {n m : Nat} {e : Option Sl} {a b c d f : D} {w : Env}
theorem bk_d5 : back1 n e [.d a, .d b, .d c, .d d, .d f] w = e := bk_of rfl
theorem bk_i4 (h : m ≠ n) : back1 n e [.i m, .d a, .d b, .d c, .d d] w = e := bk_of (by
  unfold look
  rw [if_neg h]
  rfl)
theorem bk_i5 (h : m ≠ n) : back1 n e [.i m, .d a, .d b, .d c, .d d, .d f] w = e := bk_of (by
  unfold look
  rw [if_neg h]
  rfl)
end
/-! ### is, is not: None, True, False -/
def isD2 : Op2 := fun a b => match b with
  | .bl y => (match a with
    | .bl x => some (okB (decide (x = y)))
    | _ => none)
  | _ => isD a b
def isNotD2 : Op2 := fun a b => match b with
  | .bl y => (match a with
    | .bl x => some (okB (!decide (x = y)))
    | _ => none)
  | _ => isNotD a b
def rIsBl : R2 := fun x y H Q => ∃ a b, x = .bl a ∧ y = .bl b ∧ Q (.bl (decide (a = b))) H
def rNotBl : R2 := fun x y H Q => ∃ a b, x = .bl a ∧ y = .bl b ∧ Q (.bl (!decide (a = b))) H
def rIs2 : R2 := fun x y H Q => (y = .non ∧ Q (.bl (decide (x = .non))) H) ∨ rIsBl x y H Q
def rNot2 : R2 := fun x y H Q => (y = .non ∧ Q (.bl (!decide (x = .non))) H) ∨ rNotBl x y H Q
theorem op_is2 {X : Cx} : OpR X (compareOp .Is) rIs2 := op_isN.or op_is_bl
theorem op_isNot2 {X : Cx} : OpR X (compareOp .IsNot) rNot2 := op_notN.or op_isnot_bl
theorem ok_is2 {K : PySem.W.Frag} : OpOk K rIs2 isD2 := by
  intro F H x y dx dy z Q e qx qy h w
  cases dy with
  | bl b =>
    cases dx with
    | bl a =>
      cases qx.bl
      cases qy.bl
      cases h
      exact .inr ⟨a, b, rfl, rfl, w.fz e rfl⟩
    | _ => exact nomatch h
  | _ => exact .inl (ok_is F H x y dx _ z Q e qx qy h w)
theorem ok_isNot2 {K : PySem.W.Frag} : OpOk K rNot2 isNotD2 := by
  intro F H x y dx dy z Q e qx qy h w
  cases dy with
  | bl b =>
    cases dx with
    | bl a =>
      cases qx.bl
      cases qy.bl
      cases h
      exact .inr ⟨a, b, rfl, rfl, w.fz e rfl⟩
    | _ => exact nomatch h
  | _ => exact .inl (ok_isNot F H x y dx _ z Q e qx qy h w)
theorem ev_is2_n {a : D} : isD2 a .non = isD a .non := rfl
theorem ev_is2_b {x y : Bool} : isD2 (.bl x) (.bl y) = some (.fz (.bl (decide (x = y)))) := rfl
theorem ev_isn2_n {a : D} : isNotD2 a .non = isNotD a .non := rfl
theorem ev_isn2_b {x y : Bool} : isNotD2 (.bl x) (.bl y) = some (.fz (.bl (!decide (x = y)))) := rfl
theorem ev_repr2_b {b : Bool} : reprD2 [.bl b] = some (.fz (.str (if b then "True" else "False"))) := rfl
theorem ev_repr2_l {xs : List D} : reprD2 [.lst xs] = reprD [.lst xs] := rfl
theorem ev_repr2_t {xs : List D} : reprD2 [.tup xs] = reprD [.tup xs] := rfl
end Mi

namespace Mi
open PySem PySem.Spec PyProof.Rows L2
/-! ### lending: a list of one's own is handed out and comes back -/
mutual
def D.noL : D → Bool
  | .lst _ => false
  | .scr _ => false
  | .tup ds => noLs ds
  | .dic kvs => noLk kvs
  | .non => true
  | .bl _ => true
  | .int _ => true
  | .str _ => true
  | .cst _ => true
  | .exo _ => true
def noLs : List D → Bool
  | [] => true
  | d :: ds => d.noL && noLs ds
def noLk : List (Key × D) → Bool
  | [] => true
  | (_, d) :: r => d.noL && noLk r
end
section
variable {K : PySem.W.Frag} {F F2 : Hp} {a : Addr} {us : List V}
theorem and_b {a b : Bool} (h : (a && b) = true) : a = true ∧ b = true := by
  rw [Bool.and_eq_true] at h
  exact h
mutual
theorem Fz.less (ha : F a = some (.lst us)) (h2 : ∀ b, b ≠ a → F2 b = F b) : ∀ {d : D} {v : V}, d.noL = true → Fz K F d v → Fz K F2 d v
  | .non, _, _, q => q
  | .bl _, _, _, q => q
  | .int _, _, _, q => q
  | .str _, _, _, q => q
  | .tup ds, _, h, ⟨b, vs, e, s, q⟩ => by
    refine ⟨b, vs, e, ?_, FzL.less ha h2 (show noLs ds = true from h) q⟩
    rcases s with (s | ⟨o, s⟩) | s
    · exact .inl (.inl (by rw [h2 b (ne_of s ha (by intro z; cases z))]; exact s))
    · exact .inl (.inr ⟨o, by rw [h2 b (ne_of s ha (by intro z; cases z))]; exact s⟩)
    · exact .inr s
  | .lst _, _, h, _ => by cases h
  | .scr _, _, h, _ => by cases h
  | .dic kvs, _, h, ⟨b, ws, e, s, q⟩ => ⟨b, ws, e, by rw [h2 b (ne_of s ha (by intro z; cases z))]; exact s, FzK.less ha h2 (show noLk kvs = true from h) q⟩
  | .cst _, _, _, q => q
  | .exo _, _, _, ⟨b, e, s⟩ => ⟨b, e, by rw [h2 b (ne_of s ha (by intro z; cases z))]; exact s⟩
theorem FzL.less (ha : F a = some (.lst us)) (h2 : ∀ b, b ≠ a → F2 b = F b) : ∀ {ds : List D} {vs : List V}, noLs ds = true → FzL K F ds vs → FzL K F2 ds vs
  | [], _, _, q => q
  | d :: ds, _, h, ⟨v, ws, e, q, r⟩ => ⟨v, ws, e, Fz.less ha h2 (and_b (show (d.noL && noLs ds) = true from h)).1 q, FzL.less ha h2 (and_b (show (d.noL && noLs ds) = true from h)).2 r⟩
theorem FzK.less (ha : F a = some (.lst us)) (h2 : ∀ b, b ≠ a → F2 b = F b) : ∀ {ds : List (Key × D)} {vs : List (Key × V)}, noLk ds = true → FzK K F ds vs → FzK K F2 ds vs
  | [], _, _, q => q
  | (k, d) :: ds, _, h, ⟨v, ws, e, q, r⟩ => ⟨v, ws, e, Fz.less ha h2 (and_b (show (d.noL && noLk ds) = true from h)).1 q, FzK.less ha h2 (and_b (show (d.noL && noLk ds) = true from h)).2 r⟩
end
end
/-- the frozen part without one address -/
def lessF (F : Hp) (a : Addr) : Hp := fun b => if b = a then none else F b
theorem lessF_ne {F : Hp} {a b : Addr} (h : b ≠ a) : lessF F a b = F b := if_neg h
theorem lessF_eq {F : Hp} {a : Addr} : lessF F a a = none := if_pos rfl
theorem lessF_none {F : Hp} {a b : Addr} (h : F b = none) : lessF F a b = none := by
  unfold lessF
  split
  · rfl
  · exact h
theorem lessF_same {F F1 : Hp} {a : Addr} (h : Same F F1) (ha : F a = none) : Same F (lessF F1 a) := fun b o e => by
  rw [lessF_ne (ne_of_none e ha)]
  exact h b o e
/-- what a slot may hold behind a lending -/
def noSl : Option Sl → Bool
  | none => true
  | some (.fz d) => d.noL
  | some (.ow ys) => noLs ys
  | some (.io ys) => noLs ys
def isFz : Option Sl → Bool
  | some (.fz _) => true
  | _ => false
def Kp1 (e e1 : Option Sl) : Prop := noSl e1 = true ∨ (isFz e1 = true ∧ e = e1)
def KpG (i : Nat) (ws : List Nat) : Nat → Env → Env → Prop
  | n, e :: l, e1 :: l1 => (n = i ∨ ws.contains n = true ∨ Kp1 e e1) ∧ KpG i ws (n + 1) l l1
  | _, _, _ => True
theorem KpG.at {i : Nat} {ws : List Nat} : ∀ {n : Nat} {l l1 : Env}, KpG i ws n l l1 → ∀ {j : Nat} {e e1 : Option Sl}, l[j]? = some e → l1[j]? = some e1 → n + j = i ∨ ws.contains (n + j) = true ∨ Kp1 e e1
  | n, e :: l, e1 :: l1, h, 0, _, _, h1, h2 => by
    simp at h1 h2
    subst h1
    subst h2
    exact h.1
  | n, e :: l, e1 :: l1, h, j + 1, _, _, h1, h2 => by
    have := KpG.at h.2 (j := j) (by simpa using h1) (by simpa using h2)
    rw [show n + 1 + j = n + (j + 1) by omega] at this
    exact this
  | _, [], _, _, _, _, _, h1, _ => by simp at h1
  | _, _ :: _, [], _, _, _, _, _, h2 => by simp at h2
def noR : Sl → Bool
  | .fz d => d.noL
  | .ow ys => noLs ys
  | .io _ => true
/-- the hidden slots come back -/
def restE (ws : List Nat) (ρ ρ1 : Env) : Env := ρ1.mapIdx fun j e => if ws.contains j then (ρ[j]?).getD none else e
open Classical in
noncomputable def lendR (i : Nat) (xs : List D) (ws : List Nat) (ρ : Env) : R Sl → R Sl
  | .ok r ρ1 => if KpG i ws 0 ρ ρ1 ∧ noR r = true then .ok r ((restE ws ρ ρ1).set i (some (.ow xs))) else .no
  | .ex c ρ1 => if KpG i ws 0 ρ ρ1 then .ex c ((restE ws ρ ρ1).set i (some (.ow xs))) else .no
  | .no => .no
noncomputable def lend0 (i : Nat) (ws : List Nat) (m : Ex) (ρ : Env) : Option (Option Sl) → R Sl
  | some (some (.ow xs)) => if ws.contains i then .no else lendR i xs ws ρ (m (wipeE (ρ.set i (some (.fz (.lst xs)))) ws))
  | _ => m ρ
noncomputable def mLend (i : Nat) (ws : List Nat) (m : Ex) : Ex := fun ρ => lend0 i ws m ρ ρ[i]?
section
variable {K : PySem.W.Frag} {io : Nat → Option Addr} {P F F1 : Hp} {σ : L2.St} {H H' : Hp} {ρ ρ1 ρ2 : Env} {ws : List Nat} {i : Nat} {xs : List D}
/-- the hidden lists must stay as they are -/
noncomputable def hidP (ws : List Nat) (ρ : Env) (σ : L2.St) (H P : Hp) : Hp := fun b => open Classical in if ∃ j ys, j ∈ ws ∧ Own ρ j ys ∧ σ[j]? = some (some (.ref b)) then H b else P b
theorem hidP_in {b : Addr} {j : Nat} {ys : List D} (h1 : j ∈ ws) (h2 : Own ρ j ys) (h3 : σ[j]? = some (some (.ref b))) : hidP ws ρ σ H P b = H b := if_pos ⟨j, ys, h1, h2, h3⟩
theorem hidP_cases {b : Addr} : (∃ j ys, j ∈ ws ∧ Own ρ j ys ∧ σ[j]? = some (some (.ref b)) ∧ hidP ws ρ σ H P b = H b) ∨ hidP ws ρ σ H P b = P b := by
  by_cases h : ∃ j ys, j ∈ ws ∧ Own ρ j ys ∧ σ[j]? = some (some (.ref b))
  · obtain ⟨j, ys, h1, h2, h3⟩ := h
    exact .inl ⟨j, ys, h1, h2, h3, hidP_in h1 h2 h3⟩
  · exact .inr (if_neg h)
theorem hidP_up (S : St K io P F ρ σ H) {b : Addr} {o : HO} (h : P b = some o) : hidP ws ρ σ H P b = some o := by
  rcases hidP_cases (ws := ws) (ρ := ρ) (σ := σ) (H := H) (P := P) (b := b) with ⟨j, ys, h1, h2, h3, h4⟩ | h4
  · rw [h4]
    exact S.ph b o h
  · rw [h4]
    exact h
theorem own_wipe {j : Nat} {ys : List D} (q : Own (wipeE ρ ws) j ys) : Own ρ j ys ∧ j ∉ ws := by
  rcases q with q | q
  · exact ⟨.inl (wipeE_get q).1, (wipeE_get q).2⟩
  · exact ⟨.inr (wipeE_get q).1, (wipeE_get q).2⟩
theorem St.hide (S : St K io P F ρ σ H) : St K io (hidP ws ρ σ H P) F (wipeE ρ ws) σ H where
  fh := S.fh
  ph := fun b o e => by
    rcases hidP_cases (ws := ws) (ρ := ρ) (σ := σ) (H := H) (P := P) (b := b) with ⟨j, ys, h1, h2, h3, h4⟩ | h4
    · rw [h4] at e
      exact e
    · rw [h4] at e
      exact S.ph b o e
  pf := fun b o e => by
    rcases hidP_cases (ws := ws) (ρ := ρ) (σ := σ) (H := H) (P := P) (b := b) with ⟨j, ys, h1, h2, h3, h4⟩ | h4
    · obtain ⟨c, vs, q1, _, _, q4, _⟩ := S.ow j ys h2
      rw [q1] at h3
      cases h3
      exact q4
    · rw [h4] at e
      exact S.pf b o e
  len := by
    unfold wipeE
    rw [List.length_mapIdx]
    exact S.len
  fz := fun j d q => S.fz j d (wipeE_get q).1
  ow := fun j ys q => by
    obtain ⟨q1, q2⟩ := own_wipe q
    obtain ⟨c, vs, h1, h2, h3, h4, h5⟩ := S.ow j ys q1
    refine ⟨c, vs, h1, h2, h3, h4, ?_⟩
    rcases hidP_cases (ws := ws) (ρ := ρ) (σ := σ) (H := H) (P := P) (b := c) with ⟨k, zs, k1, k2, k3, _⟩ | k4
    · have := S.ds j k ys zs c q1 k2 h1 k3
      subst this
      exact absurd k1 q2
    · rw [k4]
      exact h5
  ia := fun j ys b q1 q2 => S.ia j ys b (wipeE_get q1).1 q2
  ds := fun j k ys zs b q1 q2 => S.ds j k ys zs b (own_wipe q1).1 (own_wipe q2).1
/-- behind the lending -/
theorem St.unlend {a : Addr} {vs : List V} (S : St K io P F ρ σ H) (S0 : St K io P F1 (ρ.set i (some (.fz (.lst xs)))) σ H) (e : ρ[i]? = some (some (.ow xs))) (ha : σ[i]? = some (some (.ref a))) (hx : FzL K F xs vs) (hF : F a = none) (hP : P a = none)
    {F' : Hp} (sF : Same F F') (ha1 : F' a = some (.lst vs)) (hiw : i ∉ ws) (S1 : St K io (hidP ws (ρ.set i (some (.fz (.lst xs)))) σ H P) F' ρ1 σ H')
    (len : ρ2.length = ρ.length) (hi : ρ2[i]? = some (some (.ow xs))) (hB : ∀ j, j ≠ i → j ∈ ws → ρ2[j]? = ρ[j]?)
    (hK : ∀ j, j ≠ i → j ∉ ws → ρ2[j]? = ρ1[j]? ∧ ∀ e1, ρ1[j]? = some e1 → ∃ e0, ρ[j]? = some e0 ∧ Kp1 e0 e1) : St K io P (lessF F' a) ρ2 σ H' := by
  have smF : Same F (lessF F' a) := lessF_same sF hF
  have own0 : ∀ {j : Nat} {ys : List D}, j ≠ i → Own ρ j ys → Own (ρ.set i (some (.fz (.lst xs)))) j ys := fun {j ys} hj q => by
    rcases q with q | q
    · exact .inl (by rw [set_other (Ne.symm hj)]; exact q)
    · exact .inr (by rw [set_other (Ne.symm hj)]; exact q)
  have noX : ∀ {d : D} {v : V}, d.noL = true → Fz K F' d v → Fz K (lessF F' a) d v := fun h q => Fz.less ha1 (fun b hb => lessF_ne hb) h q
  have noXs : ∀ {ds : List D} {us : List V}, noLs ds = true → FzL K F' ds us → FzL K (lessF F' a) ds us := fun h q => FzL.less ha1 (fun b hb => lessF_ne hb) h q
  -- an own slot behind: which of the three it is
  have ownC : ∀ {j : Nat} {ys : List D}, Own ρ2 j ys → (j = i ∧ ys = xs) ∨ (j ≠ i ∧ j ∈ ws ∧ Own ρ j ys) ∨ (j ≠ i ∧ j ∉ ws ∧ Own ρ1 j ys ∧ noLs ys = true) := fun {j ys} q => by
    by_cases hj : j = i
    · subst hj
      rcases q with q | q
      · rw [hi] at q
        cases q
        exact .inl ⟨rfl, rfl⟩
      · rw [hi] at q
        cases q
    · by_cases hw : j ∈ ws
      · refine .inr (.inl ⟨hj, hw, ?_⟩)
        rcases q with q | q
        · exact .inl (by rw [← hB j hj hw]; exact q)
        · exact .inr (by rw [← hB j hj hw]; exact q)
      · obtain ⟨k1, k2⟩ := hK j hj hw
        refine .inr (.inr ⟨hj, hw, ?_⟩)
        rcases q with q | q
        · rw [k1] at q
          obtain ⟨e0, _, z⟩ := k2 _ q
          rcases z with z | ⟨z, _⟩
          · exact ⟨.inl q, z⟩
          · cases z
        · rw [k1] at q
          obtain ⟨e0, _, z⟩ := k2 _ q
          rcases z with z | ⟨z, _⟩
          · exact ⟨.inr q, z⟩
          · cases z
  have hid : ∀ {j : Nat} {ys : List D} {b : Addr} {us : List V}, j ≠ i → j ∈ ws → Own ρ j ys → σ[j]? = some (some (.ref b)) → H b = some (.lst us) → hidP ws (ρ.set i (some (.fz (.lst xs)))) σ H P b = some (.lst us) := fun {j ys b us} hj hw q z1 z2 => by
    rw [hidP_in hw (own0 hj q) z1]
    exact z2
  refine ⟨fun b o q => ?_, fun b o q => S1.ph b o (hidP_up S0 q), fun b o q => lessF_none (S1.pf b o (hidP_up S0 q)), by rw [len]; exact S.len, fun j d q => ?_, fun j ys q => ?_, fun j ys b q1 q2 => ?_, fun j k ys zs b q1 q2 r1 r2 => ?_⟩
  · by_cases hb : b = a
    · subst hb
      rw [lessF_eq] at q
      cases q
    · rw [lessF_ne hb] at q
      exact S1.fh b o q
  · by_cases hj : j = i
    · subst hj
      rw [hi] at q
      cases q
    · by_cases hw : j ∈ ws
      · rw [hB j hj hw] at q
        obtain ⟨v, h1, h2⟩ := S.fz j d q
        exact ⟨v, h1, h2.mono smF⟩
      · obtain ⟨k1, k2⟩ := hK j hj hw
        rw [k1] at q
        obtain ⟨e0, z0, z⟩ := k2 _ q
        rcases z with z | ⟨_, z⟩
        · obtain ⟨v, h1, h2⟩ := S1.fz j d q
          exact ⟨v, h1, noX z h2⟩
        · rw [z] at z0
          obtain ⟨v, h1, h2⟩ := S.fz j d z0
          exact ⟨v, h1, h2.mono smF⟩
  · rcases ownC q with ⟨rfl, rfl⟩ | ⟨hj, hw, q'⟩ | ⟨hj, hw, q', nl⟩
    · exact ⟨a, vs, ha, S1.fh a _ ha1, hx.mono smF, lessF_eq, hP⟩
    · obtain ⟨b, us, h1, h2, h3, h4, h5⟩ := S.ow j ys q'
      have hp := hid hj hw q' h1 h2
      exact ⟨b, us, h1, S1.ph b _ hp, h3.mono smF, lessF_none (S1.pf b _ hp), h5⟩
    · obtain ⟨b, us, h1, h2, h3, h4, h5⟩ := S1.ow j ys q'
      refine ⟨b, us, h1, h2, noXs nl h3, lessF_none h4, ?_⟩
      cases hp : P b with
      | none => rfl
      | some o =>
        rw [hidP_up S0 hp] at h5
        cases h5
  · by_cases hj : j = i
    · subst hj
      rw [hi] at q1
      cases q1
    · by_cases hw : j ∈ ws
      · rw [hB j hj hw] at q1
        exact S.ia j ys b q1 q2
      · rw [(hK j hj hw).1] at q1
        exact S1.ia j ys b q1 q2
  · have far : ∀ {k : Nat} {zs : List D}, Own ρ1 k zs → σ[k]? ≠ some (some (.ref a)) := fun {k zs} q z => by
      obtain ⟨c, us, h1, _, _, h4, _⟩ := S1.ow k zs q
      rw [h1] at z
      cases z
      rw [ha1] at h4
      cases h4
    have far2 : ∀ {j k : Nat} {ys zs : List D} {b : Addr}, j ≠ i → j ∈ ws → Own ρ j ys → Own ρ1 k zs → σ[j]? = some (some (.ref b)) → σ[k]? ≠ some (some (.ref b)) := fun {j k ys zs b} hj hw q q' r1 r2 => by
      obtain ⟨c, us, h1, h2, _⟩ := S.ow j ys q
      rw [h1] at r1
      cases r1
      have hp := hid hj hw q h1 h2
      obtain ⟨c, us2, k1, _, _, _, k5⟩ := S1.ow k zs q'
      rw [k1] at r2
      cases r2
      rw [hp] at k5
      cases k5
    rcases ownC q1 with ⟨rfl, rfl⟩ | ⟨hj, hw, q1'⟩ | ⟨hj, hw, q1', _⟩ <;> rcases ownC q2 with ⟨hk0, hk1⟩ | ⟨hk, hv, q2'⟩ | ⟨hk, hv, q2', _⟩
    · exact hk0.symm
    · exact S.ds _ _ _ _ b (.inl e) q2' r1 r2
    · rw [ha] at r1
      cases r1
      exact absurd r2 (far q2')
    · subst hk0
      exact S.ds _ _ _ _ b q1' (.inl e) r1 r2
    · exact S.ds _ _ _ _ b q1' q2' r1 r2
    · exact absurd r2 (far2 hj hw q1' q2' r1)
    · subst hk0
      rw [ha] at r2
      cases r2
      exact absurd r1 (far q1')
    · exact absurd r1 (far2 hk hv q2' q1' r2)
    · exact S1.ds _ _ _ _ b q1' q2' r1 r2
end
section
variable {ws : List Nat} {ρ ρ1 : Env}
theorem restE_len : (restE ws ρ ρ1).length = ρ1.length := by
  unfold restE
  rw [List.length_mapIdx]
theorem restE_in {j : Nat} (h : j ∈ ws) (hl : ρ1.length = ρ.length) : (restE ws ρ ρ1)[j]? = ρ[j]? := by
  unfold restE
  rw [List.getElem?_mapIdx]
  have hc : ws.contains j = true := by simpa using h
  by_cases hj : j < ρ.length
  · rw [List.getElem?_eq_getElem (show j < ρ1.length by omega), List.getElem?_eq_getElem hj]
    show some (if ws.contains j then _ else _) = _
    rw [if_pos hc]
    rfl
  · rw [List.getElem?_eq_none (by omega), List.getElem?_eq_none (by omega)]
    rfl
theorem restE_out {j : Nat} (h : j ∉ ws) : (restE ws ρ ρ1)[j]? = ρ1[j]? := by
  unfold restE
  rw [List.getElem?_mapIdx]
  have hc : ¬ ws.contains j = true := by simpa using h
  cases ρ1[j]? with
  | none => rfl
  | some e =>
    show some (if ws.contains j then _ else _) = _
    rw [if_neg hc]
end
theorem unlend_all {K : PySem.W.Frag} {io : Nat → Option Addr} {P F F1 F' : Hp} {σ : L2.St} {H H' : Hp} {ρ ρ1 : Env} {ws : List Nat} {i : Nat} {xs : List D} {a : Addr} {vs : List V}
    (S : St K io P F ρ σ H) (S0 : St K io P F1 (ρ.set i (some (.fz (.lst xs)))) σ H) (e : ρ[i]? = some (some (.ow xs))) (ha : σ[i]? = some (some (.ref a))) (hx : FzL K F xs vs) (hF : F a = none) (hP : P a = none)
    (sF : Same F F') (ha1 : F' a = some (.lst vs)) (hiw : i ∉ ws) (S1 : St K io (hidP ws (ρ.set i (some (.fz (.lst xs)))) σ H P) F' ρ1 σ H') (hk : KpG i ws 0 ρ ρ1) :
    St K io P (lessF F' a) ((restE ws ρ ρ1).set i (some (.ow xs))) σ H' := by
  have hl : ρ1.length = ρ.length := by rw [S1.len, S.len]
  have hil : i < ρ.length := (List.getElem?_eq_some_iff.mp e).1
  refine S.unlend S0 e ha hx hF hP sF ha1 hiw S1 (by rw [List.length_set, restE_len, hl]) (set_self (by rw [restE_len]; omega)) (fun j hj hw => ?_) (fun j hj hw => ⟨?_, fun e1 h1 => ?_⟩)
  · rw [set_other (Ne.symm hj), restE_in hw hl]
  · rw [set_other (Ne.symm hj), restE_out hw]
  · have hjl := (List.getElem?_eq_some_iff.mp h1).1
    have h0 : ρ[j]? = some ρ[j] := List.getElem?_eq_getElem (by omega)
    refine ⟨_, h0, ?_⟩
    rcases hk.at h0 h1 with z | z | z
    · omega
    · rw [Nat.zero_add] at z
      exact absurd (by simpa using z) hw
    · exact z
theorem je_lend {X : Cx} {W : WX} {io : Nat → Option Addr} {e : Expr} {m : Ex} (i : Nat) (ws : List Nat) (h : JE X W io e m) : JE X W io e (mLend i ws m) := ⟨pei h.pe fun σ H Q q => by
  obtain ⟨P, F, ρ, S, q⟩ := q
  unfold mLend at q
  by_cases hq : ∃ xs, ρ[i]? = some (some (.ow xs))
  · obtain ⟨xs, he⟩ := hq
    rw [he] at q
    have q : ToE X.K W io P F σ Q (if ws.contains i then .no else lendR i xs ws ρ (m (wipeE (ρ.set i (some (.fz (.lst xs)))) ws))) := q
    by_cases hw : ws.contains i = true
    · rw [if_pos hw] at q
      exact q.elim
    · rw [if_neg hw] at q
      have hiw : i ∉ ws := by simpa using hw
      obtain ⟨a, vs, h1, h2, h3, h4, h5⟩ := S.ow i xs (.inl he)
      obtain ⟨F1, s1, S0, a', vs', hz, hF1, hxs⟩ := S.cool_at he h1
      cases hz
      have hv : vs' = vs := by
        have := S0.fh a _ hF1
        rw [h2] at this
        cases this
        rfl
      subst hv
      refine tJ_of (m := m) (S0.hide (ws := ws)) ?_
      revert q
      cases m (wipeE (ρ.set i (some (.fz (.lst xs)))) ws) with
      | no => exact fun q => q
      | ex c ρ1 =>
        intro q H' F' sF S1
        by_cases hk : KpG i ws 0 ρ ρ1
        · have e3 : lendR i xs ws ρ (.ex c ρ1) = .ex c ((restE ws ρ ρ1).set i (some (.ow xs))) := if_pos hk
          rw [e3] at q
          exact q H' (lessF F' a) (lessF_same (s1.trans sF) h4) (unlend_all S S0 he h1 h3 h4 h5 (s1.trans sF) (sF _ _ hF1) hiw S1 hk)
        · have e3 : lendR i xs ws ρ (.ex c ρ1) = .no := if_neg hk
          rw [e3] at q
          exact q.elim
      | ok r ρ1 =>
        intro q v H' F' sF S1 R1
        by_cases hk : KpG i ws 0 ρ ρ1 ∧ noR r = true
        · have e3 : lendR i xs ws ρ (.ok r ρ1) = .ok r ((restE ws ρ ρ1).set i (some (.ow xs))) := if_pos hk
          rw [e3] at q
          have ha1 := sF _ _ hF1
          have SU := unlend_all S S0 he h1 h3 h4 h5 (s1.trans sF) ha1 hiw S1 hk.1
          refine q v H' (lessF F' a) (lessF_same (s1.trans sF) h4) SU ?_
          have hr := hk.2
          cases r with
          | io zs => exact R1.elim
          | fz d => exact Fz.less ha1 (fun b hb => lessF_ne hb) hr R1
          | ow zs =>
            obtain ⟨b, us, rfl, k1, k2, k3, k4, k5⟩ := R1
            refine ⟨b, us, rfl, k1, FzL.less ha1 (fun c hc => lessF_ne hc) hr k2, lessF_none k3, ?_, fun j ys qo hj => ?_⟩
            · cases hp : P b with
              | none => rfl
              | some o =>
                rw [hidP_up (ws := ws) (ρ := ρ.set i (some (.fz (.lst xs)))) (σ := σ) (H := H) S0 hp] at k4
                cases k4
            · by_cases hji : j = i
              · subst hji
                rw [h1] at hj
                cases hj
                rw [ha1] at k3
                cases k3
              · have hl : ρ1.length = ρ.length := by rw [S1.len, S.len]
                by_cases hjw : j ∈ ws
                · have qo' : Own ρ j ys := by
                    rcases qo with z | z
                    · rw [set_other (Ne.symm hji), restE_in hjw hl] at z
                      exact .inl z
                    · rw [set_other (Ne.symm hji), restE_in hjw hl] at z
                      exact .inr z
                  obtain ⟨c, us2, c1, c2, _⟩ := S.ow j ys qo'
                  rw [c1] at hj
                  cases hj
                  have : hidP ws (ρ.set i (some (.fz (.lst xs)))) σ H P b = H b := hidP_in hjw (by
                    rcases qo' with z | z
                    · exact .inl (by rw [set_other (Ne.symm hji)]; exact z)
                    · exact .inr (by rw [set_other (Ne.symm hji)]; exact z)) c1
                  rw [this, c2] at k4
                  cases k4
                · refine k5 j ys ?_ hj
                  rcases qo with z | z
                  · rw [set_other (Ne.symm hji), restE_out hjw] at z
                    exact .inl z
                  · rw [set_other (Ne.symm hji), restE_out hjw] at z
                    exact .inr z
        · have e3 : lendR i xs ws ρ (.ok r ρ1) = .no := if_neg hk
          rw [e3] at q
          exact q.elim
  · have e2 : lend0 i ws m ρ ρ[i]? = m ρ := by
      cases he : ρ[i]? with
      | none => rfl
      | some o =>
        cases o with
        | none => rfl
        | some z =>
          cases z with
          | fz d => rfl
          | io ys => rfl
          | ow ys => exact absurd ⟨ys, he⟩ hq
    rw [e2] at q
    exact ⟨P, F, ρ, S, q⟩⟩
/-! ### reckoning with it -/
section
variable {i : Nat} {ws : List Nat} {m : Ex} {ρ ρ1 : Env} {xs : List D} {s e e1 : Option Sl} {l l1 : Env} {n : Nat} {d : D} {ds : List D} {c : Str} {r : Sl} {z : Int} {b : Bool}
theorem ev_lend : mLend i ws m (s :: l) = lend0 i ws m (s :: l) (s :: l)[i]? := by
  unfold mLend
  exact id rfl
theorem ev_lend_ow : lend0 i ws m ρ (some (some (.ow xs))) = if ws.contains i then .no else lendR i xs ws ρ (m (wipeE (ρ.set i (some (.fz (.lst xs)))) ws)) := by
  unfold lend0
  exact id rfl
theorem ev_lend_fz : lend0 i ws m ρ (some (some (.fz d))) = m ρ := by
  unfold lend0
  exact id rfl
open Classical in
theorem ev_lend_ok : lendR i xs ws ρ (.ok r ρ1) = if KpG i ws 0 ρ ρ1 ∧ noR r = true then R.ok r ((restE ws ρ ρ1).set i (some (.ow xs))) else R.no := by
  unfold lendR
  exact id rfl
def wiG (ws : List Nat) : Nat → Env → Env
  | _, [] => []
  | n, e :: l => (if ws.contains n then none else e) :: wiG ws (n + 1) l
theorem wi_eq : ∀ (ρ : Env) (n : Nat), ρ.mapIdx (fun i e => if ws.contains (n + i) then none else e) = wiG ws n ρ
  | [], _ => rfl
  | e :: l, n => by
    have ih := wi_eq l (n + 1)
    rw [List.mapIdx_cons]
    show (if ws.contains (n + 0) then none else e) :: _ = (if ws.contains n then none else e) :: wiG ws (n + 1) l
    rw [← ih, Nat.add_zero]
    congr 2
    funext i e
    rw [show n + (i + 1) = n + 1 + i by omega]
theorem ev_wipeE : wipeE ρ ws = wiG ws 0 ρ := by
  rw [← wi_eq]
  unfold wipeE
  congr 1
  funext i e
  rw [Nat.zero_add]
theorem ev_wi0 : wiG ws n [] = [] := by exact id rfl
theorem ev_wi1 : wiG ws n (e :: l) = (if ws.contains n then none else e) :: wiG ws (n + 1) l := by exact id rfl
def reG (ws : List Nat) : Nat → Env → Env → Env
  | _, _, [] => []
  | n, [], e1 :: l1 => (if ws.contains n then none else e1) :: reG ws (n + 1) [] l1
  | n, e :: l, e1 :: l1 => (if ws.contains n then e else e1) :: reG ws (n + 1) l l1
theorem re_eq : ∀ (ρ1 ρ : Env) (n : Nat), ρ1.mapIdx (fun j e => if ws.contains (n + j) then (ρ[j]?).getD none else e) = reG ws n ρ ρ1
  | [], ρ, n => by
    cases ρ <;> rfl
  | e1 :: l1, [], n => by
    have ih := re_eq l1 [] (n + 1)
    rw [List.mapIdx_cons]
    show (if ws.contains (n + 0) then none else e1) :: _ = (if ws.contains n then none else e1) :: reG ws (n + 1) [] l1
    rw [← ih, Nat.add_zero]
    congr 2
    funext i e
    rw [show n + (i + 1) = n + 1 + i by omega]
    simp
  | e1 :: l1, e :: l, n => by
    have ih := re_eq l1 l (n + 1)
    rw [List.mapIdx_cons]
    show (if ws.contains (n + 0) then e else e1) :: _ = (if ws.contains n then e else e1) :: reG ws (n + 1) l l1
    rw [← ih, Nat.add_zero]
    congr 2
    funext i e
    rw [show n + (i + 1) = n + 1 + i by omega]
    simp
theorem ev_restE : restE ws ρ ρ1 = reG ws 0 ρ ρ1 := by
  rw [← re_eq]
  unfold restE
  congr 1
  funext i e
  rw [Nat.zero_add]
theorem ev_re0 : reG ws n ρ [] = [] := by cases ρ <;> exact id rfl
theorem ev_re1 : reG ws n (e :: l) (e1 :: l1) = (if ws.contains n then e else e1) :: reG ws (n + 1) l l1 := by exact id rfl
theorem ev_KpG0 : KpG i ws n [] [] = True := by exact id rfl
theorem ev_KpG1 : KpG i ws n (e :: l) (e1 :: l1) = ((n = i ∨ ws.contains n = true ∨ Kp1 e e1) ∧ KpG i ws (n + 1) l l1) := by exact id rfl
theorem ev_Kp_n : Kp1 e none = True := eq_true (.inl rfl)
theorem ev_Kp_e : Kp1 (some (.fz d)) (some (.fz d)) = True := eq_true (.inr ⟨rfl, rfl⟩)
theorem ev_Kp_ow : Kp1 e (some (.ow ds)) = (noLs ds = true) := by
  apply propext
  constructor
  · intro h
    rcases h with h | ⟨h, _⟩
    · exact h
    · cases h
  · exact fun h => .inl h
theorem ev_noL_i : D.noL (.int z) = true := by exact id rfl
theorem ev_noL_b : D.noL (.bl b) = true := by exact id rfl
theorem ev_noL_s : D.noL (.str c) = true := by exact id rfl
theorem ev_noL_n : D.noL .non = true := by exact id rfl
theorem ev_noL_t : D.noL (.tup ds) = noLs ds := by exact id rfl
theorem ev_noLs0 : noLs [] = true := by exact id rfl
theorem ev_noLs1 : noLs (d :: ds) = (d.noL && noLs ds) := by exact id rfl
theorem ev_noR_f : noR (.fz d) = d.noL := by exact id rfl
theorem ev_noR_o : noR (.ow ds) = noLs ds := by exact id rfl
end
end Mi

namespace Mi
open PySem PySem.Spec PyProof.Rows L2
/-! ### glue.join(list of texts) -/
def joinD : Op2
  | .str a, .lst xs => (strsOf xs).bind fun l => if (l.map (·.length)).sum + l.length * a.length ≤ SZ then some (.fz (.str (Txt.join a l))) else none
  | _, _ => none
def isTxt : D → Bool
  | .str _ => true
  | _ => false
def mJoin (ma mb : Ex) : Ex := fun ρ => (ma ρ).bind fun x ρ1 => if isTxt x.d then (mb ρ1).bind fun y ρ2 => mk (joinD x.d y.d) ρ2 else .no
section
variable {X : Cx} {W : WX} {io : Nat → Option Addr} {o e : Expr} {ma mb : Ex} {apos cpos : Pos}
theorem je_join (ho : JE X W io o ma) (he : JE X W io e mb) (hs : starEach [e] X.env = [(false, eval e X.env)] := by rfl) (hbase : attributeBase o "join" X.env (eval o X.env) = eval o X.env := by rfl) (hline : (apos.endLine == cpos.line) = true := by rfl) :
    JE X W io (.Call (.Attribute o "join" apos) [e] [] cpos) (mJoin ma mb) := by
  refine ⟨pei (pe_join ho.pe he.pe hs hbase hline) fun σ H Q h => ?_⟩
  obtain ⟨P, F, ρ, S, h⟩ := h
  refine tJ_bind S h fun x ρ1 v H1 F1 s1 S1 R1 h1 => ?_
  obtain ⟨hc, h1⟩ := toE_if h1
  obtain ⟨F2, s2, S2, q2⟩ := S1.cool R1
  cases ex : x.d <;> rw [ex] at hc <;> first | (simp [isTxt] at hc; done) | skip
  rename_i a
  rw [ex] at q2
  obtain rfl : v = V.str a := q2
  refine ⟨⟨a, rfl⟩, ?_⟩
  refine tJ_bind S2 (h1.up s2) fun y ρ2 w H3 F3 s3 S3 R3 h3 => ?_
  obtain ⟨F4, s4, S4, q4⟩ := S3.cool R3
  obtain ⟨z, ez, h5⟩ := mk_some (h3.up s4)
  rw [ex] at ez
  cases ey : y.d <;> rw [ey] at ez <;> first | (simp [joinD] at ez; done) | skip
  rename_i xs
  rw [ey] at q4
  obtain ⟨l, el, ez⟩ := Option.bind_eq_some_iff.mp ez
  split at ez
  · rename_i hn
    cases ez
    obtain ⟨p, us, rfl, hp, rp⟩ := Pk.lst S4.fh (Or.inl q4 : Pk X.K F4 H3 (.lst xs) w)
    have e2 := strs_rel rp el
    subst e2
    refine ⟨a, p, l, rfl, rfl, .inl (.inl (.inl hp)), ?_, ?_⟩
    · have : SZ = 100000 := rfl
      omega
    · exact (h5.want S4).fz S4.fh rfl
  · cases ez
end
/-! ### a text within a text -/
def hasT (i j : Str) : Bool := !(Builtin.Str.occurrences j i 0 j.length 1).isEmpty
def inTD : Op2
  | .str i, .str j => some (okB (hasT i j))
  | _, _ => none
def notInTD : Op2
  | .str i, .str j => some (okB (!hasT i j))
  | _, _ => none
section
variable {K : PySem.W.Frag}
theorem ok_inT : OpOk K (fun x y H Q => ∃ i j, x = .str i ∧ y = .str j ∧ Q (.bl (!(Builtin.Str.occurrences j i 0 j.length 1).isEmpty)) H) inTD := by
  intro F H x y dx dy z Q e qx qy h w
  cases dx <;> cases dy <;> first | (simp [inTD] at h; done) | skip
  cases h
  cases qx.str; cases qy.str
  exact ⟨_, _, rfl, rfl, w.fz e rfl⟩
theorem ok_ninT : OpOk K (fun x y H Q => ∃ i j, x = .str i ∧ y = .str j ∧ Q (.bl (!(!(Builtin.Str.occurrences j i 0 j.length 1).isEmpty))) H) notInTD := by
  intro F H x y dx dy z Q e qx qy h w
  cases dx <;> cases dy <;> first | (simp [notInTD] at h; done) | skip
  cases h
  cases qx.str; cases qy.str
  exact ⟨_, _, rfl, rfl, w.fz e rfl⟩
end
theorem ev_join_c {a : Str} {m : Ex} {ρ : Env} : mJoin (mC (.str a)) m ρ = (m ρ).bind fun y ρ2 => mk (joinD (.str a) y.d) ρ2 := rfl
theorem op_inT {i j : Str} : inTD (.str i) (.str j) = some (okB (hasT i j)) := rfl
theorem op_notInT {i j : Str} : notInTD (.str i) (.str j) = some (okB (!hasT i j)) := rfl
/-! ### what is never come to -/
def mNo : Ex := fun _ => .no
theorem je_no {X : Cx} {W : WX} {io : Nat → Option Addr} {e : Expr} : JE X W io e mNo := ⟨⟨fun pins s σ H Q I h => by
  obtain ⟨P, F, ρ, S, h⟩ := h
  exact h.elim⟩⟩
def sNo : Sm := fun _ => .no
theorem js_no {X : Cx} {W : WX} {io : Nat → Option Addr} {s : Stmt} : JS X W io s sNo := ⟨⟨fun pins s σ H D I h => by
  obtain ⟨P, F, ρ, S, h⟩ := h
  exact h.elim⟩⟩
end Mi

namespace Mi
open PySem PySem.Spec PyProof.Rows L2
/-! ### list(text) -/
def rListT : List V → Hp → VK → Prop := fun xs H Q => ∃ z : Str, xs = [V.str z] ∧ z.length ≤ SZ ∧ ∀ l, H l = none → Q (.ref l) (upd H l (.lst (z.cps.toList.map fun c => V.str ⟨#[c]⟩)))
theorem vals_sg : ∀ (l : List Value) (cs : List Nat), l.length = cs.length → (∀ (k : Nat) (v : Value), l[k]? = some v → ∃ c t, cs[k]? = some c ∧ v = .str ⟨#[c]⟩ t) → Vals (cs.map fun c => V.str ⟨#[c]⟩) l
  | [], [], _, _ => .nil
  | [], _ :: _, h, _ => by cases h
  | _ :: _, [], h, _ => by cases h
  | x :: l, c :: cs, hl, h => by
    obtain ⟨c', t, e1, e2⟩ := h 0 x rfl
    cases (Option.some.inj e1)
    have ih := vals_sg l cs (by simpa using hl) fun k v hk => h (k + 1) v (by simpa using hk)
    exact .cons ⟨t, e2⟩ ih
theorem call_list_t {X : Cx} (hc : X.calm = true) : CallR X (.type "list") rListT := by
  intro pins s σ H xs us Q I r h
  obtain ⟨z, rfl, hz, q⟩ := h
  obtain ⟨u, rfl, t, rfl⟩ := r.one
  have hz2 := SZ_le
  have hzl : z.cps.size = z.length := rfl
  refine call_list_str (I.ok.hd hc) z t (fun h' tk acc c' hk hS hi => ?_) (by omega)
  have hv : Vals (z.cps.toList.map fun c => V.str ⟨#[c]⟩) acc.toList := by
    obtain ⟨h1, h2⟩ := hi
    refine vals_sg _ _ (by simpa using h1) fun k v hk => ?_
    obtain ⟨c, t, e1, e2⟩ := h2 k v (by simpa using hk)
    exact ⟨c, t, by simpa using e1, e2⟩
  refine ⟨.ref s.heap.objs.size, upd H s.heap.objs.size (.lst (z.cps.toList.map fun c => V.str ⟨#[c]⟩)), I.laid (t' := tk) hk (Nat.le_refl _) ?_, rfl, q _ (I.hok.fresh (Nat.le_refl _))⟩
  exact ⟨by rw [List.length_map, Array.length_toList]; omega, acc.toList, c', hv, by simpa using hS⟩
def listTD : OpN
  | [.str z] => if z.length ≤ SZ then some (.ow (z.cps.toList.map fun c => .str ⟨#[c]⟩)) else none
  | _ => none
theorem fz_sg {K : PySem.W.Frag} {F : Hp} : ∀ cs : List Nat, FzL K F (cs.map fun c => D.str ⟨#[c]⟩) (cs.map fun c => V.str ⟨#[c]⟩)
  | [] => rfl
  | c :: cs => ⟨.str ⟨#[c]⟩, cs.map fun c => V.str ⟨#[c]⟩, rfl, rfl, fz_sg cs⟩
theorem ok_listT {K : PySem.W.Frag} : CallOk K rListT listTD := by
  intro F H vs ds z Q e q h w
  match ds, h with
  | [.str x], h =>
    obtain ⟨h1, rfl⟩ := ifs h
    obtain ⟨v, rfl, q1⟩ := q.one
    cases q1.str
    exact ⟨x, rfl, h1, fun l hl => w.lst e hl (fz_sg _)⟩
/-! ### sum of a tuple of ints -/
theorem sum_tupG {prog : Program} {w : World} {A : Around} {E : Value → Shared → Prop} {s : Shared} {l : Addr} {xs : Array (Int × Tok)} {Q : Value → Shared → Prop} (hh : A.handled = none) (hl : s.heap.IsTuple l (intItems xs))
    (h : ∀ h' tk t', (∀ b o, s.heap.get? b = some o → h'.get? b = some o) → Q (.int (preSum (numAt xs) xs.size) t') { s with heap := h', toks := tk }) :
    wpAny (model prog w) A (call (.builtin "sum") [.ref l]) Q E s := by
  have hlt : l < s.heap.objs.size := by obtain ⟨_, e, _⟩ := hl; exact Heap.lt_size e
  refine call_sum_walkG (wpAny_pyIter_tuple hl ?_)
  refine ⟨_, [_, l], [_], _, _, _, numAt xs, rfl, Walks.tuple (A := A.in1) hh _ l (Nat.ne_of_lt hlt) (intItems xs), ⟨⟨_, Heap.get?_push_size _ rfl, rfl, rfl⟩, hl.push _⟩, fun c hc => ?_, (fun _ _ => intItems_at), fun h' tk t' hk => ?_⟩
  · show c < (s.heap.push _).objs.size
    rw [Heap.size_push]
    rcases List.mem_cons.mp hc with rfl | hc
    · exact Nat.lt_succ_self _
    · rw [List.mem_singleton] at hc
      subst hc
      exact Nat.lt_succ_of_lt hlt
  · have hold : ∀ c o, s.heap.get? c = some o → h'.get? c = some o := fun c o e => by
      refine hk c o (fun hm => ?_) (Heap.get?_push_of_some _ e)
      rw [List.mem_singleton] at hm
      have := Heap.lt_size e
      rw [hm] at this
      exact Nat.lt_irrefl _ this
    have := h h' tk t' hold
    simpa [intItems] using this
theorem sum_tup_raw {prog : Program} {w : World} {A : Around} {E : Value → Shared → Prop} {s : Shared} {l : Addr} {its : List Value} {ns : List Int} {Q : Value → Shared → Prop} (hh : A.handled = none) (hl : s.heap.IsTuple l its.toArray) (hi : IntsAre its ns)
    (h : ∀ h' tk t', (∀ b o, s.heap.get? b = some o → h'.get? b = some o) → Q (.int ns.sum t') { s with heap := h', toks := tk }) : wpAny (model prog w) A (call (.builtin "sum") [.ref l]) Q E s := by
  obtain ⟨xs, e⟩ := hi.allInts.items
  have hn : numsOf (intItems xs).toList = ns := by rw [← e]; exact hi.numsOf
  rw [nums_intItems] at hn
  rw [e] at hl
  refine sum_tupG hh hl fun h' tk t' hk => ?_
  have := h h' tk t' hk
  rw [preSum_eq, List.take_of_length_le (by simp), hn]; exact this
def rSumT (K : PySem.W.Frag) : List V → Hp → VK → Prop := fun vs H Q => ∃ (a : Addr) (ns : List Int), vs = [V.ref a] ∧ SqT K H a (ns.map V.int) ∧ Q (.int ns.sum) H
theorem cr_sumT {X : Cx} (hc : X.calm = true) : CallR X (.builtin "sum") (rSumT X.K) := by
  intro pins s σ H vs us Q I r h
  obtain ⟨a, ns, rfl, hs, q⟩ := h
  obtain ⟨its, rv, hl, _⟩ := I.tuple hs
  rw [Vals.ref1 r]
  exact sum_tup_raw (I.ok.hd hc) hl rv.ints fun h' tk t' hk => ⟨.int _, H, I.kept hk, ⟨_, rfl⟩, q⟩
def sumTD : OpN
  | [.tup xs] => (intsOf xs).map fun l => okI l.sum
  | _ => none
theorem ok_sumT {K : PySem.W.Frag} : CallOk K (rSumT K) sumTD := by
  intro F H vs ds z Q e q h w
  match ds, h with
  | [.tup xs], h =>
    obtain ⟨l, h1, rfl⟩ := Option.map_eq_some_iff.mp h
    obtain ⟨v, rfl, q1⟩ := q.one
    obtain ⟨a, us, rfl, ha, ra⟩ := q1.tup
    have e2 := ints_rel ra h1
    subst e2
    exact ⟨a, l, rfl, same_seqT e ha, w.fz e rfl⟩
end Mi

namespace Mi
open PySem PySem.Spec PyProof.Rows L2
/-! ### the layer's rows as one -/
theorem EVA : type_of% (And.intro @ev_seq (And.intro @ev_seq_nx (And.intro @ev_seq_rt (And.intro @ev_seq_ex (And.intro @ev_seq_bk (And.intro @ev_seq_ct (And.intro @ev_nil (And.intro @ev_pass (And.intro @ev_break (And.intro @ev_cont (And.intro @ev_retN (And.intro @ev_ret (And.intro @ev_drop (And.intro @ev_set (And.intro @ev_raise (And.intro @ev_if (And.intro @ev_par (And.intro @ev_par3 (And.intro @ev_toS_ok (And.intro @ev_toS_ex (And.intro @ev_toS_no (And.intro @ev_bind_ok (And.intro @ev_bind_ex (And.intro @ev_bind_no (And.intro @ev_C (And.intro @ev_var (And.intro @ev_var1 (And.intro @ev_var2 (And.intro @ev_mov (And.intro @ev_mov1 (And.intro @ev_mov2 (And.intro @ev_okV_e (And.intro @ev_okV_v (And.intro @ev_okO (And.intro @ev_run_e (And.intro @ev_run_v (And.intro @ev_get_d (And.intro @ev_get_i (And.intro @ev_getO (And.intro @ev_d_fz (And.intro @ev_d_ow (And.intro @ev_d_io (And.intro @ev_op2 (And.intro @ev_get2 (And.intro @ev_g2 (And.intro @ev_op1 (And.intro @ev_get1 (And.intro @ev_g1 (And.intro @ev_mk (And.intro @ev_mk0 (And.intro @ev_opN (And.intro @ev_all_nil (And.intro @ev_all_cons (And.intro @ev_runO_nil (And.intro @ev_runO_cons (And.intro @ev_getN (And.intro @ev_gN (And.intro @ev_getL_nil (And.intro @ev_getL_cons (And.intro @ev_gL (And.intro @ev_runE_nil (And.intro @ev_runE_cons (And.intro @ev_tup (And.intro @ev_lst (And.intro @ev_mIf (And.intro @ev_and (And.intro @ev_or (And.intro @ev_not (And.intro @ev_blR (And.intro @ev_toT (And.intro @ev_blT (And.intro @ev_okI (And.intro @ev_okB (And.intro @ev_tru (And.intro @ev_mkT (And.intro @ev_obind (And.intro @ev_tru_bl (And.intro @ev_andT (And.intro @ev_orT (And.intro @ev_notT (And.intro @ev_chain (And.intro @ev_chR (And.intro @ev_fn (And.intro @ev_of_nx (And.intro @ev_of_rt (And.intro @ev_of_ex (And.intro @ev_outs0 (And.intro @ev_outs1 (And.intro @ev_ioE_n (And.intro @ev_ioE_f (And.intro @ev_ioE_o (And.intro @ev_ioE_i (And.intro @ev_call (And.intro @ev_callK (And.intro @ev_callR (And.intro @ev_args_nil (And.intro @ev_args_cons (And.intro @ev_argC (And.intro @ev_arg_d (And.intro @ev_arg_i (And.intro @ev_argO_f (And.intro @ev_argO_o (And.intro @ev_argO_i (And.intro @ev_apart_nil (And.intro @ev_apart_d (And.intro @ev_apart_i (And.intro @ev_any_nil (And.intro @ev_any_cons (And.intro @ev_at_d (And.intro @ev_at_i (And.intro @ev_ofF_ret (And.intro @ev_ofF_exc (And.intro @ev_back0 (And.intro @ev_back1 (And.intro @ev_b1n (And.intro @ev_b1f (And.intro @ev_b1o (And.intro @ev_b1i (And.intro @ev_bkO0 (And.intro @ev_bkO1 (And.intro @ev_bkI0 (And.intro @ev_bkI1 (And.intro @ev_look0 (And.intro @ev_look_d (And.intro @ev_look_i (And.intro @ev_join (And.intro @ev_head (And.intro @ev_tail (And.intro @ev_call1 (And.intro @ev_go_o (And.intro @ev_go_f (And.intro @ev_of1_r (And.intro @ev_of1_e (And.intro @op_add_i (And.intro @op_sub_i (And.intro @op_iadd_i (And.intro @op_mul_i (And.intro @op_fdiv_i (And.intro @op_mod_i (And.intro @op_pow8_i (And.intro @op_powL_i (And.intro @op_lt_i (And.intro @op_le_i (And.intro @op_gt_i (And.intro @op_ge_i (And.intro @op_neg_i (And.intro @op_eq_i (And.intro @op_ne_i (And.intro @op_eq_s (And.intro @op_ne_s (And.intro @op_is_n (And.intro @op_len_l (And.intro @op_len_t (And.intro @op_len_s (And.intro @op_abs_i (And.intro @op_max_i (And.intro @op_min_i (And.intro @op_int_i (And.intro @op_int_b (And.intro @op_divmod_i (And.intro @op_tup_l (And.intro @op_tup_t (And.intro @op_list_l (And.intro @op_list_t (And.intro @op_rev_l (And.intro @op_rev_t (And.intro @op_own_o (And.intro @op_own_i (And.intro @op_setix (And.intro @op_setR (And.intro @op_stN (And.intro @op_as_o (And.intro @op_as_i (And.intro @op_isS (And.intro @op_mut (And.intro @op_mutR (And.intro @op_mutS (And.intro @op_asg_seq (And.intro @op_asg_seql (And.intro @op_asg_cons (And.intro @op_asg_nil (And.intro @op_asg_nm (And.intro @op_asg (And.intro @op_asgR (And.intro @ixN_1_0 (And.intro @ixN_1_m1 (And.intro @ixN_2_0 (And.intro @ixN_2_1 (And.intro @ixN_2_m1 (And.intro @ixN_3_0 (And.intro @ixN_3_1 (And.intro @ixN_3_2 (And.intro @ixN_3_m1 (And.intro @ixN_4_0 (And.intro @ixN_4_1 (And.intro @ixN_4_2 (And.intro @ixN_4_3 (And.intro @ixN_4_m1 (And.intro @ixN_5_0 (And.intro @ixN_5_1 (And.intro @ixN_5_2 (And.intro @ixN_5_3 (And.intro @ixN_5_4 (And.intro @ixN_5_m1 (And.intro @ixN_6_0 (And.intro @ixN_6_1 (And.intro @ixN_6_2 (And.intro @ixN_6_3 (And.intro @ixN_6_4 (And.intro @ixN_6_5 (And.intro @ixN_6_m1 (And.intro @ixN_7_0 (And.intro @ixN_7_1 (And.intro @ixN_7_2 (And.intro @ixN_7_3 (And.intro @ixN_7_4 (And.intro @ixN_7_5 (And.intro @ixN_7_6 (And.intro @ixN_7_m1 (And.intro @ixN_8_0 (And.intro @ixN_8_1 (And.intro @ixN_8_2 (And.intro @ixN_8_3 (And.intro @ixN_8_4 (And.intro @ixN_8_5 (And.intro @ixN_8_6 (And.intro @ixN_8_7 (And.intro @ixN_8_m1 (And.intro @ixN_9_0 (And.intro @ixN_9_1 (And.intro @ixN_9_2 (And.intro @ixN_9_3 (And.intro @ixN_9_4 (And.intro @ixN_9_5 (And.intro @ixN_9_6 (And.intro @ixN_9_7 (And.intro @ixN_9_8 (And.intro @ixN_9_m1 (And.intro @ixN_10_0 (And.intro @ixN_10_1 (And.intro @ixN_10_2 (And.intro @ixN_10_3 (And.intro @ixN_10_4 (And.intro @ixN_10_5 (And.intro @ixN_10_6 (And.intro @ixN_10_7 (And.intro @ixN_10_8 (And.intro @ixN_10_9 (And.intro @ixN_10_m1 (And.intro @ixN_11_0 (And.intro @ixN_11_1 (And.intro @ixN_11_2 (And.intro @ixN_11_3 (And.intro @ixN_11_4 (And.intro @ixN_11_5 (And.intro @ixN_11_6 (And.intro @ixN_11_7 (And.intro @ixN_11_8 (And.intro @ixN_11_9 (And.intro @ixN_11_10 (And.intro @ixN_11_m1 (And.intro @ixN_12_0 (And.intro @ixN_12_1 (And.intro @ixN_12_2 (And.intro @ixN_12_3 (And.intro @ixN_12_4 (And.intro @ixN_12_5 (And.intro @ixN_12_6 (And.intro @ixN_12_7 (And.intro @ixN_12_8 (And.intro @ixN_12_9 (And.intro @ixN_12_10 (And.intro @ixN_12_11 (And.intro @ixN_12_m1 (And.intro @ixN_13_0 (And.intro @ixN_13_1 (And.intro @ixN_13_2 (And.intro @ixN_13_3 (And.intro @ixN_13_4 (And.intro @ixN_13_5 (And.intro @ixN_13_6 (And.intro @ixN_13_7 (And.intro @ixN_13_8 (And.intro @ixN_13_9 (And.intro @ixN_13_10 (And.intro @ixN_13_11 (And.intro @ixN_13_12 (And.intro @ixN_13_m1 (And.intro @ixN_14_0 (And.intro @ixN_14_1 (And.intro @ixN_14_2 (And.intro @ixN_14_3 (And.intro @ixN_14_4 (And.intro @ixN_14_5 (And.intro @ixN_14_6 (And.intro @ixN_14_7 (And.intro @ixN_14_8 (And.intro @ixN_14_9 (And.intro @ixN_14_10 (And.intro @ixN_14_11 (And.intro @ixN_14_12 (And.intro @ixN_14_13 (And.intro @ixN_14_m1 (And.intro @ixN_15_0 (And.intro @ixN_15_1 (And.intro @ixN_15_2 (And.intro @ixN_15_3 (And.intro @ixN_15_4 (And.intro @ixN_15_5 (And.intro @ixN_15_6 (And.intro @ixN_15_7 (And.intro @ixN_15_8 (And.intro @ixN_15_9 (And.intro @ixN_15_10 (And.intro @ixN_15_11 (And.intro @ixN_15_12 (And.intro @ixN_15_13 (And.intro @ixN_15_14 (And.intro @ixN_15_m1 (And.intro @ix_l0 (And.intro @ix_t0 (And.intro @ix_l1 (And.intro @ix_t1 (And.intro @ix_l2 (And.intro @ix_t2 (And.intro @ix_l3 (And.intro @ix_t3 (And.intro @ix_l4 (And.intro @ix_t4 (And.intro @ix_l5 (And.intro @ix_t5 (And.intro @ix_l6 (And.intro @ix_t6 (And.intro @ix_l7 (And.intro @ix_t7 (And.intro @ix_l8 (And.intro @ix_t8 (And.intro @ix_l9 (And.intro @ix_t9 (And.intro @ix_l10 (And.intro @ix_t10 (And.intro @ix_l11 (And.intro @ix_t11 (And.intro @ix_l12 (And.intro @ix_t12 (And.intro @ix_l13 (And.intro @ix_t13 (And.intro @ev_for (And.intro @ev_iSeq (And.intro @ev_mkI (And.intro @ev_iter_l (And.intro @ev_iter_t (And.intro @ev_iter_s (And.intro @ev_turn_nx (And.intro @ev_turn_ct (And.intro @ev_turn_bk (And.intro @ev_turn_rt (And.intro @ev_turn_ex (And.intro @ev_loop0 (And.intro @ev_forR (And.intro @ev_enum (And.intro @ev_enumI (And.intro @ev_zip (And.intro @ev_wipe0 (And.intro @ev_wipe1 (And.intro @ev_un0 (And.intro @ev_un1 (And.intro @ev_unO_f (And.intro @ev_unO_n (And.intro @ev_comp (And.intro @ev_lc0 (And.intro @ev_lcR0 (And.intro @ev_turnC (And.intro @ev_tcR (And.intro @ev_yes (And.intro @ev_tryAs (And.intro @ev_tryS_ex (And.intro @ev_tryS_nx (And.intro @ev_tryS_rt (And.intro @ev_tryR (And.intro @ev_gone_nx (And.intro @ev_gone_rt (And.intro @ev_nest (And.intro @ev_isE (And.intro @ev_sl (And.intro @ev_part0 (And.intro @ev_part1 (And.intro @ev_partR (And.intro @ev_sl_t (And.intro @ev_sl_l (And.intro @ev_cast0 (And.intro @ev_cast1 (And.intro @ev_cast2 (And.intro @ev_cast3 (And.intro @ev_cast4 (And.intro @ev_cast5 (And.intro @ev_cast6 (And.intro @ev_cast7 (And.intro @ev_cast8 (And.intro @ev_cast9 (And.intro @ev_cast10 (And.intro @ev_cast11 (And.intro @ev_cast12 (And.intro @ev_cast13 (And.intro @ev_cast14 (And.intro @ev_cast15 (And.intro @ev_cast16 (And.intro @ev_cast17 (And.intro @ev_cast18 (And.intro @ev_cast19 (And.intro @ev_cast20 (And.intro @ev_isi_tt (And.intro @ev_isi_ti (And.intro @ev_is_t (And.intro @ev_isnot_t (And.intro @ev_isnot_n (And.intro @ev_zip_tt (And.intro @ev_zip_ll (And.intro @op_eqs (And.intro @op_nes (And.intro @ev_aug (And.intro @ev_augR (And.intro @ev_augS (And.intro @ev_try (And.intro @ev_tryT_ex (And.intro @ev_tryT_nx (And.intro @ev_tryT_rt (And.intro @ev_tryT_bk (And.intro @ev_tryT_ct (And.intro @ev_tryU (And.intro @ev_tryU0 (And.intro @ev_cold_nx (And.intro @ev_cold_rt (And.intro @ev_is2_n (And.intro @ev_is2_b (And.intro @ev_isn2_n (And.intro @ev_isn2_b (And.intro @ev_repr2_b (And.intro @ev_repr2_l (And.intro @ev_repr2_t (And.intro @ev_lend (And.intro @ev_lend_ow (And.intro @ev_lend_fz (And.intro @ev_lend_ok (And.intro @ev_wipeE (And.intro @ev_wi0 (And.intro @ev_wi1 (And.intro @ev_restE (And.intro @ev_re0 (And.intro @ev_re1 (And.intro @ev_KpG0 (And.intro @ev_KpG1 (And.intro @ev_Kp_n (And.intro @ev_Kp_e (And.intro @ev_Kp_ow (And.intro @ev_noL_i (And.intro @ev_noL_b (And.intro @ev_noL_s (And.intro @ev_noL_n (And.intro @ev_noL_t (And.intro @ev_noLs0 (And.intro @ev_noLs1 (And.intro @ev_noR_f (And.intro @ev_noR_o (And.intro @ev_join_c (And.intro @op_inT (And.intro @op_notInT (And.intro @back_eq (And.intro @wipe_eq (And.intro @unwipe_eq (And.intro @cut1 (And.intro @rg1_eq (And.intro @rb1_ok (And.intro @rg2_eq (And.intro @rb2_ok (And.intro @bk_d0 (And.intro @bk_d1 (And.intro @bk_d2 (And.intro @bk_d3 (And.intro @bk_d4 (And.intro @bk_d5 (And.intro @bk_i0 (And.intro @bk_i1 (And.intro @bk_i2 (And.intro @bk_i3 (And.intro @bk_i4 @bk_i5)))))))))))))))))))))))))))))))))))))))))))))))))))))))))))))))))))))))))))))))))))))))))))))))))))))))))))))))))))))))))))))))))))))))))))))))))))))))))))))))))))))))))))))))))))))))))))))))))))))))))))))))))))))))))))))))))))))))))))))))))))))))))))))))))))))))))))))))))))))))))))))))))))))))))))))))))))))))))))))))))))))))))))))))))))))))))))))))))))))))))))))))))))))))))))))))))))))))))))))))))))))))))))))))))))))))))))))))))))))))))))))))))))))))))))))))))))))))))))))))))))))) := (And.intro @ev_seq (And.intro @ev_seq_nx (And.intro @ev_seq_rt (And.intro @ev_seq_ex (And.intro @ev_seq_bk (And.intro @ev_seq_ct (And.intro @ev_nil (And.intro @ev_pass (And.intro @ev_break (And.intro @ev_cont (And.intro @ev_retN (And.intro @ev_ret (And.intro @ev_drop (And.intro @ev_set (And.intro @ev_raise (And.intro @ev_if (And.intro @ev_par (And.intro @ev_par3 (And.intro @ev_toS_ok (And.intro @ev_toS_ex (And.intro @ev_toS_no (And.intro @ev_bind_ok (And.intro @ev_bind_ex (And.intro @ev_bind_no (And.intro @ev_C (And.intro @ev_var (And.intro @ev_var1 (And.intro @ev_var2 (And.intro @ev_mov (And.intro @ev_mov1 (And.intro @ev_mov2 (And.intro @ev_okV_e (And.intro @ev_okV_v (And.intro @ev_okO (And.intro @ev_run_e (And.intro @ev_run_v (And.intro @ev_get_d (And.intro @ev_get_i (And.intro @ev_getO (And.intro @ev_d_fz (And.intro @ev_d_ow (And.intro @ev_d_io (And.intro @ev_op2 (And.intro @ev_get2 (And.intro @ev_g2 (And.intro @ev_op1 (And.intro @ev_get1 (And.intro @ev_g1 (And.intro @ev_mk (And.intro @ev_mk0 (And.intro @ev_opN (And.intro @ev_all_nil (And.intro @ev_all_cons (And.intro @ev_runO_nil (And.intro @ev_runO_cons (And.intro @ev_getN (And.intro @ev_gN (And.intro @ev_getL_nil (And.intro @ev_getL_cons (And.intro @ev_gL (And.intro @ev_runE_nil (And.intro @ev_runE_cons (And.intro @ev_tup (And.intro @ev_lst (And.intro @ev_mIf (And.intro @ev_and (And.intro @ev_or (And.intro @ev_not (And.intro @ev_blR (And.intro @ev_toT (And.intro @ev_blT (And.intro @ev_okI (And.intro @ev_okB (And.intro @ev_tru (And.intro @ev_mkT (And.intro @ev_obind (And.intro @ev_tru_bl (And.intro @ev_andT (And.intro @ev_orT (And.intro @ev_notT (And.intro @ev_chain (And.intro @ev_chR (And.intro @ev_fn (And.intro @ev_of_nx (And.intro @ev_of_rt (And.intro @ev_of_ex (And.intro @ev_outs0 (And.intro @ev_outs1 (And.intro @ev_ioE_n (And.intro @ev_ioE_f (And.intro @ev_ioE_o (And.intro @ev_ioE_i (And.intro @ev_call (And.intro @ev_callK (And.intro @ev_callR (And.intro @ev_args_nil (And.intro @ev_args_cons (And.intro @ev_argC (And.intro @ev_arg_d (And.intro @ev_arg_i (And.intro @ev_argO_f (And.intro @ev_argO_o (And.intro @ev_argO_i (And.intro @ev_apart_nil (And.intro @ev_apart_d (And.intro @ev_apart_i (And.intro @ev_any_nil (And.intro @ev_any_cons (And.intro @ev_at_d (And.intro @ev_at_i (And.intro @ev_ofF_ret (And.intro @ev_ofF_exc (And.intro @ev_back0 (And.intro @ev_back1 (And.intro @ev_b1n (And.intro @ev_b1f (And.intro @ev_b1o (And.intro @ev_b1i (And.intro @ev_bkO0 (And.intro @ev_bkO1 (And.intro @ev_bkI0 (And.intro @ev_bkI1 (And.intro @ev_look0 (And.intro @ev_look_d (And.intro @ev_look_i (And.intro @ev_join (And.intro @ev_head (And.intro @ev_tail (And.intro @ev_call1 (And.intro @ev_go_o (And.intro @ev_go_f (And.intro @ev_of1_r (And.intro @ev_of1_e (And.intro @op_add_i (And.intro @op_sub_i (And.intro @op_iadd_i (And.intro @op_mul_i (And.intro @op_fdiv_i (And.intro @op_mod_i (And.intro @op_pow8_i (And.intro @op_powL_i (And.intro @op_lt_i (And.intro @op_le_i (And.intro @op_gt_i (And.intro @op_ge_i (And.intro @op_neg_i (And.intro @op_eq_i (And.intro @op_ne_i (And.intro @op_eq_s (And.intro @op_ne_s (And.intro @op_is_n (And.intro @op_len_l (And.intro @op_len_t (And.intro @op_len_s (And.intro @op_abs_i (And.intro @op_max_i (And.intro @op_min_i (And.intro @op_int_i (And.intro @op_int_b (And.intro @op_divmod_i (And.intro @op_tup_l (And.intro @op_tup_t (And.intro @op_list_l (And.intro @op_list_t (And.intro @op_rev_l (And.intro @op_rev_t (And.intro @op_own_o (And.intro @op_own_i (And.intro @op_setix (And.intro @op_setR (And.intro @op_stN (And.intro @op_as_o (And.intro @op_as_i (And.intro @op_isS (And.intro @op_mut (And.intro @op_mutR (And.intro @op_mutS (And.intro @op_asg_seq (And.intro @op_asg_seql (And.intro @op_asg_cons (And.intro @op_asg_nil (And.intro @op_asg_nm (And.intro @op_asg (And.intro @op_asgR (And.intro @ixN_1_0 (And.intro @ixN_1_m1 (And.intro @ixN_2_0 (And.intro @ixN_2_1 (And.intro @ixN_2_m1 (And.intro @ixN_3_0 (And.intro @ixN_3_1 (And.intro @ixN_3_2 (And.intro @ixN_3_m1 (And.intro @ixN_4_0 (And.intro @ixN_4_1 (And.intro @ixN_4_2 (And.intro @ixN_4_3 (And.intro @ixN_4_m1 (And.intro @ixN_5_0 (And.intro @ixN_5_1 (And.intro @ixN_5_2 (And.intro @ixN_5_3 (And.intro @ixN_5_4 (And.intro @ixN_5_m1 (And.intro @ixN_6_0 (And.intro @ixN_6_1 (And.intro @ixN_6_2 (And.intro @ixN_6_3 (And.intro @ixN_6_4 (And.intro @ixN_6_5 (And.intro @ixN_6_m1 (And.intro @ixN_7_0 (And.intro @ixN_7_1 (And.intro @ixN_7_2 (And.intro @ixN_7_3 (And.intro @ixN_7_4 (And.intro @ixN_7_5 (And.intro @ixN_7_6 (And.intro @ixN_7_m1 (And.intro @ixN_8_0 (And.intro @ixN_8_1 (And.intro @ixN_8_2 (And.intro @ixN_8_3 (And.intro @ixN_8_4 (And.intro @ixN_8_5 (And.intro @ixN_8_6 (And.intro @ixN_8_7 (And.intro @ixN_8_m1 (And.intro @ixN_9_0 (And.intro @ixN_9_1 (And.intro @ixN_9_2 (And.intro @ixN_9_3 (And.intro @ixN_9_4 (And.intro @ixN_9_5 (And.intro @ixN_9_6 (And.intro @ixN_9_7 (And.intro @ixN_9_8 (And.intro @ixN_9_m1 (And.intro @ixN_10_0 (And.intro @ixN_10_1 (And.intro @ixN_10_2 (And.intro @ixN_10_3 (And.intro @ixN_10_4 (And.intro @ixN_10_5 (And.intro @ixN_10_6 (And.intro @ixN_10_7 (And.intro @ixN_10_8 (And.intro @ixN_10_9 (And.intro @ixN_10_m1 (And.intro @ixN_11_0 (And.intro @ixN_11_1 (And.intro @ixN_11_2 (And.intro @ixN_11_3 (And.intro @ixN_11_4 (And.intro @ixN_11_5 (And.intro @ixN_11_6 (And.intro @ixN_11_7 (And.intro @ixN_11_8 (And.intro @ixN_11_9 (And.intro @ixN_11_10 (And.intro @ixN_11_m1 (And.intro @ixN_12_0 (And.intro @ixN_12_1 (And.intro @ixN_12_2 (And.intro @ixN_12_3 (And.intro @ixN_12_4 (And.intro @ixN_12_5 (And.intro @ixN_12_6 (And.intro @ixN_12_7 (And.intro @ixN_12_8 (And.intro @ixN_12_9 (And.intro @ixN_12_10 (And.intro @ixN_12_11 (And.intro @ixN_12_m1 (And.intro @ixN_13_0 (And.intro @ixN_13_1 (And.intro @ixN_13_2 (And.intro @ixN_13_3 (And.intro @ixN_13_4 (And.intro @ixN_13_5 (And.intro @ixN_13_6 (And.intro @ixN_13_7 (And.intro @ixN_13_8 (And.intro @ixN_13_9 (And.intro @ixN_13_10 (And.intro @ixN_13_11 (And.intro @ixN_13_12 (And.intro @ixN_13_m1 (And.intro @ixN_14_0 (And.intro @ixN_14_1 (And.intro @ixN_14_2 (And.intro @ixN_14_3 (And.intro @ixN_14_4 (And.intro @ixN_14_5 (And.intro @ixN_14_6 (And.intro @ixN_14_7 (And.intro @ixN_14_8 (And.intro @ixN_14_9 (And.intro @ixN_14_10 (And.intro @ixN_14_11 (And.intro @ixN_14_12 (And.intro @ixN_14_13 (And.intro @ixN_14_m1 (And.intro @ixN_15_0 (And.intro @ixN_15_1 (And.intro @ixN_15_2 (And.intro @ixN_15_3 (And.intro @ixN_15_4 (And.intro @ixN_15_5 (And.intro @ixN_15_6 (And.intro @ixN_15_7 (And.intro @ixN_15_8 (And.intro @ixN_15_9 (And.intro @ixN_15_10 (And.intro @ixN_15_11 (And.intro @ixN_15_12 (And.intro @ixN_15_13 (And.intro @ixN_15_14 (And.intro @ixN_15_m1 (And.intro @ix_l0 (And.intro @ix_t0 (And.intro @ix_l1 (And.intro @ix_t1 (And.intro @ix_l2 (And.intro @ix_t2 (And.intro @ix_l3 (And.intro @ix_t3 (And.intro @ix_l4 (And.intro @ix_t4 (And.intro @ix_l5 (And.intro @ix_t5 (And.intro @ix_l6 (And.intro @ix_t6 (And.intro @ix_l7 (And.intro @ix_t7 (And.intro @ix_l8 (And.intro @ix_t8 (And.intro @ix_l9 (And.intro @ix_t9 (And.intro @ix_l10 (And.intro @ix_t10 (And.intro @ix_l11 (And.intro @ix_t11 (And.intro @ix_l12 (And.intro @ix_t12 (And.intro @ix_l13 (And.intro @ix_t13 (And.intro @ev_for (And.intro @ev_iSeq (And.intro @ev_mkI (And.intro @ev_iter_l (And.intro @ev_iter_t (And.intro @ev_iter_s (And.intro @ev_turn_nx (And.intro @ev_turn_ct (And.intro @ev_turn_bk (And.intro @ev_turn_rt (And.intro @ev_turn_ex (And.intro @ev_loop0 (And.intro @ev_forR (And.intro @ev_enum (And.intro @ev_enumI (And.intro @ev_zip (And.intro @ev_wipe0 (And.intro @ev_wipe1 (And.intro @ev_un0 (And.intro @ev_un1 (And.intro @ev_unO_f (And.intro @ev_unO_n (And.intro @ev_comp (And.intro @ev_lc0 (And.intro @ev_lcR0 (And.intro @ev_turnC (And.intro @ev_tcR (And.intro @ev_yes (And.intro @ev_tryAs (And.intro @ev_tryS_ex (And.intro @ev_tryS_nx (And.intro @ev_tryS_rt (And.intro @ev_tryR (And.intro @ev_gone_nx (And.intro @ev_gone_rt (And.intro @ev_nest (And.intro @ev_isE (And.intro @ev_sl (And.intro @ev_part0 (And.intro @ev_part1 (And.intro @ev_partR (And.intro @ev_sl_t (And.intro @ev_sl_l (And.intro @ev_cast0 (And.intro @ev_cast1 (And.intro @ev_cast2 (And.intro @ev_cast3 (And.intro @ev_cast4 (And.intro @ev_cast5 (And.intro @ev_cast6 (And.intro @ev_cast7 (And.intro @ev_cast8 (And.intro @ev_cast9 (And.intro @ev_cast10 (And.intro @ev_cast11 (And.intro @ev_cast12 (And.intro @ev_cast13 (And.intro @ev_cast14 (And.intro @ev_cast15 (And.intro @ev_cast16 (And.intro @ev_cast17 (And.intro @ev_cast18 (And.intro @ev_cast19 (And.intro @ev_cast20 (And.intro @ev_isi_tt (And.intro @ev_isi_ti (And.intro @ev_is_t (And.intro @ev_isnot_t (And.intro @ev_isnot_n (And.intro @ev_zip_tt (And.intro @ev_zip_ll (And.intro @op_eqs (And.intro @op_nes (And.intro @ev_aug (And.intro @ev_augR (And.intro @ev_augS (And.intro @ev_try (And.intro @ev_tryT_ex (And.intro @ev_tryT_nx (And.intro @ev_tryT_rt (And.intro @ev_tryT_bk (And.intro @ev_tryT_ct (And.intro @ev_tryU (And.intro @ev_tryU0 (And.intro @ev_cold_nx (And.intro @ev_cold_rt (And.intro @ev_is2_n (And.intro @ev_is2_b (And.intro @ev_isn2_n (And.intro @ev_isn2_b (And.intro @ev_repr2_b (And.intro @ev_repr2_l (And.intro @ev_repr2_t (And.intro @ev_lend (And.intro @ev_lend_ow (And.intro @ev_lend_fz (And.intro @ev_lend_ok (And.intro @ev_wipeE (And.intro @ev_wi0 (And.intro @ev_wi1 (And.intro @ev_restE (And.intro @ev_re0 (And.intro @ev_re1 (And.intro @ev_KpG0 (And.intro @ev_KpG1 (And.intro @ev_Kp_n (And.intro @ev_Kp_e (And.intro @ev_Kp_ow (And.intro @ev_noL_i (And.intro @ev_noL_b (And.intro @ev_noL_s (And.intro @ev_noL_n (And.intro @ev_noL_t (And.intro @ev_noLs0 (And.intro @ev_noLs1 (And.intro @ev_noR_f (And.intro @ev_noR_o (And.intro @ev_join_c (And.intro @op_inT (And.intro @op_notInT (And.intro @back_eq (And.intro @wipe_eq (And.intro @unwipe_eq (And.intro @cut1 (And.intro @rg1_eq (And.intro @rb1_ok (And.intro @rg2_eq (And.intro @rb2_ok (And.intro @bk_d0 (And.intro @bk_d1 (And.intro @bk_d2 (And.intro @bk_d3 (And.intro @bk_d4 (And.intro @bk_d5 (And.intro @bk_i0 (And.intro @bk_i1 (And.intro @bk_i2 (And.intro @bk_i3 (And.intro @bk_i4 @bk_i5))))))))))))))))))))))))))))))))))))))))))))))))))))))))))))))))))))))))))))))))))))))))))))))))))))))))))))))))))))))))))))))))))))))))))))))))))))))))))))))))))))))))))))))))))))))))))))))))))))))))))))))))))))))))))))))))))))))))))))))))))))))))))))))))))))))))))))))))))))))))))))))))))))))))))))))))))))))))))))))))))))))))))))))))))))))))))))))))))))))))))))))))))))))))))))))))))))))))))))))))))))))))))))))))))))))))))))))))))))))))))))))))))))))))))))))))))))))))))))))))))))))
end Mi

namespace G
open PySem PySem.Spec PyProof.Rows L2 Mi


def B_law_bag : Sm := (sSeq (sRet (mLst [(mOpN max2D [(.e (mC (.int 0))), (.e (mOp2 subD (.v 0) (.e (mOp2 powD (.e (mC (.int 10))) (.e (mC (.int 18)))))))]), (mOp2 addD (.e (mOp2 modD (.v 0) (.e (mC (.int 162259276829213363391578010288127))))) (.e (mOp2 mulD (.e (mC (.int 6469))) (.e (mOp2 addD (.v 1) (.e (mC (.int 1)))))))), (mC (.int 0))])) sNil)
def F_law_bag : Fn := mkFn 2 0 B_law_bag
def B_law_cell_at : Sm := (sSeq (sIf (toT (mOp2 ltD (.v 1) (.e (mOpN lenD [(.v 0)])))) (sSeq (sRet (mOp2 ixD (.v 0) (.v 1))) sNil) sNil) (sSeq (sRet (mC (.int 0))) sNil))
def F_law_cell_at : Fn := mkFn 2 0 B_law_cell_at
def L_law_joined_0 : Sm := (sSeq (sIf (mAndT (toT (mOp2 gtD (.v 3) (.e (mC (.int 0))))) (mAndT (toT (mOp2 neD (.v 1) (.e (mLst [])))) (toT (mOp2 eqD (.e (mOp2 ixD (.e (mOp2 ixD (.v 1) (.e (mOp1 negD (.e (mC (.int 1))))))) (.e (mC (.int 0))))) (.v 2))))) (sSeq (sSetIx 1 (mOp1 negD (.e (mC (.int 1)))) (mTup [(mVar 2), (mOp2 addD (.e (mOp2 ixD (.e (mOp2 ixD (.v 1) (.e (mOp1 negD (.e (mC (.int 1))))))) (.e (mC (.int 1))))) (.v 3))])) sNil) (sSeq (sIf (toT (mOp2 gtD (.v 3) (.e (mC (.int 0))))) (sSeq (sDrop (mMut 1 fAppend [(mTup [(mVar 2), (mVar 3)])])) sNil) sNil) sNil)) sNil)
def B_law_joined : Sm := (sSeq (sSet 1 (mLst [])) (sSeq (sFor (iSeq (mVar 0)) (gSeq 2 (gsCons (gNm 2) (gsCons (gNm 3) gsNil))) L_law_joined_0) (sSeq (sRet (mOpN tupleD [(.v 1)])) sNil)))
def F_law_joined : Fn := mkFn 1 3 B_law_joined
def E_law_line_0 : Ex := (mTup [(mVar 1), (mC (.int 1))])
def B_law_line : Sm := (sSeq (sRet (mCall F_law_joined [(.e (mComp (iSeq (mVar 0)) (gNm 1) tYesE E_law_line_0 [1]))])) sNil)
def F_law_line : Fn := mkFn 1 1 B_law_line
def B_law_same (self : Fn) : Sm := (sSeq (sIf (mTru (.e (mOp1 (isiTD ["list", "tuple"]) (.v 1)))) (sSeq (sIf (mOrT (toT (mOp2 neD (.e (mOp1 (isiD "list") (.v 0))) (.e (mOp1 (isiD "list") (.v 1))))) (mNotT (mTru (.e (mOp1 (isiTD ["list", "tuple"]) (.v 0)))))) (sSeq (sRet (mC (.bl false))) sNil) sNil) (sSeq (sIf (toT (mOp2 neD (.e (mOpN lenD [(.v 0)])) (.e (mOpN lenD [(.v 1)])))) (sSeq (sRet (mC (.bl false))) sNil) sNil) (sSeq (sRet (mOpN allD [(.e (mComp (iRange1 (mOpN lenD [(.v 1)])) (gNm 2) tYesE (mCall self [(.e (mOp2 ixD (.v 0) (.v 2))), (.e (mOp2 ixD (.v 1) (.v 2)))]) [2]))])) sNil))) sNil) (sSeq (sIf (mOrT (toT (mOp2 isD2 (.v 1) (.e (mC .non)))) (toT (mOp2 isD2 (.v 0) (.e (mC .non))))) (sSeq (sRet (mAnd (mOp2 isD2 (.v 1) (.e (mC .non))) (mOp2 isD2 (.v 0) (.e (mC .non))))) sNil) sNil) (sSeq (sIf (mOrT (mTru (.e (mOp1 (isiD "bool") (.v 1)))) (mTru (.e (mOp1 (isiD "bool") (.v 0))))) (sSeq (sRet (mAnd (mOp1 (isiD "bool") (.v 1)) (mAnd (mOp1 (isiD "bool") (.v 0)) (mOp2 eqD (.v 0) (.v 1))))) sNil) sNil) (sSeq (sRet (mOp2 eqD (.v 0) (.v 1))) sNil))))
def R_law_same : Nat → Fn
  | 0 => fun _ => .no
  | t + 1 => mkFn 2 1 (B_law_same (R_law_same t))
def F_law_same : Fn := R_law_same 8
def B_law_take : Sm := (sSeq (sIf (toT (mOp2 gtD (.e (mOp2 ixD (.v 0) (.e (mC (.int 0))))) (.e (mC (.int 1))))) (sSeq (sSet 2 (mOp2 modD (.e (mOp2 ixD (.v 0) (.e (mC (.int 0))))) (.v 1))) (sSeq (sSetIx 0 (mC (.int 0)) (mOp2 fdivD (.e (mOp2 ixD (.v 0) (.e (mC (.int 0))))) (.v 1))) (sSeq (sRet (mMove 2)) sNil))) sNil) (sSeq (sSetIx 0 (mC (.int 2)) (mOp2 addD (.e (mOp2 ixD (.v 0) (.e (mC (.int 2))))) (.e (mC (.int 1))))) (sSeq (sSet 3 (mOp2 modD (.e (mOp2 powD (.e (mOp2 addD (.e (mOp2 ixD (.v 0) (.e (mC (.int 1))))) (.e (mOp2 mulD (.e (mC (.int 1300223))) (.e (mOp2 ixD (.v 0) (.e (mC (.int 2))))))))) (.e (mC (.int 3))))) (.e (mC (.int 162259276829213363391578010288127))))) (sSeq (sSet 3 (mOp2 modD (.e (mOp2 powD (.e (mOp2 addD (.v 3) (.e (mOp2 mulD (.e (mC (.int 15486253))) (.e (mOp2 ixD (.v 0) (.e (mC (.int 2))))))))) (.e (mC (.int 5))))) (.e (mC (.int 618970019642690137449562111))))) (sSeq (sRet (mOp2 modD (.e (mOp2 fdivD (.v 3) (.e (mC (.int 1048576))))) (.v 1))) sNil)))))
def F_law_take : Fn := mkFn 2 2 B_law_take
def L_law_sides_0 : Sm := (sSeq (sPar 6 7 (mOp2 ixD (.e (mC (.str "LR"))) (.e (mCall F_law_take [(.v 0), (.e (mC (.int 2)))]))) (mOp2 gtD (.e (mCall F_law_take [(.v 0), (.e (mC (.int 4)))])) (.e (mC (.int 0))))) (sSeq (sSet 8 (mLst [(mVar 6), (mOp2 ixD (.e (mC (.str "LR"))) (.e (mOp2 modD (.e (mOpN lenD [(.v 5)])) (.e (mC (.int 2)))))), (mOp2 ixD (.e (mC (.str "RL"))) (.e (mOpN intD [(.e (mOp2 geD (.e (mOpN lenD [(.v 5)])) (.v 4)))]))), (mVar 6)])) (sSeq (sIf (mAndT (toT (mOp2 eqD (.v 3) (.e (mC (.int 3))))) (mAndT (mTru (.v 7)) (toT (mOp2 neD (.v 5) (.e (mLst [])))))) (sSeq (sSetIx 8 (mC (.int 3)) (mOp2 ixD (.v 5) (.e (mOp1 negD (.e (mC (.int 1))))))) sNil) sNil) (sSeq (sDrop (mMut 5 fAppend [(mOp2 ixD (.v 8) (.v 3))])) sNil))))
def T_law_sides_1 : Te := (toT (mOp2 ltD (.e (mOpN lenD [(.v 5)])) (.v 2)))
def B_law_sides : Sm := (sSeq (sPar 2 3 (mOp2 addD (.e (mC (.int 1))) (.e (mCall F_law_take [(.v 0), (.e (mVar 1))]))) (mCall F_law_take [(.v 0), (.e (mC (.int 4)))])) (sSeq (sPar 4 5 (mCall F_law_take [(.v 0), (.e (mOp2 addD (.v 2) (.e (mC (.int 1)))))]) (mLst [])) (sSeq (sWhile FUEL T_law_sides_1 L_law_sides_0) (sSeq (sRet (mMove 5)) sNil))))
def F_law_sides : Fn := mkFn 2 7 B_law_sides
def E_law_texts_0 : Ex := (mOp2 addD (.e (mC (.str "L"))) (.v 3))
def E_law_texts_1 : Ex := (mOp2 addD (.e (mC (.str "R"))) (.v 3))
def L_law_texts_2 : Sm := (sSeq (sSet 1 (mOp2 addD (.e (mComp (iSeq (mVar 1)) (gNm 3) tYesE E_law_texts_0 [3])) (.e (mComp (iSeq (mVar 1)) (gNm 3) tYesE E_law_texts_1 [3])))) sNil)
def B_law_texts : Sm := (sSeq (sSet 1 (mLst [(mC (.str ""))])) (sSeq (sFor (iRange1 (mVar 0)) (gNm 2) L_law_texts_2) (sSeq (sRet (mMove 1)) sNil)))
def F_law_texts : Fn := mkFn 1 3 B_law_texts
def L_law_walk_0 : Sm := (sSeq (sSet 5 (mOp2 ixD (.v 2) (.e (mOp2 subD (.v 3) (.e (mC (.int 1))))))) (sSeq (sSetIx 2 (mOp2 subD (.v 3) (.e (mC (.int 1)))) (mOp2 dgetD (.e (mDisp [.inr "L", .inr "R"] [(mC (.str "R")), (mC (.str "L"))])) (.v 5))) (sSeq (sSet 3 (mOp2 addD (.v 3) (.e (mOp2 dgetD (.e (mDisp [.inr "L", .inr "R"] [(mOp1 negD (.e (mC (.int 1)))), (mC (.int 1))])) (.v 5))))) (sSeq (sSet 4 (mOp2 addD (.v 4) (.e (mC (.int 1))))) sNil))))
def T_law_walk_1 : Te := (toT (mChain ltD leD (.e (mC (.int 0))) (.v 3) (.e (mOpN lenD [(.v 2)]))))
def B_law_walk : Sm := (sSeq (sPar3 2 3 4 (mOpN listD [(.v 0)]) (mVar 1) (mC (.int 0))) (sSeq (sWhile FUEL T_law_walk_1 L_law_walk_0) (sSeq (sRet (mTup [(mIf (toT (mOp2 eqD (.v 3) (.e (mC (.int 0))))) (mC (.str "L")) (mC (.str "R"))), (mVar 2), (mVar 4)])) sNil)))
def F_law_walk : Fn := mkFn 2 4 B_law_walk
def Bborders : Sm := (sSeq (sRet (mTup [(mIf (toT (mOp2 eqD (.e (mOp2 ixD (.e (mOp2 ixD (.v 0) (.e (mC (.int 0))))) (.e (mC (.int 0))))) (.e (mC (.str "R"))))) (mOp2 ixD (.e (mOp2 ixD (.v 0) (.e (mC (.int 0))))) (.e (mC (.int 1)))) (mC (.int 0))), (mIf (toT (mOp2 eqD (.e (mOp2 ixD (.e (mOp2 ixD (.v 0) (.e (mOp1 negD (.e (mC (.int 1))))))) (.e (mC (.int 0))))) (.e (mC (.str "L"))))) (mOp2 ixD (.e (mOp2 ixD (.v 0) (.e (mOp1 negD (.e (mC (.int 1))))))) (.e (mC (.int 1)))) (mC (.int 0)))])) sNil)
def Fborders : Fn := mkFn 1 0 Bborders
def Ecount_posts_0 : Ex := (mVar 2)
def Bcount_posts : Sm := (sSeq (sRet (mOpN sumD [(.e (mComp (iSeq (mVar 0)) (gSeq 2 (gsCons (gNm 1) (gsCons (gNm 2) gsNil))) tYesE Ecount_posts_0 [1, 2]))])) sNil)
def Fcount_posts : Fn := mkFn 1 2 Bcount_posts
def Bis_integer : Sm := (sSeq (sRet (mAnd (mOp1 (isiD "int") (.v 0)) (mAnd (mNot (mOp1 (isiD "bool") (.v 0))) (mOp2 geD (.v 0) (.v 1))))) sNil)
def Fis_integer : Fn := mkFn 2 0 Bis_integer
def Bis_place : Sm := (sSeq (sRet (mAnd (mCall Fis_integer [(.e (mVar 1)), (.e (mC (.int 1)))]) (mOp2 leD (.v 1) (.e (mCall Fcount_posts [(.e (mVar 0))]))))) sNil)
def Fis_place : Fn := mkFn 2 0 Bis_place
def Bcheck_place : Sm := (sSeq (sIf (mNotT (mTru (.e (mCall Fis_place [(.e (mVar 0)), (.e (mVar 1))])))) (sSeq (sRaise "InvalidPlace") sNil) sNil) sNil)
def Fcheck_place : Fn := mkFn 2 0 Bcheck_place
def Bis_side : Sm := (sSeq (sRet (mAnd (mOp1 (isiD "str") (.v 0)) (mOp2 inD (.v 0) (.e (mTup [(mC (.str "L")), (mC (.str "R"))]))))) sNil)
def Fis_side : Fn := mkFn 1 0 Bis_side
def Bis_run : Sm := (sSeq (sRet (mAnd (mOp1 (isiD "tuple") (.v 0)) (mAnd (mOp2 eqD (.e (mOpN lenD [(.v 0)])) (.e (mC (.int 2)))) (mAnd (mCall Fis_side [(.e (mOp2 ixD (.v 0) (.e (mC (.int 0)))))]) (mCall Fis_integer [(.e (mOp2 ixD (.v 0) (.e (mC (.int 1))))), (.e (mC (.int 1)))]))))) sNil)
def Fis_run : Fn := mkFn 1 0 Bis_run
def Eis_posts_0 : Ex := (mCall Fis_run [(.e (mVar 3))])
def Eis_posts_1 : Ex := (mOp2 neD (.e (mOp2 ixD (.v 1) (.e (mC (.int 0))))) (.e (mOp2 ixD (.v 2) (.e (mC (.int 0))))))
def Bis_posts : Sm := (sSeq (sIf (mOrT (mNotT (mTru (.e (mOp1 (isiD "tuple") (.v 0))))) (mOrT (toT (mOp2 eqD (.e (mOpN lenD [(.v 0)])) (.e (mC (.int 0))))) (mNotT (mTru (.e (mOpN allD [(.e (mComp (iSeq (mVar 0)) (gNm 3) tYesE Eis_posts_0 [3]))])))))) (sSeq (sRet (mC (.bl false))) sNil) sNil) (sSeq (sRet (mOpN allD [(.e (mComp (iZipE [(mVar 0), (mSl (.v 0) (.e (.e (mC (.int 1)))) .no)]) (gSeq 2 (gsCons (gNm 1) (gsCons (gNm 2) gsNil))) tYesE Eis_posts_1 [1, 2]))])) sNil))
def Fis_posts : Fn := mkFn 1 3 Bis_posts
def Bcheck_posts : Sm := (sSeq (sIf (mNotT (mTru (.e (mCall Fis_posts [(.e (mVar 0))])))) (sSeq (sRaise "InvalidPosts") sNil) sNil) sNil)
def Fcheck_posts : Fn := mkFn 1 0 Bcheck_posts
def Bcan_be_before : Sm := (sSeq (sDrop (mCall Fcheck_posts [(.e (mVar 0))])) (sSeq (sDrop (mCall Fcheck_place [(.e (mVar 0)), (.e (mVar 1))])) (sSeq (sAsg (gSeq 2 (gsCons (gNm 2) (gsCons (gNm 3) gsNil))) (mCall Fborders [(.e (mVar 0))])) (sSeq (sRet (mOr (mOp2 leD (.v 1) (.v 2)) (mOp2 leD (.e (mOp2 subD (.e (mOp2 addD (.e (mCall Fcount_posts [(.e (mVar 0))])) (.e (mC (.int 1))))) (.v 1))) (.v 3)))) sNil))))
def Fcan_be_before : Fn := mkFn 2 2 Bcan_be_before
def Bcheck_limit : Sm := (sSeq (sIf (toT (mOp2 gtD (.e (mCall Fcount_posts [(.e (mVar 0))])) (.e (mC (.int 200))))) (sSeq sNo sNil) sNil) sNil)
def Fcheck_limit : Fn := mkFn 1 0 Bcheck_limit
def Ldoubled_0 : Sm := (sSeq (sAug 1 iaddD (mVar 1)) sNil)
def Bdoubled : Sm := (sSeq (sSet 1 (mC (.int 1))) (sSeq (sFor (iRange1 (mVar 0)) (gNm 2) Ldoubled_0) (sSeq (sRet (mMove 1)) sNil)))
def Fdoubled : Fn := mkFn 1 2 Bdoubled
def Bcount_all_before : Sm := (sSeq (sDrop (mCall Fcheck_posts [(.e (mVar 0))])) (sSeq (sDrop (mCall Fcheck_limit [(.e (mVar 0))])) (sSeq (sAsg (gSeq 2 (gsCons (gNm 1) (gsCons (gNm 2) gsNil))) (mCall Fborders [(.e (mVar 0))])) (sSeq (sRet (mOp2 subD (.e (mOp2 addD (.e (mCall Fdoubled [(.e (mVar 1))])) (.e (mCall Fdoubled [(.e (mVar 2))])))) (.e (mC (.int 2))))) sNil))))
def Fcount_all_before : Fn := mkFn 1 2 Bcount_all_before
def Lways_0 : Sm := (sSeq (sSet 2 (mOp2 fdivD (.e (mOp2 mulD (.v 2) (.e (mOp2 subD (.v 0) (.v 3))))) (.e (mOp2 addD (.v 3) (.e (mC (.int 1))))))) sNil)
def Bways : Sm := (sSeq (sIf (toT (mOp2 gtD (.v 1) (.v 0))) (sSeq (sRet (mC (.int 0))) sNil) sNil) (sSeq (sSet 2 (mC (.int 1))) (sSeq (sFor (iRange1 (mVar 1)) (gNm 3) Lways_0) (sSeq (sRet (mMove 2)) sNil))))
def Fways : Fn := mkFn 2 2 Bways
def Bnumbers_before : Sm := (sSeq (sAsg (gSeq 2 (gsCons (gNm 2) (gsCons (gNm 3) gsNil))) (mCall Fborders [(.e (mVar 0))])) (sSeq (sRet (mTup [(mCall Fways [(.e (mVar 2)), (.e (mVar 1))]), (mCall Fways [(.e (mVar 3)), (.e (mOp2 subD (.e (mOp2 addD (.e (mCall Fcount_posts [(.e (mVar 0))])) (.e (mC (.int 1))))) (.v 1)))])])) sNil))
def Fnumbers_before : Fn := mkFn 2 2 Bnumbers_before
def Bcount_before : Sm := (sSeq (sDrop (mCall Fcheck_posts [(.e (mVar 0))])) (sSeq (sDrop (mCall Fcheck_place [(.e (mVar 0)), (.e (mVar 1))])) (sSeq (sDrop (mCall Fcheck_limit [(.e (mVar 0))])) (sSeq (sRet (mOpN sumTD [(.e (mCall Fnumbers_before [(.e (mVar 0)), (.e (mVar 1))]))])) sNil))))
def Fcount_before : Fn := mkFn 2 0 Bcount_before
def Bcheck_index : Sm := (sSeq (sIf (mNotT (mTru (.e (mCall Fis_integer [(.e (mVar 0)), (.e (mC (.int 0)))])))) (sSeq (sRaise "InvalidNumber") sNil) sNil) sNil)
def Fcheck_index : Fn := mkFn 1 0 Bcheck_index
def Ljoined_0 : Sm := (sSeq (sIf (mAndT (toT (mOp2 gtD (.v 3) (.e (mC (.int 0))))) (mAndT (toT (mOp2 neD (.v 1) (.e (mLst [])))) (toT (mOp2 eqD (.e (mOp2 ixD (.e (mOp2 ixD (.v 1) (.e (mOp1 negD (.e (mC (.int 1))))))) (.e (mC (.int 0))))) (.v 2))))) (sSeq (sSetIx 1 (mOp1 negD (.e (mC (.int 1)))) (mTup [(mVar 2), (mOp2 addD (.e (mOp2 ixD (.e (mOp2 ixD (.v 1) (.e (mOp1 negD (.e (mC (.int 1))))))) (.e (mC (.int 1))))) (.v 3))])) sNil) (sSeq (sIf (toT (mOp2 gtD (.v 3) (.e (mC (.int 0))))) (sSeq (sDrop (mMut 1 fAppend [(mTup [(mVar 2), (mVar 3)])])) sNil) sNil) sNil)) sNil)
def Bjoined : Sm := (sSeq (sSet 1 (mLst [])) (sSeq (sFor (iSeq (mVar 0)) (gSeq 2 (gsCons (gNm 2) (gsCons (gNm 3) gsNil))) Ljoined_0) (sSeq (sRet (mOpN tupleD [(.v 1)])) sNil)))
def Fjoined : Fn := mkFn 1 3 Bjoined
def Lnth_sides_0 : Sm := (sSeq (sSet 6 (mIf (toT (mOp2 gtD (.v 1) (.e (mC (.int 0))))) (mCall Fways [(.e (mOp2 subD (.e (mOp2 subD (.v 0) (.v 5))) (.e (mC (.int 1))))), (.e (mOp2 subD (.v 1) (.e (mC (.int 1)))))]) (mC (.int 0)))) (sSeq (sIf (toT (mOp2 ltD (.v 4) (.v 6))) (sSeq (sAug 3 iaddD (mC (.str "L"))) (sSeq (sAug 1 subD (mC (.int 1))) sNil)) (sSeq (sAug 3 iaddD (mC (.str "R"))) (sSeq (sAug 4 subD (mVar 6)) sNil))) sNil))
def Bnth_sides : Sm := (sSeq (sPar 3 4 (mC (.str "")) (mVar 2)) (sSeq (sFor (iRange1 (mVar 0)) (gNm 5) Lnth_sides_0) (sSeq (sRet (mMove 3)) sNil)))
def Fnth_sides : Fn := mkFn 3 4 Bnth_sides
def Enth_before_0 : Ex := (mTup [(mVar 8), (mC (.int 1))])
def Enth_before_1 : Ex := (mTup [(mVar 8), (mC (.int 1))])
def Bnth_before : Sm := (sSeq (sDrop (mCall Fcheck_posts [(.e (mVar 0))])) (sSeq (sDrop (mCall Fcheck_place [(.e (mVar 0)), (.e (mVar 1))])) (sSeq (sDrop (mCall Fcheck_index [(.e (mVar 2))])) (sSeq (sDrop (mCall Fcheck_limit [(.e (mVar 0))])) (sSeq (sAsg (gSeq 2 (gsCons (gNm 3) (gsCons (gNm 4) gsNil))) (mCall Fnumbers_before [(.e (mVar 0)), (.e (mVar 1))])) (sSeq (sIf (toT (mOp2 geD (.v 2) (.e (mOp2 addD (.v 3) (.v 4))))) (sSeq (sRaise "InvalidNumber") sNil) sNil) (sSeq (sAsg (gSeq 2 (gsCons (gNm 5) (gsCons (gNm 6) gsNil))) (mCall Fborders [(.e (mVar 0))])) (sSeq (sIf (toT (mOp2 ltD (.v 2) (.v 3))) (sSeq (sRet (mCall Fjoined [(.e (mOp2 addD (.e (mComp (iSeq (mCall Fnth_sides [(.e (mVar 5)), (.e (mVar 1)), (.e (mVar 2))])) (gNm 8) tYesE Enth_before_0 [8])) (.e (mOpN listD [(.e (mSl (.v 0) (.e (.e (mC (.int 1)))) .no))]))))])) sNil) sNil) (sSeq (sSet 7 (mOp2 subD (.v 6) (.e (mOp2 subD (.e (mOp2 addD (.e (mCall Fcount_posts [(.e (mVar 0))])) (.e (mC (.int 1))))) (.v 1))))) (sSeq (sRet (mCall Fjoined [(.e (mOp2 addD (.e (mOpN listD [(.e (mSl (.v 0) .no (.e (.e (mOp1 negD (.e (mC (.int 1))))))))])) (.e (mComp (iSeq (mCall Fnth_sides [(.e (mVar 6)), (.e (mVar 7)), (.e (mOp2 subD (.v 2) (.v 3)))])) (gNm 8) tYesE Enth_before_1 [8]))))])) sNil))))))))))
def Fnth_before : Fn := mkFn 3 6 Bnth_before
def Elaw_0 : Ex := (mCall F_law_line [(.e (mVar 12))])
def Elaw_1 : Ex := (mCall Fnth_before [(.e (mVar 5)), (.e (mVar 8)), (.e (mVar 13))])
def Llaw_2 : Sm := (sSeq (sSet 9 (mComp (iSeq (mVar 7)) (gNm 12) (toT (mOp2 eqD (.e (mOp2 ixD (.e (mCall F_law_walk [(.e (mOpN listTD [(.v 12)])), (.e (mVar 8))])) (.e (mC (.int 1))))) (.v 4))) Elaw_0 [12])) (sSeq (sSet 10 (mOpN lenD [(.v 9)])) (sSeq (sSet 6 (mOp2 addD (.v 6) (.v 10))) (sSeq (sIf (mNotT (mTru (.e (mCall F_law_same [(.e (mLst [(mCall Fcount_before [(.e (mVar 5)), (.e (mVar 8))]), (mCallK Fcount_before [1, 0] [] [(.e (mVar 8)), (.e (mVar 5))])])), (.e (mLst [(mVar 10), (mVar 10)]))])))) (sSeq (sRet (mC (.bl false))) sNil) sNil) (sSeq (sSet 11 (mLst [(mCall Fcan_be_before [(.e (mVar 5)), (.e (mVar 8))]), (mCallK Fcan_be_before [1, 0] [] [(.e (mVar 8)), (.e (mVar 5))])])) (sSeq (sIf (mNotT (mTru (.e (mCall F_law_same [(.e (mVar 11)), (.e (mLst [(mOp2 gtD (.v 10) (.e (mC (.int 0)))), (mOp2 gtD (.v 10) (.e (mC (.int 0))))]))])))) (sSeq (sRet (mC (.bl false))) sNil) sNil) (sSeq (sIf (mNotT (mTru (.e (mCall F_law_same [(.e (mComp (iRange1 (mVar 10)) (gNm 13) tYesE Elaw_1 [13])), (.e (mVar 9))])))) (sSeq (sRet (mC (.bl false))) sNil) sNil) (sSeq (sIf (mAndT (toT (mOp2 gtD (.v 10) (.e (mC (.int 0))))) (toT (mOp2 neD (.e (mCallK Fnth_before [2, 1, 0] [] [(.e (mOp2 subD (.v 10) (.e (mC (.int 1))))), (.e (mVar 8)), (.e (mVar 5))])) (.e (mOp2 ixD (.v 9) (.e (mOp1 negD (.e (mC (.int 1)))))))))) (sSeq (sRet (mC (.bl false))) sNil) sNil) sNil))))))))
def Llaw_3 : Sm := (sSeq (sSet 4 (mCall F_law_sides [(.v 2), (.e (mC (.int 7)))])) (sSeq (sAsg (gSeq 2 (gsCons (gNm 5) (gsCons (gNm 6) gsNil))) (mTup [(mCall F_law_line [(.e (mVar 4))]), (mC (.int 0))])) (sSeq (sSet 7 (mCall F_law_texts [(.e (mOpN lenD [(.v 4)]))])) (sSeq (sFor (iRange2 (mC (.int 1)) (mOp2 addD (.e (mOpN lenD [(.v 4)])) (.e (mC (.int 1))))) (gNm 8) Llaw_2) (sSeq (sIf (mNotT (mTru (.e (mCall F_law_same [(.e (mLst [(mCall Fcount_all_before [(.e (mVar 5))]), (mCallK Fcount_all_before [0] [] [(.e (mVar 5))])])), (.e (mLst [(mVar 6), (mVar 6)]))])))) (sSeq (sRet (mC (.bl false))) sNil) sNil) sNil)))))
def Llaw_4 : Sm := (sSeq (sSet 2 (mCall F_law_bag [(.e (mCall F_law_cell_at [(.e (mVar 0)), (.e (mVar 1))])), (.e (mVar 1))])) (sSeq (sFor (iRange1 (mC (.int 2))) (gNm 3) Llaw_3) sNil))
def Blaw : Sm := (sSeq (sFor (iRange1 (mOpN max2D [(.e (mC (.int 1))), (.e (mOpN min2D [(.e (mC (.int 3))), (.e (mOpN lenD [(.v 0)]))]))])) (gNm 1) Llaw_4) (sSeq (sRet (mC (.bl true))) sNil))
def Flaw : Fn := mkFn 1 13 Blaw
end G

namespace Mi
/-! ### rows of runs (true: left) -/
abbrev Runs := List (Bool × Int)
def amt : Runs → Int
  | [] => 0
  | r :: l => r.2 + amt l
def amtR : Runs → Int
  | [] => 0
  | r :: l => (if r.1 then 0 else r.2) + amtR l
def amtL : Runs → Int
  | [] => 0
  | r :: l => (if r.1 then r.2 else 0) + amtL l
/-- no run is negative -/
def Nn : Runs → Prop
  | [] => True
  | r :: l => 0 ≤ r.2 ∧ Nn l
/-- each run has something -/
def Ps : Runs → Prop
  | [] => True
  | r :: l => 1 ≤ r.2 ∧ Ps l
/-- sides alternate -/
def Alt : Runs → Prop
  | [] => True
  | [_] => True
  | a :: b :: l => a.1 ≠ b.1 ∧ Alt (b :: l)
/-- twice the sum of the places of the first k left ones, behind o places -/
def S2 : Int → Runs → Int → Int
  | _, [], _ => 0
  | o, (q, c) :: l, k => if q then (if k < c then k * (2 * o + k + 1) else c * (2 * o + c + 1) + S2 (o + c) l (k - c)) else S2 (o + c) l k
theorem amt_append : ∀ (a b : Runs), amt (a ++ b) = amt a + amt b
  | [], b => by simp [amt]
  | r :: a, b => by
    simp only [List.cons_append, amt, amt_append a b]
    omega
theorem amtR_append : ∀ (a b : Runs), amtR (a ++ b) = amtR a + amtR b
  | [], b => by simp [amtR]
  | r :: a, b => by
    simp only [List.cons_append, amtR, amtR_append a b]
    omega
theorem nn_append : ∀ {a b : Runs}, Nn (a ++ b) ↔ Nn a ∧ Nn b
  | [], b => by simp [Nn]
  | r :: a, b => by
    simp only [List.cons_append, Nn, nn_append (a := a)]
    exact ⟨fun ⟨h1, h2, h3⟩ => ⟨⟨h1, h2⟩, h3⟩, fun ⟨⟨h1, h2⟩, h3⟩ => ⟨h1, h2, h3⟩⟩
theorem S2_l {c : Int} {l : Runs} {o k : Int} : S2 o ((true, c) :: l) k = if k < c then k * (2 * o + k + 1) else c * (2 * o + c + 1) + S2 (o + c) l (k - c) := rfl
theorem S2_r {c : Int} {l : Runs} {o k : Int} : S2 o ((false, c) :: l) k = S2 (o + c) l k := rfl
/-- a run of nothing changes nothing -/
theorem S2_zero {q : Bool} {l : Runs} {o k : Int} (hk : 0 ≤ k) : S2 o ((q, 0) :: l) k = S2 o l k := by
  cases q with
  | false => rw [S2_r, Int.add_zero]
  | true => rw [S2_l, if_neg (by omega), Int.sub_zero, Int.zero_mul, Int.zero_add, Int.add_zero]
/-- two runs of one side are one -/
theorem S2_merge {q : Bool} {n c : Int} {l : Runs} {o k : Int} (hn : 0 ≤ n) (hc : 0 ≤ c) : S2 o ((q, n) :: (q, c) :: l) k = S2 o ((q, n + c) :: l) k := by
  cases q with
  | false => rw [S2_r, S2_r, S2_r, Int.add_assoc]
  | true =>
    rw [S2_l, S2_l, S2_l]
    by_cases h1 : k < n
    · rw [if_pos h1, if_pos (by omega)]
    · rw [if_neg h1]
      by_cases h2 : k - n < c
      · rw [if_pos h2, if_pos (by omega)]
        grind
      · rw [if_neg h2, if_neg (by omega)]
        have e1 : o + n + c = o + (n + c) := by omega
        have e2 : k - n - c = k - (n + c) := by omega
        rw [e1, e2]
        grind
/-- what stands ahead alike -/
theorem S2_front : ∀ {a l l' : Runs} , (∀ o k : Int, 0 ≤ k → S2 o l k = S2 o l' k) → Nn a → ∀ {o k : Int}, 0 ≤ k → S2 o (a ++ l) k = S2 o (a ++ l') k
  | [], l, l', h, _, o, k, hk => h o k hk
  | (q, c) :: a, l, l', h, hn, o, k, hk => by
    obtain ⟨h1, h2⟩ := hn
    simp only [List.cons_append, S2]
    cases q with
    | false =>
      simp only [Bool.false_eq_true, if_false]
      exact S2_front h h2 hk
    | true =>
      simp only [if_true]
      by_cases hc : k < c
      · rw [if_pos hc, if_pos hc]
      · rw [if_neg hc, if_neg hc, S2_front h h2 (by omega)]
/-! ### joined -/
def altS : List Bool → Prop
  | [] => True
  | [_] => True
  | a :: b :: l => a ≠ b ∧ altS (b :: l)
theorem alt_snoc : ∀ {a : List Bool} {p q : Bool}, altS (a ++ [p]) → p ≠ q → altS (a ++ [p, q])
  | [], p, q, _, h => ⟨h, trivial⟩
  | [x], p, q, h1, h => ⟨h1.1, h, trivial⟩
  | x :: y :: a, p, q, h1, h => ⟨h1.1, alt_snoc (a := y :: a) h1.2 h⟩
def jstep (fs : Runs) (r : Bool × Int) : Runs := if 0 < r.2 then (match fs.getLast? with
  | some pn => if pn.1 == r.1 then fs.dropLast ++ [(r.1, pn.2 + r.2)] else fs ++ [r]
  | none => [r]) else fs
def jn (fs : Runs) (l : Runs) : Runs := l.foldl jstep fs
theorem jstep_0 {fs : Runs} {q : Bool} {c : Int} (h : ¬ 0 < c) : jstep fs (q, c) = fs := if_neg h
theorem jstep_nil {q : Bool} {c : Int} (h : 0 < c) : jstep [] (q, c) = [(q, c)] := if_pos h
theorem jstep_eq {gs : Runs} {q : Bool} {n c : Int} (h : 0 < c) : jstep (gs ++ [(q, n)]) (q, c) = gs ++ [(q, n + c)] := by
  unfold jstep
  rw [if_pos h, List.getLast?_append]
  simp
theorem jstep_ne {gs : Runs} {p q : Bool} {n c : Int} (h : 0 < c) (hp : (p == q) = false) : jstep (gs ++ [(p, n)]) (q, c) = gs ++ [(p, n)] ++ [(q, c)] := by
  unfold jstep
  rw [if_pos h, List.getLast?_append]
  simp [hp]
theorem ps_nn : ∀ {l : Runs}, Ps l → Nn l
  | [], _ => trivial
  | r :: l, h => ⟨by have := h.1; omega, ps_nn h.2⟩
theorem ps_append : ∀ {a b : Runs}, Ps (a ++ b) ↔ Ps a ∧ Ps b
  | [], b => by simp [Ps]
  | r :: a, b => by
    simp only [List.cons_append, Ps, ps_append (a := a)]
    exact ⟨fun ⟨h1, h2, h3⟩ => ⟨⟨h1, h2⟩, h3⟩, fun ⟨⟨h1, h2⟩, h3⟩ => ⟨h1, h2, h3⟩⟩
structure Good (fs : Runs) : Prop where
  ps : Ps fs
  al : altS (fs.map (·.1))
theorem jstep_good {fs : Runs} {r : Bool × Int} (h : Good fs) : Good (jstep fs r) := by
  obtain ⟨q, c⟩ := r
  by_cases hc : 0 < c
  · rcases List.eq_nil_or_concat fs with rfl | ⟨gs, ⟨p, n⟩, rfl⟩
    · rw [jstep_nil hc]
      exact ⟨⟨by show (1 : Int) ≤ c; omega, trivial⟩, trivial⟩
    · rw [List.concat_eq_append] at h ⊢
      obtain ⟨h1, h2⟩ := h
      have h1' := ps_append.mp h1
      have hn : 1 ≤ n := h1'.2.1
      rw [List.map_append] at h2
      cases hpq : p == q with
      | true =>
        have e : p = q := by simpa using hpq
        subst e
        rw [jstep_eq hc]
        refine ⟨ps_append.mpr ⟨h1'.1, by show (1 : Int) ≤ n + c; omega, trivial⟩, ?_⟩
        rw [List.map_append]
        exact h2
      | false =>
        rw [jstep_ne hc hpq]
        have ne : p ≠ q := by simpa using hpq
        refine ⟨ps_append.mpr ⟨h1, by show (1 : Int) ≤ c; omega, trivial⟩, ?_⟩
        rw [List.map_append, List.map_append, List.append_assoc]
        exact alt_snoc h2 ne
  · rw [jstep_0 hc]
    exact h
theorem jstep_amt {fs : Runs} {q : Bool} {c : Int} (hc : 0 ≤ c) : amt (jstep fs (q, c)) = amt fs + c ∧ amtR (jstep fs (q, c)) = amtR fs + (if q then 0 else c) := by
  by_cases h : 0 < c
  · rcases List.eq_nil_or_concat fs with rfl | ⟨gs, ⟨p, n⟩, rfl⟩
    · rw [jstep_nil h]
      simp [amt, amtR]
    · rw [List.concat_eq_append]
      cases hpq : p == q with
      | true =>
        have e : p = q := by simpa using hpq
        subst e
        rw [jstep_eq h]
        simp only [amt_append, amtR_append, amt, amtR]
        cases p <;> simp <;> omega
      | false =>
        rw [jstep_ne h hpq]
        simp only [amt_append, amtR_append, amt, amtR]
        constructor <;> omega
  · rw [jstep_0 h]
    have : c = 0 := by omega
    subst this
    cases q <;> simp
theorem jstep_S2 {fs : Runs} {q : Bool} {c : Int} (hf : Ps fs) (hc : 0 ≤ c) {l : Runs} {o k : Int} (hk : 0 ≤ k) : S2 o (jstep fs (q, c) ++ l) k = S2 o (fs ++ (q, c) :: l) k := by
  by_cases h : 0 < c
  · rcases List.eq_nil_or_concat fs with rfl | ⟨gs, ⟨p, n⟩, rfl⟩
    · rw [jstep_nil h]
      rfl
    · rw [List.concat_eq_append] at hf ⊢
      have h1' := ps_append.mp hf
      cases hpq : p == q with
      | true =>
        have e : p = q := by simpa using hpq
        subst e
        rw [jstep_eq h, List.append_assoc, List.append_assoc]
        exact S2_front (fun o k _ => (S2_merge (by have := h1'.2.1; omega) hc).symm) (ps_nn h1'.1) hk
      | false =>
        rw [jstep_ne h hpq, List.append_assoc, List.append_assoc, List.append_assoc]
        rfl
  · rw [jstep_0 h]
    have : c = 0 := by omega
    subst this
    exact S2_front (fun o k hk => (S2_zero hk).symm) (ps_nn hf) hk
theorem jn_good : ∀ {l fs : Runs}, Good fs → Good (jn fs l)
  | [], fs, h => h
  | r :: l, fs, h => jn_good (l := l) (jstep_good h)
theorem jn_amt : ∀ {l fs : Runs}, Nn l → amt (jn fs l) = amt fs + amt l ∧ amtR (jn fs l) = amtR fs + amtR l
  | [], fs, _ => by simp [jn, amt, amtR]
  | (q, c) :: l, fs, h => by
    obtain ⟨h1, h2⟩ := jstep_amt (fs := fs) (q := q) h.1
    obtain ⟨h3, h4⟩ := jn_amt (l := l) (fs := jstep fs (q, c)) h.2
    have e : jn fs ((q, c) :: l) = jn (jstep fs (q, c)) l := rfl
    have h1 : amt (jstep fs (q, c)) = amt fs + c := h1
    rw [e, h3, h4, h1, h2]
    simp only [amt, amtR]
    constructor <;> omega
theorem jn_S2 : ∀ {l fs : Runs}, Good fs → Nn l → ∀ {o k : Int}, 0 ≤ k → S2 o (jn fs l) k = S2 o (fs ++ l) k
  | [], fs, _, _, o, k, _ => by rw [List.append_nil]; rfl
  | (q, c) :: l, fs, h, hn, o, k, hk => by
    have e : jn fs ((q, c) :: l) = jn (jstep fs (q, c)) l := rfl
    rw [e, jn_S2 (jstep_good h) hn.2 hk]
    exact jstep_S2 h.ps hn.1 hk
theorem good_nil : Good [] := ⟨trivial, trivial⟩
/-! ### the other end -/
def flipR (r : Bool × Int) : Bool × Int := (!r.1, r.2)
def mir (l : Runs) : Runs := l.reverse.map flipR
end Mi

namespace Mi
open PySem PySem.Spec PyProof.Rows L2
/-! ### rows of runs: places, sums of places -/
def adj : Runs → List D
  | a :: b :: l => .tup [runD a, runD b] :: adj (b :: l)
  | _ => []
theorem zip_adj : ∀ l : Runs, zipD (l.map runD) ((l.map runD).drop 1) = adj l
  | [] => rfl
  | [a] => rfl
  | a :: b :: l => by
    have ih := zip_adj (b :: l)
    show D.tup [runD a, runD b] :: zipD ((b :: l).map runD) (((b :: l).map runD).drop 1) = _
    rw [ih]
    rfl
theorem all_trues : ∀ n : Nat, allD [.lst (List.replicate n (.bl true))] = some (.fz (.bl true)) := by
  have h : ∀ n : Nat, boolsOf (List.replicate n (.bl true)) = some (List.replicate n true) := by
    intro n
    induction n with
    | zero => rfl
    | succ n ih =>
      show (boolsOf (List.replicate n (.bl true))).map (fun l => true :: l) = _
      rw [ih]
      rfl
  intro n
  show (boolsOf (List.replicate n (.bl true))).map (fun l => okB (l.all id)) = _
  rw [h]
  have : (List.replicate n true).all id = true := by
    rw [List.all_eq_true]
    intro x hx
    rw [List.eq_of_mem_replicate hx]
    rfl
  show some (okB ((List.replicate n true).all id)) = _
  rw [this]
  rfl
theorem amt_sum : ∀ l : Runs, (l.map (·.2)).sum = amt l
  | [] => rfl
  | r :: l => by
    have := amt_sum l
    simp only [List.map_cons, List.sum_cons, amt]
    omega
theorem amtR_sum : ∀ l : Runs, ((l.filter fun r => !r.1).map (·.2)).sum = amtR l
  | [] => rfl
  | (q, c) :: l => by
    have ih := amtR_sum l
    cases q with
    | true => simpa [List.filter_cons, amtR] using ih
    | false => simp only [List.filter_cons, Bool.not_false, if_true, List.map_cons, List.sum_cons, amtR, Bool.false_eq_true, if_false]; omega
theorem amt_nn : ∀ {l : Runs}, Ps l → 0 ≤ amt l ∧ (l.length : Int) ≤ amt l
  | [], _ => ⟨Int.le_refl _, Int.le_refl _⟩
  | r :: l, h => by
    have := amt_nn h.2
    have := h.1
    simp only [amt, List.length_cons]
    omega
theorem amtR_le : ∀ {l : Runs}, Ps l → 0 ≤ amtR l ∧ amtR l ≤ amt l
  | [], _ => ⟨Int.le_refl _, Int.le_refl _⟩
  | r :: l, h => by
    have := amtR_le h.2
    have := h.1
    simp only [amt, amtR]
    split <;> omega
/-- first, last and side of each run -/
def bnds : Int → Runs → List (Int × Int × Bool)
  | _, [] => []
  | o, (q, c) :: l => (o + 1, o + c, q) :: bnds (o + c) l
def sideAt (p : Int) : Int → Runs → Option Bool
  | _, [] => none
  | o, (q, c) :: l => if p ≤ o + c then some q else sideAt p (o + c) l
def flt (p : Int) : Int → Runs → List Bool
  | _, [] => []
  | o, (q, c) :: l => if o + 1 ≤ p ∧ p ≤ o + c then q :: flt p (o + c) l else flt p (o + c) l
theorem flt_low (p : Int) : ∀ {l : Runs} {o : Int}, Ps l → p ≤ o → flt p o l = []
  | [], _, _, _ => rfl
  | (q, c) :: l, o, h, hp => by
    have h1 : 1 ≤ c := h.1
    unfold flt
    rw [if_neg (by omega)]
    exact flt_low p h.2 (by omega)
theorem flt_high (p : Int) : ∀ {l : Runs} {o : Int}, Ps l → o + amt l < p → flt p o l = []
  | [], _, _, _ => rfl
  | (q, c) :: l, o, h, hp => by
    have h1 : 1 ≤ c := h.1
    have := amt_nn h.2
    have hp : o + (c + amt l) < p := hp
    unfold flt
    rw [if_neg (by omega)]
    exact flt_high p h.2 (by omega)
theorem flt_at (p : Int) : ∀ {l : Runs} {o : Int}, Ps l → o < p → p ≤ o + amt l → ∃ q, sideAt p o l = some q ∧ flt p o l = [q]
  | [], o, _, h1, h2 => by simp only [amt] at h2; omega
  | (q, c) :: l, o, h, h1, h2 => by
    have h3 : 1 ≤ c := h.1
    have h2 : p ≤ o + (c + amt l) := h2
    unfold flt sideAt
    by_cases hc : p ≤ o + c
    · rw [if_pos hc, if_pos (by omega), flt_low p h.2 hc]
      exact ⟨q, rfl, rfl⟩
    · rw [if_neg hc, if_neg (by omega)]
      exact flt_at p h.2 (by omega) (by omega)
/-- the sum of the places that point right, behind o places -/
def sumR : Int → Runs → Int
  | _, [] => 0
  | o, (q, c) :: l => (if q then 0 else c * (2 * o + c + 1) / 2) + sumR (o + c) l
def SR2 : Int → Runs → Int
  | _, [] => 0
  | o, (q, c) :: l => (if q then 0 else c * (2 * o + c + 1)) + SR2 (o + c) l
theorem tri_even (o c : Int) : ∃ k, c * (2 * o + c + 1) = 2 * k := by
  rcases (show c % 2 = 0 ∨ c % 2 = 1 by omega) with h | h
  · obtain ⟨k, hk⟩ : ∃ k, c = 2 * k := ⟨c / 2, by omega⟩
    exact ⟨k * (2 * o + c + 1), by subst hk; rw [Int.mul_assoc]⟩
  · obtain ⟨k, hk⟩ : ∃ k, c = 2 * k + 1 := ⟨c / 2, by omega⟩
    refine ⟨c * (o + k + 1), ?_⟩
    subst hk
    have : 2 * o + (2 * k + 1) + 1 = 2 * (o + k + 1) := by omega
    rw [this, ← Int.mul_assoc, Int.mul_comm _ 2, Int.mul_assoc]
theorem sumR_2 : ∀ (l : Runs) (o : Int), 2 * sumR o l = SR2 o l
  | [], _ => rfl
  | (q, c) :: l, o => by
    have ih := sumR_2 l (o + c)
    obtain ⟨k, hk⟩ := tri_even o c
    unfold sumR SR2
    cases q with
    | true => simp only [if_true]; omega
    | false =>
      simp only [Bool.false_eq_true, if_false]
      omega
theorem SR2_merge {q : Bool} {n c : Int} {l : Runs} {o : Int} : SR2 o ((q, n) :: (q, c) :: l) = SR2 o ((q, n + c) :: l) := by
  have e1 : o + n + c = o + (n + c) := by omega
  cases q with
  | true => simp only [SR2, if_true, e1]; omega
  | false =>
    simp only [SR2, Bool.false_eq_true, if_false, e1]
    grind
theorem SR2_front : ∀ {a l l' : Runs}, (∀ o : Int, SR2 o l = SR2 o l') → ∀ {o : Int}, SR2 o (a ++ l) = SR2 o (a ++ l')
  | [], _, _, h, o => h o
  | (q, c) :: a, l, l', h, o => by
    simp only [List.cons_append, SR2]
    rw [SR2_front (a := a) h]
theorem SR2_jstep {fs : Runs} {q : Bool} {c : Int} (hc : 0 ≤ c) {l : Runs} {o : Int} : SR2 o (jstep fs (q, c) ++ l) = SR2 o (fs ++ (q, c) :: l) := by
  by_cases h : 0 < c
  · rcases List.eq_nil_or_concat fs with rfl | ⟨gs, ⟨p, n⟩, rfl⟩
    · rw [jstep_nil h]
      rfl
    · rw [List.concat_eq_append]
      cases hpq : p == q with
      | true =>
        have e : p = q := by simpa using hpq
        subst e
        rw [jstep_eq h, List.append_assoc, List.append_assoc]
        exact SR2_front fun o => SR2_merge.symm
      | false =>
        rw [jstep_ne h hpq, List.append_assoc, List.append_assoc, List.append_assoc]
        rfl
  · rw [jstep_0 h]
    have : c = 0 := by omega
    subst this
    refine SR2_front fun o => ?_
    cases q <;> simp [SR2]
theorem SR2_jn : ∀ {l fs : Runs}, Nn l → ∀ {o : Int}, SR2 o (jn fs l) = SR2 o (fs ++ l)
  | [], fs, _, o => by rw [List.append_nil]; rfl
  | (q, c) :: l, fs, h, o => by
    have e : jn fs ((q, c) :: l) = jn (jstep fs (q, c)) l := rfl
    rw [e, SR2_jn h.2]
    exact SR2_jstep h.1
theorem sideAt_merge {p : Int} {q : Bool} {n c : Int} {l : Runs} {o : Int} (hn : 0 ≤ n) (hc : 0 ≤ c) : sideAt p o ((q, n) :: (q, c) :: l) = sideAt p o ((q, n + c) :: l) := by
  have e1 : o + n + c = o + (n + c) := by omega
  simp only [sideAt, e1]
  by_cases h1 : p ≤ o + n
  · rw [if_pos h1, if_pos (by omega)]
  · rw [if_neg h1]
theorem sideAt_front {p : Int} : ∀ {a l l' : Runs}, Ps a → (∀ o : Int, o < p → sideAt p o l = sideAt p o l') → ∀ {o : Int}, o < p → sideAt p o (a ++ l) = sideAt p o (a ++ l')
  | [], _, _, _, h, o, ho => h o ho
  | (q, c) :: a, l, l', hp, h, o, ho => by
    simp only [List.cons_append, sideAt]
    by_cases h1 : p ≤ o + c
    · rw [if_pos h1, if_pos h1]
    · rw [if_neg h1, if_neg h1]
      exact sideAt_front hp.2 h (by omega)
theorem sideAt_jstep {p : Int} {fs : Runs} {q : Bool} {c : Int} (hf : Ps fs) (hc : 0 ≤ c) {l : Runs} {o : Int} (ho : o < p) : sideAt p o (jstep fs (q, c) ++ l) = sideAt p o (fs ++ (q, c) :: l) := by
  by_cases h : 0 < c
  · rcases List.eq_nil_or_concat fs with rfl | ⟨gs, ⟨p', n⟩, rfl⟩
    · rw [jstep_nil h]
      rfl
    · rw [List.concat_eq_append] at hf ⊢
      have hf' := ps_append.mp hf
      have hn : 1 ≤ n := hf'.2.1
      cases hpq : p' == q with
      | true =>
        have e : p' = q := by simpa using hpq
        subst e
        rw [jstep_eq h, List.append_assoc, List.append_assoc]
        exact sideAt_front hf'.1 (fun o _ => (sideAt_merge (by omega) hc).symm) ho
      | false =>
        rw [jstep_ne h hpq, List.append_assoc, List.append_assoc, List.append_assoc]
        rfl
  · rw [jstep_0 h]
    have : c = 0 := by omega
    subst this
    refine sideAt_front hf (fun o ho => ?_) ho
    unfold sideAt
    rw [if_neg (by omega), Int.add_zero]
    cases l <;> rfl
theorem sideAt_jn {p : Int} : ∀ {l fs : Runs}, Good fs → Nn l → ∀ {o : Int}, o < p → sideAt p o (jn fs l) = sideAt p o (fs ++ l)
  | [], fs, _, _, o, _ => by rw [List.append_nil]; rfl
  | (q, c) :: l, fs, hg, h, o, ho => by
    have e : jn fs ((q, c) :: l) = jn (jstep fs (q, c)) l := rfl
    rw [e, sideAt_jn (jstep_good hg) h.2 ho]
    exact sideAt_jstep hg.ps h.1 ho
/-! ### a row of sides, packed -/
def ones (s : List Bool) : Runs := s.map fun q => (q, 1)
def pk (s : List Bool) : Runs := jn [] (ones s)
theorem ones_nn : ∀ s : List Bool, Nn (ones s)
  | [] => trivial
  | _ :: s => ⟨Int.zero_le_ofNat 1, ones_nn s⟩
theorem ones_amt : ∀ s : List Bool, amt (ones s) = s.length
  | [] => rfl
  | _ :: s => by
    have := ones_amt s
    show 1 + amt (ones s) = ((s.length + 1 : Nat) : Int)
    omega
theorem pk_good (s : List Bool) : Good (pk s) := jn_good good_nil
theorem pk_amt (s : List Bool) : amt (pk s) = s.length := by
  have := (jn_amt (fs := []) (ones_nn s)).1
  rw [ones_amt] at this
  have e : amt ([] : Runs) = 0 := rfl
  rw [e, Int.zero_add] at this
  exact this
theorem ones_side : ∀ (s : List Bool) (k : Nat) (o : Int), sideAt (o + k + 1) o (ones s) = s[k]?
  | [], k, o => by simp [ones, sideAt]
  | q :: s, 0, o => by
    show (if o + (0 : Nat) + 1 ≤ o + 1 then some q else _) = _
    rw [if_pos (by omega)]
    rfl
  | q :: s, k + 1, o => by
    show (if o + (k + 1 : Nat) + 1 ≤ o + 1 then some q else sideAt (o + (k + 1 : Nat) + 1) (o + 1) (ones s)) = _
    rw [if_neg (by omega)]
    have e : o + (k + 1 : Nat) + 1 = (o + 1) + (k : Nat) + 1 := by omega
    rw [e, ones_side s k (o + 1)]
    rfl
theorem pk_side (s : List Bool) (k : Nat) : sideAt (k + 1) 0 (pk s) = s[k]? := by
  have h := sideAt_jn (p := (k : Int) + 1) good_nil (ones_nn s) (o := 0) (by omega)
  rw [List.nil_append] at h
  have h2 := ones_side s k 0
  rw [Int.zero_add] at h2
  exact h.trans h2
/-- the places that point right -/
def spotsR : Nat → List Bool → List Int
  | _, [] => []
  | k, q :: s => if q then spotsR (k + 1) s else ((k : Int) + 1) :: spotsR (k + 1) s
theorem spotsR_l (k : Nat) (s : List Bool) : spotsR k (true :: s) = spotsR (k + 1) s := rfl
theorem spotsR_r (k : Nat) (s : List Bool) : spotsR k (false :: s) = ((k : Int) + 1) :: spotsR (k + 1) s := rfl
theorem ones_SR : ∀ (s : List Bool) (k : Nat), SR2 k (ones s) = 2 * (spotsR k s).sum
  | [], _ => rfl
  | q :: s, k => by
    have ih := ones_SR s (k + 1)
    have e : (k : Int) + 1 = ((k + 1 : Nat) : Int) := by omega
    show (if q then 0 else 1 * (2 * (k : Int) + 1 + 1)) + SR2 ((k : Int) + 1) (ones s) = _
    rw [e, ih]
    cases q with
    | true => rw [spotsR_l]; simp
    | false => rw [spotsR_r]; simp only [Bool.false_eq_true, if_false, List.sum_cons]; omega
theorem pk_sumR (s : List Bool) : sumR 0 (pk s) = (spotsR 0 s).sum := by
  have h := SR2_jn (fs := []) (ones_nn s) (o := 0)
  have h2 := ones_SR s 0
  have h3 := sumR_2 (pk s) 0
  have h4 : SR2 0 (pk s) = SR2 0 ([] ++ ones s) := h
  rw [List.nil_append] at h4
  have h5 : SR2 0 (ones s) = 2 * (spotsR 0 s).sum := h2
  omega
theorem ones_R : ∀ (s : List Bool) (k : Nat), amtR (ones s) = (spotsR k s).length
  | [], _ => rfl
  | q :: s, k => by
    have ih := ones_R s (k + 1)
    show (if q then 0 else 1) + amtR (ones s) = _
    cases q with
    | true => rw [spotsR_l]; simpa using ih
    | false => rw [spotsR_r]; simp only [Bool.false_eq_true, if_false, List.length_cons]; omega
theorem pk_R (s : List Bool) : amtR (pk s) = (spotsR 0 s).length := by
  have h := (jn_amt (fs := []) (ones_nn s)).2
  rw [ones_R s 0] at h
  have e : amtR ([] : Runs) = 0 := rfl
  rw [e, Int.zero_add] at h
  exact h
theorem pk_ne {s : List Bool} (h : s ≠ []) : pk s ≠ [] := by
  intro e
  have h1 := pk_amt s
  rw [e] at h1
  cases s with
  | nil => exact h rfl
  | cons q s => simp [amt] at h1; omega
end Mi

namespace G
open PySem PySem.Spec PyProof.Rows L2 Mi
/-! ### the program's checks at rows of runs -/
theorem is_int_i (i low : Int) : Fis_integer [.fz (.int i), .fz (.int low)] = .ret (.fz (.bl (decide (low ≤ i)))) [none, none] := by
  kernel_rfl
theorem is_side_ok (q : Bool) : Fis_side [.fz (.str (sideS q))] = .ret (.fz (.bl true)) [none] := by cases q <;> kernel_rfl
theorem is_run_ok (r : Bool × Int) (h : 1 ≤ r.2) : Fis_run [.fz (runD r)] = .ret (.fz (.bl true)) [none] := by
  obtain ⟨q, c⟩ := r
  have e : decide (1 ≤ c) = true := decide_eq_true h
  have e0 : runD (q, c) = .tup [.str (sideS q), .int c] := rfl
  have e1 := is_int_i c 1
  have e2 := is_side_ok q
  rw [e] at e1
  unfold Fis_run Bis_run
  revert e1 e2
  generalize Fis_side = f1
  generalize Fis_integer = f2
  intro e1 e2
  simp (maxSteps := 20000000) (disch := (first | assumption | omega | (simp only [List.length_cons, List.length_nil, List.length_append, List.length_map, SZ]; done) | (simp only [List.length_cons, List.length_nil, List.length_append, List.length_map, SZ]; omega))) only [EVA, ev_it, ev_if_f, List.getElem?_cons_zero, List.getElem?_cons_succ, List.set_cons_zero, List.set_cons_succ, Bool.and_true, Bool.true_and, Bool.or_true, Bool.true_or, Bool.or_false, Bool.false_or, Bool.and_false, Bool.false_and, Bool.not_true, Bool.not_false, List.length_cons, List.length_nil, List.map_cons, List.map_nil, List.replicate_succ, List.replicate_zero, List.cons_append, List.nil_append, if_true, if_false, Nat.reduceAdd, Nat.reduceEqDiff, beq_self_eq_true, reduceIte, Nat.zero_add, eq_self, SZ, List.contains_cons, List.contains_nil, Nat.reduceBEq, Nat.reduceLT, Nat.reduceLeDiff, Int.reduceToNat, Int.reducePow, Int.reduceAdd, Int.reduceSub, Int.reduceMul, Int.reduceNeg, Int.reduceLT, Int.reduceLE, Int.reduceEq, Int.reduceDiv, Int.reduceMod, Option.map_some, Option.map_none, e0, e1, e2, decide_true]
theorem runs_loop (x0 : Option Sl) : ∀ (l : Runs) (acc : List D), Ps l → acc.length + l.length < 1000 →
    loopC (turnC (gNm 3) tYesE Eis_posts_0 [3]) (l.map runD) [x0, none, none, none] acc = .ok (acc ++ List.replicate l.length (.bl true)) [x0, none, none, none]
  | [], acc, _, _ => by simp [ev_lc0]
  | r :: l, acc, h, hl => by
    rw [List.length_cons] at hl
    have e1 := is_run_ok r h.1
    have ih := runs_loop x0 l (acc ++ [.bl true]) h.2 (by rw [List.length_append, List.length_cons, List.length_nil]; omega)
    have e7 : turnC (gNm 3) tYesE Eis_posts_0 [3] (runD r) [x0, none, none, none] = .ok (some (.bl true)) [x0, none, none, none] := by
      unfold Eis_posts_0
      revert e1
      generalize Fis_run = f1
      generalize runD r = d
      intro e1
      simp (maxSteps := 20000000) (disch := (first | assumption | omega | (simp only [List.length_cons, List.length_nil, List.length_append, List.length_map, SZ]; done) | (simp only [List.length_cons, List.length_nil, List.length_append, List.length_map, SZ]; omega))) only [EVA, ev_it, ev_if_f, List.getElem?_cons_zero, List.getElem?_cons_succ, List.set_cons_zero, List.set_cons_succ, Bool.and_true, Bool.true_and, Bool.or_true, Bool.true_or, Bool.or_false, Bool.false_or, Bool.and_false, Bool.false_and, Bool.not_true, Bool.not_false, List.length_cons, List.length_nil, List.map_cons, List.map_nil, List.replicate_succ, List.replicate_zero, List.cons_append, List.nil_append, if_true, if_false, Nat.reduceAdd, Nat.reduceEqDiff, beq_self_eq_true, reduceIte, Nat.zero_add, eq_self, SZ, List.contains_cons, List.contains_nil, Nat.reduceBEq, Nat.reduceLT, Nat.reduceLeDiff, Int.reduceToNat, Int.reducePow, Int.reduceAdd, Int.reduceSub, Int.reduceMul, Int.reduceNeg, Int.reduceLT, Int.reduceLE, Int.reduceEq, Int.reduceDiv, Int.reduceMod, Option.map_some, Option.map_none, e1]
    rw [List.map_cons, lc_cons, e7, ev_lcR1 (by unfold SZ; omega), ih, List.length_cons, List.replicate_succ]
    simp
theorem side_ne (p q : Bool) (h : p ≠ q) : neD (.str (sideS p)) (.str (sideS q)) = some (.fz (.bl true)) := by
  cases p <;> cases q <;> first | (exact absurd rfl h) | kernel_rfl
theorem adj_loop (x0 : Option Sl) : ∀ (l : Runs) (acc : List D), altS (l.map (·.1)) → acc.length + l.length < 1000 →
    loopC (turnC (gSeq 2 (gsCons (gNm 1) (gsCons (gNm 2) gsNil))) tYesE Eis_posts_1 [1, 2]) (adj l) [x0, none, none, none] acc = .ok (acc ++ List.replicate (adj l).length (.bl true)) [x0, none, none, none]
  | [], acc, _, _ => by simp [adj, ev_lc0]
  | [a], acc, _, _ => by simp [adj, ev_lc0]
  | (p, c) :: (q, e) :: l, acc, h, hl => by
    rw [List.length_cons] at hl
    have h1 : p ≠ q := h.1
    have e1 := side_ne p q h1
    have ih := adj_loop x0 ((q, e) :: l) (acc ++ [.bl true]) h.2 (by rw [List.length_append, List.length_cons, List.length_nil]; omega)
    have e0 : adj ((p, c) :: (q, e) :: l) = .tup [.tup [.str (sideS p), .int c], .tup [.str (sideS q), .int e]] :: adj ((q, e) :: l) := rfl
    have e7 : turnC (gSeq 2 (gsCons (gNm 1) (gsCons (gNm 2) gsNil))) tYesE Eis_posts_1 [1, 2] (.tup [.tup [.str (sideS p), .int c], .tup [.str (sideS q), .int e]]) [x0, none, none, none] = .ok (some (.bl true)) [x0, none, none, none] := by
      unfold Eis_posts_1
      simp (maxSteps := 20000000) (disch := (first | assumption | omega | (simp only [List.length_cons, List.length_nil, List.length_append, List.length_map, SZ]; done) | (simp only [List.length_cons, List.length_nil, List.length_append, List.length_map, SZ]; omega))) only [EVA, ev_it, ev_if_f, List.getElem?_cons_zero, List.getElem?_cons_succ, List.set_cons_zero, List.set_cons_succ, Bool.and_true, Bool.true_and, Bool.or_true, Bool.true_or, Bool.or_false, Bool.false_or, Bool.and_false, Bool.false_and, Bool.not_true, Bool.not_false, List.length_cons, List.length_nil, List.map_cons, List.map_nil, List.replicate_succ, List.replicate_zero, List.cons_append, List.nil_append, if_true, if_false, Nat.reduceAdd, Nat.reduceEqDiff, beq_self_eq_true, reduceIte, Nat.zero_add, eq_self, SZ, List.contains_cons, List.contains_nil, Nat.reduceBEq, Nat.reduceLT, Nat.reduceLeDiff, Int.reduceToNat, Int.reducePow, Int.reduceAdd, Int.reduceSub, Int.reduceMul, Int.reduceNeg, Int.reduceLT, Int.reduceLE, Int.reduceEq, Int.reduceDiv, Int.reduceMod, Option.map_some, Option.map_none, e1]
    rw [e0, lc_cons, e7, ev_lcR1 (by unfold SZ; omega), ih, List.length_cons, List.replicate_succ]
    simp
theorem is_posts_ok {l : Runs} (h : Good l) (hn : l ≠ []) (hl : l.length < 900) : Fis_posts [.fz (.tup (l.map runD))] = .ret (.fz (.bl true)) [none] := by
  have e1 := runs_loop (some (.fz (.tup (l.map runD)))) l [] h.ps (by simp; omega)
  have e2 := adj_loop (some (.fz (.tup (l.map runD)))) l [] h.al (by simp; omega)
  have e3 := zip_adj l
  have e4 := all_trues l.length
  have e5 := all_trues (adj l).length
  have e6 : decide (((l.map runD).length : Int) = 0) = false := by
    rw [List.length_map]
    apply decide_eq_false
    cases l with
    | nil => exact absurd rfl hn
    | cons a l => rw [List.length_cons]; omega
  rw [List.nil_append] at e1 e2
  unfold Fis_posts Bis_posts
  revert e1 e2 e4 e5 e3
  generalize Eis_posts_0 = f1
  generalize Eis_posts_1 = f2
  generalize List.replicate l.length (D.bl true) = rs
  generalize List.replicate (adj l).length (D.bl true) = rs2
  generalize adj l = al
  intro e1 e2 e4 e5 e3
  simp (maxSteps := 20000000) (disch := (first | assumption | omega | (simp only [List.length_cons, List.length_nil, List.length_append, List.length_map, SZ]; done) | (simp only [List.length_cons, List.length_nil, List.length_append, List.length_map, SZ]; omega))) only [EVA, ev_it, ev_if_f, List.getElem?_cons_zero, List.getElem?_cons_succ, List.set_cons_zero, List.set_cons_succ, Bool.and_true, Bool.true_and, Bool.or_true, Bool.true_or, Bool.or_false, Bool.false_or, Bool.and_false, Bool.false_and, Bool.not_true, Bool.not_false, List.length_cons, List.length_nil, List.map_cons, List.map_nil, List.replicate_succ, List.replicate_zero, List.cons_append, List.nil_append, if_true, if_false, Nat.reduceAdd, Nat.reduceEqDiff, beq_self_eq_true, reduceIte, Nat.zero_add, eq_self, SZ, List.contains_cons, List.contains_nil, Nat.reduceBEq, Nat.reduceLT, Nat.reduceLeDiff, Int.reduceToNat, Int.reducePow, Int.reduceAdd, Int.reduceSub, Int.reduceMul, Int.reduceNeg, Int.reduceLT, Int.reduceLE, Int.reduceEq, Int.reduceDiv, Int.reduceMod, Option.map_some, Option.map_none, e1, e2, e3, e4, e5, e6]
theorem check_posts_ok {l : Runs} (h : Good l) (hn : l ≠ []) (hl : l.length < 900) : Fcheck_posts [.fz (.tup (l.map runD))] = .ret (.fz .non) [none] := by
  have e1 := is_posts_ok h hn hl
  unfold Fcheck_posts Bcheck_posts
  revert e1
  generalize Fis_posts = f1
  generalize D.tup (l.map runD) = ld
  intro e1
  simp (maxSteps := 20000000) (disch := (first | assumption | omega | (simp only [List.length_cons, List.length_nil, List.length_append, List.length_map, SZ]; done) | (simp only [List.length_cons, List.length_nil, List.length_append, List.length_map, SZ]; omega))) only [EVA, ev_it, ev_if_f, List.getElem?_cons_zero, List.getElem?_cons_succ, List.set_cons_zero, List.set_cons_succ, Bool.and_true, Bool.true_and, Bool.or_true, Bool.true_or, Bool.or_false, Bool.false_or, Bool.and_false, Bool.false_and, Bool.not_true, Bool.not_false, List.length_cons, List.length_nil, List.map_cons, List.map_nil, List.replicate_succ, List.replicate_zero, List.cons_append, List.nil_append, if_true, if_false, Nat.reduceAdd, Nat.reduceEqDiff, beq_self_eq_true, reduceIte, Nat.zero_add, eq_self, SZ, List.contains_cons, List.contains_nil, Nat.reduceBEq, Nat.reduceLT, Nat.reduceLeDiff, Int.reduceToNat, Int.reducePow, Int.reduceAdd, Int.reduceSub, Int.reduceMul, Int.reduceNeg, Int.reduceLT, Int.reduceLE, Int.reduceEq, Int.reduceDiv, Int.reduceMod, Option.map_some, Option.map_none, e1]
theorem side_R (q : Bool) : eqD (.str (sideS q)) (.str "R") = some (.fz (.bl (!q))) := by cases q <;> kernel_rfl
theorem side_L (q : Bool) : eqD (.str (sideS q)) (.str "L") = some (.fz (.bl q)) := by cases q <;> kernel_rfl
end G

namespace G
open PySem PySem.Spec PyProof.Rows L2 Mi
theorem count_loop (x0 : Option Sl) : ∀ (l : Runs) (acc : List D), acc.length + l.length < 1000 →
    loopC (turnC (gSeq 2 (gsCons (gNm 1) (gsCons (gNm 2) gsNil))) tYesE Ecount_posts_0 [1, 2]) (l.map runD) [x0, none, none] acc = .ok (acc ++ (l.map (·.2)).map .int) [x0, none, none]
  | [], acc, _ => by simp [ev_lc0]
  | (q, c) :: l, acc, hl => by
    rw [List.length_cons] at hl
    have ih := count_loop x0 l (acc ++ [.int c]) (by rw [List.length_append, List.length_cons, List.length_nil]; omega)
    have e0 : runD (q, c) = .tup [.str (sideS q), .int c] := rfl
    have e7 : turnC (gSeq 2 (gsCons (gNm 1) (gsCons (gNm 2) gsNil))) tYesE Ecount_posts_0 [1, 2] (.tup [.str (sideS q), .int c]) [x0, none, none] = .ok (some (.int c)) [x0, none, none] := by
      unfold Ecount_posts_0
      simp (maxSteps := 20000000) (disch := (first | assumption | omega | (simp only [List.length_cons, List.length_nil, List.length_append, List.length_map, SZ]; done) | (simp only [List.length_cons, List.length_nil, List.length_append, List.length_map, SZ]; omega))) only [EVA, ev_it, ev_if_f, List.getElem?_cons_zero, List.getElem?_cons_succ, List.set_cons_zero, List.set_cons_succ, Bool.and_true, Bool.true_and, Bool.or_true, Bool.true_or, Bool.or_false, Bool.false_or, Bool.and_false, Bool.false_and, Bool.not_true, Bool.not_false, List.length_cons, List.length_nil, List.map_cons, List.map_nil, List.replicate_succ, List.replicate_zero, List.cons_append, List.nil_append, if_true, if_false, Nat.reduceAdd, Nat.reduceEqDiff, beq_self_eq_true, reduceIte, Nat.zero_add, eq_self, SZ, List.contains_cons, List.contains_nil, Nat.reduceBEq, Nat.reduceLT, Nat.reduceLeDiff, Int.reduceToNat, Int.reducePow, Int.reduceAdd, Int.reduceSub, Int.reduceMul, Int.reduceNeg, Int.reduceLT, Int.reduceLE, Int.reduceEq, Int.reduceDiv, Int.reduceMod, Option.map_some, Option.map_none]
    rw [List.map_cons, lc_cons, e0, e7, ev_lcR1 (by unfold SZ; omega), ih]
    simp
theorem count_ok {l : Runs} (hl : l.length < 900) : Fcount_posts [.fz (.tup (l.map runD))] = .ret (.fz (.int (amt l))) [none] := by
  have e1 := count_loop (some (.fz (.tup (l.map runD)))) l [] (by simp; omega)
  have e2 := sum_ints (l.map (·.2))
  rw [amt_sum] at e2
  rw [List.nil_append] at e1
  unfold Fcount_posts Bcount_posts
  revert e1 e2
  generalize Ecount_posts_0 = f1
  generalize (l.map (·.2)).map D.int = rs
  intro e1 e2
  simp (maxSteps := 20000000) (disch := (first | assumption | omega | (simp only [List.length_cons, List.length_nil, List.length_append, List.length_map, SZ]; done) | (simp only [List.length_cons, List.length_nil, List.length_append, List.length_map, SZ]; omega))) only [EVA, ev_it, ev_if_f, List.getElem?_cons_zero, List.getElem?_cons_succ, List.set_cons_zero, List.set_cons_succ, Bool.and_true, Bool.true_and, Bool.or_true, Bool.true_or, Bool.or_false, Bool.false_or, Bool.and_false, Bool.false_and, Bool.not_true, Bool.not_false, List.length_cons, List.length_nil, List.map_cons, List.map_nil, List.replicate_succ, List.replicate_zero, List.cons_append, List.nil_append, if_true, if_false, Nat.reduceAdd, Nat.reduceEqDiff, beq_self_eq_true, reduceIte, Nat.zero_add, eq_self, SZ, List.contains_cons, List.contains_nil, Nat.reduceBEq, Nat.reduceLT, Nat.reduceLeDiff, Int.reduceToNat, Int.reducePow, Int.reduceAdd, Int.reduceSub, Int.reduceMul, Int.reduceNeg, Int.reduceLT, Int.reduceLE, Int.reduceEq, Int.reduceDiv, Int.reduceMod, Option.map_some, Option.map_none, e1, e2]
theorem is_place_ok {l : Runs} (hl : l.length < 900) (p : Int) : Fis_place [.fz (.tup (l.map runD)), .fz (.int p)] = .ret (.fz (.bl (decide (1 ≤ p ∧ p ≤ amt l)))) [none, none] := by
  have e1 := count_ok hl
  have e2 := is_int_i p 1
  unfold Fis_place Bis_place
  revert e1 e2
  generalize Fcount_posts = f1
  generalize Fis_integer = f2
  generalize D.tup (l.map runD) = ld
  generalize amt l = n
  intro e1 e2
  by_cases h : 1 ≤ p
  · rw [decide_eq_true h] at e2
    have e3 : decide (1 ≤ p ∧ p ≤ n) = decide (p ≤ n) := by
      apply decide_eq_decide.mpr
      omega
    rw [e3]
    simp (maxSteps := 20000000) (disch := (first | assumption | omega | (simp only [List.length_cons, List.length_nil, List.length_append, List.length_map, SZ]; done) | (simp only [List.length_cons, List.length_nil, List.length_append, List.length_map, SZ]; omega))) only [EVA, ev_it, ev_if_f, List.getElem?_cons_zero, List.getElem?_cons_succ, List.set_cons_zero, List.set_cons_succ, Bool.and_true, Bool.true_and, Bool.or_true, Bool.true_or, Bool.or_false, Bool.false_or, Bool.and_false, Bool.false_and, Bool.not_true, Bool.not_false, List.length_cons, List.length_nil, List.map_cons, List.map_nil, List.replicate_succ, List.replicate_zero, List.cons_append, List.nil_append, if_true, if_false, Nat.reduceAdd, Nat.reduceEqDiff, beq_self_eq_true, reduceIte, Nat.zero_add, eq_self, SZ, List.contains_cons, List.contains_nil, Nat.reduceBEq, Nat.reduceLT, Nat.reduceLeDiff, Int.reduceToNat, Int.reducePow, Int.reduceAdd, Int.reduceSub, Int.reduceMul, Int.reduceNeg, Int.reduceLT, Int.reduceLE, Int.reduceEq, Int.reduceDiv, Int.reduceMod, Option.map_some, Option.map_none, e1, e2]
  · rw [decide_eq_false h] at e2
    have e3 : decide (1 ≤ p ∧ p ≤ n) = false := decide_eq_false (by omega)
    rw [e3]
    simp (maxSteps := 20000000) (disch := (first | assumption | omega | (simp only [List.length_cons, List.length_nil, List.length_append, List.length_map, SZ]; done) | (simp only [List.length_cons, List.length_nil, List.length_append, List.length_map, SZ]; omega))) only [EVA, ev_it, ev_if_f, List.getElem?_cons_zero, List.getElem?_cons_succ, List.set_cons_zero, List.set_cons_succ, Bool.and_true, Bool.true_and, Bool.or_true, Bool.true_or, Bool.or_false, Bool.false_or, Bool.and_false, Bool.false_and, Bool.not_true, Bool.not_false, List.length_cons, List.length_nil, List.map_cons, List.map_nil, List.replicate_succ, List.replicate_zero, List.cons_append, List.nil_append, if_true, if_false, Nat.reduceAdd, Nat.reduceEqDiff, beq_self_eq_true, reduceIte, Nat.zero_add, eq_self, SZ, List.contains_cons, List.contains_nil, Nat.reduceBEq, Nat.reduceLT, Nat.reduceLeDiff, Int.reduceToNat, Int.reducePow, Int.reduceAdd, Int.reduceSub, Int.reduceMul, Int.reduceNeg, Int.reduceLT, Int.reduceLE, Int.reduceEq, Int.reduceDiv, Int.reduceMod, Option.map_some, Option.map_none, e1, e2]

end G

namespace Mi
open PySem PySem.Spec PyProof.Rows L2
/-! ### what repr can show -/
structure Shw (b : Nat) (d : D) : Prop where
  lv : d.py.leavesShort 200 = true
  sw : d.py.showable = true
  bk : d.py.bulk ≤ b
theorem shw_int {b : Nat} {i : Int} (h : i.natAbs < 10 ^ 190) : Shw b (.int i) := by
  refine ⟨?_, ?_, Nat.zero_le _⟩
  · show decide ((PyData.shown (.int i)).length ≤ 200) = true
    apply decide_eq_true
    have e := int_text_length_le10 (k := 190) (by decide) h
    have e2 : (PyData.shown (.int i)).length = (toString i).length := by
      show (Str.ofString (toString i)).length = _
      rw [PySem.ofString_length]
    omega
  · show decide (i.natAbs.log2 < 1920) = true
    apply decide_eq_true
    have h2 : i.natAbs < 2 ^ 1920 := Nat.lt_of_lt_of_le h (by decide +kernel)
    by_cases h0 : i.natAbs = 0
    · rw [h0]; decide
    · exact (Nat.log2_lt h0).mpr h2
theorem shw_side {q : Bool} : Shw 1 (.str (sideS q)) := by
  cases q <;> exact ⟨by decide +kernel, rfl, by decide +kernel⟩
theorem shw_all {b : Nat} : ∀ {xs : List D}, (∀ x ∈ xs, Shw b x) → PyData.leavesShortAll 200 (pyL xs) = true ∧ PyData.showableAll (pyL xs) = true ∧ PyData.bulkAll (pyL xs) ≤ (b + 1) * xs.length
  | [], _ => ⟨rfl, rfl, Nat.zero_le _⟩
  | x :: xs, h => by
    have h1 := h x (List.mem_cons_self ..)
    obtain ⟨h2, h3, h4⟩ := shw_all fun y hy => h y (List.mem_cons_of_mem _ hy)
    refine ⟨?_, ?_, ?_⟩
    · show (PyData.leavesShort 200 x.py && PyData.leavesShortAll 200 (pyL xs)) = true
      rw [h1.lv, h2]; rfl
    · show (PyData.showable x.py && PyData.showableAll (pyL xs)) = true
      rw [h1.sw, h3]; rfl
    · show PyData.bulk x.py + 1 + PyData.bulkAll (pyL xs) ≤ _
      have := h1.bk
      rw [List.length_cons, Nat.mul_add, Nat.mul_one]
      omega
theorem shw_tup {b c : Nat} {xs : List D} (h : ∀ x ∈ xs, Shw b x) (hc : (b + 1) * xs.length ≤ c) : Shw c (.tup xs) :=
  ⟨(shw_all h).1, (shw_all h).2.1, Nat.le_trans (shw_all h).2.2 hc⟩
theorem shw_lst {b c : Nat} {xs : List D} (h : ∀ x ∈ xs, Shw b x) (hc : (b + 1) * xs.length ≤ c) : Shw c (.lst xs) :=
  ⟨(shw_all h).1, (shw_all h).2.1, Nat.le_trans (shw_all h).2.2 hc⟩
theorem repr_ok {b k : Nat} {d : D} (h : Shw b d) (f : Flt k d) (hq : d.isSeq = true) (hb : b ≤ 80000) (hk : k ≤ 64) : reprD [d] = some (.fz (.str d.py.shown)) := by
  refine ev_reprD hq (sh_flt f hk) h.sw ?_
  have h1 := PyData.shown_le_bulk 200 (by decide) d.py h.lv
  have h2 := h.bk
  rw [sizeLine_eq]
  have h3 : (200 + 2) * d.py.bulk ≤ 202 * b := Nat.mul_le_mul_left _ h2
  omega
theorem shw_run {r : Bool × Int} (h : r.2.natAbs < 10 ^ 190) : Shw 4 (runD r) := by
  refine shw_tup (b := 1) (fun x hx => ?_) (Nat.le_refl _)
  simp only [List.mem_cons, List.not_mem_nil, or_false] at hx
  rcases hx with rfl | rfl
  · exact shw_side
  · exact shw_int h
theorem repr_line {l : Runs} (h : ∀ r ∈ l, r.2.natAbs < 10 ^ 190) (hl : l.length < 1000) : reprD [.tup (l.map runD)] = some (.fz (.str (D.tup (l.map runD)).py.shown)) := by
  refine repr_ok (b := 5 * l.length) (k := 2) (shw_tup (b := 4) (fun x hx => ?_) (by rw [List.length_map]; exact Nat.le_refl _)) (flt_tup fun x hx => ?_) rfl (by omega) (by decide)
  · obtain ⟨r, hr, rfl⟩ := List.mem_map.mp hx
    exact shw_run (h r hr)
  · obtain ⟨r, _, rfl⟩ := List.mem_map.mp hx
    exact flt_run r
/-! ### rows of ints, rows of sides: equal ones -/
theorem sh_ints (l : List Int) : D.sh (.lst (l.map .int)) = true := by
  refine sh_flt (k := 1) (flt_lst fun x hx => ?_) (by decide)
  obtain ⟨i, _, rfl⟩ := List.mem_map.mp hx
  exact flt_int
theorem eq_ints : ∀ (l : List Int), D.eq (.lst (l.map .int)) (.lst (l.map .int)) = true
  | [] => rfl
  | x :: xs => by
    have ih := eq_ints xs
    have e : D.eq (.lst ((x :: xs).map .int)) (.lst ((x :: xs).map .int)) = (D.eq (.int x) (.int x) && D.eq (.lst (xs.map .int)) (.lst (xs.map .int))) := rfl
    have e2 : D.eq (.int x) (.int x) = true := by
      show (x == x) = true
      exact beq_self_eq_true x
    rw [e, ih, e2]
    rfl
theorem neD_ints (l : List Int) : neD (.lst (l.map .int)) (.lst (l.map .int)) = some (.fz (.bl false)) := by
  unfold neD
  rw [sh_ints, eq_ints]
  rfl
theorem neD_3 (a b c : Int) : neD (.lst [.int a, .int b, .int c]) (.lst [.int a, .int b, .int c]) = some (.fz (.bl false)) := neD_ints [a, b, c]
def sdD (q : Bool) : D := .str (sideS q)
theorem sh_sds (l : List Bool) : D.sh (.lst (l.map sdD)) = true := by
  refine sh_flt (k := 1) (flt_lst fun x hx => ?_) (by decide)
  obtain ⟨q, _, rfl⟩ := List.mem_map.mp hx
  exact flt_str (by cases q <;> decide +kernel)
theorem eq_sds : ∀ (l s : List Bool), D.eq (.lst (l.map sdD)) (.lst (s.map sdD)) = decide (l = s)
  | [], [] => rfl
  | [], _ :: _ => rfl
  | _ :: _, [] => rfl
  | x :: xs, y :: ys => by
    have ih := eq_sds xs ys
    have e : D.eq (.lst ((x :: xs).map sdD)) (.lst ((y :: ys).map sdD)) = (D.eq (sdD x) (sdD y) && D.eq (.lst (xs.map sdD)) (.lst (ys.map sdD))) := rfl
    have e2 : D.eq (sdD x) (sdD y) = (x == y) := by cases x <;> cases y <;> decide +kernel
    rw [e, ih, e2]
    by_cases h : x = y <;> by_cases h2 : xs = ys <;> simp [h, h2]
theorem eqD_sds (l s : List Bool) : eqD (.lst (l.map sdD)) (.lst (s.map sdD)) = some (.fz (.bl (decide (l = s)))) := by
  unfold eqD
  rw [sh_sds, sh_sds, eq_sds]
  rfl
theorem ix_LR (t : Int) : ixD (.str "LR") (.int (t % 2)) = some (.fz (.str (sideS (decide (t % 2 = 0))))) := by
  rcases (show t % 2 = 0 ∨ t % 2 = 1 by omega) with h | h
  · rw [h]; kernel_rfl
  · rw [h]; kernel_rfl
/-- sides in turn, from a place of parity t -/
def altB : Int → Nat → List Bool
  | _, 0 => []
  | t, n + 1 => decide (t % 2 = 0) :: altB (t + 1) n
theorem altB_alt : ∀ (n : Nat) (t : Int), altS (altB t n)
  | 0, _ => trivial
  | 1, _ => trivial
  | n + 2, t => by
    have ih := altB_alt (n + 1) (t + 1)
    refine ⟨?_, ih⟩
    intro h
    rw [decide_eq_decide] at h
    omega
theorem pick3i (x y z r : Int) (h1 : 0 ≤ r) (h2 : r < 3) : ∃ w, ixD (.lst [.int x, .int y, .int z]) (.int r) = some (.fz (.int w)) ∧ (w = x ∨ w = y ∨ w = z) := by
  rcases (show r = 0 ∨ r = 1 ∨ r = 2 by omega) with rfl | rfl | rfl
  · exact ⟨x, rfl, .inl rfl⟩
  · exact ⟨y, rfl, .inr (.inl rfl)⟩
  · exact ⟨z, rfl, .inr (.inr rfl)⟩
theorem pick2i (x y r : Int) (h1 : 0 ≤ r) (h2 : r < 2) : ∃ w, ixD (.lst [.int x, .int y]) (.int r) = some (.fz (.int w)) ∧ (w = x ∨ w = y) := by
  rcases (show r = 0 ∨ r = 1 by omega) with rfl | rfl
  · exact ⟨x, rfl, .inl rfl⟩
  · exact ⟨y, rfl, .inr rfl⟩
theorem pick4i (x y z u r : Int) (h1 : 0 ≤ r) (h2 : r < 4) : ∃ w, ixD (.lst [.int x, .int y, .int z, .int u]) (.int r) = some (.fz (.int w)) ∧ (w = x ∨ w = y ∨ w = z ∨ w = u) := by
  rcases (show r = 0 ∨ r = 1 ∨ r = 2 ∨ r = 3 by omega) with rfl | rfl | rfl | rfl
  · exact ⟨x, rfl, .inl rfl⟩
  · exact ⟨y, rfl, .inr (.inl rfl)⟩
  · exact ⟨z, rfl, .inr (.inr (.inl rfl))⟩
  · exact ⟨u, rfl, .inr (.inr (.inr rfl))⟩
end Mi

namespace Mi
/-! ### a row of runs, post by post -/
def ex (l : Runs) : List Bool := l.flatMap fun r => List.replicate r.2.toNat r.1
theorem ex_nil : ex [] = [] := rfl
theorem ex_cons (r : Bool × Int) (l : Runs) : ex (r :: l) = List.replicate r.2.toNat r.1 ++ ex l := rfl
theorem ex_append (a b : Runs) : ex (a ++ b) = ex a ++ ex b := by
  unfold ex
  exact List.flatMap_append
theorem ex_reverse (l : Runs) : ex l.reverse = (ex l).reverse := by
  induction l with
  | nil => rfl
  | cons r l ih =>
    rw [List.reverse_cons, ex_append, ih, ex_cons r l, List.reverse_append, List.reverse_replicate, ex_cons, ex_nil, List.append_nil]
theorem ex_flip (l : Runs) : ex (l.map flipR) = (ex l).map (!·) := by
  induction l with
  | nil => rfl
  | cons r l ih =>
    rw [List.map_cons, ex_cons, ih, ex_cons, List.map_append, List.map_replicate]
    rfl
theorem ex_jstep {fs : Runs} {r : Bool × Int} (hp : Ps fs) : ex (jstep fs r) = ex fs ++ List.replicate r.2.toNat r.1 := by
  obtain ⟨q, c⟩ := r
  by_cases h : 0 < c
  · rcases List.eq_nil_or_concat fs with rfl | ⟨gs, ⟨p, n⟩, rfl⟩
    · rw [jstep_nil h, ex_cons, ex_nil, List.append_nil, List.nil_append]
    · rw [List.concat_eq_append] at hp ⊢
      have hn : 1 ≤ n := (ps_append.mp hp).2.1
      cases hpq : p == q with
      | true =>
        have e : p = q := by simpa using hpq
        subst e
        rw [jstep_eq h, ex_append, ex_append, ex_cons, ex_cons, ex_nil, List.append_nil, List.append_nil, List.append_assoc, List.replicate_append_replicate]
        congr 2
        show (n + c).toNat = n.toNat + c.toNat
        omega
      | false =>
        rw [jstep_ne h hpq, ex_append, ex_cons (q, c), ex_nil, List.append_nil]
  · rw [jstep_0 h]
    have : c.toNat = 0 := by omega
    show ex fs = ex fs ++ List.replicate c.toNat q
    rw [this]
    simp
theorem ex_jn : ∀ {l fs : Runs}, Good fs → ex (jn fs l) = ex fs ++ ex l
  | [], fs, _ => by rw [ex_nil, List.append_nil]; rfl
  | r :: l, fs, h => by
    have e : jn fs (r :: l) = jn (jstep fs r) l := rfl
    rw [e, ex_jn (jstep_good h), ex_jstep h.ps, ex_cons, List.append_assoc]
theorem ex_jn0 (l : Runs) : ex (jn [] l) = ex l := by
  rw [ex_jn good_nil, ex_nil, List.nil_append]
theorem good_tail {r : Bool × Int} {l : Runs} (h : Good (r :: l)) : Good l := by
  refine ⟨h.ps.2, ?_⟩
  have := h.al
  cases l with
  | nil => trivial
  | cons s l => exact this.2
/-- how a good row begins -/
theorem ex_head {q : Bool} {c : Int} {l : Runs} (h : Good ((q, c) :: l)) : ∃ n : Nat, c = (n : Int) + 1 ∧ ex ((q, c) :: l) = List.replicate (n + 1) q ++ ex l ∧ (ex l).head? ≠ some q := by
  have hc : 1 ≤ c := h.ps.1
  refine ⟨(c - 1).toNat, by omega, ?_, ?_⟩
  · rw [ex_cons]
    congr 2
    show c.toNat = _
    omega
  · cases l with
    | nil => simp [ex_nil]
    | cons s l =>
      obtain ⟨p, d⟩ := s
      have hd : 1 ≤ d := h.ps.2.1
      have hne : q ≠ p := h.al.1
      obtain ⟨m, hm⟩ : ∃ m : Nat, d.toNat = m + 1 := ⟨d.toNat - 1, by omega⟩
      rw [ex_cons]
      show (List.replicate d.toNat p ++ ex l).head? ≠ some q
      rw [hm, List.replicate_succ]
      simp
      exact fun z => hne z.symm
theorem rep_inj : ∀ {n m : Nat} {q : Bool} {a b : List Bool}, a.head? ≠ some q → b.head? ≠ some q → List.replicate n q ++ a = List.replicate m q ++ b → n = m ∧ a = b
  | 0, 0, _, _, _, _, _, h => ⟨rfl, by simpa using h⟩
  | 0, m + 1, q, a, b, ha, _, h => by
    rw [List.replicate_zero, List.nil_append] at h
    rw [h] at ha
    simp [List.replicate_succ] at ha
  | n + 1, 0, q, a, b, _, hb, h => by
    rw [List.replicate_zero, List.nil_append] at h
    rw [← h] at hb
    simp [List.replicate_succ] at hb
  | n + 1, m + 1, q, a, b, ha, hb, h => by
    rw [List.replicate_succ, List.replicate_succ, List.cons_append, List.cons_append] at h
    obtain ⟨h1, h2⟩ := rep_inj (n := n) (m := m) ha hb (List.cons.inj h).2
    exact ⟨by omega, h2⟩
/-- good rows that are post by post the same are the same -/
theorem ex_inj : ∀ {a b : Runs}, Good a → Good b → ex a = ex b → a = b
  | [], [], _, _, _ => rfl
  | [], (q, c) :: l, _, hb, h => by
    obtain ⟨n, _, e, _⟩ := ex_head hb
    rw [e] at h
    simp [ex_nil, List.replicate_succ] at h
  | (q, c) :: l, [], ha, _, h => by
    obtain ⟨n, _, e, _⟩ := ex_head ha
    rw [e] at h
    simp [ex_nil, List.replicate_succ] at h
  | (q, c) :: l, (p, d) :: m, ha, hb, h => by
    obtain ⟨n, hc, e1, h1⟩ := ex_head ha
    obtain ⟨k, hd, e2, h2⟩ := ex_head hb
    rw [e1, e2] at h
    have hq : q = p := by
      have := congrArg List.head? h
      simpa [List.replicate_succ] using this
    subst hq
    obtain ⟨h3, h4⟩ := rep_inj h1 h2 h
    have := ex_inj (good_tail ha) (good_tail hb) h4
    rw [this]
    have : c = d := by omega
    rw [this]
theorem altS_snoc2 : ∀ {a : List Bool} {p q : Bool}, altS (a ++ [p, q]) → altS (a ++ [p]) ∧ p ≠ q
  | [], p, q, h => ⟨trivial, h.1⟩
  | [x], p, q, h => ⟨⟨h.1, trivial⟩, h.2.1⟩
  | x :: y :: a, p, q, h => by
    obtain ⟨h1, h2⟩ := altS_snoc2 (a := y :: a) h.2
    exact ⟨⟨h.1, h1⟩, h2⟩
theorem altS_reverse : ∀ {a : List Bool}, altS a → altS a.reverse
  | [], _ => trivial
  | [x], _ => trivial
  | x :: y :: a, h => by
    have ih := altS_reverse (a := y :: a) h.2
    rw [List.reverse_cons] at ih
    rw [List.reverse_cons, List.reverse_cons, List.append_assoc]
    exact alt_snoc ih (fun z => h.1 z.symm)
theorem ps_reverse : ∀ {l : Runs}, Ps l → Ps l.reverse
  | [], _ => trivial
  | r :: l, h => by
    rw [List.reverse_cons]
    exact ps_append.mpr ⟨ps_reverse h.2, h.1, trivial⟩
theorem good_reverse {l : Runs} (h : Good l) : Good l.reverse := ⟨ps_reverse h.ps, by rw [List.map_reverse]; exact altS_reverse h.al⟩
theorem altS_not : ∀ {a : List Bool}, altS a → altS (a.map (!·))
  | [], _ => trivial
  | [x], _ => trivial
  | x :: y :: a, h => ⟨fun z => h.1 (by simpa using z), altS_not (a := y :: a) h.2⟩
theorem ps_flip : ∀ {l : Runs}, Ps l → Ps (l.map flipR)
  | [], _ => trivial
  | r :: l, h => ⟨h.1, ps_flip h.2⟩
theorem good_flip {l : Runs} (h : Good l) : Good (l.map flipR) := by
  refine ⟨ps_flip h.ps, ?_⟩
  have e : (l.map flipR).map (·.1) = (l.map (·.1)).map (!·) := by
    rw [List.map_map, List.map_map]
    rfl
  rw [e]
  exact altS_not h.al
theorem jn_reverse (l : Runs) : jn [] l.reverse = (jn [] l).reverse :=
  ex_inj (jn_good good_nil) (good_reverse (jn_good good_nil)) (by rw [ex_jn0, ex_reverse, ex_reverse, ex_jn0])
theorem jn_flip (l : Runs) : jn [] (l.map flipR) = (jn [] l).map flipR :=
  ex_inj (jn_good good_nil) (good_flip (jn_good good_nil)) (by rw [ex_jn0, ex_flip, ex_flip, ex_jn0])
theorem jn_self {l : Runs} (h : Good l) : jn [] l = l := ex_inj (jn_good good_nil) h (ex_jn0 l)
/-! ### the first left ones, the last right ones swung -/
def fst0 : Int → Runs → Runs
  | _, [] => []
  | n, (q, c) :: l => (false, if q then (if c < n then c else n) else 0) :: (q, c - (if q then (if c < n then c else n) else 0)) :: fst0 (n - (if q then (if c < n then c else n) else 0)) l
def lst0 : Int → Runs → Runs
  | _, [] => []
  | n, (q, c) :: l => (true, if q then 0 else (if c < n then c else n)) :: (q, c - (if q then 0 else (if c < n then c else n))) :: lst0 (n - (if q then 0 else (if c < n then c else n))) l
def fstR (n : Int) (l : Runs) : Runs := jn [] (fst0 n l)
def lstR (n : Int) (l : Runs) : Runs := jn [] (lst0 n l.reverse).reverse
def W (up down : Int) (l : Runs) : Runs := fstR up (lstR down l)
theorem fst0_flip : ∀ (l : Runs) (n : Int), fst0 n (l.map flipR) = (lst0 n l).map flipR
  | [], _ => rfl
  | (q, c) :: l, n => by
    cases q with
    | true =>
      show (false, 0) :: (false, c - 0) :: fst0 (n - 0) (l.map flipR) = (false, 0) :: (false, c - 0) :: (lst0 (n - 0) l).map flipR
      rw [fst0_flip l]
    | false =>
      show (false, (if c < n then c else n)) :: (true, c - (if c < n then c else n)) :: fst0 (n - (if c < n then c else n)) (l.map flipR) = (false, (if c < n then c else n)) :: (true, c - (if c < n then c else n)) :: (lst0 (n - (if c < n then c else n)) l).map flipR
      rw [fst0_flip l]
theorem flip_flip (l : Runs) : (l.map flipR).map flipR = l := by
  rw [List.map_map]
  have : flipR ∘ flipR = id := by
    funext r
    obtain ⟨q, c⟩ := r
    simp [flipR]
  rw [this, List.map_id]
/-- the law's way to the last right ones -/
theorem lst_mir (n : Int) (l : Runs) : ((fstR n (l.reverse.map flipR)).reverse.map flipR) = lstR n l := by
  unfold fstR lstR
  rw [fst0_flip, jn_flip, ← List.map_reverse, flip_flip, jn_reverse]
theorem fstR_good (n : Int) (l : Runs) : Good (fstR n l) := jn_good good_nil
theorem lstR_good (n : Int) (l : Runs) : Good (lstR n l) := jn_good good_nil
theorem fst0_nn : ∀ {l : Runs} {n : Int}, Ps l → 0 ≤ n → Nn (fst0 n l) ∧ amt (fst0 n l) = amt l
  | [], _, _, _ => ⟨trivial, rfl⟩
  | (q, c) :: l, n, h, hn => by
    have h1 : 1 ≤ c := h.1
    cases q with
    | true =>
      have hs : 0 ≤ (if c < n then c else n) ∧ (if c < n then c else n) ≤ c ∧ (if c < n then c else n) ≤ n := by split <;> omega
      obtain ⟨ih1, ih2⟩ := fst0_nn (n := n - (if c < n then c else n)) h.2 (by omega)
      refine ⟨⟨hs.1, by show 0 ≤ c - (if c < n then c else n); omega, ih1⟩, ?_⟩
      show (if c < n then c else n) + (c - (if c < n then c else n) + amt (fst0 (n - (if c < n then c else n)) l)) = c + amt l
      rw [ih2]
      omega
    | false =>
      obtain ⟨ih1, ih2⟩ := fst0_nn (n := n - 0) h.2 (by omega)
      refine ⟨⟨Int.le_refl _, by show 0 ≤ c - 0; omega, ih1⟩, ?_⟩
      show 0 + (c - 0 + amt (fst0 (n - 0) l)) = c + amt l
      rw [ih2]
      omega
theorem lst0_nn : ∀ {l : Runs} {n : Int}, Ps l → 0 ≤ n → Nn (lst0 n l) ∧ amt (lst0 n l) = amt l
  | [], _, _, _ => ⟨trivial, rfl⟩
  | (q, c) :: l, n, h, hn => by
    have h1 : 1 ≤ c := h.1
    cases q with
    | false =>
      have hs : 0 ≤ (if c < n then c else n) ∧ (if c < n then c else n) ≤ c ∧ (if c < n then c else n) ≤ n := by split <;> omega
      obtain ⟨ih1, ih2⟩ := lst0_nn (n := n - (if c < n then c else n)) h.2 (by omega)
      refine ⟨⟨hs.1, by show 0 ≤ c - (if c < n then c else n); omega, ih1⟩, ?_⟩
      show (if c < n then c else n) + (c - (if c < n then c else n) + amt (lst0 (n - (if c < n then c else n)) l)) = c + amt l
      rw [ih2]
      omega
    | true =>
      obtain ⟨ih1, ih2⟩ := lst0_nn (n := n - 0) h.2 (by omega)
      refine ⟨⟨Int.le_refl _, by show 0 ≤ c - 0; omega, ih1⟩, ?_⟩
      show 0 + (c - 0 + amt (lst0 (n - 0) l)) = c + amt l
      rw [ih2]
      omega
theorem fst0_zero : ∀ {l : Runs}, Ps l → ex (fst0 0 l) = ex l
  | [], _ => rfl
  | (q, c) :: l, h => by
    have h1 : 1 ≤ c := h.1
    have e : (if q then (if c < (0 : Int) then c else 0) else 0) = 0 := by
      cases q
      · rfl
      · show (if c < (0 : Int) then c else 0) = 0
        exact if_neg (by omega)
    unfold fst0
    rw [e, ex_cons, ex_cons, ex_cons, Int.sub_zero, Int.sub_zero, fst0_zero h.2]
    rfl
theorem lst0_zero : ∀ {l : Runs}, Ps l → ex (lst0 0 l) = ex l
  | [], _ => rfl
  | (q, c) :: l, h => by
    have h1 : 1 ≤ c := h.1
    have e : (if q then 0 else (if c < (0 : Int) then c else 0)) = 0 := by
      cases q
      · show (if c < (0 : Int) then c else 0) = 0
        exact if_neg (by omega)
      · rfl
    unfold lst0
    rw [e, ex_cons, ex_cons, ex_cons, Int.sub_zero, Int.sub_zero, lst0_zero h.2]
    rfl
theorem fstR_zero {l : Runs} (h : Good l) : fstR 0 l = l := ex_inj (fstR_good _ _) h (by unfold fstR; rw [ex_jn0, fst0_zero h.ps])
theorem lstR_zero {l : Runs} (h : Good l) : lstR 0 l = l := ex_inj (lstR_good _ _) h (by unfold lstR; rw [ex_jn0, ex_reverse, lst0_zero (ps_reverse h.ps), ex_reverse, List.reverse_reverse])
theorem W_zero {l : Runs} (h : Good l) : W 0 0 l = l := by unfold W; rw [lstR_zero h, fstR_zero h]
theorem fst0_len : ∀ (l : Runs) (n : Int), (fst0 n l).length = 2 * l.length
  | [], _ => rfl
  | (q, c) :: l, n => by
    unfold fst0
    simp only [List.length_cons, fst0_len l]
    omega
theorem lst0_len : ∀ (l : Runs) (n : Int), (lst0 n l).length = 2 * l.length
  | [], _ => rfl
  | (q, c) :: l, n => by
    unfold lst0
    simp only [List.length_cons, lst0_len l]
    omega
theorem jstep_le (fs : Runs) (r : Bool × Int) : (jstep fs r).length ≤ fs.length + 1 := by
  obtain ⟨q, c⟩ := r
  by_cases hc : 0 < c
  · rcases List.eq_nil_or_concat fs with rfl | ⟨gs, ⟨p, n⟩, rfl⟩
    · rw [jstep_nil hc]
      simp
    · rw [List.concat_eq_append]
      cases hpq : p == q with
      | true =>
        have e : p = q := by simpa using hpq
        subst e
        rw [jstep_eq hc]
        simp
      | false =>
        rw [jstep_ne hc hpq]
        simp
  · rw [jstep_0 hc]
    omega
theorem jn_le : ∀ {l fs : Runs}, (jn fs l).length ≤ fs.length + l.length
  | [], fs => by simp [jn]
  | r :: l, fs => by
    have h1 := jn_le (l := l) (fs := jstep fs r)
    have h2 := jstep_le fs r
    have e : jn fs (r :: l) = jn (jstep fs r) l := rfl
    rw [e, List.length_cons]
    omega
theorem fstR_len (n : Int) (l : Runs) : (fstR n l).length ≤ 2 * l.length := by
  have := jn_le (l := fst0 n l) (fs := [])
  rw [fst0_len] at this
  simpa [fstR] using this
theorem lstR_len (n : Int) (l : Runs) : (lstR n l).length ≤ 2 * l.length := by
  have := jn_le (l := (lst0 n l.reverse).reverse) (fs := [])
  rw [List.length_reverse, lst0_len, List.length_reverse] at this
  simpa [lstR] using this
end Mi

namespace Mi
/-! ### lines within reach, by numbers -/
/-- what the left ones among l count, b right ones being ahead -/
def T : Int → Runs → Int
  | _, [] => 0
  | b, (q, c) :: l => if q then c * (1 + b) + T b l else T (b - c) l
/-- the same of the first u left ones -/
def S : Int → Int → Runs → Int
  | _, _, [] => 0
  | b, u, (q, c) :: l => if q then (if c < u then c else u) * (1 + b) + S b (u - (if c < u then c else u)) l else S (b - c) u l
/-- the right ones behind the u-th left one -/
def bh : Int → Int → Runs → Int
  | b, _, [] => b
  | b, u, (q, c) :: l => if q then (if u ≤ c then b else bh b (u - c) l) else bh (b - c) u l
/-- which lines are meant -/
def pAt : Int → Int → Int → Runs → Option (Int × Int)
  | _, _, _, [] => none
  | b, r, f, (q, c) :: l => if q then (if r < c * (1 + b) then some (f + r / (1 + b) + 1, r % (1 + b)) else pAt b (r - c * (1 + b)) (f + c) l) else pAt (b - c) r f l
/-- the place of the u-th left one, o posts being ahead -/
def nthL : Int → Int → Runs → Int
  | _, _, [] => 0
  | o, u, (q, c) :: l => if q then (if 0 < u ∧ u ≤ c then o + u else nthL (o + c) (u - c) l) else nthL (o + c) u l
theorem amtL_R : ∀ l : Runs, amtL l + amtR l = amt l
  | [] => rfl
  | (q, c) :: l => by
    have := amtL_R l
    simp only [amt, amtL, amtR]
    cases q <;> simp <;> omega
theorem amtL_nn : ∀ {l : Runs}, Ps l → 0 ≤ amtL l
  | [], _ => Int.le_refl _
  | (q, c) :: l, h => by
    have := amtL_nn h.2
    have h1 : 1 ≤ c := h.1
    simp only [amtL]
    cases q <;> simp <;> omega
theorem bh_le : ∀ {l : Runs} {b u : Int}, Ps l → amtR l ≤ b → 0 ≤ bh b u l ∧ bh b u l ≤ b
  | [], b, u, _, h => by
    have h : (0 : Int) ≤ b := h
    exact ⟨h, Int.le_refl _⟩
  | (q, c) :: l, b, u, hp, h => by
    have h1 : 1 ≤ c := hp.1
    have h2 := (amtR_le hp.2).1
    cases q with
    | true =>
      have h : 0 + amtR l ≤ b := h
      show 0 ≤ (if u ≤ c then b else bh b (u - c) l) ∧ (if u ≤ c then b else bh b (u - c) l) ≤ b
      split
      · omega
      · exact bh_le hp.2 (by omega)
    | false =>
      have h : c + amtR l ≤ b := h
      show 0 ≤ bh (b - c) u l ∧ bh (b - c) u l ≤ b
      have := bh_le (u := u) (b := b - c) hp.2 (by omega)
      omega
theorem S_nn : ∀ {l : Runs} {b u : Int}, Ps l → amtR l ≤ b → 0 ≤ u → 0 ≤ S b u l
  | [], _, _, _, _, _ => Int.le_refl _
  | (q, c) :: l, b, u, hp, h, hu => by
    have h1 : 1 ≤ c := hp.1
    have h2 := (amtR_le hp.2).1
    cases q with
    | true =>
      have h : 0 + amtR l ≤ b := h
      show 0 ≤ (if c < u then c else u) * (1 + b) + S b (u - (if c < u then c else u)) l
      have hs : 0 ≤ (if c < u then c else u) ∧ (if c < u then c else u) ≤ u := by split <;> omega
      have := S_nn (u := u - (if c < u then c else u)) (b := b) hp.2 (by omega) (by omega)
      have := Int.mul_nonneg hs.1 (show 0 ≤ 1 + b by omega)
      omega
    | false =>
      have h : c + amtR l ≤ b := h
      show 0 ≤ S (b - c) u l
      exact S_nn hp.2 (by omega) hu
theorem S_zero : ∀ {l : Runs} {b : Int}, Ps l → S b 0 l = 0
  | [], _, _ => rfl
  | (q, c) :: l, b, hp => by
    have h1 : 1 ≤ c := hp.1
    cases q with
    | true =>
      show (if c < (0 : Int) then c else 0) * (1 + b) + S b (0 - (if c < (0 : Int) then c else 0)) l = 0
      rw [if_neg (by omega), Int.zero_mul, Int.sub_zero, S_zero hp.2]
      rfl
    | false => exact S_zero (l := l) (b := b - c) hp.2
/-- reading a number back -/
theorem pAt_ok : ∀ {l : Runs} {b u d f : Int}, Ps l → amtR l ≤ b → 1 ≤ u → u ≤ amtL l → 0 ≤ d → d ≤ bh b u l → pAt b (d + S b (u - 1) l) f l = some (f + u, d)
  | [], b, u, d, f, _, _, h1, h2, _, _ => by
    have h2 : u ≤ 0 := h2
    omega
  | (q, c) :: l, b, u, d, f, hp, hb, h1, h2, h3, h4 => by
    have hc : 1 ≤ c := hp.1
    have hr := (amtR_le hp.2).1
    cases q with
    | false =>
      have hb : c + amtR l ≤ b := hb
      have h2 : u ≤ 0 + amtL l := h2
      exact pAt_ok (l := l) (b := b - c) hp.2 (by omega) h1 (by omega) h3 h4
    | true =>
      have hb : 0 + amtR l ≤ b := hb
      have h2 : u ≤ c + amtL l := h2
      have h4 : d ≤ (if u ≤ c then b else bh b (u - c) l) := h4
      show (if d + ((if c < u - 1 then c else u - 1) * (1 + b) + S b (u - 1 - (if c < u - 1 then c else u - 1)) l) < c * (1 + b) then some (f + (d + ((if c < u - 1 then c else u - 1) * (1 + b) + S b (u - 1 - (if c < u - 1 then c else u - 1)) l)) / (1 + b) + 1, (d + ((if c < u - 1 then c else u - 1) * (1 + b) + S b (u - 1 - (if c < u - 1 then c else u - 1)) l)) % (1 + b)) else pAt b (d + ((if c < u - 1 then c else u - 1) * (1 + b) + S b (u - 1 - (if c < u - 1 then c else u - 1)) l) - c * (1 + b)) (f + c) l) = some (f + u, d)
      by_cases hu : u ≤ c
      · rw [if_pos hu] at h4
        rw [if_neg (show ¬ c < u - 1 by omega), Int.sub_self, S_zero hp.2, Int.add_zero]
        have k1 : (u - 1) * (1 + b) + (1 + b) ≤ c * (1 + b) := by
          have : (u - 1 + 1) * (1 + b) ≤ c * (1 + b) := Int.mul_le_mul_of_nonneg_right (by omega) (by omega)
          rw [Int.add_mul, Int.one_mul] at this
          exact this
        rw [if_pos (by omega)]
        have k2 : (d + (u - 1) * (1 + b)) / (1 + b) = u - 1 := by
          rw [Int.add_mul_ediv_right _ _ (by omega), Int.ediv_eq_zero_of_lt h3 (by omega)]
          omega
        have k3 : (d + (u - 1) * (1 + b)) % (1 + b) = d := by
          rw [Int.add_mul_emod_self_right]
          exact Int.emod_eq_of_lt h3 (by omega)
        rw [k2, k3]
        congr 2
        omega
      · rw [if_neg hu] at h4
        have e : (if c < u - 1 then c else u - 1) = c := by split <;> omega
        rw [e]
        have k1 := S_nn (l := l) (b := b) (u := u - 1 - c) hp.2 (by omega) (by omega)
        rw [if_neg (by omega)]
        have k2 : d + (c * (1 + b) + S b (u - 1 - c) l) - c * (1 + b) = d + S b (u - c - 1) l := by
          have : u - 1 - c = u - c - 1 := by omega
          rw [this]
          omega
        rw [k2, pAt_ok (l := l) (u := u - c) hp.2 (by omega) (by omega) (by omega) h3 h4]
        congr 2
        omega
theorem T_nn : ∀ {l : Runs} {b : Int}, Ps l → amtR l ≤ b → 0 ≤ T b l
  | [], _, _, _ => Int.le_refl _
  | (q, c) :: l, b, hp, h => by
    have h1 : 1 ≤ c := hp.1
    have h2 := (amtR_le hp.2).1
    cases q with
    | true =>
      have h : 0 + amtR l ≤ b := h
      show 0 ≤ c * (1 + b) + T b l
      have := T_nn (l := l) (b := b) hp.2 (by omega)
      have := Int.mul_nonneg (show 0 ≤ c by omega) (show 0 ≤ 1 + b by omega)
      omega
    | false =>
      have h : c + amtR l ≤ b := h
      exact T_nn (l := l) (b := b - c) hp.2 (by omega)
theorem T0 : ∀ {l : Runs} {b : Int}, Ps l → amtL l = 0 → T b l = 0
  | [], _, _, _ => rfl
  | (q, c) :: l, b, hp, h => by
    have hc : 1 ≤ c := hp.1
    have hl := amtL_nn hp.2
    cases q with
    | false =>
      have h : 0 + amtL l = 0 := h
      exact T0 (l := l) (b := b - c) hp.2 (by omega)
    | true =>
      have h : c + amtL l = 0 := h
      omega
theorem S_lt : ∀ {l : Runs} {b u : Int}, Ps l → amtR l ≤ b → 1 ≤ u → u ≤ amtL l → S b (u - 1) l + 1 + bh b u l ≤ T b l
  | [], b, u, _, _, h1, h2 => by
    have h2 : u ≤ 0 := h2
    omega
  | (q, c) :: l, b, u, hp, hb, h1, h2 => by
    have hc : 1 ≤ c := hp.1
    have hr := (amtR_le hp.2).1
    cases q with
    | false =>
      have hb : c + amtR l ≤ b := hb
      have h2 : u ≤ 0 + amtL l := h2
      exact S_lt (l := l) (b := b - c) hp.2 (by omega) h1 (by omega)
    | true =>
      have hb : 0 + amtR l ≤ b := hb
      have h2 : u ≤ c + amtL l := h2
      show (if c < u - 1 then c else u - 1) * (1 + b) + S b (u - 1 - (if c < u - 1 then c else u - 1)) l + 1 + (if u ≤ c then b else bh b (u - c) l) ≤ c * (1 + b) + T b l
      by_cases hu : u ≤ c
      · rw [if_neg (show ¬ c < u - 1 by omega), Int.sub_self, S_zero hp.2, if_pos hu]
        have k1 : (u - 1) * (1 + b) + (1 + b) ≤ c * (1 + b) := by
          have : (u - 1 + 1) * (1 + b) ≤ c * (1 + b) := Int.mul_le_mul_of_nonneg_right (by omega) (by omega)
          rw [Int.add_mul, Int.one_mul] at this
          exact this
        have k2 : 0 ≤ T b l := T_nn hp.2 (by omega)
        omega
      · have e : (if c < u - 1 then c else u - 1) = c := by split <;> omega
        rw [e, if_neg hu]
        have k2 : u - 1 - c = u - c - 1 := by omega
        have := S_lt (l := l) (b := b) (u := u - c) hp.2 (by omega) (by omega) (by omega)
        rw [k2]
        omega
/-- the last left one ends them -/
theorem S_last : ∀ {l : Runs} {b : Int}, Ps l → 1 ≤ amtL l → S b (amtL l - 1) l + 1 + bh b (amtL l) l = T b l
  | [], b, _, h => by
    have h : (1 : Int) ≤ 0 := h
    omega
  | (q, c) :: l, b, hp, h => by
    have hc : 1 ≤ c := hp.1
    have hl := amtL_nn hp.2
    cases q with
    | false =>
      have h : 1 ≤ 0 + amtL l := h
      have e : amtL ((false, c) :: l) = amtL l := by
        show 0 + amtL l = _
        omega
      rw [e]
      exact S_last (l := l) (b := b - c) hp.2 (by omega)
    | true =>
      have e : amtL ((true, c) :: l) = c + amtL l := rfl
      rw [e]
      show (if c < c + amtL l - 1 then c else c + amtL l - 1) * (1 + b) + S b (c + amtL l - 1 - (if c < c + amtL l - 1 then c else c + amtL l - 1)) l + 1 + (if c + amtL l ≤ c then b else bh b (c + amtL l - c) l) = c * (1 + b) + T b l
      by_cases h0 : amtL l = 0
      · rw [h0, Int.add_zero, if_neg (show ¬ c < c - 1 by omega), Int.sub_self, S_zero hp.2, if_pos (Int.le_refl c), T0 hp.2 h0]
        have : c * (1 + b) = (c - 1) * (1 + b) + (1 + b) := by
          have k : c = c - 1 + 1 := by omega
          conv => lhs; rw [k, Int.add_mul, Int.one_mul]
        omega
      · have e2 : (if c < c + amtL l - 1 then c else c + amtL l - 1) = c := by split <;> omega
        rw [e2, if_neg (by omega)]
        have k1 : c + amtL l - 1 - c = amtL l - 1 := by omega
        have k2 : c + amtL l - c = amtL l := by omega
        rw [k1, k2]
        have := S_last (l := l) (b := b) hp.2 (by omega)
        omega
/-- one left one more -/
theorem S_succ : ∀ {l : Runs} {b u : Int}, Ps l → 1 ≤ u → u ≤ amtL l → S b u l = S b (u - 1) l + 1 + bh b u l
  | [], b, u, _, h1, h2 => by
    have h2 : u ≤ 0 := h2
    omega
  | (q, c) :: l, b, u, hp, h1, h2 => by
    have hc : 1 ≤ c := hp.1
    cases q with
    | false =>
      have h2 : u ≤ 0 + amtL l := h2
      exact S_succ (l := l) (b := b - c) hp.2 h1 (by omega)
    | true =>
      have h2 : u ≤ c + amtL l := h2
      show (if c < u then c else u) * (1 + b) + S b (u - (if c < u then c else u)) l = (if c < u - 1 then c else u - 1) * (1 + b) + S b (u - 1 - (if c < u - 1 then c else u - 1)) l + 1 + (if u ≤ c then b else bh b (u - c) l)
      by_cases hu : u ≤ c
      · rw [if_neg (show ¬ c < u by omega), if_neg (show ¬ c < u - 1 by omega), if_pos hu, Int.sub_self, Int.sub_self, S_zero hp.2]
        have : u * (1 + b) = (u - 1) * (1 + b) + (1 + b) := by
          have k : u = u - 1 + 1 := by omega
          conv => lhs; rw [k, Int.add_mul, Int.one_mul]
        omega
      · have e : (if c < u - 1 then c else u - 1) = c := by split <;> omega
        have k1 : u - 1 - c = u - c - 1 := by omega
        rw [if_pos (show c < u by omega), e, if_neg hu, k1, S_succ (l := l) (u := u - c) hp.2 (by omega) (by omega)]
        omega
/-- the law's place of the u-th left one tells how many right ones lie behind -/
theorem nthL_ok : ∀ {l : Runs} {o u b : Int}, Ps l → 1 ≤ u → u ≤ amtL l → nthL o u l = o + u + (b - bh b u l)
  | [], o, u, b, _, h1, h2 => by
    have h2 : u ≤ 0 := h2
    omega
  | (q, c) :: l, o, u, b, hp, h1, h2 => by
    have hc : 1 ≤ c := hp.1
    cases q with
    | false =>
      have h2 : u ≤ 0 + amtL l := h2
      show nthL (o + c) u l = o + u + (b - bh (b - c) u l)
      rw [nthL_ok (l := l) (b := b - c) hp.2 h1 (by omega)]
      omega
    | true =>
      have h2 : u ≤ c + amtL l := h2
      show (if 0 < u ∧ u ≤ c then o + u else nthL (o + c) (u - c) l) = o + u + (b - (if u ≤ c then b else bh b (u - c) l))
      by_cases hu : u ≤ c
      · rw [if_pos ⟨by omega, hu⟩, if_pos hu]
        omega
      · rw [if_neg (by omega), if_neg hu, nthL_ok (l := l) (b := b) (u := u - c) hp.2 (by omega) (by omega)]
        omega
theorem nthL_zero : ∀ {l : Runs} {o u : Int}, Ps l → u ≤ 0 → nthL o u l = 0
  | [], _, _, _, _ => rfl
  | (q, c) :: l, o, u, hp, hu => by
    have hc : 1 ≤ c := hp.1
    cases q with
    | false => exact nthL_zero (l := l) (o := o + c) hp.2 hu
    | true =>
      show (if 0 < u ∧ u ≤ c then o + u else nthL (o + c) (u - c) l) = 0
      rw [if_neg (by omega)]
      exact nthL_zero hp.2 (by omega)
/-- the right ones behind the u-th left one, all of them at 0 -/
def bhd (u : Int) (l : Runs) : Int := amtR l - (nthL 0 u l - u)
theorem bhd_0 {l : Runs} (h : Ps l) : bhd 0 l = amtR l := by
  unfold bhd
  rw [nthL_zero h (Int.le_refl _)]
  omega
theorem bhd_u {l : Runs} (h : Ps l) {u : Int} (h1 : 1 ≤ u) (h2 : u ≤ amtL l) : bhd u l = bh (amtR l) u l := by
  unfold bhd
  rw [nthL_ok (b := amtR l) h h1 h2]
  omega
/-- the number of a line -/
def numb (u d : Int) (l : Runs) : Int := if 0 < u then d + 1 + amtR l + S (amtR l) (u - 1) l else d
/-- the line with a number -/
def nthR (k : Int) (l : Runs) : Option Runs := if k ≤ amtR l then some (W 0 k l) else (pAt (amtR l) (k - amtR l - 1) 0 l).map fun p => W p.1 p.2 l
def tot (l : Runs) : Int := 1 + amtR l + T (amtR l) l
theorem numb_ok {l : Runs} (h : Ps l) {u d : Int} (h1 : 0 ≤ u) (h2 : u ≤ amtL l) (h3 : 0 ≤ d) (h4 : d ≤ bhd u l) : nthR (numb u d l) l = some (W u d l) ∧ 0 ≤ numb u d l ∧ numb u d l < tot l := by
  have hr := (amtR_le h).1
  unfold nthR numb tot
  by_cases hu : 0 < u
  · rw [if_pos hu]
    rw [bhd_u h (by omega) h2] at h4
    have k1 := S_nn (b := amtR l) (u := u - 1) h (Int.le_refl _) (by omega)
    have k2 := S_lt (b := amtR l) (u := u) h (Int.le_refl _) (by omega) h2
    rw [if_neg (by omega)]
    have e : d + 1 + amtR l + S (amtR l) (u - 1) l - amtR l - 1 = d + S (amtR l) (u - 1) l := by omega
    rw [e, pAt_ok h (Int.le_refl _) (by omega) h2 h3 h4]
    refine ⟨?_, by omega, by omega⟩
    show some (W (0 + u) d l) = _
    rw [Int.zero_add]
  · have : u = 0 := by omega
    subst this
    rw [bhd_0 h] at h4
    rw [if_neg hu, if_pos h4]
    have k2 := T_nn (b := amtR l) h (Int.le_refl _)
    exact ⟨rfl, h3, by omega⟩
theorem numb_last {l : Runs} (h : Ps l) : numb (amtL l) (bhd (amtL l) l) l = tot l - 1 ∧ 0 ≤ bhd (amtL l) l := by
  have hl := amtL_nn h
  have hr := (amtR_le h).1
  unfold numb tot
  by_cases h0 : 0 < amtL l
  · rw [if_pos h0, bhd_u h (by omega) (Int.le_refl _)]
    have := S_last (b := amtR l) h (by omega)
    have := bh_le (b := amtR l) (u := amtL l) h (Int.le_refl _)
    omega
  · have e : amtL l = 0 := by omega
    rw [if_neg h0, e, bhd_0 h, T0 h e]
    omega
end Mi

namespace Mi
open PySem PySem.Spec PyProof.Rows L2
/-! ### places by side -/
/-- the place of the i-th post of a side, o posts being ahead -/
def posQ (q : Bool) : Int → Int → Runs → Option Int
  | _, _, [] => none
  | o, i, (r, c) :: l => if r = q then (if i < c then some (o + 1 + i) else posQ q (o + c) (i - c) l) else posQ q (o + c) i l
/-- the runs of a side: how many of the side are ahead, the first place, how many -/
def rws (q : Bool) : Int → Int → Runs → List (Int × Int × Int)
  | _, _, [] => []
  | o, b, (r, c) :: l => if r = q then (b, o + 1, c) :: rws q (o + c) (b + c) l else rws q (o + c) b l
/-- what is due for a number -/
def duL (n : Int) : List (Int × Int × Int) → List Int
  | [] => []
  | (b, f, c) :: l => if b ≤ n ∧ n < b + c then (f + n - b) :: duL n l else duL n l
theorem du_low (q : Bool) (n : Int) : ∀ {l : Runs} {o b : Int}, Ps l → n < b → duL n (rws q o b l) = []
  | [], _, _, _, _ => rfl
  | (r, c) :: l, o, b, hp, h => by
    have hc : 1 ≤ c := hp.1
    unfold rws
    by_cases hr : r = q
    · rw [if_pos hr]
      unfold duL
      rw [if_neg (by omega)]
      exact du_low q n hp.2 (by omega)
    · rw [if_neg hr]
      exact du_low q n hp.2 h
theorem du_pos (q : Bool) (n : Int) : ∀ {l : Runs} {o b : Int}, Ps l → b ≤ n → duL n (rws q o b l) = (posQ q o (n - b) l).toList
  | [], _, _, _, _ => rfl
  | (r, c) :: l, o, b, hp, h => by
    have hc : 1 ≤ c := hp.1
    unfold rws posQ
    by_cases hr : r = q
    · rw [if_pos hr, if_pos hr]
      unfold duL
      by_cases hn : n - b < c
      · rw [if_pos (by omega), if_pos hn, du_low q n hp.2 (by omega)]
        show [o + 1 + n - b] = [o + 1 + (n - b)]
        congr 1
        omega
      · rw [if_neg (by omega), if_neg hn, du_pos q n hp.2 (by omega)]
        congr 2
        omega
    · rw [if_neg hr, if_neg hr]
      exact du_pos q n hp.2 h
theorem posQ_at (q : Bool) : ∀ {l : Runs} {o i p : Int}, Ps l → 0 ≤ i → posQ q o i l = some p → o < p ∧ p ≤ o + amt l ∧ sideAt p o l = some q
  | [], _, _, _, _, _, h => by cases h
  | (r, c) :: l, o, i, p, hp, hi, h => by
    have hc : 1 ≤ c := hp.1
    have ha := amt_nn hp.2
    unfold posQ at h
    show o < p ∧ p ≤ o + (c + amt l) ∧ (if p ≤ o + c then some r else sideAt p (o + c) l) = some q
    by_cases hr : r = q
    · rw [if_pos hr] at h
      by_cases hn : i < c
      · rw [if_pos hn] at h
        have := Option.some.inj h
        refine ⟨by omega, by omega, ?_⟩
        rw [if_pos (by omega), hr]
      · rw [if_neg hn] at h
        obtain ⟨h1, h2, h3⟩ := posQ_at q hp.2 (by omega) h
        refine ⟨by omega, by omega, ?_⟩
        rw [if_neg (by omega)]
        exact h3
    · rw [if_neg hr] at h
      obtain ⟨h1, h2, h3⟩ := posQ_at q hp.2 hi h
      refine ⟨by omega, by omega, ?_⟩
      rw [if_neg (by omega)]
      exact h3
theorem posQ_front (q : Bool) : ∀ {a l l' : Runs}, Ps a → (∀ o i : Int, 0 ≤ i → posQ q o i l = posQ q o i l') → ∀ {o i : Int}, 0 ≤ i → posQ q o i (a ++ l) = posQ q o i (a ++ l')
  | [], _, _, _, h, o, i, hi => h o i hi
  | (r, c) :: a, l, l', hp, h, o, i, hi => by
    simp only [List.cons_append, posQ]
    rw [posQ_front q hp.2 h hi]
    by_cases hn : i < c
    · rw [if_pos hn, if_pos hn]
    · rw [posQ_front q hp.2 h (show 0 ≤ i - c by omega)]
theorem posQ_merge (q p : Bool) {n c : Int} {l : Runs} {o i : Int} (hn : 1 ≤ n) (hc : 1 ≤ c) (hi : 0 ≤ i) : posQ q o i ((p, n) :: (p, c) :: l) = posQ q o i ((p, n + c) :: l) := by
  have e1 : o + n + c = o + (n + c) := by omega
  have e2 : i - n - c = i - (n + c) := by omega
  simp only [posQ, e1, e2]
  by_cases hp : p = q
  · simp only [hp, if_true]
    by_cases h1 : i < n
    · rw [if_pos h1, if_pos (by omega)]
    · rw [if_neg h1]
      by_cases h2 : i - n < c
      · rw [if_pos h2, if_pos (by omega)]
        congr 1
        omega
      · rw [if_neg h2, if_neg (by omega)]
  · simp only [if_neg hp]
theorem posQ_jstep (q p : Bool) {fs : Runs} {c : Int} (hf : Ps fs) (hc : 1 ≤ c) {l : Runs} {o i : Int} (hi : 0 ≤ i) : posQ q o i (jstep fs (p, c) ++ l) = posQ q o i (fs ++ (p, c) :: l) := by
  rcases List.eq_nil_or_concat fs with rfl | ⟨gs, ⟨p', n⟩, rfl⟩
  · rw [jstep_nil (by omega)]
    rfl
  · rw [List.concat_eq_append] at hf ⊢
    have hf' := ps_append.mp hf
    cases hpq : p' == p with
    | true =>
      have e : p' = p := by simpa using hpq
      subst e
      rw [jstep_eq (by omega), List.append_assoc, List.append_assoc]
      exact posQ_front q hf'.1 (fun o i hi => (posQ_merge q p' hf'.2.1 hc hi).symm) hi
    | false =>
      rw [jstep_ne (by omega) hpq, List.append_assoc, List.append_assoc, List.append_assoc]
      rfl
theorem posQ_jn (q : Bool) : ∀ {l fs : Runs}, Good fs → Ps l → ∀ {o i : Int}, 0 ≤ i → posQ q o i (jn fs l) = posQ q o i (fs ++ l)
  | [], fs, _, _, o, i, _ => by rw [List.append_nil]; rfl
  | (p, c) :: l, fs, hg, h, o, i, hi => by
    have e : jn fs ((p, c) :: l) = jn (jstep fs (p, c)) l := rfl
    rw [e, posQ_jn q (jstep_good hg) h.2 hi]
    exact posQ_jstep q p hg.ps h.1 hi
theorem ones_ps : ∀ s : List Bool, Ps (ones s)
  | [] => trivial
  | _ :: s => ⟨Int.le_refl _, ones_ps s⟩
/-- the places of a side -/
def spQ (q : Bool) : Nat → List Bool → List Int
  | _, [] => []
  | k, p :: s => if p = q then ((k : Int) + 1) :: spQ q (k + 1) s else spQ q (k + 1) s
theorem ones_pos (q : Bool) : ∀ (s : List Bool) (k i : Nat), posQ q (k : Nat) (i : Nat) (ones s) = (spQ q k s)[i]?
  | [], _, _ => rfl
  | p :: s, k, i => by
    have e : (k : Int) + 1 = ((k + 1 : Nat) : Int) := by omega
    show (if p = q then (if (i : Int) < 1 then some ((k : Int) + 1 + (i : Nat)) else posQ q ((k : Int) + 1) ((i : Int) - 1) (ones s)) else posQ q ((k : Int) + 1) (i : Nat) (ones s)) = _
    unfold spQ
    by_cases hp : p = q
    · rw [if_pos hp, if_pos hp]
      cases i with
      | zero =>
        rw [if_pos (by decide)]
        simp
      | succ i =>
        rw [if_neg (by omega), e]
        have e2 : ((i + 1 : Nat) : Int) - 1 = (i : Nat) := by omega
        rw [e2, ones_pos q s (k + 1) i]
        rfl
    · rw [if_neg hp, if_neg hp, e, ones_pos q s (k + 1) i]
theorem pk_pos (q : Bool) (s : List Bool) (i : Nat) : posQ q 0 (i : Nat) (pk s) = (spQ q 0 s)[i]? := by
  have h := posQ_jn q (i := (i : Int)) good_nil (ones_ps s) (o := 0) (by omega)
  rw [List.nil_append] at h
  have h2 := ones_pos q s 0 i
  exact h.trans h2
theorem spQ_len (q : Bool) : ∀ (s : List Bool) (k : Nat), (spQ q k s).length = s.count q
  | [], _ => rfl
  | p :: s, k => by
    unfold spQ
    rw [List.count_cons]
    by_cases hp : p = q
    · subst hp
      rw [if_pos rfl, List.length_cons, spQ_len p s]
      simp
    · rw [if_neg hp, spQ_len q s]
      have : (p == q) = false := by simpa using hp
      rw [this]
      rfl
def rngI : Int → Nat → List Int
  | _, 0 => []
  | k, n + 1 => k :: rngI (k + 1) n
theorem rngI_low : ∀ (n : Nat) (k : Int), ∀ y ∈ rngI k n, k ≤ y
  | 0, _, y, h => by cases h
  | n + 1, k, y, h => by
    rcases List.mem_cons.mp h with rfl | h
    · exact Int.le_refl _
    · have := rngI_low n (k + 1) y h
      omega
theorem rngI_pw : ∀ (n : Nat) (k : Int), (rngI k n).Pairwise (· ≤ ·)
  | 0, _ => List.Pairwise.nil
  | n + 1, k => List.pairwise_cons.mpr ⟨fun y hy => by have := rngI_low n (k + 1) y hy; omega, rngI_pw n (k + 1)⟩
theorem rngI_L : ∀ (n : Nat) (k : Int), rangeL k n = (rngI k n).map .int
  | 0, _ => rfl
  | n + 1, k => by
    rw [rangeL_succ, rngI_L n (k + 1)]
    rfl
theorem sp_perm : ∀ (s : List Bool) (k : Nat), (spQ true k s ++ spQ false k s).Perm (rngI ((k : Int) + 1) s.length)
  | [], _ => List.Perm.refl _
  | p :: s, k => by
    have ih := sp_perm s (k + 1)
    have e : ((k + 1 : Nat) : Int) + 1 = (k : Int) + 1 + 1 := by omega
    rw [e] at ih
    show (spQ true k (p :: s) ++ spQ false k (p :: s)).Perm (((k : Int) + 1) :: rngI ((k : Int) + 1 + 1) s.length)
    cases p with
    | true =>
      have e1 : spQ true k (true :: s) = ((k : Int) + 1) :: spQ true (k + 1) s := rfl
      have e2 : spQ false k (true :: s) = spQ false (k + 1) s := rfl
      rw [e1, e2]
      exact ih.cons _
    | false =>
      have e1 : spQ true k (false :: s) = spQ true (k + 1) s := rfl
      have e2 : spQ false k (false :: s) = ((k : Int) + 1) :: spQ false (k + 1) s := rfl
      rw [e1, e2]
      exact List.perm_middle.trans (ih.cons _)
theorem sort_sp (s : List Bool) : sortI (spQ true 0 s ++ spQ false 0 s) = rngI 1 s.length :=
  sorted_uniq ((sortI_perm _).trans (sp_perm s 0)) (sortI_pw _) (rngI_pw _ _)
/-! ### data -/
def optD : Option Int → D
  | some p => .int p
  | none => .non
theorem ne_opt (x : Option Int) : neD (optD x) (optD x) = some (.fz (.bl false)) := by
  cases x with
  | none => kernel_rfl
  | some p => show neD (.int p) (.int p) = _; rw [op_ne_i, decide_eq_true rfl]; rfl
theorem eq_flat : ∀ {xs : List D}, (∀ x ∈ xs, D.eq x x = true) → D.eq (.lst xs) (.lst xs) = true
  | [], _ => rfl
  | x :: xs, h => by
    have ih := eq_flat fun y hy => h y (List.mem_cons_of_mem _ hy)
    have e : D.eq (.lst (x :: xs)) (.lst (x :: xs)) = (D.eq x x && D.eq (.lst xs) (.lst xs)) := rfl
    rw [e, ih, h x (List.mem_cons_self ..)]
    rfl
theorem flt_opt {k : Nat} (x : Option Int) : Flt k (optD x) := by
  cases x with
  | none => exact ⟨rfl, Nat.zero_le _⟩
  | some p => exact flt_int
theorem eq_opt (x : Option Int) : D.eq (optD x) (optD x) = true := by
  cases x with
  | none => rfl
  | some p => show (p == p) = true; exact beq_self_eq_true p
theorem ne_opts (xs : List (Option Int)) : neD (.lst (xs.map optD)) (.lst (xs.map optD)) = some (.fz (.bl false)) := by
  unfold neD
  have h1 : D.sh (.lst (xs.map optD)) = true := sh_flt (k := 1) (flt_lst fun x hx => by
    obtain ⟨y, _, rfl⟩ := List.mem_map.mp hx
    exact flt_opt y) (by decide)
  have h2 : D.eq (.lst (xs.map optD)) (.lst (xs.map optD)) = true := eq_flat fun x hx => by
    obtain ⟨y, _, rfl⟩ := List.mem_map.mp hx
    exact eq_opt y
  rw [h1, h2]
  rfl
theorem eqD_ints (l : List Int) : eqD (.lst (l.map .int)) (.lst (l.map .int)) = some (.fz (.bl true)) := by
  unfold eqD
  rw [sh_ints, eq_ints]
  rfl
theorem strs_sds : ∀ s : List Bool, strsOf (s.map sdD) = some (s.map sideS)
  | [] => rfl
  | q :: s => by
    show (strsOf (s.map sdD)).map (fun l => sideS q :: l) = _
    rw [strs_sds s]
    rfl
theorem count_side (q : Bool) : ∀ s : List Bool, (s.map sideS).count (sideS q) = s.count q
  | [] => rfl
  | p :: s => by
    rw [List.map_cons, List.count_cons, List.count_cons, count_side q s, side_eq]
theorem cnt_sds (s : List Bool) (q : Bool) : cntD (.lst (s.map sdD)) (.str (sideS q)) = some (.fz (.int (s.count q : Nat))) := by
  show (strsOf (s.map sdD)).map (fun l => okI (l.count (sideS q) : Nat)) = _
  rw [strs_sds]
  show some (okI ((s.map sideS).count (sideS q) : Nat)) = _
  rw [count_side]
  rfl
theorem it_LR : D.iter (.str "LR") = some [.str (sideS true), .str (sideS false)] := by kernel_rfl
theorem sort_ints (l : List Int) : sortD [.lst (l.map .int)] = some (.ow ((sortI l).map .int)) := by
  show (intsOf (l.map .int)).map (fun l => Sl.ow ((sortI l).map .int)) = _
  rw [ints_map]
  rfl
end Mi

namespace Mi
/-! ### one block of a crowd -/
def sett (n r : Int) : Runs := (if 0 < r then [(false, r)] else []) ++ (if 0 < n - r then [(true, n - r)] else [])
theorem sett_jn (n r : Int) : jn [] [(false, r), (true, n - r)] = sett n r := by
  show jstep (jstep [] (false, r)) (true, n - r) = sett n r
  unfold sett
  by_cases h1 : 0 < r
  · rw [jstep_nil h1, if_pos h1]
    by_cases h2 : 0 < n - r
    · have := jstep_ne (gs := []) (p := false) (q := true) (n := r) h2 rfl
      rw [List.nil_append] at this
      rw [this, if_pos h2]
    · rw [jstep_0 h2, if_neg h2]
      rfl
  · rw [jstep_0 h1, if_neg h1]
    by_cases h2 : 0 < n - r
    · rw [jstep_nil h2, if_pos h2]
      rfl
    · rw [jstep_0 h2, if_neg h2]
      rfl
theorem sett_good (n r : Int) : Good (sett n r) := by
  rw [← sett_jn]
  exact jn_good good_nil
theorem sett_ex (n r : Int) : ex (sett n r) = List.replicate r.toNat false ++ List.replicate (n - r).toNat true := by
  rw [← sett_jn, ex_jn0, ex_cons, ex_cons, ex_nil, List.append_nil]
def mirR (l : Runs) : Runs := l.reverse.map flipR
theorem mir_cons (r : Bool × Int) (l : Runs) : mirR (r :: l) = mirR l ++ [flipR r] := by
  unfold mirR
  rw [List.reverse_cons, List.map_append]
  rfl
theorem amtL_append : ∀ (a b : Runs), amtL (a ++ b) = amtL a + amtL b
  | [], b => by simp [amtL]
  | r :: a, b => by
    simp only [List.cons_append, amtL, amtL_append a b]
    omega
theorem mir_amt : ∀ l : Runs, amt (mirR l) = amt l ∧ amtL (mirR l) = amtR l
  | [] => ⟨rfl, rfl⟩
  | (q, c) :: l => by
    obtain ⟨h1, h2⟩ := mir_amt l
    rw [mir_cons, amt_append, amtL_append, h1, h2]
    constructor
    · show amt l + (c + 0) = c + amt l
      omega
    · cases q with
      | true =>
        show amtR l + (0 + 0) = 0 + amtR l
        omega
      | false =>
        show amtR l + (c + 0) = c + amtR l
        omega
theorem mir_ps {l : Runs} (h : Ps l) : Ps (mirR l) := ps_flip (ps_reverse h)
theorem nthL_append : ∀ {a b : Runs} {o u : Int}, Ps a → 0 < u → nthL o u (a ++ b) = if u ≤ amtL a then nthL o u a else nthL (o + amt a) (u - amtL a) b
  | [], b, o, u, _, hu => by
    show nthL o u b = if u ≤ 0 then nthL o u [] else nthL (o + 0) (u - 0) b
    rw [if_neg (by omega), Int.add_zero, Int.sub_zero]
  | (q, c) :: a, b, o, u, hp, hu => by
    have hc : 1 ≤ c := hp.1
    have ha := amtL_nn hp.2
    cases q with
    | true =>
      show (if 0 < u ∧ u ≤ c then o + u else nthL (o + c) (u - c) (a ++ b)) = if u ≤ c + amtL a then (if 0 < u ∧ u ≤ c then o + u else nthL (o + c) (u - c) a) else nthL (o + (c + amt a)) (u - (c + amtL a)) b
      by_cases h1 : u ≤ c
      · rw [if_pos ⟨hu, h1⟩, if_pos (by omega), if_pos ⟨hu, h1⟩]
      · have hn : ¬ (0 < u ∧ u ≤ c) := by omega
        rw [if_neg hn, if_neg hn, nthL_append hp.2 (show 0 < u - c by omega)]
        by_cases h2 : u - c ≤ amtL a
        · rw [if_pos h2, if_pos (show u ≤ c + amtL a by omega)]
        · rw [if_neg h2, if_neg (show ¬ u ≤ c + amtL a by omega)]
          have e1 : o + c + amt a = o + (c + amt a) := by omega
          have e2 : u - c - amtL a = u - (c + amtL a) := by omega
          rw [e1, e2]
    | false =>
      show nthL (o + c) u (a ++ b) = if u ≤ 0 + amtL a then nthL (o + c) u a else nthL (o + (c + amt a)) (u - (0 + amtL a)) b
      rw [nthL_append hp.2 hu]
      by_cases h2 : u ≤ amtL a
      · rw [if_pos h2, if_pos (by omega)]
      · rw [if_neg h2, if_neg (by omega)]
        have e1 : o + c + amt a = o + (c + amt a) := by omega
        have e2 : u - amtL a = u - (0 + amtL a) := by omega
        rw [e1, e2]
/-- the program's place of the u-th left one is the law's -/
theorem posL_nth : ∀ {l : Runs} {o u : Int}, Ps l → 1 ≤ u → u ≤ amtL l → posQ true o (u - 1) l = some (nthL o u l)
  | [], o, u, _, h1, h2 => by
    have h2 : u ≤ 0 := h2
    omega
  | (q, c) :: l, o, u, hp, h1, h2 => by
    have hc : 1 ≤ c := hp.1
    cases q with
    | true =>
      have h2 : u ≤ c + amtL l := h2
      show (if u - 1 < c then some (o + 1 + (u - 1)) else posQ true (o + c) (u - 1 - c) l) = some (if 0 < u ∧ u ≤ c then o + u else nthL (o + c) (u - c) l)
      by_cases h3 : u ≤ c
      · rw [if_pos (by omega), if_pos ⟨by omega, h3⟩]
        congr 1
        omega
      · rw [if_neg (by omega), if_neg (by omega)]
        have e : u - 1 - c = u - c - 1 := by omega
        rw [e]
        exact posL_nth hp.2 (by omega) (by omega)
    | false =>
      have h2 : u ≤ 0 + amtL l := h2
      exact posL_nth (l := l) (o := o + c) hp.2 h1 (by omega)
/-- and of the d-th right one from the right -/
theorem posR_mir : ∀ {l : Runs} {o d : Int}, Ps l → 1 ≤ d → d ≤ amtR l → posQ false o (amtR l - d) l = some (o + amt l + 1 - nthL 0 d (mirR l))
  | [], o, d, _, h1, h2 => by
    have h2 : d ≤ 0 := h2
    omega
  | (q, c) :: l, o, d, hp, h1, h2 => by
    have hc : 1 ≤ c := hp.1
    obtain ⟨m1, m2⟩ := mir_amt l
    have ea := nthL_append (a := mirR l) (b := [flipR (q, c)]) (o := 0) (u := d) (mir_ps hp.2) (by omega)
    rw [m1, m2] at ea
    rw [mir_cons, ea]
    cases q with
    | true =>
      have h2 : d ≤ 0 + amtR l := h2
      rw [if_pos (by omega)]
      show posQ false (o + c) (0 + amtR l - d) l = some (o + (c + amt l) + 1 - nthL 0 d (mirR l))
      have e1 : 0 + amtR l - d = amtR l - d := by omega
      rw [e1, posR_mir (l := l) hp.2 h1 (by omega)]
      congr 1
      omega
    | false =>
      have h2 : d ≤ c + amtR l := h2
      show (if c + amtR l - d < c then some (o + 1 + (c + amtR l - d)) else posQ false (o + c) (c + amtR l - d - c) l) = _
      by_cases h3 : d ≤ amtR l
      · rw [if_neg (by omega), if_pos h3]
        have e1 : c + amtR l - d - c = amtR l - d := by omega
        rw [e1, posR_mir (l := l) hp.2 h1 h3]
        show some _ = some (o + (c + amt l) + 1 - nthL 0 d (mirR l))
        congr 1
        omega
      · rw [if_pos (by omega), if_neg h3]
        show some _ = some (o + (c + amt l) + 1 - (if 0 < d - amtR l ∧ d - amtR l ≤ c then 0 + amt l + (d - amtR l) else _))
        rw [if_pos ⟨by omega, by omega⟩]
        congr 1
        omega
def lowP (u : Int) (l : Runs) : Int := nthL 0 u l
def highP (d : Int) (l : Runs) : Int := amt l + 1 - nthL 0 d (mirR l)
/-- the row after a block that swings u and d -/
def blkR (u d : Int) (l : Runs) : Runs := if u ≤ amtL l ∧ d ≤ amtR l ∧ lowP u l < highP d l then W u d l else sett (amt l) (amtR l + u - d)
theorem low_0 {l : Runs} (h : Ps l) : lowP 0 l = 0 := nthL_zero h (Int.le_refl _)
theorem high_0 {l : Runs} (h : Ps l) : highP 0 l = amt l + 1 := by
  unfold highP
  rw [nthL_zero (mir_ps h) (Int.le_refl _)]
  omega
theorem low_high_ne {l : Runs} (h : Ps l) {u d : Int} (hu : 0 ≤ u) (hu2 : u ≤ amtL l) (hd : 0 ≤ d) (hd2 : d ≤ amtR l) : lowP u l ≠ highP d l := by
  have ha := amt_nn h
  by_cases h1 : 1 ≤ u
  · obtain ⟨p1, p2, p3⟩ := posQ_at true h (by omega) (posL_nth (o := 0) h h1 hu2)
    by_cases h2 : 1 ≤ d
    · obtain ⟨r1, r2, r3⟩ := posQ_at false h (by omega) (posR_mir (o := 0) h h2 hd2)
      intro e
      have e2 : nthL 0 u l = 0 + amt l + 1 - nthL 0 d (mirR l) := by
        have e : nthL 0 u l = amt l + 1 - nthL 0 d (mirR l) := e
        omega
      rw [← e2, p3] at r3
      cases r3
    · have : d = 0 := by omega
      subst this
      rw [high_0 h]
      have e : lowP u l = nthL 0 u l := rfl
      omega
  · have : u = 0 := by omega
    subst this
    rw [low_0 h]
    by_cases h2 : 1 ≤ d
    · obtain ⟨r1, r2, r3⟩ := posQ_at false h (by omega) (posR_mir (o := 0) h h2 hd2)
      have e : highP d l = amt l + 1 - nthL 0 d (mirR l) := rfl
      omega
    · have : d = 0 := by omega
      subst this
      rw [high_0 h]
      omega
/-! ### settled rows -/
def calm (l : Runs) : Bool := match l with
  | [_] => true
  | [r, _] => !r.1
  | _ => false
theorem calm_sett {l : Runs} (h : Good l) (hc : calm l = true) : l = sett (amt l) (amtR l) ∧ 1 ≤ amt l := by
  match l, hc with
  | [(q, c)], _ =>
    have h1 : 1 ≤ c := h.ps.1
    refine ⟨?_, by show 1 ≤ c + 0; omega⟩
    cases q with
    | true =>
      show [(true, c)] = sett (c + 0) (0 + 0)
      unfold sett
      rw [if_neg (by omega), if_pos (by omega)]
      show [(true, c)] = [(true, c + 0 - (0 + 0))]
      congr 2
      omega
    | false =>
      show [(false, c)] = sett (c + 0) (c + 0)
      unfold sett
      rw [if_pos (by omega), if_neg (by omega)]
      show [(false, c)] = [(false, c + 0)]
      rw [Int.add_zero]
  | [(false, c), (q, d)], _ =>
    have h1 : 1 ≤ c := h.ps.1
    have h2 : 1 ≤ d := h.ps.2.1
    have hq : q = true := by
      have := h.al.1
      cases q with
      | true => rfl
      | false => exact absurd rfl this
    subst hq
    refine ⟨?_, by show 1 ≤ c + (d + 0); omega⟩
    show [(false, c), (true, d)] = sett (c + (d + 0)) (c + (0 + 0))
    unfold sett
    rw [if_pos (by omega), if_pos (by omega)]
    show [(false, c), (true, d)] = [(false, c + (0 + 0)), (true, c + (d + 0) - (c + (0 + 0)))]
    congr 3 <;> omega
theorem sett_calm {n r : Int} (hn : 1 ≤ n) (h0 : 0 ≤ r) (h1 : r ≤ n) : calm (sett n r) = true := by
  unfold sett
  by_cases h2 : 0 < r
  · rw [if_pos h2]
    by_cases h3 : 0 < n - r
    · rw [if_pos h3]
      rfl
    · rw [if_neg h3]
      rfl
  · rw [if_neg h2, if_pos (by omega)]
    rfl
end Mi

namespace Mi
/-! ### rows by the number of left ones among the first k: blocks after one another -/
def cl (k c : Int) : Int := if k ≤ 0 then 0 else if k < c then k else c
def fl : Int → Runs → Int
  | _, [] => 0
  | k, (q, c) :: l => (if q then cl k c else 0) + fl (k - c) l
def fr : Int → Runs → Int
  | _, [] => 0
  | k, (q, c) :: l => (if q then 0 else cl k c) + fr (k - c) l
theorem cl_b {k c : Int} (hc : 0 ≤ c) : 0 ≤ cl k c ∧ cl k c ≤ c ∧ (k ≤ 0 → cl k c = 0) ∧ (0 ≤ k → cl k c ≤ k) ∧ (c ≤ k → cl k c = c) ∧ (0 ≤ k → k ≤ c → cl k c = k) := by
  unfold cl
  split
  · omega
  · split <;> omega
theorem fl_low : ∀ {l : Runs} {k : Int}, Nn l → k ≤ 0 → fl k l = 0
  | [], _, _, _ => rfl
  | (q, c) :: l, k, h, hk => by
    have hc : 0 ≤ c := h.1
    have h1 := cl_b (k := k) hc
    show (if q then cl k c else 0) + fl (k - c) l = 0
    rw [fl_low h.2 (by omega)]
    cases q
    · rfl
    · show cl k c + 0 = 0
      omega
theorem fl_b : ∀ {l : Runs} {k : Int}, Nn l → 0 ≤ fl k l ∧ fl k l ≤ amtL l ∧ (amt l ≤ k → fl k l = amtL l) ∧ 0 ≤ amt l
  | [], _, _ => by simp [fl, amtL, amt]
  | (q, c) :: l, k, h => by
    have hc : 0 ≤ c := h.1
    have h1 := cl_b (k := k) hc
    have ih := fl_b (k := k - c) h.2
    cases q with
    | false =>
      show 0 ≤ 0 + fl (k - c) l ∧ 0 + fl (k - c) l ≤ 0 + amtL l ∧ (c + amt l ≤ k → 0 + fl (k - c) l = 0 + amtL l) ∧ 0 ≤ c + amt l
      refine ⟨by omega, by omega, fun z => ?_, by omega⟩
      rw [ih.2.2.1 (by omega)]
    | true =>
      show 0 ≤ cl k c + fl (k - c) l ∧ cl k c + fl (k - c) l ≤ c + amtL l ∧ (c + amt l ≤ k → cl k c + fl (k - c) l = c + amtL l) ∧ 0 ≤ c + amt l
      refine ⟨by omega, by omega, fun z => ?_, by omega⟩
      rw [ih.2.2.1 (by omega), h1.2.2.2.2.1 (by omega)]
theorem fl_fr : ∀ {l : Runs} {k : Int}, Nn l → fl k l + fr k l = cl k (amt l)
  | [], k, _ => by
    show (0 : Int) + 0 = cl k 0
    unfold cl
    split
    · rfl
    · split <;> omega
  | (q, c) :: l, k, h => by
    have hc : 0 ≤ c := h.1
    have ih := fl_fr (k := k - c) h.2
    have ha := (fl_b (k := 0) h.2).2.2.2
    have e : cl k c + cl (k - c) (amt l) = cl k (c + amt l) := by
      unfold cl
      repeat' split
      all_goals omega
    show (if q then cl k c else 0) + fl (k - c) l + ((if q then 0 else cl k c) + fr (k - c) l) = cl k (c + amt l)
    rw [← e, ← ih]
    cases q
    · show 0 + fl (k - c) l + (cl k c + fr (k - c) l) = _
      omega
    · show cl k c + fl (k - c) l + (0 + fr (k - c) l) = _
      omega
theorem fr_k {l : Runs} {k : Int} (h : Nn l) (h0 : 0 ≤ k) (h1 : k ≤ amt l) : fr k l = k - fl k l := by
  have := fl_fr (k := k) h
  rw [(cl_b (k := k) (fl_b (k := 0) h).2.2.2).2.2.2.2.2 h0 h1] at this
  omega
theorem fl_append : ∀ (a b : Runs) (k : Int), fl k (a ++ b) = fl k a + fl (k - amt a) b
  | [], b, k => by
    show fl k b = 0 + fl (k - 0) b
    rw [Int.sub_zero, Int.zero_add]
  | (q, c) :: a, b, k => by
    show (if q then cl k c else 0) + fl (k - c) (a ++ b) = (if q then cl k c else 0) + fl (k - c) a + fl (k - (c + amt a)) b
    rw [fl_append a b, Int.sub_sub]
    omega
theorem fl_mir : ∀ {l : Runs} {k : Int}, Nn l → fl k (mirR l) + fr (amt l - k) l = amtR l
  | [], _, _ => rfl
  | (q, c) :: l, k, h => by
    have hc : 0 ≤ c := h.1
    have ih := fl_mir (k := k) h.2
    rw [mir_cons, fl_append, (mir_amt l).1]
    have e : cl (k - amt l) c + cl (c + amt l - k) c = c := by
      unfold cl
      repeat' split
      all_goals omega
    have e2 : c + amt l - k - c = amt l - k := by omega
    show fl k (mirR l) + ((if !q then cl (k - amt l) c else 0) + 0) + ((if q then 0 else cl (c + amt l - k) c) + fr (c + amt l - k - c) l) = (if q then 0 else c) + amtR l
    rw [e2]
    cases q
    · show fl k (mirR l) + (cl (k - amt l) c + 0) + (cl (c + amt l - k) c + fr (amt l - k) l) = c + amtR l
      omega
    · show fl k (mirR l) + (0 + 0) + (0 + fr (amt l - k) l) = 0 + amtR l
      omega
theorem fl_ex : ∀ {l : Runs} {k : Int}, Nn l → fl k l = (((ex l).take k.toNat).count true : Nat)
  | [], _, _ => by simp [fl, ex_nil]
  | (q, c) :: l, k, h => by
    have hc : 0 ≤ c := h.1
    have ih := fl_ex (k := k - c) h.2
    rw [ex_cons, List.take_append, List.count_append, List.take_replicate, List.count_replicate, List.length_replicate]
    have e2 : k.toNat - c.toNat = (k - c).toNat := by omega
    show (if q then cl k c else 0) + fl (k - c) l = _
    show _ = (((if q == true then min k.toNat c.toNat else 0) + List.count true (List.take (k.toNat - c.toNat) (ex l)) : Nat) : Int)
    rw [e2, ih]
    cases q
    · simp
    · have : cl k c = ((min k.toNat c.toNat : Nat) : Int) := by
        unfold cl
        split
        · omega
        · split <;> omega
      simp [this]
theorem ex_len : ∀ {l : Runs}, Nn l → ((ex l).length : Int) = amt l
  | [], _ => rfl
  | (q, c) :: l, h => by
    have hc : 0 ≤ c := h.1
    rw [ex_cons, List.length_append, List.length_replicate]
    have ih := ex_len h.2
    show ((c.toNat + (ex l).length : Nat) : Int) = c + amt l
    omega
theorem cnt_inj : ∀ {s t : List Bool}, s.length = t.length → (∀ k, (s.take k).count true = (t.take k).count true) → s = t
  | [], [], _, _ => rfl
  | [], _ :: _, h, _ => by cases h
  | _ :: _, [], h, _ => by cases h
  | a :: s, b :: t, h, hk => by
    have e : a = b := by
      have := hk 1
      cases a <;> cases b <;> first | rfl | simp at this
    subst e
    congr 1
    refine cnt_inj (by simpa using h) fun k => ?_
    have := hk (k + 1)
    rw [List.take_succ_cons, List.take_succ_cons, List.count_cons, List.count_cons] at this
    omega
theorem fl_inj {a b : Runs} (ha : Good a) (hb : Good b) (h : amt a = amt b) (hk : ∀ k : Int, 0 ≤ k → k ≤ amt a → fl k a = fl k b) : a = b := by
  refine ex_inj ha hb (cnt_inj ?_ fun k => ?_)
  · have h1 := ex_len (ps_nn ha.ps)
    have h2 := ex_len (ps_nn hb.ps)
    omega
  · have h1 := ex_len (ps_nn ha.ps)
    have h2 := ex_len (ps_nn hb.ps)
    by_cases hh : (k : Int) ≤ amt a
    · have e1 := fl_ex (k := (k : Int)) (ps_nn ha.ps)
      have e2 := fl_ex (k := (k : Int)) (ps_nn hb.ps)
      rw [hk k (by omega) hh] at e1
      rw [Int.toNat_natCast] at e1 e2
      omega
    · have e1 := fl_ex (k := amt a) (ps_nn ha.ps)
      have e2 := fl_ex (k := amt a) (ps_nn hb.ps)
      have ha0 := (fl_b (k := 0) (ps_nn ha.ps)).2.2.2
      rw [hk (amt a) ha0 (Int.le_refl _)] at e1
      rw [List.take_of_length_le (by omega)] at e1 e2
      rw [List.take_of_length_le (by omega), List.take_of_length_le (by omega)]
      omega
theorem fl_jn {l : Runs} (h : Nn l) (k : Int) : fl k (jn [] l) = fl k l := by
  rw [fl_ex h, fl_ex (ps_nn (jn_good good_nil).ps), ex_jn0]
theorem fl_fst0 : ∀ {l : Runs} {k u : Int}, Ps l → 0 ≤ u → fl k (fst0 u l) = max 0 (fl k l - u)
  | [], k, u, _, hu => by
    show (0 : Int) = max 0 (0 - u)
    omega
  | (q, c) :: l, k, u, h, hu => by
    have hc : 1 ≤ c := h.1
    have hb := fl_b (k := k - c) (ps_nn h.2)
    cases q with
    | false =>
      have ih := fl_fst0 (k := k - c) (u := u) h.2 hu
      show 0 + (0 + fl (k - 0 - (c - 0)) (fst0 (u - 0) l)) = max 0 (0 + fl (k - c) l - u)
      rw [Int.sub_zero, Int.sub_zero, Int.sub_zero, ih]
      omega
    | true =>
      have hs : 0 ≤ (if c < u then c else u) ∧ (if c < u then c else u) ≤ u := by split <;> omega
      have ih := fl_fst0 (k := k - c) (u := u - (if c < u then c else u)) h.2 (by omega)
      have e : k - (if c < u then c else u) - (c - (if c < u then c else u)) = k - c := by omega
      show 0 + (cl (k - (if c < u then c else u)) (c - (if c < u then c else u)) + fl (k - (if c < u then c else u) - (c - (if c < u then c else u))) (fst0 (u - (if c < u then c else u)) l)) = max 0 (cl k c + fl (k - c) l - u)
      rw [e, ih]
      have hl : k ≤ c → fl (k - c) l = 0 := fun z => fl_low (ps_nn h.2) (by omega)
      by_cases hk : k ≤ c
      · rw [hl hk]
        unfold cl
        repeat' split
        all_goals omega
      · unfold cl
        repeat' split
        all_goals omega
theorem fl_fst {l : Runs} {k u : Int} (h : Ps l) (hu : 0 ≤ u) : fl k (fstR u l) = max 0 (fl k l - u) := by
  unfold fstR
  rw [fl_jn (fst0_nn h hu).1, fl_fst0 h hu]
theorem fst_amt {l : Runs} {u : Int} (h : Ps l) (hu : 0 ≤ u) : amt (fstR u l) = amt l := by
  have := (jn_amt (fs := []) (fst0_nn h hu).1).1
  rw [(fst0_nn h hu).2] at this
  unfold fstR
  rw [this]
  show 0 + amt l = amt l
  omega
theorem mir_mir (l : Runs) : mirR l = l.reverse.map flipR := rfl
theorem amtL_fl {l : Runs} (h : Nn l) : fl (amt l) l = amtL l := (fl_b h).2.2.1 (Int.le_refl _)
theorem lst_amt {l : Runs} {d : Int} (h : Ps l) (hd : 0 ≤ d) : amt (lstR d l) = amt l := by
  rw [← lst_mir, ← mir_mir, ← mir_mir, (mir_amt _).1, fst_amt (mir_ps h) hd, (mir_amt _).1]
theorem fl_lst {l : Runs} {k d : Int} (h : Ps l) (hd : 0 ≤ d) (hd2 : d ≤ amtR l) (h0 : 0 ≤ k) (h1 : k ≤ amt l) : fl k (lstR d l) = max (fl k l) (k - (amtR l - d)) := by
  rw [← lst_mir, ← mir_mir, ← mir_mir]
  have hm := (fstR_good d (mirR l)).ps
  have e1 := fst_amt (mir_ps h) hd
  rw [(mir_amt l).1] at e1
  have e2 := fl_mir (k := k) (ps_nn hm)
  rw [e1] at e2
  rw [fr_k (ps_nn hm) (by omega) (by omega), fl_fst (mir_ps h) hd] at e2
  have e3 := fl_mir (k := amt l - k) (ps_nn h)
  have e4 : amt l - (amt l - k) = k := by omega
  rw [e4, fr_k (ps_nn h) h0 h1] at e3
  have e5 := amtL_R (fstR d (mirR l))
  have e6 := amtL_fl (ps_nn hm)
  rw [e1, fl_fst (mir_ps h) hd] at e6
  have e7 := amtL_fl (ps_nn (mir_ps h))
  rw [(mir_amt l).1, (mir_amt l).2] at e7
  rw [e7] at e6
  omega
theorem fl_W {l : Runs} {k u d : Int} (h : Ps l) (hu : 0 ≤ u) (hd : 0 ≤ d) (hd2 : d ≤ amtR l) (h0 : 0 ≤ k) (h1 : k ≤ amt l) : fl k (W u d l) = max 0 (max (fl k l) (k - (amtR l - d)) - u) := by
  unfold W
  rw [fl_fst (lstR_good d l).ps hu, fl_lst h hd hd2 h0 h1]
theorem W_amt {l : Runs} {u d : Int} (h : Ps l) (hu : 0 ≤ u) (hd : 0 ≤ d) : amt (W u d l) = amt l := by
  unfold W
  rw [fst_amt (lstR_good d l).ps hu, lst_amt h hd]
theorem W_good (u d : Int) (l : Runs) : Good (W u d l) := fstR_good _ _
theorem sett_fl {n r k : Int} (h0 : 0 ≤ r) (h1 : r ≤ n) (k0 : 0 ≤ k) (k1 : k ≤ n) : fl k (sett n r) = max 0 (k - r) := by
  rw [← sett_jn, fl_jn (show Nn [(false, r), (true, n - r)] from ⟨h0, by show 0 ≤ n - r; omega, trivial⟩)]
  show 0 + (cl (k - r) (n - r) + 0) = _
  unfold cl
  repeat' split
  all_goals omega
theorem sett_amt {n r : Int} (h0 : 0 ≤ r) (h1 : r ≤ n) : amt (sett n r) = n := by
  rw [← sett_jn]
  have := (jn_amt (fs := []) (l := [(false, r), (true, n - r)]) ⟨h0, by show 0 ≤ n - r; omega, trivial⟩).1
  rw [this]
  show 0 + (r + (n - r + 0)) = n
  omega
theorem nthL_fl : ∀ {l : Runs} {o u k : Int}, Ps l → 1 ≤ u → u ≤ amtL l → k < nthL o u l → fl (k - o) l < u
  | [], o, u, k, _, h1, h2, _ => by
    have h2 : u ≤ 0 := h2
    omega
  | (q, c) :: l, o, u, k, h, h1, h2, h3 => by
    have hc : 1 ≤ c := h.1
    have hcl := cl_b (k := k - o) (c := c) (by omega)
    have e : k - o - c = k - (o + c) := by omega
    cases q with
    | false =>
      have h2 : u ≤ 0 + amtL l := h2
      have ih := nthL_fl (o := o + c) (k := k) h.2 h1 (by omega) h3
      show 0 + fl (k - o - c) l < u
      rw [e]
      omega
    | true =>
      have h2 : u ≤ c + amtL l := h2
      have h3 : k < (if 0 < u ∧ u ≤ c then o + u else nthL (o + c) (u - c) l) := h3
      show cl (k - o) c + fl (k - o - c) l < u
      by_cases hu : u ≤ c
      · rw [if_pos ⟨by omega, hu⟩] at h3
        rw [fl_low (ps_nn h.2) (by omega)]
        by_cases hk : k - o ≤ 0
        · have := hcl.2.2.1 hk
          omega
        · have := hcl.2.2.2.1 (by omega)
          omega
      · rw [if_neg (by omega)] at h3
        have ih := nthL_fl (o := o + c) (u := u - c) (k := k) h.2 (by omega) (by omega) h3
        rw [e]
        omega
theorem blk_fl {l : Runs} {u d : Int} (h : Ps l) (hu : 0 ≤ u) (hd : 0 ≤ d) (r0 : 0 ≤ amtR l + u - d) (r1 : amtR l + u - d ≤ amt l) {k : Int} (k0 : 0 ≤ k) (k1 : k ≤ amt l) :
    fl k (blkR u d l) = max 0 (max (k - (amtR l + u - d)) (fl k l - u)) := by
  unfold blkR
  have hb := fl_b (k := k) (ps_nn h)
  have hr := (amtR_le h).1
  have hlr := amtL_R l
  have e3 := fl_mir (k := amt l - k) (ps_nn h)
  have e4 : amt l - (amt l - k) = k := by omega
  rw [e4, fr_k (ps_nn h) k0 k1] at e3
  by_cases hc : u ≤ amtL l ∧ d ≤ amtR l ∧ lowP u l < highP d l
  · rw [if_pos hc, fl_W h hu hd hc.2.1 k0 k1]
    omega
  · rw [if_neg hc, sett_fl r0 r1 k0 k1]
    by_cases c1 : u ≤ amtL l
    · by_cases c2 : d ≤ amtR l
      · have c3 : highP d l ≤ lowP u l := by
          have : ¬ lowP u l < highP d l := fun z => hc ⟨c1, c2, z⟩
          omega
        by_cases hk : k < lowP u l
        · by_cases hu1 : 1 ≤ u
          · have := nthL_fl (o := 0) h hu1 c1 hk
            rw [Int.sub_zero] at this
            omega
          · have e : u = 0 := by omega
            rw [e, low_0 h] at hk
            omega
        · by_cases hd1 : 1 ≤ d
          · have hm := mir_amt l
            have hk2 : amt l - k < nthL 0 d (mirR l) := by
              have e : highP d l = amt l + 1 - nthL 0 d (mirR l) := rfl
              omega
            have := nthL_fl (o := 0) (mir_ps h) hd1 (by omega) hk2
            rw [Int.sub_zero] at this
            omega
          · have e : d = 0 := by omega
            rw [e, high_0 h] at c3
            omega
      · have := (fl_b (k := amt l - k) (ps_nn (mir_ps h))).2.1
        rw [(mir_amt l).2] at this
        omega
    · omega
theorem blk_good (u d : Int) {l : Runs} : Good (blkR u d l) := by
  unfold blkR
  split
  · exact W_good _ _ _
  · exact sett_good _ _
theorem blk_amt {l : Runs} {u d : Int} (h : Ps l) (hu : 0 ≤ u) (hd : 0 ≤ d) (r0 : 0 ≤ amtR l + u - d) (r1 : amtR l + u - d ≤ amt l) : amt (blkR u d l) = amt l ∧ amtR (blkR u d l) = amtR l + u - d := by
  have e : amt (blkR u d l) = amt l := by
    unfold blkR
    split
    · exact W_amt h hu hd
    · exact sett_amt r0 r1
  refine ⟨e, ?_⟩
  have h1 := amtL_R (blkR u d l)
  have h2 := amtL_fl (ps_nn (blk_good u d (l := l)).ps)
  have ha := (fl_b (k := 0) (ps_nn h)).2.2.2
  rw [e, blk_fl h hu hd r0 r1 ha (Int.le_refl _), amtL_fl (ps_nn h)] at h2
  have h3 := amtL_R l
  omega
/-- two blocks after one another are one -/
theorem blk_blk {l : Runs} {u d v e : Int} (h : Good l) (hu : 0 ≤ u) (hd : 0 ≤ d) (hv : 0 ≤ v) (he : 0 ≤ e) (r0 : 0 ≤ amtR l + u - d) (r1 : amtR l + u - d ≤ amt l)
    (s0 : 0 ≤ amtR l + u - d + v - e) (s1 : amtR l + u - d + v - e ≤ amt l) : blkR v e (blkR u d l) = blkR (u + v) (d + e) l := by
  obtain ⟨a1, a2⟩ := blk_amt h.ps hu hd r0 r1
  have g := (blk_good u d (l := l)).ps
  have t0 : 0 ≤ amtR l + (u + v) - (d + e) := by omega
  have t1 : amtR l + (u + v) - (d + e) ≤ amt l := by omega
  obtain ⟨b1, b2⟩ := blk_amt h.ps (show 0 ≤ u + v by omega) (show 0 ≤ d + e by omega) t0 t1
  obtain ⟨c1, c2⟩ := blk_amt g hv he (by omega) (by omega)
  refine fl_inj (blk_good _ _) (blk_good _ _) (by omega) fun k k0 k1 => ?_
  rw [c1, a1] at k1
  rw [blk_fl g hv he (by omega) (by omega) k0 (by omega), blk_fl h.ps hu hd r0 r1 k0 k1, blk_fl h.ps (by omega) (by omega) t0 t1 k0 k1, a2]
  omega
theorem blk_0 {l : Runs} (h : Good l) : blkR 0 0 l = l := by
  have hr := amtR_le h.ps
  refine fl_inj (blk_good _ _) h (blk_amt h.ps (by omega) (by omega) (by omega) (by omega)).1 fun k k0 k1 => ?_
  rw [(blk_amt h.ps (by omega) (by omega) (by omega) (by omega)).1] at k1
  rw [blk_fl h.ps (by omega) (by omega) (by omega) (by omega) k0 k1]
  have hb := fl_b (k := k) (ps_nn h.ps)
  have e3 := fl_mir (k := amt l - k) (ps_nn h.ps)
  have e4 : amt l - (amt l - k) = k := by omega
  rw [e4, fr_k (ps_nn h.ps) k0 k1] at e3
  have := (fl_b (k := amt l - k) (ps_nn (mir_ps h.ps)))
  omega
/-- settled rows stay settled -/
theorem blk_sett {n r u d : Int} (hr0 : 0 ≤ r) (hr1 : r ≤ n) (hu : 0 ≤ u) (hd : 0 ≤ d) (r0 : 0 ≤ r + u - d) (r1 : r + u - d ≤ n) (e : amtR (sett n r) = r) : blkR u d (sett n r) = sett n (r + u - d) := by
  have a := sett_amt hr0 hr1
  have g := (sett_good n r).ps
  have b := blk_amt g hu hd (by omega) (by omega)
  refine fl_inj (blk_good _ _) (sett_good _ _) ?_ fun k k0 k1 => ?_
  · rw [b.1, a, sett_amt r0 r1]
  · rw [b.1, a] at k1
    rw [blk_fl g hu hd (by omega) (by omega) k0 (by omega), sett_fl hr0 hr1 k0 k1, sett_fl r0 r1 k0 k1, e]
    omega
theorem sett_R {n r : Int} (h0 : 0 ≤ r) (h1 : r ≤ n) : amtR (sett n r) = r := by
  have a := sett_amt h0 h1
  have h2 := amtL_fl (ps_nn (sett_good n r).ps)
  rw [a, sett_fl h0 h1 (by omega) (Int.le_refl _)] at h2
  have := amtL_R (sett n r)
  omega
theorem blk_calm {l : Runs} {u d : Int} (h : Good l) (hc : calm l = true) (hu : 0 ≤ u) (hd : 0 ≤ d) (r0 : 0 ≤ amtR l + u - d) (r1 : amtR l + u - d ≤ amt l) : calm (blkR u d l) = true := by
  obtain ⟨e, h1⟩ := calm_sett h hc
  have hr := amtR_le h.ps
  have hs := sett_R hr.1 hr.2
  have := blk_sett hr.1 hr.2 hu hd r0 r1 hs
  rw [← e] at this
  rw [this]
  exact sett_calm h1 r0 r1
/-- enough of them settle a row -/
theorem blk_far {l : Runs} {u d : Int} (h : Good l) (hn : 1 ≤ amt l) (hu : amt l ≤ u) (hd : 0 ≤ d) (r0 : 0 ≤ amtR l + u - d) (r1 : amtR l + u - d ≤ amt l) : calm (blkR u d l) = true := by
  have hu0 : 0 ≤ u := by omega
  have b := blk_amt h.ps hu0 hd r0 r1
  have e : blkR u d l = sett (amt l) (amtR l + u - d) := by
    refine fl_inj (blk_good _ _) (sett_good _ _) ?_ fun k k0 k1 => ?_
    · rw [b.1, sett_amt r0 r1]
    · rw [b.1] at k1
      rw [blk_fl h.ps hu0 hd r0 r1 k0 k1, sett_fl r0 r1 k0 k1]
      have := (fl_b (k := k) (ps_nn h.ps)).2.1
      have := amtL_R l
      have := amtR_le h.ps
      omega
  rw [e]
  exact sett_calm hn r0 r1
end Mi

namespace Mi
open PySem PySem.Spec PyProof.Rows L2
/-! ### crowds: what swings, who leaves -/
def exB (N r : Int) (b : Int × Int) : Int := (r + b.1 * b.2) / N
def nxB (N r : Int) (b : Int × Int) : Int := (r + b.1 * b.2) % N
def tU (N : Int) : Int → List (Int × Int) → Int
  | _, [] => 0
  | r, b :: bs => b.1 * (b.2 - exB N r b) + tU N (nxB N r b) bs
def tD (N : Int) : Int → List (Int × Int) → Int
  | _, [] => 0
  | r, b :: bs => (N - b.1) * exB N r b + tD N (nxB N r b) bs
def tL (N : Int) : Int → List (Int × Int) → Int
  | _, [] => 0
  | r, b :: bs => b.2 - exB N r b + tL N (nxB N r b) bs
def tX (N : Int) : Int → List (Int × Int) → Int
  | _, [] => 0
  | r, b :: bs => exB N r b + tX N (nxB N r b) bs
def tR (N : Int) : Int → List (Int × Int) → Int
  | r, [] => r
  | r, b :: bs => tR N (nxB N r b) bs
def Vb (n : Int) (bs : List (Int × Int)) : Prop := ∀ b ∈ bs, 1 ≤ b.1 ∧ b.1 ≤ n ∧ 0 ≤ b.2
theorem Vb.tail {n : Int} {b : Int × Int} {bs : List (Int × Int)} (h : Vb n (b :: bs)) : Vb n bs := fun x hx => h x (List.mem_cons_of_mem _ hx)
theorem Vb.app {n : Int} {bs cs : List (Int × Int)} (h : Vb n bs) (h2 : Vb n cs) : Vb n (bs ++ cs) := fun x hx => (List.mem_append.mp hx).elim (h x) (h2 x)
theorem vb_nil {n : Int} : Vb n [] := fun _ h => nomatch h
theorem vb_one {n p m : Int} (h1 : 1 ≤ p) (h2 : p ≤ n) (h3 : 0 ≤ m) : Vb n [(p, m)] := fun x hx => by
  rw [List.mem_singleton] at hx
  subst hx
  exact ⟨h1, h2, h3⟩
theorem blk1 {n r : Int} {b : Int × Int} (h0 : 0 ≤ r) (h1 : r ≤ n) (hb : 1 ≤ b.1 ∧ b.1 ≤ n ∧ 0 ≤ b.2) :
    0 ≤ exB (n + 1) r b ∧ exB (n + 1) r b ≤ b.2 ∧ 0 ≤ b.1 * (b.2 - exB (n + 1) r b) ∧ 0 ≤ (n + 1 - b.1) * exB (n + 1) r b ∧
    nxB (n + 1) r b = r + b.1 * (b.2 - exB (n + 1) r b) - (n + 1 - b.1) * exB (n + 1) r b ∧ 0 ≤ nxB (n + 1) r b ∧ nxB (n + 1) r b ≤ n ∧
    (n + 1) * exB (n + 1) r b + nxB (n + 1) r b = r + b.1 * b.2 := by
  obtain ⟨p, m⟩ := b
  obtain ⟨h2, h3, h4⟩ := hb
  have h2 : 1 ≤ p := h2
  have h3 : p ≤ n := h3
  have h4 : 0 ≤ m := h4
  have hpm : 0 ≤ p * m := Int.mul_nonneg (by omega) h4
  have k1 : 0 ≤ exB (n + 1) r (p, m) := Int.ediv_nonneg (show 0 ≤ r + p * m by omega) (by omega)
  have k2 : exB (n + 1) r (p, m) ≤ m := by
    refine Int.lt_add_one_iff.mp (Int.ediv_lt_of_lt_mul (show 0 < n + 1 by omega) ?_)
    show r + p * m < (m + 1) * (n + 1)
    have e : (m + 1) * (n + 1) = n * m + m + n + 1 := by
      rw [Int.add_mul, Int.mul_add, Int.mul_one, Int.one_mul, Int.mul_comm m n]
      omega
    have := Int.mul_le_mul_of_nonneg_right h3 h4
    omega
  have k3 := Int.emod_nonneg (r + p * m) (show n + 1 ≠ 0 by omega)
  have k4 := Int.emod_lt_of_pos (r + p * m) (show 0 < n + 1 by omega)
  have k5 := Int.emod_add_mul_ediv (r + p * m) (n + 1)
  have k6 : nxB (n + 1) r (p, m) = (r + p * m) % (n + 1) := rfl
  have k7 : exB (n + 1) r (p, m) = (r + p * m) / (n + 1) := rfl
  refine ⟨k1, k2, Int.mul_nonneg (show 0 ≤ p by omega) (by show 0 ≤ m - _; omega), Int.mul_nonneg (by show 0 ≤ n + 1 - p; omega) k1, ?_, by omega, by omega, by rw [k6, k7]; show _ = r + p * m; omega⟩
  show _ = r + p * (m - exB (n + 1) r (p, m)) - (n + 1 - p) * exB (n + 1) r (p, m)
  rw [Int.mul_sub, Int.sub_mul, k6, k7]
  omega
theorem tot_ok {n : Int} : ∀ {bs : List (Int × Int)} {r : Int}, 0 ≤ r → r ≤ n → Vb n bs →
    0 ≤ tU (n + 1) r bs ∧ 0 ≤ tD (n + 1) r bs ∧ tR (n + 1) r bs = r + tU (n + 1) r bs - tD (n + 1) r bs ∧ 0 ≤ tR (n + 1) r bs ∧ tR (n + 1) r bs ≤ n ∧ 0 ≤ tL (n + 1) r bs ∧ 0 ≤ tX (n + 1) r bs
  | [], r, h0, h1, _ => ⟨Int.le_refl _, Int.le_refl _, by show r = r + 0 - 0; omega, h0, h1, Int.le_refl _, Int.le_refl _⟩
  | b :: bs, r, h0, h1, h => by
    obtain ⟨k1, k2, k3, k4, k5, k6, k7, _⟩ := blk1 h0 h1 (h b (List.mem_cons_self ..))
    obtain ⟨i1, i2, i3, i4, i5, i6, i7⟩ := tot_ok k6 k7 h.tail
    refine ⟨?_, ?_, ?_, i4, i5, ?_, ?_⟩
    · show 0 ≤ b.1 * (b.2 - exB (n + 1) r b) + tU (n + 1) (nxB (n + 1) r b) bs
      omega
    · show 0 ≤ (n + 1 - b.1) * exB (n + 1) r b + tD (n + 1) (nxB (n + 1) r b) bs
      omega
    · show tR (n + 1) (nxB (n + 1) r b) bs = r + (b.1 * (b.2 - exB (n + 1) r b) + tU (n + 1) (nxB (n + 1) r b) bs) - ((n + 1 - b.1) * exB (n + 1) r b + tD (n + 1) (nxB (n + 1) r b) bs)
      omega
    · show 0 ≤ b.2 - exB (n + 1) r b + tL (n + 1) (nxB (n + 1) r b) bs
      omega
    · show 0 ≤ exB (n + 1) r b + tX (n + 1) (nxB (n + 1) r b) bs
      omega
theorem tU_app (N : Int) : ∀ (bs cs : List (Int × Int)) (r : Int), tU N r (bs ++ cs) = tU N r bs + tU N (tR N r bs) cs
  | [], cs, r => by show tU N r cs = 0 + tU N r cs; omega
  | b :: bs, cs, r => by
    show b.1 * (b.2 - exB N r b) + tU N (nxB N r b) (bs ++ cs) = b.1 * (b.2 - exB N r b) + tU N (nxB N r b) bs + tU N (tR N (nxB N r b) bs) cs
    rw [tU_app N bs]
    omega
theorem tD_app (N : Int) : ∀ (bs cs : List (Int × Int)) (r : Int), tD N r (bs ++ cs) = tD N r bs + tD N (tR N r bs) cs
  | [], cs, r => by show tD N r cs = 0 + tD N r cs; omega
  | b :: bs, cs, r => by
    show (N - b.1) * exB N r b + tD N (nxB N r b) (bs ++ cs) = (N - b.1) * exB N r b + tD N (nxB N r b) bs + tD N (tR N (nxB N r b) bs) cs
    rw [tD_app N bs]
    omega
theorem tL_app (N : Int) : ∀ (bs cs : List (Int × Int)) (r : Int), tL N r (bs ++ cs) = tL N r bs + tL N (tR N r bs) cs
  | [], cs, r => by show tL N r cs = 0 + tL N r cs; omega
  | b :: bs, cs, r => by
    show b.2 - exB N r b + tL N (nxB N r b) (bs ++ cs) = b.2 - exB N r b + tL N (nxB N r b) bs + tL N (tR N (nxB N r b) bs) cs
    rw [tL_app N bs]
    omega
theorem tX_app (N : Int) : ∀ (bs cs : List (Int × Int)) (r : Int), tX N r (bs ++ cs) = tX N r bs + tX N (tR N r bs) cs
  | [], cs, r => by show tX N r cs = 0 + tX N r cs; omega
  | b :: bs, cs, r => by
    show exB N r b + tX N (nxB N r b) (bs ++ cs) = exB N r b + tX N (nxB N r b) bs + tX N (tR N (nxB N r b) bs) cs
    rw [tX_app N bs]
    omega
theorem tR_app (N : Int) : ∀ (bs cs : List (Int × Int)) (r : Int), tR N r (bs ++ cs) = tR N (tR N r bs) cs
  | [], cs, r => rfl
  | b :: bs, cs, r => tR_app N bs cs (nxB N r b)
/-- the row after a crowd -/
def crR (l : Runs) (bs : List (Int × Int)) : Runs := blkR (tU (amt l + 1) (amtR l) bs) (tD (amt l + 1) (amtR l) bs) l
theorem crR_nil {l : Runs} (h : Good l) : crR l [] = l := blk_0 h
theorem crR_good (l : Runs) (bs : List (Int × Int)) : Good (crR l bs) := blk_good _ _
theorem crR_amt {l : Runs} (h : Good l) {bs : List (Int × Int)} (hb : Vb (amt l) bs) : amt (crR l bs) = amt l ∧ amtR (crR l bs) = tR (amt l + 1) (amtR l) bs := by
  have hr := amtR_le h.ps
  obtain ⟨k1, k2, k3, k4, k5, _⟩ := tot_ok hr.1 hr.2 hb
  have := blk_amt h.ps k1 k2 (by omega) (by omega)
  exact ⟨this.1, by rw [k3]; exact this.2⟩
theorem crR_app {l : Runs} (h : Good l) {bs cs : List (Int × Int)} (hb : Vb (amt l) bs) (hc : Vb (amt l) cs) : crR l (bs ++ cs) = crR (crR l bs) cs := by
  have hr := amtR_le h.ps
  obtain ⟨a1, a2⟩ := crR_amt h hb
  obtain ⟨k1, k2, k3, k4, k5, _⟩ := tot_ok hr.1 hr.2 hb
  obtain ⟨i1, i2, i3, i4, i5, _⟩ := tot_ok k4 k5 hc
  have e : crR (crR l bs) cs = blkR (tU (amt l + 1) (tR (amt l + 1) (amtR l) bs) cs) (tD (amt l + 1) (tR (amt l + 1) (amtR l) bs) cs) (crR l bs) := by
    show blkR (tU (amt (crR l bs) + 1) (amtR (crR l bs)) cs) (tD (amt (crR l bs) + 1) (amtR (crR l bs)) cs) (crR l bs) = _
    rw [a1, a2]
  rw [e]
  show blkR (tU (amt l + 1) (amtR l) (bs ++ cs)) (tD (amt l + 1) (amtR l) (bs ++ cs)) l = blkR _ _ (blkR _ _ l)
  rw [tU_app, tD_app, blk_blk h k1 k2 i1 i2 (by omega) (by omega) (by omega) (by omega)]
theorem crR_calm {l : Runs} (h : Good l) {bs : List (Int × Int)} (hb : Vb (amt l) bs) (hc : calm l = true) : calm (crR l bs) = true := by
  have hr := amtR_le h.ps
  obtain ⟨k1, k2, k3, k4, k5, _⟩ := tot_ok hr.1 hr.2 hb
  exact blk_calm h hc k1 k2 (by omega) (by omega)
/-- a block may be divided -/
theorem split_ex {n r p m k : Int} (h0 : 0 ≤ r) (h1 : r ≤ n) (hp : 1 ≤ p ∧ p ≤ n) (hm : 0 ≤ m) (hk : 0 ≤ k) :
    exB (n + 1) r (p, m + k) = exB (n + 1) r (p, m) + exB (n + 1) (nxB (n + 1) r (p, m)) (p, k) ∧ nxB (n + 1) r (p, m + k) = nxB (n + 1) (nxB (n + 1) r (p, m)) (p, k) := by
  obtain ⟨_, _, _, _, _, _, _, k8⟩ := blk1 (b := (p, m)) h0 h1 ⟨hp.1, hp.2, hm⟩
  have k8 : (n + 1) * exB (n + 1) r (p, m) + nxB (n + 1) r (p, m) = r + p * m := k8
  have e : r + p * (m + k) = nxB (n + 1) r (p, m) + p * k + (n + 1) * exB (n + 1) r (p, m) := by
    rw [Int.mul_add]
    omega
  constructor
  · show (r + p * (m + k)) / (n + 1) = _ + (nxB (n + 1) r (p, m) + p * k) / (n + 1)
    rw [e, Int.add_mul_ediv_left _ _ (by omega)]
    omega
  · show (r + p * (m + k)) % (n + 1) = (nxB (n + 1) r (p, m) + p * k) % (n + 1)
    rw [e, Int.add_mul_emod_self_left]
theorem split_t {n r p m k : Int} {bs : List (Int × Int)} (h0 : 0 ≤ r) (h1 : r ≤ n) (hp : 1 ≤ p ∧ p ≤ n) (hm : 0 ≤ m) (hk : 0 ≤ k) :
    tU (n + 1) r ((p, m + k) :: bs) = tU (n + 1) r ((p, m) :: (p, k) :: bs) ∧ tD (n + 1) r ((p, m + k) :: bs) = tD (n + 1) r ((p, m) :: (p, k) :: bs) ∧
    tL (n + 1) r ((p, m + k) :: bs) = tL (n + 1) r ((p, m) :: (p, k) :: bs) ∧ tX (n + 1) r ((p, m + k) :: bs) = tX (n + 1) r ((p, m) :: (p, k) :: bs) ∧ tR (n + 1) r ((p, m + k) :: bs) = tR (n + 1) r ((p, m) :: (p, k) :: bs) := by
  obtain ⟨e1, e2⟩ := split_ex h0 h1 hp hm hk
  refine ⟨?_, ?_, ?_, ?_, ?_⟩
  · show p * (m + k - exB (n + 1) r (p, m + k)) + tU (n + 1) (nxB (n + 1) r (p, m + k)) bs = p * (m - exB (n + 1) r (p, m)) + (p * (k - exB (n + 1) (nxB (n + 1) r (p, m)) (p, k)) + tU (n + 1) (nxB (n + 1) (nxB (n + 1) r (p, m)) (p, k)) bs)
    rw [e1, e2, ← Int.add_assoc, ← Int.mul_add]
    congr 2
    omega
  · show (n + 1 - p) * exB (n + 1) r (p, m + k) + tD (n + 1) (nxB (n + 1) r (p, m + k)) bs = (n + 1 - p) * exB (n + 1) r (p, m) + ((n + 1 - p) * exB (n + 1) (nxB (n + 1) r (p, m)) (p, k) + tD (n + 1) (nxB (n + 1) (nxB (n + 1) r (p, m)) (p, k)) bs)
    rw [e1, e2, Int.mul_add]
    omega
  · show m + k - exB (n + 1) r (p, m + k) + tL (n + 1) (nxB (n + 1) r (p, m + k)) bs = m - exB (n + 1) r (p, m) + (k - exB (n + 1) (nxB (n + 1) r (p, m)) (p, k) + tL (n + 1) (nxB (n + 1) (nxB (n + 1) r (p, m)) (p, k)) bs)
    rw [e1, e2]
    omega
  · show exB (n + 1) r (p, m + k) + tX (n + 1) (nxB (n + 1) r (p, m + k)) bs = exB (n + 1) r (p, m) + (exB (n + 1) (nxB (n + 1) r (p, m)) (p, k) + tX (n + 1) (nxB (n + 1) (nxB (n + 1) r (p, m)) (p, k)) bs)
    rw [e1, e2]
    omega
  · show tR (n + 1) (nxB (n + 1) r (p, m + k)) bs = tR (n + 1) (nxB (n + 1) (nxB (n + 1) r (p, m)) (p, k)) bs
    rw [e2]
theorem crR_split {l : Runs} (h : Good l) {p m k : Int} {bs : List (Int × Int)} (hp : 1 ≤ p ∧ p ≤ amt l) (hm : 0 ≤ m) (hk : 0 ≤ k) : crR l ((p, m + k) :: bs) = crR l ((p, m) :: (p, k) :: bs) := by
  have hr := amtR_le h.ps
  obtain ⟨e1, e2, _⟩ := split_t (bs := bs) hr.1 hr.2 hp hm hk
  unfold crR
  rw [e1, e2]
/-! ### when it settles -/
def st1 (l : Runs) (p m : Int) : Bool := calm (crR l [(p, m)])
theorem st1_mono {l : Runs} (h : Good l) {p m k : Int} (hp : 1 ≤ p ∧ p ≤ amt l) (hm : 0 ≤ m) (hk : m ≤ k) (hs : st1 l p m = true) : st1 l p k = true := by
  have e : k = m + (k - m) := by omega
  unfold st1
  rw [e, crR_split h hp hm (show 0 ≤ k - m by omega)]
  have e2 : [(p, m), (p, k - m)] = [(p, m)] ++ [(p, k - m)] := rfl
  rw [e2, crR_app h (vb_one hp.1 hp.2 hm) (vb_one hp.1 hp.2 (by omega))]
  have a := crR_amt h (vb_one hp.1 hp.2 hm)
  exact crR_calm (crR_good _ _) (by rw [a.1]; exact vb_one hp.1 hp.2 (by omega)) hs
theorem st1_0 {l : Runs} (h : Good l) {p : Int} (hp : 1 ≤ p ∧ p ≤ amt l) : st1 l p 0 = calm l := by
  have hr := amtR_le h.ps
  have e1 : exB (amt l + 1) (amtR l) (p, 0) = 0 := by
    show (amtR l + p * 0) / (amt l + 1) = 0
    rw [Int.mul_zero, Int.add_zero]
    exact Int.ediv_eq_zero_of_lt hr.1 (by omega)
  have e2 : crR l [(p, 0)] = blkR 0 0 l := by
    show blkR (p * (0 - exB (amt l + 1) (amtR l) (p, 0)) + 0) ((amt l + 1 - p) * exB (amt l + 1) (amtR l) (p, 0) + 0) l = _
    rw [e1]
    simp
  unfold st1
  rw [e2, blk_0 h]
theorem st1_all {l : Runs} (h : Good l) {p : Int} (hp : 1 ≤ p ∧ p ≤ amt l) : st1 l p (amt l + 1) = true := by
  have hr := amtR_le h.ps
  have e1 : exB (amt l + 1) (amtR l) (p, amt l + 1) = p := by
    show (amtR l + p * (amt l + 1)) / (amt l + 1) = p
    rw [Int.add_mul_ediv_right _ _ (by omega), Int.ediv_eq_zero_of_lt hr.1 (by omega), Int.zero_add]
  have hv : Vb (amt l) [(p, amt l + 1)] := vb_one hp.1 hp.2 (by omega)
  obtain ⟨k1, k2, k3, k4, k5, _⟩ := tot_ok hr.1 hr.2 hv
  have e2 : tU (amt l + 1) (amtR l) [(p, amt l + 1)] = p * (amt l + 1 - p) := by
    show p * (amt l + 1 - exB (amt l + 1) (amtR l) (p, amt l + 1)) + 0 = _
    rw [e1, Int.add_zero]
  have e3 : amt l ≤ p * (amt l + 1 - p) := by
    have k : p * (amt l + 1 - p) = (p - 1) * (amt l - p) + amt l := by
      simp only [Int.mul_sub, Int.mul_add, Int.sub_mul, Int.mul_one, Int.one_mul]
      omega
    have := Int.mul_nonneg (show 0 ≤ p - 1 by omega) (show 0 ≤ amt l - p by omega)
    omega
  exact blk_far h (by omega) (by rw [e2]; exact e3) k2 (by omega) (by omega)
def bkD (b : Int × Int) : D := .tup [.int b.1, .int b.2]
theorem calm_sides (l : Runs) : calm l = (decide (l.map (·.1) = [true]) || (decide (l.map (·.1) = [false]) || (decide (l.map (·.1) = [false, true]) || decide (l.map (·.1) = [false, false])))) := by
  match l with
  | [] => rfl
  | [(p, _)] => cases p <;> rfl
  | [(p, _), (q, _)] => cases p <;> cases q <;> rfl
  | _ :: _ :: _ :: _ => simp [calm]
theorem calm_in {l : Runs} (h : Good l) : inD (.lst (l.map fun r => sdD r.1)) (.lst [.lst [.str "L"], .lst [.str "R"], .lst [.str "R", .str "L"]]) = some (.fz (.bl (calm l))) := by
  have e : l.map (fun r => sdD r.1) = (l.map (·.1)).map sdD := by rw [List.map_map]; rfl
  rw [e]
  have h1 := sh_sds (l.map (·.1))
  have h2 : D.sh (.lst [.lst [.str "L"], .lst [.str "R"], .lst [.str "R", .str "L"]]) = true := by kernel_rfl
  have h3 : l.map (·.1) ≠ [false, false] := fun z => by
    have := h.al
    rw [z] at this
    exact this.1 rfl
  have e1 : D.eq (.lst [.str "L"]) (.lst ((l.map (·.1)).map sdD)) = decide (l.map (·.1) = [true]) := (eq_sds [true] _).trans (decide_eq_decide.mpr eq_comm)
  have e2 : D.eq (.lst [.str "R"]) (.lst ((l.map (·.1)).map sdD)) = decide (l.map (·.1) = [false]) := (eq_sds [false] _).trans (decide_eq_decide.mpr eq_comm)
  have e3 : D.eq (.lst [.str "R", .str "L"]) (.lst ((l.map (·.1)).map sdD)) = decide (l.map (·.1) = [false, true]) := (eq_sds [false, true] _).trans (decide_eq_decide.mpr eq_comm)
  show (if D.sh (.lst ((l.map (·.1)).map sdD)) && D.sh (.lst [.lst [.str "L"], .lst [.str "R"], .lst [.str "R", .str "L"]]) then some (List.any [.lst [.str "L"], .lst [.str "R"], .lst [.str "R", .str "L"]] fun y => D.eq y (.lst ((l.map (·.1)).map sdD))) else none).map okB = _
  rw [h1, h2, calm_sides, decide_eq_false h3]
  simp only [List.any_cons, List.any_nil, e1, e2, e3]
  rfl
end Mi

namespace G
open PySem PySem.Spec PyProof.Rows L2 Mi
/-! ### joined -/
theorem joined_step (q : Bool) (c : Int) (fs : Runs) (x0 y z : Option Sl) (k : Mi.Env → SR) (h : fs.length < 1000) :
    forR Ljoined_0 k (gSeq 2 (gsCons (gNm 2) (gsCons (gNm 3) gsNil)) (runD (q, c)) [x0, some (.ow (fs.map runD)), y, z]) = k [x0, some (.ow ((jstep fs (q, c)).map runD)), some (.fz (.str (sideS q))), some (.fz (.int c))] := by
  have e0 : runD (q, c) = .tup [.str (sideS q), .int c] := rfl
  have hlen : (fs.map runD).length < SZ := by
    rw [List.length_map]
    unfold SZ
    omega
  unfold Ljoined_0
  by_cases hc : 0 < c
  · have d0 : decide (0 < c) = true := decide_eq_true hc
    rcases List.eq_nil_or_concat fs with rfl | ⟨gs, ⟨p, n⟩, rfl⟩
    · have e1 := ne_nil []
      have e2 : fAppend [] [.tup [.str (sideS q), .int c]] = some (.non, [.tup [.str (sideS q), .int c]]) := op_append (by unfold SZ; decide)
      rw [List.map_nil] at e1
      rw [jstep_nil hc, e0]
      simp (maxSteps := 20000000) (disch := (first | assumption | omega | (simp only [List.length_cons, List.length_nil, List.length_append, List.length_map, SZ]; done) | (simp only [List.length_cons, List.length_nil, List.length_append, List.length_map, SZ]; omega))) only [EVA, ev_it, ev_if_f, List.getElem?_cons_zero, List.getElem?_cons_succ, List.set_cons_zero, List.set_cons_succ, Bool.and_true, Bool.true_and, Bool.or_true, Bool.true_or, Bool.or_false, Bool.false_or, Bool.and_false, Bool.false_and, Bool.not_true, Bool.not_false, List.length_cons, List.length_nil, List.map_cons, List.map_nil, List.replicate_succ, List.replicate_zero, List.cons_append, List.nil_append, if_true, if_false, Nat.reduceAdd, Nat.reduceEqDiff, beq_self_eq_true, reduceIte, Nat.zero_add, eq_self, SZ, List.contains_cons, List.contains_nil, Nat.reduceBEq, Nat.reduceLT, Nat.reduceLeDiff, Int.reduceToNat, Int.reducePow, Int.reduceAdd, Int.reduceSub, Int.reduceMul, Int.reduceNeg, Int.reduceLT, Int.reduceLE, Int.reduceEq, Int.reduceDiv, Int.reduceMod, Option.map_some, Option.map_none, e0, d0, e1, List.isEmpty_nil, e2]
    · have e1 := ne_nil (gs ++ [(p, n)])
      have e3 : (gs ++ [(p, n)]).isEmpty = false := by simp
      have e4 : runD (p, n) = .tup [.str (sideS p), .int n] := rfl
      rw [List.concat_eq_append] at hlen h ⊢
      rw [e3, List.map_append, List.map_cons, List.map_nil] at e1
      rw [List.map_append, List.map_cons, List.map_nil] at hlen
      have e5 := ix_last (xs := gs.map runD) (d := runD (p, n))
      rw [e4] at e5 e1
      have e6 := op_eq_s (sh_side p) (sh_side q)
      rw [side_eq] at e6
      have e11 : (gs ++ [(p, n)]).map runD = gs.map runD ++ [.tup [.str (sideS p), .int n]] := by rw [List.map_append]; rfl
      cases hpq : (p == q) with
      | true =>
        have epq : p = q := by simpa using hpq
        rw [hpq] at e6
        have e7 := ixN_last (xs := gs.map runD) (d := runD (p, n))
        have e8 := set_last (xs := gs.map runD) (d := runD (p, n)) (e := .tup [.str (sideS q), .int (n + c)])
        rw [e4] at e7 e8
        have e9 : jstep (gs ++ [(p, n)]) (q, c) = gs ++ [(q, n + c)] := by rw [epq]; exact jstep_eq hc
        have e10 : (gs ++ [(q, n + c)]).map runD = gs.map runD ++ [.tup [.str (sideS q), .int (n + c)]] := by rw [List.map_append]; rfl
        rw [e9, e10, e11, e0]
        simp (maxSteps := 20000000) (disch := (first | assumption | omega | (simp only [List.length_cons, List.length_nil, List.length_append, List.length_map, SZ]; done) | (simp only [List.length_cons, List.length_nil, List.length_append, List.length_map, SZ]; omega))) only [EVA, ev_it, ev_if_f, List.getElem?_cons_zero, List.getElem?_cons_succ, List.set_cons_zero, List.set_cons_succ, Bool.and_true, Bool.true_and, Bool.or_true, Bool.true_or, Bool.or_false, Bool.false_or, Bool.and_false, Bool.false_and, Bool.not_true, Bool.not_false, List.length_cons, List.length_nil, List.map_cons, List.map_nil, List.replicate_succ, List.replicate_zero, List.cons_append, List.nil_append, if_true, if_false, Nat.reduceAdd, Nat.reduceEqDiff, beq_self_eq_true, reduceIte, Nat.zero_add, eq_self, SZ, List.contains_cons, List.contains_nil, Nat.reduceBEq, Nat.reduceLT, Nat.reduceLeDiff, Int.reduceToNat, Int.reducePow, Int.reduceAdd, Int.reduceSub, Int.reduceMul, Int.reduceNeg, Int.reduceLT, Int.reduceLE, Int.reduceEq, Int.reduceDiv, Int.reduceMod, Option.map_some, Option.map_none, d0, e1, e5, e6, e7, e8]
      | false =>
        rw [hpq] at e6
        have e2 : fAppend (gs.map runD ++ [runD (p, n)]) [.tup [.str (sideS q), .int c]] = some (.non, gs.map runD ++ [runD (p, n)] ++ [.tup [.str (sideS q), .int c]]) := op_append hlen
        rw [e4] at e2
        have e10 : (gs ++ [(p, n)] ++ [(q, c)]).map runD = gs.map runD ++ [.tup [.str (sideS p), .int n]] ++ [.tup [.str (sideS q), .int c]] := by rw [List.map_append, List.map_append]; rfl
        rw [jstep_ne hc hpq, e10, e11, e0]
        simp (maxSteps := 20000000) (disch := (first | assumption | omega | (simp only [List.length_cons, List.length_nil, List.length_append, List.length_map, SZ]; done) | (simp only [List.length_cons, List.length_nil, List.length_append, List.length_map, SZ]; omega))) only [EVA, ev_it, ev_if_f, List.getElem?_cons_zero, List.getElem?_cons_succ, List.set_cons_zero, List.set_cons_succ, Bool.and_true, Bool.true_and, Bool.or_true, Bool.true_or, Bool.or_false, Bool.false_or, Bool.and_false, Bool.false_and, Bool.not_true, Bool.not_false, List.length_cons, List.length_nil, List.map_cons, List.map_nil, List.replicate_succ, List.replicate_zero, List.cons_append, List.nil_append, if_true, if_false, Nat.reduceAdd, Nat.reduceEqDiff, beq_self_eq_true, reduceIte, Nat.zero_add, eq_self, SZ, List.contains_cons, List.contains_nil, Nat.reduceBEq, Nat.reduceLT, Nat.reduceLeDiff, Int.reduceToNat, Int.reducePow, Int.reduceAdd, Int.reduceSub, Int.reduceMul, Int.reduceNeg, Int.reduceLT, Int.reduceLE, Int.reduceEq, Int.reduceDiv, Int.reduceMod, Option.map_some, Option.map_none, d0, e1, e5, e6, e2]
  · have d0 : decide (0 < c) = false := decide_eq_false hc
    rw [jstep_0 hc, e0]
    simp (maxSteps := 20000000) (disch := (first | assumption | omega | (simp only [List.length_cons, List.length_nil, List.length_append, List.length_map, SZ]; done) | (simp only [List.length_cons, List.length_nil, List.length_append, List.length_map, SZ]; omega))) only [EVA, ev_it, ev_if_f, List.getElem?_cons_zero, List.getElem?_cons_succ, List.set_cons_zero, List.set_cons_succ, Bool.and_true, Bool.true_and, Bool.or_true, Bool.true_or, Bool.or_false, Bool.false_or, Bool.and_false, Bool.false_and, Bool.not_true, Bool.not_false, List.length_cons, List.length_nil, List.map_cons, List.map_nil, List.replicate_succ, List.replicate_zero, List.cons_append, List.nil_append, if_true, if_false, Nat.reduceAdd, Nat.reduceEqDiff, beq_self_eq_true, reduceIte, Nat.zero_add, eq_self, SZ, List.contains_cons, List.contains_nil, Nat.reduceBEq, Nat.reduceLT, Nat.reduceLeDiff, Int.reduceToNat, Int.reducePow, Int.reduceAdd, Int.reduceSub, Int.reduceMul, Int.reduceNeg, Int.reduceLT, Int.reduceLE, Int.reduceEq, Int.reduceDiv, Int.reduceMod, Option.map_some, Option.map_none, d0]
theorem joined_loop (x0 : Option Sl) : ∀ (l fs : Runs) (y z : Option Sl), fs.length + l.length < 1000 →
    ∃ (y' z' : Option Sl), loopF (gSeq 2 (gsCons (gNm 2) (gsCons (gNm 3) gsNil))) Ljoined_0 (l.map runD) [x0, some (.ow (fs.map runD)), y, z] = .nx [x0, some (.ow ((jn fs l).map runD)), y', z']
  | [], fs, y, z, h => ⟨y, z, rfl⟩
  | (q, c) :: l, fs, y, z, h => by
    rw [List.length_cons] at h
    have h1 := jstep_le fs (q, c)
    obtain ⟨y2, z2, e2⟩ := joined_loop x0 l (jstep fs (q, c)) (some (.fz (.str (sideS q)))) (some (.fz (.int c))) (by omega)
    refine ⟨y2, z2, ?_⟩
    rw [List.map_cons, loop_cons, joined_step q c fs x0 y z _ (by omega), e2]
    rfl
theorem joined_ok (l : Runs) (h : l.length < 1000) : Fjoined [.fz (.lst (l.map runD))] = .ret (.fz (.tup ((jn [] l).map runD))) [none] := by
  obtain ⟨y, z, e⟩ := joined_loop (some (.fz (.lst (l.map runD)))) l [] none none (by simpa using h)
  rw [List.map_nil] at e
  unfold Fjoined Bjoined
  revert e
  generalize Ljoined_0 = f1
  generalize l.map runD = ld
  generalize (jn [] l).map runD = jd
  intro e
  simp (maxSteps := 20000000) (disch := (first | assumption | omega | (simp only [List.length_cons, List.length_nil, List.length_append, List.length_map, SZ]; done) | (simp only [List.length_cons, List.length_nil, List.length_append, List.length_map, SZ]; omega))) only [EVA, ev_it, ev_if_f, List.getElem?_cons_zero, List.getElem?_cons_succ, List.set_cons_zero, List.set_cons_succ, Bool.and_true, Bool.true_and, Bool.or_true, Bool.true_or, Bool.or_false, Bool.false_or, Bool.and_false, Bool.false_and, Bool.not_true, Bool.not_false, List.length_cons, List.length_nil, List.map_cons, List.map_nil, List.replicate_succ, List.replicate_zero, List.cons_append, List.nil_append, if_true, if_false, Nat.reduceAdd, Nat.reduceEqDiff, beq_self_eq_true, reduceIte, Nat.zero_add, eq_self, SZ, List.contains_cons, List.contains_nil, Nat.reduceBEq, Nat.reduceLT, Nat.reduceLeDiff, Int.reduceToNat, Int.reducePow, Int.reduceAdd, Int.reduceSub, Int.reduceMul, Int.reduceNeg, Int.reduceLT, Int.reduceLE, Int.reduceEq, Int.reduceDiv, Int.reduceMod, Option.map_some, Option.map_none, e]
/-! ### swung posts -/
end G

namespace G
open PySem PySem.Spec PyProof.Rows L2 Mi
theorem side_qq (r q : Bool) : eqD (.str (sideS r)) (.str (sideS q)) = some (.fz (.bl (r == q))) := by cases r <;> cases q <;> kernel_rfl
theorem ne_qq (q : Bool) : neD (.str (sideS q)) (.str (sideS q)) = some (.fz (.bl false)) := by cases q <;> kernel_rfl
/-! ### place_of -/
/-- a line as the laws make them -/
structure Ln (l : Runs) : Prop where
  good : Good l
  ne : l ≠ []
  len : l.length < 140
  big : amt l ≤ 10000000000000000000000000000000000
def lnD (l : Runs) : D := .tup (l.map runD)
/-- blocks as the laws make them -/
def Bb (bs : List (Int × Int)) : Prop := ∀ b ∈ bs, b.2 ≤ 10000000000000000000000000000000000000000000000000000000000000000000000000000000000000000000000000000
/-! ### crowds -/
theorem sett_mp (n r : Int) : (sett n r).map runD = (if 0 < r then [runD (false, r)] else []) ++ (if 0 < n - r then [runD (true, n - r)] else []) := by
  unfold sett
  rw [List.map_append]
  congr 1
  · split <;> rfl
  · split <;> rfl
theorem lc_opt {f : D → Mi.Env → Mi.R (Option D)} {x : D} {xs : List D} {ρ ρ1 : Mi.Env} {acc : List D} {P : Prop} [Decidable P] {y : D} (h : f x ρ = .ok (if P then some y else none) ρ1) (hl : acc.length < SZ) : loopC f (x :: xs) ρ acc = loopC f xs ρ1 (acc ++ if P then [y] else []) := by
  rw [lc_cons, h]
  by_cases hp : P
  · rw [if_pos hp, if_pos hp, ev_lcR1 hl]
  · rw [if_neg hp, if_neg hp, ev_lcR0, List.append_nil]
theorem ch_seq (A B : Sm) (s : Option Sl) (l r : Mi.Env) (r' : SR) (h1 : A (s :: l) = .nx r) (h2 : B r = r') : sSeq A B (s :: l) = r' := by
  rw [ev_seq, h1, ev_seq_nx, h2]
theorem cr_low (f : Fn) (ld : D) (u n r lo : Int) (x1 x3 x4 x5 x9 : Option Sl)
    (h1 : 0 < u → u ≤ n - r → f [.fz ld, .fz (.str "L"), .fz (.int (u - 1))] = .ret (.fz (.int lo)) [none, none, none]) (h2 : ¬ (0 < u ∧ u ≤ n - r) → lo = 0) :
    sIf (toT (mChain ltD leD (.e (mC (.int 0))) (.v 2) (.e (mOp2 subD (.v 6) (.v 7))))) (sSeq (sSet 8 (mCall f [(.e (mVar 0)), (.e (mC (.str "L"))), (.e (mOp2 subD (.v 2) (.e (mC (.int 1)))))])) sNil) sNil
      [some (.fz ld), x1, some (.fz (.int u)), x3, x4, x5, some (.fz (.int n)), some (.fz (.int r)), some (.fz (.int 0)), x9]
    = .nx [some (.fz ld), x1, some (.fz (.int u)), x3, x4, x5, some (.fz (.int n)), some (.fz (.int r)), some (.fz (.int lo)), x9] := by
  by_cases c1 : 0 < u
  · have d1 : decide (0 < u) = true := decide_eq_true c1
    by_cases c2 : u ≤ n - r
    · have d2 : decide (u ≤ n - r) = true := decide_eq_true c2
      have e := h1 c1 c2
      simp (maxSteps := 20000000) (disch := (first | assumption | omega | (simp only [List.length_cons, List.length_nil, List.length_append, List.length_map, SZ]; done) | (simp only [List.length_cons, List.length_nil, List.length_append, List.length_map, SZ]; omega))) only [EVA, ev_it, ev_if_f, List.getElem?_cons_zero, List.getElem?_cons_succ, List.set_cons_zero, List.set_cons_succ, Bool.and_true, Bool.true_and, Bool.or_true, Bool.true_or, Bool.or_false, Bool.false_or, Bool.and_false, Bool.false_and, Bool.not_true, Bool.not_false, List.length_cons, List.length_nil, List.map_cons, List.map_nil, List.replicate_succ, List.replicate_zero, List.cons_append, List.nil_append, if_true, if_false, Nat.reduceAdd, Nat.reduceEqDiff, beq_self_eq_true, reduceIte, Nat.zero_add, eq_self, SZ, List.contains_cons, List.contains_nil, Nat.reduceBEq, Nat.reduceLT, Nat.reduceLeDiff, Int.reduceToNat, Int.reducePow, Int.reduceAdd, Int.reduceSub, Int.reduceMul, Int.reduceNeg, Int.reduceLT, Int.reduceLE, Int.reduceEq, Int.reduceDiv, Int.reduceMod, Option.map_some, Option.map_none, d1, d2, e]
    · have d2 : decide (u ≤ n - r) = false := decide_eq_false c2
      rw [h2 (fun z => c2 z.2)]
      simp (maxSteps := 20000000) (disch := (first | assumption | omega | (simp only [List.length_cons, List.length_nil, List.length_append, List.length_map, SZ]; done) | (simp only [List.length_cons, List.length_nil, List.length_append, List.length_map, SZ]; omega))) only [EVA, ev_it, ev_if_f, List.getElem?_cons_zero, List.getElem?_cons_succ, List.set_cons_zero, List.set_cons_succ, Bool.and_true, Bool.true_and, Bool.or_true, Bool.true_or, Bool.or_false, Bool.false_or, Bool.and_false, Bool.false_and, Bool.not_true, Bool.not_false, List.length_cons, List.length_nil, List.map_cons, List.map_nil, List.replicate_succ, List.replicate_zero, List.cons_append, List.nil_append, if_true, if_false, Nat.reduceAdd, Nat.reduceEqDiff, beq_self_eq_true, reduceIte, Nat.zero_add, eq_self, SZ, List.contains_cons, List.contains_nil, Nat.reduceBEq, Nat.reduceLT, Nat.reduceLeDiff, Int.reduceToNat, Int.reducePow, Int.reduceAdd, Int.reduceSub, Int.reduceMul, Int.reduceNeg, Int.reduceLT, Int.reduceLE, Int.reduceEq, Int.reduceDiv, Int.reduceMod, Option.map_some, Option.map_none, d1, d2]
  · have d1 : decide (0 < u) = false := decide_eq_false c1
    rw [h2 (fun z => c1 z.1)]
    simp (maxSteps := 20000000) (disch := (first | assumption | omega | (simp only [List.length_cons, List.length_nil, List.length_append, List.length_map, SZ]; done) | (simp only [List.length_cons, List.length_nil, List.length_append, List.length_map, SZ]; omega))) only [EVA, ev_it, ev_if_f, List.getElem?_cons_zero, List.getElem?_cons_succ, List.set_cons_zero, List.set_cons_succ, Bool.and_true, Bool.true_and, Bool.or_true, Bool.true_or, Bool.or_false, Bool.false_or, Bool.and_false, Bool.false_and, Bool.not_true, Bool.not_false, List.length_cons, List.length_nil, List.map_cons, List.map_nil, List.replicate_succ, List.replicate_zero, List.cons_append, List.nil_append, if_true, if_false, Nat.reduceAdd, Nat.reduceEqDiff, beq_self_eq_true, reduceIte, Nat.zero_add, eq_self, SZ, List.contains_cons, List.contains_nil, Nat.reduceBEq, Nat.reduceLT, Nat.reduceLeDiff, Int.reduceToNat, Int.reducePow, Int.reduceAdd, Int.reduceSub, Int.reduceMul, Int.reduceNeg, Int.reduceLT, Int.reduceLE, Int.reduceEq, Int.reduceDiv, Int.reduceMod, Option.map_some, Option.map_none, d1]
theorem cr_high (f : Fn) (ld : D) (d n r hi : Int) (x1 x2 x4 x5 x8 : Option Sl)
    (h1 : 0 < d → d ≤ r → f [.fz ld, .fz (.str "R"), .fz (.int (r - d))] = .ret (.fz (.int hi)) [none, none, none]) (h2 : ¬ (0 < d ∧ d ≤ r) → hi = n + 1) :
    sIf (toT (mChain ltD leD (.e (mC (.int 0))) (.v 3) (.v 7))) (sSeq (sSet 9 (mCall f [(.e (mVar 0)), (.e (mC (.str "R"))), (.e (mOp2 subD (.v 7) (.v 3)))])) sNil) sNil
      [some (.fz ld), x1, x2, some (.fz (.int d)), x4, x5, some (.fz (.int n)), some (.fz (.int r)), x8, some (.fz (.int (n + 1)))]
    = .nx [some (.fz ld), x1, x2, some (.fz (.int d)), x4, x5, some (.fz (.int n)), some (.fz (.int r)), x8, some (.fz (.int hi))] := by
  by_cases c1 : 0 < d
  · have d1 : decide (0 < d) = true := decide_eq_true c1
    by_cases c2 : d ≤ r
    · have d2 : decide (d ≤ r) = true := decide_eq_true c2
      have e := h1 c1 c2
      simp (maxSteps := 20000000) (disch := (first | assumption | omega | (simp only [List.length_cons, List.length_nil, List.length_append, List.length_map, SZ]; done) | (simp only [List.length_cons, List.length_nil, List.length_append, List.length_map, SZ]; omega))) only [EVA, ev_it, ev_if_f, List.getElem?_cons_zero, List.getElem?_cons_succ, List.set_cons_zero, List.set_cons_succ, Bool.and_true, Bool.true_and, Bool.or_true, Bool.true_or, Bool.or_false, Bool.false_or, Bool.and_false, Bool.false_and, Bool.not_true, Bool.not_false, List.length_cons, List.length_nil, List.map_cons, List.map_nil, List.replicate_succ, List.replicate_zero, List.cons_append, List.nil_append, if_true, if_false, Nat.reduceAdd, Nat.reduceEqDiff, beq_self_eq_true, reduceIte, Nat.zero_add, eq_self, SZ, List.contains_cons, List.contains_nil, Nat.reduceBEq, Nat.reduceLT, Nat.reduceLeDiff, Int.reduceToNat, Int.reducePow, Int.reduceAdd, Int.reduceSub, Int.reduceMul, Int.reduceNeg, Int.reduceLT, Int.reduceLE, Int.reduceEq, Int.reduceDiv, Int.reduceMod, Option.map_some, Option.map_none, d1, d2, e]
    · have d2 : decide (d ≤ r) = false := decide_eq_false c2
      rw [h2 (fun z => c2 z.2)]
      simp (maxSteps := 20000000) (disch := (first | assumption | omega | (simp only [List.length_cons, List.length_nil, List.length_append, List.length_map, SZ]; done) | (simp only [List.length_cons, List.length_nil, List.length_append, List.length_map, SZ]; omega))) only [EVA, ev_it, ev_if_f, List.getElem?_cons_zero, List.getElem?_cons_succ, List.set_cons_zero, List.set_cons_succ, Bool.and_true, Bool.true_and, Bool.or_true, Bool.true_or, Bool.or_false, Bool.false_or, Bool.and_false, Bool.false_and, Bool.not_true, Bool.not_false, List.length_cons, List.length_nil, List.map_cons, List.map_nil, List.replicate_succ, List.replicate_zero, List.cons_append, List.nil_append, if_true, if_false, Nat.reduceAdd, Nat.reduceEqDiff, beq_self_eq_true, reduceIte, Nat.zero_add, eq_self, SZ, List.contains_cons, List.contains_nil, Nat.reduceBEq, Nat.reduceLT, Nat.reduceLeDiff, Int.reduceToNat, Int.reducePow, Int.reduceAdd, Int.reduceSub, Int.reduceMul, Int.reduceNeg, Int.reduceLT, Int.reduceLE, Int.reduceEq, Int.reduceDiv, Int.reduceMod, Option.map_some, Option.map_none, d1, d2]
  · have d1 : decide (0 < d) = false := decide_eq_false c1
    rw [h2 (fun z => c1 z.1)]
    simp (maxSteps := 20000000) (disch := (first | assumption | omega | (simp only [List.length_cons, List.length_nil, List.length_append, List.length_map, SZ]; done) | (simp only [List.length_cons, List.length_nil, List.length_append, List.length_map, SZ]; omega))) only [EVA, ev_it, ev_if_f, List.getElem?_cons_zero, List.getElem?_cons_succ, List.set_cons_zero, List.set_cons_succ, Bool.and_true, Bool.true_and, Bool.or_true, Bool.true_or, Bool.or_false, Bool.false_or, Bool.and_false, Bool.false_and, Bool.not_true, Bool.not_false, List.length_cons, List.length_nil, List.map_cons, List.map_nil, List.replicate_succ, List.replicate_zero, List.cons_append, List.nil_append, if_true, if_false, Nat.reduceAdd, Nat.reduceEqDiff, beq_self_eq_true, reduceIte, Nat.zero_add, eq_self, SZ, List.contains_cons, List.contains_nil, Nat.reduceBEq, Nat.reduceLT, Nat.reduceLeDiff, Int.reduceToNat, Int.reducePow, Int.reduceAdd, Int.reduceSub, Int.reduceMul, Int.reduceNeg, Int.reduceLT, Int.reduceLE, Int.reduceEq, Int.reduceDiv, Int.reduceMod, Option.map_some, Option.map_none, d1]
theorem cr_end (f g : Fn) (ld wd sd : D) (u d n r lo hi tl tx : Int) (x1 : Option Sl)
    (h1 : (u ≤ n - r ∧ d ≤ r ∧ lo ≤ hi) → g [.fz ld, .fz (.int u), .fz (.int d)] = .ret (.fz wd) [none, none, none])
    (h2 : ¬ (u ≤ n - r ∧ d ≤ r ∧ lo ≤ hi) → f [.fz (.int n), .fz (.int (r + u - d))] = .ret (.fz wd) [none, none]) :
    (sSeq (sIf (mOrT (toT (mOp2 gtD (.v 2) (.e (mOp2 subD (.v 6) (.v 7))))) (mOrT (toT (mOp2 gtD (.v 3) (.v 7))) (toT (mOp2 gtD (.v 8) (.v 9))))) (sSeq (sRet (mTup [(mCall f [(.e (mVar 6)), (.e (mOp2 subD (.e (mOp2 addD (.v 7) (.v 2))) (.v 3)))]), (mVar 4), (mVar 5)])) sNil) sNil) (sSeq (sRet (mTup [(mCall g [(.e (mVar 0)), (.e (mVar 2)), (.e (mVar 3))]), (mVar 4), (mVar 5)])) sNil))
      [some (.fz ld), x1, some (.fz (.int u)), some (.fz (.int d)), some (.fz (.int tl)), some (.fz (.int tx)), some (.fz (.int n)), some (.fz (.int r)), some (.fz (.int lo)), some (.fz (.int hi))]
    = .rt (.fz (.tup [wd, .int tl, .int tx])) [some (.fz ld), x1, some (.fz (.int u)), some (.fz (.int d)), some (.fz (.int tl)), some (.fz (.int tx)), some (.fz (.int n)), some (.fz (.int r)), some (.fz (.int lo)), some (.fz (.int hi))] := by
  by_cases c1 : u ≤ n - r
  · have d1 : decide (n - r < u) = false := decide_eq_false (by omega)
    by_cases c2 : d ≤ r
    · have d2 : decide (r < d) = false := decide_eq_false (by omega)
      by_cases c3 : lo ≤ hi
      · have d3 : decide (hi < lo) = false := decide_eq_false (by omega)
        have e := h1 ⟨c1, c2, c3⟩
        simp (maxSteps := 20000000) (disch := (first | assumption | omega | (simp only [List.length_cons, List.length_nil, List.length_append, List.length_map, SZ]; done) | (simp only [List.length_cons, List.length_nil, List.length_append, List.length_map, SZ]; omega))) only [EVA, ev_it, ev_if_f, List.getElem?_cons_zero, List.getElem?_cons_succ, List.set_cons_zero, List.set_cons_succ, Bool.and_true, Bool.true_and, Bool.or_true, Bool.true_or, Bool.or_false, Bool.false_or, Bool.and_false, Bool.false_and, Bool.not_true, Bool.not_false, List.length_cons, List.length_nil, List.map_cons, List.map_nil, List.replicate_succ, List.replicate_zero, List.cons_append, List.nil_append, if_true, if_false, Nat.reduceAdd, Nat.reduceEqDiff, beq_self_eq_true, reduceIte, Nat.zero_add, eq_self, SZ, List.contains_cons, List.contains_nil, Nat.reduceBEq, Nat.reduceLT, Nat.reduceLeDiff, Int.reduceToNat, Int.reducePow, Int.reduceAdd, Int.reduceSub, Int.reduceMul, Int.reduceNeg, Int.reduceLT, Int.reduceLE, Int.reduceEq, Int.reduceDiv, Int.reduceMod, Option.map_some, Option.map_none, d1, d2, d3, e]
      · have d3 : decide (hi < lo) = true := decide_eq_true (by omega)
        have e := h2 (fun z => c3 z.2.2)
        simp (maxSteps := 20000000) (disch := (first | assumption | omega | (simp only [List.length_cons, List.length_nil, List.length_append, List.length_map, SZ]; done) | (simp only [List.length_cons, List.length_nil, List.length_append, List.length_map, SZ]; omega))) only [EVA, ev_it, ev_if_f, List.getElem?_cons_zero, List.getElem?_cons_succ, List.set_cons_zero, List.set_cons_succ, Bool.and_true, Bool.true_and, Bool.or_true, Bool.true_or, Bool.or_false, Bool.false_or, Bool.and_false, Bool.false_and, Bool.not_true, Bool.not_false, List.length_cons, List.length_nil, List.map_cons, List.map_nil, List.replicate_succ, List.replicate_zero, List.cons_append, List.nil_append, if_true, if_false, Nat.reduceAdd, Nat.reduceEqDiff, beq_self_eq_true, reduceIte, Nat.zero_add, eq_self, SZ, List.contains_cons, List.contains_nil, Nat.reduceBEq, Nat.reduceLT, Nat.reduceLeDiff, Int.reduceToNat, Int.reducePow, Int.reduceAdd, Int.reduceSub, Int.reduceMul, Int.reduceNeg, Int.reduceLT, Int.reduceLE, Int.reduceEq, Int.reduceDiv, Int.reduceMod, Option.map_some, Option.map_none, d1, d2, d3, e]
    · have d2 : decide (r < d) = true := decide_eq_true (by omega)
      have e := h2 (fun z => c2 z.2.1)
      simp (maxSteps := 20000000) (disch := (first | assumption | omega | (simp only [List.length_cons, List.length_nil, List.length_append, List.length_map, SZ]; done) | (simp only [List.length_cons, List.length_nil, List.length_append, List.length_map, SZ]; omega))) only [EVA, ev_it, ev_if_f, List.getElem?_cons_zero, List.getElem?_cons_succ, List.set_cons_zero, List.set_cons_succ, Bool.and_true, Bool.true_and, Bool.or_true, Bool.true_or, Bool.or_false, Bool.false_or, Bool.and_false, Bool.false_and, Bool.not_true, Bool.not_false, List.length_cons, List.length_nil, List.map_cons, List.map_nil, List.replicate_succ, List.replicate_zero, List.cons_append, List.nil_append, if_true, if_false, Nat.reduceAdd, Nat.reduceEqDiff, beq_self_eq_true, reduceIte, Nat.zero_add, eq_self, SZ, List.contains_cons, List.contains_nil, Nat.reduceBEq, Nat.reduceLT, Nat.reduceLeDiff, Int.reduceToNat, Int.reducePow, Int.reduceAdd, Int.reduceSub, Int.reduceMul, Int.reduceNeg, Int.reduceLT, Int.reduceLE, Int.reduceEq, Int.reduceDiv, Int.reduceMod, Option.map_some, Option.map_none, d1, d2, e]
  · have d1 : decide (n - r < u) = true := decide_eq_true (by omega)
    have e := h2 (fun z => c1 z.1)
    simp (maxSteps := 20000000) (disch := (first | assumption | omega | (simp only [List.length_cons, List.length_nil, List.length_append, List.length_map, SZ]; done) | (simp only [List.length_cons, List.length_nil, List.length_append, List.length_map, SZ]; omega))) only [EVA, ev_it, ev_if_f, List.getElem?_cons_zero, List.getElem?_cons_succ, List.set_cons_zero, List.set_cons_succ, Bool.and_true, Bool.true_and, Bool.or_true, Bool.true_or, Bool.or_false, Bool.false_or, Bool.and_false, Bool.false_and, Bool.not_true, Bool.not_false, List.length_cons, List.length_nil, List.map_cons, List.map_nil, List.replicate_succ, List.replicate_zero, List.cons_append, List.nil_append, if_true, if_false, Nat.reduceAdd, Nat.reduceEqDiff, beq_self_eq_true, reduceIte, Nat.zero_add, eq_self, SZ, List.contains_cons, List.contains_nil, Nat.reduceBEq, Nat.reduceLT, Nat.reduceLeDiff, Int.reduceToNat, Int.reducePow, Int.reduceAdd, Int.reduceSub, Int.reduceMul, Int.reduceNeg, Int.reduceLT, Int.reduceLE, Int.reduceEq, Int.reduceDiv, Int.reduceMod, Option.map_some, Option.map_none, d1, e]
end G

namespace G
open PySem PySem.Spec PyProof.Rows L2 Mi
theorem ljoined_eq : F_law_joined = Fjoined := rfl
theorem ljoined_ok (l : Runs) (h : l.length < 1000) : F_law_joined [.fz (.lst (l.map runD))] = .ret (.fz (.tup ((jn [] l).map runD))) [none] := by
  rw [ljoined_eq]
  exact joined_ok l h
/-! ### the law's own -/
theorem ext_2 {xs : List D} {a b : D} (h : xs.length + 2 ≤ SZ) : fExtend xs [.lst [a, b]] = some (.non, xs ++ [a, b]) := by
  show (if xs.length + 2 ≤ SZ then some (D.non, xs ++ [a, b]) else none) = _
  exact if_pos h
theorem disp_eq {ks : List Key} {ms : List Ex} {s : Option Sl} {l : Mi.Env} : mDisp ks ms (s :: l) = (runE ms (s :: l)).bind fun ds ρ1 => .ok (.fz (.dic (ks.zip ds))) ρ1 := rfl
theorem dget_1 (q : Bool) : dgetD (.dic (List.zip [.inr "L", .inr "R"] [.str "R", .str "L"])) (.str (sideS q)) = some (.fz (.str (sideS !q))) := by cases q <;> kernel_rfl
end G

namespace G
open PySem PySem.Spec PyProof.Rows L2 Mi
/-! ### the law's numbers -/
/-! ### draws -/
theorem take_ok (a b c k : Int) (ha : 0 ≤ a) (hb : 0 ≤ b) (hb2 : b < 1000000000000000000000000000000000000000000000000000000000000) (hc : 0 ≤ c) (hc2 : c < 1000000000) (hk : 0 < k) (hk2 : k ≤ 100000000000000000000000000000000000000000000000000000000000000000000000000000000000000000000000000) :
    ∃ r a' c' : Int, F_law_take [.io [.int a, .int b, .int c], .fz (.int k)] = .ret (.fz (.int r)) [some (.io [.int a', .int b, .int c']), none] ∧ 0 ≤ r ∧ r < k ∧ 0 ≤ a' ∧ 0 ≤ c' ∧ c' ≤ c + 1 := by
  by_cases h : 1 < a
  · have h' : decide (1 < a) = true := decide_eq_true h
    unfold F_law_take B_law_take
    simp (disch := omega) only [EVA, ev_it, ev_if_f, List.getElem?_cons_zero, List.getElem?_cons_succ, List.set_cons_zero, List.set_cons_succ, Bool.and_true, Bool.true_and, Bool.or_true, Bool.true_or, Bool.or_false, Bool.false_or, Bool.and_false, Bool.false_and, Bool.not_true, Bool.not_false, List.length_cons, List.length_nil, List.map_cons, List.map_nil, List.replicate_succ, List.replicate_zero, List.cons_append, List.nil_append, if_true, if_false, Nat.reduceAdd, Nat.reduceEqDiff, beq_self_eq_true, reduceIte, Nat.zero_add, eq_self, SZ, List.contains_cons, List.contains_nil, Nat.reduceBEq, Nat.reduceLT, Nat.reduceLeDiff, Int.reduceToNat, Int.reducePow, Int.reduceAdd, Int.reduceSub, Int.reduceMul, Int.reduceNeg, Int.reduceLT, Int.reduceLE, Int.reduceEq, Int.reduceDiv, Int.reduceMod, Option.map_some, Option.map_none, h']
    exact ⟨_, _, _, rfl, Int.emod_nonneg _ (by omega), Int.emod_lt_of_pos _ hk, Int.ediv_nonneg ha (by omega), hc, by omega⟩
  · have h' : decide (1 < a) = false := decide_eq_false h
    unfold F_law_take B_law_take
    simp (disch := omega) only [EVA, ev_it, ev_if_f, List.getElem?_cons_zero, List.getElem?_cons_succ, List.set_cons_zero, List.set_cons_succ, Bool.and_true, Bool.true_and, Bool.or_true, Bool.true_or, Bool.or_false, Bool.false_or, Bool.and_false, Bool.false_and, Bool.not_true, Bool.not_false, List.length_cons, List.length_nil, List.map_cons, List.map_nil, List.replicate_succ, List.replicate_zero, List.cons_append, List.nil_append, if_true, if_false, Nat.reduceAdd, Nat.reduceEqDiff, beq_self_eq_true, reduceIte, Nat.zero_add, eq_self, SZ, List.contains_cons, List.contains_nil, Nat.reduceBEq, Nat.reduceLT, Nat.reduceLeDiff, Int.reduceToNat, Int.reducePow, Int.reduceAdd, Int.reduceSub, Int.reduceMul, Int.reduceNeg, Int.reduceLT, Int.reduceLE, Int.reduceEq, Int.reduceDiv, Int.reduceMod, Option.map_some, Option.map_none, h']
    exact ⟨_, _, _, rfl, Int.emod_nonneg _ (by omega), Int.emod_lt_of_pos _ hk, ha, by omega, by omega⟩
structure Src (a b c : Int) (n : Int) : Prop where
  a0 : 0 ≤ a
  b0 : 0 ≤ b
  b1 : b < 1000000000000000000000000000000000000000000000000000000000000
  c0 : 0 ≤ c
  c1 : c ≤ n
theorem Src.up {a b c n m : Int} (s : Src a b c n) (h : n ≤ m) : Src a b c m := ⟨s.a0, s.b0, s.b1, s.c0, by have := s.c1; omega⟩
theorem take_src {a b c n k : Int} (s : Src a b c n) (hn : n < 100000000) (hk : 0 < k) (hk2 : k ≤ 1000000000000000000000000000000000000000000000000000000000000) :
    ∃ r a' c' : Int, F_law_take [.io [.int a, .int b, .int c], .fz (.int k)] = .ret (.fz (.int r)) [some (.io [.int a', .int b, .int c']), none] ∧ 0 ≤ r ∧ r < k ∧ Src a' b c' (n + 1) := by
  obtain ⟨r, a', c', e, h1, h2, h3, h4, h5⟩ := take_ok a b c k s.a0 s.b0 s.b1 s.c0 (by have := s.c1; omega) hk (by omega)
  exact ⟨r, a', c', e, h1, h2, h3, s.b0, s.b1, h4, by have := s.c1; omega⟩
theorem cell_ok (ns : List Int) (k : Nat) : ∃ z : Int, F_law_cell_at [.fz (.scr (ns.map .int)), .fz (.int (k : Nat))] = .ret (.fz (.int z)) [none, none] := by
  by_cases hk : k < ns.length
  · have e1 : decide ((k : Int) < (ns.map D.int).length) = true := decide_eq_true (by rw [List.length_map]; omega)
    have e2 : ixD (.scr (ns.map .int)) (.int k) = some (.fz (.int ns[k])) := by
      rw [ix_s_nn (by omega) (by rw [List.length_map]; omega), Int.toNat_natCast, List.getElem?_map, List.getElem?_eq_getElem hk]
      rfl
    refine ⟨ns[k], ?_⟩
    unfold F_law_cell_at B_law_cell_at
    simp only [EVA, ev_it, ev_if_f, List.getElem?_cons_zero, List.getElem?_cons_succ, List.set_cons_zero, List.set_cons_succ, Bool.and_true, Bool.true_and, Bool.or_true, Bool.true_or, Bool.or_false, Bool.false_or, Bool.and_false, Bool.false_and, Bool.not_true, Bool.not_false, List.length_cons, List.length_nil, List.map_cons, List.map_nil, List.replicate_succ, List.replicate_zero, List.cons_append, List.nil_append, if_true, if_false, Nat.reduceAdd, Nat.reduceEqDiff, beq_self_eq_true, reduceIte, Nat.zero_add, eq_self, SZ, List.contains_cons, List.contains_nil, Nat.reduceBEq, Nat.reduceLT, Nat.reduceLeDiff, Int.reduceToNat, Int.reducePow, Int.reduceAdd, Int.reduceSub, Int.reduceMul, Int.reduceNeg, Int.reduceLT, Int.reduceLE, Int.reduceEq, Int.reduceDiv, Int.reduceMod, Option.map_some, Option.map_none, e1, e2]
  · have e1 : decide ((k : Int) < (ns.map D.int).length) = false := decide_eq_false (by rw [List.length_map]; omega)
    refine ⟨0, ?_⟩
    unfold F_law_cell_at B_law_cell_at
    simp only [EVA, ev_it, ev_if_f, List.getElem?_cons_zero, List.getElem?_cons_succ, List.set_cons_zero, List.set_cons_succ, Bool.and_true, Bool.true_and, Bool.or_true, Bool.true_or, Bool.or_false, Bool.false_or, Bool.and_false, Bool.false_and, Bool.not_true, Bool.not_false, List.length_cons, List.length_nil, List.map_cons, List.map_nil, List.replicate_succ, List.replicate_zero, List.cons_append, List.nil_append, if_true, if_false, Nat.reduceAdd, Nat.reduceEqDiff, beq_self_eq_true, reduceIte, Nat.zero_add, eq_self, SZ, List.contains_cons, List.contains_nil, Nat.reduceBEq, Nat.reduceLT, Nat.reduceLeDiff, Int.reduceToNat, Int.reducePow, Int.reduceAdd, Int.reduceSub, Int.reduceMul, Int.reduceNeg, Int.reduceLT, Int.reduceLE, Int.reduceEq, Int.reduceDiv, Int.reduceMod, Option.map_some, Option.map_none, e1]
theorem bag_ok (z : Int) (k : Nat) (hk : k ≤ 100) : ∃ a b : Int, F_law_bag [.fz (.int z), .fz (.int (k : Nat))] = .ret (.ow [.int a, .int b, .int 0]) [none, none] ∧ Src a b 0 0 := by
  unfold F_law_bag B_law_bag
  simp (maxSteps := 20000000) (disch := (first | assumption | omega | (simp only [List.length_cons, List.length_nil, List.length_append, List.length_map, SZ]; done) | (simp only [List.length_cons, List.length_nil, List.length_append, List.length_map, SZ]; omega))) only [EVA, ev_it, ev_if_f, List.getElem?_cons_zero, List.getElem?_cons_succ, List.set_cons_zero, List.set_cons_succ, Bool.and_true, Bool.true_and, Bool.or_true, Bool.true_or, Bool.or_false, Bool.false_or, Bool.and_false, Bool.false_and, Bool.not_true, Bool.not_false, List.length_cons, List.length_nil, List.map_cons, List.map_nil, List.replicate_succ, List.replicate_zero, List.cons_append, List.nil_append, if_true, if_false, Nat.reduceAdd, Nat.reduceEqDiff, beq_self_eq_true, reduceIte, Nat.zero_add, eq_self, SZ, List.contains_cons, List.contains_nil, Nat.reduceBEq, Nat.reduceLT, Nat.reduceLeDiff, Int.reduceToNat, Int.reducePow, Int.reduceAdd, Int.reduceSub, Int.reduceMul, Int.reduceNeg, Int.reduceLT, Int.reduceLE, Int.reduceEq, Int.reduceDiv, Int.reduceMod, Option.map_some, Option.map_none]
  have h1 := Int.emod_nonneg z (show (162259276829213363391578010288127 : Int) ≠ 0 by decide)
  have h2 := Int.emod_lt_of_pos z (show (0 : Int) < 162259276829213363391578010288127 by decide)
  refine ⟨_, _, rfl, ?_, ?_, ?_, by omega, by omega⟩
  · split <;> omega
  · omega
  · omega
/-! ### wide lines -/
def Bd (l : Runs) : Prop := ∀ r ∈ l, 1 ≤ r.2 ∧ r.2 ≤ 1000000000000000000000000000000
theorem Bd.ps : ∀ {l : Runs}, Bd l → Ps l
  | [], _ => trivial
  | r :: l, h => ⟨(h r (List.mem_cons_self ..)).1, Bd.ps fun x hx => h x (List.mem_cons_of_mem _ hx)⟩
theorem Bd.amt : ∀ {l : Runs}, Bd l → amt l ≤ l.length * 1000000000000000000000000000000
  | [], _ => by simp [Mi.amt]
  | r :: l, h => by
    have h1 := (h r (List.mem_cons_self ..)).2
    have h2 := Bd.amt (l := l) fun x hx => h x (List.mem_cons_of_mem _ hx)
    simp only [Mi.amt, List.length_cons]
    omega
/-! ### a place -/
theorem cut_map (l : Runs) (a b : Option Int) : ∃ l' : Runs, cutG (l.map runD) a b = l'.map runD := by
  unfold cutG
  rw [List.length_map]
  exact ⟨_, by rw [← List.map_drop, ← List.map_take]⟩
theorem pick6i (x y z u v t r : Int) (h1 : 0 ≤ r) (h2 : r < 6) : ∃ w, ixD (.lst [.int x, .int y, .int z, .int u, .int v, .int t]) (.int r) = some (.fz (.int w)) := by
  rcases (show r = 0 ∨ r = 1 ∨ r = 2 ∨ r = 3 ∨ r = 4 ∨ r = 5 by omega) with rfl | rfl | rfl | rfl | rfl | rfl
  · exact ⟨x, rfl⟩
  · exact ⟨y, rfl⟩
  · exact ⟨z, rfl⟩
  · exact ⟨u, rfl⟩
  · exact ⟨v, rfl⟩
  · exact ⟨t, rfl⟩
end G

namespace G
open PySem PySem.Spec PyProof.Rows L2 Mi
theorem place_in {l : Runs} (hl : l.length < 900) {p : Int} (h : 1 ≤ p) (h2 : p ≤ amt l) : Fcheck_place [.fz (.tup (l.map runD)), .fz (.int p)] = .ret (.fz .non) [none, none] := by
  have e1 := is_place_ok hl p
  rw [decide_eq_true ⟨h, h2⟩] at e1
  unfold Fcheck_place Bcheck_place
  revert e1
  generalize Fis_place = f1
  generalize D.tup (l.map runD) = ld
  intro e1
  simp (maxSteps := 20000000) (disch := (first | assumption | omega | (simp only [List.length_cons, List.length_nil, List.length_append, List.length_map, SZ]; done) | (simp only [List.length_cons, List.length_nil, List.length_append, List.length_map, SZ]; omega))) only [EVA, ev_it, ev_if_f, List.getElem?_cons_zero, List.getElem?_cons_succ, List.set_cons_zero, List.set_cons_succ, Bool.and_true, Bool.true_and, Bool.or_true, Bool.true_or, Bool.or_false, Bool.false_or, Bool.and_false, Bool.false_and, Bool.not_true, Bool.not_false, List.length_cons, List.length_nil, List.map_cons, List.map_nil, List.replicate_succ, List.replicate_zero, List.cons_append, List.nil_append, if_true, if_false, Nat.reduceAdd, Nat.reduceEqDiff, beq_self_eq_true, reduceIte, Nat.zero_add, eq_self, SZ, List.contains_cons, List.contains_nil, Nat.reduceBEq, Nat.reduceLT, Nat.reduceLeDiff, Int.reduceToNat, Int.reducePow, Int.reduceAdd, Int.reduceSub, Int.reduceMul, Int.reduceNeg, Int.reduceLT, Int.reduceLE, Int.reduceEq, Int.reduceDiv, Int.reduceMod, Option.map_some, Option.map_none, e1]
theorem place_out {l : Runs} (hl : l.length < 900) {p : Int} (h : ¬ (1 ≤ p ∧ p ≤ amt l)) : Fcheck_place [.fz (.tup (l.map runD)), .fz (.int p)] = .exc "InvalidPlace" [none, none] := by
  have e1 := is_place_ok hl p
  rw [decide_eq_false h] at e1
  unfold Fcheck_place Bcheck_place
  revert e1
  generalize Fis_place = f1
  generalize D.tup (l.map runD) = ld
  intro e1
  simp (maxSteps := 20000000) (disch := (first | assumption | omega | (simp only [List.length_cons, List.length_nil, List.length_append, List.length_map, SZ]; done) | (simp only [List.length_cons, List.length_nil, List.length_append, List.length_map, SZ]; omega))) only [EVA, ev_it, ev_if_f, List.getElem?_cons_zero, List.getElem?_cons_succ, List.set_cons_zero, List.set_cons_succ, Bool.and_true, Bool.true_and, Bool.or_true, Bool.true_or, Bool.or_false, Bool.false_or, Bool.and_false, Bool.false_and, Bool.not_true, Bool.not_false, List.length_cons, List.length_nil, List.map_cons, List.map_nil, List.replicate_succ, List.replicate_zero, List.cons_append, List.nil_append, if_true, if_false, Nat.reduceAdd, Nat.reduceEqDiff, beq_self_eq_true, reduceIte, Nat.zero_add, eq_self, SZ, List.contains_cons, List.contains_nil, Nat.reduceBEq, Nat.reduceLT, Nat.reduceLeDiff, Int.reduceToNat, Int.reducePow, Int.reduceAdd, Int.reduceSub, Int.reduceMul, Int.reduceNeg, Int.reduceLT, Int.reduceLE, Int.reduceEq, Int.reduceDiv, Int.reduceMod, Option.map_some, Option.map_none, e1]

end G

namespace Mi
/-! ### the i-th walker to leave at an end -/
def lvT (N p r i : Int) : Int := ((i + 1) * N - r + p - 1) / p - 1
theorem lv_c {N p r i : Int} (hp : 1 ≤ p) : (i + 1) * N - r ≤ p * (lvT N p r i + 1) ∧ p * lvT N p r i + 1 ≤ (i + 1) * N - r := by
  have k1 := Int.emod_add_mul_ediv ((i + 1) * N - r + p - 1) p
  have k2 := Int.emod_nonneg ((i + 1) * N - r + p - 1) (show p ≠ 0 by omega)
  have k3 := Int.emod_lt_of_pos ((i + 1) * N - r + p - 1) (show 0 < p by omega)
  have e : lvT N p r i + 1 = ((i + 1) * N - r + p - 1) / p := by unfold lvT; omega
  have e2 : p * (lvT N p r i + 1) = p * lvT N p r i + p := by rw [Int.mul_add, Int.mul_one]
  rw [← e] at k1
  omega
theorem lv_pos {N p r i : Int} (hp : 1 ≤ p) (hN : p < N) (hr : r < N) (hi : 0 ≤ i) : 0 ≤ lvT N p r i ∧ lvT N p r i ≤ (i + 1) * N + N ∨ r < 0 := by
  by_cases h0 : r < 0
  · exact .inr h0
  left
  obtain ⟨k1, k2⟩ := lv_c (N := N) (r := r) (i := i) hp
  have e1 : (i + 1) * N = i * N + N := by rw [Int.add_mul, Int.one_mul]
  have e2 : 0 ≤ i * N := Int.mul_nonneg hi (by omega)
  constructor
  · refine Int.not_lt.mp fun z => ?_
    have : p * (lvT N p r i + 1) ≤ p * 0 := Int.mul_le_mul_of_nonneg_left (by omega) (by omega)
    omega
  · refine Int.not_lt.mp fun z => ?_
    have : 1 * lvT N p r i ≤ p * lvT N p r i := Int.mul_le_mul_of_nonneg_right hp (by omega)
    omega
/-- the right exits of the walkers before, and with the next one -/
theorem lv_at {n p r i : Int} (hp : 1 ≤ p) (hp2 : p ≤ n) (hr : 0 ≤ r) (hr2 : r ≤ n) (hi : 0 ≤ i) :
    exB (n + 1) r (p, lvT (n + 1) p r i) = i ∧ exB (n + 1) r (p, lvT (n + 1) p r i + 1) = i + 1 := by
  obtain ⟨k1, k2⟩ := lv_c (N := n + 1) (r := r) (i := i) hp
  have e1 : (i + 1) * (n + 1) = i * (n + 1) + (n + 1) := by rw [Int.add_mul, Int.one_mul]
  have e2 : p * (lvT (n + 1) p r i + 1) = p * lvT (n + 1) p r i + p := by rw [Int.mul_add, Int.mul_one]
  constructor
  · show (r + p * lvT (n + 1) p r i) / (n + 1) = i
    have e : r + p * lvT (n + 1) p r i = (r + p * lvT (n + 1) p r i - i * (n + 1)) + i * (n + 1) := by omega
    rw [e, Int.add_mul_ediv_right _ _ (by omega), Int.ediv_eq_zero_of_lt (by omega) (by omega), Int.zero_add]
  · show (r + p * (lvT (n + 1) p r i + 1)) / (n + 1) = i + 1
    have e : r + p * (lvT (n + 1) p r i + 1) = (r + p * (lvT (n + 1) p r i + 1) - (i + 1) * (n + 1)) + (i + 1) * (n + 1) := by omega
    rw [e, Int.add_mul_ediv_right _ _ (by omega), Int.ediv_eq_zero_of_lt (by omega) (by omega), Int.zero_add]
theorem ex_bounds {n p r m : Int} (hn : 0 ≤ n) : (n + 1) * exB (n + 1) r (p, m) ≤ r + p * m ∧ r + p * m ≤ (n + 1) * exB (n + 1) r (p, m) + n := by
  have k1 := Int.emod_add_mul_ediv (r + p * m) (n + 1)
  have k2 := Int.emod_nonneg (r + p * m) (show n + 1 ≠ 0 by omega)
  have k3 := Int.emod_lt_of_pos (r + p * m) (show 0 < n + 1 by omega)
  have e : exB (n + 1) r (p, m) = (r + p * m) / (n + 1) := rfl
  rw [e]
  omega
/-- a walker who leaves right is the one with that number -/
theorem lv_uniq {n p r m : Int} (hp : 1 ≤ p) (hp2 : p ≤ n) (h : exB (n + 1) r (p, m + 1) = exB (n + 1) r (p, m) + 1) : lvT (n + 1) p r (exB (n + 1) r (p, m)) = m := by
  obtain ⟨k1, k2⟩ := lv_c (N := n + 1) (r := r) (i := exB (n + 1) r (p, m)) hp
  obtain ⟨k3, k4⟩ := ex_bounds (n := n) (p := p) (r := r) (m := m) (by omega)
  obtain ⟨k5, k6⟩ := ex_bounds (n := n) (p := p) (r := r) (m := m + 1) (by omega)
  rw [h] at k5
  have c : (exB (n + 1) r (p, m) + 1) * (n + 1) = (n + 1) * (exB (n + 1) r (p, m) + 1) := Int.mul_comm _ _
  have c2 : (n + 1) * (exB (n + 1) r (p, m) + 1) = (n + 1) * exB (n + 1) r (p, m) + (n + 1) := by rw [Int.mul_add, Int.mul_one]
  have a1 : ¬ lvT (n + 1) p r (exB (n + 1) r (p, m)) < m := fun z => by
    have : p * (lvT (n + 1) p r (exB (n + 1) r (p, m)) + 1) ≤ p * m := Int.mul_le_mul_of_nonneg_left (by omega) (by omega)
    omega
  have a2 : ¬ m < lvT (n + 1) p r (exB (n + 1) r (p, m)) := fun z => by
    have : p * (m + 1) ≤ p * lvT (n + 1) p r (exB (n + 1) r (p, m)) := Int.mul_le_mul_of_nonneg_left (by omega) (by omega)
    omega
  omega
/-- left exits are right exits, seen from the other side -/
theorem ex_mir {n p r m : Int} (hn : 0 ≤ n) : m - exB (n + 1) r (p, m) = exB (n + 1) (n - r) (n + 1 - p, m) := by
  have e : n - r + (n + 1 - p) * m = n - (r + p * m) + m * (n + 1) := by
    rw [Int.sub_mul, Int.mul_comm (n + 1) m]
    omega
  show m - (r + p * m) / (n + 1) = (n - r + (n + 1 - p) * m) / (n + 1)
  rw [e, Int.add_mul_ediv_right _ _ (by omega)]
  generalize r + p * m = a
  have k1 := Int.emod_add_mul_ediv a (n + 1)
  have k2 := Int.emod_nonneg a (show n + 1 ≠ 0 by omega)
  have k3 := Int.emod_lt_of_pos a (show 0 < n + 1 by omega)
  have e3 : n - a = (n - a % (n + 1)) + -(a / (n + 1)) * (n + 1) := by
    rw [Int.neg_mul, Int.mul_comm (a / (n + 1)) (n + 1)]
    omega
  have e4 : (n - a % (n + 1)) / (n + 1) = 0 := Int.ediv_eq_zero_of_lt (by omega) (by omega)
  rw [e3, Int.add_mul_ediv_right _ _ (by omega), e4]
  omega
theorem ex_step {n p r m : Int} (hp : 1 ≤ p) (hp2 : p ≤ n) (hr : 0 ≤ r) (hr2 : r ≤ n) (hm : 0 ≤ m) :
    exB (n + 1) r (p, m + 1) = exB (n + 1) r (p, m) + (if n < nxB (n + 1) r (p, m) + p then 1 else 0) := by
  obtain ⟨_, _, _, _, _, k6, k7, _⟩ := blk1 (b := (p, m)) hr hr2 ⟨hp, hp2, hm⟩
  rw [(split_ex hr hr2 ⟨hp, hp2⟩ hm (show (0 : Int) ≤ 1 by omega)).1]
  congr 1
  show (nxB (n + 1) r (p, m) + p * 1) / (n + 1) = _
  rw [Int.mul_one]
  split
  · have e : nxB (n + 1) r (p, m) + p = (nxB (n + 1) r (p, m) + p - (n + 1)) + 1 * (n + 1) := by omega
    rw [e, Int.add_mul_ediv_right _ _ (by omega), Int.ediv_eq_zero_of_lt (by omega) (by omega)]
    rfl
  · exact Int.ediv_eq_zero_of_lt (by omega) (by omega)
end Mi

namespace G
open PySem PySem.Spec PyProof.Rows L2 Mi
theorem check_index_ok {i : Int} (h : 0 ≤ i) : Fcheck_index [.fz (.int i)] = .ret (.fz .non) [none] := by
  have e1 := is_int_i i 0
  rw [decide_eq_true h] at e1
  unfold Fcheck_index Bcheck_index
  revert e1
  generalize Fis_integer = f1
  intro e1
  simp (maxSteps := 20000000) (disch := (first | assumption | omega | (simp only [List.length_cons, List.length_nil, List.length_append, List.length_map, SZ]; done) | (simp only [List.length_cons, List.length_nil, List.length_append, List.length_map, SZ]; omega))) only [EVA, ev_it, ev_if_f, List.getElem?_cons_zero, List.getElem?_cons_succ, List.set_cons_zero, List.set_cons_succ, Bool.and_true, Bool.true_and, Bool.or_true, Bool.true_or, Bool.or_false, Bool.false_or, Bool.and_false, Bool.false_and, Bool.not_true, Bool.not_false, List.length_cons, List.length_nil, List.map_cons, List.map_nil, List.replicate_succ, List.replicate_zero, List.cons_append, List.nil_append, if_true, if_false, Nat.reduceAdd, Nat.reduceEqDiff, beq_self_eq_true, reduceIte, Nat.zero_add, eq_self, SZ, List.contains_cons, List.contains_nil, Nat.reduceBEq, Nat.reduceLT, Nat.reduceLeDiff, Int.reduceToNat, Int.reducePow, Int.reduceAdd, Int.reduceSub, Int.reduceMul, Int.reduceNeg, Int.reduceLT, Int.reduceLE, Int.reduceEq, Int.reduceDiv, Int.reduceMod, Option.map_some, Option.map_none, e1]
def lvQ (q : Bool) (n p r i : Int) : Int := if q then lvT (n + 1) (n + 1 - p) (n - r) i else lvT (n + 1) p r i
/-- the law's exits at a side -/
def exQ (q : Bool) (n p r m : Int) : Int := if q then m - exB (n + 1) r (p, m) else exB (n + 1) r (p, m)
theorem lvQ_at {n p r i : Int} (q : Bool) (hp : 1 ≤ p) (hp2 : p ≤ n) (hr : 0 ≤ r) (hr2 : r ≤ n) (hi : 0 ≤ i) :
    exQ q n p r (lvQ q n p r i) = i ∧ exQ q n p r (lvQ q n p r i + 1) = i + 1 ∧ 0 ≤ lvQ q n p r i ∧ lvQ q n p r i ≤ (i + 1) * (n + 1) + (n + 1) := by
  cases q with
  | false =>
    obtain ⟨k1, k2⟩ := lv_at hp hp2 hr hr2 hi
    rcases lv_pos (N := n + 1) (r := r) (i := i) hp (by omega) (by omega) hi with ⟨k3, k4⟩ | k3
    · exact ⟨k1, k2, k3, k4⟩
    · omega
  | true =>
    obtain ⟨k1, k2⟩ := lv_at (n := n) (p := n + 1 - p) (r := n - r) (i := i) (by omega) (by omega) (by omega) (by omega) hi
    rw [← ex_mir (by omega)] at k1 k2
    rcases lv_pos (N := n + 1) (p := n + 1 - p) (r := n - r) (i := i) (by omega) (by omega) (by omega) hi with ⟨k3, k4⟩ | k3
    · exact ⟨k1, k2, k3, k4⟩
    · omega
theorem lvQ_uniq {n p r m : Int} (q : Bool) (hp : 1 ≤ p) (hp2 : p ≤ n) (h : exQ q n p r (m + 1) = exQ q n p r m + 1) : lvQ q n p r (exQ q n p r m) = m := by
  cases q with
  | false => exact lv_uniq hp hp2 h
  | true =>
    have h : m + 1 - exB (n + 1) r (p, m + 1) = m - exB (n + 1) r (p, m) + 1 := h
    show lvT (n + 1) (n + 1 - p) (n - r) (m - exB (n + 1) r (p, m)) = m
    rw [ex_mir (by omega), ex_mir (by omega)] at h
    rw [ex_mir (by omega)]
    exact lv_uniq (by omega) (by omega) h
theorem big_mul {i n : Int} (h0 : 0 ≤ i) (h1 : i ≤ 10000000000000000000000000000000000000000000000000000000000000000000000000000000000) (h2 : 0 ≤ n) (h3 : n ≤ 10000000000000000000000000000000000) :
    (i + 1) * (n + 1) + (n + 1) ≤ 1000000000000000000000000000000000000000000000000000000000000000000000000000000000000000000000000000000000000000000000000000000000 := by
  have k1 : (i + 1) * (n + 1) ≤ (10000000000000000000000000000000000000000000000000000000000000000000000000000000000 + 1) * (10000000000000000000000000000000000 + 1) :=
    Int.mul_le_mul (by omega) (by omega) (by omega) (by omega)
  have k2 : (10000000000000000000000000000000000000000000000000000000000000000000000000000000000 + 1 : Int) * (10000000000000000000000000000000000 + 1) ≤ 100000000000000000000000000000000000000000000000000000000000000000000000000000000000000000000000000000000000000000000000000000000 := by decide
  omega
theorem sWhile_succ (n : Nat) (t : Te) (b : Sm) (ρ : Mi.Env) : sWhile (n + 1) t b ρ = (t ρ).toS fun c ρ1 => if c then turned (b ρ1) (sWhile n t b) else .nx ρ1 := rfl
theorem crR_ne {l : Runs} (h : Ln l) {bs : List (Int × Int)} (hv : Vb (amt l) bs) : crR l bs ≠ [] := fun z => by
  have h1 := (crR_amt h.good hv).1
  rw [z] at h1
  have h2 := (amt_nn h.good.ps).2
  have h3 : l.length ≠ 0 := fun y => h.ne (List.eq_nil_of_length_eq_zero y)
  have h4 : amt ([] : Runs) = 0 := rfl
  omega
/-- what the search ends with -/
structure Lst (l : Runs) (p m : Int) : Prop where
  low : 0 ≤ m
  top : m ≤ amt l + 1
  yes : st1 l p m = true
  no : 0 < m → st1 l p (m - 1) = false
end G

namespace Mi
/-! ### steps of a crowd -/
def tM : List (Int × Int) → Int
  | [] => 0
  | b :: bs => b.2 + tM bs
def tQ : List (Int × Int) → Int
  | [] => 0
  | b :: bs => b.2 * b.1 * b.1 + tQ bs
theorem tX_le {n : Int} : ∀ {bs : List (Int × Int)} {r : Int}, 0 ≤ r → r ≤ n → Vb n bs → 0 ≤ tX (n + 1) r bs ∧ tX (n + 1) r bs ≤ tM bs ∧ tL (n + 1) r bs = tM bs - tX (n + 1) r bs
  | [], r, _, _, _ => ⟨Int.le_refl _, Int.le_refl _, rfl⟩
  | b :: bs, r, h0, h1, h => by
    obtain ⟨k1, k2, _, _, _, k6, k7, _⟩ := blk1 h0 h1 (h b (List.mem_cons_self ..))
    obtain ⟨i1, i2, i3⟩ := tX_le k6 k7 h.tail
    refine ⟨?_, ?_, ?_⟩
    · show 0 ≤ exB (n + 1) r b + tX (n + 1) (nxB (n + 1) r b) bs
      omega
    · show exB (n + 1) r b + tX (n + 1) (nxB (n + 1) r b) bs ≤ b.2 + tM bs
      omega
    · show b.2 - exB (n + 1) r b + tL (n + 1) (nxB (n + 1) r b) bs = b.2 + tM bs - (exB (n + 1) r b + tX (n + 1) (nxB (n + 1) r b) bs)
      omega
theorem tM_le {B : Int} (hB : 0 ≤ B) : ∀ {bs : List (Int × Int)}, (∀ b ∈ bs, b.2 ≤ B) → tM bs ≤ bs.length * B
  | [], _ => by simp [tM]
  | b :: bs, h => by
    have h1 := h b (List.mem_cons_self ..)
    have h2 := tM_le hB (bs := bs) fun x hx => h x (List.mem_cons_of_mem _ hx)
    show b.2 + tM bs ≤ ((bs.length + 1 : Nat) : Int) * B
    have e : ((bs.length + 1 : Nat) : Int) * B = bs.length * B + B := by
      rw [Int.natCast_add, Int.add_mul]
      simp
    omega
theorem SR2_b : ∀ {l : Runs} {o : Int}, Ps l → 0 ≤ o → 0 ≤ SR2 o l ∧ SR2 o l ≤ (o + amt l) * (o + amt l + 1) - o * (o + 1)
  | [], o, _, h => by
    show (0 : Int) ≤ 0 ∧ 0 ≤ (o + 0) * (o + 0 + 1) - o * (o + 1)
    rw [Int.add_zero]
    omega
  | (q, c) :: l, o, hp, h => by
    have hc : 1 ≤ c := hp.1
    obtain ⟨i1, i2⟩ := SR2_b (l := l) (o := o + c) hp.2 (by omega)
    have e1 : (o + c) * (o + c + 1) = o * (o + 1) + c * (2 * o + c + 1) := by
      simp only [Int.mul_add, Int.add_mul, Int.mul_one, Int.one_mul]
      have := Int.mul_comm o c
      have e : c * (2 * o) = 2 * (c * o) := by rw [← Int.mul_assoc, Int.mul_comm c 2, Int.mul_assoc]
      omega
    have e2 : 0 ≤ c * (2 * o + c + 1) := Int.mul_nonneg (by omega) (by omega)
    have e3 : o + c + amt l = o + (c + amt l) := by omega
    rw [e3] at i2
    show 0 ≤ (if q then 0 else c * (2 * o + c + 1)) + SR2 (o + c) l ∧ (if q then 0 else c * (2 * o + c + 1)) + SR2 (o + c) l ≤ (o + (c + amt l)) * (o + (c + amt l) + 1) - o * (o + 1)
    cases q
    · show 0 ≤ c * (2 * o + c + 1) + SR2 (o + c) l ∧ c * (2 * o + c + 1) + SR2 (o + c) l ≤ _
      omega
    · show 0 ≤ 0 + SR2 (o + c) l ∧ 0 + SR2 (o + c) l ≤ _
      omega
theorem sumR_b {l : Runs} (hp : Ps l) (hb : amt l ≤ 10000000000000000000000000000000000) : 0 ≤ sumR 0 l ∧ sumR 0 l ≤ 1000000000000000000000000000000000000000000000000000000000000000000000 := by
  obtain ⟨h1, h2⟩ := SR2_b (o := 0) hp (Int.le_refl _)
  have h3 := sumR_2 l 0
  have h4 := (amt_nn hp).1
  have k : amt l * (amt l + 1) ≤ 10000000000000000000000000000000000 * (10000000000000000000000000000000000 + 1) := Int.mul_le_mul hb (by omega) (by omega) (by omega)
  rw [Int.zero_add] at h2
  have k2 : (10000000000000000000000000000000000 * (10000000000000000000000000000000000 + 1) : Int) = 100000000000000000000000000000000010000000000000000000000000000000000 := by decide
  omega
theorem crR_cons {l : Runs} (h : Good l) {b : Int × Int} {bs : List (Int × Int)} (hv : Vb (amt l) (b :: bs)) : crR l (b :: bs) = crR (crR l [b]) bs := by
  have e : b :: bs = [b] ++ bs := rfl
  have hb := hv b (List.mem_cons_self ..)
  rw [e, crR_app h (vb_one hb.1 hb.2.1 hb.2.2) hv.tail]
/-- the steps of a crowd -/
def stepsC (l : Runs) (bs : List (Int × Int)) : Int := tX (amt l + 1) (amtR l) bs * (amt l + 1) * (amt l + 1) - tQ bs + 2 * (sumR 0 (crR l bs) - sumR 0 l)
end Mi

namespace Mi
open PySem PySem.Spec PyProof.Rows L2
/-! ### crowds in any order -/
theorem one_x {n r p : Int} (h0 : 0 ≤ r) (h1 : r ≤ n) (hp : 1 ≤ p) (hp2 : p ≤ n) :
    (r + p ≤ n ∧ exB (n + 1) r (p, 1) = 0 ∧ nxB (n + 1) r (p, 1) = r + p) ∨ (n < r + p ∧ exB (n + 1) r (p, 1) = 1 ∧ nxB (n + 1) r (p, 1) = r + p - (n + 1)) := by
  obtain ⟨k1, k2, _, _, _, k6, k7, k8⟩ := blk1 (b := (p, 1)) h0 h1 ⟨hp, hp2, (by decide : (0 : Int) ≤ 1)⟩
  have k2 : exB (n + 1) r (p, 1) ≤ 1 := k2
  have k8 : (n + 1) * exB (n + 1) r (p, 1) + nxB (n + 1) r (p, 1) = r + p * 1 := k8
  rw [Int.mul_one] at k8
  have hx : exB (n + 1) r (p, 1) = 0 ∨ exB (n + 1) r (p, 1) = 1 := by omega
  rcases hx with hx | hx
  · rw [hx, Int.mul_zero] at k8
    exact .inl ⟨by omega, hx, by omega⟩
  · rw [hx, Int.mul_one] at k8
    exact .inr ⟨by omega, hx, by omega⟩
theorem crR_fl {l : Runs} (h : Good l) {bs : List (Int × Int)} (hb : Vb (amt l) bs) {k : Int} (k0 : 0 ≤ k) (k1 : k ≤ amt l) :
    fl k (crR l bs) = max 0 (max (k - tR (amt l + 1) (amtR l) bs) (fl k l - tU (amt l + 1) (amtR l) bs)) := by
  have hr := amtR_le h.ps
  obtain ⟨t1, t2, t3, t4, t5, _, _⟩ := tot_ok hr.1 hr.2 hb
  unfold crR
  rw [blk_fl h.ps t1 t2 (by omega) (by omega) k0 k1, t3]
theorem crR_eq {l : Runs} (h : Good l) {bs cs : List (Int × Int)} (hb : Vb (amt l) bs) (hc : Vb (amt l) cs)
    (e : ∀ k : Int, 0 ≤ k → k ≤ amt l → max 0 (max (k - tR (amt l + 1) (amtR l) bs) (fl k l - tU (amt l + 1) (amtR l) bs)) = max 0 (max (k - tR (amt l + 1) (amtR l) cs) (fl k l - tU (amt l + 1) (amtR l) cs))) : crR l bs = crR l cs := by
  have a1 := (crR_amt h hb).1
  have a2 := (crR_amt h hc).1
  refine fl_inj (crR_good _ _) (crR_good _ _) (by omega) fun k k0 k1 => ?_
  rw [a1] at k1
  rw [crR_fl h hb k0 k1, crR_fl h hc k0 k1]
  exact e k k0 k1
theorem vb_two {n p m q k : Int} (h1 : 1 ≤ p) (h2 : p ≤ n) (h3 : 0 ≤ m) (h4 : 1 ≤ q) (h5 : q ≤ n) (h6 : 0 ≤ k) : Vb n [(p, m), (q, k)] := fun x hx => by
  simp only [List.mem_cons, List.not_mem_nil, or_false] at hx
  rcases hx with rfl | rfl
  · exact ⟨h1, h2, h3⟩
  · exact ⟨h4, h5, h6⟩
theorem swap1 {l : Runs} (h : Good l) {p q : Int} (hp : 1 ≤ p) (hp2 : p ≤ amt l) (hq : 1 ≤ q) (hq2 : q ≤ amt l) : crR l [(p, 1), (q, 1)] = crR l [(q, 1), (p, 1)] := by
  have hr := amtR_le h.ps
  have hlr := amtL_R l
  refine crR_eq h (vb_two hp hp2 (by decide) hq hq2 (by decide)) (vb_two hq hq2 (by decide) hp hp2 (by decide)) fun k k0 k1 => ?_
  have hk := fr_k (ps_nn h.ps) k0 k1
  have hf := fl_b (k := k) (ps_nn h.ps)
  have hfr := fl_fr (k := k) (ps_nn h.ps)
  have hm := fl_mir (k := amt l - k) (ps_nn h.ps)
  have hm2 := (fl_b (k := amt l - k) (ps_nn (mir_ps h.ps))).1
  have e4 : amt l - (amt l - k) = k := by omega
  rw [e4, hk] at hm
  have hfk : 0 ≤ k - fl k l := by
    have := (cl_b (k := k) (c := amt l) (by omega)).2.2.2.1 k0
    have := fl_b (k := amt l - k) (ps_nn (mir_ps h.ps))
    have a := (mir_amt l).2
    omega
  have tu : ∀ a b : Int, tU (amt l + 1) (amtR l) [(a, 1), (b, 1)] = a * (1 - exB (amt l + 1) (amtR l) (a, 1)) + (b * (1 - exB (amt l + 1) (nxB (amt l + 1) (amtR l) (a, 1)) (b, 1)) + 0) := fun _ _ => rfl
  have tr : ∀ a b : Int, tR (amt l + 1) (amtR l) [(a, 1), (b, 1)] = nxB (amt l + 1) (nxB (amt l + 1) (amtR l) (a, 1)) (b, 1) := fun _ _ => rfl
  rw [tu, tu, tr, tr]
  rcases one_x hr.1 hr.2 hp hp2 with ⟨x1, x2, x3⟩ | ⟨x1, x2, x3⟩ <;> rcases one_x hr.1 hr.2 hq hq2 with ⟨y1, y2, y3⟩ | ⟨y1, y2, y3⟩ <;> rw [x2, x3, y2, y3]
  · rcases one_x (r := amtR l + p) (by omega) x1 hq hq2 with ⟨z1, z2, z3⟩ | ⟨z1, z2, z3⟩ <;> rcases one_x (r := amtR l + q) (by omega) y1 hp hp2 with ⟨w1, w2, w3⟩ | ⟨w1, w2, w3⟩ <;> rw [z2, z3, w2, w3] <;> simp only [Int.sub_self, Int.mul_zero, Int.sub_zero, Int.mul_one] <;> omega
  · rcases one_x (r := amtR l + p) (by omega) x1 hq hq2 with ⟨z1, z2, z3⟩ | ⟨z1, z2, z3⟩ <;> rcases one_x (r := amtR l + q - (amt l + 1)) (by omega) (by omega) hp hp2 with ⟨w1, w2, w3⟩ | ⟨w1, w2, w3⟩ <;> rw [z2, z3, w2, w3] <;> simp only [Int.sub_self, Int.mul_zero, Int.sub_zero, Int.mul_one] <;> omega
  · rcases one_x (r := amtR l + p - (amt l + 1)) (by omega) (by omega) hq hq2 with ⟨z1, z2, z3⟩ | ⟨z1, z2, z3⟩ <;> rcases one_x (r := amtR l + q) (by omega) y1 hp hp2 with ⟨w1, w2, w3⟩ | ⟨w1, w2, w3⟩ <;> rw [z2, z3, w2, w3] <;> simp only [Int.sub_self, Int.mul_zero, Int.sub_zero, Int.mul_one] <;> omega
  · rcases one_x (r := amtR l + p - (amt l + 1)) (by omega) (by omega) hq hq2 with ⟨z1, z2, z3⟩ | ⟨z1, z2, z3⟩ <;> rcases one_x (r := amtR l + q - (amt l + 1)) (by omega) (by omega) hp hp2 with ⟨w1, w2, w3⟩ | ⟨w1, w2, w3⟩ <;> rw [z2, z3, w2, w3] <;> simp only [Int.sub_self, Int.mul_zero, Int.sub_zero, Int.mul_one] <;> omega
theorem crR_two {l : Runs} (h : Good l) {a b : Int × Int} (hv : Vb (amt l) [a, b]) : crR l [a, b] = crR (crR l [a]) [b] := crR_cons h hv
theorem crR_more {l : Runs} (h : Good l) {p m k : Int} (hp : 1 ≤ p) (hp2 : p ≤ amt l) (hm : 0 ≤ m) (hk : 0 ≤ k) : crR l [(p, m + k)] = crR (crR l [(p, m)]) [(p, k)] := by
  rw [crR_split h ⟨hp, hp2⟩ hm hk]
  exact crR_cons h (vb_two hp hp2 hm hp hp2 hk)
theorem crR_zero {l : Runs} (h : Good l) (p : Int) : crR l [(p, 0)] = l := by
  have hr := amtR_le h.ps
  have hx : exB (amt l + 1) (amtR l) (p, 0) = 0 := by
    show (amtR l + p * 0) / (amt l + 1) = 0
    rw [Int.mul_zero, Int.add_zero]
    exact Int.ediv_eq_zero_of_lt hr.1 (by omega)
  unfold crR
  show blkR (p * (0 - exB (amt l + 1) (amtR l) (p, 0)) + 0) ((amt l + 1 - p) * exB (amt l + 1) (amtR l) (p, 0) + 0) l = l
  rw [hx, Int.sub_zero, Int.mul_zero, Int.mul_zero]
  exact blk_0 h
/-- one walker and a block -/
theorem swapK (p q : Int) (hp : 1 ≤ p) (hq : 1 ≤ q) : ∀ (k : Nat) {l : Runs}, Good l → p ≤ amt l → q ≤ amt l → crR (crR l [(p, 1)]) [(q, (k : Int))] = crR (crR l [(q, (k : Int))]) [(p, 1)]
  | 0, l, h, hp2, hq2 => by
    rw [show ((0 : Nat) : Int) = 0 from rfl, crR_zero h, crR_zero (crR_good _ _)]
  | k + 1, l, h, hp2, hq2 => by
    have ap := (crR_amt h (vb_one hp hp2 (show (0 : Int) ≤ 1 by decide))).1
    have aq := (crR_amt h (vb_one hq hq2 (show (0 : Int) ≤ 1 by decide))).1
    have e : ((k + 1 : Nat) : Int) = 1 + (k : Int) := by omega
    have s1 := swap1 h hp hp2 hq hq2
    rw [crR_two h (vb_two hp hp2 (by decide) hq hq2 (by decide)), crR_two h (vb_two hq hq2 (by decide) hp hp2 (by decide))] at s1
    rw [e, crR_more (crR_good _ _) hq (by omega) (by decide) (by omega), s1, crR_more h hq hq2 (by decide) (by omega)]
    exact swapK p q hp hq k (crR_good _ _) (by omega) (by omega)
theorem swapM (p q : Int) (hp : 1 ≤ p) (hq : 1 ≤ q) (k : Nat) : ∀ (m : Nat) {l : Runs}, Good l → p ≤ amt l → q ≤ amt l → crR (crR l [(p, (m : Int))]) [(q, (k : Int))] = crR (crR l [(q, (k : Int))]) [(p, (m : Int))]
  | 0, l, h, hp2, hq2 => by
    rw [show ((0 : Nat) : Int) = 0 from rfl, crR_zero h, crR_zero (crR_good _ _)]
  | m + 1, l, h, hp2, hq2 => by
    have ap := (crR_amt h (vb_one hp hp2 (show (0 : Int) ≤ 1 by decide))).1
    have aq := (crR_amt h (vb_one hq hq2 (show (0 : Int) ≤ (k : Int) by omega))).1
    have e : ((m + 1 : Nat) : Int) = 1 + (m : Int) := by omega
    rw [e, crR_more h hp hp2 (by decide) (by omega), crR_more (crR_good _ _) hp (by omega) (by decide) (by omega), ← swapK p q hp hq k h hp2 hq2]
    exact swapM p q hp hq k m (crR_good _ _) (by omega) (by omega)
theorem swapB {l : Runs} (h : Good l) {a b : Int × Int} (hv : Vb (amt l) [a, b]) : crR l [a, b] = crR l [b, a] := by
  obtain ⟨p, m⟩ := a
  obtain ⟨q, k⟩ := b
  obtain ⟨h1, h2, h3⟩ := hv (p, m) (List.mem_cons_self ..)
  obtain ⟨h4, h5, h6⟩ := hv (q, k) (by simp)
  have e1 : ((m.toNat : Nat) : Int) = m := Int.toNat_of_nonneg h3
  have e2 : ((k.toNat : Nat) : Int) = k := Int.toNat_of_nonneg h6
  have := swapM p q h1 h4 k.toNat m.toNat h h2 h5
  rw [e1, e2] at this
  rw [crR_two h hv, crR_two h (vb_two h4 h5 h6 h1 h2 h3)]
  exact this
theorem Vb.perm {n : Int} {bs cs : List (Int × Int)} (p : bs.Perm cs) (h : Vb n bs) : Vb n cs := fun x hx => h x (p.mem_iff.mpr hx)
theorem crR_perm {bs cs : List (Int × Int)} (p : bs.Perm cs) : ∀ {l : Runs}, Good l → Vb (amt l) bs → crR l bs = crR l cs := by
  induction p with
  | nil => exact fun _ _ => rfl
  | cons x p ih =>
    intro l h hv
    have hx := hv x (List.mem_cons_self ..)
    have a := (crR_amt h (vb_one hx.1 hx.2.1 hx.2.2)).1
    rw [crR_cons h hv, crR_cons h (hv.perm (p.cons x))]
    exact ih (crR_good _ _) (by rw [show [x] = [(x.1, x.2)] from rfl, a]; exact hv.tail)
  | swap x y bs =>
    intro l h hv
    have hy := hv y (List.mem_cons_self ..)
    have hx := hv x (by simp)
    have v2 : Vb (amt l) [y, x] := vb_two hy.1 hy.2.1 hy.2.2 hx.1 hx.2.1 hx.2.2
    have v3 : Vb (amt l) [x, y] := vb_two hx.1 hx.2.1 hx.2.2 hy.1 hy.2.1 hy.2.2
    have e1 : crR l (y :: x :: bs) = crR (crR l [y, x]) bs := crR_app h v2 hv.tail.tail
    have e2 : crR l (x :: y :: bs) = crR (crR l [x, y]) bs := crR_app h v3 hv.tail.tail
    rw [e1, e2, swapB h v2]
  | trans p q i j =>
    intro l h hv
    rw [i h hv, j h (hv.perm p)]
/-! ### the sums of a crowd -/
def tP : List (Int × Int) → Int
  | [] => 0
  | b :: bs => b.1 * b.2 + tP bs
theorem tP_perm {bs cs : List (Int × Int)} (p : bs.Perm cs) : tP bs = tP cs ∧ tM bs = tM cs ∧ tQ bs = tQ cs := by
  induction p with
  | nil => exact ⟨rfl, rfl, rfl⟩
  | cons x p ih => exact ⟨congrArg (x.1 * x.2 + ·) ih.1, congrArg (x.2 + ·) ih.2.1, congrArg (x.2 * x.1 * x.1 + ·) ih.2.2⟩
  | swap x y bs =>
    refine ⟨?_, ?_, ?_⟩
    · show y.1 * y.2 + (x.1 * x.2 + tP bs) = x.1 * x.2 + (y.1 * y.2 + tP bs)
      omega
    · show y.2 + (x.2 + tM bs) = x.2 + (y.2 + tM bs)
      omega
    · show y.2 * y.1 * y.1 + (x.2 * x.1 * x.1 + tQ bs) = x.2 * x.1 * x.1 + (y.2 * y.1 * y.1 + tQ bs)
      omega
  | trans p q i j => exact ⟨i.1.trans j.1, i.2.1.trans j.2.1, i.2.2.trans j.2.2⟩
theorem tX_sum {n : Int} : ∀ {bs : List (Int × Int)} {r : Int}, 0 ≤ r → r ≤ n → Vb n bs → (n + 1) * tX (n + 1) r bs + tR (n + 1) r bs = r + tP bs
  | [], r, _, _, _ => by
    show (n + 1) * 0 + r = r + 0
    omega
  | b :: bs, r, h0, h1, hv => by
    obtain ⟨_, _, _, _, _, k6, k7, k8⟩ := blk1 h0 h1 (hv b (List.mem_cons_self ..))
    have ih := tX_sum k6 k7 hv.tail
    show (n + 1) * (exB (n + 1) r b + tX (n + 1) (nxB (n + 1) r b) bs) + tR (n + 1) (nxB (n + 1) r b) bs = r + (b.1 * b.2 + tP bs)
    rw [Int.mul_add]
    omega
theorem div_uniq {N x y a b : Int} (h : N * x + a = N * y + b) (a0 : 0 ≤ a) (a1 : a < N) (b0 : 0 ≤ b) (b1 : b < N) : x = y ∧ a = b := by
  have h1 : (N * x + a) / N = x := by
    rw [Int.add_comm, Int.add_mul_ediv_left _ _ (by omega), Int.ediv_eq_zero_of_lt a0 a1, Int.zero_add]
  have h2 : (N * y + b) / N = y := by
    rw [Int.add_comm, Int.add_mul_ediv_left _ _ (by omega), Int.ediv_eq_zero_of_lt b0 b1, Int.zero_add]
  have e : x = y := by rw [← h1, ← h2, h]
  subst e
  exact ⟨rfl, by omega⟩
theorem tX_same {n r : Int} {bs cs : List (Int × Int)} (h0 : 0 ≤ r) (h1 : r ≤ n) (hb : Vb n bs) (hc : Vb n cs) (e : tP bs = tP cs) : tX (n + 1) r bs = tX (n + 1) r cs ∧ tR (n + 1) r bs = tR (n + 1) r cs := by
  have a := tX_sum h0 h1 hb
  have b := tX_sum h0 h1 hc
  obtain ⟨_, _, _, a4, a5, _, _⟩ := tot_ok h0 h1 hb
  obtain ⟨_, _, _, b4, b5, _, _⟩ := tot_ok h0 h1 hc
  exact div_uniq (a.trans ((congrArg (r + ·) e).trans b.symm)) a4 (by omega) b4 (by omega)
/-- blocks divided into two -/
inductive Par : List (Int × Int) → List (Int × Int) → Prop where
  | nil : Par [] []
  | cons {p m s : Int} {bs cs : List (Int × Int)} (h0 : 0 ≤ s) (h1 : s ≤ m) (r : Par bs cs) : Par ((p, m) :: bs) ((p, s) :: (p, m - s) :: cs)
theorem Par.sums {bs cs : List (Int × Int)} (p : Par bs cs) : tP cs = tP bs ∧ tM cs = tM bs ∧ tQ cs = tQ bs := by
  induction p with
  | nil => exact ⟨rfl, rfl, rfl⟩
  | @cons p m s bs cs h0 h1 r ih =>
    have e1 : p * m = p * s + p * (m - s) := by rw [← Int.mul_add]; congr 1; omega
    have e2 : m * p * p = s * p * p + (m - s) * p * p := by rw [← Int.add_mul, ← Int.add_mul]; congr 2; omega
    refine ⟨?_, ?_, ?_⟩
    · show p * s + (p * (m - s) + tP cs) = p * m + tP bs
      omega
    · show s + (m - s + tM cs) = m + tM bs
      omega
    · show s * p * p + ((m - s) * p * p + tQ cs) = m * p * p + tQ bs
      omega
theorem Par.vb {n : Int} {bs cs : List (Int × Int)} (p : Par bs cs) : Vb n bs → Vb n cs := by
  induction p with
  | nil => exact fun _ => vb_nil
  | @cons p m s bs cs h0 h1 r ih =>
    intro hv
    have hb := hv (p, m) (List.mem_cons_self ..)
    exact Vb.app (vb_two hb.1 hb.2.1 h0 hb.1 hb.2.1 (show 0 ≤ m - s by omega)) (ih hv.tail)
theorem Par.crR {bs cs : List (Int × Int)} (p : Par bs cs) : ∀ {l : Runs}, Good l → Vb (amt l) bs → crR l cs = crR l bs := by
  induction p with
  | nil => exact fun _ _ => rfl
  | @cons p m s bs cs h0 h1 r ih =>
    intro l h hv
    have hb := hv (p, m) (List.mem_cons_self ..)
    have v2 : Vb (amt l) [(p, s), (p, m - s)] := vb_two hb.1 hb.2.1 h0 hb.1 hb.2.1 (show 0 ≤ m - s by omega)
    have e1 : Mi.crR l ((p, s) :: (p, m - s) :: cs) = Mi.crR (Mi.crR l [(p, s), (p, m - s)]) cs := crR_app h v2 (r.vb hv.tail)
    have e2 : Mi.crR l ((p, s) :: (p, m - s) :: bs) = Mi.crR (Mi.crR l [(p, s), (p, m - s)]) bs := crR_app h v2 hv.tail
    have e3 := crR_split (l := l) (bs := bs) h ⟨hb.1, hb.2.1⟩ h0 (show 0 ≤ m - s by omega)
    have e4 : s + (m - s) = m := by omega
    rw [e4] at e3
    have a := (crR_amt h v2).1
    rw [e3, e1, e2]
    exact ih (crR_good _ _) (by rw [a]; exact hv.tail)
theorem Par.len {bs cs : List (Int × Int)} (p : Par bs cs) : cs.length = 2 * bs.length := by
  induction p with
  | nil => rfl
  | cons h0 h1 r ih => rw [List.length_cons, List.length_cons, List.length_cons, ih]; omega
theorem Par.le {B : Int} {bs cs : List (Int × Int)} (p : Par bs cs) : (∀ b ∈ bs, b.2 ≤ B) → ∀ b ∈ cs, b.2 ≤ B := by
  induction p with
  | nil => exact fun _ b hb => (nomatch hb)
  | @cons p m s bs cs h0 h1 r ih =>
    intro hv b hb
    have h2 : m ≤ B := hv (p, m) (List.mem_cons_self ..)
    simp only [List.mem_cons] at hb
    rcases hb with rfl | rfl | hb
    · show s ≤ B
      omega
    · show m - s ≤ B
      omega
    · exact ih (fun x hx => hv x (List.mem_cons_of_mem _ hx)) b hb
theorem tQ_app : ∀ bs cs : List (Int × Int), tQ (bs ++ cs) = tQ bs + tQ cs
  | [], cs => by
    show tQ cs = 0 + tQ cs
    omega
  | b :: bs, cs => by
    show b.2 * b.1 * b.1 + tQ (bs ++ cs) = b.2 * b.1 * b.1 + tQ bs + tQ cs
    rw [tQ_app bs cs]
    omega
theorem tM_app : ∀ bs cs : List (Int × Int), tM (bs ++ cs) = tM bs + tM cs
  | [], cs => by
    show tM cs = 0 + tM cs
    omega
  | b :: bs, cs => by
    show b.2 + tM (bs ++ cs) = b.2 + tM bs + tM cs
    rw [tM_app bs cs]
    omega
theorem stepsC_app {l : Runs} (h : Good l) {bs cs : List (Int × Int)} (hb : Vb (amt l) bs) (hc : Vb (amt l) cs) : stepsC l (bs ++ cs) = stepsC l bs + stepsC (crR l bs) cs := by
  obtain ⟨a1, a2⟩ := crR_amt h hb
  unfold stepsC
  rw [a1, a2, crR_app h hb hc, tX_app, tQ_app, Int.add_mul, Int.add_mul]
  omega
theorem stepsC_same {l : Runs} (h : Good l) {bs cs : List (Int × Int)} (hb : Vb (amt l) bs) (hc : Vb (amt l) cs) (e : crR l bs = crR l cs) (e1 : tP bs = tP cs) (e2 : tQ bs = tQ cs) : stepsC l bs = stepsC l cs := by
  have hr := amtR_le h.ps
  unfold stepsC
  rw [e, e2, (tX_same hr.1 hr.2 hb hc e1).1]
theorem tL_tX {n r : Int} {bs : List (Int × Int)} (h0 : 0 ≤ r) (h1 : r ≤ n) (hb : Vb n bs) : tL (n + 1) r bs = tM bs - tX (n + 1) r bs := (tX_le h0 h1 hb).2.2
/-- one walker -/
theorem crR_1 {l : Runs} (h : Good l) {p : Int} (hp : 1 ≤ p) (hp2 : p ≤ amt l) : crR l [(p, 1)] = if amtR l + p ≤ amt l then fstR p l else lstR (amt l + 1 - p) l := by
  have hr := amtR_le h.ps
  have hlr := amtL_R l
  have hv : Vb (amt l) [(p, 1)] := vb_one hp hp2 (by decide)
  have a1 := (crR_amt h hv).1
  have tu : tU (amt l + 1) (amtR l) [(p, 1)] = p * (1 - exB (amt l + 1) (amtR l) (p, 1)) + 0 := rfl
  have tr : tR (amt l + 1) (amtR l) [(p, 1)] = nxB (amt l + 1) (amtR l) (p, 1) := rfl
  have key : ∀ k : Int, 0 ≤ k → k ≤ amt l → 0 ≤ k - fl k l ∧ k - fl k l ≤ amtR l ∧ 0 ≤ fl k l := fun k k0 k1 => by
    have hm := fl_mir (k := amt l - k) (ps_nn h.ps)
    have e4 : amt l - (amt l - k) = k := by omega
    rw [e4, fr_k (ps_nn h.ps) k0 k1] at hm
    have q := fl_b (k := amt l - k) (ps_nn (mir_ps h.ps))
    have a := (mir_amt l).2
    have f := fl_b (k := k) (ps_nn h.ps)
    omega
  rcases one_x hr.1 hr.2 hp hp2 with ⟨x1, x2, x3⟩ | ⟨x1, x2, x3⟩
  · rw [if_pos x1]
    have b1 := fst_amt h.ps (show 0 ≤ p by omega)
    refine fl_inj (crR_good _ _) (fstR_good _ _) (by omega) fun k k0 k1 => ?_
    rw [a1] at k1
    have := key k k0 k1
    rw [crR_fl h hv k0 k1, fl_fst h.ps (by omega), tu, tr, x2, x3, Int.sub_zero, Int.mul_one]
    omega
  · rw [if_neg (by omega)]
    have b1 := lst_amt h.ps (show 0 ≤ amt l + 1 - p by omega)
    refine fl_inj (crR_good _ _) (lstR_good _ _) (by omega) fun k k0 k1 => ?_
    rw [a1] at k1
    have := key k k0 k1
    rw [crR_fl h hv k0 k1, fl_lst h.ps (by omega) (by omega) k0 k1, tu, tr, x2, x3, Int.sub_self, Int.mul_zero]
    omega
theorem tX_1 {l : Runs} (h : Good l) {p : Int} (hp : 1 ≤ p) (hp2 : p ≤ amt l) : tX (amt l + 1) (amtR l) [(p, 1)] = (if amtR l + p ≤ amt l then 0 else 1) ∧ tL (amt l + 1) (amtR l) [(p, 1)] = (if amtR l + p ≤ amt l then 1 else 0) := by
  have hr := amtR_le h.ps
  have e1 : tX (amt l + 1) (amtR l) [(p, 1)] = exB (amt l + 1) (amtR l) (p, 1) + 0 := rfl
  have e2 : tL (amt l + 1) (amtR l) [(p, 1)] = 1 - exB (amt l + 1) (amtR l) (p, 1) + 0 := rfl
  rw [e1, e2]
  rcases one_x hr.1 hr.2 hp hp2 with ⟨x1, x2, x3⟩ | ⟨x1, x2, x3⟩
  · rw [if_pos x1, if_pos x1, x2]
    exact ⟨rfl, rfl⟩
  · rw [if_neg (by omega), if_neg (by omega), x2]
    exact ⟨rfl, rfl⟩
end Mi

namespace Mi
open PySem PySem.Spec PyProof.Rows L2
/-! ### a walk, step by step (true: the post points left) -/
def swF : List Bool → Nat → List Bool
  | [], _ => []
  | true :: s, 0 => true :: swF s 0
  | true :: s, u + 1 => false :: swF s u
  | false :: s, u => false :: swF s u
theorem swF_zero : ∀ s : List Bool, swF s 0 = s
  | [] => rfl
  | true :: s => congrArg (true :: ·) (swF_zero s)
  | false :: s => congrArg (false :: ·) (swF_zero s)
theorem swF_len : ∀ (s : List Bool) (u : Nat), (swF s u).length = s.length
  | [], _ => rfl
  | true :: s, 0 => congrArg (· + 1) (swF_len s 0)
  | true :: s, u + 1 => congrArg (· + 1) (swF_len s u)
  | false :: s, u => congrArg (· + 1) (swF_len s u)
theorem swF_app : ∀ (a b : List Bool) (u : Nat), swF (a ++ b) u = swF a u ++ swF b (u - a.count true)
  | [], b, u => by
    show swF b u = swF b (u - 0)
    rw [Nat.sub_zero]
  | true :: a, b, 0 => by
    have := swF_app a b 0
    rw [Nat.zero_sub] at this
    show true :: swF (a ++ b) 0 = true :: swF a 0 ++ swF b (0 - (true :: a).count true)
    rw [this, Nat.zero_sub]
    rfl
  | true :: a, b, u + 1 => by
    have e : u + 1 - (true :: a).count true = u - a.count true := by
      rw [List.count_cons_self]
      omega
    show false :: swF (a ++ b) u = false :: swF a u ++ swF b (u + 1 - (true :: a).count true)
    rw [e, swF_app a b u]
    rfl
  | false :: a, b, u => by
    have e : (false :: a).count true = a.count true := List.count_cons_of_ne (by decide)
    show false :: swF (a ++ b) u = false :: swF a u ++ swF b (u - (false :: a).count true)
    rw [e, swF_app a b u]
    rfl
theorem swF_all : ∀ {a : List Bool} {u : Nat}, a.count true ≤ u → swF a u = List.replicate a.length false
  | [], _, _ => rfl
  | true :: a, 0, h => by
    rw [List.count_cons_self] at h
    omega
  | true :: a, u + 1, h => by
    rw [List.count_cons_self] at h
    show false :: swF a u = false :: List.replicate a.length false
    rw [swF_all (show a.count true ≤ u by omega)]
  | false :: a, u, h => by
    rw [List.count_cons_of_ne (by decide)] at h
    show false :: swF a u = false :: List.replicate a.length false
    rw [swF_all h]
theorem swF_L {a b : List Bool} {p : Nat} (h : a.length + 1 = p) : swF (a ++ true :: b) p = swF (a ++ false :: b) (p - 1) := by
  have hc : a.count true ≤ a.length := List.count_le_length
  rw [swF_app, swF_app, swF_all (show a.count true ≤ p by omega), swF_all (show a.count true ≤ p - 1 by omega)]
  obtain ⟨k, hk⟩ : ∃ k, p - a.count true = k + 1 := ⟨p - a.count true - 1, by omega⟩
  rw [hk, show p - 1 - a.count true = k by omega]
  rfl
theorem swF_R {a b : List Bool} {p : Nat} (h : a.length + 1 = p) : swF (a ++ false :: b) p = swF (a ++ true :: b) (p + 1) := by
  have := swF_L (a := a) (b := b) (p := p + 1)
  have hc : a.count true ≤ a.length := List.count_le_length
  rw [swF_app, swF_app, swF_all (show a.count true ≤ p by omega), swF_all (show a.count true ≤ p + 1 by omega)]
  rw [show p + 1 - a.count true = p - a.count true + 1 by omega]
  rfl
def mirB (s : List Bool) : List Bool := (s.map (!·)).reverse
theorem mirB_app (a : List Bool) (x : Bool) (b : List Bool) : mirB (a ++ x :: b) = mirB b ++ (!x) :: mirB a := by
  unfold mirB
  rw [List.map_append, List.map_cons, List.reverse_append, List.reverse_cons, List.append_assoc]
  rfl
theorem mirB_mirB (s : List Bool) : mirB (mirB s) = s := by
  unfold mirB
  rw [List.map_reverse, List.reverse_reverse, List.map_map]
  have : ((fun x : Bool => !x) ∘ fun x => !x) = id := by
    funext x
    cases x <;> rfl
  rw [this, List.map_id]
theorem mirB_len (s : List Bool) : (mirB s).length = s.length := by
  unfold mirB
  rw [List.length_reverse, List.length_map]
def swL (s : List Bool) (v : Nat) : List Bool := mirB (swF (mirB s) v)
theorem swL_zero (s : List Bool) : swL s 0 = s := by
  unfold swL
  rw [swF_zero, mirB_mirB]
theorem swL_R {a b : List Bool} {v : Nat} (h : b.length + 1 = v) : swL (a ++ false :: b) v = swL (a ++ true :: b) (v - 1) := by
  unfold swL
  rw [mirB_app, mirB_app]
  exact congrArg mirB (swF_L (by rw [mirB_len]; exact h))
theorem swL_L {a b : List Bool} {v : Nat} (h : b.length + 1 = v) : swL (a ++ true :: b) v = swL (a ++ false :: b) (v + 1) := by
  unfold swL
  rw [mirB_app, mirB_app]
  exact congrArg mirB (swF_R (by rw [mirB_len]; exact h))
/-- the number of right posts, the sum of their places -/
def nR (s : List Bool) : Int := (s.count false : Nat)
def sR : Int → List Bool → Int
  | _, [] => 0
  | k, q :: s => (if q then 0 else k + 1) + sR (k + 1) s
theorem sR_app : ∀ (a b : List Bool) (k : Int), sR k (a ++ b) = sR k a + sR (k + a.length) b
  | [], b, k => by
    show sR k b = 0 + sR (k + (0 : Nat)) b
    rw [show k + ((0 : Nat) : Int) = k by omega]
    omega
  | q :: a, b, k => by
    have ih := sR_app a b (k + 1)
    rw [show k + 1 + (a.length : Int) = k + ((q :: a).length : Int) by rw [List.length_cons]; omega] at ih
    show (if q then 0 else k + 1) + sR (k + 1) (a ++ b) = (if q then 0 else k + 1) + sR (k + 1) a + _
    omega
theorem sR_b : ∀ (s : List Bool) (k : Int), 0 ≤ k → 0 ≤ sR k s ∧ sR k s ≤ s.length * (k + s.length)
  | [], _, _ => ⟨Int.le_refl _, by simp [sR]⟩
  | q :: s, k, hk => by
    obtain ⟨h1, h2⟩ := sR_b s (k + 1) (by omega)
    have e : ((q :: s).length : Int) * (k + (q :: s).length) = (s.length : Int) * (k + 1 + s.length) + (k + 1 + s.length) := by
      rw [List.length_cons, show ((s.length + 1 : Nat) : Int) = (s.length : Int) + 1 by omega, Int.add_mul, Int.one_mul, show k + ((s.length : Int) + 1) = k + 1 + s.length by omega]
    rw [e]
    constructor
    · show 0 ≤ (if q then 0 else k + 1) + sR (k + 1) s
      split <;> omega
    · show (if q then 0 else k + 1) + sR (k + 1) s ≤ _
      split <;> omega
/-- the places behind the first one, the posts afterwards, the end -/
inductive Wk : List Bool → Int → List Int → List Bool → Int → Prop where
  | low {s : List Bool} : Wk s 0 [] s 0
  | high {s : List Bool} : Wk s (s.length + 1) [] s (s.length + 1)
  | left {a b : List Bool} {ps : List Int} {t : List Bool} {e : Int} (w : Wk (a ++ false :: b) (a.length : Int) ps t e) : Wk (a ++ true :: b) (a.length + 1) ((a.length : Int) :: ps) t e
  | right {a b : List Bool} {ps : List Int} {t : List Bool} {e : Int} (w : Wk (a ++ true :: b) (a.length + 2) ps t e) : Wk (a ++ false :: b) (a.length + 1) ((a.length + 2 : Int) :: ps) t e
theorem Wk.len {s t : List Bool} {p e : Int} {ps : List Int} (w : Wk s p ps t e) : t.length = s.length := by
  induction w with
  | low => rfl
  | high => rfl
  | left w ih => rw [ih]; simp
  | right w ih => rw [ih]; simp
theorem Wk.steps {s t : List Bool} {p e : Int} {ps : List Int} (w : Wk s p ps t e) : (ps.length : Int) = e * e - p * p + 2 * (sR 0 t - sR 0 s) := by
  induction w with
  | low => simp
  | high => simp
  | @left a b ps t e w ih =>
    have e1 := sR_app a (true :: b) 0
    have e2 := sR_app a (false :: b) 0
    have e3 : sR (0 + (a.length : Int)) (true :: b) = 0 + sR (0 + (a.length : Int) + 1) b := rfl
    have e4 : sR (0 + (a.length : Int)) (false :: b) = 0 + (a.length : Int) + 1 + sR (0 + (a.length : Int) + 1) b := rfl
    have e5 : ((a.length : Int) + 1) * (a.length + 1) = (a.length : Int) * a.length + 2 * a.length + 1 := by
      rw [Int.add_mul, Int.mul_add]
      omega
    rw [List.length_cons]
    rw [e5]
    omega
  | @right a b ps t e w ih =>
    have e1 := sR_app a (true :: b) 0
    have e2 := sR_app a (false :: b) 0
    have e3 : sR (0 + (a.length : Int)) (true :: b) = 0 + sR (0 + (a.length : Int) + 1) b := rfl
    have e4 : sR (0 + (a.length : Int)) (false :: b) = 0 + (a.length : Int) + 1 + sR (0 + (a.length : Int) + 1) b := rfl
    have e5 : ((a.length : Int) + 1) * (a.length + 1) = (a.length : Int) * a.length + 2 * a.length + 1 := by
      rw [Int.add_mul, Int.mul_add]
      omega
    have e6 : ((a.length : Int) + 2) * (a.length + 2) = (a.length : Int) * a.length + 4 * a.length + 4 := by
      rw [Int.add_mul, Int.mul_add]
      omega
    rw [e6] at ih
    rw [List.length_cons, e5]
    omega
theorem nR_mid (a b : List Bool) : nR (a ++ false :: b) = nR (a ++ true :: b) + 1 := by
  unfold nR
  rw [List.count_append, List.count_append, List.count_cons_self, List.count_cons_of_ne (by decide)]
  omega
theorem nR_b (s : List Bool) : 0 ≤ nR s ∧ nR s ≤ s.length := by
  unfold nR
  have : s.count false ≤ s.length := List.count_le_length
  omega
/-- the end and the posts afterwards -/
theorem Wk.ends {s t : List Bool} {p e : Int} {ps : List Int} (w : Wk s p ps t e) : (e = 0 ∧ nR t = nR s + p ∧ t = swF s p.toNat) ∨ (e = s.length + 1 ∧ nR t = nR s + p - (s.length + 1) ∧ t = swL s (s.length + 1 - p).toNat) := by
  induction w with
  | @low s => exact .inl ⟨rfl, by omega, by rw [show (0 : Int).toNat = 0 from rfl, swF_zero]⟩
  | @high s => exact .inr ⟨rfl, by omega, by rw [Int.sub_self, show (0 : Int).toNat = 0 from rfl, swL_zero]⟩
  | @left a b ps t e w ih =>
    have hr := nR_mid a b
    have hl1 : ((a ++ true :: b).length : Int) = a.length + b.length + 1 := by simp; omega
    have hl2 : ((a ++ false :: b).length : Int) = a.length + b.length + 1 := by simp; omega
    rw [hl2] at ih
    rw [hl1]
    rcases ih with ⟨h1, h2, h3⟩ | ⟨h1, h2, h3⟩
    · refine .inl ⟨h1, by omega, ?_⟩
      rw [h3, show ((a.length : Int) + 1).toNat = a.length + 1 by omega, swF_L rfl]
      rfl
    · refine .inr ⟨h1, by omega, ?_⟩
      rw [h3, show ((a.length : Int) + b.length + 1 + 1 - a.length).toNat = b.length + 1 + 1 by omega, show ((a.length : Int) + b.length + 1 + 1 - (a.length + 1)).toNat = b.length + 1 by omega, swL_L rfl]
  | @right a b ps t e w ih =>
    have hr := nR_mid a b
    have hl1 : ((a ++ true :: b).length : Int) = a.length + b.length + 1 := by simp; omega
    have hl2 : ((a ++ false :: b).length : Int) = a.length + b.length + 1 := by simp; omega
    rw [hl1] at ih
    rw [hl2]
    rcases ih with ⟨h1, h2, h3⟩ | ⟨h1, h2, h3⟩
    · refine .inl ⟨h1, by omega, ?_⟩
      rw [h3, show ((a.length : Int) + 2).toNat = a.length + 1 + 1 by omega, show ((a.length : Int) + 1).toNat = a.length + 1 by omega, swF_R rfl]
    · refine .inr ⟨h1, by omega, ?_⟩
      rw [h3, show ((a.length : Int) + b.length + 1 + 1 - (a.length + 2)).toNat = b.length by omega, show ((a.length : Int) + b.length + 1 + 1 - (a.length + 1)).toNat = b.length + 1 by omega, swL_R rfl]
      rfl
theorem split_at {s : List Bool} {p : Int} (h1 : 1 ≤ p) (h2 : p ≤ s.length) : ∃ a x b, s = a ++ x :: b ∧ p = a.length + 1 := by
  have hp : (p - 1).toNat < s.length := by omega
  refine ⟨s.take (p - 1).toNat, s[(p - 1).toNat], s.drop ((p - 1).toNat + 1), ?_, ?_⟩
  · rw [List.getElem_cons_drop, List.take_append_drop]
  · rw [List.length_take]
    omega
theorem wk_ex : ∀ (N : Nat) {s : List Bool} {p : Int}, 0 ≤ p → p ≤ s.length + 1 → ((s.length : Int) + 1) * (s.length + 1) + 2 * ((s.length : Int) * s.length) - (p * p + 2 * sR 0 s) < N → ∃ ps t e, Wk s p ps t e
  | 0, s, p, h0, h1, hN => by
    have h2 := (sR_b s 0 (Int.le_refl _)).2
    rw [Int.zero_add] at h2
    have h3 : p * p ≤ ((s.length : Int) + 1) * (s.length + 1) := Int.mul_le_mul h1 h1 h0 (by omega)
    omega
  | N + 1, s, p, h0, h1, hN => by
    by_cases c0 : p = 0
    · subst c0
      exact ⟨_, _, _, .low⟩
    · by_cases c1 : p = s.length + 1
      · subst c1
        exact ⟨_, _, _, .high⟩
      · obtain ⟨a, x, b, rfl, hp⟩ := split_at (s := s) (p := p) (by omega) (by omega)
        have e1 := sR_app a (true :: b) 0
        have e2 := sR_app a (false :: b) 0
        have e3 : sR (0 + (a.length : Int)) (true :: b) = 0 + sR (0 + (a.length : Int) + 1) b := rfl
        have e4 : sR (0 + (a.length : Int)) (false :: b) = 0 + (a.length : Int) + 1 + sR (0 + (a.length : Int) + 1) b := rfl
        have e5 : ((a.length : Int) + 1) * (a.length + 1) = (a.length : Int) * a.length + 2 * a.length + 1 := by
          rw [Int.add_mul, Int.mul_add]
          omega
        have e6 : ((a.length : Int) + 2) * (a.length + 2) = (a.length : Int) * a.length + 4 * a.length + 4 := by
          rw [Int.add_mul, Int.mul_add]
          omega
        have hl1 : ((a ++ true :: b).length : Int) = a.length + b.length + 1 := by simp; omega
        have hl2 : ((a ++ false :: b).length : Int) = a.length + b.length + 1 := by simp; omega
        subst hp
        cases x with
        | true =>
          rw [hl1, e5] at hN
          obtain ⟨ps, t, e, w⟩ := wk_ex N (s := a ++ false :: b) (p := (a.length : Int)) (by omega) (by rw [hl2]; omega) (by rw [hl2]; omega)
          exact ⟨_, _, _, .left w⟩
        | false =>
          rw [hl2, e5] at hN
          obtain ⟨ps, t, e, w⟩ := wk_ex N (s := a ++ true :: b) (p := (a.length : Int) + 2) (by omega) (by rw [hl1]; omega) (by rw [hl1, e6]; omega)
          exact ⟨_, _, _, .right w⟩
theorem wk_all {s : List Bool} {p : Int} (h0 : 0 ≤ p) (h1 : p ≤ s.length + 1) : ∃ ps t e, Wk s p ps t e :=
  wk_ex (((s.length : Int) + 1) * (s.length + 1) + 2 * ((s.length : Int) * s.length) - (p * p + 2 * sR 0 s) + 1).toNat h0 h1 (by omega)
/-! ### the same by runs -/
theorem swF_rep (c u : Nat) : swF (List.replicate c true) u = List.replicate (min u c) false ++ List.replicate (c - u) true := by
  induction c generalizing u with
  | zero => rw [Nat.min_zero, Nat.zero_sub]; rfl
  | succ c ih =>
    cases u with
    | zero =>
      show true :: swF (List.replicate c true) 0 = _
      rw [swF_zero, Nat.zero_min]
      rfl
    | succ u =>
      show false :: swF (List.replicate c true) u = _
      rw [ih u, show min (u + 1) (c + 1) = min u c + 1 by omega, show c + 1 - (u + 1) = c - u by omega]
      rfl
theorem swF_repF : ∀ (c u : Nat), swF (List.replicate c false) u = List.replicate c false
  | 0, _ => rfl
  | c + 1, u => congrArg (false :: ·) (swF_repF c u)
theorem ex_fst0 : ∀ {l : Runs} {u : Int}, Ps l → 0 ≤ u → ex (fst0 u l) = swF (ex l) u.toNat
  | [], _, _, _ => rfl
  | (q, c) :: l, u, h, hu => by
    have hc : 1 ≤ c := h.1
    have e0 : ex ((q, c) :: l) = List.replicate c.toNat q ++ ex l := ex_cons _ _
    rw [e0, swF_app]
    cases q with
    | true =>
      obtain ⟨s, hs⟩ : ∃ s, (if c < u then c else u) = s := ⟨_, rfl⟩
      have e1 : fst0 u ((true, c) :: l) = (false, s) :: (true, c - s) :: fst0 (u - s) l := by
        rw [← hs]
        rfl
      have hs2 : 0 ≤ u - s := by rw [← hs]; split <;> omega
      rw [e1, ex_cons, ex_cons, ex_fst0 h.2 hs2, List.count_replicate_self, swF_rep]
      have a1 : s.toNat = min u.toNat c.toNat := by rw [← hs]; split <;> omega
      have a2 : (c - s).toNat = c.toNat - u.toNat := by rw [← hs]; split <;> omega
      have a3 : (u - s).toNat = u.toNat - c.toNat := by rw [← hs]; split <;> omega
      show List.replicate s.toNat false ++ (List.replicate (c - s).toNat true ++ _) = _
      rw [a1, a2, a3, List.append_assoc]
    | false =>
      have e1 : fst0 u ((false, c) :: l) = (false, 0) :: (false, c - 0) :: fst0 (u - 0) l := rfl
      rw [e1, Int.sub_zero, Int.sub_zero, ex_cons, ex_cons, ex_fst0 h.2 hu, swF_repF]
      have : (List.replicate c.toNat false).count true = 0 := List.count_eq_zero.mpr fun z => by
        rw [List.mem_replicate] at z
        cases z.2
      rw [this, Nat.sub_zero]
      rfl
theorem ex_fst {l : Runs} {u : Int} (h : Ps l) (hu : 0 ≤ u) : ex (fstR u l) = swF (ex l) u.toNat := by
  unfold fstR
  rw [ex_jn0, ex_fst0 h hu]
theorem exm_mir (l : Runs) : ex (mirR l) = mirB (ex l) := by
  unfold mirR mirB
  rw [ex_flip, ex_reverse, List.map_reverse]
theorem ex_lst {l : Runs} {u : Int} (h : Ps l) (hu : 0 ≤ u) : ex (lstR u l) = swL (ex l) u.toNat := by
  have e : lstR u l = mirR (fstR u (mirR l)) := (lst_mir u l).symm
  rw [e, exm_mir, ex_fst (mir_ps h) hu, exm_mir]
  rfl
theorem ex_pk (s : List Bool) : ex (pk s) = s := by
  unfold pk
  rw [ex_jn0]
  unfold ones ex
  rw [List.flatMap_map]
  induction s with
  | nil => rfl
  | cons q s ih =>
    rw [List.flatMap_cons, ih]
    rfl
theorem amtR_nR (s : List Bool) : amtR (pk s) = nR s := by
  rw [pk_R]
  unfold nR
  have : ∀ (s : List Bool) (k : Nat), (spotsR k s).length = s.count false := fun s => by
    induction s with
    | nil => exact fun _ => rfl
    | cons q s ih =>
      intro k
      cases q with
      | true =>
        rw [spotsR_l, ih, List.count_cons_of_ne (by decide)]
      | false =>
        rw [spotsR_r, List.length_cons, ih, List.count_cons_self]
  rw [this]
theorem sumR_sR (s : List Bool) : sumR 0 (pk s) = sR 0 s := by
  rw [pk_sumR]
  have : ∀ (s : List Bool) (k : Nat), (spotsR k s).sum = sR (k : Nat) s := fun s => by
    induction s with
    | nil => exact fun _ => rfl
    | cons q s ih =>
      intro k
      have e : ((k + 1 : Nat) : Int) = (k : Int) + 1 := by omega
      cases q with
      | true =>
        rw [spotsR_l, ih, e]
        show _ = 0 + sR ((k : Int) + 1) s
        omega
      | false =>
        rw [spotsR_r, List.sum_cons, ih, e]
        rfl
  exact this s 0
/-- one walker, packed -/
theorem Wk.packed {s t : List Bool} {p e : Int} {ps : List Int} (w : Wk s p ps t e) (h1 : 1 ≤ p) (h2 : p ≤ s.length) :
    crR (pk s) [(p, 1)] = pk t ∧ e = (if nR s + p ≤ s.length then 0 else (s.length : Int) + 1) ∧ (ps.length : Int) = stepsC (pk s) [(p, 1)] := by
  have ha := pk_amt s
  have hr := amtR_nR s
  have hb := nR_b s
  have hbt := nR_b t
  have hlen := w.len
  have g := pk_good s
  have hx := crR_1 g h1 (by rw [ha]; exact h2)
  rw [ha, hr] at hx
  have he : e = if nR s + p ≤ s.length then 0 else (s.length : Int) + 1 := by
    rcases w.ends with ⟨k1, k2, k3⟩ | ⟨k1, k2, k3⟩
    · rw [if_pos (by omega)]
      exact k1
    · rw [if_neg (by omega)]
      exact k1
  have hc : crR (pk s) [(p, 1)] = pk t := by
    rw [hx]
    rcases w.ends with ⟨k1, k2, k3⟩ | ⟨k1, k2, k3⟩
    · rw [if_pos (by omega)]
      refine ex_inj (fstR_good _ _) (pk_good _) ?_
      rw [ex_fst g.ps (by omega), ex_pk, ex_pk, k3]
    · rw [if_neg (by omega)]
      refine ex_inj (lstR_good _ _) (pk_good _) ?_
      rw [ex_lst g.ps (by omega), ex_pk, ex_pk, k3]
  refine ⟨hc, he, ?_⟩
  have hs := w.steps
  have f := (tX_1 g h1 (by rw [ha]; exact h2)).1
  rw [ha, hr] at f
  unfold stepsC
  rw [ha, hr, f, hc, sumR_sR, sumR_sR, hs]
  have q : tQ [(p, 1)] = 1 * p * p + 0 := rfl
  rw [q, Int.one_mul, he]
  split <;> simp <;> omega
end Mi

namespace Mi
open PySem PySem.Spec PyProof.Rows L2
/-! ### equal data -/
theorem eqd_self {d : D} (h : D.sh d = true) : D.eq d d = true := PySem.SeqAt.eqv_refl d.py (sh_lay h)
theorem eqD_self {d : D} (h : D.sh d = true) : eqD d d = some (.fz (.bl true)) := by
  unfold eqD
  rw [h, eqd_self h]
  rfl
theorem neD_self {d : D} (h : D.sh d = true) : neD d d = some (.fz (.bl false)) := by
  unfold neD
  rw [h, eqd_self h]
  rfl
theorem flt_line (l : List (Bool × Int)) : Flt 2 (.tup (l.map runD)) := flt_tup fun x hx => by
  obtain ⟨r, _, rfl⟩ := List.mem_map.mp hx
  exact flt_run r
theorem sh_line (l : List (Bool × Int)) : D.sh (.tup (l.map runD)) = true := sh_flt (flt_line l) (by decide)
theorem Flt.up {k m : Nat} {d : D} (h : Flt k d) (hk : k ≤ m) : Flt m d := ⟨h.1, Nat.le_trans h.2 hk⟩
theorem flt_side (q : Bool) : Flt 0 (.str (sideS q)) := flt_str (by cases q <;> decide +kernel)
theorem eq_runD (r s : Bool × Int) : D.eq (runD r) (runD s) = decide (r = s) := by
  obtain ⟨p, n⟩ := r
  obtain ⟨q, m⟩ := s
  have e : D.eq (runD (p, n)) (runD (q, m)) = (D.eq (sdD p) (sdD q) && (D.eq (.int n) (.int m) && true)) := rfl
  have e1 : D.eq (sdD p) (sdD q) = (p == q) := by cases p <;> cases q <;> decide +kernel
  have e2 : D.eq (.int n) (.int m) = (n == m) := rfl
  rw [e, e1, e2, Bool.and_true]
  by_cases h1 : p = q <;> by_cases h2 : n = m <;> simp [h1, h2]
theorem eq_lines : ∀ (l s : List (Bool × Int)), D.eq (.tup (l.map runD)) (.tup (s.map runD)) = decide (l = s)
  | [], [] => rfl
  | [], _ :: _ => rfl
  | _ :: _, [] => rfl
  | x :: xs, y :: ys => by
    have ih := eq_lines xs ys
    have e : D.eq (.tup ((x :: xs).map runD)) (.tup ((y :: ys).map runD)) = (D.eq (runD x) (runD y) && D.eq (.tup (xs.map runD)) (.tup (ys.map runD))) := rfl
    rw [e, ih, eq_runD]
    by_cases h : x = y <;> by_cases h2 : xs = ys <;> simp [h, h2]
theorem eqD_lines (l s : List (Bool × Int)) : eqD (.tup (l.map runD)) (.tup (s.map runD)) = some (.fz (.bl (decide (l = s)))) := by
  unfold eqD
  rw [sh_line, sh_line, eq_lines]
  rfl
theorem neD_lines (l s : List (Bool × Int)) : neD (.tup (l.map runD)) (.tup (s.map runD)) = some (.fz (.bl (!decide (l = s)))) := by
  unfold neD
  rw [sh_line, sh_line, eq_lines]
  rfl
/-! ### loops that keep what is said of the slots -/
theorem loopI {P : Int → Env → Prop} {tg : D → Env → Option Env} {L : Sm} {d B lo hi : Int} (hd : 0 ≤ d)
    (step : ∀ (kk : Env → SR) (t n : Int) (ρ : Env), lo ≤ t → t < hi → P n ρ → n + d ≤ B → ∃ ρ', forR L kk (tg (.int t) ρ) = kk ρ' ∧ P (n + d) ρ') :
    ∀ (i : Nat) (s n : Int) (ρ : Env), lo ≤ s → s + i ≤ hi → P n ρ → n + d * i ≤ B → ∃ ρ', loopF tg L (rangeL s i) ρ = .nx ρ' ∧ P (n + d * i) ρ'
  | 0, s, n, ρ, _, _, h, _ => ⟨ρ, rfl, by rw [show d * ((0 : Nat) : Int) = 0 from Int.mul_zero d, Int.add_zero]; exact h⟩
  | i + 1, s, n, ρ, h1, h2, h, hB => by
    have e : d * ((i + 1 : Nat) : Int) = d + d * i := by
      rw [show ((i + 1 : Nat) : Int) = 1 + (i : Int) by omega, Int.mul_add, Int.mul_one]
    have hp : 0 ≤ d * (i : Int) := Int.mul_nonneg hd (by omega)
    rw [e] at hB ⊢
    obtain ⟨ρ1, e1, p1⟩ := step (loopF tg L (rangeL (s + 1) i)) s n ρ h1 (by omega) h (by omega)
    obtain ⟨ρ2, e2, p2⟩ := loopI hd step i (s + 1) (n + d) ρ1 (by omega) (by omega) p1 (by omega)
    refine ⟨ρ2, ?_, ?_⟩
    · rw [rangeL_succ, loop_cons, e1, e2]
    · rw [show n + (d + d * (i : Int)) = n + d + d * (i : Int) by omega]
      exact p2
/-- the same over a list -/
theorem loopX {α : Type} {P : List α → Env → Prop} {f : α → D} {tg : D → Env → Option Env} {L : Sm}
    (step : ∀ (kk : Env → SR) (x : α) (xs : List α) (ρ : Env), P (x :: xs) ρ → ∃ ρ', forR L kk (tg (f x) ρ) = kk ρ' ∧ P xs ρ') :
    ∀ (xs : List α) (ρ : Env), P xs ρ → ∃ ρ', loopF tg L (xs.map f) ρ = .nx ρ' ∧ P [] ρ'
  | [], ρ, h => ⟨ρ, rfl, h⟩
  | x :: xs, ρ, h => by
    obtain ⟨ρ1, e1, p1⟩ := step (loopF tg L (xs.map f)) x xs ρ h
    obtain ⟨ρ2, e2, p2⟩ := loopX step xs ρ1 p1
    exact ⟨ρ2, by rw [List.map_cons, loop_cons, e1, e2], p2⟩
/-! ### parts of a list -/
theorem cut_take {α : Type} (xs : List α) {c : Int} (h0 : 0 ≤ c) (h1 : c ≤ xs.length) : cutG xs none (some c) = xs.take c.toNat := by
  have e1 : HT.sIx xs.length 0 none = 0 := rfl
  have e2 : HT.sIx xs.length xs.length (some c) = c.toNat := by
    show (if c < 0 then (c + (xs.length : Int)).toNat else min c.toNat xs.length) = c.toNat
    rw [if_neg (by omega)]
    omega
  unfold cutG
  rw [e1, e2, List.drop_zero, Nat.sub_zero]
theorem cut_drop {α : Type} (xs : List α) {c : Int} (h0 : 0 ≤ c) (h1 : c ≤ xs.length) : cutG xs (some c) none = xs.drop c.toNat := by
  have e1 : HT.sIx xs.length xs.length none = xs.length := rfl
  have e2 : HT.sIx xs.length 0 (some c) = c.toNat := by
    show (if c < 0 then (c + (xs.length : Int)).toNat else min c.toNat xs.length) = c.toNat
    rw [if_neg (by omega)]
    omega
  unfold cutG
  rw [e1, e2]
  exact List.take_of_length_le (by rw [List.length_drop]; exact Nat.le_refl _)
theorem ixl_nat {xs : List D} {k : Nat} {q : D} (h : xs[k]? = some q) : ixD (.lst xs) (.int (k : Nat)) = some (.fz q) := by
  have hk := (List.getElem?_eq_some_iff.mp h).1
  rw [ix_l_nn (by omega) (by omega), Int.toNat_natCast, h]
  rfl
theorem ixt_nat {xs : List D} {k : Nat} {q : D} (h : xs[k]? = some q) : ixD (.tup xs) (.int (k : Nat)) = some (.fz q) := ixl_nat h
theorem perm_erase {α : Type} {l : List α} {i : Nat} (h : i < l.length) : (l[i] :: l.eraseIdx i).Perm l := by
  have e : l = l.take i ++ l[i] :: l.drop (i + 1) := by rw [List.getElem_cons_drop, List.take_append_drop]
  rw [List.eraseIdx_eq_take_drop_succ]
  exact (List.perm_middle.symm).trans (List.Perm.of_eq e.symm)
theorem erase_map {α β : Type} (f : α → β) (l : List α) (i : Nat) : (l.map f).eraseIdx i = (l.eraseIdx i).map f := by
  rw [List.eraseIdx_eq_take_drop_succ, List.eraseIdx_eq_take_drop_succ, List.map_append, List.map_take, List.map_drop]
theorem ne_nilD {k : Nat} {xs : List D} (h : ∀ x ∈ xs, Flt k x) (hk : k < 64) : neD (.lst xs) (.lst []) = some (.fz (.bl !xs.isEmpty)) := by
  unfold neD
  rw [sh_flt (flt_lst h) hk, show D.sh (.lst []) = true by decide +kernel]
  cases xs <;> rfl
end Mi

namespace Mi
open PySem PySem.Spec PyProof.Rows L2
/-! ### the sides between two ends, as a list of texts -/
def wW (s : List Bool) : List D := .str "end" :: (s.map sdD ++ [.str "end"])
theorem wW_len (s : List Bool) : (wW s).length = s.length + 2 := by
  unfold wW
  rw [List.length_cons, List.length_append, List.length_map]
  rfl
theorem wW_at (a b : List Bool) (x : Bool) : (wW (a ++ x :: b))[a.length + 1]? = some (sdD x) := by
  unfold wW
  rw [List.getElem?_cons_succ, List.map_append, List.map_cons, List.append_assoc, List.getElem?_append_right (by simp)]
  simp
theorem wW_0 (s : List Bool) : (wW s)[0]? = some (.str "end") := rfl
theorem wW_n (s : List Bool) : (wW s)[s.length + 1]? = some (.str "end") := by
  unfold wW
  rw [List.getElem?_cons_succ, List.getElem?_append_right (by simp)]
  simp
theorem wW_set (a b : List Bool) (x y : Bool) : (wW (a ++ x :: b)).set (a.length + 1) (sdD y) = wW (a ++ y :: b) := by
  unfold wW
  rw [List.set_cons_succ, List.map_append, List.map_cons, List.append_assoc, List.map_append, List.map_cons, List.append_assoc]
  congr 1
  have : a.length = (a.map sdD).length + 0 := by simp
  rw [this, List.set_append_right _ _ (by simp)]
  simp
theorem wW_ix (a b : List Bool) (x : Bool) : ixD (.lst (wW (a ++ x :: b))) (.int ((a.length : Int) + 1)) = some (.fz (sdD x)) := by
  have := ixl_nat (wW_at a b x)
  rw [show ((a.length + 1 : Nat) : Int) = (a.length : Int) + 1 by omega] at this
  exact this
theorem wW_ix0 (s : List Bool) : ixD (.lst (wW s)) (.int 0) = some (.fz (.str "end")) := ixl_nat (k := 0) rfl
theorem wW_ixn (s : List Bool) : ixD (.lst (wW s)) (.int ((s.length : Int) + 1)) = some (.fz (.str "end")) := by
  have := ixl_nat (wW_n s)
  rw [show ((s.length + 1 : Nat) : Int) = (s.length : Int) + 1 by omega] at this
  exact this
theorem ixN_nat {n k : Nat} (h : k < n) : ixN n (k : Nat) = some k := by
  unfold ixN
  rw [if_pos (by omega), if_pos (by omega)]
  rfl
theorem wW_ixN (a b : List Bool) (x : Bool) : ixN (wW (a ++ x :: b)).length ((a.length : Int) + 1) = some (a.length + 1) := by
  rw [show (a.length : Int) + 1 = ((a.length + 1 : Nat) : Int) by omega]
  refine ixN_nat ?_
  rw [wW_len]
  simp
  omega
theorem wW_cut (s : List Bool) : cutG (wW s) (some 1) (some (-1)) = s.map sdD := by
  have e1 : HT.sIx (wW s).length 0 (some 1) = 1 := by
    show (if (1 : Int) < 0 then ((1 : Int) + ((wW s).length : Int)).toNat else min (1 : Int).toNat (wW s).length) = 1
    rw [if_neg (by decide), wW_len]
    show min 1 (s.length + 2) = 1
    omega
  have e2 : HT.sIx (wW s).length (wW s).length (some (-1)) = s.length + 1 := by
    show (if (-1 : Int) < 0 then ((-1 : Int) + ((wW s).length : Int)).toNat else min (-1 : Int).toNat (wW s).length) = s.length + 1
    rw [if_pos (by decide), wW_len]
    omega
  unfold cutG
  rw [e1, e2]
  show ((s.map sdD ++ [D.str "end"]).take (s.length + 1 - 1)) = _
  rw [Nat.add_sub_cancel, List.take_append_of_le_length (by simp), List.take_of_length_le (by simp)]
theorem ne_end (q : Bool) : neD (sdD q) (.str "end") = some (.fz (.bl true)) := by cases q <;> kernel_rfl
theorem ne_end2 : neD (.str "end") (.str "end") = some (.fz (.bl false)) := by kernel_rfl
theorem eq_intsD : ∀ xs ys : List Int, D.eq (.lst (xs.map .int)) (.lst (ys.map .int)) = decide (xs = ys)
  | [], [] => rfl
  | [], _ :: _ => rfl
  | _ :: _, [] => rfl
  | x :: xs, y :: ys => by
    have ih := eq_intsD xs ys
    have e : D.eq (.lst ((x :: xs).map .int)) (.lst ((y :: ys).map .int)) = (D.eq (.int x) (.int y) && D.eq (.lst (xs.map .int)) (.lst (ys.map .int))) := rfl
    have e2 : D.eq (.int x) (.int y) = (x == y) := rfl
    rw [e, ih, e2]
    by_cases h : x = y <;> by_cases h2 : xs = ys <;> simp [h, h2]
theorem eqD_intsD (xs ys : List Int) : eqD (.lst (xs.map .int)) (.lst (ys.map .int)) = some (.fz (.bl (decide (xs = ys)))) := by
  unfold eqD
  rw [sh_ints, sh_ints, eq_intsD]
  rfl
theorem neD_intsD (xs ys : List Int) : neD (.lst (xs.map .int)) (.lst (ys.map .int)) = some (.fz (.bl (!decide (xs = ys)))) := by
  unfold neD
  rw [sh_ints, sh_ints, eq_intsD]
  rfl
/-- a complete walk, chosen once -/
noncomputable def wkP (s : List Bool) (p : Int) : List Int × List Bool × Int := open Classical in
  if h : 0 ≤ p ∧ p ≤ s.length + 1 then
    have h1 := wk_all h.1 h.2
    ⟨choose h1, choose (choose_spec h1), choose (choose_spec (choose_spec h1))⟩
  else ⟨[], s, 0⟩
theorem wkP_ok {s : List Bool} {p : Int} (h0 : 0 ≤ p) (h1 : p ≤ s.length + 1) : Wk s p (wkP s p).1 (wkP s p).2.1 (wkP s p).2.2 := by
  unfold wkP
  rw [dif_pos ⟨h0, h1⟩]
  exact Classical.choose_spec (Classical.choose_spec (Classical.choose_spec (wk_all h0 h1)))
theorem Wk.last {s t : List Bool} {p e : Int} {ps : List Int} (w : Wk s p ps t e) : (p :: ps).getLast? = some e := by
  induction w with
  | low => rfl
  | high => rfl
  | left w ih => rw [List.getLast?_cons_cons]; exact ih
  | right w ih => rw [List.getLast?_cons_cons]; exact ih
theorem Wk.short {s t : List Bool} {p e : Int} {ps : List Int} (w : Wk s p ps t e) (h0 : 0 ≤ p) (h1 : s.length ≤ 70) : ps.length ≤ 20000 := by
  have h := w.steps
  have hl := w.len
  have b1 := sR_b s 0 (Int.le_refl _)
  have b2 := sR_b t 0 (Int.le_refl _)
  rw [hl] at b2
  rw [Int.zero_add] at b1 b2
  have m1 : (s.length : Int) * s.length ≤ 70 * 70 := Int.mul_le_mul (by omega) (by omega) (by omega) (by omega)
  have hp : 0 ≤ p * p := Int.mul_nonneg h0 h0
  have he : e * e ≤ 71 * 71 := by
    have : 0 ≤ e ∧ e ≤ 71 := by
      rcases w.ends with ⟨k, _, _⟩ | ⟨k, _, _⟩ <;> omega
    exact Int.mul_le_mul this.2 this.2 this.1 (by omega)
  omega
end Mi

namespace Mi
open PySem PySem.Spec PyProof.Rows L2
/-! ### two rows: the last difference, the place to merge -/
theorem fl_k {l : Runs} (h : Ps l) {k : Int} (k0 : 0 ≤ k) (k1 : k ≤ amt l) : 0 ≤ k - fl k l ∧ k - fl k l ≤ amtR l ∧ 0 ≤ fl k l ∧ fl k l ≤ amtL l := by
  have hm := fl_mir (k := amt l - k) (ps_nn h)
  have e4 : amt l - (amt l - k) = k := by omega
  rw [e4, fr_k (ps_nn h) k0 k1] at hm
  have q := fl_b (k := amt l - k) (ps_nn (mir_ps h))
  have a := (mir_amt l).2
  have f := fl_b (k := k) (ps_nn h)
  omega
theorem cl_mono {j k c : Int} (hc : 0 ≤ c) (h : j ≤ k) : cl j c ≤ cl k c := by
  unfold cl
  split <;> split <;> (try split) <;> (try split) <;> omega
theorem fl_mono : ∀ {l : Runs} {j k : Int}, Nn l → j ≤ k → fl j l ≤ fl k l
  | [], _, _, _, _ => Int.le_refl _
  | (q, c) :: l, j, k, h, hj => by
    have ih := fl_mono (l := l) (j := j - c) (k := k - c) h.2 (by omega)
    have := cl_mono (c := c) h.1 hj
    cases q with
    | true =>
      show cl j c + fl (j - c) l ≤ cl k c + fl (k - c) l
      omega
    | false =>
      show 0 + fl (j - c) l ≤ 0 + fl (k - c) l
      omega
structure Ldif (l m : Runs) (d : Int) : Prop where
  d0 : 0 ≤ d
  d1 : d ≤ amt l
  after : ∀ k, d ≤ k → k ≤ amt l → fl (amt l) l - fl k l = fl (amt l) m - fl k m
  at' : 0 < d → (fl d l - fl (d - 1) l = 1 ∧ fl d m - fl (d - 1) m = 0) ∨ (fl d l - fl (d - 1) l = 0 ∧ fl d m - fl (d - 1) m = 1)
theorem Ldif.symm {l m : Runs} {d : Int} (h : Ldif l m d) (e : amt l = amt m) : Ldif m l d := by
  refine ⟨h.d0, by rw [← e]; exact h.d1, fun k h1 h2 => ?_, fun h0 => ?_⟩
  · rw [← e] at h2 ⊢
    exact (h.after k h1 h2).symm
  · rcases h.at' h0 with ⟨a, b⟩ | ⟨a, b⟩
    · exact .inr ⟨b, a⟩
    · exact .inl ⟨b, a⟩
/-- what the search for the last difference keeps -/
structure Lst2 (l m : Runs) (p : Int) (A B : Runs) : Prop where
  pA : Ps A
  pB : Ps B
  aA : amt A = p
  aB : amt B = p
  le : p ≤ amt l
  fA : ∀ k, 0 ≤ k → k ≤ p → fl k A = fl k l
  fB : ∀ k, 0 ≤ k → k ≤ p → fl k B = fl k m
  after : ∀ k, p ≤ k → k ≤ amt l → fl (amt l) l - fl k l = fl (amt l) m - fl k m
theorem Lst2.start {l m : Runs} (h : Ps l) (g : Ps m) (e : amt l = amt m) : Lst2 l m (amt l) l m :=
  ⟨h, g, rfl, e.symm, Int.le_refl _, fun _ _ _ => rfl, fun _ _ _ => rfl, fun k h1 h2 => by
    have : k = amt l := by omega
    rw [this]
    omega⟩
theorem fl_one {q : Bool} {c k : Int} : fl k [(q, c)] = if q then cl k c else 0 := by
  cases q with
  | true =>
    show cl k c + 0 = cl k c
    omega
  | false => rfl
theorem fl_last {A : Runs} {q : Bool} {c k : Int} : fl k (A ++ [(q, c)]) = fl k A + if q then cl (k - amt A) c else 0 := by
  rw [fl_append, fl_one]
theorem amt_last {A : Runs} {q : Bool} {c : Int} : amt (A ++ [(q, c)]) = amt A + c := by
  rw [amt_append]
  show amt A + (c + 0) = _
  omega
theorem ps_last {A : Runs} {q : Bool} {c : Int} : Ps (A ++ [(q, c)]) ↔ Ps A ∧ 1 ≤ c := by
  rw [ps_append]
  exact ⟨fun h => ⟨h.1, h.2.1⟩, fun h => ⟨h.1, h.2, trivial⟩⟩
/-- what is left of a run -/
def left1 (q : Bool) (c : Int) : Runs := if 0 < c then [(q, c)] else []
theorem left1_p {q : Bool} {c : Int} {A : Runs} (hA : Ps A) : Ps (A ++ left1 q c) := by
  unfold left1
  split
  · exact ps_last.mpr ⟨hA, by omega⟩
  · rw [List.append_nil]
    exact hA
theorem left1_a {q : Bool} {c : Int} {A : Runs} (h : 0 ≤ c) : amt (A ++ left1 q c) = amt A + c := by
  unfold left1
  split
  · exact amt_last
  · rw [List.append_nil]
    omega
theorem left1_f {q : Bool} {c k : Int} {A : Runs} (h : 0 ≤ c) (hA : Nn A) (hk : k ≤ amt A + c) : fl k (A ++ left1 q c) = fl k A + if q then max 0 (k - amt A) else 0 := by
  unfold left1
  split
  · rw [fl_last]
    congr 1
    cases q with
    | true =>
      show cl (k - amt A) c = max 0 (k - amt A)
      unfold cl
      split
      · omega
      · split <;> omega
    | false => rfl
  · rw [List.append_nil]
    cases q with
    | true =>
      show fl k A = fl k A + max 0 (k - amt A)
      omega
    | false =>
      show fl k A = fl k A + 0
      omega
theorem Lst2.step {l m A B : Runs} {q : Bool} {a b p : Int} (h : Lst2 l m p (A ++ [(q, a)]) (B ++ [(q, b)])) :
    Lst2 l m (p - min a b) (A ++ left1 q (a - min a b)) (B ++ left1 q (b - min a b)) := by
  have hA := ps_last.mp h.pA
  have hB := ps_last.mp h.pB
  have eA := h.aA
  have eB := h.aB
  rw [amt_last] at eA eB
  have nA := (amt_nn hA.1).1
  have nB := (amt_nn hB.1).1
  have hle := h.le
  have kA : ∀ k, k ≤ p → fl k (A ++ [(q, a)]) = fl k A + if q then max 0 (k - amt A) else 0 := fun k hk => by
    have := left1_f (q := q) (c := a) (k := k) (by omega) (ps_nn hA.1) (by omega)
    unfold left1 at this
    rw [if_pos (by omega)] at this
    exact this
  have kB : ∀ k, k ≤ p → fl k (B ++ [(q, b)]) = fl k B + if q then max 0 (k - amt B) else 0 := fun k hk => by
    have := left1_f (q := q) (c := b) (k := k) (by omega) (ps_nn hB.1) (by omega)
    unfold left1 at this
    rw [if_pos (by omega)] at this
    exact this
  refine ⟨left1_p hA.1, left1_p hB.1, by rw [left1_a (by omega)]; omega, by rw [left1_a (by omega)]; omega, by omega, fun k h0 h1 => ?_, fun k h0 h1 => ?_, fun k h0 h1 => ?_⟩
  · rw [left1_f (by omega) (ps_nn hA.1) (by omega), ← h.fA k h0 (by omega), kA k (by omega)]
  · rw [left1_f (by omega) (ps_nn hB.1) (by omega), ← h.fB k h0 (by omega), kB k (by omega)]
  · by_cases hk : p ≤ k
    · exact h.after k hk h1
    · have x := h.after p (Int.le_refl _) h.le
      have y1 := h.fA p (by omega) (Int.le_refl _)
      have y2 := h.fB p (by omega) (Int.le_refl _)
      have z1 := h.fA k (by omega) (by omega)
      have z2 := h.fB k (by omega) (by omega)
      rw [kA p (Int.le_refl _)] at y1
      rw [kB p (Int.le_refl _)] at y2
      rw [kA k (by omega)] at z1
      rw [kB k (by omega)] at z2
      have w1 : fl p A = fl k A := by
        have q1 := (fl_b (k := p) (ps_nn hA.1)).2.2.1 (by omega)
        have q2 := (fl_b (k := k) (ps_nn hA.1)).2.2.1 (by omega)
        omega
      have w2 : fl p B = fl k B := by
        have q1 := (fl_b (k := p) (ps_nn hB.1)).2.2.1 (by omega)
        have q2 := (fl_b (k := k) (ps_nn hB.1)).2.2.1 (by omega)
        omega
      cases q with
      | true =>
        simp only [if_true] at y1 y2 z1 z2
        omega
      | false =>
        simp only [Bool.false_eq_true, if_false] at y1 y2 z1 z2
        omega
theorem Lst2.stop0 {l m A B : Runs} (hl : Ps l) (h : Lst2 l m 0 A B) : Ldif l m 0 := ⟨Int.le_refl _, by have := (amt_nn hl).1; omega, h.after, fun z => absurd z (by decide)⟩
theorem Lst2.stop1 {l m A B : Runs} {q s : Bool} {a b p : Int} (h : Lst2 l m p (A ++ [(q, a)]) (B ++ [(s, b)])) (hq : q ≠ s) : Ldif l m p := by
  have hA := ps_last.mp h.pA
  have hB := ps_last.mp h.pB
  have eA := h.aA
  have eB := h.aB
  rw [amt_last] at eA eB
  have nA := (amt_nn hA.1).1
  have nB := (amt_nn hB.1).1
  have kA : ∀ k, k ≤ p → fl k (A ++ [(q, a)]) = fl k A + if q then max 0 (k - amt A) else 0 := fun k hk => by
    have := left1_f (q := q) (c := a) (k := k) (by omega) (ps_nn hA.1) (by omega)
    unfold left1 at this
    rw [if_pos (by omega)] at this
    exact this
  have kB : ∀ k, k ≤ p → fl k (B ++ [(s, b)]) = fl k B + if s then max 0 (k - amt B) else 0 := fun k hk => by
    have := left1_f (q := s) (c := b) (k := k) (by omega) (ps_nn hB.1) (by omega)
    unfold left1 at this
    rw [if_pos (by omega)] at this
    exact this
  refine ⟨by omega, h.le, h.after, fun _ => ?_⟩
  rw [← h.fA p (by omega) (Int.le_refl _), ← h.fB p (by omega) (Int.le_refl _), ← h.fA (p - 1) (by omega) (by omega), ← h.fB (p - 1) (by omega) (by omega), kA p (Int.le_refl _), kB p (Int.le_refl _), kA (p - 1) (by omega), kB (p - 1) (by omega)]
  have w1 : fl p A = fl (p - 1) A := by
    have q1 := (fl_b (k := p) (ps_nn hA.1)).2.2.1 (by omega)
    have q2 := (fl_b (k := p - 1) (ps_nn hA.1)).2.2.1 (by omega)
    omega
  have w2 : fl p B = fl (p - 1) B := by
    have q1 := (fl_b (k := p) (ps_nn hB.1)).2.2.1 (by omega)
    have q2 := (fl_b (k := p - 1) (ps_nn hB.1)).2.2.1 (by omega)
    omega
  cases q with
  | true =>
    have : s = false := by cases s <;> simp_all
    subst this
    simp only [if_true, Bool.false_eq_true, if_false]
    left
    omega
  | false =>
    have : s = true := by cases s <;> simp_all
    subst this
    simp only [if_true, Bool.false_eq_true, if_false]
    right
    omega
section
variable {l m : Runs} (h : Good l) (g : Good m) (e : amt l = amt m) (er : amtR l = amtR m) {d : Int} (hd : Ldif l m d)
include h g e er hd
theorem ld_fl {k : Int} (h1 : d ≤ k) (h2 : k ≤ amt l) : fl k l = fl k m := by
  have a := amtL_fl (ps_nn h.ps)
  have b := amtL_fl (ps_nn g.ps)
  have c := hd.after k h1 h2
  have x := amtL_R l
  have y := amtL_R m
  rw [← e] at b
  omega
theorem ld_0 (h0 : d = 0) : l = m := fl_inj h g e fun k k0 k1 => ld_fl h g e er hd (by omega) k1
theorem ld_pos (h0 : 0 < d) : 1 ≤ fl d l ∧ fl (d - 1) l ≠ fl (d - 1) m ∧ fl d l - 1 ≤ fl (d - 1) l ∧ fl d l - 1 ≤ fl (d - 1) m := by
  have a := ld_fl h g e er hd (Int.le_refl _) hd.d1
  have hd1 := hd.d1
  have b := (fl_k h.ps (k := d - 1) (by omega) (by omega)).2.2.1
  have c := (fl_k g.ps (k := d - 1) (by omega) (by omega)).2.2.1
  rcases hd.at' h0 with ⟨x, y⟩ | ⟨x, y⟩ <;> omega
theorem ld_ne (hne : l ≠ m) : 0 < d := by
  have := hd.d0
  refine Int.not_le.mp fun z => hne (ld_0 h g e er hd (by omega))
/-- the place to merge -/
theorem mg_b (hn : 1 ≤ amt l) : 1 ≤ max 1 (fl d l) ∧ max 1 (fl d l) ≤ amt l := by
  have a := fl_k h.ps hd.d0 hd.d1
  have x := amtL_R l
  have y := amtR_le h.ps
  omega
theorem mg_yes (hn : 1 ≤ amt l) {s : Int} (hs : max 1 (fl d l) = s) : crR l [(s, 1)] = crR m [(s, 1)] := by
  have hb := mg_b h g e er hd hn
  have y := amtR_le h.ps
  have x := amtL_R l
  have x2 := amtL_R m
  rw [hs] at hb
  have v1 : Vb (amt l) [(s, 1)] := vb_one hb.1 hb.2 (by decide)
  have v2 : Vb (amt m) [(s, 1)] := by rw [← e]; exact v1
  have a1 := (crR_amt h v1).1
  have a2 := (crR_amt g v2).1
  have fd := (fl_k h.ps hd.d0 hd.d1).2.2.2
  refine fl_inj (crR_good _ _) (crR_good _ _) (by omega) fun k k0 k1 => ?_
  rw [a1] at k1
  rw [crR_fl h v1 k0 k1, crR_fl g v2 k0 (by omega), ← e, ← er]
  have tu : tU (amt l + 1) (amtR l) [(s, 1)] = s * (1 - exB (amt l + 1) (amtR l) (s, 1)) + 0 := rfl
  have f1 := fl_k h.ps k0 k1
  have f2 := fl_k g.ps k0 (by omega)
  by_cases hk : d ≤ k
  · rw [ld_fl h g e er hd hk k1]
  · have m1 := fl_mono (ps_nn h.ps) (show k ≤ d by omega)
    have m2 := fl_mono (ps_nn g.ps) (show k ≤ d by omega)
    have m3 := ld_fl h g e er hd (Int.le_refl _) hd.d1
    rcases one_x y.1 y.2 hb.1 hb.2 with ⟨z1, z2, z3⟩ | ⟨z1, z2, z3⟩ <;> rw [tu, z2]
    · rw [Int.sub_zero, Int.mul_one]
      omega
    · rw [Int.sub_self, Int.mul_zero]
      omega
theorem mg_no {t : Int} (h1 : 1 ≤ t) (h2 : t < max 1 (fl d l)) : crR l [(t, 1)] ≠ crR m [(t, 1)] := fun z => by
  have y := amtR_le h.ps
  have x := amtL_R l
  have x2 := amtL_R m
  have fd := fl_k h.ps hd.d0 hd.d1
  have h0 : 0 < d := by
    refine Int.not_le.mp fun c => ?_
    have : d = 0 := by have := hd.d0; omega
    rw [this] at h2 fd
    omega
  have hp := ld_pos h g e er hd h0
  have hd1 := hd.d1
  have v1 : Vb (amt l) [(t, 1)] := vb_one h1 (by omega) (by decide)
  have v2 : Vb (amt m) [(t, 1)] := by rw [← e]; exact v1
  have q := congrArg (fl (d - 1)) z
  rw [crR_fl h v1 (by omega) (by omega), crR_fl g v2 (by omega) (by omega), ← e, ← er] at q
  have tu : tU (amt l + 1) (amtR l) [(t, 1)] = t * (1 - exB (amt l + 1) (amtR l) (t, 1)) + 0 := rfl
  have tr : tR (amt l + 1) (amtR l) [(t, 1)] = nxB (amt l + 1) (amtR l) (t, 1) := rfl
  have f1 := fl_k h.ps (k := d - 1) (by omega) (by omega)
  have f2 := fl_k g.ps (k := d - 1) (by omega) (by omega)
  rcases one_x y.1 y.2 h1 (show t ≤ amt l by omega) with ⟨z1, z2, z3⟩ | ⟨z1, z2, z3⟩
  · rw [tu, tr, z2, z3, Int.sub_zero, Int.mul_one] at q
    omega
  · omega
/-- walkers from place 1 -/
theorem mg_one (hn : 1 ≤ amt l) {j : Int} (hj : 0 ≤ j) : (crR l [(1, j)] = crR m [(1, j)]) ↔ (l = m ∨ max 1 (fl d l) ≤ j) := by
  have y := amtR_le h.ps
  have x := amtL_R l
  have x2 := amtL_R m
  have fd := fl_k h.ps hd.d0 hd.d1
  have hd1 := hd.d1
  have v1 : Vb (amt l) [(1, j)] := vb_one (by decide) hn hj
  have v2 : Vb (amt m) [(1, j)] := by rw [← e]; exact v1
  obtain ⟨k1, k2, k3, k4, k5, k6, k7, k8⟩ := blk1 (b := (1, j)) y.1 y.2 ⟨Int.le_refl 1, hn, hj⟩
  have k2 : exB (amt l + 1) (amtR l) (1, j) ≤ j := k2
  have k8 : (amt l + 1) * exB (amt l + 1) (amtR l) (1, j) + nxB (amt l + 1) (amtR l) (1, j) = amtR l + 1 * j := k8
  have tu : tU (amt l + 1) (amtR l) [(1, j)] = 1 * (j - exB (amt l + 1) (amtR l) (1, j)) + 0 := rfl
  have tr : tR (amt l + 1) (amtR l) [(1, j)] = nxB (amt l + 1) (amtR l) (1, j) := rfl
  rw [Int.one_mul] at tu k8
  constructor
  · intro z
    by_cases c : l = m
    · exact .inl c
    · right
      refine Int.not_lt.mp fun hlt => ?_
      have h0 := ld_ne h g e er hd c
      have hp := ld_pos h g e er hd h0
      have q := congrArg (fl (d - 1)) z
      rw [crR_fl h v1 (by omega) (by omega), crR_fl g v2 (by omega) (by omega), ← e, ← er, tu, tr] at q
      have f1 := fl_k h.ps (k := d - 1) (by omega) (by omega)
      have f2 := fl_k g.ps (k := d - 1) (by omega) (by omega)
      have hx : exB (amt l + 1) (amtR l) (1, j) = 0 := by
        show (amtR l + 1 * j) / (amt l + 1) = 0
        rw [Int.one_mul]
        exact Int.ediv_eq_zero_of_lt (by omega) (by omega)
      rw [hx] at q k8
      rw [Int.mul_zero] at k8
      omega
  · intro hc
    rcases hc with rfl | hc
    · rfl
    have a1 := (crR_amt h v1).1
    have a2 := (crR_amt g v2).1
    refine fl_inj (crR_good _ _) (crR_good _ _) (by omega) fun k q0 q1 => ?_
    rw [a1] at q1
    rw [crR_fl h v1 q0 q1, crR_fl g v2 q0 (by omega), ← e, ← er, tu]
    have f1 := fl_k h.ps q0 q1
    have f2 := fl_k g.ps q0 (by omega)
    by_cases hk : d ≤ k
    · rw [ld_fl h g e er hd hk q1]
    · have m1 := fl_mono (ps_nn h.ps) (show k ≤ d by omega)
      have m2 := fl_mono (ps_nn g.ps) (show k ≤ d by omega)
      have m3 := ld_fl h g e er hd (Int.le_refl _) hd.d1
      by_cases hx : exB (amt l + 1) (amtR l) (1, j) = 0
      · rw [hx]
        omega
      · have : (amt l + 1) * 1 ≤ (amt l + 1) * exB (amt l + 1) (amtR l) (1, j) := Int.mul_le_mul_of_nonneg_left (by omega) (by omega)
        have hu : amt l - amtR l ≤ j - exB (amt l + 1) (amtR l) (1, j) := by
          have e2 : (amt l + 1) * exB (amt l + 1) (amtR l) (1, j) = amt l * exB (amt l + 1) (amtR l) (1, j) + exB (amt l + 1) (amtR l) (1, j) := by rw [Int.add_mul, Int.one_mul]
          have e3 : amt l * 1 ≤ amt l * exB (amt l + 1) (amtR l) (1, j) := Int.mul_le_mul_of_nonneg_left (by omega) (by omega)
          omega
        omega
theorem mg_crowd (hn : 1 ≤ amt l) {s : Int} (hs : max 1 (fl d l) = s) {as bs : List (Int × Int)} (va : Vb (amt l) as) (vb : Vb (amt l) bs) : crR l (as ++ [(s, 1)] ++ bs) = crR m (as ++ [(s, 1)] ++ bs) := by
  have hb := mg_b h g e er hd hn
  rw [hs] at hb
  have v1 : Vb (amt l) [(s, 1)] := vb_one hb.1 hb.2 (by decide)
  have hp : (as ++ [(s, 1)] ++ bs).Perm ([(s, 1)] ++ (as ++ bs)) := by
    rw [List.append_assoc]
    exact List.perm_middle
  have v2 : Vb (amt l) (as ++ [(s, 1)] ++ bs) := (va.app v1).app vb
  have v3 : Vb (amt m) (as ++ [(s, 1)] ++ bs) := by rw [← e]; exact v2
  rw [crR_perm hp h v2, crR_perm hp g v3, crR_app h v1 (va.app vb), crR_app g (by rw [← e]; exact v1) (by rw [← e]; exact va.app vb), mg_yes h g e er hd hn hs]
end
/-- another number of right posts: never equal -/
theorem crR_far {l m : Runs} (h : Good l) (g : Good m) (e : amt l = amt m) {bs : List (Int × Int)} (hv : Vb (amt l) bs) (hr : amtR m = amtR l + 1 ∨ amtR m = amtR l - 1) (hn : 1 ≤ amt l) : crR l bs ≠ crR m bs := fun z => by
  have y := amtR_le h.ps
  have y2 := amtR_le g.ps
  have hv2 : Vb (amt m) bs := by rw [← e]; exact hv
  have a1 := (crR_amt h hv).2
  have a2 := (crR_amt g hv2).2
  have s1 := tX_sum y.1 y.2 hv
  have s2 := tX_sum y2.1 y2.2 hv2
  rw [← e] at a2 s2
  rw [← z, a1] at a2
  have key : (amt l + 1) * (tX (amt l + 1) (amtR l) bs - tX (amt l + 1) (amtR m) bs) = amtR l - amtR m := by
    rw [Int.mul_sub]
    omega
  obtain ⟨w, hw⟩ : ∃ w, tX (amt l + 1) (amtR l) bs - tX (amt l + 1) (amtR m) bs = w := ⟨_, rfl⟩
  rw [hw] at key
  by_cases w0 : w = 0
  · rw [w0, Int.mul_zero] at key
    omega
  · by_cases wp : 0 < w
    · have : (amt l + 1) * 1 ≤ (amt l + 1) * w := Int.mul_le_mul_of_nonneg_left (by omega) (by omega)
      omega
    · have : (amt l + 1) * w ≤ (amt l + 1) * (-1) := Int.mul_le_mul_of_nonneg_left (by omega) (by omega)
      omega
end Mi

namespace Mi
open PySem PySem.Spec PyProof.Rows L2
/-! ### small rows: walkers one after another -/
theorem mem_amt : ∀ {l : Runs}, Ps l → ∀ r ∈ l, 0 ≤ r.2 ∧ r.2 ≤ amt l
  | [], _, r, hr => nomatch hr
  | (q, c) :: l, h, r, hr => by
    have h2 := (amt_nn h.2).1
    have h1 : 1 ≤ c := h.1
    show 0 ≤ r.2 ∧ r.2 ≤ c + amt l
    rcases List.mem_cons.mp hr with rfl | hr
    · show 0 ≤ c ∧ c ≤ c + amt l
      omega
    · have := mem_amt h.2 r hr
      omega
theorem pk_len (s : List Bool) : (pk s).length ≤ s.length := by
  have := jn_le (l := ones s) (fs := [])
  rw [List.length_nil] at this
  have e : (ones s).length = s.length := by
    unfold ones
    rw [List.length_map]
  unfold pk
  omega
theorem pk_inj {s t : List Bool} (h : pk s = pk t) : s = t := by
  rw [← ex_pk s, ← ex_pk t, h]
theorem pk_ex {l : Runs} (h : Good l) : pk (ex l) = l := ex_inj (pk_good _) h (ex_pk _)
noncomputable def afE : List Bool → List Int → List Int
  | _, [] => []
  | s, p :: ps => (wkP s p).2.2 :: afE (wkP s p).2.1 ps
noncomputable def afT : List Bool → List Int → List Bool
  | s, [] => s
  | s, p :: ps => afT (wkP s p).2.1 ps
def Pl (n : Nat) (ps : List Int) : Prop := ∀ p ∈ ps, 1 ≤ p ∧ p ≤ n
theorem wkP_len {s : List Bool} {p : Int} (h1 : 1 ≤ p) (h2 : p ≤ s.length) : (wkP s p).2.1.length = s.length := (wkP_ok (by omega) (by omega)).len
theorem wkP_e {s : List Bool} {p : Int} (h1 : 1 ≤ p) (h2 : p ≤ s.length) : (wkP s p).2.2 = if nR s + p ≤ s.length then 0 else (s.length : Int) + 1 := ((wkP_ok (by omega) (by omega)).packed h1 h2).2.1
theorem wkP_pk {s : List Bool} {p : Int} (h1 : 1 ≤ p) (h2 : p ≤ s.length) : crR (pk s) [(p, 1)] = pk (wkP s p).2.1 := ((wkP_ok (by omega) (by omega)).packed h1 h2).1
theorem wkP_st {s : List Bool} {p : Int} (h1 : 1 ≤ p) (h2 : p ≤ s.length) : ((wkP s p).1.length : Int) = stepsC (pk s) [(p, 1)] := ((wkP_ok (by omega) (by omega)).packed h1 h2).2.2
theorem wkP_nR {s : List Bool} {p : Int} (h1 : 1 ≤ p) (h2 : p ≤ s.length) : nR (wkP s p).2.1 = nR s + p - (wkP s p).2.2 := by
  have w := wkP_ok (s := s) (p := p) (by omega) (by omega)
  rcases w.ends with ⟨k1, k2, _⟩ | ⟨k1, k2, _⟩ <;> omega
theorem afT_len : ∀ {ps : List Int} {s : List Bool}, Pl s.length ps → (afT s ps).length = s.length
  | [], _, _ => rfl
  | p :: ps, s, h => by
    have hp := h p (List.mem_cons_self ..)
    have hl := wkP_len hp.1 hp.2
    show (afT (wkP s p).2.1 ps).length = _
    rw [afT_len (by rw [hl]; exact fun q hq => h q (List.mem_cons_of_mem _ hq)), hl]
theorem vb_pl {n : Nat} {ps : List Int} (h : Pl n ps) : Vb n (ps.map fun p => (p, 1)) := fun x hx => by
  obtain ⟨p, hp, rfl⟩ := List.mem_map.mp hx
  exact ⟨(h p hp).1, (h p hp).2, (by decide : (0 : Int) ≤ 1)⟩
theorem af_crR : ∀ {ps : List Int} {s : List Bool}, Pl s.length ps → crR (pk s) (ps.map fun p => (p, 1)) = pk (afT s ps)
  | [], s, _ => crR_nil (pk_good s)
  | p :: ps, s, h => by
    have hp := h p (List.mem_cons_self ..)
    have hl := wkP_len hp.1 hp.2
    have hv : Vb (amt (pk s)) ((p :: ps).map fun p => (p, 1)) := by
      rw [pk_amt]
      exact vb_pl h
    rw [List.map_cons] at hv ⊢
    rw [crR_cons (pk_good s) hv, wkP_pk hp.1 hp.2]
    exact af_crR (by rw [hl]; exact fun q hq => h q (List.mem_cons_of_mem _ hq))
theorem afE_same : ∀ {ps : List Int} {s t : List Bool}, s.length = t.length → nR s = nR t → Pl s.length ps → afE s ps = afE t ps
  | [], _, _, _, _, _ => rfl
  | p :: ps, s, t, hl, hn, h => by
    have hp := h p (List.mem_cons_self ..)
    have hp2 : p ≤ t.length := by omega
    have e1 := wkP_e hp.1 hp.2
    have e2 := wkP_e hp.1 hp2
    have l1 := wkP_len hp.1 hp.2
    have l2 := wkP_len hp.1 hp2
    have n1 := wkP_nR hp.1 hp.2
    have n2 := wkP_nR hp.1 hp2
    have ee : (wkP s p).2.2 = (wkP t p).2.2 := by rw [e1, e2, hn, hl]
    show (wkP s p).2.2 :: afE (wkP s p).2.1 ps = (wkP t p).2.2 :: afE (wkP t p).2.1 ps
    have ih := afE_same (ps := ps) (s := (wkP s p).2.1) (t := (wkP t p).2.1) (by omega) (by omega) (by rw [l1]; exact fun q hq => h q (List.mem_cons_of_mem _ hq))
    rw [ee, ih]
theorem afE_pair {ps : List Int} {s : List Bool} : (afE s ps).length = ps.length := by
  induction ps generalizing s with
  | nil => rfl
  | cons p ps ih => exact congrArg (· + 1) ih
/-- the ends from all places tell the number of right posts -/
theorem mem_rngI : ∀ {n : Nat} {k p : Int}, p ∈ rngI k n ↔ k ≤ p ∧ p < k + n
  | 0, k, p => ⟨fun h => (nomatch h), fun h => by omega⟩
  | n + 1, k, p => by
    show p ∈ k :: rngI (k + 1) n ↔ _
    rw [List.mem_cons, mem_rngI]
    omega
theorem ends_same {s t : List Bool} (hl : s.length = t.length) : ((rngI 1 s.length).map (fun p => (wkP s p).2.2) = (rngI 1 s.length).map fun p => (wkP t p).2.2) ↔ nR s = nR t := by
  have bs := nR_b s
  have bt := nR_b t
  constructor
  · intro h
    have key : ∀ p : Int, 1 ≤ p → p ≤ s.length → (wkP s p).2.2 = (wkP t p).2.2 := fun p h1 h2 => by
      have hm : p ∈ rngI 1 s.length := mem_rngI.mpr ⟨h1, by omega⟩
      exact List.map_inj_left.mp h p hm
    refine Int.le_antisymm (Int.not_lt.mp fun c => ?_) (Int.not_lt.mp fun c => ?_)
    · have := key (s.length - nR t) (by omega) (by omega)
      rw [wkP_e (by omega) (by omega), wkP_e (by omega) (by omega), if_neg (by omega), if_pos (by omega)] at this
      omega
    · have := key (s.length - nR s) (by omega) (by omega)
      rw [wkP_e (by omega) (by omega), wkP_e (by omega) (by omega), if_pos (by omega), if_neg (by omega)] at this
      omega
  · intro h
    refine List.map_inj_left.mpr fun p hp => ?_
    have := mem_rngI.mp hp
    rw [wkP_e (by omega) (by omega), wkP_e (by omega) (by omega), h, hl]
/-- the first one of a row of numbers -/
theorem filt_first {f : Int → Bool} {sp : Int} (hy : f sp = true) : ∀ (n : Nat) (k : Int), k ≤ sp → sp < k + n → (∀ p, k ≤ p → p < sp → f p = false) → ((rngI k n).filter f).head? = some sp
  | 0, k, h1, h2, _ => by omega
  | n + 1, k, h1, h2, hn => by
    show ((k :: rngI (k + 1) n).filter f).head? = _
    by_cases hk : k = sp
    · subst hk
      rw [List.filter_cons, if_pos hy]
      rfl
    · rw [List.filter_cons, if_neg (by rw [hn k (Int.le_refl _) (by omega)]; decide)]
      exact filt_first hy n (k + 1) (by omega) (by omega) fun p h3 h4 => hn p (by omega) h4
theorem filt_none {f : Int → Bool} {n : Nat} {k : Int} (hn : ∀ p, k ≤ p → p < k + n → f p = false) : (rngI k n).filter f = [] := by
  rw [List.filter_eq_nil_iff]
  intro p hp
  have := mem_rngI.mp hp
  rw [hn p this.1 this.2]
  decide
theorem crR_far2 {l m : Runs} (h : Good l) (g : Good m) (e : amt l = amt m) {bs : List (Int × Int)} (hv : Vb (amt l) bs) (hr : amtR l ≠ amtR m) : crR l bs ≠ crR m bs := fun z => by
  have y := amtR_le h.ps
  have y2 := amtR_le g.ps
  have hv2 : Vb (amt m) bs := by rw [← e]; exact hv
  have a1 := (crR_amt h hv).2
  have a2 := (crR_amt g hv2).2
  have s1 := tX_sum y.1 y.2 hv
  have s2 := tX_sum y2.1 y2.2 hv2
  rw [← e] at a2 s2
  rw [← z, a1] at a2
  have key : (amt l + 1) * (tX (amt l + 1) (amtR l) bs - tX (amt l + 1) (amtR m) bs) = amtR l - amtR m := by
    rw [Int.mul_sub]
    omega
  obtain ⟨w, hw⟩ : ∃ w, tX (amt l + 1) (amtR l) bs - tX (amt l + 1) (amtR m) bs = w := ⟨_, rfl⟩
  rw [hw] at key
  by_cases w0 : w = 0
  · rw [w0, Int.mul_zero] at key
    omega
  · by_cases wp : 0 < w
    · have : (amt l + 1) * 1 ≤ (amt l + 1) * w := Int.mul_le_mul_of_nonneg_left (by omega) (by omega)
      omega
    · have : (amt l + 1) * w ≤ (amt l + 1) * (-1) := Int.mul_le_mul_of_nonneg_left (by omega) (by omega)
      omega
/-- the last one -/
theorem ix_lastI {xs : List Int} {e : Int} (h : xs.getLast? = some e) : ixD (.lst (xs.map .int)) (.int (-1)) = some (.fz (.int e)) := by
  obtain ⟨ys, rfl⟩ := List.getLast?_eq_some_iff.mp h
  rw [List.map_append]
  exact ix_last
theorem ex_short {w : Nat} : ∀ {l : Runs}, (∀ r ∈ l, r.2 ≤ w) → (ex l).length ≤ l.length * w
  | [], _ => by simp [ex]
  | (q, c) :: l, h => by
    have ih := ex_short (w := w) (l := l) fun r hr => h r (List.mem_cons_of_mem _ hr)
    have hc : c ≤ w := h (q, c) (List.mem_cons_self ..)
    have e : (l.length + 1) * w = l.length * w + w := by rw [Nat.add_mul, Nat.one_mul]
    rw [ex_cons, List.length_append, List.length_replicate, List.length_cons, e]
    show c.toNat + _ ≤ _
    omega
theorem ex_ne {l : Runs} (h : Ps l) (hn : l ≠ []) : ex l ≠ [] := fun z => by
  match l, hn with
  | (q, c) :: l, _ =>
    have hc : 1 ≤ c := h.1
    rw [ex_cons] at z
    have := congrArg List.length z
    rw [List.length_append, List.length_replicate, List.length_nil] at this
    have this : c.toNat + _ = 0 := this
    omega
/-- what repr shows of two lines -/
theorem repr_two {l m : Runs} (h : ∀ r ∈ l, r.2.natAbs < 10 ^ 190) (g : ∀ r ∈ m, r.2.natAbs < 10 ^ 190) (hl : l.length ≤ 140) (hm : m.length ≤ 140) : ∃ z : Str, reprD [.lst [.tup (l.map runD), .tup (m.map runD)]] = some (.fz (.str z)) := by
  have sl : ∀ k : Runs, (∀ r ∈ k, r.2.natAbs < 10 ^ 190) → k.length ≤ 140 → Shw 700 (.tup (k.map runD)) := fun k hk hlen => shw_tup (b := 4) (fun x hx => by
    obtain ⟨r, hr, rfl⟩ := List.mem_map.mp hx
    exact shw_run (hk r hr)) (by rw [List.length_map]; omega)
  refine ⟨_, repr_ok (b := 1402) (k := 3) (shw_lst (b := 700) (fun x hx => ?_) (by simp)) (flt_lst fun x hx => ?_) rfl (by decide) (by decide)⟩
  · simp only [List.mem_cons, List.not_mem_nil, or_false] at hx
    rcases hx with rfl | rfl
    · exact sl l h hl
    · exact sl m g hm
  · simp only [List.mem_cons, List.not_mem_nil, or_false] at hx
    rcases hx with rfl | rfl
    · exact flt_line l
    · exact flt_line m
end Mi

namespace Mi
open PySem PySem.Spec PyProof.Rows L2
/-! ### all small lines -/
def allB : Nat → List (List Bool)
  | 0 => [[]]
  | n + 1 => (allB n).flatMap fun s => [true :: s, false :: s]
theorem mem_allB : ∀ s : List Bool, s ∈ allB s.length
  | [] => List.mem_singleton.mpr rfl
  | q :: s => List.mem_flatMap.mpr ⟨s, mem_allB s, by cases q <;> simp⟩
def sjn (s : List Bool) : Str := Txt.join "" (s.map sideS)
def calmT (s : List Bool) : Bool := hasT "LR" (sjn s) == !calm (pk s)
theorem calm_all : ((List.range 10).all fun n => (allB (n + 1)).all calmT) = true := by decide +kernel
theorem calm_txt {s : List Bool} (h1 : s ≠ []) (h2 : s.length ≤ 10) : hasT "LR" (sjn s) = !calm (pk s) := by
  have h0 : 0 < s.length := List.length_pos_iff.mpr h1
  have k1 := List.all_eq_true.mp calm_all (s.length - 1) (List.mem_range.mpr (by omega))
  rw [show s.length - 1 + 1 = s.length by omega] at k1
  exact eq_of_beq (List.all_eq_true.mp k1 s (mem_allB s))
theorem sum_rep1 : ∀ n : Nat, (List.replicate n 1).sum = n
  | 0 => rfl
  | n + 1 => by rw [List.replicate_succ, List.sum_cons, sum_rep1 n]; omega
theorem side_len (q : Bool) : (sideS q).length = 1 := by cases q <;> rfl
theorem join_sds {s : List Bool} (h : s.length ≤ 1000) : joinD (.str "") (.lst (s.map sdD)) = some (.fz (.str (sjn s))) := by
  have e : (s.map sideS).map (·.length) = List.replicate s.length 1 := by
    rw [List.map_map, show ((fun x : Str => x.length) ∘ sideS) = fun _ => 1 from funext side_len]
    exact List.map_const' ..
  show (strsOf (s.map sdD)).bind _ = _
  rw [strs_sds]
  show (if _ then _ else _) = _
  rw [e, if_pos]
  · rfl
  · rw [sum_rep1]
    have : ("" : Str).length = 0 := rfl
    unfold SZ
    simp only [List.length_map, this]
    omega
end Mi

namespace Mi
open PySem PySem.Spec PyProof.Rows L2
/-! ### walkers from one place, one after another -/
noncomputable def itS (s : List Bool) (p : Int) : Nat → List Bool
  | 0 => s
  | i + 1 => (wkP (itS s p i) p).2.1
theorem it_len {s : List Bool} {p : Int} (h1 : 1 ≤ p) (h2 : p ≤ s.length) : ∀ i, (itS s p i).length = s.length
  | 0 => rfl
  | i + 1 => by
    have ih := it_len h1 h2 i
    show (wkP (itS s p i) p).2.1.length = _
    rw [wkP_len h1 (by omega), ih]
theorem it_pk {s : List Bool} {p : Int} (h1 : 1 ≤ p) (h2 : p ≤ s.length) : ∀ i : Nat, pk (itS s p i) = crR (pk s) [(p, (i : Int))]
  | 0 => (crR_zero (pk_good s) p).symm
  | i + 1 => by
    have ih := it_pk h1 h2 i
    have hl := it_len h1 h2 i
    show pk (wkP (itS s p i) p).2.1 = _
    rw [← wkP_pk h1 (by omega), ih, show ((i + 1 : Nat) : Int) = (i : Int) + 1 by omega, crR_more (pk_good s) h1 (by rw [pk_amt]; exact h2) (by omega) (by omega)]
theorem it_nR {s : List Bool} {p : Int} (h1 : 1 ≤ p) (h2 : p ≤ s.length) : ∀ i : Nat, nR (itS s p i) = nxB (s.length + 1) (nR s) (p, (i : Int))
  | 0 => by
    have := nR_b s
    show nR s = (nR s + p * (0 : Nat)) % _
    rw [show p * ((0 : Nat) : Int) = 0 by simp, Int.add_zero, Int.emod_eq_of_lt (by omega) (by omega)]
  | i + 1 => by
    have ih := it_nR h1 h2 i
    have hl := it_len h1 h2 i
    have hb := nR_b (itS s p i)
    have k1 := wkP_nR h1 (show p ≤ (itS s p i).length by omega)
    have k2 := wkP_e h1 (show p ≤ (itS s p i).length by omega)
    rw [hl] at hb k2
    have e : (nR s + p * ((i + 1 : Nat) : Int)) % ((s.length : Int) + 1) = (nR (itS s p i) + p) % ((s.length : Int) + 1) := by
      rw [ih]
      show _ = ((nR s + p * (i : Int)) % _ + p) % _
      rw [Int.emod_add_emod, show p * ((i + 1 : Nat) : Int) = p * (i : Int) + p by rw [show ((i + 1 : Nat) : Int) = (i : Int) + 1 by omega, Int.mul_add, Int.mul_one], Int.add_assoc]
    show nR (wkP (itS s p i) p).2.1 = (nR s + p * ((i + 1 : Nat) : Int)) % _
    rw [e, k1, k2]
    split
    · rw [Int.emod_eq_of_lt (by omega) (by omega)]; omega
    · rw [← Int.sub_emod_right, Int.emod_eq_of_lt (by omega) (by omega)]
/-- the end of walker i: true = left -/
def itE (n p r : Int) (i : Int) : Bool := !decide (n < nxB (n + 1) r (p, i) + p)
theorem it_e {s : List Bool} {p : Int} (h1 : 1 ≤ p) (h2 : p ≤ s.length) (i : Nat) : (wkP (itS s p i) p).2.2 = if itE s.length p (nR s) i then 0 else (s.length : Int) + 1 := by
  have hl := it_len h1 h2 i
  rw [wkP_e h1 (by omega), hl, it_nR h1 h2 i]
  unfold itE
  by_cases c : nxB (s.length + 1) (nR s) (p, (i : Int)) + p ≤ s.length
  · rw [if_pos c, decide_eq_false (by omega)]; rfl
  · rw [if_neg c, decide_eq_true (by omega)]; rfl
theorem exB_next {n p r : Int} (h1 : 1 ≤ p) (h2 : p ≤ n) (i : Int) : exB (n + 1) r (p, i + 1) = exB (n + 1) r (p, i) + if itE n p r i then 0 else 1 := by
  have k1 := Int.emod_add_mul_ediv (r + p * i) (n + 1)
  have k2 := Int.emod_nonneg (r + p * i) (show n + 1 ≠ 0 by omega)
  have k3 := Int.emod_lt_of_pos (r + p * i) (show 0 < n + 1 by omega)
  unfold itE
  show (r + p * (i + 1)) / (n + 1) = (r + p * i) / (n + 1) + _
  have e : nxB (n + 1) r (p, i) = (r + p * i) % (n + 1) := rfl
  rw [e]
  generalize hq : (r + p * i) / (n + 1) = q at *
  generalize hm : (r + p * i) % (n + 1) = m at *
  have e2 : r + p * (i + 1) = (m + p) + (n + 1) * q := by rw [Int.mul_add, Int.mul_one]; omega
  rw [e2, Int.add_mul_ediv_left _ _ (by omega)]
  by_cases c : n < m + p
  · rw [decide_eq_true c]
    have : (m + p) / (n + 1) = 1 := by
      rw [show m + p = (m + p - (n + 1)) + (n + 1) * 1 by omega, Int.add_mul_ediv_left _ _ (by omega), Int.ediv_eq_zero_of_lt (by omega) (by omega)]
      rfl
    rw [this]
    show 1 + q = q + 1
    omega
  · rw [decide_eq_false c, Int.ediv_eq_zero_of_lt (by omega) (by omega)]
    show 0 + q = q + 0
    omega
end Mi

namespace G
open PySem PySem.Spec PyProof.Rows L2 Mi
/-! ### small lines, side by side -/
theorem ll_loop (x0 : Option Sl) : ∀ (s : List Bool) (acc : Runs), acc.length + s.length < 1000 →
    loopC (turnC (gNm 1) tYesE E_law_line_0 [1]) (s.map sdD) [x0, none] (acc.map runD) = .ok ((acc ++ ones s).map runD) [x0, none]
  | [], acc, _ => by rw [show acc ++ ones [] = acc from List.append_nil _]; rfl
  | q :: s, acc, hl => by
    rw [List.length_cons] at hl
    have ih := ll_loop x0 s (acc ++ [(q, 1)]) (by rw [List.length_append, List.length_cons, List.length_nil]; omega)
    have e7 : turnC (gNm 1) tYesE E_law_line_0 [1] (sdD q) [x0, none] = .ok (some (runD (q, 1))) [x0, none] := by
      have e0 : runD (q, 1) = .tup [sdD q, .int 1] := rfl
      rw [e0]
      unfold E_law_line_0
      generalize sdD q = d
      simp (maxSteps := 20000000) (disch := (first | assumption | omega | (simp only [List.length_cons, List.length_nil, List.length_append, List.length_map, SZ]; done) | (simp only [List.length_cons, List.length_nil, List.length_append, List.length_map, SZ]; omega))) only [EVA, ev_it, ev_if_f, List.getElem?_cons_zero, List.getElem?_cons_succ, List.set_cons_zero, List.set_cons_succ, Bool.and_true, Bool.true_and, Bool.or_true, Bool.true_or, Bool.or_false, Bool.false_or, Bool.and_false, Bool.false_and, Bool.not_true, Bool.not_false, List.length_cons, List.length_nil, List.map_cons, List.map_nil, List.replicate_succ, List.replicate_zero, List.cons_append, List.nil_append, if_true, if_false, Nat.reduceAdd, Nat.reduceEqDiff, beq_self_eq_true, reduceIte, Nat.zero_add, eq_self, SZ, List.contains_cons, List.contains_nil, Nat.reduceBEq, Nat.reduceLT, Nat.reduceLeDiff, Int.reduceToNat, Int.reducePow, Int.reduceAdd, Int.reduceSub, Int.reduceMul, Int.reduceNeg, Int.reduceLT, Int.reduceLE, Int.reduceEq, Int.reduceDiv, Int.reduceMod, Option.map_some, Option.map_none]
    have e8 : acc.map runD ++ [runD (q, 1)] = (acc ++ [(q, 1)]).map runD := by rw [List.map_append]; rfl
    rw [List.map_cons, lc_cons, e7, ev_lcR1 (by rw [List.length_map]; unfold SZ; omega), e8, ih, List.append_assoc]
    rfl
theorem lline_ok {s : List Bool} (h : s.length ≤ 100) : F_law_line [.fz (.lst (s.map sdD))] = .ret (.fz (lnD (pk s))) [none] := by
  have e1 := ll_loop (some (.fz (.lst (s.map sdD)))) s [] (by simp; omega)
  rw [List.nil_append, List.map_nil] at e1
  have hlen : (ones s).length = s.length := List.length_map ..
  have e2 := ljoined_ok (ones s) (by omega)
  have e2 : F_law_joined [.fz (.lst ((ones s).map runD))] = .ret (.fz (lnD (pk s))) [none] := e2
  unfold F_law_line B_law_line
  generalize F_law_joined = f1 at *
  generalize E_law_line_0 = f2 at *
  generalize lnD (pk s) = ld at *
  generalize (ones s).map runD = od at *
  generalize s.map sdD = sd at *
  simp (maxSteps := 20000000) (disch := (first | assumption | omega | (simp only [List.length_cons, List.length_nil, List.length_append, List.length_map, SZ]; done) | (simp only [List.length_cons, List.length_nil, List.length_append, List.length_map, SZ]; omega))) only [EVA, ev_it, ev_if_f, List.getElem?_cons_zero, List.getElem?_cons_succ, List.set_cons_zero, List.set_cons_succ, Bool.and_true, Bool.true_and, Bool.or_true, Bool.true_or, Bool.or_false, Bool.false_or, Bool.and_false, Bool.false_and, Bool.not_true, Bool.not_false, List.length_cons, List.length_nil, List.map_cons, List.map_nil, List.replicate_succ, List.replicate_zero, List.cons_append, List.nil_append, if_true, if_false, Nat.reduceAdd, Nat.reduceEqDiff, beq_self_eq_true, reduceIte, Nat.zero_add, eq_self, SZ, List.contains_cons, List.contains_nil, Nat.reduceBEq, Nat.reduceLT, Nat.reduceLeDiff, Int.reduceToNat, Int.reducePow, Int.reduceAdd, Int.reduceSub, Int.reduceMul, Int.reduceNeg, Int.reduceLT, Int.reduceLE, Int.reduceEq, Int.reduceDiv, Int.reduceMod, Option.map_some, Option.map_none, e1, e2]
theorem dget_a (q : Bool) : dgetD (.dic (List.zip [.inr "L", .inr "R"] [.str "R", .str "L"])) (.str (sideS q)) = some (.fz (.str (sideS !q))) := by cases q <;> kernel_rfl
theorem dget_b (q : Bool) : dgetD (.dic (List.zip [.inr "L", .inr "R"] [.int (-1), .int 1])) (.str (sideS q)) = some (.fz (.int (if q then -1 else 1))) := by cases q <;> kernel_rfl
theorem lw_T (x0 x1 x5 : Option Sl) (s : List Bool) (p m : Int) (hs : s.length ≤ 1000) (b : Bool) (hb : b = (decide (0 < p) && decide (p ≤ s.length))) :
    T_law_walk_1 [x0, x1, some (.ow (s.map sdD)), some (.fz (.int p)), some (.fz (.int m)), x5] = .ok b [x0, x1, some (.ow (s.map sdD)), some (.fz (.int p)), some (.fz (.int m)), x5] := by
  have e1 : (s.map sdD).length = s.length := List.length_map ..
  subst hb
  unfold T_law_walk_1
  generalize s.map sdD = sd at *
  generalize s.length = n at *
  by_cases c : 0 < p
  · have d : decide (0 < p) = true := decide_eq_true c
    simp (maxSteps := 20000000) (disch := (first | assumption | omega | (simp only [List.length_cons, List.length_nil, List.length_append, List.length_map, SZ]; done) | (simp only [List.length_cons, List.length_nil, List.length_append, List.length_map, SZ]; omega))) only [EVA, ev_it, ev_if_f, List.getElem?_cons_zero, List.getElem?_cons_succ, List.set_cons_zero, List.set_cons_succ, Bool.and_true, Bool.true_and, Bool.or_true, Bool.true_or, Bool.or_false, Bool.false_or, Bool.and_false, Bool.false_and, Bool.not_true, Bool.not_false, List.length_cons, List.length_nil, List.map_cons, List.map_nil, List.replicate_succ, List.replicate_zero, List.cons_append, List.nil_append, if_true, if_false, Nat.reduceAdd, Nat.reduceEqDiff, beq_self_eq_true, reduceIte, Nat.zero_add, eq_self, SZ, List.contains_cons, List.contains_nil, Nat.reduceBEq, Nat.reduceLT, Nat.reduceLeDiff, Int.reduceToNat, Int.reducePow, Int.reduceAdd, Int.reduceSub, Int.reduceMul, Int.reduceNeg, Int.reduceLT, Int.reduceLE, Int.reduceEq, Int.reduceDiv, Int.reduceMod, Option.map_some, Option.map_none, e1, d]
  · have d : decide (0 < p) = false := decide_eq_false c
    simp (maxSteps := 20000000) (disch := (first | assumption | omega | (simp only [List.length_cons, List.length_nil, List.length_append, List.length_map, SZ]; done) | (simp only [List.length_cons, List.length_nil, List.length_append, List.length_map, SZ]; omega))) only [EVA, ev_it, ev_if_f, List.getElem?_cons_zero, List.getElem?_cons_succ, List.set_cons_zero, List.set_cons_succ, Bool.and_true, Bool.true_and, Bool.or_true, Bool.true_or, Bool.or_false, Bool.false_or, Bool.and_false, Bool.false_and, Bool.not_true, Bool.not_false, List.length_cons, List.length_nil, List.map_cons, List.map_nil, List.replicate_succ, List.replicate_zero, List.cons_append, List.nil_append, if_true, if_false, Nat.reduceAdd, Nat.reduceEqDiff, beq_self_eq_true, reduceIte, Nat.zero_add, eq_self, SZ, List.contains_cons, List.contains_nil, Nat.reduceBEq, Nat.reduceLT, Nat.reduceLeDiff, Int.reduceToNat, Int.reducePow, Int.reduceAdd, Int.reduceSub, Int.reduceMul, Int.reduceNeg, Int.reduceLT, Int.reduceLE, Int.reduceEq, Int.reduceDiv, Int.reduceMod, Option.map_some, Option.map_none, e1, d]
theorem sd_at (a b : List Bool) (x : Bool) : ((a ++ x :: b).map sdD)[a.length]? = some (sdD x) := by simp
theorem sd_set (a b : List Bool) (x y : Bool) : ((a ++ x :: b).map sdD).set a.length (sdD y) = (a ++ y :: b).map sdD := by simp
theorem lw_step (x0 x1 x5 : Option Sl) (a b : List Bool) (x : Bool) (m : Int) (hm : 0 ≤ m) (hm2 : m < 100000) :
    L_law_walk_0 [x0, x1, some (.ow ((a ++ x :: b).map sdD)), some (.fz (.int ((a.length : Int) + 1))), some (.fz (.int m)), x5]
      = .nx [x0, x1, some (.ow ((a ++ (!x) :: b).map sdD)), some (.fz (.int (if x then (a.length : Int) else a.length + 2))), some (.fz (.int (m + 1))), some (.fz (sdD x))] := by
  have e1 : ixD (.lst ((a ++ x :: b).map sdD)) (.int ((a.length : Int) + 1 - 1)) = some (.fz (.str (sideS x))) := by
    rw [show (a.length : Int) + 1 - 1 = (a.length : Nat) by omega]
    exact ixl_nat (sd_at a b x)
  have e2 : ixN ((a ++ x :: b).map sdD).length ((a.length : Int) + 1 - 1) = some a.length := by
    rw [show (a.length : Int) + 1 - 1 = (a.length : Nat) by omega]
    exact ixN_nat (by simp)
  have e3 := sd_set a b x (!x)
  have e3 : ((a ++ x :: b).map sdD).set a.length (.str (sideS !x)) = (a ++ (!x) :: b).map sdD := e3
  have e4 := dget_a x
  have e5 := dget_b x
  have e6 : (a.length : Int) + 1 + (if x then -1 else 1) = if x then (a.length : Int) else a.length + 2 := by
    cases x
    · show (a.length : Int) + 1 + 1 = a.length + 2
      omega
    · show (a.length : Int) + 1 + -1 = a.length
      omega
  have e0 : sdD x = .str (sideS x) := rfl
  rw [e0]
  unfold L_law_walk_0
  generalize hpp : (if x then (a.length : Int) else a.length + 2) = pp at *
  generalize hm1 : (if x then (-1 : Int) else 1) = m1 at *
  generalize (a ++ (!x) :: b).map sdD = wd2 at *
  generalize (a ++ x :: b).map sdD = wd at *
  generalize a.length = kn at *
  generalize sideS x = sx at *
  generalize sideS (!x) = sy at *
  simp (maxSteps := 20000000) (disch := (first | assumption | omega | (simp only [List.length_cons, List.length_nil, List.length_append, List.length_map, SZ]; done) | (simp only [List.length_cons, List.length_nil, List.length_append, List.length_map, SZ]; omega))) only [EVA, ev_it, ev_if_f, List.getElem?_cons_zero, List.getElem?_cons_succ, List.set_cons_zero, List.set_cons_succ, Bool.and_true, Bool.true_and, Bool.or_true, Bool.true_or, Bool.or_false, Bool.false_or, Bool.and_false, Bool.false_and, Bool.not_true, Bool.not_false, List.length_cons, List.length_nil, List.map_cons, List.map_nil, List.replicate_succ, List.replicate_zero, List.cons_append, List.nil_append, if_true, if_false, Nat.reduceAdd, Nat.reduceEqDiff, beq_self_eq_true, reduceIte, Nat.zero_add, eq_self, SZ, List.contains_cons, List.contains_nil, Nat.reduceBEq, Nat.reduceLT, Nat.reduceLeDiff, Int.reduceToNat, Int.reducePow, Int.reduceAdd, Int.reduceSub, Int.reduceMul, Int.reduceNeg, Int.reduceLT, Int.reduceLE, Int.reduceEq, Int.reduceDiv, Int.reduceMod, Option.map_some, Option.map_none, disp_eq, e1, e2, e3, e4, e5, e6]
theorem lw_loop {s t : List Bool} {p e : Int} {ps : List Int} (w : Wk s p ps t e) (x0 x1 : Option Sl) : ∀ (N : Nat) (m : Int) (x5 : Option Sl), ps.length < N → 0 ≤ m → m + ps.length < 80000 → s.length ≤ 1000 →
    ∃ z5, sWhile N T_law_walk_1 L_law_walk_0 [x0, x1, some (.ow (s.map sdD)), some (.fz (.int p)), some (.fz (.int m)), x5] = .nx [x0, x1, some (.ow (t.map sdD)), some (.fz (.int e)), some (.fz (.int (m + ps.length))), z5] := by
  induction w with
  | @low s =>
    intro N m x5 hN _ _ hs
    obtain ⟨M, rfl⟩ : ∃ M, N = M + 1 := ⟨N - 1, by omega⟩
    refine ⟨x5, ?_⟩
    rw [sWhile_succ, lw_T _ _ _ _ _ _ hs false rfl, show m + (([] : List Int).length : Int) = m from Int.add_zero m]
    rfl
  | @high s =>
    intro N m x5 hN _ _ hs
    obtain ⟨M, rfl⟩ : ∃ M, N = M + 1 := ⟨N - 1, by omega⟩
    refine ⟨x5, ?_⟩
    rw [sWhile_succ, lw_T _ _ _ _ _ _ hs false (by rw [decide_eq_false (show ¬ ((s.length : Int) + 1 ≤ s.length) by omega), Bool.and_false]), show m + (([] : List Int).length : Int) = m from Int.add_zero m]
    rfl
  | @left a b ps t e w ih =>
    intro N m x5 hN h0 hf hs
    obtain ⟨M, rfl⟩ : ∃ M, N = M + 1 := ⟨N - 1, by omega⟩
    rw [List.length_cons] at hN hf
    have hl : (a ++ true :: b).length = (a ++ false :: b).length := by simp
    have hla : a.length < (a ++ true :: b).length := by simp
    obtain ⟨z5, e2⟩ := ih M (m + 1) (some (.fz (sdD true))) (by omega) (by omega) (by omega) (by omega)
    refine ⟨z5, ?_⟩
    rw [sWhile_succ, lw_T _ _ _ _ _ _ hs true (by rw [decide_eq_true (show (0 : Int) < (a.length : Int) + 1 by omega), decide_eq_true (show ((a.length : Int) + 1 ≤ ((a ++ true :: b).length : Nat)) by omega)]; rfl)]
    show turned (L_law_walk_0 _) _ = _
    rw [lw_step x0 x1 x5 a b true m h0 (by omega), show m + (((a.length : Int) :: ps).length : Int) = m + 1 + (ps.length : Int) by rw [List.length_cons]; omega]
    exact e2
  | @right a b ps t e w ih =>
    intro N m x5 hN h0 hf hs
    obtain ⟨M, rfl⟩ : ∃ M, N = M + 1 := ⟨N - 1, by omega⟩
    rw [List.length_cons] at hN hf
    have hl : (a ++ true :: b).length = (a ++ false :: b).length := by simp
    have hla : a.length < (a ++ false :: b).length := by simp
    obtain ⟨z5, e2⟩ := ih M (m + 1) (some (.fz (sdD false))) (by omega) (by omega) (by omega) (by omega)
    refine ⟨z5, ?_⟩
    rw [sWhile_succ, lw_T _ _ _ _ _ _ hs true (by rw [decide_eq_true (show (0 : Int) < (a.length : Int) + 1 by omega), decide_eq_true (show ((a.length : Int) + 1 ≤ ((a ++ false :: b).length : Nat)) by omega)]; rfl)]
    show turned (L_law_walk_0 _) _ = _
    rw [lw_step x0 x1 x5 a b false m h0 (by omega), show m + (((a.length + 2 : Int) :: ps).length : Int) = m + 1 + (ps.length : Int) by rw [List.length_cons]; omega]
    exact e2
theorem lwalk_ok {s t : List Bool} {p e : Int} {ps : List Int} (w : Wk s p ps t e) (h0 : 0 ≤ p) (hs : s.length ≤ 70) :
    F_law_walk [.fz (.lst (s.map sdD)), .fz (.int p)] = .ret (.fz (.tup [sdD (decide (e = 0)), .lst (t.map sdD), .int ps.length])) [none, none] := by
  have hsh := w.short h0 hs
  obtain ⟨z5, e2⟩ := lw_loop w (some (.fz (.lst (s.map sdD)))) (some (.fz (.int p))) FUEL 0 none (by unfold FUEL; omega) (by omega) (by omega) (by omega)
  rw [Int.zero_add] at e2
  unfold F_law_walk B_law_walk
  generalize sWhile FUEL T_law_walk_1 L_law_walk_0 = f2 at *
  generalize s.map sdD = wd at *
  generalize t.map sdD = wd2 at *
  generalize (ps.length : Int) = k at *
  by_cases c : e = 0
  · have d : decide (e = 0) = true := decide_eq_true c
    have e3 : sdD true = .str "L" := rfl
    rw [d, e3]
    simp (maxSteps := 20000000) (disch := (first | assumption | omega | (simp only [List.length_cons, List.length_nil, List.length_append, List.length_map, SZ]; done) | (simp only [List.length_cons, List.length_nil, List.length_append, List.length_map, SZ]; omega))) only [EVA, ev_it, ev_if_f, List.getElem?_cons_zero, List.getElem?_cons_succ, List.set_cons_zero, List.set_cons_succ, Bool.and_true, Bool.true_and, Bool.or_true, Bool.true_or, Bool.or_false, Bool.false_or, Bool.and_false, Bool.false_and, Bool.not_true, Bool.not_false, List.length_cons, List.length_nil, List.map_cons, List.map_nil, List.replicate_succ, List.replicate_zero, List.cons_append, List.nil_append, if_true, if_false, Nat.reduceAdd, Nat.reduceEqDiff, beq_self_eq_true, reduceIte, Nat.zero_add, eq_self, SZ, List.contains_cons, List.contains_nil, Nat.reduceBEq, Nat.reduceLT, Nat.reduceLeDiff, Int.reduceToNat, Int.reducePow, Int.reduceAdd, Int.reduceSub, Int.reduceMul, Int.reduceNeg, Int.reduceLT, Int.reduceLE, Int.reduceEq, Int.reduceDiv, Int.reduceMod, Option.map_some, Option.map_none, e2, d]
  · have d : decide (e = 0) = false := decide_eq_false c
    have e3 : sdD false = .str "R" := rfl
    rw [d, e3]
    simp (maxSteps := 20000000) (disch := (first | assumption | omega | (simp only [List.length_cons, List.length_nil, List.length_append, List.length_map, SZ]; done) | (simp only [List.length_cons, List.length_nil, List.length_append, List.length_map, SZ]; omega))) only [EVA, ev_it, ev_if_f, List.getElem?_cons_zero, List.getElem?_cons_succ, List.set_cons_zero, List.set_cons_succ, Bool.and_true, Bool.true_and, Bool.or_true, Bool.true_or, Bool.or_false, Bool.false_or, Bool.and_false, Bool.false_and, Bool.not_true, Bool.not_false, List.length_cons, List.length_nil, List.map_cons, List.map_nil, List.replicate_succ, List.replicate_zero, List.cons_append, List.nil_append, if_true, if_false, Nat.reduceAdd, Nat.reduceEqDiff, beq_self_eq_true, reduceIte, Nat.zero_add, eq_self, SZ, List.contains_cons, List.contains_nil, Nat.reduceBEq, Nat.reduceLT, Nat.reduceLeDiff, Int.reduceToNat, Int.reducePow, Int.reduceAdd, Int.reduceSub, Int.reduceMul, Int.reduceNeg, Int.reduceLT, Int.reduceLE, Int.reduceEq, Int.reduceDiv, Int.reduceMod, Option.map_some, Option.map_none, e2, d]

end G

namespace G
open PySem PySem.Spec PyProof.Rows L2 Mi
/-! ### small lines: one check of all -/
def allT : Nat → List (List Bool)
  | 0 => [[]]
  | n + 1 => (allT n).map (true :: ·) ++ (allT n).map (false :: ·)
def aftB (t : List Bool) (p : Nat) : List Bool := if t.count false + p ≤ t.length then swF t p else swL t (t.length + 1 - p)
def wantB (s : List Bool) (p : Nat) : List (List Bool) := (allT s.length).filter fun t => aftB t p == s
def nones : Nat → Mi.Env → Bool
  | 0, [] => true
  | n + 1, none :: l => nones n l
  | _, _ => false
def isI (n : Nat) (j : Int) : FR → Bool
  | .ret (.fz (.int i)) o => decide (i = j) && nones n o
  | _ => false
def isB (n : Nat) (j : Bool) : FR → Bool
  | .ret (.fz (.bl i)) o => (i == j) && nones n o
  | _ => false
def isRuns : List D → Runs → Bool
  | [], [] => true
  | .tup [.str z, .int i] :: ds, (q, c) :: l => (z == sideS q) && decide (i = c) && isRuns ds l
  | _, _ => false
def isL2 (n : Nat) (l : Runs) : FR → Bool
  | .ret (.fz (.tup ds)) o => isRuns ds l && nones n o
  | _ => false
def chkP (s : List Bool) (p : Nat) : Bool :=
  isI 2 (wantB s p).length (Fcount_before [.fz (lnD (pk s)), .fz (.int p)]) && isB 2 (decide (0 < (wantB s p).length)) (Fcan_be_before [.fz (lnD (pk s)), .fz (.int p)])
    && ((wantB s p).zipIdx).all fun x => isL2 3 (pk x.1) (Fnth_before [.fz (lnD (pk s)), .fz (.int p), .fz (.int x.2)])
def totB (s : List Bool) : Nat := ((List.range s.length).map fun k => (wantB s (k + 1)).length).sum
def chkS (s : List Bool) : Bool := ((List.range s.length).all fun k => chkP s (k + 1)) && isI 1 (totB s) (Fcount_all_before [.fz (lnD (pk s))])
def upTo (n : Nat) : Bool := (allT n).all chkS

end G

namespace G
open PySem PySem.Spec PyProof.Rows L2 Mi
/-! ### the law's comparison -/
def Sm1 (t : Nat) (x : D) : Prop := R_law_same t [.fz x, .fz x] = .ret (.fz (.bl true)) [none, none]
theorem same_int (t : Nat) (a : Int) : Sm1 (t + 1) (.int a) := by
  have e : eqD (.int a) (.int a) = some (.fz (.bl true)) := by
    rw [op_eq_i, decide_eq_true rfl]
  show mkFn 2 1 (B_law_same (R_law_same t)) _ = _
  unfold B_law_same
  have i1 : isiTD ["list", "tuple"] (.int a) = some (.fz (.bl false)) := by kernel_rfl
  have i2 : isiD "bool" (.int a) = some (.fz (.bl false)) := by kernel_rfl
  have i3 : isD2 (.int a) .non = some (.fz (.bl false)) := rfl
  generalize R_law_same t = self
  simp (maxSteps := 20000000) (disch := (first | assumption | omega | (simp only [List.length_cons, List.length_nil, List.length_append, List.length_map, SZ]; done) | (simp only [List.length_cons, List.length_nil, List.length_append, List.length_map, SZ]; omega))) only [EVA, ev_it, ev_if_f, List.getElem?_cons_zero, List.getElem?_cons_succ, List.set_cons_zero, List.set_cons_succ, Bool.and_true, Bool.true_and, Bool.or_true, Bool.true_or, Bool.or_false, Bool.false_or, Bool.and_false, Bool.false_and, Bool.not_true, Bool.not_false, List.length_cons, List.length_nil, List.map_cons, List.map_nil, List.replicate_succ, List.replicate_zero, List.cons_append, List.nil_append, if_true, if_false, Nat.reduceAdd, Nat.reduceEqDiff, beq_self_eq_true, reduceIte, Nat.zero_add, eq_self, SZ, List.contains_cons, List.contains_nil, Nat.reduceBEq, Nat.reduceLT, Nat.reduceLeDiff, Int.reduceToNat, Int.reducePow, Int.reduceAdd, Int.reduceSub, Int.reduceMul, Int.reduceNeg, Int.reduceLT, Int.reduceLE, Int.reduceEq, Int.reduceDiv, Int.reduceMod, Option.map_some, Option.map_none, e, i1, i2, i3]
theorem same_side (t : Nat) (q : Bool) : Sm1 (t + 1) (.str (sideS q)) := by
  have e : eqD (.str (sideS q)) (.str (sideS q)) = some (.fz (.bl true)) := by cases q <;> kernel_rfl
  show mkFn 2 1 (B_law_same (R_law_same t)) _ = _
  unfold B_law_same
  have i1 : isiTD ["list", "tuple"] (.str (sideS q)) = some (.fz (.bl false)) := by kernel_rfl
  have i2 : isiD "bool" (.str (sideS q)) = some (.fz (.bl false)) := by kernel_rfl
  have i3 : isD2 (.str (sideS q)) .non = some (.fz (.bl false)) := rfl
  generalize R_law_same t = self
  generalize sideS q = sq at *
  simp (maxSteps := 20000000) (disch := (first | assumption | omega | (simp only [List.length_cons, List.length_nil, List.length_append, List.length_map, SZ]; done) | (simp only [List.length_cons, List.length_nil, List.length_append, List.length_map, SZ]; omega))) only [EVA, ev_it, ev_if_f, List.getElem?_cons_zero, List.getElem?_cons_succ, List.set_cons_zero, List.set_cons_succ, Bool.and_true, Bool.true_and, Bool.or_true, Bool.true_or, Bool.or_false, Bool.false_or, Bool.and_false, Bool.false_and, Bool.not_true, Bool.not_false, List.length_cons, List.length_nil, List.map_cons, List.map_nil, List.replicate_succ, List.replicate_zero, List.cons_append, List.nil_append, if_true, if_false, Nat.reduceAdd, Nat.reduceEqDiff, beq_self_eq_true, reduceIte, Nat.zero_add, eq_self, SZ, List.contains_cons, List.contains_nil, Nat.reduceBEq, Nat.reduceLT, Nat.reduceLeDiff, Int.reduceToNat, Int.reducePow, Int.reduceAdd, Int.reduceSub, Int.reduceMul, Int.reduceNeg, Int.reduceLT, Int.reduceLE, Int.reduceEq, Int.reduceDiv, Int.reduceMod, Option.map_some, Option.map_none, e, i1, i2, i3]
theorem drop_d {s t : List D} {k : Nat} {q : D} (h : s.drop k = q :: t) : s[k]? = some q ∧ s.drop (k + 1) = t ∧ q ∈ s := by
  have h1 : s[k]? = some q := by
    have := congrArg (fun l : List D => l[0]?) h
    simpa using this
  exact ⟨h1, by have := congrArg List.tail h; simpa using this, List.mem_of_getElem? h1⟩
theorem same_loop (self : Fn) (xs : List D) (s : D) (hix : ∀ (k : Nat) (q : D), xs[k]? = some q → ixD s (.int (k : Nat)) = some (.fz q)) (hx : ∀ x ∈ xs, self [.fz x, .fz x] = .ret (.fz (.bl true)) [none, none]) :
    ∀ (ys : List D) (k : Nat) (acc : List D), xs.drop k = ys → acc.length + ys.length < 100000 →
    loopC (turnC (gNm 2) tYesE (mCall self [(.e (mOp2 ixD (.v 0) (.v 2))), (.e (mOp2 ixD (.v 1) (.v 2)))]) [2]) (rangeL (k : Nat) ys.length) [some (.fz s), some (.fz s), none] acc = .ok (acc ++ List.replicate ys.length (.bl true)) [some (.fz s), some (.fz s), none]
  | [], k, acc, _, _ => by rw [List.length_nil, List.replicate_zero, List.append_nil]; rfl
  | q :: ys, k, acc, h, hl => by
    rw [List.length_cons] at hl
    obtain ⟨h1, h2, h3⟩ := drop_d h
    have e1 := hix k q h1
    have e2 := hx q h3
    have ek : (k : Int) + 1 = ((k + 1 : Nat) : Int) := by omega
    have ih := same_loop self xs s hix hx ys (k + 1) (acc ++ [.bl true]) h2 (by rw [List.length_append, List.length_cons, List.length_nil]; omega)
    have e7 : turnC (gNm 2) tYesE (mCall self [(.e (mOp2 ixD (.v 0) (.v 2))), (.e (mOp2 ixD (.v 1) (.v 2)))]) [2] (.int (k : Nat)) [some (.fz s), some (.fz s), none] = .ok (some (.bl true)) [some (.fz s), some (.fz s), none] := by
      simp (maxSteps := 20000000) (disch := (first | assumption | omega | (simp only [List.length_cons, List.length_nil, List.length_append, List.length_map, SZ]; done) | (simp only [List.length_cons, List.length_nil, List.length_append, List.length_map, SZ]; omega))) only [EVA, ev_it, ev_if_f, List.getElem?_cons_zero, List.getElem?_cons_succ, List.set_cons_zero, List.set_cons_succ, Bool.and_true, Bool.true_and, Bool.or_true, Bool.true_or, Bool.or_false, Bool.false_or, Bool.and_false, Bool.false_and, Bool.not_true, Bool.not_false, List.length_cons, List.length_nil, List.map_cons, List.map_nil, List.replicate_succ, List.replicate_zero, List.cons_append, List.nil_append, if_true, if_false, Nat.reduceAdd, Nat.reduceEqDiff, beq_self_eq_true, reduceIte, Nat.zero_add, eq_self, SZ, List.contains_cons, List.contains_nil, Nat.reduceBEq, Nat.reduceLT, Nat.reduceLeDiff, Int.reduceToNat, Int.reducePow, Int.reduceAdd, Int.reduceSub, Int.reduceMul, Int.reduceNeg, Int.reduceLT, Int.reduceLE, Int.reduceEq, Int.reduceDiv, Int.reduceMod, Option.map_some, Option.map_none, e1, e2]
    rw [List.length_cons, rangeL_succ, lc_cons, e7, ev_lcR1 (by unfold SZ; omega), ek, ih, List.append_assoc, List.replicate_succ]
    rfl
theorem ix_nat_l {xs : List D} {k : Nat} {q : D} (h : xs[k]? = some q) : ixD (.lst xs) (.int (k : Nat)) = some (.fz q) := by
  have hk := (List.getElem?_eq_some_iff.mp h).1
  rw [ix_l_nn (by omega) (by omega), Int.toNat_natCast, h]
  rfl
theorem ix_nat_t {xs : List D} {k : Nat} {q : D} (h : xs[k]? = some q) : ixD (.tup xs) (.int (k : Nat)) = some (.fz q) := by
  have e : ixD (.tup xs) (.int (k : Nat)) = ixD (.lst xs) (.int (k : Nat)) := rfl
  rw [e]
  exact ix_nat_l h
theorem ne_n (n : Nat) : neD (.int (n : Nat)) (.int (n : Nat)) = some (.fz (.bl false)) := by
  rw [op_ne_i, decide_eq_true rfl]
  rfl
theorem same_lst (t : Nat) (xs : List D) (hl : xs.length < 90000) (hx : ∀ x ∈ xs, Sm1 t x) : Sm1 (t + 1) (.lst xs) := by
  have e1 := same_loop (R_law_same t) xs (.lst xs) (fun k q h => ix_nat_l h) hx xs 0 [] rfl (by simp; omega)
  have e2 := all_trues xs.length
  have e3 := ne_n xs.length
  rw [List.nil_append, show ((0 : Nat) : Int) = 0 from rfl] at e1
  show mkFn 2 1 (B_law_same (R_law_same t)) _ = _
  unfold B_law_same
  have i1 : isiTD ["list", "tuple"] (.lst xs) = some (.fz (.bl true)) := by kernel_rfl
  have i2 : isiD "list" (.lst xs) = some (.fz (.bl true)) := by kernel_rfl
  have n1 : neD (.bl true) (.bl true) = some (.fz (.bl false)) := by kernel_rfl
  have l1 : lenD [.lst xs] = some (.fz (.int xs.length)) := rfl
  revert e1 e2
  generalize R_law_same t = self
  generalize List.replicate xs.length (D.bl true) = rs
  generalize xs.length = n at *
  generalize D.lst xs = s at *
  intro e1 e2
  simp (maxSteps := 20000000) (disch := (first | assumption | omega | (simp only [List.length_cons, List.length_nil, List.length_append, List.length_map, SZ]; done) | (simp only [List.length_cons, List.length_nil, List.length_append, List.length_map, SZ]; omega))) only [EVA, ev_it, ev_if_f, List.getElem?_cons_zero, List.getElem?_cons_succ, List.set_cons_zero, List.set_cons_succ, Bool.and_true, Bool.true_and, Bool.or_true, Bool.true_or, Bool.or_false, Bool.false_or, Bool.and_false, Bool.false_and, Bool.not_true, Bool.not_false, List.length_cons, List.length_nil, List.map_cons, List.map_nil, List.replicate_succ, List.replicate_zero, List.cons_append, List.nil_append, if_true, if_false, Nat.reduceAdd, Nat.reduceEqDiff, beq_self_eq_true, reduceIte, Nat.zero_add, eq_self, SZ, List.contains_cons, List.contains_nil, Nat.reduceBEq, Nat.reduceLT, Nat.reduceLeDiff, Int.reduceToNat, Int.reducePow, Int.reduceAdd, Int.reduceSub, Int.reduceMul, Int.reduceNeg, Int.reduceLT, Int.reduceLE, Int.reduceEq, Int.reduceDiv, Int.reduceMod, Option.map_some, Option.map_none, l1, i1, i2, n1, e1, e2, e3, Int.toNat_natCast]
theorem same_tup (t : Nat) (xs : List D) (hl : xs.length < 90000) (hx : ∀ x ∈ xs, Sm1 t x) : Sm1 (t + 1) (.tup xs) := by
  have e1 := same_loop (R_law_same t) xs (.tup xs) (fun k q h => ix_nat_t h) hx xs 0 [] rfl (by simp; omega)
  have e2 := all_trues xs.length
  have e3 := ne_n xs.length
  rw [List.nil_append, show ((0 : Nat) : Int) = 0 from rfl] at e1
  show mkFn 2 1 (B_law_same (R_law_same t)) _ = _
  unfold B_law_same
  have i1 : isiTD ["list", "tuple"] (.tup xs) = some (.fz (.bl true)) := by kernel_rfl
  have i2 : isiD "list" (.tup xs) = some (.fz (.bl false)) := by kernel_rfl
  have n1 : neD (.bl false) (.bl false) = some (.fz (.bl false)) := by kernel_rfl
  have l1 : lenD [.tup xs] = some (.fz (.int xs.length)) := rfl
  revert e1 e2
  generalize R_law_same t = self
  generalize List.replicate xs.length (D.bl true) = rs
  generalize xs.length = n at *
  generalize D.tup xs = s at *
  intro e1 e2
  simp (maxSteps := 20000000) (disch := (first | assumption | omega | (simp only [List.length_cons, List.length_nil, List.length_append, List.length_map, SZ]; done) | (simp only [List.length_cons, List.length_nil, List.length_append, List.length_map, SZ]; omega))) only [EVA, ev_it, ev_if_f, List.getElem?_cons_zero, List.getElem?_cons_succ, List.set_cons_zero, List.set_cons_succ, Bool.and_true, Bool.true_and, Bool.or_true, Bool.true_or, Bool.or_false, Bool.false_or, Bool.and_false, Bool.false_and, Bool.not_true, Bool.not_false, List.length_cons, List.length_nil, List.map_cons, List.map_nil, List.replicate_succ, List.replicate_zero, List.cons_append, List.nil_append, if_true, if_false, Nat.reduceAdd, Nat.reduceEqDiff, beq_self_eq_true, reduceIte, Nat.zero_add, eq_self, SZ, List.contains_cons, List.contains_nil, Nat.reduceBEq, Nat.reduceLT, Nat.reduceLeDiff, Int.reduceToNat, Int.reducePow, Int.reduceAdd, Int.reduceSub, Int.reduceMul, Int.reduceNeg, Int.reduceLT, Int.reduceLE, Int.reduceEq, Int.reduceDiv, Int.reduceMod, Option.map_some, Option.map_none, l1, i1, i2, n1, e1, e2, e3, Int.toNat_natCast]
theorem same_run (t : Nat) (r : Bool × Int) : Sm1 (t + 2) (runD r) := by
  refine same_tup (t + 1) _ (by simp) fun x hx => ?_
  simp only [List.mem_cons, List.not_mem_nil, or_false] at hx
  rcases hx with rfl | rfl
  · exact same_side t r.1
  · exact same_int t r.2
theorem same_line (t : Nat) (l : Runs) (h : l.length < 90000) : Sm1 (t + 3) (lnD l) := by
  refine same_tup (t + 2) _ (by rw [List.length_map]; exact h) fun x hx => ?_
  obtain ⟨r, _, rfl⟩ := List.mem_map.mp hx
  exact same_run t r
theorem same_lines (t : Nat) (ls : List Runs) (h : ls.length < 90000) (h2 : ∀ l ∈ ls, l.length < 90000) : Sm1 (t + 4) (.lst (ls.map lnD)) := by
  refine same_lst (t + 3) _ (by rw [List.length_map]; exact h) fun x hx => ?_
  obtain ⟨l, hl, rfl⟩ := List.mem_map.mp hx
  exact same_line t l (h2 l hl)
theorem F_same {x : D} (h : Sm1 8 x) : F_law_same [.fz x, .fz x] = .ret (.fz (.bl true)) [none, none] := h
theorem same_str (t : Nat) (z : Str) (h : D.sh (.str z) = true) : Sm1 (t + 1) (.str z) := by
  show mkFn 2 1 (B_law_same (R_law_same t)) _ = _
  have i1 : isiTD ["list", "tuple"] (.str z) = some (.fz (.bl false)) := by kernel_rfl
  have i2 : isiD "bool" (.str z) = some (.fz (.bl false)) := by kernel_rfl
  have i3 : isD2 (.str z) .non = some (.fz (.bl false)) := rfl
  have i4 := op_eq_s h h
  rw [beq_self_eq_true] at i4
  unfold B_law_same
  generalize R_law_same t = self
  simp (maxSteps := 20000000) (disch := (first | assumption | omega | (simp only [List.length_cons, List.length_nil, List.length_append, List.length_map, SZ]; done) | (simp only [List.length_cons, List.length_nil, List.length_append, List.length_map, SZ]; omega))) only [EVA, ev_it, ev_if_f, List.getElem?_cons_zero, List.getElem?_cons_succ, List.set_cons_zero, List.set_cons_succ, Bool.and_true, Bool.true_and, Bool.or_true, Bool.true_or, Bool.or_false, Bool.false_or, Bool.and_false, Bool.false_and, Bool.not_true, Bool.not_false, List.length_cons, List.length_nil, List.map_cons, List.map_nil, List.replicate_succ, List.replicate_zero, List.cons_append, List.nil_append, if_true, if_false, Nat.reduceAdd, Nat.reduceEqDiff, beq_self_eq_true, reduceIte, Nat.zero_add, eq_self, SZ, List.contains_cons, List.contains_nil, Nat.reduceBEq, Nat.reduceLT, Nat.reduceLeDiff, Int.reduceToNat, Int.reducePow, Int.reduceAdd, Int.reduceSub, Int.reduceMul, Int.reduceNeg, Int.reduceLT, Int.reduceLE, Int.reduceEq, Int.reduceDiv, Int.reduceMod, Option.map_some, Option.map_none, i1, i2, i3, i4]
theorem same_bool (t : Nat) (b : Bool) : Sm1 (t + 1) (.bl b) := by
  show mkFn 2 1 (B_law_same (R_law_same t)) _ = _
  have i1 : isiTD ["list", "tuple"] (.bl b) = some (.fz (.bl false)) := by kernel_rfl
  have i2 : isiD "bool" (.bl b) = some (.fz (.bl true)) := by kernel_rfl
  have i3 : isD2 (.bl b) .non = some (.fz (.bl false)) := rfl
  have i4 : eqD (.bl b) (.bl b) = some (.fz (.bl true)) := by cases b <;> kernel_rfl
  unfold B_law_same
  generalize R_law_same t = self
  simp (maxSteps := 20000000) (disch := (first | assumption | omega | (simp only [List.length_cons, List.length_nil, List.length_append, List.length_map, SZ]; done) | (simp only [List.length_cons, List.length_nil, List.length_append, List.length_map, SZ]; omega))) only [EVA, ev_it, ev_if_f, List.getElem?_cons_zero, List.getElem?_cons_succ, List.set_cons_zero, List.set_cons_succ, Bool.and_true, Bool.true_and, Bool.or_true, Bool.true_or, Bool.or_false, Bool.false_or, Bool.and_false, Bool.false_and, Bool.not_true, Bool.not_false, List.length_cons, List.length_nil, List.map_cons, List.map_nil, List.replicate_succ, List.replicate_zero, List.cons_append, List.nil_append, if_true, if_false, Nat.reduceAdd, Nat.reduceEqDiff, beq_self_eq_true, reduceIte, Nat.zero_add, eq_self, SZ, List.contains_cons, List.contains_nil, Nat.reduceBEq, Nat.reduceLT, Nat.reduceLeDiff, Int.reduceToNat, Int.reducePow, Int.reduceAdd, Int.reduceSub, Int.reduceMul, Int.reduceNeg, Int.reduceLT, Int.reduceLE, Int.reduceEq, Int.reduceDiv, Int.reduceMod, Option.map_some, Option.map_none, i1, i2, i3, i4]

end G

namespace G
open PySem PySem.Spec PyProof.Rows L2 Mi
/-! ### drawn sides -/
theorem lr_ix {r : Int} (h0 : 0 ≤ r) (h1 : r < 2) : ixD (.str "LR") (.int r) = some (.fz (sdD (decide (r = 0)))) ∧ ixD (.str "RL") (.int r) = some (.fz (sdD (!decide (r = 0)))) := by
  rcases (show r = 0 ∨ r = 1 by omega) with rfl | rfl <;> exact ⟨by kernel_rfl, by kernel_rfl⟩
theorem sd_T (x0 x1 x3 x4 x6 x7 x8 : Option Sl) (size : Int) (fs : List Bool) (hf : fs.length ≤ 1000) :
    T_law_sides_1 [x0, x1, some (.fz (.int size)), x3, x4, some (.ow (fs.map sdD)), x6, x7, x8] = .ok (decide ((fs.length : Int) < size)) [x0, x1, some (.fz (.int size)), x3, x4, some (.ow (fs.map sdD)), x6, x7, x8] := by
  have e1 : (fs.map sdD).length = fs.length := List.length_map ..
  unfold T_law_sides_1
  generalize fs.map sdD = sd at *
  generalize fs.length = n at *
  simp (maxSteps := 20000000) (disch := (first | assumption | omega | (simp only [List.length_cons, List.length_nil, List.length_append, List.length_map, SZ]; done) | (simp only [List.length_cons, List.length_nil, List.length_append, List.length_map, SZ]; omega))) only [EVA, ev_it, ev_if_f, List.getElem?_cons_zero, List.getElem?_cons_succ, List.set_cons_zero, List.set_cons_succ, Bool.and_true, Bool.true_and, Bool.or_true, Bool.true_or, Bool.or_false, Bool.false_or, Bool.and_false, Bool.false_and, Bool.not_true, Bool.not_false, List.length_cons, List.length_nil, List.map_cons, List.map_nil, List.replicate_succ, List.replicate_zero, List.cons_append, List.nil_append, if_true, if_false, Nat.reduceAdd, Nat.reduceEqDiff, beq_self_eq_true, reduceIte, Nat.zero_add, eq_self, SZ, List.contains_cons, List.contains_nil, Nat.reduceBEq, Nat.reduceLT, Nat.reduceLeDiff, Int.reduceToNat, Int.reducePow, Int.reduceAdd, Int.reduceSub, Int.reduceMul, Int.reduceNeg, Int.reduceLT, Int.reduceLE, Int.reduceEq, Int.reduceDiv, Int.reduceMod, Option.map_some, Option.map_none, e1]
theorem flt_sdL (fs : List Bool) : ∀ x ∈ fs.map sdD, Flt 0 x := fun x hx => by
  obtain ⟨q, _, rfl⟩ := List.mem_map.mp hx
  exact flt_side q
theorem sd_app (fs : List Bool) (hf : fs.length ≤ 1000) (q : Bool) : fAppend (fs.map sdD) [sdD q] = some (.non, (fs ++ [q]).map sdD) := by
  rw [List.map_append]
  exact op_append (by rw [List.length_map]; unfold SZ; omega)
theorem sd_pick (q0 q1 q2 q3 : Bool) {st : Int} (h0 : 0 ≤ st) (h1 : st < 4) : ∃ q : Bool, ixD (.lst [sdD q0, sdD q1, sdD q2, sdD q3]) (.int st) = some (.fz (sdD q)) := by
  rcases (show st = 0 ∨ st = 1 ∨ st = 2 ∨ st = 3 by omega) with rfl | rfl | rfl | rfl
  · exact ⟨q0, rfl⟩
  · exact ⟨q1, rfl⟩
  · exact ⟨q2, rfl⟩
  · exact ⟨q3, rfl⟩
theorem sd_last {fs : List Bool} (h : fs ≠ []) : ∃ q : Bool, ixD (.lst (fs.map sdD)) (.int (-1)) = some (.fz (sdD q)) := by
  obtain ⟨q, hq⟩ : ∃ q, fs.getLast? = some q := by
    cases hl : fs.getLast? with
    | none => exact absurd (List.getLast?_eq_none_iff.mp hl) h
    | some q => exact ⟨q, rfl⟩
  obtain ⟨gs, rfl⟩ := List.getLast?_eq_some_iff.mp hq
  refine ⟨q, ?_⟩
  rw [List.map_append]
  exact ix_last
theorem sd_step (a b c n size st cut : Int) (s : Src a b c n) (hn : n < 1000000) (h0 : 0 ≤ st) (h1 : st < 4) (fs : List Bool) (hf : fs.length ≤ 100) (x1 x6 x7 x8 : Option Sl) :
    ∃ a' c' : Int, ∃ q : Bool, ∃ y6 y7 y8, L_law_sides_0 [some (.io [.int a, .int b, .int c]), x1, some (.fz (.int size)), some (.fz (.int st)), some (.fz (.int cut)), some (.ow (fs.map sdD)), x6, x7, x8]
      = .nx [some (.io [.int a', .int b, .int c']), x1, some (.fz (.int size)), some (.fz (.int st)), some (.fz (.int cut)), some (.ow ((fs ++ [q]).map sdD)), y6, y7, y8] ∧ Src a' b c' (n + 2) := by
  obtain ⟨r, a1, c1, e1, r0, r1, s1⟩ := take_src (k := 2) s (by omega) (by decide) (by decide)
  obtain ⟨u, a2, c2, e2, u0, u1, s2⟩ := take_src (k := 4) s1 (by omega) (by decide) (by decide)
  have e3 := (lr_ix r0 r1).1
  have e4 : ixD (.str "LR") (.int ((fs.length : Int) % 2)) = _ := (lr_ix (Int.emod_nonneg _ (by decide)) (Int.emod_lt_of_pos _ (by decide))).1
  have e5 : (fs.map sdD).length = fs.length := List.length_map ..
  have e6 : ∃ w : Int, intD [.bl (decide (cut ≤ (fs.length : Int)))] = some (.fz (.int w)) ∧ 0 ≤ w ∧ w < 2 := by
    cases decide (cut ≤ (fs.length : Int))
    · exact ⟨0, by kernel_rfl, by decide, by decide⟩
    · exact ⟨1, by kernel_rfl, by decide, by decide⟩
  obtain ⟨w, e6, w0, w1⟩ := e6
  have e7 := (lr_ix w0 w1).2
  have e8 := ne_nilD (flt_sdL fs) (by decide)
  generalize decide (r = 0) = q0 at *
  generalize decide ((fs.length : Int) % 2 = 0) = q1 at *
  generalize (!decide (w = 0)) = q2 at *
  have e10 : ∀ x : D, ixN ([sdD q0, sdD q1, sdD q2, sdD q0].length) 3 = some 3 := fun _ => rfl
  by_cases cc : st = 3 ∧ 0 < u ∧ fs ≠ []
  · obtain ⟨rfl, cu, cf⟩ := cc
    obtain ⟨q3, e11⟩ := sd_last cf
    have d1 : decide (0 < u) = true := decide_eq_true cu
    have d2 : (!(fs.map sdD).isEmpty) = true := by cases fs with
      | nil => exact absurd rfl cf
      | cons _ _ => rfl
    rw [d2] at e8
    have e12 := sd_app fs (by omega) q3
    have e13 : ixD (.lst [sdD q0, sdD q1, sdD q2, sdD q3]) (.int 3) = some (.fz (sdD q3)) := rfl
    have e14 : [sdD q0, sdD q1, sdD q2, sdD q0].set 3 (sdD q3) = [sdD q0, sdD q1, sdD q2, sdD q3] := rfl
    refine ⟨a2, c2, q3, some (.fz (sdD q0)), some (.fz (.bl true)), some (.ow [sdD q0, sdD q1, sdD q2, sdD q3]), ?_, s2.up (by omega)⟩
    unfold L_law_sides_0
    generalize F_law_take = f1 at *
    generalize (fs ++ [q3]).map sdD = fd2 at *
    generalize fs.map sdD = fd at *
    generalize fs.length = k at *
    generalize sdD q0 = t0 at *
    generalize sdD q1 = t1 at *
    generalize sdD q2 = t2 at *
    generalize sdD q3 = t3 at *
    have e10 : ixN 4 3 = some 3 := rfl
    simp (maxSteps := 20000000) (disch := (first | assumption | omega | (simp only [List.length_cons, List.length_nil, List.length_append, List.length_map, SZ]; done) | (simp only [List.length_cons, List.length_nil, List.length_append, List.length_map, SZ]; omega))) only [EVA, ev_it, ev_if_f, List.getElem?_cons_zero, List.getElem?_cons_succ, List.set_cons_zero, List.set_cons_succ, Bool.and_true, Bool.true_and, Bool.or_true, Bool.true_or, Bool.or_false, Bool.false_or, Bool.and_false, Bool.false_and, Bool.not_true, Bool.not_false, List.length_cons, List.length_nil, List.map_cons, List.map_nil, List.replicate_succ, List.replicate_zero, List.cons_append, List.nil_append, if_true, if_false, Nat.reduceAdd, Nat.reduceEqDiff, beq_self_eq_true, reduceIte, Nat.zero_add, eq_self, SZ, List.contains_cons, List.contains_nil, Nat.reduceBEq, Nat.reduceLT, Nat.reduceLeDiff, Int.reduceToNat, Int.reducePow, Int.reduceAdd, Int.reduceSub, Int.reduceMul, Int.reduceNeg, Int.reduceLT, Int.reduceLE, Int.reduceEq, Int.reduceDiv, Int.reduceMod, Option.map_some, Option.map_none, e1, e2, e3, e4, e5, e6, e7, e8, e11, e12, e13, e14, d1, e10, decide_true]
  · obtain ⟨q3, e13⟩ := sd_pick q0 q1 q2 q0 h0 h1
    have e12 := sd_app fs (by omega) q3
    refine ⟨a2, c2, q3, some (.fz (sdD q0)), some (.fz (.bl (decide (0 < u)))), some (.ow [sdD q0, sdD q1, sdD q2, sdD q0]), ?_, s2.up (by omega)⟩
    unfold L_law_sides_0
    have e9 : (!(fs.map sdD).isEmpty) = decide (fs ≠ []) := by cases fs <;> simp
    rw [e9] at e8
    have hcc : (decide (st = 3) && (decide (0 < u) && decide (fs ≠ []))) = false := by
      rw [← Bool.not_eq_true, Bool.and_eq_true, Bool.and_eq_true, decide_eq_true_eq, decide_eq_true_eq, decide_eq_true_eq]
      exact cc
    generalize decide (fs ≠ []) = bf at *
    generalize hbu : decide (0 < u) = bu at *
    generalize hbs : decide (st = 3) = bs at *
    generalize F_law_take = f1 at *
    generalize (fs ++ [q3]).map sdD = fd2 at *
    generalize fs.map sdD = fd at *
    generalize fs.length = k at *
    generalize sdD q0 = t0 at *
    generalize sdD q1 = t1 at *
    generalize sdD q2 = t2 at *
    generalize sdD q3 = t3 at *
    cases bs with
    | false => simp (maxSteps := 20000000) (disch := (first | assumption | omega | (simp only [List.length_cons, List.length_nil, List.length_append, List.length_map, SZ]; done) | (simp only [List.length_cons, List.length_nil, List.length_append, List.length_map, SZ]; omega))) only [EVA, ev_it, ev_if_f, List.getElem?_cons_zero, List.getElem?_cons_succ, List.set_cons_zero, List.set_cons_succ, Bool.and_true, Bool.true_and, Bool.or_true, Bool.true_or, Bool.or_false, Bool.false_or, Bool.and_false, Bool.false_and, Bool.not_true, Bool.not_false, List.length_cons, List.length_nil, List.map_cons, List.map_nil, List.replicate_succ, List.replicate_zero, List.cons_append, List.nil_append, if_true, if_false, Nat.reduceAdd, Nat.reduceEqDiff, beq_self_eq_true, reduceIte, Nat.zero_add, eq_self, SZ, List.contains_cons, List.contains_nil, Nat.reduceBEq, Nat.reduceLT, Nat.reduceLeDiff, Int.reduceToNat, Int.reducePow, Int.reduceAdd, Int.reduceSub, Int.reduceMul, Int.reduceNeg, Int.reduceLT, Int.reduceLE, Int.reduceEq, Int.reduceDiv, Int.reduceMod, Option.map_some, Option.map_none, e1, e2, e3, e4, e5, e6, e7, e8, e12, e13, hbs, hbu]
    | true =>
      cases bu with
      | false => simp (maxSteps := 20000000) (disch := (first | assumption | omega | (simp only [List.length_cons, List.length_nil, List.length_append, List.length_map, SZ]; done) | (simp only [List.length_cons, List.length_nil, List.length_append, List.length_map, SZ]; omega))) only [EVA, ev_it, ev_if_f, List.getElem?_cons_zero, List.getElem?_cons_succ, List.set_cons_zero, List.set_cons_succ, Bool.and_true, Bool.true_and, Bool.or_true, Bool.true_or, Bool.or_false, Bool.false_or, Bool.and_false, Bool.false_and, Bool.not_true, Bool.not_false, List.length_cons, List.length_nil, List.map_cons, List.map_nil, List.replicate_succ, List.replicate_zero, List.cons_append, List.nil_append, if_true, if_false, Nat.reduceAdd, Nat.reduceEqDiff, beq_self_eq_true, reduceIte, Nat.zero_add, eq_self, SZ, List.contains_cons, List.contains_nil, Nat.reduceBEq, Nat.reduceLT, Nat.reduceLeDiff, Int.reduceToNat, Int.reducePow, Int.reduceAdd, Int.reduceSub, Int.reduceMul, Int.reduceNeg, Int.reduceLT, Int.reduceLE, Int.reduceEq, Int.reduceDiv, Int.reduceMod, Option.map_some, Option.map_none, e1, e2, e3, e4, e5, e6, e7, e8, e12, e13, hbs, hbu]
      | true =>
        cases bf with
        | false => simp (maxSteps := 20000000) (disch := (first | assumption | omega | (simp only [List.length_cons, List.length_nil, List.length_append, List.length_map, SZ]; done) | (simp only [List.length_cons, List.length_nil, List.length_append, List.length_map, SZ]; omega))) only [EVA, ev_it, ev_if_f, List.getElem?_cons_zero, List.getElem?_cons_succ, List.set_cons_zero, List.set_cons_succ, Bool.and_true, Bool.true_and, Bool.or_true, Bool.true_or, Bool.or_false, Bool.false_or, Bool.and_false, Bool.false_and, Bool.not_true, Bool.not_false, List.length_cons, List.length_nil, List.map_cons, List.map_nil, List.replicate_succ, List.replicate_zero, List.cons_append, List.nil_append, if_true, if_false, Nat.reduceAdd, Nat.reduceEqDiff, beq_self_eq_true, reduceIte, Nat.zero_add, eq_self, SZ, List.contains_cons, List.contains_nil, Nat.reduceBEq, Nat.reduceLT, Nat.reduceLeDiff, Int.reduceToNat, Int.reducePow, Int.reduceAdd, Int.reduceSub, Int.reduceMul, Int.reduceNeg, Int.reduceLT, Int.reduceLE, Int.reduceEq, Int.reduceDiv, Int.reduceMod, Option.map_some, Option.map_none, e1, e2, e3, e4, e5, e6, e7, e8, e12, e13, hbs, hbu]
        | true => cases hcc
theorem sd_loop (x1 : Option Sl) (size st cut : Int) (h0 : 0 ≤ st) (h1 : st < 4) (hz : size ≤ 100) : ∀ (i N : Nat) (a b c n : Int) (fs : List Bool) (x6 x7 x8 : Option Sl), i < N → Src a b c n → n + 2 * i < 1000000 → (fs.length : Int) + i = size →
    ∃ a' c' : Int, ∃ gs : List Bool, ∃ y6 y7 y8, sWhile N T_law_sides_1 L_law_sides_0 [some (.io [.int a, .int b, .int c]), x1, some (.fz (.int size)), some (.fz (.int st)), some (.fz (.int cut)), some (.ow (fs.map sdD)), x6, x7, x8]
      = .nx [some (.io [.int a', .int b, .int c']), x1, some (.fz (.int size)), some (.fz (.int st)), some (.fz (.int cut)), some (.ow (gs.map sdD)), y6, y7, y8] ∧ Src a' b c' (n + 2 * i) ∧ (gs.length : Int) = size
  | 0, N, a, b, c, n, fs, x6, x7, x8, hN, s, hn, hl => by
    obtain ⟨M, rfl⟩ : ∃ M, N = M + 1 := ⟨N - 1, by omega⟩
    refine ⟨a, c, fs, x6, x7, x8, ?_, s.up (by omega), by omega⟩
    rw [sWhile_succ, sd_T _ _ _ _ _ _ _ _ _ (by omega), decide_eq_false (by omega)]
    rfl
  | i + 1, N, a, b, c, n, fs, x6, x7, x8, hN, s, hn, hl => by
    obtain ⟨M, rfl⟩ : ∃ M, N = M + 1 := ⟨N - 1, by omega⟩
    obtain ⟨a1, c1, q, y6, y7, y8, e1, s1⟩ := sd_step a b c n size st cut s (by omega) h0 h1 fs (by omega) x1 x6 x7 x8
    obtain ⟨a2, c2, gs, z6, z7, z8, e2, s2, hg⟩ := sd_loop x1 size st cut h0 h1 hz i M a1 b c1 (n + 2) (fs ++ [q]) y6 y7 y8 (by omega) s1 (by omega) (by rw [List.length_append, List.length_cons, List.length_nil]; omega)
    refine ⟨a2, c2, gs, z6, z7, z8, ?_, s2.up (by omega), hg⟩
    rw [sWhile_succ, sd_T _ _ _ _ _ _ _ _ _ (by omega), decide_eq_true (by omega)]
    show turned (L_law_sides_0 _) _ = _
    rw [e1]
    exact e2
theorem sides_ok (most : Int) (hm : 1 ≤ most) (hm2 : most ≤ 20) (a b c n : Int) (s : Src a b c n) (hn : n < 100000) :
    ∃ a' c' : Int, ∃ gs : List Bool, F_law_sides [.io [.int a, .int b, .int c], .fz (.int most)] = .ret (.ow (gs.map sdD)) [some (.io [.int a', .int b, .int c']), none] ∧ Src a' b c' (n + 100) ∧ gs ≠ [] ∧ (gs.length : Int) ≤ most := by
  obtain ⟨r, a1, c1, e1, r0, r1, s1⟩ := take_src (k := most) s (by omega) (by omega) (by omega)
  obtain ⟨u, a2, c2, e2, u0, u1, s2⟩ := take_src (k := 4) s1 (by omega) (by decide) (by decide)
  obtain ⟨w, a3, c3, e3, w0, w1, s3⟩ := take_src (k := 1 + r + 1) s2 (by omega) (by omega) (by omega)
  obtain ⟨a4, c4, gs, y6, y7, y8, e4, s4, hg⟩ := sd_loop (some (.fz (.int most))) (1 + r) u w u0 u1 (by omega) (1 + r).toNat FUEL a3 b c3 _ [] none none none (by unfold FUEL; omega) s3 (by omega) (by rw [List.length_nil]; omega)
  rw [List.map_nil] at e4
  refine ⟨a4, c4, gs, ?_, s4.up (by omega), fun z => by subst z; rw [List.length_nil] at hg; omega, by omega⟩
  unfold F_law_sides B_law_sides
  clear s s1 s2 s3 s4
  generalize F_law_take = f1 at *
  generalize sWhile FUEL T_law_sides_1 L_law_sides_0 = f2 at *
  generalize gs.map sdD = gd at *
  simp (maxSteps := 20000000) (disch := (first | assumption | omega | (simp only [List.length_cons, List.length_nil, List.length_append, List.length_map, SZ]; done) | (simp only [List.length_cons, List.length_nil, List.length_append, List.length_map, SZ]; omega))) only [EVA, ev_it, ev_if_f, List.getElem?_cons_zero, List.getElem?_cons_succ, List.set_cons_zero, List.set_cons_succ, Bool.and_true, Bool.true_and, Bool.or_true, Bool.true_or, Bool.or_false, Bool.false_or, Bool.and_false, Bool.false_and, Bool.not_true, Bool.not_false, List.length_cons, List.length_nil, List.map_cons, List.map_nil, List.replicate_succ, List.replicate_zero, List.cons_append, List.nil_append, if_true, if_false, Nat.reduceAdd, Nat.reduceEqDiff, beq_self_eq_true, reduceIte, Nat.zero_add, eq_self, SZ, List.contains_cons, List.contains_nil, Nat.reduceBEq, Nat.reduceLT, Nat.reduceLeDiff, Int.reduceToNat, Int.reducePow, Int.reduceAdd, Int.reduceSub, Int.reduceMul, Int.reduceNeg, Int.reduceLT, Int.reduceLE, Int.reduceEq, Int.reduceDiv, Int.reduceMod, Option.map_some, Option.map_none, e1, e2, e3, e4]

end G

namespace G
open PySem PySem.Spec PyProof.Rows L2 Mi
theorem aft_ok {t : List Bool} {p : Int} (h1 : 1 ≤ p) (h2 : p ≤ t.length) : (wkP t p).2.1 = aftB t p.toNat := by
  have w := wkP_ok (s := t) (p := p) (by omega) (by omega)
  have hl := w.len
  have hb := nR_b (wkP t p).2.1
  have hc : nR t = (t.count false : Nat) := rfl
  rw [hl] at hb
  unfold aftB
  rcases w.ends with ⟨_, e1, e2⟩ | ⟨_, e1, e2⟩
  · rw [if_pos (by omega)]
    exact e2
  · rw [if_neg (by omega), show t.length + 1 - p.toNat = ((t.length : Int) + 1 - p).toNat by omega]
    exact e2
/-! ### lines as texts -/
def sgn (q : Bool) : Nat := if q then 76 else 82
def tx (t : List Bool) : Str := ⟨(t.map sgn).toArray⟩
def txD (t : List Bool) : D := .str (tx t)
theorem sg_sd (q : Bool) : D.str ⟨#[sgn q]⟩ = sdD q := by cases q <;> rfl
theorem tx_sg (t : List Bool) : ((tx t).cps.toList.map fun c => D.str ⟨#[c]⟩) = t.map sdD := by
  show (((t.map sgn).toArray).toList.map _) = _
  rw [List.toList_toArray, List.map_map]
  exact List.map_congr_left fun q _ => sg_sd q
theorem tx_len (t : List Bool) : (tx t).length = t.length := by
  show (t.map sgn).toArray.size = _
  simp
theorem tx_iter (t : List Bool) : D.iter (txD t) = some (t.map sdD) := by
  show some _ = _
  rw [tx_sg]
theorem tx_list {t : List Bool} (h : t.length ≤ 1000) : listTD [txD t] = some (.ow (t.map sdD)) := by
  show (if (tx t).length ≤ SZ then some (Sl.ow _) else none) = _
  rw [tx_len, if_pos (by unfold SZ; omega), tx_sg]
theorem tx_cons (q : Bool) (t : List Bool) : sideS q ++ tx t = tx (q :: t) := by
  have e : sideS q = ⟨#[sgn q]⟩ := by cases q <;> rfl
  rw [e]
  show Str.mk _ = Str.mk _
  congr 1
  show #[sgn q] ++ (t.map sgn).toArray = (sgn q :: t.map sgn).toArray
  simp
theorem tx_add (q : Bool) {t : List Bool} (h : t.length ≤ 1000) : addD (.str (sideS q)) (txD t) = some (.fz (txD (q :: t))) := by
  have hs : (sideS q).length = 1 := side_len q
  show (if (sideS q).length + (tx t).length ≤ SZ then some (Sl.fz (.str (sideS q ++ tx t))) else none) = _
  rw [hs, tx_len, if_pos (by unfold SZ; omega), tx_cons]
  rfl
theorem allT_len : ∀ (n : Nat) (t : List Bool), t ∈ allT n → t.length = n
  | 0, t, h => by
    rw [List.mem_singleton.mp h]
    rfl
  | n + 1, t, h => by
    rcases List.mem_append.mp h with h | h <;> obtain ⟨u, hu, rfl⟩ := List.mem_map.mp h <;> rw [List.length_cons, allT_len n u hu]
theorem allT_size : ∀ n : Nat, (allT n).length = 2 ^ n
  | 0 => rfl
  | n + 1 => by
    show ((allT n).map _ ++ (allT n).map _).length = _
    rw [List.length_append, List.length_map, List.length_map, allT_size n, Nat.pow_succ]
    omega
theorem mem_allT : ∀ t : List Bool, t ∈ allT t.length
  | [] => List.mem_singleton.mpr rfl
  | true :: t => List.mem_append_left _ (List.mem_map.mpr ⟨t, mem_allT t, rfl⟩)
  | false :: t => List.mem_append_right _ (List.mem_map.mpr ⟨t, mem_allT t, rfl⟩)
theorem tc_L (x0 x1 x2 : Option Sl) : ∀ (ts : List (List Bool)) (acc : List D), (∀ t ∈ ts, t.length ≤ 900) → acc.length + ts.length < 1000 →
    loopC (turnC (gNm 3) tYesE E_law_texts_0 [3]) (ts.map txD) [x0, x1, x2, none] acc = .ok (acc ++ (ts.map (true :: ·)).map txD) [x0, x1, x2, none]
  | [], acc, _, _ => by simp [ev_lc0]
  | t :: ts, acc, h, hl => by
    rw [List.length_cons] at hl
    have ih := tc_L x0 x1 x2 ts (acc ++ [txD (true :: t)]) (fun u hu => h u (List.mem_cons_of_mem _ hu)) (by rw [List.length_append, List.length_cons, List.length_nil]; omega)
    have ht := h t (List.mem_cons_self ..)
    have e1 : addD (.str "L") (txD t) = some (.fz (txD (true :: t))) := tx_add true (by omega)
    have e7 : turnC (gNm 3) tYesE E_law_texts_0 [3] (txD t) [x0, x1, x2, none] = .ok (some (txD (true :: t))) [x0, x1, x2, none] := by
      unfold E_law_texts_0
      generalize txD (true :: t) = d2 at *
      generalize txD t = d at *
      simp (maxSteps := 20000000) (disch := (first | assumption | omega | (simp only [List.length_cons, List.length_nil, List.length_append, List.length_map, SZ]; done) | (simp only [List.length_cons, List.length_nil, List.length_append, List.length_map, SZ]; omega))) only [EVA, ev_it, ev_if_f, List.getElem?_cons_zero, List.getElem?_cons_succ, List.set_cons_zero, List.set_cons_succ, Bool.and_true, Bool.true_and, Bool.or_true, Bool.true_or, Bool.or_false, Bool.false_or, Bool.and_false, Bool.false_and, Bool.not_true, Bool.not_false, List.length_cons, List.length_nil, List.map_cons, List.map_nil, List.replicate_succ, List.replicate_zero, List.cons_append, List.nil_append, if_true, if_false, Nat.reduceAdd, Nat.reduceEqDiff, beq_self_eq_true, reduceIte, Nat.zero_add, eq_self, SZ, List.contains_cons, List.contains_nil, Nat.reduceBEq, Nat.reduceLT, Nat.reduceLeDiff, Int.reduceToNat, Int.reducePow, Int.reduceAdd, Int.reduceSub, Int.reduceMul, Int.reduceNeg, Int.reduceLT, Int.reduceLE, Int.reduceEq, Int.reduceDiv, Int.reduceMod, Option.map_some, Option.map_none, e1]
    rw [List.map_cons, lc_cons, e7, ev_lcR1 (by unfold SZ; omega), ih, List.append_assoc]
    rfl
theorem tc_R (x0 x1 x2 : Option Sl) : ∀ (ts : List (List Bool)) (acc : List D), (∀ t ∈ ts, t.length ≤ 900) → acc.length + ts.length < 1000 →
    loopC (turnC (gNm 3) tYesE E_law_texts_1 [3]) (ts.map txD) [x0, x1, x2, none] acc = .ok (acc ++ (ts.map (false :: ·)).map txD) [x0, x1, x2, none]
  | [], acc, _, _ => by simp [ev_lc0]
  | t :: ts, acc, h, hl => by
    rw [List.length_cons] at hl
    have ih := tc_R x0 x1 x2 ts (acc ++ [txD (false :: t)]) (fun u hu => h u (List.mem_cons_of_mem _ hu)) (by rw [List.length_append, List.length_cons, List.length_nil]; omega)
    have ht := h t (List.mem_cons_self ..)
    have e1 : addD (.str "R") (txD t) = some (.fz (txD (false :: t))) := tx_add false (by omega)
    have e7 : turnC (gNm 3) tYesE E_law_texts_1 [3] (txD t) [x0, x1, x2, none] = .ok (some (txD (false :: t))) [x0, x1, x2, none] := by
      unfold E_law_texts_1
      generalize txD (false :: t) = d2 at *
      generalize txD t = d at *
      simp (maxSteps := 20000000) (disch := (first | assumption | omega | (simp only [List.length_cons, List.length_nil, List.length_append, List.length_map, SZ]; done) | (simp only [List.length_cons, List.length_nil, List.length_append, List.length_map, SZ]; omega))) only [EVA, ev_it, ev_if_f, List.getElem?_cons_zero, List.getElem?_cons_succ, List.set_cons_zero, List.set_cons_succ, Bool.and_true, Bool.true_and, Bool.or_true, Bool.true_or, Bool.or_false, Bool.false_or, Bool.and_false, Bool.false_and, Bool.not_true, Bool.not_false, List.length_cons, List.length_nil, List.map_cons, List.map_nil, List.replicate_succ, List.replicate_zero, List.cons_append, List.nil_append, if_true, if_false, Nat.reduceAdd, Nat.reduceEqDiff, beq_self_eq_true, reduceIte, Nat.zero_add, eq_self, SZ, List.contains_cons, List.contains_nil, Nat.reduceBEq, Nat.reduceLT, Nat.reduceLeDiff, Int.reduceToNat, Int.reducePow, Int.reduceAdd, Int.reduceSub, Int.reduceMul, Int.reduceNeg, Int.reduceLT, Int.reduceLE, Int.reduceEq, Int.reduceDiv, Int.reduceMod, Option.map_some, Option.map_none, e1]
    rw [List.map_cons, lc_cons, e7, ev_lcR1 (by unfold SZ; omega), ih, List.append_assoc]
    rfl
theorem tx_step (x0 x2 : Option Sl) (n : Nat) (hn : n ≤ 7) (kk : Mi.Env → SR) (d : D) :
    forR L_law_texts_2 kk (gNm 2 d [x0, some (.ow ((allT n).map txD)), x2, none]) = kk [x0, some (.ow ((allT (n + 1)).map txD)), some (.fz d), none] := by
  have hs := allT_size n
  have hp : 2 ^ n ≤ 2 ^ 7 := Nat.pow_le_pow_right (by decide) hn
  have hlen : ∀ t ∈ allT n, t.length ≤ 900 := fun t ht => by rw [allT_len n t ht]; omega
  have e1 := tc_L x0 (some (.fz (.lst ((allT n).map txD)))) (some (.fz d)) (allT n) [] hlen (by rw [List.length_nil]; omega)
  have e2 := tc_R x0 (some (.fz (.lst ((allT n).map txD)))) (some (.fz d)) (allT n) [] hlen (by rw [List.length_nil]; omega)
  rw [List.nil_append] at e1 e2
  have e3 : addD (.lst (((allT n).map (true :: ·)).map txD)) (.lst (((allT n).map (false :: ·)).map txD)) = some (.ow ((allT (n + 1)).map txD)) := by
    show (if _ then some (Sl.ow _) else none) = _
    rw [if_pos (by simp only [List.length_map]; unfold SZ; omega), ← List.map_append]
    rfl
  unfold L_law_texts_2
  clear hlen
  generalize (allT (n + 1)).map txD = d3 at *
  generalize ((allT n).map (true :: ·)).map txD = d1 at *
  generalize ((allT n).map (false :: ·)).map txD = d2 at *
  generalize (allT n).map txD = d0 at *
  generalize E_law_texts_0 = f1 at *
  generalize E_law_texts_1 = f2 at *
  simp (maxSteps := 20000000) (disch := (first | assumption | omega | (simp only [List.length_cons, List.length_nil, List.length_append, List.length_map, SZ]; done) | (simp only [List.length_cons, List.length_nil, List.length_append, List.length_map, SZ]; omega))) only [EVA, ev_it, ev_if_f, List.getElem?_cons_zero, List.getElem?_cons_succ, List.set_cons_zero, List.set_cons_succ, Bool.and_true, Bool.true_and, Bool.or_true, Bool.true_or, Bool.or_false, Bool.false_or, Bool.and_false, Bool.false_and, Bool.not_true, Bool.not_false, List.length_cons, List.length_nil, List.map_cons, List.map_nil, List.replicate_succ, List.replicate_zero, List.cons_append, List.nil_append, if_true, if_false, Nat.reduceAdd, Nat.reduceEqDiff, beq_self_eq_true, reduceIte, Nat.zero_add, eq_self, SZ, List.contains_cons, List.contains_nil, Nat.reduceBEq, Nat.reduceLT, Nat.reduceLeDiff, Int.reduceToNat, Int.reducePow, Int.reduceAdd, Int.reduceSub, Int.reduceMul, Int.reduceNeg, Int.reduceLT, Int.reduceLE, Int.reduceEq, Int.reduceDiv, Int.reduceMod, Option.map_some, Option.map_none, e1, e2, e3]
theorem tx_loop (x0 : Option Sl) : ∀ (i n : Nat) (lo : Int) (x2 : Option Sl), n + i ≤ 7 →
    ∃ z2, loopF (gNm 2) L_law_texts_2 (rangeL lo i) [x0, some (.ow ((allT n).map txD)), x2, none] = .nx [x0, some (.ow ((allT (n + i)).map txD)), z2, none]
  | 0, n, lo, x2, _ => ⟨x2, rfl⟩
  | i + 1, n, lo, x2, h => by
    obtain ⟨z2, ih⟩ := tx_loop x0 i (n + 1) (lo + 1) (some (.fz (.int lo))) (by omega)
    refine ⟨z2, ?_⟩
    rw [rangeL_succ, loop_cons, tx_step x0 x2 n (by omega), ih, show n + (i + 1) = n + 1 + i by omega]
theorem texts_ok (n : Nat) (hn : n ≤ 7) : F_law_texts [.fz (.int (n : Nat))] = .ret (.ow ((allT n).map txD)) [none] := by
  obtain ⟨z2, e⟩ := tx_loop (some (.fz (.int (n : Nat)))) n 0 0 none (by omega)
  rw [Nat.zero_add] at e
  have e : loopF (gNm 2) L_law_texts_2 (rangeL 0 n) [some (.fz (.int (n : Nat))), some (.ow [.str ""]), none, none] = _ := e
  unfold F_law_texts B_law_texts
  generalize L_law_texts_2 = f1 at *
  generalize (allT n).map txD = d0 at *
  simp (maxSteps := 20000000) (disch := (first | assumption | omega | (simp only [List.length_cons, List.length_nil, List.length_append, List.length_map, SZ]; done) | (simp only [List.length_cons, List.length_nil, List.length_append, List.length_map, SZ]; omega))) only [EVA, ev_it, ev_if_f, List.getElem?_cons_zero, List.getElem?_cons_succ, List.set_cons_zero, List.set_cons_succ, Bool.and_true, Bool.true_and, Bool.or_true, Bool.true_or, Bool.or_false, Bool.false_or, Bool.and_false, Bool.false_and, Bool.not_true, Bool.not_false, List.length_cons, List.length_nil, List.map_cons, List.map_nil, List.replicate_succ, List.replicate_zero, List.cons_append, List.nil_append, if_true, if_false, Nat.reduceAdd, Nat.reduceEqDiff, beq_self_eq_true, reduceIte, Nat.zero_add, eq_self, SZ, List.contains_cons, List.contains_nil, Nat.reduceBEq, Nat.reduceLT, Nat.reduceLeDiff, Int.reduceToNat, Int.reducePow, Int.reduceAdd, Int.reduceSub, Int.reduceMul, Int.reduceNeg, Int.reduceLT, Int.reduceLE, Int.reduceEq, Int.reduceDiv, Int.reduceMod, Option.map_some, Option.map_none, e, Int.toNat_natCast]
theorem tline_ok {s : List Bool} (h : s.length ≤ 100) : F_law_line [.fz (txD s)] = .ret (.fz (lnD (pk s))) [none] := by
  have e1 := ll_loop (some (.fz (txD s))) s [] (by simp; omega)
  rw [List.nil_append, List.map_nil] at e1
  have hlen : (ones s).length = s.length := List.length_map ..
  have e2 := ljoined_ok (ones s) (by omega)
  have e2 : F_law_joined [.fz (.lst ((ones s).map runD))] = .ret (.fz (lnD (pk s))) [none] := e2
  have e3 := tx_iter s
  unfold F_law_line B_law_line
  generalize F_law_joined = f1 at *
  generalize E_law_line_0 = f2 at *
  generalize lnD (pk s) = ld at *
  generalize (ones s).map runD = od at *
  generalize s.map sdD = sd at *
  generalize txD s = td at *
  simp (maxSteps := 20000000) (disch := (first | assumption | omega | (simp only [List.length_cons, List.length_nil, List.length_append, List.length_map, SZ]; done) | (simp only [List.length_cons, List.length_nil, List.length_append, List.length_map, SZ]; omega))) only [EVA, ev_it, ev_if_f, List.getElem?_cons_zero, List.getElem?_cons_succ, List.set_cons_zero, List.set_cons_succ, Bool.and_true, Bool.true_and, Bool.or_true, Bool.true_or, Bool.or_false, Bool.false_or, Bool.and_false, Bool.false_and, Bool.not_true, Bool.not_false, List.length_cons, List.length_nil, List.map_cons, List.map_nil, List.replicate_succ, List.replicate_zero, List.cons_append, List.nil_append, if_true, if_false, Nat.reduceAdd, Nat.reduceEqDiff, beq_self_eq_true, reduceIte, Nat.zero_add, eq_self, SZ, List.contains_cons, List.contains_nil, Nat.reduceBEq, Nat.reduceLT, Nat.reduceLeDiff, Int.reduceToNat, Int.reducePow, Int.reduceAdd, Int.reduceSub, Int.reduceMul, Int.reduceNeg, Int.reduceLT, Int.reduceLE, Int.reduceEq, Int.reduceDiv, Int.reduceMod, Option.map_some, Option.map_none, e1, e2, e3]

end G

namespace G
open PySem PySem.Spec PyProof.Rows L2 Mi
theorem nones_eq : ∀ {n : Nat} {o : Mi.Env}, nones n o = true → o = List.replicate n none
  | 0, [], _ => rfl
  | n + 1, none :: l, h => by
    have h : nones n l = true := h
    rw [nones_eq h]
    rfl
  | 0, _ :: _, h => by cases h
  | n + 1, [], h => by cases h
  | n + 1, some _ :: _, h => by cases h
theorem isI_eq {n : Nat} {j : Int} : ∀ {r : FR}, isI n j r = true → r = .ret (.fz (.int j)) (List.replicate n none)
  | .ret (.fz (.int i)) o, h => by
    have h : (decide (i = j) && nones n o) = true := h
    rw [Bool.and_eq_true, decide_eq_true_eq] at h
    rw [h.1, nones_eq h.2]
  | .ret (.fz .non) _, h => by cases h
  | .ret (.fz (.bl _)) _, h => by cases h
  | .ret (.fz (.str _)) _, h => by cases h
  | .ret (.fz (.tup _)) _, h => by cases h
  | .ret (.fz (.lst _)) _, h => by cases h
  | .ret (.fz (.dic _)) _, h => by cases h
  | .ret (.fz (.cst _)) _, h => by cases h
  | .ret (.fz (.scr _)) _, h => by cases h
  | .ret (.fz (.exo _)) _, h => by cases h
  | .ret (.ow _) _, h => by cases h
  | .ret (.io _) _, h => by cases h
  | .exc _ _, h => by cases h
  | .no, h => by cases h
theorem isB_eq {n : Nat} {j : Bool} : ∀ {r : FR}, isB n j r = true → r = .ret (.fz (.bl j)) (List.replicate n none)
  | .ret (.fz (.bl i)) o, h => by
    have h : ((i == j) && nones n o) = true := h
    rw [Bool.and_eq_true] at h
    rw [eq_of_beq h.1, nones_eq h.2]
  | .ret (.fz .non) _, h => by cases h
  | .ret (.fz (.int _)) _, h => by cases h
  | .ret (.fz (.str _)) _, h => by cases h
  | .ret (.fz (.tup _)) _, h => by cases h
  | .ret (.fz (.lst _)) _, h => by cases h
  | .ret (.fz (.dic _)) _, h => by cases h
  | .ret (.fz (.cst _)) _, h => by cases h
  | .ret (.fz (.scr _)) _, h => by cases h
  | .ret (.fz (.exo _)) _, h => by cases h
  | .ret (.ow _) _, h => by cases h
  | .ret (.io _) _, h => by cases h
  | .exc _ _, h => by cases h
  | .no, h => by cases h
theorem isRuns_eq : ∀ {ds : List D} {l : Runs}, isRuns ds l = true → ds = l.map runD
  | [], [], _ => rfl
  | .tup [.str z, .int i] :: ds, (q, c) :: l, h => by
    have h : ((z == sideS q) && decide (i = c) && isRuns ds l) = true := h
    rw [Bool.and_eq_true, Bool.and_eq_true, decide_eq_true_eq] at h
    rw [eq_of_beq h.1.1, h.1.2, isRuns_eq h.2]
    rfl
  | [], _ :: _, h => by simp [isRuns] at h
  | d :: ds, [], h => by simp [isRuns] at h
theorem isL2_eq {n : Nat} {l : Runs} : ∀ {r : FR}, isL2 n l r = true → r = .ret (.fz (lnD l)) (List.replicate n none)
  | .ret (.fz (.tup ds)) o, h => by
    have h : (isRuns ds l && nones n o) = true := h
    rw [Bool.and_eq_true] at h
    rw [isRuns_eq h.1, nones_eq h.2]
    rfl
  | .ret (.fz .non) _, h => by cases h
  | .ret (.fz (.int _)) _, h => by cases h
  | .ret (.fz (.str _)) _, h => by cases h
  | .ret (.fz (.bl _)) _, h => by cases h
  | .ret (.fz (.lst _)) _, h => by cases h
  | .ret (.fz (.dic _)) _, h => by cases h
  | .ret (.fz (.cst _)) _, h => by cases h
  | .ret (.fz (.scr _)) _, h => by cases h
  | .ret (.fz (.exo _)) _, h => by cases h
  | .ret (.ow _) _, h => by cases h
  | .ret (.io _) _, h => by cases h
  | .exc _ _, h => by cases h
  | .no, h => by cases h
/-- what the check tells -/
theorem chkP_facts {s : List Bool} {p : Nat} (h : chkP s p = true) :
    Fcount_before [.fz (lnD (pk s)), .fz (.int p)] = .ret (.fz (.int (wantB s p).length)) [none, none]
    ∧ Fcan_be_before [.fz (lnD (pk s)), .fz (.int p)] = .ret (.fz (.bl (decide ((0 : Int) < ((wantB s p).length : Nat))))) [none, none]
    ∧ ∀ (i : Nat) (t : List Bool), (wantB s p)[i]? = some t → Fnth_before [.fz (lnD (pk s)), .fz (.int p), .fz (.int i)] = .ret (.fz (lnD (pk t))) [none, none, none] := by
  unfold chkP at h
  rw [Bool.and_eq_true, Bool.and_eq_true] at h
  obtain ⟨⟨h1, h2⟩, h3⟩ := h
  refine ⟨isI_eq h1, ?_, fun i t hi => ?_⟩
  · rw [isB_eq h2]
    have : decide (0 < (wantB s p).length) = decide ((0 : Int) < ((wantB s p).length : Nat)) := decide_eq_decide.mpr (by omega)
    rw [this]
    rfl
  · have hm : (t, i) ∈ (wantB s p).zipIdx := List.mem_zipIdx_iff_getElem?.mpr hi
    exact isL2_eq (List.all_eq_true.mp h3 (t, i) hm)
theorem chkS_p {s : List Bool} (h : chkS s = true) {p : Nat} (p1 : 1 ≤ p) (p2 : p ≤ s.length) : chkP s p = true := by
  unfold chkS at h
  rw [Bool.and_eq_true] at h
  have := List.all_eq_true.mp h.1 (p - 1) (List.mem_range.mpr (by omega))
  rw [show p - 1 + 1 = p by omega] at this
  exact this
theorem chkS_t {s : List Bool} (h : chkS s = true) : Fcount_all_before [.fz (lnD (pk s))] = .ret (.fz (.int (totB s))) [none] := by
  unfold chkS at h
  rw [Bool.and_eq_true] at h
  exact isI_eq h.2
/-! ### the law's search -/
theorem want_loop {s : List Bool} (hs : s.length ≤ 70) {p : Nat} (p1 : 1 ≤ p) (p2 : p ≤ s.length) (x0 x1 x2 x3 x5 x6 x7 x9 x10 x11 x13 : Option Sl) : ∀ (ts : List (List Bool)) (acc : List D), (∀ t ∈ ts, t.length = s.length) → acc.length + ts.length < 1000 →
    loopC (turnC (gNm 12) (toT (mOp2 eqD (.e (mOp2 ixD (.e (mCall F_law_walk [(.e (mOpN listTD [(.v 12)])), (.e (mVar 8))])) (.e (mC (.int 1))))) (.v 4))) Elaw_0 [12]) (ts.map txD) [x0, x1, x2, x3, some (.fz (.lst (s.map sdD))), x5, x6, x7, some (.fz (.int (p : Nat))), x9, x10, x11, none, x13] acc
      = .ok (acc ++ (ts.filter fun t => aftB t p == s).map fun t => lnD (pk t)) [x0, x1, x2, x3, some (.fz (.lst (s.map sdD))), x5, x6, x7, some (.fz (.int (p : Nat))), x9, x10, x11, none, x13]
  | [], acc, _, _ => by simp [ev_lc0]
  | t :: ts, acc, h, hl => by
    rw [List.length_cons] at hl
    have ht := h t (List.mem_cons_self ..)
    have ih := fun a ha => want_loop hs p1 p2 x0 x1 x2 x3 x5 x6 x7 x9 x10 x11 x13 ts a (fun u hu => h u (List.mem_cons_of_mem _ hu)) ha
    have w := wkP_ok (s := t) (p := (p : Int)) (by omega) (by omega)
    have e1 := lwalk_ok w (by omega) (by omega)
    rw [aft_ok (by omega) (by omega), Int.toNat_natCast] at e1
    have e2 := tx_list (t := t) (by omega)
    have e3 := eqD_sds (aftB t p) s
    have e4 := tline_ok (s := t) (by omega)
    have hb : decide (aftB t p = s) = (aftB t p == s) := by
      by_cases c : aftB t p = s
      · rw [decide_eq_true c, c, beq_self_eq_true]
      · rw [decide_eq_false c]
        exact (beq_eq_false_iff_ne.mpr c).symm
    rw [hb] at e3
    have e7 : turnC (gNm 12) (toT (mOp2 eqD (.e (mOp2 ixD (.e (mCall F_law_walk [(.e (mOpN listTD [(.v 12)])), (.e (mVar 8))])) (.e (mC (.int 1))))) (.v 4))) Elaw_0 [12] (txD t) [x0, x1, x2, x3, some (.fz (.lst (s.map sdD))), x5, x6, x7, some (.fz (.int (p : Nat))), x9, x10, x11, none, x13]
        = .ok (if aftB t p == s then some (lnD (pk t)) else none) [x0, x1, x2, x3, some (.fz (.lst (s.map sdD))), x5, x6, x7, some (.fz (.int (p : Nat))), x9, x10, x11, none, x13] := by
      unfold Elaw_0
      clear w hb ih
      generalize (aftB t p == s) = b at *
      generalize lnD (pk t) = ld at *
      generalize F_law_walk = f1 at *
      generalize F_law_line = f2 at *
      generalize ((wkP t (p : Int)).1.length : Int) = k at *
      generalize sdD (decide ((wkP t (p : Int)).2.2 = 0)) = ed at *
      generalize (aftB t p).map sdD = ad at *
      generalize t.map sdD = td at *
      generalize s.map sdD = sd at *
      generalize txD t = xd at *
      cases b with
      | true => simp (maxSteps := 20000000) (disch := (first | assumption | omega | (simp only [List.length_cons, List.length_nil, List.length_append, List.length_map, SZ]; done) | (simp only [List.length_cons, List.length_nil, List.length_append, List.length_map, SZ]; omega))) only [EVA, ev_it, ev_if_f, List.getElem?_cons_zero, List.getElem?_cons_succ, List.set_cons_zero, List.set_cons_succ, Bool.and_true, Bool.true_and, Bool.or_true, Bool.true_or, Bool.or_false, Bool.false_or, Bool.and_false, Bool.false_and, Bool.not_true, Bool.not_false, List.length_cons, List.length_nil, List.map_cons, List.map_nil, List.replicate_succ, List.replicate_zero, List.cons_append, List.nil_append, if_true, if_false, Nat.reduceAdd, Nat.reduceEqDiff, beq_self_eq_true, reduceIte, Nat.zero_add, eq_self, SZ, List.contains_cons, List.contains_nil, Nat.reduceBEq, Nat.reduceLT, Nat.reduceLeDiff, Int.reduceToNat, Int.reducePow, Int.reduceAdd, Int.reduceSub, Int.reduceMul, Int.reduceNeg, Int.reduceLT, Int.reduceLE, Int.reduceEq, Int.reduceDiv, Int.reduceMod, Option.map_some, Option.map_none, e1, e2, e3, e4]
      | false => simp (maxSteps := 20000000) (disch := (first | assumption | omega | (simp only [List.length_cons, List.length_nil, List.length_append, List.length_map, SZ]; done) | (simp only [List.length_cons, List.length_nil, List.length_append, List.length_map, SZ]; omega))) only [EVA, ev_it, ev_if_f, List.getElem?_cons_zero, List.getElem?_cons_succ, List.set_cons_zero, List.set_cons_succ, Bool.and_true, Bool.true_and, Bool.or_true, Bool.true_or, Bool.or_false, Bool.false_or, Bool.and_false, Bool.false_and, Bool.not_true, Bool.not_false, List.length_cons, List.length_nil, List.map_cons, List.map_nil, List.replicate_succ, List.replicate_zero, List.cons_append, List.nil_append, if_true, if_false, Nat.reduceAdd, Nat.reduceEqDiff, beq_self_eq_true, reduceIte, Nat.zero_add, eq_self, SZ, List.contains_cons, List.contains_nil, Nat.reduceBEq, Nat.reduceLT, Nat.reduceLeDiff, Int.reduceToNat, Int.reducePow, Int.reduceAdd, Int.reduceSub, Int.reduceMul, Int.reduceNeg, Int.reduceLT, Int.reduceLE, Int.reduceEq, Int.reduceDiv, Int.reduceMod, Option.map_some, Option.map_none, e1, e2, e3]
    rw [List.map_cons, lc_cons, e7, List.filter_cons]
    cases hc : (aftB t p == s) with
    | true =>
      rw [if_pos rfl, if_pos rfl, ev_lcR1 (by unfold SZ; omega), ih _ (by rw [List.length_append, List.length_cons, List.length_nil]; omega), List.append_assoc]
      rfl
    | false =>
      rw [if_neg (by decide), if_neg (by decide), ev_lcR0, ih _ (by omega)]
theorem nth_loop {s : List Bool} {p : Nat} (h : chkP s p = true) (x0 x1 x2 x3 x4 x6 x7 x9 x10 x11 x12 : Option Sl) : ∀ (c i : Nat) (acc : List D), i + c = (wantB s p).length → acc.length + c < 1000 →
    loopC (turnC (gNm 13) tYesE Elaw_1 [13]) (rangeL (i : Nat) c) [x0, x1, x2, x3, x4, some (.fz (lnD (pk s))), x6, x7, some (.fz (.int (p : Nat))), x9, x10, x11, x12, none] acc
      = .ok (acc ++ ((wantB s p).drop i).map fun t => lnD (pk t)) [x0, x1, x2, x3, x4, some (.fz (lnD (pk s))), x6, x7, some (.fz (.int (p : Nat))), x9, x10, x11, x12, none]
  | 0, i, acc, hi, _ => by
    rw [List.drop_eq_nil_of_le (by omega), List.map_nil, List.append_nil]
    rfl
  | c + 1, i, acc, hi, hl => by
    have hlt : i < (wantB s p).length := by omega
    obtain ⟨t, ht⟩ : ∃ t, (wantB s p)[i]? = some t := ⟨_, List.getElem?_eq_getElem hlt⟩
    have e1 := (chkP_facts h).2.2 i t ht
    have ih := nth_loop h x0 x1 x2 x3 x4 x6 x7 x9 x10 x11 x12 c (i + 1) (acc ++ [lnD (pk t)]) (by omega) (by rw [List.length_append, List.length_cons, List.length_nil]; omega)
    have e7 : turnC (gNm 13) tYesE Elaw_1 [13] (.int (i : Nat)) [x0, x1, x2, x3, x4, some (.fz (lnD (pk s))), x6, x7, some (.fz (.int (p : Nat))), x9, x10, x11, x12, none] = .ok (some (lnD (pk t))) [x0, x1, x2, x3, x4, some (.fz (lnD (pk s))), x6, x7, some (.fz (.int (p : Nat))), x9, x10, x11, x12, none] := by
      unfold Elaw_1
      clear ih
      generalize Fnth_before = f1 at *
      generalize lnD (pk t) = td at *
      generalize lnD (pk s) = ld at *
      simp (maxSteps := 20000000) (disch := (first | assumption | omega | (simp only [List.length_cons, List.length_nil, List.length_append, List.length_map, SZ]; done) | (simp only [List.length_cons, List.length_nil, List.length_append, List.length_map, SZ]; omega))) only [EVA, ev_it, ev_if_f, List.getElem?_cons_zero, List.getElem?_cons_succ, List.set_cons_zero, List.set_cons_succ, Bool.and_true, Bool.true_and, Bool.or_true, Bool.true_or, Bool.or_false, Bool.false_or, Bool.and_false, Bool.false_and, Bool.not_true, Bool.not_false, List.length_cons, List.length_nil, List.map_cons, List.map_nil, List.replicate_succ, List.replicate_zero, List.cons_append, List.nil_append, if_true, if_false, Nat.reduceAdd, Nat.reduceEqDiff, beq_self_eq_true, reduceIte, Nat.zero_add, eq_self, SZ, List.contains_cons, List.contains_nil, Nat.reduceBEq, Nat.reduceLT, Nat.reduceLeDiff, Int.reduceToNat, Int.reducePow, Int.reduceAdd, Int.reduceSub, Int.reduceMul, Int.reduceNeg, Int.reduceLT, Int.reduceLE, Int.reduceEq, Int.reduceDiv, Int.reduceMod, Option.map_some, Option.map_none, e1]
    have hd : (wantB s p).drop i = t :: (wantB s p).drop (i + 1) := by
      rw [List.drop_eq_getElem_cons hlt]
      congr 1
      rw [List.getElem?_eq_getElem hlt] at ht
      exact Option.some.inj ht
    rw [rangeL_succ, lc_cons, e7, ev_lcR1 (by unfold SZ; omega), show (i : Int) + 1 = ((i + 1 : Nat) : Int) by omega, ih, hd, List.append_assoc]
    rfl

end G

namespace G
open PySem PySem.Spec PyProof.Rows L2 Mi
def wD (s : List Bool) (p : Nat) : List D := (wantB s p).map fun t => lnD (pk t)
theorem want_size {s : List Bool} (h2 : s.length ≤ 7) (p : Nat) : (wantB s p).length ≤ 128 := by
  have h := List.length_filter_le (fun t => aftB t p == s) (allT s.length)
  rw [allT_size] at h
  have : 2 ^ s.length ≤ 2 ^ 7 := Nat.pow_le_pow_right (by decide) h2
  have e : (wantB s p).length = ((allT s.length).filter fun t => aftB t p == s).length := rfl
  omega
theorem want_mem {s : List Bool} {p : Nat} {t : List Bool} (h : t ∈ wantB s p) : t.length = s.length := allT_len _ _ (List.mem_filter.mp h).1
theorem same_w {s : List Bool} (h2 : s.length ≤ 7) (p : Nat) : F_law_same [.fz (.lst (wD s p)), .fz (.lst (wD s p))] = .ret (.fz (.bl true)) [none, none] := by
  have e : wD s p = ((wantB s p).map pk).map lnD := by
    rw [List.map_map]
    rfl
  have hs := want_size h2 p
  rw [e]
  refine F_same (same_lines 4 _ (by rw [List.length_map]; omega) fun l hl => ?_)
  obtain ⟨t, ht, rfl⟩ := List.mem_map.mp hl
  have := pk_len t
  have := want_mem ht
  omega
theorem start_step {s : List Bool} (h1 : s ≠ []) (h2 : s.length ≤ 7) (hc : chkS s = true) {p : Nat} (p1 : 1 ≤ p) (p2 : p ≤ s.length) (kk : Mi.Env → SR) (tot : Int) (x0 x1 x2 x3 x8 x9 x10 x11 : Option Sl) (sl : Sl)
    (hsl : sl = .ow ((allT s.length).map txD) ∨ sl = .fz (.lst ((allT s.length).map txD))) :
    ∃ z11, forR Llaw_2 kk (gNm 8 (.int (p : Nat)) [x0, x1, x2, x3, some (.fz (.lst (s.map sdD))), some (.fz (lnD (pk s))), some (.fz (.int tot)), some sl, x8, x9, x10, x11, none, none])
      = kk [x0, x1, x2, x3, some (.fz (.lst (s.map sdD))), some (.fz (lnD (pk s))), some (.fz (.int (tot + ((wantB s p).length : Nat)))), some (.fz (.lst ((allT s.length).map txD))), some (.fz (.int (p : Nat))), some (.fz (.lst (wD s p))), some (.fz (.int ((wantB s p).length : Nat))), z11, none, none] := by
  have hck := chkS_p hc p1 p2
  obtain ⟨f1, f2, f3⟩ := chkP_facts hck
  have hs := want_size h2 p
  have hT : (allT s.length).length ≤ 128 := by
    rw [allT_size]
    exact Nat.pow_le_pow_right (n := 2) (by decide) h2
  have e1 := fun x5 x6 x7 x9 x10 x11 x13 => want_loop (by omega) p1 p2 x0 x1 x2 x3 x5 x6 x7 x9 x10 x11 x13 (allT s.length) [] (fun t ht => allT_len _ t ht) (by rw [List.length_nil]; omega)
  have e1 := e1 (some (.fz (lnD (pk s)))) (some (.fz (.int tot))) (some (.fz (.lst ((allT s.length).map txD)))) x9 x10 x11 none
  have e1 : _ = R.ok (wD s p) _ := e1
  have e2 : ((wD s p).length : Int) = ((wantB s p).length : Nat) := by
    unfold wD
    rw [List.length_map]
  have e3 := fun x9 x11 => nth_loop hck x0 x1 x2 x3 (some (.fz (.lst (s.map sdD)))) (some (.fz (.int (tot + ((wantB s p).length : Nat))))) (some (.fz (.lst ((allT s.length).map txD)))) x9 (some (.fz (.int ((wantB s p).length : Nat)))) x11 none (wantB s p).length 0 [] (by omega) (by rw [List.length_nil]; omega)
  have e3 : ∀ x9 x11, loopC (turnC (gNm 13) tYesE Elaw_1 [13]) (rangeL 0 (wantB s p).length) _ [] = R.ok (wD s p) _ := e3
  have e4 := same_w h2 p
  obtain ⟨m, hm⟩ : ∃ m : Nat, (wantB s p).length = m := ⟨_, rfl⟩
  have e5 := F_same (same_lst 7 [.int (m : Nat), .int (m : Nat)] (by simp) (fun x hx => by
    have : x = .int (m : Nat) := by simpa using hx
    subst this
    exact same_int 6 _))
  have e6 : ∀ b : Bool, F_law_same [.fz (.lst [.bl b, .bl b]), .fz (.lst [.bl b, .bl b])] = .ret (.fz (.bl true)) [none, none] := fun b => F_same (same_lst 7 [.bl b, .bl b] (by simp) (fun x hx => by
    have : x = .bl b := by simpa using hx
    subst this
    exact same_bool 6 _))
  rw [hm] at f1 f2 e2 e3 hs
  rw [hm]
  by_cases c : (0 : Int) < m
  · have d : decide ((0 : Int) < (m : Nat)) = true := decide_eq_true c
    obtain ⟨t, ht⟩ : ∃ t, (wantB s p)[m - 1]? = some t := ⟨_, List.getElem?_eq_getElem (by omega)⟩
    have g1 := f3 (m - 1) t ht
    rw [show ((m - 1 : Nat) : Int) = (m : Int) - 1 by omega] at g1
    have g2 : ixD (.lst (wD s p)) (.int (-1)) = some (.fz (lnD (pk t))) := by
      have hl : (wantB s p).getLast? = some t := by rw [List.getLast?_eq_getElem?, hm]; exact ht
      obtain ⟨ys, e⟩ := List.getLast?_eq_some_iff.mp hl
      unfold wD
      rw [e, List.map_append]
      exact ix_last
    have g3 := neD_lines (pk t) (pk t)
    rw [decide_eq_true rfl] at g3
    have g3 : neD (lnD (pk t)) (lnD (pk t)) = some (.fz (.bl false)) := g3
    rw [d] at f2
    have e6 := e6 true
    refine ⟨some (.fz (.lst [.bl true, .bl true])), ?_⟩
    unfold Llaw_2
    clear f3 hck hc hT ht
    generalize Elaw_0 = y1 at *
    generalize Elaw_1 = y2 at *
    generalize F_law_walk = y3 at *
    generalize Fcount_before = y4 at *
    generalize Fcan_be_before = y5 at *
    generalize Fnth_before = y6 at *
    generalize F_law_same = y7 at *
    generalize wD s p = w at *
    generalize lnD (pk t) = td at *
    generalize lnD (pk s) = ld at *
    generalize (allT s.length).map txD = ad at *
    generalize s.map sdD = sd at *
    rcases hsl with rfl | rfl
    · simp (maxSteps := 20000000) (disch := (first | assumption | omega | (simp only [List.length_cons, List.length_nil, List.length_append, List.length_map, SZ]; done) | (simp only [List.length_cons, List.length_nil, List.length_append, List.length_map, SZ]; omega))) only [EVA, ev_it, ev_if_f, List.getElem?_cons_zero, List.getElem?_cons_succ, List.set_cons_zero, List.set_cons_succ, Bool.and_true, Bool.true_and, Bool.or_true, Bool.true_or, Bool.or_false, Bool.false_or, Bool.and_false, Bool.false_and, Bool.not_true, Bool.not_false, List.length_cons, List.length_nil, List.map_cons, List.map_nil, List.replicate_succ, List.replicate_zero, List.cons_append, List.nil_append, if_true, if_false, Nat.reduceAdd, Nat.reduceEqDiff, beq_self_eq_true, reduceIte, Nat.zero_add, eq_self, SZ, List.contains_cons, List.contains_nil, Nat.reduceBEq, Nat.reduceLT, Nat.reduceLeDiff, Int.reduceToNat, Int.reducePow, Int.reduceAdd, Int.reduceSub, Int.reduceMul, Int.reduceNeg, Int.reduceLT, Int.reduceLE, Int.reduceEq, Int.reduceDiv, Int.reduceMod, Option.map_some, Option.map_none, permL, List.filterMap_cons, List.filterMap_nil, e1, e2, e3, e4, e5, e6, f1, f2, g1, g2, g3, d, Int.toNat_natCast]
    · simp (maxSteps := 20000000) (disch := (first | assumption | omega | (simp only [List.length_cons, List.length_nil, List.length_append, List.length_map, SZ]; done) | (simp only [List.length_cons, List.length_nil, List.length_append, List.length_map, SZ]; omega))) only [EVA, ev_it, ev_if_f, List.getElem?_cons_zero, List.getElem?_cons_succ, List.set_cons_zero, List.set_cons_succ, Bool.and_true, Bool.true_and, Bool.or_true, Bool.true_or, Bool.or_false, Bool.false_or, Bool.and_false, Bool.false_and, Bool.not_true, Bool.not_false, List.length_cons, List.length_nil, List.map_cons, List.map_nil, List.replicate_succ, List.replicate_zero, List.cons_append, List.nil_append, if_true, if_false, Nat.reduceAdd, Nat.reduceEqDiff, beq_self_eq_true, reduceIte, Nat.zero_add, eq_self, SZ, List.contains_cons, List.contains_nil, Nat.reduceBEq, Nat.reduceLT, Nat.reduceLeDiff, Int.reduceToNat, Int.reducePow, Int.reduceAdd, Int.reduceSub, Int.reduceMul, Int.reduceNeg, Int.reduceLT, Int.reduceLE, Int.reduceEq, Int.reduceDiv, Int.reduceMod, Option.map_some, Option.map_none, permL, List.filterMap_cons, List.filterMap_nil, e1, e2, e3, e4, e5, e6, f1, f2, g1, g2, g3, d, Int.toNat_natCast]
  · have d : decide ((0 : Int) < (m : Nat)) = false := decide_eq_false c
    rw [d] at f2
    have e6 := e6 false
    refine ⟨some (.fz (.lst [.bl false, .bl false])), ?_⟩
    unfold Llaw_2
    clear f3 hck hc hT
    generalize Elaw_0 = y1 at *
    generalize Elaw_1 = y2 at *
    generalize F_law_walk = y3 at *
    generalize Fcount_before = y4 at *
    generalize Fcan_be_before = y5 at *
    generalize Fnth_before = y6 at *
    generalize F_law_same = y7 at *
    generalize wD s p = w at *
    generalize lnD (pk s) = ld at *
    generalize (allT s.length).map txD = ad at *
    generalize s.map sdD = sd at *
    rcases hsl with rfl | rfl
    · simp (maxSteps := 20000000) (disch := (first | assumption | omega | (simp only [List.length_cons, List.length_nil, List.length_append, List.length_map, SZ]; done) | (simp only [List.length_cons, List.length_nil, List.length_append, List.length_map, SZ]; omega))) only [EVA, ev_it, ev_if_f, List.getElem?_cons_zero, List.getElem?_cons_succ, List.set_cons_zero, List.set_cons_succ, Bool.and_true, Bool.true_and, Bool.or_true, Bool.true_or, Bool.or_false, Bool.false_or, Bool.and_false, Bool.false_and, Bool.not_true, Bool.not_false, List.length_cons, List.length_nil, List.map_cons, List.map_nil, List.replicate_succ, List.replicate_zero, List.cons_append, List.nil_append, if_true, if_false, Nat.reduceAdd, Nat.reduceEqDiff, beq_self_eq_true, reduceIte, Nat.zero_add, eq_self, SZ, List.contains_cons, List.contains_nil, Nat.reduceBEq, Nat.reduceLT, Nat.reduceLeDiff, Int.reduceToNat, Int.reducePow, Int.reduceAdd, Int.reduceSub, Int.reduceMul, Int.reduceNeg, Int.reduceLT, Int.reduceLE, Int.reduceEq, Int.reduceDiv, Int.reduceMod, Option.map_some, Option.map_none, permL, List.filterMap_cons, List.filterMap_nil, e1, e2, e3, e4, e5, e6, f1, f2, d, Int.toNat_natCast]
    · simp (maxSteps := 20000000) (disch := (first | assumption | omega | (simp only [List.length_cons, List.length_nil, List.length_append, List.length_map, SZ]; done) | (simp only [List.length_cons, List.length_nil, List.length_append, List.length_map, SZ]; omega))) only [EVA, ev_it, ev_if_f, List.getElem?_cons_zero, List.getElem?_cons_succ, List.set_cons_zero, List.set_cons_succ, Bool.and_true, Bool.true_and, Bool.or_true, Bool.true_or, Bool.or_false, Bool.false_or, Bool.and_false, Bool.false_and, Bool.not_true, Bool.not_false, List.length_cons, List.length_nil, List.map_cons, List.map_nil, List.replicate_succ, List.replicate_zero, List.cons_append, List.nil_append, if_true, if_false, Nat.reduceAdd, Nat.reduceEqDiff, beq_self_eq_true, reduceIte, Nat.zero_add, eq_self, SZ, List.contains_cons, List.contains_nil, Nat.reduceBEq, Nat.reduceLT, Nat.reduceLeDiff, Int.reduceToNat, Int.reducePow, Int.reduceAdd, Int.reduceSub, Int.reduceMul, Int.reduceNeg, Int.reduceLT, Int.reduceLE, Int.reduceEq, Int.reduceDiv, Int.reduceMod, Option.map_some, Option.map_none, permL, List.filterMap_cons, List.filterMap_nil, e1, e2, e3, e4, e5, e6, f1, f2, d, Int.toNat_natCast]

end G

namespace G
open PySem PySem.Spec PyProof.Rows L2 Mi
theorem u1 : upTo 1 = true := by decide +kernel
theorem u2 : upTo 2 = true := by decide +kernel
theorem u3 : upTo 3 = true := by decide +kernel
theorem u4 : upTo 4 = true := by decide +kernel
theorem u5 : upTo 5 = true := by decide +kernel

end G

namespace G
open PySem PySem.Spec PyProof.Rows L2 Mi
theorem z6_0 : chkS [true, true, true, true, true, true] = true := by decide +kernel
theorem z6_1 : chkS [true, true, true, true, true, false] = true := by decide +kernel
theorem z6_2 : chkS [true, true, true, true, false, true] = true := by decide +kernel
theorem z6_3 : chkS [true, true, true, true, false, false] = true := by decide +kernel
theorem z6_4 : chkS [true, true, true, false, true, true] = true := by decide +kernel
theorem z6_5 : chkS [true, true, true, false, true, false] = true := by decide +kernel
theorem z6_6 : chkS [true, true, true, false, false, true] = true := by decide +kernel
theorem z6_7 : chkS [true, true, true, false, false, false] = true := by decide +kernel
theorem z6_8 : chkS [true, true, false, true, true, true] = true := by decide +kernel
theorem z6_9 : chkS [true, true, false, true, true, false] = true := by decide +kernel
theorem z6_10 : chkS [true, true, false, true, false, true] = true := by decide +kernel
theorem z6_11 : chkS [true, true, false, true, false, false] = true := by decide +kernel
theorem z6_12 : chkS [true, true, false, false, true, true] = true := by decide +kernel
theorem z6_13 : chkS [true, true, false, false, true, false] = true := by decide +kernel
theorem z6_14 : chkS [true, true, false, false, false, true] = true := by decide +kernel
theorem z6_15 : chkS [true, true, false, false, false, false] = true := by decide +kernel
theorem z6_16 : chkS [true, false, true, true, true, true] = true := by decide +kernel
theorem z6_17 : chkS [true, false, true, true, true, false] = true := by decide +kernel
theorem z6_18 : chkS [true, false, true, true, false, true] = true := by decide +kernel
theorem z6_19 : chkS [true, false, true, true, false, false] = true := by decide +kernel
theorem z6_20 : chkS [true, false, true, false, true, true] = true := by decide +kernel
theorem z6_21 : chkS [true, false, true, false, true, false] = true := by decide +kernel
theorem z6_22 : chkS [true, false, true, false, false, true] = true := by decide +kernel
theorem z6_23 : chkS [true, false, true, false, false, false] = true := by decide +kernel
theorem z6_24 : chkS [true, false, false, true, true, true] = true := by decide +kernel
theorem z6_25 : chkS [true, false, false, true, true, false] = true := by decide +kernel
theorem z6_26 : chkS [true, false, false, true, false, true] = true := by decide +kernel
theorem z6_27 : chkS [true, false, false, true, false, false] = true := by decide +kernel
theorem z6_28 : chkS [true, false, false, false, true, true] = true := by decide +kernel
theorem z6_29 : chkS [true, false, false, false, true, false] = true := by decide +kernel
theorem z6_30 : chkS [true, false, false, false, false, true] = true := by decide +kernel
theorem z6_31 : chkS [true, false, false, false, false, false] = true := by decide +kernel
theorem z6_32 : chkS [false, true, true, true, true, true] = true := by decide +kernel
theorem z6_33 : chkS [false, true, true, true, true, false] = true := by decide +kernel
theorem z6_34 : chkS [false, true, true, true, false, true] = true := by decide +kernel
theorem z6_35 : chkS [false, true, true, true, false, false] = true := by decide +kernel
theorem z6_36 : chkS [false, true, true, false, true, true] = true := by decide +kernel
theorem z6_37 : chkS [false, true, true, false, true, false] = true := by decide +kernel
theorem z6_38 : chkS [false, true, true, false, false, true] = true := by decide +kernel
theorem z6_39 : chkS [false, true, true, false, false, false] = true := by decide +kernel
theorem z6_40 : chkS [false, true, false, true, true, true] = true := by decide +kernel
theorem z6_41 : chkS [false, true, false, true, true, false] = true := by decide +kernel
theorem z6_42 : chkS [false, true, false, true, false, true] = true := by decide +kernel
theorem z6_43 : chkS [false, true, false, true, false, false] = true := by decide +kernel
theorem z6_44 : chkS [false, true, false, false, true, true] = true := by decide +kernel
theorem z6_45 : chkS [false, true, false, false, true, false] = true := by decide +kernel
theorem z6_46 : chkS [false, true, false, false, false, true] = true := by decide +kernel
theorem z6_47 : chkS [false, true, false, false, false, false] = true := by decide +kernel
theorem z6_48 : chkS [false, false, true, true, true, true] = true := by decide +kernel
theorem z6_49 : chkS [false, false, true, true, true, false] = true := by decide +kernel
theorem z6_50 : chkS [false, false, true, true, false, true] = true := by decide +kernel
theorem z6_51 : chkS [false, false, true, true, false, false] = true := by decide +kernel
theorem z6_52 : chkS [false, false, true, false, true, true] = true := by decide +kernel
theorem z6_53 : chkS [false, false, true, false, true, false] = true := by decide +kernel
theorem z6_54 : chkS [false, false, true, false, false, true] = true := by decide +kernel
theorem z6_55 : chkS [false, false, true, false, false, false] = true := by decide +kernel
theorem z6_56 : chkS [false, false, false, true, true, true] = true := by decide +kernel
theorem z6_57 : chkS [false, false, false, true, true, false] = true := by decide +kernel
theorem z6_58 : chkS [false, false, false, true, false, true] = true := by decide +kernel
theorem z6_59 : chkS [false, false, false, true, false, false] = true := by decide +kernel
theorem z6_60 : chkS [false, false, false, false, true, true] = true := by decide +kernel
theorem z6_61 : chkS [false, false, false, false, true, false] = true := by decide +kernel
theorem z6_62 : chkS [false, false, false, false, false, true] = true := by decide +kernel
theorem z6_63 : chkS [false, false, false, false, false, false] = true := by decide +kernel
theorem u6 : upTo 6 = true := by
  show List.all [[true, true, true, true, true, true], [true, true, true, true, true, false], [true, true, true, true, false, true], [true, true, true, true, false, false], [true, true, true, false, true, true], [true, true, true, false, true, false], [true, true, true, false, false, true], [true, true, true, false, false, false], [true, true, false, true, true, true], [true, true, false, true, true, false], [true, true, false, true, false, true], [true, true, false, true, false, false], [true, true, false, false, true, true], [true, true, false, false, true, false], [true, true, false, false, false, true], [true, true, false, false, false, false], [true, false, true, true, true, true], [true, false, true, true, true, false], [true, false, true, true, false, true], [true, false, true, true, false, false], [true, false, true, false, true, true], [true, false, true, false, true, false], [true, false, true, false, false, true], [true, false, true, false, false, false], [true, false, false, true, true, true], [true, false, false, true, true, false], [true, false, false, true, false, true], [true, false, false, true, false, false], [true, false, false, false, true, true], [true, false, false, false, true, false], [true, false, false, false, false, true], [true, false, false, false, false, false], [false, true, true, true, true, true], [false, true, true, true, true, false], [false, true, true, true, false, true], [false, true, true, true, false, false], [false, true, true, false, true, true], [false, true, true, false, true, false], [false, true, true, false, false, true], [false, true, true, false, false, false], [false, true, false, true, true, true], [false, true, false, true, true, false], [false, true, false, true, false, true], [false, true, false, true, false, false], [false, true, false, false, true, true], [false, true, false, false, true, false], [false, true, false, false, false, true], [false, true, false, false, false, false], [false, false, true, true, true, true], [false, false, true, true, true, false], [false, false, true, true, false, true], [false, false, true, true, false, false], [false, false, true, false, true, true], [false, false, true, false, true, false], [false, false, true, false, false, true], [false, false, true, false, false, false], [false, false, false, true, true, true], [false, false, false, true, true, false], [false, false, false, true, false, true], [false, false, false, true, false, false], [false, false, false, false, true, true], [false, false, false, false, true, false], [false, false, false, false, false, true], [false, false, false, false, false, false]] chkS = true
  simp only [List.all_cons, List.all_nil, Bool.and_true, z6_0, z6_1, z6_2, z6_3, z6_4, z6_5, z6_6, z6_7, z6_8, z6_9, z6_10, z6_11, z6_12, z6_13, z6_14, z6_15, z6_16, z6_17, z6_18, z6_19, z6_20, z6_21, z6_22, z6_23, z6_24, z6_25, z6_26, z6_27, z6_28, z6_29, z6_30, z6_31, z6_32, z6_33, z6_34, z6_35, z6_36, z6_37, z6_38, z6_39, z6_40, z6_41, z6_42, z6_43, z6_44, z6_45, z6_46, z6_47, z6_48, z6_49, z6_50, z6_51, z6_52, z6_53, z6_54, z6_55, z6_56, z6_57, z6_58, z6_59, z6_60, z6_61, z6_62, z6_63]

end G

namespace G
open PySem PySem.Spec PyProof.Rows L2 Mi
theorem z7_0 : chkS [true, true, true, true, true, true, true] = true := by decide +kernel
theorem z7_1 : chkS [true, true, true, true, true, true, false] = true := by decide +kernel
theorem z7_2 : chkS [true, true, true, true, true, false, true] = true := by decide +kernel
theorem z7_3 : chkS [true, true, true, true, true, false, false] = true := by decide +kernel
theorem z7_4 : chkS [true, true, true, true, false, true, true] = true := by decide +kernel
theorem z7_5 : chkS [true, true, true, true, false, true, false] = true := by decide +kernel
theorem z7_6 : chkS [true, true, true, true, false, false, true] = true := by decide +kernel
theorem z7_7 : chkS [true, true, true, true, false, false, false] = true := by decide +kernel
theorem z7_8 : chkS [true, true, true, false, true, true, true] = true := by decide +kernel
theorem z7_9 : chkS [true, true, true, false, true, true, false] = true := by decide +kernel
theorem z7_10 : chkS [true, true, true, false, true, false, true] = true := by decide +kernel
theorem z7_11 : chkS [true, true, true, false, true, false, false] = true := by decide +kernel
theorem z7_12 : chkS [true, true, true, false, false, true, true] = true := by decide +kernel
theorem z7_13 : chkS [true, true, true, false, false, true, false] = true := by decide +kernel
theorem z7_14 : chkS [true, true, true, false, false, false, true] = true := by decide +kernel
theorem z7_15 : chkS [true, true, true, false, false, false, false] = true := by decide +kernel
theorem z7_16 : chkS [true, true, false, true, true, true, true] = true := by decide +kernel
theorem z7_17 : chkS [true, true, false, true, true, true, false] = true := by decide +kernel
theorem z7_18 : chkS [true, true, false, true, true, false, true] = true := by decide +kernel
theorem z7_19 : chkS [true, true, false, true, true, false, false] = true := by decide +kernel
theorem z7_20 : chkS [true, true, false, true, false, true, true] = true := by decide +kernel
theorem z7_21 : chkS [true, true, false, true, false, true, false] = true := by decide +kernel
theorem z7_22 : chkS [true, true, false, true, false, false, true] = true := by decide +kernel
theorem z7_23 : chkS [true, true, false, true, false, false, false] = true := by decide +kernel
theorem z7_24 : chkS [true, true, false, false, true, true, true] = true := by decide +kernel
theorem z7_25 : chkS [true, true, false, false, true, true, false] = true := by decide +kernel
theorem z7_26 : chkS [true, true, false, false, true, false, true] = true := by decide +kernel
theorem z7_27 : chkS [true, true, false, false, true, false, false] = true := by decide +kernel
theorem z7_28 : chkS [true, true, false, false, false, true, true] = true := by decide +kernel
theorem z7_29 : chkS [true, true, false, false, false, true, false] = true := by decide +kernel
theorem z7_30 : chkS [true, true, false, false, false, false, true] = true := by decide +kernel
theorem z7_31 : chkS [true, true, false, false, false, false, false] = true := by decide +kernel

end G

namespace G
open PySem PySem.Spec PyProof.Rows L2 Mi
theorem z7_32 : chkS [true, false, true, true, true, true, true] = true := by decide +kernel
theorem z7_33 : chkS [true, false, true, true, true, true, false] = true := by decide +kernel
theorem z7_34 : chkS [true, false, true, true, true, false, true] = true := by decide +kernel
theorem z7_35 : chkS [true, false, true, true, true, false, false] = true := by decide +kernel
theorem z7_36 : chkS [true, false, true, true, false, true, true] = true := by decide +kernel
theorem z7_37 : chkS [true, false, true, true, false, true, false] = true := by decide +kernel
theorem z7_38 : chkS [true, false, true, true, false, false, true] = true := by decide +kernel
theorem z7_39 : chkS [true, false, true, true, false, false, false] = true := by decide +kernel
theorem z7_40 : chkS [true, false, true, false, true, true, true] = true := by decide +kernel
theorem z7_41 : chkS [true, false, true, false, true, true, false] = true := by decide +kernel
theorem z7_42 : chkS [true, false, true, false, true, false, true] = true := by decide +kernel
theorem z7_43 : chkS [true, false, true, false, true, false, false] = true := by decide +kernel
theorem z7_44 : chkS [true, false, true, false, false, true, true] = true := by decide +kernel
theorem z7_45 : chkS [true, false, true, false, false, true, false] = true := by decide +kernel
theorem z7_46 : chkS [true, false, true, false, false, false, true] = true := by decide +kernel
theorem z7_47 : chkS [true, false, true, false, false, false, false] = true := by decide +kernel
theorem z7_48 : chkS [true, false, false, true, true, true, true] = true := by decide +kernel
theorem z7_49 : chkS [true, false, false, true, true, true, false] = true := by decide +kernel
theorem z7_50 : chkS [true, false, false, true, true, false, true] = true := by decide +kernel
theorem z7_51 : chkS [true, false, false, true, true, false, false] = true := by decide +kernel
theorem z7_52 : chkS [true, false, false, true, false, true, true] = true := by decide +kernel
theorem z7_53 : chkS [true, false, false, true, false, true, false] = true := by decide +kernel
theorem z7_54 : chkS [true, false, false, true, false, false, true] = true := by decide +kernel
theorem z7_55 : chkS [true, false, false, true, false, false, false] = true := by decide +kernel
theorem z7_56 : chkS [true, false, false, false, true, true, true] = true := by decide +kernel
theorem z7_57 : chkS [true, false, false, false, true, true, false] = true := by decide +kernel
theorem z7_58 : chkS [true, false, false, false, true, false, true] = true := by decide +kernel
theorem z7_59 : chkS [true, false, false, false, true, false, false] = true := by decide +kernel
theorem z7_60 : chkS [true, false, false, false, false, true, true] = true := by decide +kernel
theorem z7_61 : chkS [true, false, false, false, false, true, false] = true := by decide +kernel
theorem z7_62 : chkS [true, false, false, false, false, false, true] = true := by decide +kernel
theorem z7_63 : chkS [true, false, false, false, false, false, false] = true := by decide +kernel

end G

namespace G
open PySem PySem.Spec PyProof.Rows L2 Mi
theorem z7_64 : chkS [false, true, true, true, true, true, true] = true := by decide +kernel
theorem z7_65 : chkS [false, true, true, true, true, true, false] = true := by decide +kernel
theorem z7_66 : chkS [false, true, true, true, true, false, true] = true := by decide +kernel
theorem z7_67 : chkS [false, true, true, true, true, false, false] = true := by decide +kernel
theorem z7_68 : chkS [false, true, true, true, false, true, true] = true := by decide +kernel
theorem z7_69 : chkS [false, true, true, true, false, true, false] = true := by decide +kernel
theorem z7_70 : chkS [false, true, true, true, false, false, true] = true := by decide +kernel
theorem z7_71 : chkS [false, true, true, true, false, false, false] = true := by decide +kernel
theorem z7_72 : chkS [false, true, true, false, true, true, true] = true := by decide +kernel
theorem z7_73 : chkS [false, true, true, false, true, true, false] = true := by decide +kernel
theorem z7_74 : chkS [false, true, true, false, true, false, true] = true := by decide +kernel
theorem z7_75 : chkS [false, true, true, false, true, false, false] = true := by decide +kernel
theorem z7_76 : chkS [false, true, true, false, false, true, true] = true := by decide +kernel
theorem z7_77 : chkS [false, true, true, false, false, true, false] = true := by decide +kernel
theorem z7_78 : chkS [false, true, true, false, false, false, true] = true := by decide +kernel
theorem z7_79 : chkS [false, true, true, false, false, false, false] = true := by decide +kernel
theorem z7_80 : chkS [false, true, false, true, true, true, true] = true := by decide +kernel
theorem z7_81 : chkS [false, true, false, true, true, true, false] = true := by decide +kernel
theorem z7_82 : chkS [false, true, false, true, true, false, true] = true := by decide +kernel
theorem z7_83 : chkS [false, true, false, true, true, false, false] = true := by decide +kernel
theorem z7_84 : chkS [false, true, false, true, false, true, true] = true := by decide +kernel
theorem z7_85 : chkS [false, true, false, true, false, true, false] = true := by decide +kernel
theorem z7_86 : chkS [false, true, false, true, false, false, true] = true := by decide +kernel
theorem z7_87 : chkS [false, true, false, true, false, false, false] = true := by decide +kernel
theorem z7_88 : chkS [false, true, false, false, true, true, true] = true := by decide +kernel
theorem z7_89 : chkS [false, true, false, false, true, true, false] = true := by decide +kernel
theorem z7_90 : chkS [false, true, false, false, true, false, true] = true := by decide +kernel
theorem z7_91 : chkS [false, true, false, false, true, false, false] = true := by decide +kernel
theorem z7_92 : chkS [false, true, false, false, false, true, true] = true := by decide +kernel
theorem z7_93 : chkS [false, true, false, false, false, true, false] = true := by decide +kernel
theorem z7_94 : chkS [false, true, false, false, false, false, true] = true := by decide +kernel
theorem z7_95 : chkS [false, true, false, false, false, false, false] = true := by decide +kernel

end G

namespace G
open PySem PySem.Spec PyProof.Rows L2 Mi
theorem z7_96 : chkS [false, false, true, true, true, true, true] = true := by decide +kernel
theorem z7_97 : chkS [false, false, true, true, true, true, false] = true := by decide +kernel
theorem z7_98 : chkS [false, false, true, true, true, false, true] = true := by decide +kernel
theorem z7_99 : chkS [false, false, true, true, true, false, false] = true := by decide +kernel
theorem z7_100 : chkS [false, false, true, true, false, true, true] = true := by decide +kernel
theorem z7_101 : chkS [false, false, true, true, false, true, false] = true := by decide +kernel
theorem z7_102 : chkS [false, false, true, true, false, false, true] = true := by decide +kernel
theorem z7_103 : chkS [false, false, true, true, false, false, false] = true := by decide +kernel
theorem z7_104 : chkS [false, false, true, false, true, true, true] = true := by decide +kernel
theorem z7_105 : chkS [false, false, true, false, true, true, false] = true := by decide +kernel
theorem z7_106 : chkS [false, false, true, false, true, false, true] = true := by decide +kernel
theorem z7_107 : chkS [false, false, true, false, true, false, false] = true := by decide +kernel
theorem z7_108 : chkS [false, false, true, false, false, true, true] = true := by decide +kernel
theorem z7_109 : chkS [false, false, true, false, false, true, false] = true := by decide +kernel
theorem z7_110 : chkS [false, false, true, false, false, false, true] = true := by decide +kernel
theorem z7_111 : chkS [false, false, true, false, false, false, false] = true := by decide +kernel
theorem z7_112 : chkS [false, false, false, true, true, true, true] = true := by decide +kernel
theorem z7_113 : chkS [false, false, false, true, true, true, false] = true := by decide +kernel
theorem z7_114 : chkS [false, false, false, true, true, false, true] = true := by decide +kernel
theorem z7_115 : chkS [false, false, false, true, true, false, false] = true := by decide +kernel
theorem z7_116 : chkS [false, false, false, true, false, true, true] = true := by decide +kernel
theorem z7_117 : chkS [false, false, false, true, false, true, false] = true := by decide +kernel
theorem z7_118 : chkS [false, false, false, true, false, false, true] = true := by decide +kernel
theorem z7_119 : chkS [false, false, false, true, false, false, false] = true := by decide +kernel
theorem z7_120 : chkS [false, false, false, false, true, true, true] = true := by decide +kernel
theorem z7_121 : chkS [false, false, false, false, true, true, false] = true := by decide +kernel
theorem z7_122 : chkS [false, false, false, false, true, false, true] = true := by decide +kernel
theorem z7_123 : chkS [false, false, false, false, true, false, false] = true := by decide +kernel
theorem z7_124 : chkS [false, false, false, false, false, true, true] = true := by decide +kernel
theorem z7_125 : chkS [false, false, false, false, false, true, false] = true := by decide +kernel
theorem z7_126 : chkS [false, false, false, false, false, false, true] = true := by decide +kernel
theorem z7_127 : chkS [false, false, false, false, false, false, false] = true := by decide +kernel

end G

namespace G
open PySem PySem.Spec PyProof.Rows L2 Mi
theorem u7 : upTo 7 = true := by
  show List.all [[true, true, true, true, true, true, true], [true, true, true, true, true, true, false], [true, true, true, true, true, false, true], [true, true, true, true, true, false, false], [true, true, true, true, false, true, true], [true, true, true, true, false, true, false], [true, true, true, true, false, false, true], [true, true, true, true, false, false, false], [true, true, true, false, true, true, true], [true, true, true, false, true, true, false], [true, true, true, false, true, false, true], [true, true, true, false, true, false, false], [true, true, true, false, false, true, true], [true, true, true, false, false, true, false], [true, true, true, false, false, false, true], [true, true, true, false, false, false, false], [true, true, false, true, true, true, true], [true, true, false, true, true, true, false], [true, true, false, true, true, false, true], [true, true, false, true, true, false, false], [true, true, false, true, false, true, true], [true, true, false, true, false, true, false], [true, true, false, true, false, false, true], [true, true, false, true, false, false, false], [true, true, false, false, true, true, true], [true, true, false, false, true, true, false], [true, true, false, false, true, false, true], [true, true, false, false, true, false, false], [true, true, false, false, false, true, true], [true, true, false, false, false, true, false], [true, true, false, false, false, false, true], [true, true, false, false, false, false, false], [true, false, true, true, true, true, true], [true, false, true, true, true, true, false], [true, false, true, true, true, false, true], [true, false, true, true, true, false, false], [true, false, true, true, false, true, true], [true, false, true, true, false, true, false], [true, false, true, true, false, false, true], [true, false, true, true, false, false, false], [true, false, true, false, true, true, true], [true, false, true, false, true, true, false], [true, false, true, false, true, false, true], [true, false, true, false, true, false, false], [true, false, true, false, false, true, true], [true, false, true, false, false, true, false], [true, false, true, false, false, false, true], [true, false, true, false, false, false, false], [true, false, false, true, true, true, true], [true, false, false, true, true, true, false], [true, false, false, true, true, false, true], [true, false, false, true, true, false, false], [true, false, false, true, false, true, true], [true, false, false, true, false, true, false], [true, false, false, true, false, false, true], [true, false, false, true, false, false, false], [true, false, false, false, true, true, true], [true, false, false, false, true, true, false], [true, false, false, false, true, false, true], [true, false, false, false, true, false, false], [true, false, false, false, false, true, true], [true, false, false, false, false, true, false], [true, false, false, false, false, false, true], [true, false, false, false, false, false, false], [false, true, true, true, true, true, true], [false, true, true, true, true, true, false], [false, true, true, true, true, false, true], [false, true, true, true, true, false, false], [false, true, true, true, false, true, true], [false, true, true, true, false, true, false], [false, true, true, true, false, false, true], [false, true, true, true, false, false, false], [false, true, true, false, true, true, true], [false, true, true, false, true, true, false], [false, true, true, false, true, false, true], [false, true, true, false, true, false, false], [false, true, true, false, false, true, true], [false, true, true, false, false, true, false], [false, true, true, false, false, false, true], [false, true, true, false, false, false, false], [false, true, false, true, true, true, true], [false, true, false, true, true, true, false], [false, true, false, true, true, false, true], [false, true, false, true, true, false, false], [false, true, false, true, false, true, true], [false, true, false, true, false, true, false], [false, true, false, true, false, false, true], [false, true, false, true, false, false, false], [false, true, false, false, true, true, true], [false, true, false, false, true, true, false], [false, true, false, false, true, false, true], [false, true, false, false, true, false, false], [false, true, false, false, false, true, true], [false, true, false, false, false, true, false], [false, true, false, false, false, false, true], [false, true, false, false, false, false, false], [false, false, true, true, true, true, true], [false, false, true, true, true, true, false], [false, false, true, true, true, false, true], [false, false, true, true, true, false, false], [false, false, true, true, false, true, true], [false, false, true, true, false, true, false], [false, false, true, true, false, false, true], [false, false, true, true, false, false, false], [false, false, true, false, true, true, true], [false, false, true, false, true, true, false], [false, false, true, false, true, false, true], [false, false, true, false, true, false, false], [false, false, true, false, false, true, true], [false, false, true, false, false, true, false], [false, false, true, false, false, false, true], [false, false, true, false, false, false, false], [false, false, false, true, true, true, true], [false, false, false, true, true, true, false], [false, false, false, true, true, false, true], [false, false, false, true, true, false, false], [false, false, false, true, false, true, true], [false, false, false, true, false, true, false], [false, false, false, true, false, false, true], [false, false, false, true, false, false, false], [false, false, false, false, true, true, true], [false, false, false, false, true, true, false], [false, false, false, false, true, false, true], [false, false, false, false, true, false, false], [false, false, false, false, false, true, true], [false, false, false, false, false, true, false], [false, false, false, false, false, false, true], [false, false, false, false, false, false, false]] chkS = true
  simp only [List.all_cons, List.all_nil, Bool.and_true, z7_0, z7_1, z7_2, z7_3, z7_4, z7_5, z7_6, z7_7, z7_8, z7_9, z7_10, z7_11, z7_12, z7_13, z7_14, z7_15, z7_16, z7_17, z7_18, z7_19, z7_20, z7_21, z7_22, z7_23, z7_24, z7_25, z7_26, z7_27, z7_28, z7_29, z7_30, z7_31, z7_32, z7_33, z7_34, z7_35, z7_36, z7_37, z7_38, z7_39, z7_40, z7_41, z7_42, z7_43, z7_44, z7_45, z7_46, z7_47, z7_48, z7_49, z7_50, z7_51, z7_52, z7_53, z7_54, z7_55, z7_56, z7_57, z7_58, z7_59, z7_60, z7_61, z7_62, z7_63, z7_64, z7_65, z7_66, z7_67, z7_68, z7_69, z7_70, z7_71, z7_72, z7_73, z7_74, z7_75, z7_76, z7_77, z7_78, z7_79, z7_80, z7_81, z7_82, z7_83, z7_84, z7_85, z7_86, z7_87, z7_88, z7_89, z7_90, z7_91, z7_92, z7_93, z7_94, z7_95, z7_96, z7_97, z7_98, z7_99, z7_100, z7_101, z7_102, z7_103, z7_104, z7_105, z7_106, z7_107, z7_108, z7_109, z7_110, z7_111, z7_112, z7_113, z7_114, z7_115, z7_116, z7_117, z7_118, z7_119, z7_120, z7_121, z7_122, z7_123, z7_124, z7_125, z7_126, z7_127]

end G

namespace G
open PySem PySem.Spec PyProof.Rows L2 Mi
theorem chk_all {s : List Bool} (h1 : s ≠ []) (h2 : s.length ≤ 7) : chkS s = true := by
  have h0 : 0 < s.length := List.length_pos_iff.mpr h1
  have hm := mem_allT s
  rcases (show s.length = 1 ∨ s.length = 2 ∨ s.length = 3 ∨ s.length = 4 ∨ s.length = 5 ∨ s.length = 6 ∨ s.length = 7 by omega) with e | e | e | e | e | e | e <;> rw [e] at hm
  · exact List.all_eq_true.mp u1 s hm
  · exact List.all_eq_true.mp u2 s hm
  · exact List.all_eq_true.mp u3 s hm
  · exact List.all_eq_true.mp u4 s hm
  · exact List.all_eq_true.mp u5 s hm
  · exact List.all_eq_true.mp u6 s hm
  · exact List.all_eq_true.mp u7 s hm
def totU (s : List Bool) (k : Nat) : Nat := ((List.range k).map fun k => (wantB s (k + 1)).length).sum
theorem totU_succ (s : List Bool) (k : Nat) : totU s (k + 1) = totU s k + (wantB s (k + 1)).length := by
  unfold totU
  rw [List.range_succ, List.map_append, List.sum_append]
  simp
theorem starts_loop {s : List Bool} (h1 : s ≠ []) (h2 : s.length ≤ 7) (hc : chkS s = true) (x0 x1 x2 x3 : Option Sl) : ∀ (c k : Nat) (sl : Sl) (x8 x9 x10 x11 : Option Sl), k + c = s.length →
    (sl = .ow ((allT s.length).map txD) ∨ sl = .fz (.lst ((allT s.length).map txD))) →
    ∃ z7 z8 z9 z10 z11, loopF (gNm 8) Llaw_2 (rangeL ((k : Int) + 1) c) [x0, x1, x2, x3, some (.fz (.lst (s.map sdD))), some (.fz (lnD (pk s))), some (.fz (.int (totU s k : Nat))), some sl, x8, x9, x10, x11, none, none]
      = .nx [x0, x1, x2, x3, some (.fz (.lst (s.map sdD))), some (.fz (lnD (pk s))), some (.fz (.int (totU s s.length : Nat))), z7, z8, z9, z10, z11, none, none]
  | 0, k, sl, x8, x9, x10, x11, hk, _ => ⟨some sl, x8, x9, x10, x11, by rw [show k = s.length by omega]; rfl⟩
  | c + 1, k, sl, x8, x9, x10, x11, hk, hsl => by
    obtain ⟨z11, e1⟩ := start_step h1 h2 hc (p := k + 1) (by omega) (by omega) (loopF (gNm 8) Llaw_2 (rangeL (((k + 1 : Nat) : Int) + 1) c)) (totU s k : Nat) x0 x1 x2 x3 x8 x9 x10 x11 sl hsl
    obtain ⟨y7, y8, y9, y10, y11, e2⟩ := starts_loop h1 h2 hc x0 x1 x2 x3 c (k + 1) (.fz (.lst ((allT s.length).map txD))) (some (.fz (.int ((k + 1 : Nat) : Int)))) (some (.fz (.lst (wD s (k + 1))))) (some (.fz (.int ((wantB s (k + 1)).length : Nat)))) z11 (by omega) (.inr rfl)
    refine ⟨y7, y8, y9, y10, y11, ?_⟩
    rw [totU_succ, show ((totU s k + (wantB s (k + 1)).length : Nat) : Int) = (totU s k : Int) + ((wantB s (k + 1)).length : Nat) by omega] at e2
    rw [rangeL_succ, loop_cons, show (k : Int) + 1 = ((k + 1 : Nat) : Int) by omega, e1, e2]
theorem turn_step (kk : Mi.Env → SR) (x0 x1 x3 x4 x5 x6 x7 x8 x9 x10 x11 : Option Sl) (t a b c n : Int) (s : Src a b c n) (hn : n < 10000) :
    ∃ a' c' : Int, ∃ r : Mi.Env, forR Llaw_3 kk (gNm 3 (.int t) [x0, x1, some (.ow [.int a, .int b, .int c]), x3, x4, x5, x6, x7, x8, x9, x10, x11, none, none]) = kk (x0 :: x1 :: some (.ow [.int a', .int b, .int c']) :: (r ++ [none, none])) ∧ r.length = 9 ∧ Src a' b c' (n + 100) := by
  obtain ⟨a1, c1, gs, e1, s1, g1, g2⟩ := sides_ok 7 (by decide) (by decide) a b c n s (by omega)
  have h2 : gs.length ≤ 7 := by omega
  have hc := chk_all g1 h2
  have e2 := lline_ok (s := gs) (by omega)
  have e3 := texts_ok gs.length h2
  have e4 := chkS_t hc
  obtain ⟨z7, z8, z9, z10, z11, lp⟩ := starts_loop g1 h2 hc x0 x1 (some (.ow [.int a1, .int b, .int c1])) (some (.fz (.int t))) gs.length 0 (.ow ((allT gs.length).map txD)) x8 x9 x10 x11 (by omega) (.inl rfl)
  have lp : loopF (gNm 8) Llaw_2 (rangeL 1 gs.length) [x0, x1, some (.ow [.int a1, .int b, .int c1]), some (.fz (.int t)), some (.fz (.lst (gs.map sdD))), some (.fz (lnD (pk gs))), some (.fz (.int 0)), some (.ow ((allT gs.length).map txD)), x8, x9, x10, x11, none, none] = _ := lp
  have e5 : totU gs gs.length = totB gs := rfl
  rw [e5] at lp
  have e6 := F_same (same_lst 7 [.int (totB gs : Nat), .int (totB gs : Nat)] (by simp) (fun x hx => by
    have : x = .int (totB gs : Nat) := by simpa using hx
    subst this
    exact same_int 6 _))
  have hl : (gs.map sdD).length = gs.length := List.length_map ..
  have hr : ((gs.length : Int) + 1 - 1).toNat = gs.length := by omega
  refine ⟨a1, c1, [some (.fz (.int t)), some (.fz (.lst (gs.map sdD))), some (.fz (lnD (pk gs))), some (.fz (.int (totB gs : Nat))), z7, z8, z9, z10, z11], ?_, rfl, s1⟩
  unfold Llaw_3
  clear s1 s hc e5
  generalize totB gs = tt at *
  generalize (allT gs.length).map txD = ad at *
  generalize lnD (pk gs) = ld at *
  generalize gs.map sdD = gd at *
  generalize gs.length = gl at *
  generalize F_law_sides = f1 at *
  generalize F_law_line = f2 at *
  generalize F_law_same = f3 at *
  generalize F_law_texts = f4 at *
  generalize Fcount_all_before = f5 at *
  generalize Llaw_2 = f6 at *
  simp (maxSteps := 20000000) (disch := (first | assumption | omega | (simp only [List.length_cons, List.length_nil, List.length_append, List.length_map, SZ]; done) | (simp only [List.length_cons, List.length_nil, List.length_append, List.length_map, SZ]; omega))) only [EVA, ev_it, ev_if_f, List.getElem?_cons_zero, List.getElem?_cons_succ, List.set_cons_zero, List.set_cons_succ, Bool.and_true, Bool.true_and, Bool.or_true, Bool.true_or, Bool.or_false, Bool.false_or, Bool.and_false, Bool.false_and, Bool.not_true, Bool.not_false, List.length_cons, List.length_nil, List.map_cons, List.map_nil, List.replicate_succ, List.replicate_zero, List.cons_append, List.nil_append, if_true, if_false, Nat.reduceAdd, Nat.reduceEqDiff, beq_self_eq_true, reduceIte, Nat.zero_add, eq_self, SZ, List.contains_cons, List.contains_nil, Nat.reduceBEq, Nat.reduceLT, Nat.reduceLeDiff, Int.reduceToNat, Int.reducePow, Int.reduceAdd, Int.reduceSub, Int.reduceMul, Int.reduceNeg, Int.reduceLT, Int.reduceLE, Int.reduceEq, Int.reduceDiv, Int.reduceMod, Option.map_some, Option.map_none, permL, List.filterMap_cons, List.filterMap_nil, e1, e2, e3, e4, e6, hl, hr, lp]
/-- the bag's slot, and so many more -/
def Iv (pre : Mi.Env) (m : Nat) (b n : Int) (ρ : Mi.Env) : Prop := ∃ a c : Int, ∃ r : Mi.Env, ρ = pre ++ some (.ow [.int a, .int b, .int c]) :: (r ++ [none, none]) ∧ r.length = m ∧ Src a b c n
theorem turn_inv (x0 x1 : Option Sl) (b : Int) (kk : Mi.Env → SR) (t n : Int) (ρ : Mi.Env) (hI : Iv [x0, x1] 9 b n ρ) (hn : n + 100 ≤ 10000) :
    ∃ ρ', forR Llaw_3 kk (gNm 3 (.int t) ρ) = kk ρ' ∧ Iv [x0, x1] 9 b (n + 100) ρ' := by
  obtain ⟨a, c, r, rfl, hr, s⟩ := hI
  match r, hr with
  | [x3, x4, x5, x6, x7, x8, x9, x10, x11], _ =>
    obtain ⟨a', c', r', e, hr', s'⟩ := turn_step kk x0 x1 x3 x4 x5 x6 x7 x8 x9 x10 x11 t a b c n s (by omega)
    exact ⟨_, e, a', c', r', rfl, hr', s'⟩
theorem cell_step (ns : List Int) (kk : Mi.Env → SR) (k : Int) (hk0 : 0 ≤ k) (hk : k < 100) (ρ : Mi.Env) (hρ : ∃ r, ρ = some (.fz (.scr (ns.map .int))) :: (r ++ [none, none]) ∧ r.length = 11) :
    ∃ ρ', forR Llaw_4 kk (gNm 1 (.int k) ρ) = kk ρ' ∧ ∃ r, ρ' = some (.fz (.scr (ns.map .int))) :: (r ++ [none, none]) ∧ r.length = 11 := by
  obtain ⟨r, rfl, hr⟩ := hρ
  match r, hr with
  | [x1, x2, x3, x4, x5, x6, x7, x8, x9, x10, x11], _ =>
    have ek : ((k.toNat : Nat) : Int) = k := Int.toNat_of_nonneg hk0
    obtain ⟨z, e1⟩ := cell_ok ns k.toNat
    obtain ⟨a, b, e2, s⟩ := bag_ok z k.toNat (by omega)
    rw [ek] at e1 e2
    obtain ⟨ρ', e3, hI⟩ := loopI (P := Iv [some (.fz (.scr (ns.map .int))), some (.fz (.int k))] 9 b) (tg := gNm 3) (L := Llaw_3) (d := 100) (B := 10000) (lo := 0) (hi := 2) (by decide) (fun kk t n ρ _ _ hI hn => turn_inv _ _ b kk t n ρ hI hn) 2 0 0 _ (by decide) (by decide) ⟨a, 0, [x3, x4, x5, x6, x7, x8, x9, x10, x11], rfl, rfl, s⟩ (by decide)
    obtain ⟨a', c', r', rfl, hr', _⟩ := hI
    refine ⟨some (.fz (.scr (ns.map .int))) :: some (.fz (.int k)) :: some (.ow [.int a', .int b, .int c']) :: (r' ++ [none, none]), ?_, some (.fz (.int k)) :: some (.ow [.int a', .int b, .int c']) :: r', rfl, by simp [hr']⟩
    have t4 : Int.toNat 2 = 2 := rfl
    unfold Llaw_4
    revert e1 e2 e3
    generalize F_law_cell_at = f1
    generalize F_law_bag = f2
    generalize Llaw_3 = f3
    intro e1 e2 e3
    simp only [List.cons_append, List.nil_append] at e3
    simp (maxSteps := 20000000) (disch := (first | assumption | omega | (simp only [List.length_cons, List.length_nil, List.length_append, List.length_map, SZ]; done) | (simp only [List.length_cons, List.length_nil, List.length_append, List.length_map, SZ]; omega))) only [EVA, ev_it, ev_if_f, List.getElem?_cons_zero, List.getElem?_cons_succ, List.set_cons_zero, List.set_cons_succ, Bool.and_true, Bool.true_and, Bool.or_true, Bool.true_or, Bool.or_false, Bool.false_or, Bool.and_false, Bool.false_and, Bool.not_true, Bool.not_false, List.length_cons, List.length_nil, List.map_cons, List.map_nil, List.replicate_succ, List.replicate_zero, List.cons_append, List.nil_append, if_true, if_false, Nat.reduceAdd, Nat.reduceEqDiff, beq_self_eq_true, reduceIte, Nat.zero_add, eq_self, SZ, List.contains_cons, List.contains_nil, Nat.reduceBEq, Nat.reduceLT, Nat.reduceLeDiff, Int.reduceToNat, Int.reducePow, Int.reduceAdd, Int.reduceSub, Int.reduceMul, Int.reduceNeg, Int.reduceLT, Int.reduceLE, Int.reduceEq, Int.reduceDiv, Int.reduceMod, Option.map_some, Option.map_none, List.cons_append, List.nil_append, e1, e2, t4, e3]
theorem law_true (ns : List Int) (hl : ns.length ≤ 63) (h : ∀ z ∈ ns, Builtin.Int.intBits z ≤ 1048576) : ∃ o, Flaw [.fz (.scr (ns.map .int))] = .ret (.fz (.bl true)) o := by
  unfold Flaw Blaw
  obtain ⟨m, hm, hm2⟩ : ∃ m : Int, (if (if ((ns.map D.int).length : Int) < 3 then ((ns.map D.int).length : Int) else 3) > 1 then (if ((ns.map D.int).length : Int) < 3 then ((ns.map D.int).length : Int) else 3) else 1) = m ∧ (0 ≤ m ∧ m ≤ 20) := ⟨_, rfl, by split <;> split <;> omega⟩
  obtain ⟨ρ', e, r', hr1, hr2⟩ := loopI (P := fun _ ρ => ∃ r, ρ = some (.fz (.scr (ns.map .int))) :: (r ++ [none, none]) ∧ r.length = 11) (tg := gNm 1) (L := Llaw_4) (d := 0) (B := 0) (lo := 0) (hi := 100) (by decide) (fun kk t n ρ h0 h1 hI _ => cell_step ns kk t h0 h1 ρ hI) m.toNat 0 0 _ (by decide) (by omega) ⟨[none, none, none, none, none, none, none, none, none, none, none], rfl, rfl⟩ (by omega)
  subst hr1
  simp only [List.cons_append, List.nil_append] at e
  revert e
  generalize Llaw_4 = f1
  intro e
  simp (maxSteps := 20000000) (disch := (first | assumption | omega | (simp only [List.length_cons, List.length_nil, List.length_append, List.length_map, SZ]; done) | (simp only [List.length_cons, List.length_nil, List.length_append, List.length_map, SZ]; omega))) only [EVA, ev_it, ev_if_f, List.getElem?_cons_zero, List.getElem?_cons_succ, List.set_cons_zero, List.set_cons_succ, Bool.and_true, Bool.true_and, Bool.or_true, Bool.true_or, Bool.or_false, Bool.false_or, Bool.and_false, Bool.false_and, Bool.not_true, Bool.not_false, List.length_cons, List.length_nil, List.map_cons, List.map_nil, List.replicate_succ, List.replicate_zero, List.cons_append, List.nil_append, if_true, if_false, Nat.reduceAdd, Nat.reduceEqDiff, beq_self_eq_true, reduceIte, Nat.zero_add, eq_self, SZ, List.contains_cons, List.contains_nil, Nat.reduceBEq, Nat.reduceLT, Nat.reduceLeDiff, Int.reduceToNat, Int.reducePow, Int.reduceAdd, Int.reduceSub, Int.reduceMul, Int.reduceNeg, Int.reduceLT, Int.reduceLE, Int.reduceEq, Int.reduceDiv, Int.reduceMod, Option.map_some, Option.map_none, hm, e]
  exact ⟨_, rfl⟩

end G

namespace G
open PySem PySem.Spec PyProof.Rows L2 Mi
def top (i : Nat) : Stmt := PySem.Challenge.pw_swingposts_k35_before_by_search.main.body.getD i (.Pass ⟨0, 0, 0, 0⟩)
/-! ### what is known of the names -/
structure Fc (K : PySem.W.Frag) (mg : Str → Option Value) : Prop where
  b_all : mg "all" = none
  b_bool : mg "bool" = none
  b_int : mg "int" = none
  b_isinstance : mg "isinstance" = none
  b_len : mg "len" = none
  b_list : mg "list" = none
  b_max : mg "max" = none
  b_min : mg "min" = none
  b_range : mg "range" = none
  b_str : mg "str" = none
  b_sum : mg "sum" = none
  b_tuple : mg "tuple" = none
  b_zip : mg "zip" = none
  c_LEFT_posts : ∃ t, mg "LEFT_posts" = some (.str "L" t)
  c_LEFT_walks : ∃ t, mg "LEFT_walks" = some (.str "L" t)
  c_LIMIT : ∃ t, mg "LIMIT" = some (.int 200 t)
  c_RIGHT_posts : ∃ t, mg "RIGHT_posts" = some (.str "R" t)
  c_RIGHT_walks : ∃ t, mg "RIGHT_walks" = some (.str "R" t)
  g_InvalidNumber : mg "InvalidNumber" = some (.ref (He.ga K "InvalidNumber"))
  g_InvalidPlace : mg "InvalidPlace" = some (.ref (He.ga K "InvalidPlace"))
  g_InvalidPosts : mg "InvalidPosts" = some (.ref (He.ga K "InvalidPosts"))
  x_InvalidNumber : ExcF K mg "InvalidNumber"
  x_InvalidPlace : ExcF K mg "InvalidPlace"
  x_InvalidPosts : ExcF K mg "InvalidPosts"
  g__law_bag : mg "_law_bag" = some (.ref (He.ga K "_law_bag"))
  d__law_bag : ∃ fd, FunD K "_law_bag" "_law_bag" (defArgs (top 38)) (defBody (top 38)) (defScope (top 38)) [] [] (He.ga K "_law_bag") fd
  g__law_cell_at : mg "_law_cell_at" = some (.ref (He.ga K "_law_cell_at"))
  d__law_cell_at : ∃ fd, FunD K "_law_cell_at" "_law_cell_at" (defArgs (top 36)) (defBody (top 36)) (defScope (top 36)) [] [] (He.ga K "_law_cell_at") fd
  g__law_joined : mg "_law_joined" = some (.ref (He.ga K "_law_joined"))
  d__law_joined : ∃ fd, FunD K "_law_joined" "_law_joined" (defArgs (top 40)) (defBody (top 40)) (defScope (top 40)) [] [] (He.ga K "_law_joined") fd
  g__law_line : mg "_law_line" = some (.ref (He.ga K "_law_line"))
  d__law_line : ∃ fd, FunD K "_law_line" "_law_line" (defArgs (top 42)) (defBody (top 42)) (defScope (top 42)) [] [] (He.ga K "_law_line") fd
  g__law_same : mg "_law_same" = some (.ref (He.ga K "_law_same"))
  d__law_same : ∃ fd, FunD K "_law_same" "_law_same" (defArgs (top 37)) (defBody (top 37)) (defScope (top 37)) [] [] (He.ga K "_law_same") fd
  g__law_take : mg "_law_take" = some (.ref (He.ga K "_law_take"))
  d__law_take : ∃ fd, FunD K "_law_take" "_law_take" (defArgs (top 39)) (defBody (top 39)) (defScope (top 39)) [] [] (He.ga K "_law_take") fd
  g__law_sides : mg "_law_sides" = some (.ref (He.ga K "_law_sides"))
  d__law_sides : ∃ fd, FunD K "_law_sides" "_law_sides" (defArgs (top 41)) (defBody (top 41)) (defScope (top 41)) [] [] (He.ga K "_law_sides") fd
  g__law_texts : mg "_law_texts" = some (.ref (He.ga K "_law_texts"))
  d__law_texts : ∃ fd, FunD K "_law_texts" "_law_texts" (defArgs (top 44)) (defBody (top 44)) (defScope (top 44)) [] [] (He.ga K "_law_texts") fd
  g__law_walk : mg "_law_walk" = some (.ref (He.ga K "_law_walk"))
  d__law_walk : ∃ fd, FunD K "_law_walk" "_law_walk" (defArgs (top 43)) (defBody (top 43)) (defScope (top 43)) [] [] (He.ga K "_law_walk") fd
  g_borders : mg "borders" = some (.ref (He.ga K "borders"))
  d_borders : ∃ fd, FunD K "borders" "borders" (defArgs (top 21)) (defBody (top 21)) (defScope (top 21)) [] [] (He.ga K "borders") fd
  g_count_posts : mg "count_posts" = some (.ref (He.ga K "count_posts"))
  d_count_posts : ∃ fd, FunD K "count_posts" "count_posts" (defArgs (top 14)) (defBody (top 14)) (defScope (top 14)) [] [] (He.ga K "count_posts") fd
  g_is_integer : mg "is_integer" = some (.ref (He.ga K "is_integer"))
  d_is_integer : ∃ fd, FunD K "is_integer" "is_integer" (defArgs (top 9)) (defBody (top 9)) (defScope (top 9)) [] [] (He.ga K "is_integer") fd
  g_is_place : mg "is_place" = some (.ref (He.ga K "is_place"))
  d_is_place : ∃ fd, FunD K "is_place" "is_place" (defArgs (top 15)) (defBody (top 15)) (defScope (top 15)) [] [] (He.ga K "is_place") fd
  g_check_place : mg "check_place" = some (.ref (He.ga K "check_place"))
  d_check_place : ∃ fd, FunD K "check_place" "check_place" (defArgs (top 16)) (defBody (top 16)) (defScope (top 16)) [] [] (He.ga K "check_place") fd
  g_is_side : mg "is_side" = some (.ref (He.ga K "is_side"))
  d_is_side : ∃ fd, FunD K "is_side" "is_side" (defArgs (top 10)) (defBody (top 10)) (defScope (top 10)) [] [] (He.ga K "is_side") fd
  g_is_run : mg "is_run" = some (.ref (He.ga K "is_run"))
  d_is_run : ∃ fd, FunD K "is_run" "is_run" (defArgs (top 11)) (defBody (top 11)) (defScope (top 11)) [] [] (He.ga K "is_run") fd
  g_is_posts : mg "is_posts" = some (.ref (He.ga K "is_posts"))
  d_is_posts : ∃ fd, FunD K "is_posts" "is_posts" (defArgs (top 12)) (defBody (top 12)) (defScope (top 12)) [] [] (He.ga K "is_posts") fd
  g_check_posts : mg "check_posts" = some (.ref (He.ga K "check_posts"))
  d_check_posts : ∃ fd, FunD K "check_posts" "check_posts" (defArgs (top 13)) (defBody (top 13)) (defScope (top 13)) [] [] (He.ga K "check_posts") fd
  g_can_be_before : mg "can_be_before" = some (.ref (He.ga K "can_be_before"))
  d_can_be_before : ∃ fd, FunD K "can_be_before" "can_be_before" (defArgs (top 31)) (defBody (top 31)) (defScope (top 31)) [] [] (He.ga K "can_be_before") fd
  g_check_limit : mg "check_limit" = some (.ref (He.ga K "check_limit"))
  d_check_limit : ∃ fd, FunD K "check_limit" "check_limit" (defArgs (top 28)) (defBody (top 28)) (defScope (top 28)) [] [] (He.ga K "check_limit") fd
  g_doubled : mg "doubled" = some (.ref (He.ga K "doubled"))
  d_doubled : ∃ fd, FunD K "doubled" "doubled" (defArgs (top 27)) (defBody (top 27)) (defScope (top 27)) [] [] (He.ga K "doubled") fd
  g_count_all_before : mg "count_all_before" = some (.ref (He.ga K "count_all_before"))
  d_count_all_before : ∃ fd, FunD K "count_all_before" "count_all_before" (defArgs (top 33)) (defBody (top 33)) (defScope (top 33)) [] [] (He.ga K "count_all_before") fd
  g_ways : mg "ways" = some (.ref (He.ga K "ways"))
  d_ways : ∃ fd, FunD K "ways" "ways" (defArgs (top 26)) (defBody (top 26)) (defScope (top 26)) [] [] (He.ga K "ways") fd
  g_numbers_before : mg "numbers_before" = some (.ref (He.ga K "numbers_before"))
  d_numbers_before : ∃ fd, FunD K "numbers_before" "numbers_before" (defArgs (top 29)) (defBody (top 29)) (defScope (top 29)) [] [] (He.ga K "numbers_before") fd
  g_count_before : mg "count_before" = some (.ref (He.ga K "count_before"))
  d_count_before : ∃ fd, FunD K "count_before" "count_before" (defArgs (top 32)) (defBody (top 32)) (defScope (top 32)) [] [] (He.ga K "count_before") fd
  g_check_index : mg "check_index" = some (.ref (He.ga K "check_index"))
  d_check_index : ∃ fd, FunD K "check_index" "check_index" (defArgs (top 23)) (defBody (top 23)) (defScope (top 23)) [] [] (He.ga K "check_index") fd
  g_joined : mg "joined" = some (.ref (He.ga K "joined"))
  d_joined : ∃ fd, FunD K "joined" "joined" (defArgs (top 17)) (defBody (top 17)) (defScope (top 17)) [] [] (He.ga K "joined") fd
  g_nth_sides : mg "nth_sides" = some (.ref (He.ga K "nth_sides"))
  d_nth_sides : ∃ fd, FunD K "nth_sides" "nth_sides" (defArgs (top 30)) (defBody (top 30)) (defScope (top 30)) [] [] (He.ga K "nth_sides") fd
  g_nth_before : mg "nth_before" = some (.ref (He.ga K "nth_before"))
  d_nth_before : ∃ fd, FunD K "nth_before" "nth_before" (defArgs (top 34)) (defBody (top 34)) (defScope (top 34)) [] [] (He.ga K "nth_before") fd
  g_law : mg "law" = some (.ref (He.ga K "law"))
  d_law : ∃ fd, FunD K "law" "law" (defArgs (top 45)) (defBody (top 45)) (defScope (top 45)) [] [] (He.ga K "law") fd
section
variable {P : Program} {w : World} {K : PySem.W.Frag} {mg : Str → Option Value} {base : Heap}
theorem sc__law_bag : FnScope ["cell", "k"] ["cell", "k"] (defScope (top 38)) := ⟨rfl, rfl, rfl, by decide +kernel, rfl, by decide +kernel, by decide +kernel⟩
theorem ok__law_bag (C : Fc K mg) : FnK P w K mg base 1 2 "_law_bag" ["cell", "k"] [] F_law_bag := by
  obtain ⟨fd, F⟩ := C.d__law_bag
  have hN := sc__law_bag.nd
  refine fnK_of F C.g__law_bag sc__law_bag (n := 2) (k := 0) rfl rfl (F.bindsN fun _ _ _ _ _ _ us hl => match us, hl with | [_, _], _ => rfl) (fun q hq => by cases hq) (lev := 0) (m := B_law_bag) fun cdv A outer s H E io hr => ?_
  have tk := bx_takes (P := P) (w := w) (K := K) (mg := mg) (base := base) (N := ["cell", "k"]) (qual := "_law_bag") (scope := defScope (top 38)) (f := He.ga K "_law_bag") (cdv := cdv) (A := A) (outer := outer) (s := s) (H := H) (E := E)
  have hp := bx_passes (P := P) (w := w) (K := K) (mg := mg) (base := base) (N := ["cell", "k"]) (qual := "_law_bag") (scope := defScope (top 38)) (f := He.ga K "_law_bag") (cdv := cdv) (A := A) (outer := outer) (s := s) (H := H) (E := E)
  exact (jss_cons (js_ret (je_lst (jes_cons (je_callB (call_max2 rfl) ok_max2 C.b_max (by decide +kernel) (jos_cons (jo_e je_int) (jos_cons (jo_e (je_op op_sub ok_sub (jo_v 0) (jo_e (je_op op_powX ok_pow (jo_e je_int) (jo_e je_int))))) jos_nil))) (jes_cons (je_op opr_add ok_add (jo_e (je_op op_mod ok_mod (jo_v 0) (jo_e je_int))) (jo_e (je_op opr_mul ok_mul (jo_e je_int) (jo_e (je_op opr_add ok_add (jo_v 1) (jo_e je_int)))))) (jes_cons je_int jes_nil)))))
 jss_nil)
theorem sc__law_cell_at : FnScope ["script", "k"] ["script", "k"] (defScope (top 36)) := ⟨rfl, rfl, rfl, by decide +kernel, rfl, by decide +kernel, by decide +kernel⟩
theorem ok__law_cell_at (C : Fc K mg) : FnK P w K mg base 1 2 "_law_cell_at" ["script", "k"] [] F_law_cell_at := by
  obtain ⟨fd, F⟩ := C.d__law_cell_at
  have hN := sc__law_cell_at.nd
  refine fnK_of F C.g__law_cell_at sc__law_cell_at (n := 2) (k := 0) rfl rfl (F.bindsN fun _ _ _ _ _ _ us hl => match us, hl with | [_, _], _ => rfl) (fun q hq => by cases hq) (lev := 0) (m := B_law_cell_at) fun cdv A outer s H E io hr => ?_
  have tk := bx_takes (P := P) (w := w) (K := K) (mg := mg) (base := base) (N := ["script", "k"]) (qual := "_law_cell_at") (scope := defScope (top 36)) (f := He.ga K "_law_cell_at") (cdv := cdv) (A := A) (outer := outer) (s := s) (H := H) (E := E)
  have hp := bx_passes (P := P) (w := w) (K := K) (mg := mg) (base := base) (N := ["script", "k"]) (qual := "_law_cell_at") (scope := defScope (top 36)) (f := He.ga K "_law_cell_at") (cdv := cdv) (A := A) (outer := outer) (s := s) (H := H) (E := E)
  exact (jss_cons (js_if (jt_cmp op_lt ok_cmp (nomark _) (jo_v 1) (jo_e (je_callB call_len ok_len C.b_len (by decide +kernel) (jos_cons (jo_v 0) jos_nil)))) (jss_cons (js_ret (je_ix ix_seq ok_ix (jo_v 0) (jo_v 1)))
 jss_nil) jss_nil)
 (jss_cons (js_ret je_int)
 jss_nil))
theorem sc__law_joined : FnScope ["runs", "found", "side", "many"] ["runs"] (defScope (top 40)) := ⟨rfl, rfl, rfl, by decide +kernel, rfl, by decide +kernel, by decide +kernel⟩
theorem ok__law_joined (C : Fc K mg) : FnK P w K mg base 1 1 "_law_joined" ["runs"] [] F_law_joined := by
  obtain ⟨fd, F⟩ := C.d__law_joined
  have hN := sc__law_joined.nd
  refine fnK_of F C.g__law_joined sc__law_joined (n := 1) (k := 3) rfl rfl (F.bindsN fun _ _ _ _ _ _ us hl => match us, hl with | [_], _ => rfl) (fun q hq => by cases hq) (lev := 0) (m := B_law_joined) fun cdv A outer s H E io hr => ?_
  have tk := bx_takes (P := P) (w := w) (K := K) (mg := mg) (base := base) (N := ["runs", "found", "side", "many"]) (qual := "_law_joined") (scope := defScope (top 40)) (f := He.ga K "_law_joined") (cdv := cdv) (A := A) (outer := outer) (s := s) (H := H) (E := E)
  have hp := bx_passes (P := P) (w := w) (K := K) (mg := mg) (base := base) (N := ["runs", "found", "side", "many"]) (qual := "_law_joined") (scope := defScope (top 40)) (f := He.ga K "_law_joined") (cdv := cdv) (A := A) (outer := outer) (s := s) (H := H) (E := E)
  exact (jss_cons (js_set 1 hN (je_lst jes_nil))
 (jss_cons (js_for hp rfl (ji_seq (je_var 0)) (jg_seq rfl (jgs_cons (jg_name 2 hN) (jgs_cons (jg_name 3 hN) jgs_nil))) (jss_cons (js_if (jw_and (jt_cmp op_gt ok_cmp (nomark _) (jo_v 3) (jo_e je_int)) (jw_and (jt_cmp (op_neD (u64 hr)) ok_ne (nomark _) (jo_v 1) (jo_e (je_lst jes_nil))) (jw_and1 (jt_cmp (op_eqD (u64 hr)) ok_eq (nomark _) (jo_e (je_ix ix_seq ok_ix (jo_e (je_ix ix_seq ok_ix (jo_v 1) (jo_e (je_un un_neg ok_neg (jo_e je_int))))) (jo_e je_int))) (jo_v 2))))).jt (jss_cons (js_setix 1 (isV 1) (je_un un_neg ok_neg (jo_e je_int)) (je_tup (jes_cons (je_var 2) (jes_cons (je_op opr_add ok_add (jo_e (je_ix ix_seq ok_ix (jo_e (je_ix ix_seq ok_ix (jo_v 1) (jo_e (je_un un_neg ok_neg (jo_e je_int))))) (jo_e je_int))) (jo_v 3)) jes_nil))))
 jss_nil) (jss_cons (js_if (jt_cmp op_gt ok_cmp (nomark _) (jo_v 3) (jo_e je_int)) (jss_cons (js_expr (je_append 1 (isV 1) (je_tup (jes_cons (je_var 2) (jes_cons (je_var 3) jes_nil)))))
 jss_nil) jss_nil)
 jss_nil))
 jss_nil))
 (jss_cons (js_ret (je_callTy call_tuple_of ok_tuple C.b_tuple (by decide +kernel) (jos_cons (jo_v 1) jos_nil)))
 jss_nil)))
theorem sc__law_line : FnScope ["sides", "side"] ["sides"] (defScope (top 42)) := ⟨rfl, rfl, rfl, by decide +kernel, rfl, by decide +kernel, by decide +kernel⟩
theorem ok__law_line (C : Fc K mg) : FnK P w K mg base 2 1 "_law_line" ["sides"] [] F_law_line := by
  obtain ⟨fd, F⟩ := C.d__law_line
  have hN := sc__law_line.nd
  refine fnK_of F C.g__law_line sc__law_line (n := 1) (k := 1) rfl rfl (F.bindsN fun _ _ _ _ _ _ us hl => match us, hl with | [_], _ => rfl) (fun q hq => by cases hq) (lev := 1) (m := B_law_line) fun cdv A outer s H E io hr => ?_
  have tk := bx_takes (P := P) (w := w) (K := K) (mg := mg) (base := base) (N := ["sides", "side"]) (qual := "_law_line") (scope := defScope (top 42)) (f := He.ga K "_law_line") (cdv := cdv) (A := A) (outer := outer) (s := s) (H := H) (E := E)
  have hp := bx_passes (P := P) (w := w) (K := K) (mg := mg) (base := base) (N := ["sides", "side"]) (qual := "_law_line") (scope := defScope (top 42)) (f := He.ga K "_law_line") (cdv := cdv) (A := A) (outer := outer) (s := s) (H := H) (E := E)
  exact (jss_cons (js_ret (je_callF tk (ok__law_joined C) hr (by decide) (jos_cons (jo_e (je_comp rfl hN [("side", 1)] (ji_seq (je_var 0)) (blkOk_by (by kernel_rfl)) (fun _ _ _ _ _ => ⟨(jgw_name 1 hN), jts_nil, (je_tup (jes_cons (je_var 1) (jes_cons je_int jes_nil)))⟩))) jos_nil) rfl))
 jss_nil)
theorem sc__law_same : FnScope ["found", "due", "k"] ["found", "due"] (defScope (top 37)) := ⟨rfl, rfl, rfl, by decide +kernel, rfl, by decide +kernel, by decide +kernel⟩
theorem okr__law_same (C : Fc K mg) : ∀ t : Nat, FnK P w K mg base (0 + t) 2 "_law_same" ["found", "due"] [] (R_law_same t)
  | 0 => fnK_none C.d__law_same C.g__law_same rfl (fun _ F => F.bindsN fun _ _ _ _ _ _ us hl => match us, hl with | [_, _], _ => rfl) (fun _ F => fun q hq => by cases hq)
  | t + 1 => by
    have hself := okr__law_same C t
    obtain ⟨fd, F⟩ := C.d__law_same
    have hN := sc__law_same.nd
    refine fnK_of F C.g__law_same sc__law_same (n := 2) (k := 1) rfl rfl (F.bindsN fun _ _ _ _ _ _ us hl => match us, hl with | [_, _], _ => rfl) (fun q hq => by cases hq) (lev := 0 + t) (m := B_law_same (R_law_same t)) fun cdv A outer s H E io hr => ?_
    have tk := bx_takes (P := P) (w := w) (K := K) (mg := mg) (base := base) (N := ["found", "due", "k"]) (qual := "_law_same") (scope := defScope (top 37)) (f := He.ga K "_law_same") (cdv := cdv) (A := A) (outer := outer) (s := s) (H := H) (E := E)
    have hp := bx_passes (P := P) (w := w) (K := K) (mg := mg) (base := base) (N := ["found", "due", "k"]) (qual := "_law_same") (scope := defScope (top 37)) (f := He.ga K "_law_same") (cdv := cdv) (A := A) (outer := outer) (s := s) (H := H) (E := E)
    exact (jss_cons (js_if (jt_val (jo_e (je_isiT C.b_isinstance (jo_v 1) (ists_cons (isT C.b_list (by decide +kernel)) (ists_cons (isT C.b_tuple (by decide +kernel)) ists_nil))))) (jss_cons (js_if (jw_or (jt_cmp (op_neD (u64 hr)) ok_ne (nomark _) (jo_e (je_isi C.b_isinstance (jo_v 0) (isT C.b_list (by decide +kernel)))) (jo_e (je_isi C.b_isinstance (jo_v 1) (isT C.b_list (by decide +kernel))))) (jw_or1 (jt_not (jt_val (jo_e (je_isiT C.b_isinstance (jo_v 0) (ists_cons (isT C.b_list (by decide +kernel)) (ists_cons (isT C.b_tuple (by decide +kernel)) ists_nil)))))))).jt (jss_cons (js_ret je_bl)
 jss_nil) jss_nil)
 (jss_cons (js_if (jt_cmp (op_neD (u64 hr)) ok_ne (nomark _) (jo_e (je_callB call_len ok_len C.b_len (by decide +kernel) (jos_cons (jo_v 0) jos_nil))) (jo_e (je_callB call_len ok_len C.b_len (by decide +kernel) (jos_cons (jo_v 1) jos_nil)))) (jss_cons (js_ret je_bl)
 jss_nil) jss_nil)
 (jss_cons (js_ret (je_callB (cr_all rfl) ok_all C.b_all (by decide +kernel) (jos_cons (jo_e (je_comp rfl hN [("k", 2)] (ji_range1 C.b_range (jes_cons (je_callB call_len ok_len C.b_len (by decide +kernel) (jos_cons (jo_v 1) jos_nil)) jes_nil)) (blkOk_by (by kernel_rfl)) (fun _ _ _ _ _ => ⟨(jgw_name 2 hN), jts_nil, (je_callF takes0 hself hr (by omega) (jos_cons (jo_e (je_ix ix_seq ok_ix (jo_v 0) (jo_v 2))) (jos_cons (jo_e (je_ix ix_seq ok_ix (jo_v 1) (jo_v 2))) jos_nil)) rfl)⟩))) jos_nil)))
 jss_nil))) jss_nil)
 (jss_cons (js_if (jw_or (jt_cmp op_is2 ok_is2 (nomark _) (jo_v 1) (jo_e je_non)) (jw_or1 (jt_cmp op_is2 ok_is2 (nomark _) (jo_v 0) (jo_e je_non)))).jt (jss_cons (js_ret (je_and (je_cmp op_is2 ok_is2 (nomark _) (jo_v 1) (jo_e je_non)) (je_one (je_cmp op_is2 ok_is2 (nomark _) (jo_v 0) (jo_e je_non)))))
 jss_nil) jss_nil)
 (jss_cons (js_if (jw_or (jt_val (jo_e (je_isi C.b_isinstance (jo_v 1) (isT C.b_bool (by decide +kernel))))) (jw_or1 (jt_val (jo_e (je_isi C.b_isinstance (jo_v 0) (isT C.b_bool (by decide +kernel))))))).jt (jss_cons (js_ret (je_and (je_isi C.b_isinstance (jo_v 1) (isT C.b_bool (by decide +kernel))) (je_and (je_isi C.b_isinstance (jo_v 0) (isT C.b_bool (by decide +kernel))) (je_one (je_cmp (op_eqD (u64 hr)) ok_eq (nomark _) (jo_v 0) (jo_v 1))))))
 jss_nil) jss_nil)
 (jss_cons (js_ret (je_cmp (op_eqD (u64 hr)) ok_eq (nomark _) (jo_v 0) (jo_v 1)))
 jss_nil))))
theorem ok__law_same (C : Fc K mg) : FnK P w K mg base 8 2 "_law_same" ["found", "due"] [] F_law_same := okr__law_same C 8
theorem sc__law_take : FnScope ["bag", "limit", "found", "mixed"] ["bag", "limit"] (defScope (top 39)) := ⟨rfl, rfl, rfl, by decide +kernel, rfl, by decide +kernel, by decide +kernel⟩
theorem ok__law_take (C : Fc K mg) : FnK P w K mg base 1 2 "_law_take" ["bag", "limit"] [] F_law_take := by
  obtain ⟨fd, F⟩ := C.d__law_take
  have hN := sc__law_take.nd
  refine fnK_of F C.g__law_take sc__law_take (n := 2) (k := 2) rfl rfl (F.bindsN fun _ _ _ _ _ _ us hl => match us, hl with | [_, _], _ => rfl) (fun q hq => by cases hq) (lev := 0) (m := B_law_take) fun cdv A outer s H E io hr => ?_
  have tk := bx_takes (P := P) (w := w) (K := K) (mg := mg) (base := base) (N := ["bag", "limit", "found", "mixed"]) (qual := "_law_take") (scope := defScope (top 39)) (f := He.ga K "_law_take") (cdv := cdv) (A := A) (outer := outer) (s := s) (H := H) (E := E)
  have hp := bx_passes (P := P) (w := w) (K := K) (mg := mg) (base := base) (N := ["bag", "limit", "found", "mixed"]) (qual := "_law_take") (scope := defScope (top 39)) (f := He.ga K "_law_take") (cdv := cdv) (A := A) (outer := outer) (s := s) (H := H) (E := E)
  exact (jss_cons (js_if (jt_cmp op_gt ok_cmp (nomark _) (jo_e (je_ix ix_seq ok_ix (jo_v 0) (jo_e je_int))) (jo_e je_int)) (jss_cons (js_set 2 hN (je_op op_mod ok_mod (jo_e (je_ix ix_seq ok_ix (jo_v 0) (jo_e je_int))) (jo_v 1)))
 (jss_cons (js_setix 0 (isV 0) je_int (je_op op_fdivW ok_fdiv (jo_e (je_ix ix_seq ok_ix (jo_v 0) (jo_e je_int))) (jo_v 1)))
 (jss_cons (js_ret (je_move 2))
 jss_nil))) jss_nil)
 (jss_cons (js_setix 0 (isV 0) je_int (je_op opr_add ok_add (jo_e (je_ix ix_seq ok_ix (jo_v 0) (jo_e je_int))) (jo_e je_int)))
 (jss_cons (js_set 3 hN (je_op op_mod ok_mod (jo_e (je_op op_powX ok_pow (jo_e (je_op opr_add ok_add (jo_e (je_ix ix_seq ok_ix (jo_v 0) (jo_e je_int))) (jo_e (je_op opr_mul ok_mul (jo_e je_int) (jo_e (je_ix ix_seq ok_ix (jo_v 0) (jo_e je_int))))))) (jo_e je_int))) (jo_e je_int)))
 (jss_cons (js_set 3 hN (je_op op_mod ok_mod (jo_e (je_op op_powX ok_pow (jo_e (je_op opr_add ok_add (jo_v 3) (jo_e (je_op opr_mul ok_mul (jo_e je_int) (jo_e (je_ix ix_seq ok_ix (jo_v 0) (jo_e je_int))))))) (jo_e je_int))) (jo_e je_int)))
 (jss_cons (js_ret (je_op op_mod ok_mod (jo_e (je_op op_fdivW ok_fdiv (jo_v 3) (jo_e je_int))) (jo_v 1)))
 jss_nil)))))
theorem sc__law_sides : FnScope ["bag", "most", "size", "style", "cut", "found", "draw", "again", "some"] ["bag", "most"] (defScope (top 41)) := ⟨rfl, rfl, rfl, by decide +kernel, rfl, by decide +kernel, by decide +kernel⟩
theorem ok__law_sides (C : Fc K mg) : FnK P w K mg base 2 2 "_law_sides" ["bag", "most"] [] F_law_sides := by
  obtain ⟨fd, F⟩ := C.d__law_sides
  have hN := sc__law_sides.nd
  refine fnK_of F C.g__law_sides sc__law_sides (n := 2) (k := 7) rfl rfl (F.bindsN fun _ _ _ _ _ _ us hl => match us, hl with | [_, _], _ => rfl) (fun q hq => by cases hq) (lev := 1) (m := B_law_sides) fun cdv A outer s H E io hr => ?_
  have tk := bx_takes (P := P) (w := w) (K := K) (mg := mg) (base := base) (N := ["bag", "most", "size", "style", "cut", "found", "draw", "again", "some"]) (qual := "_law_sides") (scope := defScope (top 41)) (f := He.ga K "_law_sides") (cdv := cdv) (A := A) (outer := outer) (s := s) (H := H) (E := E)
  have hp := bx_passes (P := P) (w := w) (K := K) (mg := mg) (base := base) (N := ["bag", "most", "size", "style", "cut", "found", "draw", "again", "some"]) (qual := "_law_sides") (scope := defScope (top 41)) (f := He.ga K "_law_sides") (cdv := cdv) (A := A) (outer := outer) (s := s) (H := H) (E := E)
  exact (jss_cons (js_par (i := 2) (j := 3) rfl hN (je_op opr_add ok_add (jo_e je_int) (jo_e (je_callF tk (ok__law_take C) hr (by decide) (jos_cons (jo_v 0) (jos_cons (jo_e (je_var 1)) jos_nil)) rfl))) (je_callF tk (ok__law_take C) hr (by decide) (jos_cons (jo_v 0) (jos_cons (jo_e je_int) jos_nil)) rfl))
 (jss_cons (js_par (i := 4) (j := 5) rfl hN (je_callF tk (ok__law_take C) hr (by decide) (jos_cons (jo_v 0) (jos_cons (jo_e (je_op opr_add ok_add (jo_v 2) (jo_e je_int))) jos_nil)) rfl) (je_lst jes_nil))
 (jss_cons (js_while hp (jt_cmp op_lt ok_cmp (nomark _) (jo_e (je_callB call_len ok_len C.b_len (by decide +kernel) (jos_cons (jo_v 5) jos_nil))) (jo_v 2)) (jss_cons (js_par (i := 6) (j := 7) rfl hN (je_ix ix_seq ok_ix (jo_e je_str) (jo_e (je_callF tk (ok__law_take C) hr (by decide) (jos_cons (jo_v 0) (jos_cons (jo_e je_int) jos_nil)) rfl))) (je_cmp op_gt ok_cmp (nomark _) (jo_e (je_callF tk (ok__law_take C) hr (by decide) (jos_cons (jo_v 0) (jos_cons (jo_e je_int) jos_nil)) rfl)) (jo_e je_int)))
 (jss_cons (js_set 8 hN (je_lst (jes_cons (je_var 6) (jes_cons (je_ix ix_seq ok_ix (jo_e je_str) (jo_e (je_op op_mod ok_mod (jo_e (je_callB call_len ok_len C.b_len (by decide +kernel) (jos_cons (jo_v 5) jos_nil))) (jo_e je_int)))) (jes_cons (je_ix ix_seq ok_ix (jo_e je_str) (jo_e (je_callTy call_int1 ok_int C.b_int (by decide +kernel) (jos_cons (jo_e (je_cmp op_ge ok_cmp (nomark _) (jo_e (je_callB call_len ok_len C.b_len (by decide +kernel) (jos_cons (jo_v 5) jos_nil))) (jo_v 4))) jos_nil)))) (jes_cons (je_var 6) jes_nil))))))
 (jss_cons (js_if (jw_and (jt_cmp (op_eqD (u64 hr)) ok_eq (nomark _) (jo_v 3) (jo_e je_int)) (jw_and (jt_val (jo_v 7)) (jw_and1 (jt_cmp (op_neD (u64 hr)) ok_ne (nomark _) (jo_v 5) (jo_e (je_lst jes_nil)))))).jt (jss_cons (js_setix 8 (isV 8) je_int (je_ix ix_seq ok_ix (jo_v 5) (jo_e (je_un un_neg ok_neg (jo_e je_int)))))
 jss_nil) jss_nil)
 (jss_cons (js_expr (je_append 5 (isV 5) (je_ix ix_seq ok_ix (jo_v 8) (jo_v 3))))
 jss_nil)))))
 (jss_cons (js_ret (je_move 5))
 jss_nil))))
theorem sc__law_texts : FnScope ["size", "found", "turn", "text"] ["size"] (defScope (top 44)) := ⟨rfl, rfl, rfl, by decide +kernel, rfl, by decide +kernel, by decide +kernel⟩
theorem ok__law_texts (C : Fc K mg) : FnK P w K mg base 1 1 "_law_texts" ["size"] [] F_law_texts := by
  obtain ⟨fd, F⟩ := C.d__law_texts
  have hN := sc__law_texts.nd
  refine fnK_of F C.g__law_texts sc__law_texts (n := 1) (k := 3) rfl rfl (F.bindsN fun _ _ _ _ _ _ us hl => match us, hl with | [_], _ => rfl) (fun q hq => by cases hq) (lev := 0) (m := B_law_texts) fun cdv A outer s H E io hr => ?_
  have tk := bx_takes (P := P) (w := w) (K := K) (mg := mg) (base := base) (N := ["size", "found", "turn", "text"]) (qual := "_law_texts") (scope := defScope (top 44)) (f := He.ga K "_law_texts") (cdv := cdv) (A := A) (outer := outer) (s := s) (H := H) (E := E)
  have hp := bx_passes (P := P) (w := w) (K := K) (mg := mg) (base := base) (N := ["size", "found", "turn", "text"]) (qual := "_law_texts") (scope := defScope (top 44)) (f := He.ga K "_law_texts") (cdv := cdv) (A := A) (outer := outer) (s := s) (H := H) (E := E)
  exact (jss_cons (js_set 1 hN (je_lst (jes_cons je_str jes_nil)))
 (jss_cons (js_for hp rfl (ji_range1 C.b_range (jes_cons (je_var 0) jes_nil)) (jg_name 2 hN) (jss_cons (js_set 1 hN (je_op opr_add ok_add (jo_e (je_comp rfl hN [("text", 3)] (ji_seq (je_var 1)) (blkOk_by (by kernel_rfl)) (fun _ _ _ _ _ => ⟨(jgw_name 3 hN), jts_nil, (je_op opr_add ok_add (jo_e je_str) (jo_v 3))⟩))) (jo_e (je_comp rfl hN [("text", 3)] (ji_seq (je_var 1)) (blkOk_by (by kernel_rfl)) (fun _ _ _ _ _ => ⟨(jgw_name 3 hN), jts_nil, (je_op opr_add ok_add (jo_e je_str) (jo_v 3))⟩)))))
 jss_nil))
 (jss_cons (js_ret (je_move 1))
 jss_nil)))
theorem sc__law_walk : FnScope ["sides", "start", "found", "here", "many", "side"] ["sides", "start"] (defScope (top 43)) := ⟨rfl, rfl, rfl, by decide +kernel, rfl, by decide +kernel, by decide +kernel⟩
theorem ok__law_walk (C : Fc K mg) : FnK P w K mg base 1 2 "_law_walk" ["sides", "start"] [] F_law_walk := by
  obtain ⟨fd, F⟩ := C.d__law_walk
  have hN := sc__law_walk.nd
  refine fnK_of F C.g__law_walk sc__law_walk (n := 2) (k := 4) rfl rfl (F.bindsN fun _ _ _ _ _ _ us hl => match us, hl with | [_, _], _ => rfl) (fun q hq => by cases hq) (lev := 0) (m := B_law_walk) fun cdv A outer s H E io hr => ?_
  have tk := bx_takes (P := P) (w := w) (K := K) (mg := mg) (base := base) (N := ["sides", "start", "found", "here", "many", "side"]) (qual := "_law_walk") (scope := defScope (top 43)) (f := He.ga K "_law_walk") (cdv := cdv) (A := A) (outer := outer) (s := s) (H := H) (E := E)
  have hp := bx_passes (P := P) (w := w) (K := K) (mg := mg) (base := base) (N := ["sides", "start", "found", "here", "many", "side"]) (qual := "_law_walk") (scope := defScope (top 43)) (f := He.ga K "_law_walk") (cdv := cdv) (A := A) (outer := outer) (s := s) (H := H) (E := E)
  exact (jss_cons (js_par3 (i := 2) (j := 3) (l := 4) rfl hN (je_callTy call_list_of ok_list C.b_list (by decide +kernel) (jos_cons (jo_v 0) jos_nil)) (je_var 1) je_int)
 (jss_cons (js_while hp (jt_chain op_lt ok_cmp op_le ok_cmp (jo_e je_int) (jo_v 3) (jo_e (je_callB call_len ok_len C.b_len (by decide +kernel) (jos_cons (jo_v 2) jos_nil)))) (jss_cons (js_set 5 hN (je_ix ix_seq ok_ix (jo_v 2) (jo_e (je_op op_sub ok_sub (jo_v 3) (jo_e je_int)))))
 (jss_cons (js_setix 2 (isV 2) (je_op op_sub ok_sub (jo_v 3) (jo_e je_int)) (je_dget (u64 hr) (jo_e (je_disp (jds_str je_str (jds_str je_str jds_nil)))) (jo_v 5)))
 (jss_cons (js_set 3 hN (je_op opr_add ok_add (jo_v 3) (jo_e (je_dget (u64 hr) (jo_e (je_disp (jds_str (je_un un_neg ok_neg (jo_e je_int)) (jds_str je_int jds_nil)))) (jo_v 5)))))
 (jss_cons (js_set 4 hN (je_op opr_add ok_add (jo_v 4) (jo_e je_int)))
 jss_nil)))))
 (jss_cons (js_ret (je_tup (jes_cons (je_if (jt_cmp (op_eqD (u64 hr)) ok_eq (nomark _) (jo_v 3) (jo_e je_int)) je_str je_str) (jes_cons (je_var 2) (jes_cons (je_var 4) jes_nil)))))
 jss_nil)))
theorem sc_borders : FnScope ["goal"] ["goal"] (defScope (top 21)) := ⟨rfl, rfl, rfl, by decide +kernel, rfl, by decide +kernel, by decide +kernel⟩
theorem ok_borders (C : Fc K mg) : FnK P w K mg base 1 1 "borders" ["goal"] [] Fborders := by
  obtain ⟨fd, F⟩ := C.d_borders
  have hN := sc_borders.nd
  refine fnK_of F C.g_borders sc_borders (n := 1) (k := 0) rfl rfl (F.bindsN fun _ _ _ _ _ _ us hl => match us, hl with | [_], _ => rfl) (fun q hq => by cases hq) (lev := 0) (m := Bborders) fun cdv A outer s H E io hr => ?_
  have tk := bx_takes (P := P) (w := w) (K := K) (mg := mg) (base := base) (N := ["goal"]) (qual := "borders") (scope := defScope (top 21)) (f := He.ga K "borders") (cdv := cdv) (A := A) (outer := outer) (s := s) (H := H) (E := E)
  have hp := bx_passes (P := P) (w := w) (K := K) (mg := mg) (base := base) (N := ["goal"]) (qual := "borders") (scope := defScope (top 21)) (f := He.ga K "borders") (cdv := cdv) (A := A) (outer := outer) (s := s) (H := H) (E := E)
  exact (jss_cons (js_ret (je_tup (jes_cons (je_if (jt_cmp (op_eqD (u64 hr)) ok_eq (nomark _) (jo_e (je_ix ix_seq ok_ix (jo_e (je_ix ix_seq ok_ix (jo_v 0) (jo_e je_int))) (jo_e je_int))) (jo_e (je_gstr C.c_RIGHT_walks))) (je_ix ix_seq ok_ix (jo_e (je_ix ix_seq ok_ix (jo_v 0) (jo_e je_int))) (jo_e je_int)) je_int) (jes_cons (je_if (jt_cmp (op_eqD (u64 hr)) ok_eq (nomark _) (jo_e (je_ix ix_seq ok_ix (jo_e (je_ix ix_seq ok_ix (jo_v 0) (jo_e (je_un un_neg ok_neg (jo_e je_int))))) (jo_e je_int))) (jo_e (je_gstr C.c_LEFT_walks))) (je_ix ix_seq ok_ix (jo_e (je_ix ix_seq ok_ix (jo_v 0) (jo_e (je_un un_neg ok_neg (jo_e je_int))))) (jo_e je_int)) je_int) jes_nil))))
 jss_nil)
theorem sc_count_posts : FnScope ["posts", "side", "count"] ["posts"] (defScope (top 14)) := ⟨rfl, rfl, rfl, by decide +kernel, rfl, by decide +kernel, by decide +kernel⟩
theorem ok_count_posts (C : Fc K mg) : FnK P w K mg base 1 1 "count_posts" ["posts"] [] Fcount_posts := by
  obtain ⟨fd, F⟩ := C.d_count_posts
  have hN := sc_count_posts.nd
  refine fnK_of F C.g_count_posts sc_count_posts (n := 1) (k := 2) rfl rfl (F.bindsN fun _ _ _ _ _ _ us hl => match us, hl with | [_], _ => rfl) (fun q hq => by cases hq) (lev := 0) (m := Bcount_posts) fun cdv A outer s H E io hr => ?_
  have tk := bx_takes (P := P) (w := w) (K := K) (mg := mg) (base := base) (N := ["posts", "side", "count"]) (qual := "count_posts") (scope := defScope (top 14)) (f := He.ga K "count_posts") (cdv := cdv) (A := A) (outer := outer) (s := s) (H := H) (E := E)
  have hp := bx_passes (P := P) (w := w) (K := K) (mg := mg) (base := base) (N := ["posts", "side", "count"]) (qual := "count_posts") (scope := defScope (top 14)) (f := He.ga K "count_posts") (cdv := cdv) (A := A) (outer := outer) (s := s) (H := H) (E := E)
  exact (jss_cons (js_ret (je_callB (cr_sum rfl) ok_sum C.b_sum (by decide +kernel) (jos_cons (jo_e (je_comp rfl hN [("side", 1), ("count", 2)] (ji_seq (je_var 0)) (blkOk_by (by kernel_rfl)) (fun _ _ _ _ _ => ⟨(jgw_seq rfl (jgsw_cons (jgw_name 1 hN) (jgsw_cons (jgw_name 2 hN) jgsw_nil))), jts_nil, (je_var 2)⟩))) jos_nil)))
 jss_nil)
theorem sc_is_integer : FnScope ["value", "low"] ["value", "low"] (defScope (top 9)) := ⟨rfl, rfl, rfl, by decide +kernel, rfl, by decide +kernel, by decide +kernel⟩
theorem ok_is_integer (C : Fc K mg) : FnK P w K mg base 1 2 "is_integer" ["value", "low"] [] Fis_integer := by
  obtain ⟨fd, F⟩ := C.d_is_integer
  have hN := sc_is_integer.nd
  refine fnK_of F C.g_is_integer sc_is_integer (n := 2) (k := 0) rfl rfl (F.bindsN fun _ _ _ _ _ _ us hl => match us, hl with | [_, _], _ => rfl) (fun q hq => by cases hq) (lev := 0) (m := Bis_integer) fun cdv A outer s H E io hr => ?_
  have tk := bx_takes (P := P) (w := w) (K := K) (mg := mg) (base := base) (N := ["value", "low"]) (qual := "is_integer") (scope := defScope (top 9)) (f := He.ga K "is_integer") (cdv := cdv) (A := A) (outer := outer) (s := s) (H := H) (E := E)
  have hp := bx_passes (P := P) (w := w) (K := K) (mg := mg) (base := base) (N := ["value", "low"]) (qual := "is_integer") (scope := defScope (top 9)) (f := He.ga K "is_integer") (cdv := cdv) (A := A) (outer := outer) (s := s) (H := H) (E := E)
  exact (jss_cons (js_ret (je_and (je_isi C.b_isinstance (jo_v 0) (isT C.b_int (by decide +kernel))) (je_and (je_not (je_isi C.b_isinstance (jo_v 0) (isT C.b_bool (by decide +kernel)))) (je_one (je_cmp op_ge ok_cmp (nomark _) (jo_v 0) (jo_v 1))))))
 jss_nil)
theorem sc_is_place : FnScope ["posts", "value"] ["posts", "value"] (defScope (top 15)) := ⟨rfl, rfl, rfl, by decide +kernel, rfl, by decide +kernel, by decide +kernel⟩
theorem ok_is_place (C : Fc K mg) : FnK P w K mg base 2 2 "is_place" ["posts", "value"] [] Fis_place := by
  obtain ⟨fd, F⟩ := C.d_is_place
  have hN := sc_is_place.nd
  refine fnK_of F C.g_is_place sc_is_place (n := 2) (k := 0) rfl rfl (F.bindsN fun _ _ _ _ _ _ us hl => match us, hl with | [_, _], _ => rfl) (fun q hq => by cases hq) (lev := 1) (m := Bis_place) fun cdv A outer s H E io hr => ?_
  have tk := bx_takes (P := P) (w := w) (K := K) (mg := mg) (base := base) (N := ["posts", "value"]) (qual := "is_place") (scope := defScope (top 15)) (f := He.ga K "is_place") (cdv := cdv) (A := A) (outer := outer) (s := s) (H := H) (E := E)
  have hp := bx_passes (P := P) (w := w) (K := K) (mg := mg) (base := base) (N := ["posts", "value"]) (qual := "is_place") (scope := defScope (top 15)) (f := He.ga K "is_place") (cdv := cdv) (A := A) (outer := outer) (s := s) (H := H) (E := E)
  exact (jss_cons (js_ret (je_and (je_callF tk (ok_is_integer C) hr (by decide) (jos_cons (jo_e (je_var 1)) (jos_cons (jo_e je_int) jos_nil)) rfl) (je_one (je_cmp op_le ok_cmp (nomark _) (jo_v 1) (jo_e (je_callF tk (ok_count_posts C) hr (by decide) (jos_cons (jo_e (je_var 0)) jos_nil) rfl))))))
 jss_nil)
theorem sc_check_place : FnScope ["posts", "place"] ["posts", "place"] (defScope (top 16)) := ⟨rfl, rfl, rfl, by decide +kernel, rfl, by decide +kernel, by decide +kernel⟩
theorem ok_check_place (C : Fc K mg) : FnK P w K mg base 3 2 "check_place" ["posts", "place"] [] Fcheck_place := by
  obtain ⟨fd, F⟩ := C.d_check_place
  have hN := sc_check_place.nd
  refine fnK_of F C.g_check_place sc_check_place (n := 2) (k := 0) rfl rfl (F.bindsN fun _ _ _ _ _ _ us hl => match us, hl with | [_, _], _ => rfl) (fun q hq => by cases hq) (lev := 2) (m := Bcheck_place) fun cdv A outer s H E io hr => ?_
  have tk := bx_takes (P := P) (w := w) (K := K) (mg := mg) (base := base) (N := ["posts", "place"]) (qual := "check_place") (scope := defScope (top 16)) (f := He.ga K "check_place") (cdv := cdv) (A := A) (outer := outer) (s := s) (H := H) (E := E)
  have hp := bx_passes (P := P) (w := w) (K := K) (mg := mg) (base := base) (N := ["posts", "place"]) (qual := "check_place") (scope := defScope (top 16)) (f := He.ga K "check_place") (cdv := cdv) (A := A) (outer := outer) (s := s) (H := H) (E := E)
  exact (jss_cons (js_if (jt_not (jt_val (jo_e (je_callF tk (ok_is_place C) hr (by decide) (jos_cons (jo_e (je_var 0)) (jos_cons (jo_e (je_var 1)) jos_nil)) rfl)))) (jss_cons (js_raise0 tk rfl C.x_InvalidPlace)
 jss_nil) jss_nil)
 jss_nil)
theorem sc_is_side : FnScope ["value"] ["value"] (defScope (top 10)) := ⟨rfl, rfl, rfl, by decide +kernel, rfl, by decide +kernel, by decide +kernel⟩
theorem ok_is_side (C : Fc K mg) : FnK P w K mg base 1 1 "is_side" ["value"] [] Fis_side := by
  obtain ⟨fd, F⟩ := C.d_is_side
  have hN := sc_is_side.nd
  refine fnK_of F C.g_is_side sc_is_side (n := 1) (k := 0) rfl rfl (F.bindsN fun _ _ _ _ _ _ us hl => match us, hl with | [_], _ => rfl) (fun q hq => by cases hq) (lev := 0) (m := Bis_side) fun cdv A outer s H E io hr => ?_
  have tk := bx_takes (P := P) (w := w) (K := K) (mg := mg) (base := base) (N := ["value"]) (qual := "is_side") (scope := defScope (top 10)) (f := He.ga K "is_side") (cdv := cdv) (A := A) (outer := outer) (s := s) (H := H) (E := E)
  have hp := bx_passes (P := P) (w := w) (K := K) (mg := mg) (base := base) (N := ["value"]) (qual := "is_side") (scope := defScope (top 10)) (f := He.ga K "is_side") (cdv := cdv) (A := A) (outer := outer) (s := s) (H := H) (E := E)
  exact (jss_cons (js_ret (je_and (je_isi C.b_isinstance (jo_v 0) (isT C.b_str (by decide +kernel))) (je_one (je_cmp (opr_in (u65 hr)) ok_in rfl (jo_v 0) (jo_e (je_tup (jes_cons (je_gstr C.c_LEFT_posts) (jes_cons (je_gstr C.c_RIGHT_posts) jes_nil))))))))
 jss_nil)
theorem sc_is_run : FnScope ["value"] ["value"] (defScope (top 11)) := ⟨rfl, rfl, rfl, by decide +kernel, rfl, by decide +kernel, by decide +kernel⟩
theorem ok_is_run (C : Fc K mg) : FnK P w K mg base 2 1 "is_run" ["value"] [] Fis_run := by
  obtain ⟨fd, F⟩ := C.d_is_run
  have hN := sc_is_run.nd
  refine fnK_of F C.g_is_run sc_is_run (n := 1) (k := 0) rfl rfl (F.bindsN fun _ _ _ _ _ _ us hl => match us, hl with | [_], _ => rfl) (fun q hq => by cases hq) (lev := 1) (m := Bis_run) fun cdv A outer s H E io hr => ?_
  have tk := bx_takes (P := P) (w := w) (K := K) (mg := mg) (base := base) (N := ["value"]) (qual := "is_run") (scope := defScope (top 11)) (f := He.ga K "is_run") (cdv := cdv) (A := A) (outer := outer) (s := s) (H := H) (E := E)
  have hp := bx_passes (P := P) (w := w) (K := K) (mg := mg) (base := base) (N := ["value"]) (qual := "is_run") (scope := defScope (top 11)) (f := He.ga K "is_run") (cdv := cdv) (A := A) (outer := outer) (s := s) (H := H) (E := E)
  exact (jss_cons (js_ret (je_and (je_isi C.b_isinstance (jo_v 0) (isT C.b_tuple (by decide +kernel))) (je_and (je_cmp (op_eqD (u64 hr)) ok_eq (nomark _) (jo_e (je_callB call_len ok_len C.b_len (by decide +kernel) (jos_cons (jo_v 0) jos_nil))) (jo_e je_int)) (je_and (je_callF tk (ok_is_side C) hr (by decide) (jos_cons (jo_e (je_ix ix_seq ok_ix (jo_v 0) (jo_e je_int))) jos_nil) rfl) (je_one (je_callF tk (ok_is_integer C) hr (by decide) (jos_cons (jo_e (je_ix ix_seq ok_ix (jo_v 0) (jo_e je_int))) (jos_cons (jo_e je_int) jos_nil)) rfl))))))
 jss_nil)
theorem sc_is_posts : FnScope ["value", "one", "other", "run"] ["value"] (defScope (top 12)) := ⟨rfl, rfl, rfl, by decide +kernel, rfl, by decide +kernel, by decide +kernel⟩
theorem ok_is_posts (C : Fc K mg) : FnK P w K mg base 3 1 "is_posts" ["value"] [] Fis_posts := by
  obtain ⟨fd, F⟩ := C.d_is_posts
  have hN := sc_is_posts.nd
  refine fnK_of F C.g_is_posts sc_is_posts (n := 1) (k := 3) rfl rfl (F.bindsN fun _ _ _ _ _ _ us hl => match us, hl with | [_], _ => rfl) (fun q hq => by cases hq) (lev := 2) (m := Bis_posts) fun cdv A outer s H E io hr => ?_
  have tk := bx_takes (P := P) (w := w) (K := K) (mg := mg) (base := base) (N := ["value", "one", "other", "run"]) (qual := "is_posts") (scope := defScope (top 12)) (f := He.ga K "is_posts") (cdv := cdv) (A := A) (outer := outer) (s := s) (H := H) (E := E)
  have hp := bx_passes (P := P) (w := w) (K := K) (mg := mg) (base := base) (N := ["value", "one", "other", "run"]) (qual := "is_posts") (scope := defScope (top 12)) (f := He.ga K "is_posts") (cdv := cdv) (A := A) (outer := outer) (s := s) (H := H) (E := E)
  exact (jss_cons (js_if (jw_or (jt_not (jt_val (jo_e (je_isi C.b_isinstance (jo_v 0) (isT C.b_tuple (by decide +kernel)))))) (jw_or (jt_cmp (op_eqD (u64 hr)) ok_eq (nomark _) (jo_e (je_callB call_len ok_len C.b_len (by decide +kernel) (jos_cons (jo_v 0) jos_nil))) (jo_e je_int)) (jw_or1 (jt_not (jt_val (jo_e (je_callB (cr_all rfl) ok_all C.b_all (by decide +kernel) (jos_cons (jo_e (je_comp rfl hN [("run", 3)] (ji_seq (je_var 0)) (blkOk_by (by kernel_rfl)) (fun _ _ _ _ _ => ⟨(jgw_name 3 hN), jts_nil, (je_callF takes0 (ok_is_run C) hr (by decide) (jos_cons (jo_e (je_var 3)) jos_nil) rfl)⟩))) jos_nil)))))))).jt (jss_cons (js_ret je_bl)
 jss_nil) jss_nil)
 (jss_cons (js_ret (je_callB (cr_all rfl) ok_all C.b_all (by decide +kernel) (jos_cons (jo_e (je_comp rfl hN [("one", 1), ("other", 2)] (ji_zip C.b_zip (jes_cons (je_var 0) (jes_cons (je_slice (jo_v 0) (jo_e je_int) trivial) jes_nil))) (blkOk_by (by kernel_rfl)) (fun _ _ _ _ _ => ⟨(jgw_seq rfl (jgsw_cons (jgw_name 1 hN) (jgsw_cons (jgw_name 2 hN) jgsw_nil))), jts_nil, (je_cmp (op_neD (u64 hr)) ok_ne (nomark _) (jo_e (je_ix ix_seq ok_ix (jo_v 1) (jo_e je_int))) (jo_e (je_ix ix_seq ok_ix (jo_v 2) (jo_e je_int))))⟩))) jos_nil)))
 jss_nil))
theorem sc_check_posts : FnScope ["posts"] ["posts"] (defScope (top 13)) := ⟨rfl, rfl, rfl, by decide +kernel, rfl, by decide +kernel, by decide +kernel⟩
theorem ok_check_posts (C : Fc K mg) : FnK P w K mg base 4 1 "check_posts" ["posts"] [] Fcheck_posts := by
  obtain ⟨fd, F⟩ := C.d_check_posts
  have hN := sc_check_posts.nd
  refine fnK_of F C.g_check_posts sc_check_posts (n := 1) (k := 0) rfl rfl (F.bindsN fun _ _ _ _ _ _ us hl => match us, hl with | [_], _ => rfl) (fun q hq => by cases hq) (lev := 3) (m := Bcheck_posts) fun cdv A outer s H E io hr => ?_
  have tk := bx_takes (P := P) (w := w) (K := K) (mg := mg) (base := base) (N := ["posts"]) (qual := "check_posts") (scope := defScope (top 13)) (f := He.ga K "check_posts") (cdv := cdv) (A := A) (outer := outer) (s := s) (H := H) (E := E)
  have hp := bx_passes (P := P) (w := w) (K := K) (mg := mg) (base := base) (N := ["posts"]) (qual := "check_posts") (scope := defScope (top 13)) (f := He.ga K "check_posts") (cdv := cdv) (A := A) (outer := outer) (s := s) (H := H) (E := E)
  exact (jss_cons (js_if (jt_not (jt_val (jo_e (je_callF tk (ok_is_posts C) hr (by decide) (jos_cons (jo_e (je_var 0)) jos_nil) rfl)))) (jss_cons (js_raise0 tk rfl C.x_InvalidPosts)
 jss_nil) jss_nil)
 jss_nil)
theorem sc_can_be_before : FnScope ["posts", "place", "low", "high"] ["posts", "place"] (defScope (top 31)) := ⟨rfl, rfl, rfl, by decide +kernel, rfl, by decide +kernel, by decide +kernel⟩
theorem ok_can_be_before (C : Fc K mg) : FnK P w K mg base 5 2 "can_be_before" ["posts", "place"] [(0, ["place", "posts"], [1, 0])] Fcan_be_before := by
  obtain ⟨fd, F⟩ := C.d_can_be_before
  have hN := sc_can_be_before.nd
  have hkw : ∀ q ∈ ([(0, ["place", "posts"], [1, 0])] : List (Nat × List Str × List Nat)), KB fd ["posts", "place"] q.2.1 q.1 q.2.2 := by
    intro q hq
    simp only [List.mem_cons, List.not_mem_nil, or_false] at hq
    subst hq
    · exact kb_of F fun _ _ _ _ _ _ us ws h1 h2 => match us, h1, ws, h2 with | [], _, [_, _], _ => rfl
  refine fnK_of F C.g_can_be_before sc_can_be_before (n := 2) (k := 2) rfl rfl (F.bindsN fun _ _ _ _ _ _ us hl => match us, hl with | [_, _], _ => rfl) (fun q hq => hkw q hq) (lev := 4) (m := Bcan_be_before) fun cdv A outer s H E io hr => ?_
  have tk := bx_takes (P := P) (w := w) (K := K) (mg := mg) (base := base) (N := ["posts", "place", "low", "high"]) (qual := "can_be_before") (scope := defScope (top 31)) (f := He.ga K "can_be_before") (cdv := cdv) (A := A) (outer := outer) (s := s) (H := H) (E := E)
  have hp := bx_passes (P := P) (w := w) (K := K) (mg := mg) (base := base) (N := ["posts", "place", "low", "high"]) (qual := "can_be_before") (scope := defScope (top 31)) (f := He.ga K "can_be_before") (cdv := cdv) (A := A) (outer := outer) (s := s) (H := H) (E := E)
  exact (jss_cons (js_expr (je_callF tk (ok_check_posts C) hr (by decide) (jos_cons (jo_e (je_var 0)) jos_nil) rfl))
 (jss_cons (js_expr (je_callF tk (ok_check_place C) hr (by decide) (jos_cons (jo_e (je_var 0)) (jos_cons (jo_e (je_var 1)) jos_nil)) rfl))
 (jss_cons (js_asg (je_callF tk (ok_borders C) hr (by decide) (jos_cons (jo_e (je_var 0)) jos_nil) rfl) (jg_seq rfl (jgs_cons (jg_name 2 hN) (jgs_cons (jg_name 3 hN) jgs_nil))))
 (jss_cons (js_ret (je_or (je_cmp op_le ok_cmp (nomark _) (jo_v 1) (jo_v 2)) (je_one (je_cmp op_le ok_cmp (nomark _) (jo_e (je_op op_sub ok_sub (jo_e (je_op opr_add ok_add (jo_e (je_callF tk (ok_count_posts C) hr (by decide) (jos_cons (jo_e (je_var 0)) jos_nil) rfl)) (jo_e je_int))) (jo_v 1))) (jo_v 3)))))
 jss_nil))))
theorem sc_check_limit : FnScope ["posts"] ["posts"] (defScope (top 28)) := ⟨rfl, rfl, rfl, by decide +kernel, rfl, by decide +kernel, by decide +kernel⟩
theorem ok_check_limit (C : Fc K mg) : FnK P w K mg base 2 1 "check_limit" ["posts"] [] Fcheck_limit := by
  obtain ⟨fd, F⟩ := C.d_check_limit
  have hN := sc_check_limit.nd
  refine fnK_of F C.g_check_limit sc_check_limit (n := 1) (k := 0) rfl rfl (F.bindsN fun _ _ _ _ _ _ us hl => match us, hl with | [_], _ => rfl) (fun q hq => by cases hq) (lev := 1) (m := Bcheck_limit) fun cdv A outer s H E io hr => ?_
  have tk := bx_takes (P := P) (w := w) (K := K) (mg := mg) (base := base) (N := ["posts"]) (qual := "check_limit") (scope := defScope (top 28)) (f := He.ga K "check_limit") (cdv := cdv) (A := A) (outer := outer) (s := s) (H := H) (E := E)
  have hp := bx_passes (P := P) (w := w) (K := K) (mg := mg) (base := base) (N := ["posts"]) (qual := "check_limit") (scope := defScope (top 28)) (f := He.ga K "check_limit") (cdv := cdv) (A := A) (outer := outer) (s := s) (H := H) (E := E)
  exact (jss_cons (js_if (jt_cmp op_gt ok_cmp (nomark _) (jo_e (je_callF tk (ok_count_posts C) hr (by decide) (jos_cons (jo_e (je_var 0)) jos_nil) rfl)) (jo_e (je_gint C.c_LIMIT))) (jss_cons js_no
 jss_nil) jss_nil)
 jss_nil)
theorem sc_doubled : FnScope ["times", "found", "turn"] ["times"] (defScope (top 27)) := ⟨rfl, rfl, rfl, by decide +kernel, rfl, by decide +kernel, by decide +kernel⟩
theorem ok_doubled (C : Fc K mg) : FnK P w K mg base 1 1 "doubled" ["times"] [] Fdoubled := by
  obtain ⟨fd, F⟩ := C.d_doubled
  have hN := sc_doubled.nd
  refine fnK_of F C.g_doubled sc_doubled (n := 1) (k := 2) rfl rfl (F.bindsN fun _ _ _ _ _ _ us hl => match us, hl with | [_], _ => rfl) (fun q hq => by cases hq) (lev := 0) (m := Bdoubled) fun cdv A outer s H E io hr => ?_
  have tk := bx_takes (P := P) (w := w) (K := K) (mg := mg) (base := base) (N := ["times", "found", "turn"]) (qual := "doubled") (scope := defScope (top 27)) (f := He.ga K "doubled") (cdv := cdv) (A := A) (outer := outer) (s := s) (H := H) (E := E)
  have hp := bx_passes (P := P) (w := w) (K := K) (mg := mg) (base := base) (N := ["times", "found", "turn"]) (qual := "doubled") (scope := defScope (top 27)) (f := He.ga K "doubled") (cdv := cdv) (A := A) (outer := outer) (s := s) (H := H) (E := E)
  exact (jss_cons (js_set 1 hN je_int)
 (jss_cons (js_for hp rfl (ji_range1 C.b_range (jes_cons (je_var 0) jes_nil)) (jg_name 2 hN) (jss_cons (js_aug 1 hN (je_var 1) opr_iadd ok_iadd)
 jss_nil))
 (jss_cons (js_ret (je_move 1))
 jss_nil)))
theorem sc_count_all_before : FnScope ["posts", "low", "high"] ["posts"] (defScope (top 33)) := ⟨rfl, rfl, rfl, by decide +kernel, rfl, by decide +kernel, by decide +kernel⟩
theorem ok_count_all_before (C : Fc K mg) : FnK P w K mg base 5 1 "count_all_before" ["posts"] [(0, ["posts"], [0])] Fcount_all_before := by
  obtain ⟨fd, F⟩ := C.d_count_all_before
  have hN := sc_count_all_before.nd
  have hkw : ∀ q ∈ ([(0, ["posts"], [0])] : List (Nat × List Str × List Nat)), KB fd ["posts"] q.2.1 q.1 q.2.2 := by
    intro q hq
    simp only [List.mem_cons, List.not_mem_nil, or_false] at hq
    subst hq
    · exact kb_of F fun _ _ _ _ _ _ us ws h1 h2 => match us, h1, ws, h2 with | [], _, [_], _ => rfl
  refine fnK_of F C.g_count_all_before sc_count_all_before (n := 1) (k := 2) rfl rfl (F.bindsN fun _ _ _ _ _ _ us hl => match us, hl with | [_], _ => rfl) (fun q hq => hkw q hq) (lev := 4) (m := Bcount_all_before) fun cdv A outer s H E io hr => ?_
  have tk := bx_takes (P := P) (w := w) (K := K) (mg := mg) (base := base) (N := ["posts", "low", "high"]) (qual := "count_all_before") (scope := defScope (top 33)) (f := He.ga K "count_all_before") (cdv := cdv) (A := A) (outer := outer) (s := s) (H := H) (E := E)
  have hp := bx_passes (P := P) (w := w) (K := K) (mg := mg) (base := base) (N := ["posts", "low", "high"]) (qual := "count_all_before") (scope := defScope (top 33)) (f := He.ga K "count_all_before") (cdv := cdv) (A := A) (outer := outer) (s := s) (H := H) (E := E)
  exact (jss_cons (js_expr (je_callF tk (ok_check_posts C) hr (by decide) (jos_cons (jo_e (je_var 0)) jos_nil) rfl))
 (jss_cons (js_expr (je_callF tk (ok_check_limit C) hr (by decide) (jos_cons (jo_e (je_var 0)) jos_nil) rfl))
 (jss_cons (js_asg (je_callF tk (ok_borders C) hr (by decide) (jos_cons (jo_e (je_var 0)) jos_nil) rfl) (jg_seq rfl (jgs_cons (jg_name 1 hN) (jgs_cons (jg_name 2 hN) jgs_nil))))
 (jss_cons (js_ret (je_op op_sub ok_sub (jo_e (je_op opr_add ok_add (jo_e (je_callF tk (ok_doubled C) hr (by decide) (jos_cons (jo_e (je_var 1)) jos_nil) rfl)) (jo_e (je_callF tk (ok_doubled C) hr (by decide) (jos_cons (jo_e (je_var 2)) jos_nil) rfl)))) (jo_e je_int)))
 jss_nil))))
theorem sc_ways : FnScope ["size", "chosen", "found", "number"] ["size", "chosen"] (defScope (top 26)) := ⟨rfl, rfl, rfl, by decide +kernel, rfl, by decide +kernel, by decide +kernel⟩
theorem ok_ways (C : Fc K mg) : FnK P w K mg base 1 2 "ways" ["size", "chosen"] [] Fways := by
  obtain ⟨fd, F⟩ := C.d_ways
  have hN := sc_ways.nd
  refine fnK_of F C.g_ways sc_ways (n := 2) (k := 2) rfl rfl (F.bindsN fun _ _ _ _ _ _ us hl => match us, hl with | [_, _], _ => rfl) (fun q hq => by cases hq) (lev := 0) (m := Bways) fun cdv A outer s H E io hr => ?_
  have tk := bx_takes (P := P) (w := w) (K := K) (mg := mg) (base := base) (N := ["size", "chosen", "found", "number"]) (qual := "ways") (scope := defScope (top 26)) (f := He.ga K "ways") (cdv := cdv) (A := A) (outer := outer) (s := s) (H := H) (E := E)
  have hp := bx_passes (P := P) (w := w) (K := K) (mg := mg) (base := base) (N := ["size", "chosen", "found", "number"]) (qual := "ways") (scope := defScope (top 26)) (f := He.ga K "ways") (cdv := cdv) (A := A) (outer := outer) (s := s) (H := H) (E := E)
  exact (jss_cons (js_if (jt_cmp op_gt ok_cmp (nomark _) (jo_v 1) (jo_v 0)) (jss_cons (js_ret je_int)
 jss_nil) jss_nil)
 (jss_cons (js_set 2 hN je_int)
 (jss_cons (js_for hp rfl (ji_range1 C.b_range (jes_cons (je_var 1) jes_nil)) (jg_name 3 hN) (jss_cons (js_set 2 hN (je_op op_fdivW ok_fdiv (jo_e (je_op opr_mul ok_mul (jo_v 2) (jo_e (je_op op_sub ok_sub (jo_v 0) (jo_v 3))))) (jo_e (je_op opr_add ok_add (jo_v 3) (jo_e je_int)))))
 jss_nil))
 (jss_cons (js_ret (je_move 2))
 jss_nil))))
theorem sc_numbers_before : FnScope ["posts", "place", "low", "high"] ["posts", "place"] (defScope (top 29)) := ⟨rfl, rfl, rfl, by decide +kernel, rfl, by decide +kernel, by decide +kernel⟩
theorem ok_numbers_before (C : Fc K mg) : FnK P w K mg base 2 2 "numbers_before" ["posts", "place"] [] Fnumbers_before := by
  obtain ⟨fd, F⟩ := C.d_numbers_before
  have hN := sc_numbers_before.nd
  refine fnK_of F C.g_numbers_before sc_numbers_before (n := 2) (k := 2) rfl rfl (F.bindsN fun _ _ _ _ _ _ us hl => match us, hl with | [_, _], _ => rfl) (fun q hq => by cases hq) (lev := 1) (m := Bnumbers_before) fun cdv A outer s H E io hr => ?_
  have tk := bx_takes (P := P) (w := w) (K := K) (mg := mg) (base := base) (N := ["posts", "place", "low", "high"]) (qual := "numbers_before") (scope := defScope (top 29)) (f := He.ga K "numbers_before") (cdv := cdv) (A := A) (outer := outer) (s := s) (H := H) (E := E)
  have hp := bx_passes (P := P) (w := w) (K := K) (mg := mg) (base := base) (N := ["posts", "place", "low", "high"]) (qual := "numbers_before") (scope := defScope (top 29)) (f := He.ga K "numbers_before") (cdv := cdv) (A := A) (outer := outer) (s := s) (H := H) (E := E)
  exact (jss_cons (js_asg (je_callF tk (ok_borders C) hr (by decide) (jos_cons (jo_e (je_var 0)) jos_nil) rfl) (jg_seq rfl (jgs_cons (jg_name 2 hN) (jgs_cons (jg_name 3 hN) jgs_nil))))
 (jss_cons (js_ret (je_tup (jes_cons (je_callF tk (ok_ways C) hr (by decide) (jos_cons (jo_e (je_var 2)) (jos_cons (jo_e (je_var 1)) jos_nil)) rfl) (jes_cons (je_callF tk (ok_ways C) hr (by decide) (jos_cons (jo_e (je_var 3)) (jos_cons (jo_e (je_op op_sub ok_sub (jo_e (je_op opr_add ok_add (jo_e (je_callF tk (ok_count_posts C) hr (by decide) (jos_cons (jo_e (je_var 0)) jos_nil) rfl)) (jo_e je_int))) (jo_v 1))) jos_nil)) rfl) jes_nil))))
 jss_nil))
theorem sc_count_before : FnScope ["posts", "place"] ["posts", "place"] (defScope (top 32)) := ⟨rfl, rfl, rfl, by decide +kernel, rfl, by decide +kernel, by decide +kernel⟩
theorem ok_count_before (C : Fc K mg) : FnK P w K mg base 5 2 "count_before" ["posts", "place"] [(0, ["place", "posts"], [1, 0])] Fcount_before := by
  obtain ⟨fd, F⟩ := C.d_count_before
  have hN := sc_count_before.nd
  have hkw : ∀ q ∈ ([(0, ["place", "posts"], [1, 0])] : List (Nat × List Str × List Nat)), KB fd ["posts", "place"] q.2.1 q.1 q.2.2 := by
    intro q hq
    simp only [List.mem_cons, List.not_mem_nil, or_false] at hq
    subst hq
    · exact kb_of F fun _ _ _ _ _ _ us ws h1 h2 => match us, h1, ws, h2 with | [], _, [_, _], _ => rfl
  refine fnK_of F C.g_count_before sc_count_before (n := 2) (k := 0) rfl rfl (F.bindsN fun _ _ _ _ _ _ us hl => match us, hl with | [_, _], _ => rfl) (fun q hq => hkw q hq) (lev := 4) (m := Bcount_before) fun cdv A outer s H E io hr => ?_
  have tk := bx_takes (P := P) (w := w) (K := K) (mg := mg) (base := base) (N := ["posts", "place"]) (qual := "count_before") (scope := defScope (top 32)) (f := He.ga K "count_before") (cdv := cdv) (A := A) (outer := outer) (s := s) (H := H) (E := E)
  have hp := bx_passes (P := P) (w := w) (K := K) (mg := mg) (base := base) (N := ["posts", "place"]) (qual := "count_before") (scope := defScope (top 32)) (f := He.ga K "count_before") (cdv := cdv) (A := A) (outer := outer) (s := s) (H := H) (E := E)
  exact (jss_cons (js_expr (je_callF tk (ok_check_posts C) hr (by decide) (jos_cons (jo_e (je_var 0)) jos_nil) rfl))
 (jss_cons (js_expr (je_callF tk (ok_check_place C) hr (by decide) (jos_cons (jo_e (je_var 0)) (jos_cons (jo_e (je_var 1)) jos_nil)) rfl))
 (jss_cons (js_expr (je_callF tk (ok_check_limit C) hr (by decide) (jos_cons (jo_e (je_var 0)) jos_nil) rfl))
 (jss_cons (js_ret (je_callB (cr_sumT rfl) ok_sumT C.b_sum (by decide +kernel) (jos_cons (jo_e (je_callF tk (ok_numbers_before C) hr (by decide) (jos_cons (jo_e (je_var 0)) (jos_cons (jo_e (je_var 1)) jos_nil)) rfl)) jos_nil)))
 jss_nil))))
theorem sc_check_index : FnScope ["index"] ["index"] (defScope (top 23)) := ⟨rfl, rfl, rfl, by decide +kernel, rfl, by decide +kernel, by decide +kernel⟩
theorem ok_check_index (C : Fc K mg) : FnK P w K mg base 2 1 "check_index" ["index"] [] Fcheck_index := by
  obtain ⟨fd, F⟩ := C.d_check_index
  have hN := sc_check_index.nd
  refine fnK_of F C.g_check_index sc_check_index (n := 1) (k := 0) rfl rfl (F.bindsN fun _ _ _ _ _ _ us hl => match us, hl with | [_], _ => rfl) (fun q hq => by cases hq) (lev := 1) (m := Bcheck_index) fun cdv A outer s H E io hr => ?_
  have tk := bx_takes (P := P) (w := w) (K := K) (mg := mg) (base := base) (N := ["index"]) (qual := "check_index") (scope := defScope (top 23)) (f := He.ga K "check_index") (cdv := cdv) (A := A) (outer := outer) (s := s) (H := H) (E := E)
  have hp := bx_passes (P := P) (w := w) (K := K) (mg := mg) (base := base) (N := ["index"]) (qual := "check_index") (scope := defScope (top 23)) (f := He.ga K "check_index") (cdv := cdv) (A := A) (outer := outer) (s := s) (H := H) (E := E)
  exact (jss_cons (js_if (jt_not (jt_val (jo_e (je_callF tk (ok_is_integer C) hr (by decide) (jos_cons (jo_e (je_var 0)) (jos_cons (jo_e je_int) jos_nil)) rfl)))) (jss_cons (js_raise1 tk rfl C.x_InvalidNumber)
 jss_nil) jss_nil)
 jss_nil)
theorem sc_joined : FnScope ["runs", "found", "side", "count"] ["runs"] (defScope (top 17)) := ⟨rfl, rfl, rfl, by decide +kernel, rfl, by decide +kernel, by decide +kernel⟩
theorem ok_joined (C : Fc K mg) : FnK P w K mg base 1 1 "joined" ["runs"] [] Fjoined := by
  obtain ⟨fd, F⟩ := C.d_joined
  have hN := sc_joined.nd
  refine fnK_of F C.g_joined sc_joined (n := 1) (k := 3) rfl rfl (F.bindsN fun _ _ _ _ _ _ us hl => match us, hl with | [_], _ => rfl) (fun q hq => by cases hq) (lev := 0) (m := Bjoined) fun cdv A outer s H E io hr => ?_
  have tk := bx_takes (P := P) (w := w) (K := K) (mg := mg) (base := base) (N := ["runs", "found", "side", "count"]) (qual := "joined") (scope := defScope (top 17)) (f := He.ga K "joined") (cdv := cdv) (A := A) (outer := outer) (s := s) (H := H) (E := E)
  have hp := bx_passes (P := P) (w := w) (K := K) (mg := mg) (base := base) (N := ["runs", "found", "side", "count"]) (qual := "joined") (scope := defScope (top 17)) (f := He.ga K "joined") (cdv := cdv) (A := A) (outer := outer) (s := s) (H := H) (E := E)
  exact (jss_cons (js_set 1 hN (je_lst jes_nil))
 (jss_cons (js_for hp rfl (ji_seq (je_var 0)) (jg_seq rfl (jgs_cons (jg_name 2 hN) (jgs_cons (jg_name 3 hN) jgs_nil))) (jss_cons (js_if (jw_and (jt_cmp op_gt ok_cmp (nomark _) (jo_v 3) (jo_e je_int)) (jw_and (jt_cmp (op_neD (u64 hr)) ok_ne (nomark _) (jo_v 1) (jo_e (je_lst jes_nil))) (jw_and1 (jt_cmp (op_eqD (u64 hr)) ok_eq (nomark _) (jo_e (je_ix ix_seq ok_ix (jo_e (je_ix ix_seq ok_ix (jo_v 1) (jo_e (je_un un_neg ok_neg (jo_e je_int))))) (jo_e je_int))) (jo_v 2))))).jt (jss_cons (js_setix 1 (isV 1) (je_un un_neg ok_neg (jo_e je_int)) (je_tup (jes_cons (je_var 2) (jes_cons (je_op opr_add ok_add (jo_e (je_ix ix_seq ok_ix (jo_e (je_ix ix_seq ok_ix (jo_v 1) (jo_e (je_un un_neg ok_neg (jo_e je_int))))) (jo_e je_int))) (jo_v 3)) jes_nil))))
 jss_nil) (jss_cons (js_if (jt_cmp op_gt ok_cmp (nomark _) (jo_v 3) (jo_e je_int)) (jss_cons (js_expr (je_append 1 (isV 1) (je_tup (jes_cons (je_var 2) (jes_cons (je_var 3) jes_nil)))))
 jss_nil) jss_nil)
 jss_nil))
 jss_nil))
 (jss_cons (js_ret (je_callTy call_tuple_of ok_tuple C.b_tuple (by decide +kernel) (jos_cons (jo_v 1) jos_nil)))
 jss_nil)))
theorem sc_nth_sides : FnScope ["size", "lefts", "index", "found", "rest", "number", "first"] ["size", "lefts", "index"] (defScope (top 30)) := ⟨rfl, rfl, rfl, by decide +kernel, rfl, by decide +kernel, by decide +kernel⟩
theorem ok_nth_sides (C : Fc K mg) : FnK P w K mg base 2 3 "nth_sides" ["size", "lefts", "index"] [] Fnth_sides := by
  obtain ⟨fd, F⟩ := C.d_nth_sides
  have hN := sc_nth_sides.nd
  refine fnK_of F C.g_nth_sides sc_nth_sides (n := 3) (k := 4) rfl rfl (F.bindsN fun _ _ _ _ _ _ us hl => match us, hl with | [_, _, _], _ => rfl) (fun q hq => by cases hq) (lev := 1) (m := Bnth_sides) fun cdv A outer s H E io hr => ?_
  have tk := bx_takes (P := P) (w := w) (K := K) (mg := mg) (base := base) (N := ["size", "lefts", "index", "found", "rest", "number", "first"]) (qual := "nth_sides") (scope := defScope (top 30)) (f := He.ga K "nth_sides") (cdv := cdv) (A := A) (outer := outer) (s := s) (H := H) (E := E)
  have hp := bx_passes (P := P) (w := w) (K := K) (mg := mg) (base := base) (N := ["size", "lefts", "index", "found", "rest", "number", "first"]) (qual := "nth_sides") (scope := defScope (top 30)) (f := He.ga K "nth_sides") (cdv := cdv) (A := A) (outer := outer) (s := s) (H := H) (E := E)
  exact (jss_cons (js_par (i := 3) (j := 4) rfl hN je_str (je_var 2))
 (jss_cons (js_for hp rfl (ji_range1 C.b_range (jes_cons (je_var 0) jes_nil)) (jg_name 5 hN) (jss_cons (js_set 6 hN (je_if (jt_cmp op_gt ok_cmp (nomark _) (jo_v 1) (jo_e je_int)) (je_callF tk (ok_ways C) hr (by decide) (jos_cons (jo_e (je_op op_sub ok_sub (jo_e (je_op op_sub ok_sub (jo_v 0) (jo_v 5))) (jo_e je_int))) (jos_cons (jo_e (je_op op_sub ok_sub (jo_v 1) (jo_e je_int))) jos_nil)) rfl) je_int))
 (jss_cons (js_if (jt_cmp op_lt ok_cmp (nomark _) (jo_v 4) (jo_v 6)) (jss_cons (js_aug 3 hN (je_gstr C.c_LEFT_walks) opr_iadd ok_iadd)
 (jss_cons (js_aug 1 hN je_int iop_sub ok_sub)
 jss_nil)) (jss_cons (js_aug 3 hN (je_gstr C.c_RIGHT_walks) opr_iadd ok_iadd)
 (jss_cons (js_aug 4 hN (je_var 6) iop_sub ok_sub)
 jss_nil)))
 jss_nil)))
 (jss_cons (js_ret (je_move 3))
 jss_nil)))
theorem sc_nth_before : FnScope ["posts", "place", "index", "left", "right", "low", "high", "lefts", "side"] ["posts", "place", "index"] (defScope (top 34)) := ⟨rfl, rfl, rfl, by decide +kernel, rfl, by decide +kernel, by decide +kernel⟩
theorem ok_nth_before (C : Fc K mg) : FnK P w K mg base 5 3 "nth_before" ["posts", "place", "index"] [(0, ["index", "place", "posts"], [2, 1, 0])] Fnth_before := by
  obtain ⟨fd, F⟩ := C.d_nth_before
  have hN := sc_nth_before.nd
  have hkw : ∀ q ∈ ([(0, ["index", "place", "posts"], [2, 1, 0])] : List (Nat × List Str × List Nat)), KB fd ["posts", "place", "index"] q.2.1 q.1 q.2.2 := by
    intro q hq
    simp only [List.mem_cons, List.not_mem_nil, or_false] at hq
    subst hq
    · exact kb_of F fun _ _ _ _ _ _ us ws h1 h2 => match us, h1, ws, h2 with | [], _, [_, _, _], _ => rfl
  refine fnK_of F C.g_nth_before sc_nth_before (n := 3) (k := 6) rfl rfl (F.bindsN fun _ _ _ _ _ _ us hl => match us, hl with | [_, _, _], _ => rfl) (fun q hq => hkw q hq) (lev := 4) (m := Bnth_before) fun cdv A outer s H E io hr => ?_
  have tk := bx_takes (P := P) (w := w) (K := K) (mg := mg) (base := base) (N := ["posts", "place", "index", "left", "right", "low", "high", "lefts", "side"]) (qual := "nth_before") (scope := defScope (top 34)) (f := He.ga K "nth_before") (cdv := cdv) (A := A) (outer := outer) (s := s) (H := H) (E := E)
  have hp := bx_passes (P := P) (w := w) (K := K) (mg := mg) (base := base) (N := ["posts", "place", "index", "left", "right", "low", "high", "lefts", "side"]) (qual := "nth_before") (scope := defScope (top 34)) (f := He.ga K "nth_before") (cdv := cdv) (A := A) (outer := outer) (s := s) (H := H) (E := E)
  exact (jss_cons (js_expr (je_callF tk (ok_check_posts C) hr (by decide) (jos_cons (jo_e (je_var 0)) jos_nil) rfl))
 (jss_cons (js_expr (je_callF tk (ok_check_place C) hr (by decide) (jos_cons (jo_e (je_var 0)) (jos_cons (jo_e (je_var 1)) jos_nil)) rfl))
 (jss_cons (js_expr (je_callF tk (ok_check_index C) hr (by decide) (jos_cons (jo_e (je_var 2)) jos_nil) rfl))
 (jss_cons (js_expr (je_callF tk (ok_check_limit C) hr (by decide) (jos_cons (jo_e (je_var 0)) jos_nil) rfl))
 (jss_cons (js_asg (je_callF tk (ok_numbers_before C) hr (by decide) (jos_cons (jo_e (je_var 0)) (jos_cons (jo_e (je_var 1)) jos_nil)) rfl) (jg_seq rfl (jgs_cons (jg_name 3 hN) (jgs_cons (jg_name 4 hN) jgs_nil))))
 (jss_cons (js_if (jt_cmp op_ge ok_cmp (nomark _) (jo_v 2) (jo_e (je_op opr_add ok_add (jo_v 3) (jo_v 4)))) (jss_cons (js_raise1 tk rfl C.x_InvalidNumber)
 jss_nil) jss_nil)
 (jss_cons (js_asg (je_callF tk (ok_borders C) hr (by decide) (jos_cons (jo_e (je_var 0)) jos_nil) rfl) (jg_seq rfl (jgs_cons (jg_name 5 hN) (jgs_cons (jg_name 6 hN) jgs_nil))))
 (jss_cons (js_if (jt_cmp op_lt ok_cmp (nomark _) (jo_v 2) (jo_v 3)) (jss_cons (js_ret (je_callF tk (ok_joined C) hr (by decide) (jos_cons (jo_e (je_op opr_add ok_add (jo_e (je_comp rfl hN [("side", 8)] (ji_seq (je_callF tk (ok_nth_sides C) hr (by decide) (jos_cons (jo_e (je_var 5)) (jos_cons (jo_e (je_var 1)) (jos_cons (jo_e (je_var 2)) jos_nil))) rfl)) (blkOk_by (by kernel_rfl)) (fun _ _ _ _ _ => ⟨(jgw_name 8 hN), jts_nil, (je_tup (jes_cons (je_var 8) (jes_cons je_int jes_nil)))⟩))) (jo_e (je_callTy call_list_of ok_list C.b_list (by decide +kernel) (jos_cons (jo_e (je_slice (jo_v 0) (jo_e je_int) trivial)) jos_nil))))) jos_nil) rfl))
 jss_nil) jss_nil)
 (jss_cons (js_set 7 hN (je_op op_sub ok_sub (jo_v 6) (jo_e (je_op op_sub ok_sub (jo_e (je_op opr_add ok_add (jo_e (je_callF tk (ok_count_posts C) hr (by decide) (jos_cons (jo_e (je_var 0)) jos_nil) rfl)) (jo_e je_int))) (jo_v 1)))))
 (jss_cons (js_ret (je_callF tk (ok_joined C) hr (by decide) (jos_cons (jo_e (je_op opr_add ok_add (jo_e (je_callTy call_list_of ok_list C.b_list (by decide +kernel) (jos_cons (jo_e (je_slice (jo_v 0) trivial (jo_e (je_un un_neg ok_neg (jo_e je_int))))) jos_nil))) (jo_e (je_comp rfl hN [("side", 8)] (ji_seq (je_callF tk (ok_nth_sides C) hr (by decide) (jos_cons (jo_e (je_var 6)) (jos_cons (jo_e (je_var 7)) (jos_cons (jo_e (je_op op_sub ok_sub (jo_v 2) (jo_v 3))) jos_nil))) rfl)) (blkOk_by (by kernel_rfl)) (fun _ _ _ _ _ => ⟨(jgw_name 8 hN), jts_nil, (je_tup (jes_cons (je_var 8) (jes_cons je_int jes_nil)))⟩))))) jos_nil) rfl))
 jss_nil))))))))))
theorem sc_law : FnScope ["script", "k", "bag", "turn", "sides", "line", "total", "texts", "start", "wanted", "many", "told", "text", "number"] ["script"] (defScope (top 45)) := ⟨rfl, rfl, rfl, by decide +kernel, rfl, by decide +kernel, by decide +kernel⟩
theorem ok_law (C : Fc K mg) : FnK P w K mg base 10 1 "law" ["script"] [] Flaw := by
  obtain ⟨fd, F⟩ := C.d_law
  have hN := sc_law.nd
  refine fnK_of F C.g_law sc_law (n := 1) (k := 13) rfl rfl (F.bindsN fun _ _ _ _ _ _ us hl => match us, hl with | [_], _ => rfl) (fun q hq => by cases hq) (lev := 9) (m := Blaw) fun cdv A outer s H E io hr => ?_
  have tk := bx_takes (P := P) (w := w) (K := K) (mg := mg) (base := base) (N := ["script", "k", "bag", "turn", "sides", "line", "total", "texts", "start", "wanted", "many", "told", "text", "number"]) (qual := "law") (scope := defScope (top 45)) (f := He.ga K "law") (cdv := cdv) (A := A) (outer := outer) (s := s) (H := H) (E := E)
  have hp := bx_passes (P := P) (w := w) (K := K) (mg := mg) (base := base) (N := ["script", "k", "bag", "turn", "sides", "line", "total", "texts", "start", "wanted", "many", "told", "text", "number"]) (qual := "law") (scope := defScope (top 45)) (f := He.ga K "law") (cdv := cdv) (A := A) (outer := outer) (s := s) (H := H) (E := E)
  exact (jss_cons (js_for hp rfl (ji_range1 C.b_range (jes_cons (je_callB (call_max2 rfl) ok_max2 C.b_max (by decide +kernel) (jos_cons (jo_e je_int) (jos_cons (jo_e (je_callB (call_min2 rfl) ok_min2 C.b_min (by decide +kernel) (jos_cons (jo_e je_int) (jos_cons (jo_e (je_callB call_len ok_len C.b_len (by decide +kernel) (jos_cons (jo_v 0) jos_nil))) jos_nil)))) jos_nil))) jes_nil)) (jg_name 1 hN) (jss_cons (js_set 2 hN (je_callF tk (ok__law_bag C) hr (by decide) (jos_cons (jo_e (je_callF tk (ok__law_cell_at C) hr (by decide) (jos_cons (jo_e (je_var 0)) (jos_cons (jo_e (je_var 1)) jos_nil)) rfl)) (jos_cons (jo_e (je_var 1)) jos_nil)) rfl))
 (jss_cons (js_for hp rfl (ji_range1 C.b_range (jes_cons je_int jes_nil)) (jg_name 3 hN) (jss_cons (js_set 4 hN (je_callF tk (ok__law_sides C) hr (by decide) (jos_cons (jo_v 2) (jos_cons (jo_e je_int) jos_nil)) rfl))
 (jss_cons (js_asg (je_tup (jes_cons (je_callF tk (ok__law_line C) hr (by decide) (jos_cons (jo_e (je_var 4)) jos_nil) rfl) (jes_cons je_int jes_nil))) (jg_seq rfl (jgs_cons (jg_name 5 hN) (jgs_cons (jg_name 6 hN) jgs_nil))))
 (jss_cons (js_set 7 hN (je_callF tk (ok__law_texts C) hr (by decide) (jos_cons (jo_e (je_callB call_len ok_len C.b_len (by decide +kernel) (jos_cons (jo_v 4) jos_nil))) jos_nil) rfl))
 (jss_cons (js_for hp rfl (ji_range2 C.b_range (jes_cons je_int (jes_cons (je_op opr_add ok_add (jo_e (je_callB call_len ok_len C.b_len (by decide +kernel) (jos_cons (jo_v 4) jos_nil))) (jo_e je_int)) jes_nil))) (jg_name 8 hN) (jss_cons (js_setComp 9 rfl hN [("text", 12)] (ji_seq (je_var 7)) (blkOk_by (by kernel_rfl)) (fun _ _ _ _ _ => ⟨(jgw_name 12 hN), (jts_one (jt_cmp (op_eqD (u64 hr)) ok_eq (nomark _) (jo_e (je_ix ix_seq ok_ix (jo_e (je_callF takes0 (ok__law_walk C) hr (by decide) (jos_cons (jo_e (je_callTy (call_list_t rfl) ok_listT C.b_list (by decide +kernel) (jos_cons (jo_v 12) jos_nil))) (jos_cons (jo_e (je_var 8)) jos_nil)) rfl)) (jo_e je_int))) (jo_v 4))), (je_callF takes0 (ok__law_line C) hr (by decide) (jos_cons (jo_e (je_var 12)) jos_nil) rfl)⟩))
 (jss_cons (js_set 10 hN (je_callB call_len ok_len C.b_len (by decide +kernel) (jos_cons (jo_v 9) jos_nil)))
 (jss_cons (js_set 6 hN (je_op opr_add ok_add (jo_v 6) (jo_v 10)))
 (jss_cons (js_if (jt_not (jt_val (jo_e (je_callF tk (ok__law_same C) hr (by decide) (jos_cons (jo_e (je_lst (jes_cons (je_callF tk (ok_count_before C) hr (by decide) (jos_cons (jo_e (je_var 5)) (jos_cons (jo_e (je_var 8)) jos_nil)) rfl) (jes_cons (je_callFK0 tk (ok_count_before C) hr (by decide) 0 (jks_cons (jo_e (je_var 8)) (jks_cons (jo_e (je_var 5)) jks_nil)) rfl rfl) jes_nil)))) (jos_cons (jo_e (je_lst (jes_cons (je_var 10) (jes_cons (je_var 10) jes_nil)))) jos_nil)) rfl)))) (jss_cons (js_ret je_bl)
 jss_nil) jss_nil)
 (jss_cons (js_set 11 hN (je_lst (jes_cons (je_callF tk (ok_can_be_before C) hr (by decide) (jos_cons (jo_e (je_var 5)) (jos_cons (jo_e (je_var 8)) jos_nil)) rfl) (jes_cons (je_callFK0 tk (ok_can_be_before C) hr (by decide) 0 (jks_cons (jo_e (je_var 8)) (jks_cons (jo_e (je_var 5)) jks_nil)) rfl rfl) jes_nil))))
 (jss_cons (js_if (jt_not (jt_val (jo_e (je_callF tk (ok__law_same C) hr (by decide) (jos_cons (jo_e (je_var 11)) (jos_cons (jo_e (je_lst (jes_cons (je_cmp op_gt ok_cmp (nomark _) (jo_v 10) (jo_e je_int)) (jes_cons (je_cmp op_gt ok_cmp (nomark _) (jo_v 10) (jo_e je_int)) jes_nil)))) jos_nil)) rfl)))) (jss_cons (js_ret je_bl)
 jss_nil) jss_nil)
 (jss_cons (js_if (jt_not (jt_val (jo_e (je_callF tk (ok__law_same C) hr (by decide) (jos_cons (jo_e (je_comp rfl hN [("number", 13)] (ji_range1 C.b_range (jes_cons (je_var 10) jes_nil)) (blkOk_by (by kernel_rfl)) (fun _ _ _ _ _ => ⟨(jgw_name 13 hN), jts_nil, (je_callF takes0 (ok_nth_before C) hr (by decide) (jos_cons (jo_e (je_var 5)) (jos_cons (jo_e (je_var 8)) (jos_cons (jo_e (je_var 13)) jos_nil))) rfl)⟩))) (jos_cons (jo_e (je_var 9)) jos_nil)) rfl)))) (jss_cons (js_ret je_bl)
 jss_nil) jss_nil)
 (jss_cons (js_if (jw_and (jt_cmp op_gt ok_cmp (nomark _) (jo_v 10) (jo_e je_int)) (jw_and1 (jt_cmp (op_neD (u64 hr)) ok_ne (nomark _) (jo_e (je_callFK0 tk (ok_nth_before C) hr (by decide) 0 (jks_cons (jo_e (je_op op_sub ok_sub (jo_v 10) (jo_e je_int))) (jks_cons (jo_e (je_var 8)) (jks_cons (jo_e (je_var 5)) jks_nil))) rfl rfl)) (jo_e (je_ix ix_seq ok_ix (jo_v 9) (jo_e (je_un un_neg ok_neg (jo_e je_int)))))))).jt (jss_cons (js_ret je_bl)
 jss_nil) jss_nil)
 jss_nil)))))))))
 (jss_cons (js_if (jt_not (jt_val (jo_e (je_callF tk (ok__law_same C) hr (by decide) (jos_cons (jo_e (je_lst (jes_cons (je_callF tk (ok_count_all_before C) hr (by decide) (jos_cons (jo_e (je_var 5)) jos_nil) rfl) (jes_cons (je_callFK0 tk (ok_count_all_before C) hr (by decide) 0 (jks_cons (jo_e (je_var 5)) jks_nil) rfl rfl) jes_nil)))) (jos_cons (jo_e (je_lst (jes_cons (je_var 6) (jes_cons (je_var 6) jes_nil)))) jos_nil)) rfl)))) (jss_cons (js_ret je_bl)
 jss_nil) jss_nil)
 jss_nil))))))
 jss_nil)))
 (jss_cons (js_ret je_bl)
 jss_nil))
end
/-! ### the head -/
def fn : List He.DefD := [⟨("_law_bag", none), "_law_bag", "_law_bag", defArgs (top 38), defBody (top 38), defScope (top 38), [], []⟩, ⟨("_law_cell_at", none), "_law_cell_at", "_law_cell_at", defArgs (top 36), defBody (top 36), defScope (top 36), [], []⟩, ⟨("_law_joined", none), "_law_joined", "_law_joined", defArgs (top 40), defBody (top 40), defScope (top 40), [], []⟩, ⟨("_law_line", none), "_law_line", "_law_line", defArgs (top 42), defBody (top 42), defScope (top 42), [], []⟩, ⟨("_law_same", none), "_law_same", "_law_same", defArgs (top 37), defBody (top 37), defScope (top 37), [], []⟩, ⟨("_law_take", none), "_law_take", "_law_take", defArgs (top 39), defBody (top 39), defScope (top 39), [], []⟩, ⟨("_law_sides", none), "_law_sides", "_law_sides", defArgs (top 41), defBody (top 41), defScope (top 41), [], []⟩, ⟨("_law_texts", none), "_law_texts", "_law_texts", defArgs (top 44), defBody (top 44), defScope (top 44), [], []⟩, ⟨("_law_walk", none), "_law_walk", "_law_walk", defArgs (top 43), defBody (top 43), defScope (top 43), [], []⟩, ⟨("borders", none), "borders", "borders", defArgs (top 21), defBody (top 21), defScope (top 21), [], []⟩, ⟨("count_posts", none), "count_posts", "count_posts", defArgs (top 14), defBody (top 14), defScope (top 14), [], []⟩, ⟨("is_integer", none), "is_integer", "is_integer", defArgs (top 9), defBody (top 9), defScope (top 9), [], []⟩, ⟨("is_place", none), "is_place", "is_place", defArgs (top 15), defBody (top 15), defScope (top 15), [], []⟩, ⟨("check_place", none), "check_place", "check_place", defArgs (top 16), defBody (top 16), defScope (top 16), [], []⟩, ⟨("is_side", none), "is_side", "is_side", defArgs (top 10), defBody (top 10), defScope (top 10), [], []⟩, ⟨("is_run", none), "is_run", "is_run", defArgs (top 11), defBody (top 11), defScope (top 11), [], []⟩, ⟨("is_posts", none), "is_posts", "is_posts", defArgs (top 12), defBody (top 12), defScope (top 12), [], []⟩, ⟨("check_posts", none), "check_posts", "check_posts", defArgs (top 13), defBody (top 13), defScope (top 13), [], []⟩, ⟨("can_be_before", none), "can_be_before", "can_be_before", defArgs (top 31), defBody (top 31), defScope (top 31), [], []⟩, ⟨("check_limit", none), "check_limit", "check_limit", defArgs (top 28), defBody (top 28), defScope (top 28), [], []⟩, ⟨("doubled", none), "doubled", "doubled", defArgs (top 27), defBody (top 27), defScope (top 27), [], []⟩, ⟨("count_all_before", none), "count_all_before", "count_all_before", defArgs (top 33), defBody (top 33), defScope (top 33), [], []⟩, ⟨("ways", none), "ways", "ways", defArgs (top 26), defBody (top 26), defScope (top 26), [], []⟩, ⟨("numbers_before", none), "numbers_before", "numbers_before", defArgs (top 29), defBody (top 29), defScope (top 29), [], []⟩, ⟨("count_before", none), "count_before", "count_before", defArgs (top 32), defBody (top 32), defScope (top 32), [], []⟩, ⟨("check_index", none), "check_index", "check_index", defArgs (top 23), defBody (top 23), defScope (top 23), [], []⟩, ⟨("joined", none), "joined", "joined", defArgs (top 17), defBody (top 17), defScope (top 17), [], []⟩, ⟨("nth_sides", none), "nth_sides", "nth_sides", defArgs (top 30), defBody (top 30), defScope (top 30), [], []⟩, ⟨("nth_before", none), "nth_before", "nth_before", defArgs (top 34), defBody (top 34), defScope (top 34), [], []⟩, ⟨("law", none), "law", "law", defArgs (top 45), defBody (top 45), defScope (top 45), [], []⟩]
def fa : List He.Fa := [.glo "_law_bag", .glo "_law_cell_at", .glo "_law_joined", .glo "_law_line", .glo "_law_same", .glo "_law_take", .glo "_law_sides", .glo "_law_texts", .glo "_law_walk", .glo "borders", .glo "count_posts", .glo "is_integer", .glo "is_place", .glo "check_place", .glo "is_side", .glo "is_run", .glo "is_posts", .glo "check_posts", .glo "can_be_before", .glo "check_limit", .glo "doubled", .glo "count_all_before", .glo "ways", .glo "numbers_before", .glo "count_before", .glo "check_index", .glo "joined", .glo "nth_sides", .glo "nth_before", .glo "law", .free "all", .free "bool", .free "int", .free "isinstance", .free "len", .free "list", .free "max", .free "min", .free "range", .free "str", .free "sum", .free "tuple", .free "zip", .str "LEFT_posts" "L", .str "LEFT_walks" "L", .int "LIMIT" 200, .str "RIGHT_posts" "R", .str "RIGHT_walks" "R", .glo "InvalidNumber", .glo "InvalidPlace", .glo "InvalidPosts", .exc "InvalidNumber", .exc "InvalidPlace", .exc "InvalidPosts"]
def qf : List Qf := []
theorem fc_of {K : PySem.W.Frag} {h : Heap} {mg : Str → Option Value} (X : K.In h) (G : h.Ns mainGlobals mg) (c : He.SaysD fa fn K) (e : (qf.all fun f => f.ok K) = true) : Fc K mg where
  b_all := He.free_ok X G (c.fact 30 rfl)
  b_bool := He.free_ok X G (c.fact 31 rfl)
  b_int := He.free_ok X G (c.fact 32 rfl)
  b_isinstance := He.free_ok X G (c.fact 33 rfl)
  b_len := He.free_ok X G (c.fact 34 rfl)
  b_list := He.free_ok X G (c.fact 35 rfl)
  b_max := He.free_ok X G (c.fact 36 rfl)
  b_min := He.free_ok X G (c.fact 37 rfl)
  b_range := He.free_ok X G (c.fact 38 rfl)
  b_str := He.free_ok X G (c.fact 39 rfl)
  b_sum := He.free_ok X G (c.fact 40 rfl)
  b_tuple := He.free_ok X G (c.fact 41 rfl)
  b_zip := He.free_ok X G (c.fact 42 rfl)
  c_LEFT_posts := He.str_ok X G (c.fact 43 rfl)
  c_LEFT_walks := He.str_ok X G (c.fact 44 rfl)
  c_LIMIT := He.int_ok X G (c.fact 45 rfl)
  c_RIGHT_posts := He.str_ok X G (c.fact 46 rfl)
  c_RIGHT_walks := He.str_ok X G (c.fact 47 rfl)
  g_InvalidNumber := He.glo_ok X G (c.fact 48 rfl)
  g_InvalidPlace := He.glo_ok X G (c.fact 49 rfl)
  g_InvalidPosts := He.glo_ok X G (c.fact 50 rfl)
  x_InvalidNumber := excF_of X G (c.fact 48 rfl) (c.fact 51 rfl)
  x_InvalidPlace := excF_of X G (c.fact 49 rfl) (c.fact 52 rfl)
  x_InvalidPosts := excF_of X G (c.fact 50 rfl) (c.fact 53 rfl)
  g__law_bag := He.glo_ok X G (c.fact 0 rfl)
  d__law_bag := c.def_ 0 rfl
  g__law_cell_at := He.glo_ok X G (c.fact 1 rfl)
  d__law_cell_at := c.def_ 1 rfl
  g__law_joined := He.glo_ok X G (c.fact 2 rfl)
  d__law_joined := c.def_ 2 rfl
  g__law_line := He.glo_ok X G (c.fact 3 rfl)
  d__law_line := c.def_ 3 rfl
  g__law_same := He.glo_ok X G (c.fact 4 rfl)
  d__law_same := c.def_ 4 rfl
  g__law_take := He.glo_ok X G (c.fact 5 rfl)
  d__law_take := c.def_ 5 rfl
  g__law_sides := He.glo_ok X G (c.fact 6 rfl)
  d__law_sides := c.def_ 6 rfl
  g__law_texts := He.glo_ok X G (c.fact 7 rfl)
  d__law_texts := c.def_ 7 rfl
  g__law_walk := He.glo_ok X G (c.fact 8 rfl)
  d__law_walk := c.def_ 8 rfl
  g_borders := He.glo_ok X G (c.fact 9 rfl)
  d_borders := c.def_ 9 rfl
  g_count_posts := He.glo_ok X G (c.fact 10 rfl)
  d_count_posts := c.def_ 10 rfl
  g_is_integer := He.glo_ok X G (c.fact 11 rfl)
  d_is_integer := c.def_ 11 rfl
  g_is_place := He.glo_ok X G (c.fact 12 rfl)
  d_is_place := c.def_ 12 rfl
  g_check_place := He.glo_ok X G (c.fact 13 rfl)
  d_check_place := c.def_ 13 rfl
  g_is_side := He.glo_ok X G (c.fact 14 rfl)
  d_is_side := c.def_ 14 rfl
  g_is_run := He.glo_ok X G (c.fact 15 rfl)
  d_is_run := c.def_ 15 rfl
  g_is_posts := He.glo_ok X G (c.fact 16 rfl)
  d_is_posts := c.def_ 16 rfl
  g_check_posts := He.glo_ok X G (c.fact 17 rfl)
  d_check_posts := c.def_ 17 rfl
  g_can_be_before := He.glo_ok X G (c.fact 18 rfl)
  d_can_be_before := c.def_ 18 rfl
  g_check_limit := He.glo_ok X G (c.fact 19 rfl)
  d_check_limit := c.def_ 19 rfl
  g_doubled := He.glo_ok X G (c.fact 20 rfl)
  d_doubled := c.def_ 20 rfl
  g_count_all_before := He.glo_ok X G (c.fact 21 rfl)
  d_count_all_before := c.def_ 21 rfl
  g_ways := He.glo_ok X G (c.fact 22 rfl)
  d_ways := c.def_ 22 rfl
  g_numbers_before := He.glo_ok X G (c.fact 23 rfl)
  d_numbers_before := c.def_ 23 rfl
  g_count_before := He.glo_ok X G (c.fact 24 rfl)
  d_count_before := c.def_ 24 rfl
  g_check_index := He.glo_ok X G (c.fact 25 rfl)
  d_check_index := c.def_ 25 rfl
  g_joined := He.glo_ok X G (c.fact 26 rfl)
  d_joined := c.def_ 26 rfl
  g_nth_sides := He.glo_ok X G (c.fact 27 rfl)
  d_nth_sides := c.def_ 27 rfl
  g_nth_before := He.glo_ok X G (c.fact 28 rfl)
  d_nth_before := c.def_ 28 rfl
  g_law := He.glo_ok X G (c.fact 29 rfl)
  d_law := c.def_ 29 rfl
abbrev R : PySem.W.OpenRow := PySem.W.OpenLaw.row PySem.Challenge.rw_swingposts_k35_before_by_search
abbrev hk : PySem.W.Hook := hookQ 4 fa fn qf
def ob (s : PySem.W.SharedT) : He.AlD × Bool := obsQ 4 fa fn qf (HandSHeadRun.getT s)
theorem ob_eq (s : PySem.W.SharedT) : ob s = hk.obs s.abs := obsQ_eq (HandSHeadRun.getT_eq s)
theorem run (w : World) : HandSHeadRun.RunEq R (PySem.W.view R.prog [45]) hk ob 40000 ((.cons "PostError" (.cons "InvalidPosts" (.cons "InvalidPlace" (.cons "InvalidNumber" (.cons "TooLarge" (.cons "LEFT_posts" (.cons "RIGHT_posts" (.cons "is_integer" (.cons "is_side" (.cons "is_run" (.cons "is_posts" (.cons "check_posts" (.cons "count_posts" (.cons "is_place" (.cons "check_place" (.cons "joined" (.cons "LEFT_walks" (.cons "RIGHT_walks" (.cons "borders" (.cons "check_index" (.cons "LIMIT" (.cons "ways" (.cons "doubled" (.cons "check_limit" (.cons "numbers_before" (.cons "nth_sides" (.cons "can_be_before" (.cons "count_before" (.cons "count_all_before" (.cons "nth_before" (.cons "_law_cell_at" (.cons "_law_same" (.cons "_law_bag" (.cons "_law_take" (.cons "_law_joined" (.cons "_law_sides" (.cons "_law_line" (.cons "_law_walk" (.cons "_law_texts" .nil))))))))))))))))))))))))))))))))))))))) : List PySem.Str) w := by
  intro os
  kernel_rfl
end G

open PySem PySem.W PySem.Calls PyProof.Rows in
theorem PySem.Challenge.cw_swingposts_k35_before_by_search_holds : PySem.Challenge.rw_swingposts_k35_before_by_search.Holds := by
  w_on; o_law
  refine HandSHeadRun.head_any (r := OpenLaw.row PySem.Challenge.rw_swingposts_k35_before_by_search) (q := view (OpenLaw.row PySem.Challenge.rw_swingposts_k35_before_by_search).prog [45]) (H := G.hk) (ob := G.ob) (M := 40000) (loose := ((.cons "PostError" (.cons "InvalidPosts" (.cons "InvalidPlace" (.cons "InvalidNumber" (.cons "TooLarge" (.cons "LEFT_posts" (.cons "RIGHT_posts" (.cons "is_integer" (.cons "is_side" (.cons "is_run" (.cons "is_posts" (.cons "check_posts" (.cons "count_posts" (.cons "is_place" (.cons "check_place" (.cons "joined" (.cons "LEFT_walks" (.cons "RIGHT_walks" (.cons "borders" (.cons "check_index" (.cons "LIMIT" (.cons "ways" (.cons "doubled" (.cons "check_limit" (.cons "numbers_before" (.cons "nth_sides" (.cons "can_be_before" (.cons "count_before" (.cons "count_all_before" (.cons "nth_before" (.cons "_law_cell_at" (.cons "_law_same" (.cons "_law_bag" (.cons "_law_take" (.cons "_law_joined" (.cons "_law_sides" (.cons "_law_line" (.cons "_law_walk" (.cons "_law_texts" .nil))))))))))))))))))))))))))))))))))))))) : List PySem.Str)) (d := HandSHeadRun.topDef (OpenLaw.row PySem.Challenge.rw_swingposts_k35_before_by_search).prog 45) (kwd := []) G.ob_eq
    (by kernel_rfl) (fun s => by kernel_rfl) G.run (by kernel_rfl) (by kernel_rfl) (by kernel_rfl) (by rfl) (by first | assumption | decide +kernel) (by decide +kernel) ⟨rfl, rfl, rfl, rfl, rfl, by decide +kernel⟩ ?hw ?hc
  case hw => w_witness2
  case hc =>
    refine Mi.walk_ofQ (l := PySem.Challenge.rw_swingposts_k35_before_by_search) (n := 63) (k := 10) (x := "script") rfl (by decide) (by kernel_rfl) ⟨rfl, by decide, by decide⟩ (f := G.Flaw) ?F G.law_true
    intro w mg fa h Y G0 hmg0
    obtain ⟨K, KX, c, e⟩ := Y
    have C := G.fc_of KX G0 c e
    have hmg : mg ("law" : PySem.Str) = some (.ref fa) := by
      have e : (HandSHeadRun.topDef (OpenLaw.row PySem.Challenge.rw_swingposts_k35_before_by_search).prog 45).name = ("law" : PySem.Str) := by kernel_rfl
      rw [← e]
      exact hmg0
    have ef : fa = He.ga K "law" := by
      have z := hmg.symm.trans C.g_law
      cases z
      rfl
    subst ef
    exact ⟨K, Mi.walk_end (P := PySem.Challenge.rw_swingposts_k35_before_by_search.prog) (w := w) KX C.d_law (fun fd F s v => L2.FunD.bindsA (ps := ["script"]) F (fun _ _ _ _ _ _ us hl => match us, hl with | [_], _ => rfl) s [v] rfl) fun base => G.ok_law (base := base) C⟩
