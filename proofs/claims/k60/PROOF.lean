import PyProof.Rows.All
import Wide.All
import OpenK.AllK
import Wide.FinOn
import HandS.ForMost
import HandS.EndBits
import HandS.IsInst
import HandS.Wide
import HandS.NoneIn
import HandS.More
import HandS.Text
import HandS.SortInts
import HandS.Style
import HandS.WideBits
import HandS.TupLe
import HandS.TupAny
import HandS.Deep
import HandS.FStr
import HandS.Defaults
import HandS.ExcIs
import HandS.WordsExc
import HandS.TryMany
import HandS.WordsDict
import HandS.Replace
import PyProof.EqKinds
import HandS.Dict
import HandS.Iter
import KE.KEqDict
import PyProof.DictRoadsH
import KE.KStateDown
import HandS.Head0
import HandS.Head1
import HandS.Head2
import HandS.HeadEnd
import HandS.HeadHook1
import HandS.HeadHook2
import PySem.Challenge.RW_signtable_k60_trimmed_words
set_option Elab.async false
set_option linter.all false
set_option maxRecDepth 100000
set_option maxHeartbeats 4000000
namespace DL
open PySem PySem.Spec PyProof.Rows L2
/-! exceptions that are kept: tracked from the except clause on -/
def ExK (cls : Value) (a : Addr) : HO := .ext fun h => ∃ (oe : Obj) (vs : Array Value), h.get? a = some oe ∧ Zc cls none oe ∧ oe.data = .fields vs
theorem exK_ok {P : Program} {w : World} {H : Hp} {h : Heap} {a : Addr} {cls : Value} {oe : Obj} {vs : Array Value} (e : h.get? a = some oe) (z : Zc cls none oe) (q : oe.data = .fields vs) : ObjOk P w H h a (ExK cls a) :=
  ⟨⟨oe, vs, e, z, q⟩, ⟨oe, e⟩, fun g1 g2 ⟨o, us, e1, z1, q1⟩ k => ⟨o, us, k o e1, z1, q1⟩⟩
/-- one except clause: its class, the slot of its name, its suite -/
structure HK where
  c : Value
  sl : Option Nat
  ts : Value → TS
def offS (o : Option Nat) (σ : L2.St) : L2.St := match o with
  | none => σ
  | some i => σ.set i none
def onS (o : Option Nat) (a : Addr) (σ : L2.St) : L2.St := match o with
  | none => σ
  | some i => σ.set i (some (.ref a))
def offD (o : Option Nat) (D : Ends) : Ends where
  nx := fun σ H => D.nx (offS o σ) H
  rt := D.rt
  bk := fun σ H => D.bk (offS o σ) H
  ct := fun σ H => D.ct (offS o σ) H
def wK (K : PySem.W.Frag) (Wout : WX) (D : Ends) : List HK → WX
  | [] => Wout
  | k :: r => fun cls d σ H => ∃ b, PySem.W.exmOne K cls k.c = some b ∧
      (b = true → d = none ∧ ∀ a, H a = none → k.ts cls (offD k.sl D) (onS k.sl a σ) (upd H a (ExK cls a))) ∧ (b = false → wK K Wout D r cls d σ H)
inductive NmOk (X : Cx) : Option Str → Option Nat → Prop
  | no : NmOk X none none
  | as {n : Str} {i : Nat} (hi : X.N[i]? = some n) (hl : X.env.kindOf n = some .local) : NmOk X (some n) (some i)
inductive HdK (X : Cx) : List ExceptHandler → List HK → Prop
  | nil : HdK X [] []
  | cons {x : Str} {on : Option Str} {k : HK} {st : Stmt} {sts : List Stmt} {p1 p2 : Pos} {hds : List ExceptHandler} {l : List HK} (hc : Names X x k.c) (hn : NmOk X on k.sl)
      (hs : ∀ (a : Addr) (pn : List (Addr × Obj)) (cls : Value), PSs (X.suite a pn) (st :: sts) (k.ts cls)) (r : HdK X hds l) : HdK X (.ExceptHandler (some (.Name x p1)) on (st :: sts) p2 :: hds) (k :: l)
section
variable {X : Cx} {pins : List (Addr × Obj)} {σ : L2.St} {H : Hp} {s : Shared}
/-- the exception's object, seen as one of ours -/
theorem suiteK (I : Inv X pins σ H s) {a : Addr} {cls : Value} {oe : Obj} {vs : Array Value} (ha : s.heap.get? a = some oe) (hz : Zc cls none oe) (hq : oe.data = .fields vs) (na : H a = none) (nL : a ≠ X.env.locals)
    (n0 : X.s_0.heap.get? a = none) (np : ∀ p ∈ X.pn ++ pins, p.1 ≠ a) : Inv (X.suite a (X.pn ++ pins)) [] σ (upd H a (ExK cls a)) s := by
  have t0 : ∀ {b u}, H b = some u → b ≠ a := fun e z => by rw [z, na] at e; cases e
  have b0 : ∀ {b o}, X.s_0.heap.get? b = some o → b ≠ a := fun e z => by rw [z, n0] at e; cases e
  have cn : ∀ x c, X.env.cells.lookup x = some c → c ≠ a := fun x c e z => by
    obtain ⟨v, o, ho, hv⟩ := I.cell x c e
    rw [z, ha] at ho; cases ho
    rw [hq] at hv; cases hv
  have ub : Un X.fs X.ex X.H_0 (upd H a (ExK cls a)) X.s_0.heap s.heap :=
    { keep := I.base.keep, slot := I.base.slot, there := I.base.there
      free := fun b o e n x => (upd_ne (b0 e)).trans (I.base.free b o e n x)
      tups := fun b xs e => (upd_ne (t0 (I.base.tups b xs e))).trans (I.base.tups b xs e)
      frzs := fun b o u e => (upd_ne (t0 (I.base.frzs b o u e))).trans (I.base.frzs b o u e)
      tbls := fun b ps e => (I.base.tbls b ps e).imp fun m q => (upd_ne (t0 q)).trans q }
  have hk : HOk X.prog X.w (upd H a (ExK cls a)) s.heap := fun b u e => by
    by_cases hb : b = a
    · subst hb
      rw [upd_same] at e; cases e
      exact exK_ok ha hz hq
    · rw [upd_ne hb] at e
      exact (I.hok b u e).stay (fun _ _ _ q => q) (fun _ q => (upd_ne (t0 q)).trans q) fun _ _ q => (upd_ne (t0 q)).trans q
  exact ⟨I.ok.suite a _, I.os, I.bare, ub, I.loc, I.cell, (upd_ne nL.symm).trans I.free, fun x c e => (upd_ne (cn x c e)).trans (I.freeC x c e), fun p hp => by
    have hp' : p ∈ X.pn ++ pins := by rw [List.append_nil] at hp; exact hp
    obtain ⟨q1, q2, q3⟩ := I.pin p hp'
    exact ⟨q1, (upd_ne (np p hp')).trans q2, q3⟩, hk, I.len⟩
theorem unsuiteK {a : Addr} {pn : List (Addr × Obj)} (I : Inv (X.suite a (X.pn ++ pins)) pn σ H s) (ok : X.Ok) : Inv X pins σ H s :=
  ⟨ok, I.os, I.bare, I.base, I.loc, I.cell, I.free, I.freeC, fun p hp => I.pin p (List.mem_append_left pn hp), I.hok, I.len⟩
end
section
variable {X : Cx} {body : List Stmt} {hd : ExceptHandler} {hds : List ExceptHandler} {l : List HK} {pos : Pos} {tb : WX → TS} {Wout : WX}
theorem ps_tryK (hex : X.ex = []) (hs : X.stack = X.env :: X.outer) (hf : X.env.frame = some X.env.locals) (hN : X.N.Nodup) (tk : Takes X Wout)
    (hb : ∀ (W : WX) (pn : List (Addr × Obj)) (xe : Value → Shared → Prop), Takes (X.tr pn xe) W → PassesOwn (model X.prog X.w) X.A X.env xe → PSs (X.tr pn xe) body (tb W))
    (hh : HdK X (hd :: hds) l) : PS X (.Try body (hd :: hds) [] [] pos) (fun D σ H => tb (wK X.K Wout D l) D σ H) := by
  refine ⟨fun pins s σ H D I hw => wpAny_Try_except ?_⟩
  have ok := I.ok
  have hfr : X.A.frames = some (X.env :: X.outer) := ok.frames.trans (by rw [hs])
  let xe : Value → Shared → Prop := fun e t1 => wpAny (model X.prog X.w) X.A (noteFrame e X.env) (fun _ t2 => wpAny (model X.prog X.w) X.A (setFlight e none) (fun _ t3 =>
      wpAny (model X.prog X.w) X.A (handleBy e X.env (hd :: hds)) (SP X pins D) X.xe t3) X.xe t2) X.xe t1
  have tkb : Takes (X.tr (X.pn ++ pins) xe) (wK X.K Wout D l) := by
    rintro u t ⟨a, B, sI, pI, σ1, H1, cls, d, rfl, JI, nb, up, sky, na, os, ag, w⟩
    have J := JI.ofTry ok
    have skX : Sky B (X.env :: X.outer) a (Zc cls d) X.env.locals t.heap := by rw [← hs]; exact sky
    have nB : B.get? a = none := by
      rcases skX with z | z | z
      · exact z.2.1
      · exact z.2.1
      · exact z.2.1
    refine Sky.land Zc.steady hfr hf skX fun g3 f3 u3 => ?_
    have J3 : Inv X pins σ1 H1 { t with heap := g3 } := J.landed nb f3.1 (up.trans u3) os ag
    obtain ⟨o3, v3, e3, z3, q3⟩ := f3.there
    have nfr : a ∉ frs (X.env :: X.outer) := fun hm => by
      obtain ⟨_, o', e', hnf⟩ := f3.2.2.1.mem hm
      rw [e3] at e'; cases e'
      exact hnf _ q3
    have nL : a ≠ X.env.locals := fun z => nfr (List.mem_filterMap.mpr ⟨X.env, List.mem_cons_self, z ▸ hf⟩)
    have new : ∀ b o, sI.heap.get? b = some o → b ∉ frs X.stack → b ≠ a := fun b o e hb z => by
      have q := nb b o e hb
      rw [z, nB] at q; cases q
    have nfs : a ∉ frs X.stack := by rw [hs]; exact nfr
    have n0 : X.s_0.heap.get? a = none := by
      cases q : X.s_0.heap.get? a with
      | none => rfl
      | some o =>
        obtain ⟨o', e'⟩ := J.base.there a o q (by rw [hex]; exact List.not_mem_nil)
        exact absurd rfl (new a o' e' nfs)
    have np : ∀ p ∈ X.pn ++ pins, p.1 ≠ a := fun p hp => by
      obtain ⟨q1, _, q3, q4, _⟩ := J.pin p hp
      refine new p.1 p.2 q1 fun hm => ?_
      rw [hs] at hm
      obtain ⟨e, he, q⟩ := List.mem_filterMap.mp hm
      rcases List.mem_cons.mp he with z | z
      · rw [z, hf] at q; exact q3 (Option.some.inj q).symm
      · exact q4 (List.mem_filterMap.mpr ⟨e, z, q⟩)
    have S0 : Inv (X.suite a (X.pn ++ pins)) [] σ1 H1 { t with heap := g3 } :=
      ⟨J3.ok.suite a _, J3.os, J3.bare, J3.base, J3.loc, J3.cell, J3.free, J3.freeC, fun p hp => J3.pin p (by rw [List.append_nil] at hp; exact hp), J3.hok, J3.len⟩
    have go : ∀ {hds' : List ExceptHandler} {l' : List HK}, HdK X hds' l' → wK X.K Wout D l' cls d σ1 H1 →
        wpAny (model X.prog X.w) X.A (handleBy (.ref a) X.env hds') (SP X pins D) X.xe { t with heap := g3 } := by
      intro hds' l' hk
      induction hk with
      | nil =>
        intro w
        refine wpAny_handleBy_nil ?_
        obtain ⟨_, _, _, o, vs, T, _, _, he, _, hd, h1, _⟩ := id f3
        unfold PySem.passOn
        refine wpAny_bind (wpAny_field he hd h1 ?_)
        rw [if_neg (show ¬ (Value.ref T == Value.none) = true from by simp)]
        have out : wpAny (model X.prog X.w) X.A (setFlight (.ref a) X.env.frame) (fun _ t4 => wpAny (model X.prog X.w) X.A (throw (.ref a) : Sem Flow) (SP X pins D) X.xe t4) X.xe { t with heap := g3 } := by
          rw [hf]
          exact HandSPX.setFlight_upZ f3 fun g4 k4 u4 => wpAny_throw (tk _ _ ⟨a, B, sI, pins, σ1, H1, cls, d, rfl, J, nb, (up.trans u3).trans u4, .inr (.inr (by rw [hs]; exact k4)), na, os, ag, w⟩)
        first
          | exact wpAny_bind out
          | exact wpAny_bind (wpAny_pure (wpAny_bind out))
      | @cons x on k st sts p1 p2 hds2 l2 hc hn hsu r ih =>
        intro w
        obtain ⟨b, hb1, hyes, hno⟩ := w
        refine wpAny_handleBy_cons (codeAny_handlers_test ?_) (by intro q; cases q)
        have lt : PySem.W.Looks (model X.prog X.w) g3 (typeOf (.ref a)) cls := fun A Q E t' kk q => wpAny_typeOf_ref (kk _ _ e3) (by rw [z3.1]; exact q)
        have lm := PySem.W.exm_one (M := model X.prog X.w) J3.kIn lt hb1
        have test : ∀ {Q : Value → Shared → Prop} {E : Value → Shared → Prop}, Q k.c { t with heap := g3 } → wpAny (model X.prog X.w) (X.A.mark (some (.ref a))) (eval (.Name x p1) X.env) Q E { t with heap := g3 } := fun {Q E} q => by
          obtain ⟨hg, hdb, hm | ⟨hm, hv, hne⟩⟩ := hc
          · exact ld_glob (X := X.suite a (X.pn ++ pins)) S0 hg hm q hdb
          · exact ld_blt (X := X.suite a (X.pn ++ pins)) S0 hg hm hv q hne hdb
        refine test (lm.here ?_)
        cases b with
        | false => exact ih (hno rfl)
        | true =>
          obtain ⟨rfl, hw⟩ := hyes rfl
          have hw := hw a na
          have core : ∀ {g4 : Heap}, HandSPX.FlyingZ B (X.env :: X.outer) a (Zc cls none) g4 → Heap.UpToSlots g3 g4 → Inv (X.suite a (X.pn ++ pins)) [] σ1 (upd H1 a (ExK cls a)) { t with heap := g4 } := fun {g4} f4 u4 => by
            have J4 : Inv X pins σ1 H1 { t with heap := g4 } := J.landed nb f4.1 ((up.trans u3).trans u4) os ag
            obtain ⟨o4, v4, e4, z4, q4⟩ := f4.there
            exact suiteK J4 e4 z4 q4 na nL n0 np
          obtain ⟨kc, ksl, kts⟩ := k
          dsimp only at hn hw hsu
          cases hn with
          | no =>
            refine codeAny_handlers_suite (HandSPX.lands_againZ f3 fun g4 f4 u4 => ?_)
            refine wpAny_mono ((hsu a (X.pn ++ pins) cls).run [] _ _ _ _ (core f4 u4) hw) (fun fl s6 sp => ?_) fun _ _ z => z.elim
            cases fl with
            | next => exact sp.imp fun σ6 sp => sp.imp fun H6 sp => ⟨unsuiteK sp.1 ok, sp.2⟩
            | brk => exact sp.imp fun σ6 sp => sp.imp fun H6 sp => ⟨unsuiteK sp.1 ok, sp.2⟩
            | cont => exact sp.imp fun σ6 sp => sp.imp fun H6 sp => ⟨unsuiteK sp.1 ok, sp.2⟩
            | ret u =>
              obtain ⟨v6, σ6, H6, S6, r6, w6⟩ := sp
              exact ⟨v6, σ6, H6, unsuiteK S6 ok, r6, w6⟩
          | @as n i hi hl =>
            refine codeAny_handlers_suite_as (HandSPX.lands_againZ f3 fun g4 f4 u4 => ?_)
            refine store_ok (X := X.suite a (X.pn ++ pins)) (v := .ref a) (core f4 u4) hN hi (.inl hl) rfl (fun s5 S5 => ?_) (.inr hl)
            refine wpAny_mono ((hsu a (X.pn ++ pins) cls).run [] _ _ _ _ S5 hw) (fun fl s6 sp => ?_) fun _ _ z => z.elim
            have gone : ∀ {σ6 : L2.St} {H6 : Hp} {Q : Shared → Prop}, Inv (X.suite a (X.pn ++ pins)) [] σ6 H6 s6 → (∀ s7, Inv X pins (σ6.set i none) H6 s7 → Q s7) →
                wpAny (model X.prog X.w) X.A (do bindName X.env n .none; unbindBehindTheSuite X.env n p2) (fun _ s7 => Q s7) X.xe s6 := fun S6 q => gone_ok (unsuiteK S6 ok) hN hi hl q
            cases fl with
            | next =>
              obtain ⟨σ6, H6, S6, w6⟩ := sp
              exact gone S6 fun s7 J7 => ⟨_, _, J7, w6⟩
            | brk =>
              obtain ⟨σ6, H6, S6, w6⟩ := sp
              exact gone S6 fun s7 J7 => ⟨_, _, J7, w6⟩
            | cont =>
              obtain ⟨σ6, H6, S6, w6⟩ := sp
              exact gone S6 fun s7 J7 => ⟨_, _, J7, w6⟩
            | ret u =>
              obtain ⟨v6, σ6, H6, S6, r6, w6⟩ := sp
              exact gone S6 fun s7 J7 => ⟨_, _, _, J7, r6, w6⟩
    exact go hh w
  refine wpAny_mono ((hb (wK X.K Wout D l) (X.pn ++ pins) xe tkb PassesOwn.looking).run [] s σ H D (I.toTry _) hw) (fun fl s1 sp => ?_) fun _ _ z => z
  cases fl with
  | next =>
    obtain ⟨σ1, H1, J1, w1⟩ := sp
    exact wpAny_execs_nil ⟨σ1, H1, J1.ofTry ok, w1⟩
  | brk => exact sp.imp fun σ1 sp => sp.imp fun H1 sp => ⟨sp.1.ofTry ok, sp.2⟩
  | cont => exact sp.imp fun σ1 sp => sp.imp fun H1 sp => ⟨sp.1.ofTry ok, sp.2⟩
  | ret u =>
    obtain ⟨v1, σ1, H1, J1, r1, w1⟩ := sp
    exact ⟨v1, σ1, H1, J1.ofTry ok, r1, w1⟩
end
end DL
namespace DL
open PySem PySem.Spec PyProof.Rows L2
/-! isinstance of None or of an exception that is kept -/
def TyK (K : PySem.W.Frag) (H : Hp) (x : V) (t : Value) : Prop := TyX K H x t ∨ ∃ a D : Addr, x = .ref a ∧ t = .ref D ∧ ExcC K D ∧ H a = some (ExK (.ref D) a)
section
variable {X : Cx}
theorem kit_ofK {pins : List (Addr × Obj)} {σ : L2.St} {H : Hp} {s : Shared} {x : V} {u t : Value} (I : Inv X pins σ H s) (rx : RelV x u) (ty : TyK X.K H x t) :
    ∃ P : Heap → Prop, PySem.W.KitX X.K u t P ∧ P s.heap ∧ u ≠ .builtin "__main__.__loader__#opaque" := by
  rcases ty with ty | ⟨a, D, rfl, rfl, c, e⟩
  · exact kit_of I rx ty
  · cases (show u = Value.ref a from rx)
    obtain ⟨⟨oe, vs, e1, z, q⟩, _⟩ := (show ObjOk X.prog X.w H s.heap a (ExK (.ref D) a) from I.hok a _ e)
    have J : PySem.W.InstAt s.heap a oe D none := by
      obtain ⟨oc, od, dt, sl⟩ := oe
      obtain ⟨z1, z2⟩ := z
      dsimp only at z1 z2 q
      subst z1 z2 q
      exact ⟨e1, rfl, rfl, trivial⟩
    exact ⟨_, PySem.W.handS_kitx_exc c.hg c.hk c.hs c.hd c.ha c.hn c.ht c.hm, J, fun z => nomatch z⟩
theorem call_isK1 : CallR X (.builtin "isinstance") fun xs H Q => ∃ (x c : V) (t u : Value) (b : Bool), xs = [x, c] ∧ ClsV c u ∧ TyK X.K H x t ∧ PySem.W.kitOne X.K t u = some b ∧ Q (.bl b) H := by
  intro pins s σ H xs us Q I r ⟨x, c, t, u, b, e0, k, ty, e, q⟩
  subst e0
  obtain ⟨u1, u2, rfl, r1, r2⟩ := vals2 r
  cases k.eq r2
  obtain ⟨P, Z, p, hx⟩ := kit_ofK I r1 ty
  exact PySem.W.kia_one Z I.kIn p e hx fun tk => ⟨.bl b, H, I.tok tk, rfl, q⟩
theorem call_isKT : CallR X (.builtin "isinstance") fun xs H Q => ∃ (x : V) (tp : Addr) (cs : List V) (t : Value) (us : List Value) (b : Bool), xs = [x, .ref tp] ∧ H tp = some (.tup cs) ∧ Paired ClsV cs us ∧ TyK X.K H x t ∧ PySem.W.kitAny X.K t us = some b ∧ Q (.bl b) H := by
  intro pins s σ H xs us Q I r ⟨x, tp, cs, t, ws, b, e0, hT, k, ty, e, q⟩
  subst e0
  obtain ⟨u1, u2, rfl, r1, r2⟩ := vals2 r
  cases (show u2 = Value.ref tp from r2)
  obtain ⟨P, Z, p, hx⟩ := kit_ofK I r1 ty
  obtain ⟨_, its, rv, ⟨oc, od, dt, sl⟩, h1, h2, n, h3⟩ := (show ObjOk X.prog X.w H s.heap tp (.tup cs) from I.hok tp _ hT)
  cases ClsV.all k rv
  dsimp only at h2 h3
  subst h2 h3
  exact PySem.W.kia_tup Z I.kIn p h1 e hx fun tk => ⟨.bl b, H, I.tok tk, rfl, q⟩
end
/-! raising -/
theorem ps_raiseK {X : Cx} {W : WX} {C : Addr} {x m : Str} {j : Nat} {p p2 pos pos2 : Pos} (hc : X.calm = true) (tk : Takes X W) (q : PySem.W.excIn X.K C HandSPX.veTail "ValueError.__new__" = true) (gC : X.mg x = some (.ref C)) (kC : PySem.W.keepIn X.K (.ref C) = true)
    (h1 : PySem.W.subIn X.K (.ref C) (.type "BaseException") = some true) (h2 : PySem.W.typeIn X.K (.ref C) = some (.type "type")) (hg : Gl X x) (hdb : (x == ("__debug__" : Str)) = false) :
    PS X (.Raise (some (.Call (.Name x p) [.Constant (.str m) j p2] [] pos)) none pos2) (fun _ σ H => W (.ref C) none σ H) := ps_raise hc tk (pmk_own PySem.F.excBase_ValueError q gC kC (raises_own h1 h2) hg hdb)
end DL
namespace DL
open PySem PySem.Spec PyProof.Rows L2
/-! dicts whose keys are pairs of a tuple (of ints and texts) and an int (k60) -/
abbrev NK := List L2.Key × Int
section
variable {prog : Program} {w : World} {A : Around} {E : Value → Shared → Prop} {s : Shared}
def IsNK (prog : Program) (w : World) (h : Heap) (k : NK) (a : Addr) : Prop := ∃ b t, IsTup h a #[.ref b, .int k.2 t] ∧ IsTupleKey (mixKind prog w) h k.1 b
def nkHash (prog : Program) (w : World) (k : NK) : Int := reduceHash (Builtin.Tuple.tupleHashOf [tupleKeyHash (mixKind prog w) k.1, (mixKind prog w).hash (.inl k.2)])
theorem nk_inj {h : Heap} {a : Addr} {x y : NK} (hx : IsNK prog w h x a) (hy : IsNK prog w h y a) : x = y := by
  obtain ⟨b, t, ⟨o, h1, h2, n, h3⟩, k1⟩ := hx
  obtain ⟨b', t', ⟨o', h1', h2', n', h3'⟩, k1'⟩ := hy
  rw [h1] at h1'; cases h1'
  rw [h3] at h3'
  have e : (#[Value.ref b, .int x.2 t] : Array Value) = #[.ref b', .int y.2 t'] := by injection h3'
  simp at e
  obtain ⟨rfl, e2, _⟩ := e
  exact Prod.ext (k1.inj k1') e2
theorem nk_keeps {h h' : Heap} {k : NK} {a d : Addr} {o : Obj} {es ep} (x : IsNK prog w h k a) (ho : h.get? d = some o) (hd : o.data = .dict es ep) (hs : Heap.SameBut d h h') : IsNK prog w h' k a := by
  obtain ⟨b, t, ⟨o', h1, h2, n, h3⟩, k1⟩ := x
  refine ⟨b, t, ⟨o', (hs.2 a ?_).trans h1, h2, n, h3⟩, k1.keeps ho hd hs⟩
  rintro rfl
  rw [h1] at ho; cases ho
  rw [h3] at hd; cases hd
theorem nk_pyHash {k : NK} {a : Addr} {Q : Int → Shared → Prop} (hu : A.units + 1 < cLine) (hk : IsNK prog w s.heap k a) (h : Q (nkHash prog w k) { s with toks := s.toks + (k.1.length + 3) }) : wpAny (model prog w) A (pyHash (.ref a)) Q E s := by
  obtain ⟨b, t, ⟨o, ho, hc, n, hd⟩, k1⟩ := hk
  have hT : s.TypeIs (.ref a) "tuple" := ⟨o, ho, hc⟩
  unfold pyHash
  first | unfold pyHashByItsType | skip
  first | refine wpAny_bind (wpAny_cRoomFor_or (.inr (Nat.lt_of_succ_lt hu)) ?_) | skip
  refine wpAny_bind (wpAny_specialOf hT F.slot_tuple_hash.lookup ?_)
  show wpAny _ _ (if (some (Value.builtin "tuple.__hash__") == some Value.none) = true then _ else _) Q E s
  rw [if_neg (by rw [beq_builtin_none]; exact Bool.false_ne_true)]
  refine wpAny_bind (wpAny_specialOf hT F.slot_tuple_hash.lookup ?_)
  show wpAny _ _ (callSpecialIfBoundUnlessNone? (.ref a) "__hash__" _ >>= _) Q E s
  refine wpAny_bind (wpAny_callSpecialIfBoundUnlessNone?_slot hT F.slot_tuple_hash (wpAny_call_entry F.slot_tuple_hash hT F.entry_tuple_hash ?_ (F.args_tuple_hash_1 _)))
  show wpAny _ _ (Builtin.Tuple.tupleItemsOf (.ref a) >>= _) _ _ s
  refine wpAny_bind (wpAny_tupleItemsOf ho hd ?_)
  refine wpAny_bind ?_
  rw [← Array.forIn_toList]
  refine wpAny_forIn_list _
    (fun rest (r : Array Int) s' => (rest = [.ref b, .int k.2 t] ∧ r.toList = [] ∧ s' = s) ∨ (rest = [.int k.2 t] ∧ r.toList = [tupleKeyHash (mixKind prog w) k.1] ∧ s' = { s with toks := s.toks + (k.1.length + 1) }) ∨
      (rest = [] ∧ r.toList = [tupleKeyHash (mixKind prog w) k.1, (mixKind prog w).hash (.inl k.2)] ∧ s' = { s with toks := s.toks + (k.1.length + 1) + 1 }))
    _ ?_ ?_ _ _ (.inl ⟨rfl, rfl, rfl⟩)
  · rintro x rest r s' (⟨e1, e2, rfl⟩ | ⟨e1, e2, rfl⟩ | ⟨e1, e2, rfl⟩)
    · cases e1
      refine wpAny_bind (wpAny_pyHash_tuple hu k1 ?_)
      first
        | exact wpAny_pure (.inr (.inl ⟨rfl, by simp [e2], rfl⟩))
        | exact wpAny_bind (wpAny_pure (wpAny_pure (.inr (.inl ⟨rfl, by simp [e2], rfl⟩))))
    · cases e1
      refine wpAny_bind ((mixKind prog w).pyHash (k := .inl k.2) (mixKind_int prog w k.2 t) ?_)
      first
        | exact wpAny_pure (.inr (.inr ⟨rfl, by simp [e2], rfl⟩))
        | exact wpAny_bind (wpAny_pure (wpAny_pure (.inr (.inr ⟨rfl, by simp [e2], rfl⟩))))
    · cases e1
  · rintro r s' (⟨e1, e2, rfl⟩ | ⟨e1, e2, rfl⟩ | ⟨e1, e2, rfl⟩)
    · cases e1
    · cases e1
    · show wpAny _ _ (retInt (Builtin.Tuple.tupleHashOf r.toList)) _ _ _
      rw [e2]
      refine wpAny_ret_mkInt ?_
      show wpAny _ _ (if (decide (-(2 : Int) ^ 63 ≤ Builtin.Tuple.tupleHashOf [tupleKeyHash (mixKind prog w) k.1, (mixKind prog w).hash (.inl k.2)]) && decide (Builtin.Tuple.tupleHashOf [tupleKeyHash (mixKind prog w) k.1, (mixKind prog w).hash (.inl k.2)] < 2 ^ 63)) = true then _ else _) Q E _
      unfold nkHash reduceHash at h
      by_cases hr : (decide (-(2 : Int) ^ 63 ≤ Builtin.Tuple.tupleHashOf [tupleKeyHash (mixKind prog w) k.1, (mixKind prog w).hash (.inl k.2)]) && decide (Builtin.Tuple.tupleHashOf [tupleKeyHash (mixKind prog w) k.1, (mixKind prog w).hash (.inl k.2)] < 2 ^ 63)) = true
      · rw [if_pos hr]
        rw [if_pos hr] at h
        exact wpAny_pure (by simpa [Nat.add_assoc] using h)
      · rw [if_neg hr]
        rw [if_neg hr] at h
        exact wpAny_bind (wpAny_rule (wpAny_pure (by simpa [Nat.add_assoc] using h)))
theorem nk_eq_tree {x y : NK} {a b : Addr} {P : Fin → Shared → Prop} (hu : A.units < cLine) (hx : IsNK prog w s.heap x a) (hy : IsNK prog w s.heap y b) (h : P (.done (.ret (.bool (decide (x = y))))) s) :
    wpAny (model prog w) A (Builtin.«tuple.__eq__» ⟨[.ref a, .ref b], []⟩) P E s := by
  obtain ⟨ba, ta, ⟨oa, hoa, hca, na, hda⟩, ka⟩ := hx
  obtain ⟨bb, tb, ⟨ob, hob, hcb, nb, hdb⟩, kb⟩ := hy
  have hTb : s.TypeIs (.ref b) "tuple" := ⟨ob, hob, hcb⟩
  show wpAny _ _ (isInstance (.ref b) (.type "tuple") >>= _) _ _ s
  refine wpAny_bind (wpAny_isInstance hTb isSubtype_tuple_tuple ?_)
  simp only [Bool.not_true, Bool.false_eq_true, if_false]
  refine wpAny_bind (wpAny_tupleItemsOf hoa hda ?_)
  refine wpAny_bind (wpAny_tupleItemsOf hob hdb ?_)
  refine wpAny_bind ?_
  refine wpAny_forIn_list _
    (fun rest r s' => r.1 = none ∧ s' = s ∧ ((rest = [(.ref ba, .ref bb), (.int x.2 ta, .int y.2 tb)]) ∨ (rest = [(.int x.2 ta, .int y.2 tb)] ∧ x.1 = y.1) ∨ (rest = [] ∧ x = y)))
    _ ?_ ?_ _ _ ⟨rfl, rfl, .inl rfl⟩
  · rintro ⟨u, v⟩ rest r s' ⟨hr, rfl, (e1 | ⟨e1, e2⟩ | ⟨e1, e2⟩)⟩
    · cases e1
      refine wpAny_bind (wpAny_eqBool_tuple hu ka kb ?_)
      by_cases hk : x.1 = y.1
      · rw [decide_eq_true hk]
        simp only [Bool.not_true, Bool.false_eq_true, if_false]
        exact wpAny_pure (by simp [hk])
      · rw [decide_eq_false hk]
        simp only [Bool.not_false, if_true]
        have hf : decide (x = y) = false := decide_eq_false fun e => hk (by rw [e])
        rw [hf] at h
        exact wpAny_bind (wpAny_pure (wpAny_pure (wpAny_pure h)))
    · cases e1
      refine wpAny_bind ((mixKind prog w).eqBool (a := .inl x.2) (b := .inl y.2) (mixKind_int prog w x.2 ta) (mixKind_int prog w y.2 tb) ?_)
      by_cases hk : x.2 = y.2
      · have e3 : x = y := Prod.ext e2 hk
        rw [decide_eq_true (by rw [hk])]
        simp only [Bool.not_true, Bool.false_eq_true, if_false]
        exact wpAny_pure (by simp [e3])
      · rw [decide_eq_false (fun e => hk (Sum.inl.inj e))]
        simp only [Bool.not_false, if_true]
        have hf : decide (x = y) = false := decide_eq_false fun e => hk (by rw [e])
        rw [hf] at h
        exact wpAny_bind (wpAny_pure (wpAny_pure (wpAny_pure h)))
    · cases e1
  · rintro ⟨r1, r2⟩ s' ⟨hr, rfl, (e1 | ⟨e1, e2⟩ | ⟨e1, e2⟩)⟩
    · cases e1
    · cases e1
    · simp only at hr
      subst hr
      refine wpAny_pure ?_
      rw [decide_eq_true e2] at h
      exact h
theorem nk_eqBool {x y : NK} {a b : Addr} {Q : Bool → Shared → Prop} (hu : A.units + 1 < cLine) (hx : IsNK prog w s.heap x a) (hy : IsNK prog w s.heap y b) (h : Q (decide (x = y)) s) :
    wpAny (model prog w) A (eqBool (.ref a) (.ref b)) Q E s := by
  have hTa : s.TypeIs (.ref a) "tuple" := let ⟨_, _, ⟨o, ho, hc, _⟩, _⟩ := hx; ⟨o, ho, hc⟩
  have hTb : s.TypeIs (.ref b) "tuple" := let ⟨_, _, ⟨o, ho, hc, _⟩, _⟩ := hy; ⟨o, ho, hc⟩
  unfold eqBool
  try with_reducible refine wpAny_holding ?_
  show wpAny _ _ (if (Value.ref a == Value.ref b) = true then _ else _) Q E s
  by_cases hab : (Value.ref a == Value.ref b) = true
  · rw [if_pos hab]
    have e : a = b := by have := eq_of_beq hab; injection this
    subst e
    obtain rfl := nk_inj hx hy
    exact wpAny_bind (wpAny_rule (wpAny_pure (by simpa using h)))
  · rw [if_neg hab]
    exact wpAny_bind (wpAny_richCompare_same_room (op := .Eq) hTa hTb F.slot_tuple_eq
      (wpAny_call_entry F.slot_tuple_eq hTa F.entry_tuple_eq (nk_eq_tree hu hx hy ⟨_, rfl, (fun e => nomatch e), wpAny_truthy_bool h⟩) (F.args_tuple_eq_2 _ _)) (Nat.lt_of_succ_lt hu))
theorem tk_quiet {n : Nat} {ks : List L2.Key} {a : Addr} {Q : Bool → Shared → Prop} (hk : IsTupleKey (mixKind prog w) s.heap ks a) (h : Q true s) : wpAny (model prog w) A (eqIsQuiet (n + 1) (.ref a)) Q E s := by
  have hT := hk.typeIs
  obtain ⟨o, items, m, ho, _, hd, hi⟩ := hk
  unfold eqIsQuiet
  refine wpAny_bind (wpAny_specialOf hT F.slot_tuple_eq.lookup ?_)
  show wpAny _ _ (isInstance (.ref a) (.type "tuple") >>= _) _ _ s
  refine wpAny_bind (wpAny_isInstance hT isSubtype_tuple_tuple ?_)
  simp only [Bool.not_true, Bool.false_eq_true, if_false]
  refine wpAny_bind (wpAny_seqItems ho hd ?_)
  refine wpAny_bind ?_
  show wpAny _ _ (forIn items _ _) _ _ s
  rw [← Array.forIn_toList]
  refine wpAny_forIn_list _ (fun rest r s' => r.1 = none ∧ s' = s ∧ ∀ v ∈ rest, carriedByValue v = true) _ ?_ ?_ _ _ ⟨rfl, rfl, hi.byValue⟩
  · rintro v rest r s' ⟨hr, rfl, hall⟩
    rw [eqIsQuiet_byValue _ (hall v List.mem_cons_self)]
    refine wpAny_bind (wpAny_pure ?_)
    simp only [Bool.not_true, Bool.false_eq_true, if_false]
    exact wpAny_pure ⟨rfl, rfl, fun u hu' => hall u (List.mem_cons_of_mem _ hu')⟩
  · rintro ⟨r1, r2⟩ s' ⟨hr, rfl, _⟩
    simp only at hr
    subst hr
    exact wpAny_pure h
theorem nk_quiet {k : NK} {a : Addr} {Q : Bool → Shared → Prop} (hk : IsNK prog w s.heap k a) (h : Q true s) : wpAny (model prog w) A (eqIsQuiet 8 (.ref a)) Q E s := by
  obtain ⟨b, t, ⟨o, ho, hc, n, hd⟩, k1⟩ := hk
  have hT : s.TypeIs (.ref a) "tuple" := ⟨o, ho, hc⟩
  unfold eqIsQuiet
  refine wpAny_bind (wpAny_specialOf hT F.slot_tuple_eq.lookup ?_)
  show wpAny _ _ (isInstance (.ref a) (.type "tuple") >>= _) _ _ s
  refine wpAny_bind (wpAny_isInstance hT isSubtype_tuple_tuple ?_)
  simp only [Bool.not_true, Bool.false_eq_true, if_false]
  refine wpAny_bind (wpAny_seqItems ho hd ?_)
  refine wpAny_bind ?_
  show wpAny _ _ (forIn _ _ _) _ _ s
  rw [← Array.forIn_toList]
  refine wpAny_forIn_list _ (fun rest r s' => r.1 = none ∧ s' = s ∧ (rest = [.ref b, .int k.2 t] ∨ rest = [.int k.2 t] ∨ rest = [])) _ ?_ ?_ _ _ ⟨rfl, rfl, .inl rfl⟩
  · rintro v rest r s' ⟨hr, rfl, (e | e | e)⟩
    · cases e
      refine wpAny_bind (tk_quiet k1 ?_)
      simp only [Bool.not_true, Bool.false_eq_true, if_false]
      exact wpAny_pure (by simp)
    · cases e
      rw [eqIsQuiet_byValue _ rfl]
      refine wpAny_bind (wpAny_pure ?_)
      simp only [Bool.not_true, Bool.false_eq_true, if_false]
      exact wpAny_pure (by simp)
    · cases e
  · rintro ⟨r1, r2⟩ s' ⟨hr, rfl, _⟩
    simp only at hr
    subst hr
    exact wpAny_pure h
end
def nestKind (prog : Program) (w : World) : HeapKind prog w NK where
  is := IsNK prog w
  hash := nkHash prog w
  draws := fun k => k.1.length + 3
  room := fun A => A.units + 1 < cLine
  inj := fun hx hy => nk_inj hx hy
  keeps := fun x ho hd hs => nk_keeps x ho hd hs
  pyHash := fun hu hk h => nk_pyHash hu hk h
  eqBool := fun hu hx hy h => nk_eqBool hu hx hy h
  quiet := fun hk h => nk_quiet hk h
/-! such a dict in the abstract heap: its object is known -/
def NObj (a : Addr) (o : Obj) : HO := .ext fun h => h.get? a = some o
def NKey (K : PySem.W.Frag) (H : Hp) (k : NK) (b : Addr) : Prop := ∃ c, SqT K H b [.ref c, .int k.2] ∧ SqT K H c (k.1.map kV)
abbrev RelN (K : PySem.W.Frag) (H : Hp) : List (NK × Int) → List (NK × Addr × Value) → Prop := Paired fun p q => p.1 = q.1 ∧ NKey K H p.1 q.2.1 ∧ ∃ t, q.2.2 = .int p.2 t
def entN (hsh : NK → Int) (x : NK × Addr × Value) : DictEntry := ⟨hsh x.1, .ref x.2.1, x.2.2⟩
def NDr (hsh : NK → Int) (K : PySem.W.Frag) (H : Hp) (kvs : List (NK × Int)) (o : Obj) : Prop :=
  kvs.length ≤ sizeLine ∧ o.ExactDict ∧ ∃ es ep xs, o.data = .dict es ep ∧ es.toList = xs.map (entN hsh) ∧ (xs.map (·.1)).Nodup ∧ RelN K H kvs xs
structure NAt (H : Hp) (a : Addr) (o : Obj) : Prop where
  at_ : H a = some (NObj a o)
  lo : (a == sysModules) = false
def getN (kvs : List (NK × Int)) (k : NK) : Option Int := (kvs.find? fun kv => decide (kv.1 = k)).map (·.2)
def setN (kvs : List (NK × Int)) (k : NK) (v : Int) : List (NK × Int) := if (kvs.any fun kv => decide (kv.1 = k)) = true then kvs.map (fun kv => if kv.1 = k then (kv.1, v) else kv) else kvs ++ [(k, v)]
def sameN (kvs lvs : List (NK × Int)) : Prop := kvs.length = lvs.length ∧ ∀ p ∈ kvs, getN lvs p.1 = some p.2
theorem setN_len (kvs : List (NK × Int)) (k : NK) (v : Int) : (setN kvs k v).length ≤ kvs.length + 1 := by
  unfold setN
  split
  · rw [List.length_map]; omega
  · simp
theorem nobj_ok {P : Program} {w : World} {H : Hp} {h : Heap} {a : Addr} {o : Obj} (e : h.get? a = some o) : ObjOk P w H h a (NObj a o) := ⟨e, ⟨o, e⟩, fun h1 h2 e1 k => k o e1⟩
section
variable {K : PySem.W.Frag} {H : Hp}
theorem RelN.val {kvs : List (NK × Int)} {xs : List (NK × Addr × Value)} (r : RelN K H kvs xs) (k : NK) : (∀ i, getN kvs k = some i → ∃ p t, atKey xs k = some p ∧ p.2 = .int i t) ∧ (getN kvs k = none → atKey xs k = none) := by
  induction r with
  | nil => exact ⟨fun i h => (nomatch h), fun _ => rfl⟩
  | @cons p q ps qs h t ih =>
    obtain ⟨h1, h2, tk, h3⟩ := h
    by_cases e : p.1 = k
    · have e' : q.1 = k := h1.symm.trans e
      have a1 : getN (p :: ps) k = some p.2 := by simp [getN, List.find?_cons, e]
      have a2 : atKey (q :: qs) k = some q.2 := by simp [atKey, List.find?_cons, e']
      rw [a1, a2]
      exact ⟨fun i hi => by cases hi; exact ⟨_, tk, rfl, h3⟩, fun hi => (nomatch hi)⟩
    · have e' : ¬ q.1 = k := fun z => e (h1.trans z)
      have a1 : getN (p :: ps) k = getN ps k := by simp [getN, List.find?_cons, e]
      have a2 : atKey (q :: qs) k = atKey qs k := by simp [atKey, List.find?_cons, e']
      rw [a1, a2]
      exact ih
theorem getN_any (kvs : List (NK × Int)) (k : NK) : (kvs.any fun kv => decide (kv.1 = k)) = (getN kvs k).isSome := by
  induction kvs with
  | nil => rfl
  | cons p r ih =>
    rw [List.any_cons]
    by_cases e : p.1 = k
    · simp [getN, List.find?_cons, e]
    · rw [decide_eq_false e, Bool.false_or, ih]
      simp [getN, List.find?_cons, e]
theorem RelN.repl {kvs : List (NK × Int)} {xs : List (NK × Addr × Value)} (r : RelN K H kvs xs) (k : NK) (v : Int) (t : Tok) : RelN K H (kvs.map fun kv => if kv.1 = k then (kv.1, v) else kv) (xs.map (putAt k (.int v t))) := by
  induction r with
  | nil => exact .nil
  | @cons p q ps qs h tl ih =>
    rw [List.map_cons, List.map_cons]
    refine .cons ?_ ih
    obtain ⟨h1, h2, h3⟩ := h
    unfold putAt
    by_cases e : p.1 = k
    · rw [if_pos e, if_pos (h1.symm.trans e)]; exact ⟨h1, h2, t, rfl⟩
    · rw [if_neg e, if_neg (fun z => e (h1.trans z))]; exact ⟨h1, h2, h3⟩
theorem RelN.put {kvs : List (NK × Int)} {xs : List (NK × Addr × Value)} (r : RelN K H kvs xs) {k : NK} {b : Addr} (hk : NKey K H k b) (v : Int) (t : Tok) : RelN K H (setN kvs k v) (storedH xs k b (.int v t)) := by
  have e : (kvs.any fun kv => decide (kv.1 = k)) = (atKey xs k).isSome := by
    rw [getN_any]
    obtain ⟨h1, h2⟩ := r.val k
    cases q : getN kvs k with
    | none => rw [h2 q]; rfl
    | some i => obtain ⟨p, _, e, _⟩ := h1 i q; rw [e]; rfl
  unfold setN storedH
  rw [e]
  by_cases q : (atKey xs k).isSome = true
  · rw [if_pos q, if_pos q]; exact r.repl k v t
  · rw [if_neg q, if_neg q]; exact Paired.snoc r ⟨rfl, hk, t, rfl⟩
end
section
variable {X : Cx} {pins : List (Addr × Obj)} {σ : L2.St} {H : Hp} {s : Shared} {a b : Addr} {k : NK} {o : Obj} {kvs : List (NK × Int)}
theorem nkey_of (I : Inv X pins σ H s) (h : NKey X.K H k b) : IsNK X.prog X.w s.heap k b := by
  obtain ⟨c, h1, h2⟩ := h
  obtain ⟨its, rv, ht, _⟩ := I.tuple h1
  obtain ⟨u, y, e, ru, ry⟩ := vals2 rv
  subst e
  cases ru
  obtain ⟨t, rfl⟩ := ry
  obtain ⟨its2, rv2, ⟨o2, a1, a2, n2, a3⟩, _⟩ := I.tuple h2
  exact ⟨c, t, ht, o2, its2.toArray, n2, a1, a2, a3, by simpa using items_are rv2⟩
theorem nd_of (I : Inv X pins σ H s) (hn : NAt H a o) (r : NDr (nkHash X.prog X.w) X.K H kvs o) : ∃ xs, s.heap.DictOfH (nestKind X.prog X.w) a xs ∧ RelN X.K H kvs xs ∧ kvs.length = xs.length := by
  obtain ⟨_, hx, es, ep, xs, hd, he, hnd, rel⟩ := r
  obtain ⟨hg, _⟩ := (show ObjOk X.prog X.w H s.heap a (NObj a o) from I.hok a _ hn.at_)
  refine ⟨xs, ⟨o, es, ep, hg, hx, hd, he, fun x hxm => ?_, hnd⟩, rel, Paired.length rel⟩
  have all : ∀ {l : List (NK × Int)} {m : List (NK × Addr × Value)}, RelN X.K H l m → ∀ x ∈ m, IsNK X.prog X.w s.heap x.1 x.2.1 := by
    intro l m q
    induction q with
    | nil => intro x hx; exact nomatch hx
    | @cons p q ps qs hq t ih =>
      intro x hx
      rcases List.mem_cons.mp hx with e | hx
      · subst e
        exact nkey_of I (by rw [← hq.1]; exact hq.2.1)
      · exact ih x hx
  exact all rel x hxm
/-- {}, to be such a dict -/
def tNNew (hsh : NK → Int) (K : PySem.W.Frag) : TE := fun _ H Q => ∀ p o, H p = none → (p == sysModules) = false → NDr hsh K H [] o → Q (.ref p) (upd H p (NObj p o))
theorem pe_nnew {pos : Pos} : PE X (.Dict [] [] pos) (tNNew (nkHash X.prog X.w) X.K) := ⟨fun pins s σ H Q I h =>
  wpAny_Dict_empty ⟨.ref s.heap.objs.size, _, I.laid (a := s.heap.objs.size) (o := NObj s.heap.objs.size { cls := .type "dict", data := .dict #[] }) (t' := s.toks) (fun _ _ q => Heap.get?_push_of_some _ q) (Nat.le_refl _) (nobj_ok (Heap.get?_push_size _ rfl)), rfl,
    h _ _ (I.hok.fresh (Nat.le_refl _)) (beq_eq_false_iff_ne.mpr (Ne.symm (Nat.ne_of_lt I.big))) ⟨Nat.zero_le _, ⟨rfl, rfl, rfl⟩, #[], 0, [], rfl, rfl, List.nodup_nil, .nil⟩⟩⟩
/-- d.get(k, x) -/
def tNGet2 (hsh : NK → Int) (K : PySem.W.Frag) (td ty tx : TE) : TE := fun σ H Q => td σ H fun x H1 => ∃ a, x = .ref a ∧ (∃ o kvs, NAt H1 a o ∧ NDr hsh K H1 kvs o) ∧ ty σ H1 fun y H2 => tx σ H2 fun z H3 => ∃ b k kvs o i, y = .ref b ∧ NKey K H3 k b ∧ NAt H3 a o ∧ NDr hsh K H3 kvs o ∧ z = .int i ∧ Q (.int ((getN kvs k).getD i)) H3
theorem pe_nget2 {od e f : Expr} {apos cpos : Pos} {td ty tx : TE} (hu : X.A.units + 2 < cLine) (ho : PE X od td) (he : PE X e ty) (hf : PE X f tx) (m : M2 X od "get" apos e f cpos) : PE X (.Call (.Attribute od "get" apos) [e, f] [] cpos) (tNGet2 (nkHash X.prog X.w) X.K td ty tx) := by
  refine ⟨fun pins s σ H Q I h => ?_⟩
  refine wpAny_Call_method m.base m.few m.line PySem.F.plainAttrs_dict PySem.F.slot_dict_get PySem.F.type_dict_get (thn (ho.run pins s σ H _ I h) fun u s1 ⟨x, H1, I1, rx, a, ex, ⟨o1, kv1, n1, r1⟩, q1⟩ => ?_)
  subst ex
  obtain rfl : u = Value.ref a := rx
  obtain ⟨xs1, d1, _⟩ := nd_of I1 n1 r1
  refine ⟨d1.typeIs, fun b q => ?_, ?_⟩
  · cases q
    obtain ⟨ob, _, _, h1, h2, _⟩ := d1
    exact ⟨ob, h1, h2.2.1⟩
  rw [m.trees]
  refine Calls.callWith_builtin rfl (Calls.evalArgs_plain (Calls.spliced_cons (thn (he.run pins s1 σ H1 _ I1 q1) fun iv s2 ⟨y, H2, I2, ry, q2⟩ =>
    Calls.spliced_cons (thn (hf.run pins s2 σ H2 _ I2 q2) fun fv s3 ⟨z, H3, I3, rz, b, k, kvs, o, i, ey, hk, n3, r3, ez, q3⟩ => Calls.spliced_nil ?_))))
  subst ey ez
  cases ry
  obtain ⟨tz, rfl⟩ := rz
  obtain ⟨xs, dd, rel, _⟩ := nd_of I3 n3 r3
  refine call_meetsIn PySem.F.slot_dict_get dd.typeIs PySem.F.entry_dict_get (PySem.F.args_dict_get_3 _ _ _) (meetsH_dict_get_default (nestKind X.prog X.w) a b n3.lo (.int i tz)) ⟨hu, k, xs, nkey_of I3 hk, dd, ?_⟩
  obtain ⟨v1, v2⟩ := rel.val k
  refine ⟨_, H3, I3.tok _, ?_, q3⟩
  cases hg : getN kvs k with
  | none => rw [v2 hg]; exact ⟨tz, rfl⟩
  | some j =>
    obtain ⟨p, t, e1, e2⟩ := v1 j hg
    rw [e1]
    exact ⟨t, e2⟩
/-- d[k], there -/
def tNIx (hsh : NK → Int) (K : PySem.W.Frag) (td ty : TE) : TE := fun σ H Q => td σ H fun x H1 => ty σ H1 fun y H2 => ∃ a b k kvs o i, x = .ref a ∧ y = .ref b ∧ NKey K H2 k b ∧ NAt H2 a o ∧ NDr hsh K H2 kvs o ∧ getN kvs k = some i ∧ Q (.int i) H2
theorem pe_nix {od e : Expr} {pos : Pos} {td ty : TE} (hu : X.A.units + 2 < cLine) (ho : PE X od td) (hi : PE X e ty) (hs : NoSl e) : PE X (.Subscript od e pos) (tNIx (nkHash X.prog X.w) X.K td ty) := by
  refine ⟨fun pins s σ H Q I h => ?_⟩
  refine subD_of PySem.F.slot_dict_getitem.lookup hs (thn (ho.run pins s σ H _ I h) fun u s1 ⟨x, H1, I1, rx, q1⟩ => thn (hi.run pins s1 σ H1 _ I1 q1) fun iv s2 ⟨y, H2, I2, ry, a, b, k, kvs, o, i, ex, ey, hk, n2, r2, hg, q2⟩ => ?_)
  subst ex ey
  obtain rfl : u = Value.ref a := rx
  cases ry
  obtain ⟨xs, dd, rel, _⟩ := nd_of I2 n2 r2
  obtain ⟨p, t, e1, e2⟩ := (rel.val k).1 i hg
  refine ⟨dd.typeIs, wpAny_getItem_heap (knd := nestKind X.prog X.w) hu (nkey_of I2 hk) dd e1 ?_⟩
  rw [e2]
  exact ⟨.int i, H2, I2.tok _, ⟨t, rfl⟩, q2⟩
/-- d[k] = v -/
def sNPut (hsh : NK → Int) (K : PySem.W.Frag) (td ty tv : TE) : TS := fun D σ H => tv σ H fun v H1 => td σ H1 fun x H2 => ty σ H2 fun y H3 => ∃ a b k kvs o i, x = .ref a ∧ y = .ref b ∧ v = .int i ∧ NKey K H3 k b ∧ NAt H3 a o ∧ NDr hsh K H3 kvs o ∧ kvs.length < sizeLine ∧
  ∀ o', NDr hsh K H3 (setN kvs k i) o' → D.nx σ (upd H3 a (NObj a o'))
theorem ps_nput {od e value : Expr} {pos pos' : Pos} {td ty tv : TE} (hu : X.A.units + 2 < cLine) (ho : PE X od td) (hi : PE X e ty) (hv : PE X value tv) (hs : swapsWith value (some (.Subscript od e pos')) pos.line X.env = pure false) :
    PS X (.Assign [.Subscript od e pos'] value pos) (sNPut (nkHash X.prog X.w) X.K td ty tv) := by
  refine ⟨fun pins s σ H D I h => ?_⟩
  refine wpAny_Assign_Subscript (thn (hv.run pins s σ H _ I h) fun r s1 ⟨v, H1, I1, rv, q1⟩ => thn (ho.run pins s1 σ H1 _ I1 q1) fun u s2 ⟨x, H2, I2, rx, q2⟩ => thn (hi.run pins s2 σ H2 _ I2 q2) fun iv s3 ⟨y, H3, I3, ry, a, b, k, kvs, o, i, ex, ey, ev, hk, n3, r3, hl, q3⟩ => ?_) hs
  subst ex ey ev
  obtain rfl : u = Value.ref a := rx
  cases ry
  obtain ⟨tv, rfl⟩ := rv
  obtain ⟨xs, dd, rel, hlen⟩ := nd_of I3 n3 r3
  refine wpAny_setItem_heap (hsz := by rw [← hlen]; exact Nat.le_of_lt hl) (knd := nestKind X.prog X.w) hu (nkey_of I3 hk) dd fun h' dd' hsb => ?_
  obtain ⟨o', es, ep, hq, h2, h3, h4, _, h5⟩ := dd'
  have r' : NDr (nkHash X.prog X.w) X.K H3 (setN kvs k i) o' := ⟨by have := setN_len kvs k i; omega, h2, es, ep, _, h3, h4, h5, rel.put hk i tv⟩
  exact ⟨σ, _, d_write (ob := NObj a o') I3 (by rw [n3.at_]; exact True.intro) hsb ⟨o', hq⟩ (nobj_ok hq), q3 o' r'⟩
/-! walks -/
def Itn (hsh : NK → Int) (K : PySem.W.Frag) (d : Addr) (o : Obj) (kvs : List (NK × Int)) : L2.It :=
  ⟨fun i H => NAt H d o ∧ NDr hsh K H kvs o ∧ i < kvs.length, fun i H x H' => H' = H ∧ ∃ k v b, kvs[i]? = some (k, v) ∧ x = .ref b ∧ NKey K H k b, fun i H => NAt H d o ∧ NDr hsh K H kvs o ∧ kvs.length ≤ i⟩
theorem turn_nkeys {tg : Expr} {d it : Addr} {o : Obj} {es : Array DictEntry} {ep : Nat} {kvs : List (NK × Int)} {P : Program} {w : World} {K : PySem.W.Frag} (hod : o.data = .dict es ep) : Turn P w K tg (Itn (nkHash P w) K d o kvs) [it] it (fun i h => h.IsKeyIter it d i kvs.length ep) where
  mem := by simp
  obj := fun i h st b hb => by
    have e : b = it := by simpa using hb
    subst e
    obtain ⟨oi, e, c, dd⟩ := st
    exact ⟨oi, e, fun v z => by rw [dd] at z; cases z⟩
  keep := fun i h h' st k => st.at fun oi e => k it (by simp) oi e
  item := by
    intro X hP hw hK hc i pins s σ H E I hf st hg
    subst hP hw hK
    obtain ⟨hn, r, hi⟩ := hg
    obtain ⟨f0, f1, f2, f3, f4, f5⟩ := hf it (by simp)
    obtain ⟨_, hx, es', ep', xs, hdt, he, _, rel⟩ := r
    obtain ⟨rfl, rfl⟩ := dict_ep hod hdt
    obtain ⟨hgd, _⟩ := (show ObjOk X.prog X.w H s.heap d (NObj d o) from I.hok d _ hn.at_)
    have hl := Paired.length rel
    obtain ⟨⟨k, v⟩, hkv⟩ : ∃ p, kvs[i]? = some p := ⟨kvs[i], List.getElem?_eq_getElem hi⟩
    obtain ⟨q, hq, e1, e2, _⟩ := paired_get rel hkv
    have hen : es'[i]? = some (entN (nkHash X.prog X.w) q) := by rw [← Array.getElem?_toList, he, List.getElem?_map, hq]; rfl
    have hsz : es'.size = kvs.length := by rw [← Array.length_toList, he, List.length_map, hl]
    refine next_key_item st hgd hdt hsz hen fun h' st' sb => ?_
    have I1 : Inv X pins σ H { s with heap := h' } := I.turned (t' := s.toks) (fun b ob hb e => (sb.2 b hb).trans e) f0 f1 f3 f4 f5
    obtain ⟨oi, e, c, dd⟩ := id st'
    exact ⟨_, rfl, go_of (s := { s with heap := h' }) e c dd (by decide) ⟨.ref q.2.1, H, I1, rfl, ⟨rfl, k, v, q.2.1, hkv, rfl, e2⟩, st', fun b hb => (hf b hb).1⟩⟩
  done := by
    intro X hP hw hK hc i pins s σ H E I hf st hg
    subst hP hw hK
    obtain ⟨hn, r, hi⟩ := hg
    obtain ⟨f0, f1, f2, f3, f4, f5⟩ := hf it (by simp)
    obtain ⟨_, hx, es', ep', xs, hdt, he, _, rel⟩ := r
    obtain ⟨rfl, rfl⟩ := dict_ep hod hdt
    obtain ⟨hgd, _⟩ := (show ObjOk X.prog X.w H s.heap d (NObj d o) from I.hok d _ hn.at_)
    have hl := Paired.length rel
    have hsz : es'.size = kvs.length := by rw [← Array.length_toList, he, List.length_map, hl]
    exact next_key_end (I.ok.hd hc) st hgd hdt hsz hi fun h' eb => ⟨rfl, I.turned (t' := s.toks) (fun b ob hb e => eb b ob hb e) f0 f1 f3 f4 f5⟩
  self := fun A i s Q E st h => by
    refine wpAny_pyIter_slot st.typeIs F.slot_dict_keyiterator_iter (wpAny_call_entry F.slot_dict_keyiterator_iter st.typeIs F.entry_dict_keyiterator_iter ?_ (F.args_dict_keyiterator_iter_1 _))
    show wpAny _ _ (ret (.ref it)) _ _ s
    exact wpAny_pure ⟨_, rfl, "dict_keyiterator", _, st.typeIs, F.slot_dict_keyiterator_next.lookup, h⟩
def iNKeys (hsh : NK → Int) (K : PySem.W.Frag) (td : TE) : TI := fun σ H R => td σ H fun x H1 => ∃ d o kvs, x = .ref d ∧ NAt H1 d o ∧ NDr hsh K H1 kvs o ∧ R (Itn hsh K d o kvs) H1
theorem pi_nkeys {tg e : Expr} {td : TE} (he : PE X e td) : PI X tg e (iNKeys (nkHash X.prog X.w) X.K td) := by
  refine ⟨fun pins s σ H R I h => ?_⟩
  refine thn (he.run pins s σ H _ I h) fun u s1 ⟨x, H1, I1, rx, d, o, kvs, ex, hn, r, q⟩ => ?_
  subst ex
  obtain rfl : u = Value.ref d := rx
  obtain ⟨hgd, _⟩ := (show ObjOk X.prog X.w H1 s1.heap d (NObj d o) from I1.hok d _ hn.at_)
  obtain ⟨_, hx, es, ep, xs, hdt, hes, _, rel⟩ := id r
  have hl := Paired.length rel
  have hsz : es.size = kvs.length := by rw [← Array.length_toList, hes, List.length_map, hl]
  refine iter_keys hn.lo hgd hx hdt (pi_one (tk := s1.toks) I1 _ (turn_nkeys hdt) ⟨_, Heap.get?_push_size _ rfl, rfl, ?_⟩ q)
  rw [hsz] <;> rfl
end
/-! two such dicts that are the same -/
section
variable {prog : Program} {w : World} {κ : Type} [DecidableEq κ] {knd : HeapKind prog w κ} {A : Around} {E : Value → Shared → Prop} {s : Shared}
theorem samePairsH {nm : String} {a b : Addr} {ka kb : List (κ × Addr × Value)} {Q : Bool → Shared → Prop} (ha : (a == sysModules) = false) (hb : (b == sysModules) = false) (hu : knd.room A)
    (da : s.heap.DictOfH knd a ka) (db : s.heap.DictOfH knd b kb) (hl : ka.length = kb.length) (hits : ∀ x ∈ ka, ∃ p, atKey kb x.1 = some p ∧ SeqAt.EqAt A s x.2.2 p.2 true) (h : Q true s) :
    wpAny (model prog w) A (Builtin.Dict.samePairs nm a b) Q E s := by
  obtain ⟨oa, es, ep, hoa, _, hda, hka, hia, _⟩ := da
  obtain ⟨ob, es', ep', hob, _, hdb, hkb, hib, hnb⟩ := db
  have hla : ka.length = es.size := (size_of_entries hka).symm
  have hlb : kb.length = es'.size := (size_of_entries hkb).symm
  unfold Builtin.Dict.samePairs Builtin.Dict.showsAll
  rw [if_neg (show ¬ (a == sysModules) = true by rw [ha]; exact Bool.false_ne_true), if_neg (show ¬ (b == sysModules) = true by rw [hb]; exact Bool.false_ne_true)]
  refine wpAny_bind (wpAny_pure (wpAny_bind (wpAny_pure ?_)))
  refine wpAny_bind (wpAny_dictEntries hoa hda ?_)
  dsimp only
  refine wpAny_bind (wpAny_dictEntries hob hdb ?_)
  have hsz : es.size = es'.size := by rw [← hla, ← hlb]; exact hl
  rw [if_neg (by rw [hsz]; simp)]
  refine wpAny_bind (wpAny_dictEpoch hoa hda ?_)
  refine wpAny_bind ?_
  rw [Std.Legacy.Range.forIn_eq_forIn_range']
  simp only [Std.Legacy.Range.size, Nat.sub_zero, Nat.add_sub_cancel, Nat.div_one]
  refine wpAny_forIn_list _
    (fun rest q s' => s' = s ∧ q = (none, ()) ∧ ∃ i, rest = List.range' i (es.size - i) ∧ i ≤ es.size)
    _ ?_ ?_ _ _ ⟨rfl, rfl, 0, by simp, Nat.zero_le _⟩
  · rintro x rest q s' ⟨rfl, rfl, i, hr, hi⟩
    have hlt : i < es.size := by
      rcases Nat.lt_or_ge i es.size with h | h
      · exact h
      · rw [Nat.sub_eq_zero_of_le h] at hr; simp at hr
    obtain ⟨rfl, hrest⟩ : x = i ∧ rest = List.range' (i + 1) (es.size - (i + 1)) := by
      have e : es.size - i = (es.size - (i + 1)) + 1 := by omega
      rw [e, List.range'_succ] at hr
      injection hr with h1 h2
      exact ⟨h1, h2⟩
    refine wpAny_bind (wpAny_dictEntries hoa hda ?_)
    rw [Array.getElem?_eq_getElem hlt]
    have hlt' : x < ka.length := by rw [hla]; exact hlt
    have hx : es[x] = entryOfKey knd ka[x] := by
      have := entry_at hka x
      rw [Array.getElem?_eq_getElem hlt, List.getElem?_eq_getElem hlt'] at this
      simpa using this
    have hmem : ka[x] ∈ ka := List.getElem_mem hlt'
    obtain ⟨p, hp, he⟩ := hits _ hmem
    have hkey := hia _ hmem
    rw [hx]
    generalize ka[x] = y at *
    show wpAny _ _ (holding [Value.ref y.2.1, y.2.2] _ >>= _) _ _ _
    refine wpAny_bind (wpAny_holding (wpAny_bind (wpAny_dictFind_heap hu hkey hob hdb hkb hib hnb (fun hno => ?_) (fun j pj hj => ?_))))
    · have := atKey_none_of_get hno
      rw [hp] at this; cases this
    · have hpj := atKey_of_get hnb hj
      rw [hp] at hpj
      have epj : p = pj := Option.some.inj hpj
      refine wpAny_bind (wpAny_dictEntries hob hdb ?_)
      have hej : es'[j]? = some (entryOfKey knd (y.1, pj)) := by rw [entry_at hkb j, hj]; rfl
      rw [hej]
      refine wpAny_holding ((show SeqAt.EqAt A s' y.2.2 pj.2 true by rw [← epj]; exact he) _ _ _ _ ?_)
      show wpAny _ _ (if (!true) = true then _ else _) _ _ _
      rw [if_neg (by decide)]
      refine wpAny_bind (wpAny_dictEpoch hoa hda ?_)
      rw [if_neg (by simp)]
      exact wpAny_pure ⟨rfl, rfl, x + 1, hrest, hlt⟩
  · rintro q s' ⟨rfl, rfl, i, hr, hi⟩
    refine wpAny_pure ?_
    exact h
theorem ne_same {a b : Addr} {ka kb : List (κ × Addr × Value)} {Q : Value → Shared → Prop} (ha : (a == sysModules) = false) (hb : (b == sysModules) = false) (hu : knd.room A.in1) (hu2 : A.units < cLine)
    (da : s.heap.DictOfH knd a ka) (db : s.heap.DictOfH knd b kb) (hl : ka.length = kb.length) (hits : ∀ x ∈ ka, ∃ p, atKey kb x.1 = some p ∧ SeqAt.EqAt A.in1 s x.2.2 p.2 true) (h : Q (.bool false) s) :
    wpAny (model prog w) A (compareOp .NotEq (.ref a) (.ref b)) Q E s := by
  refine wpAny_richCompare_same_room (op := .NotEq) da.typeIs db.typeIs PySem.F.slot_dict_ne (wpAny_call_entry PySem.F.slot_dict_ne da.typeIs PySem.F.entry_dict_ne ?_ (PySem.F.args_dict_ne_2 _ _)) hu2
  show wpAny _ _ (Builtin.Dict.dictSlotArgs "__ne__" ⟨[.ref a, .ref b], []⟩ >>= _) _ _ s
  refine wpAny_bind ?_
  unfold Builtin.Dict.dictSlotArgs
  refine wpAny_bind (wpAny_notOrdered_dict da.typeIs ?_)
  show wpAny _ _ (pure (Value.ref a, Value.ref b)) _ _ s
  refine wpAny_pure ?_
  refine wpAny_bind (wpAny_isInstance (T := "dict") db.typeIs PySem.F.sub_dict_dict ?_)
  simp only [Bool.not_true, Bool.false_eq_true, if_false]
  refine wpAny_bind (wpAny_pure (wpAny_bind (wpAny_pure ?_)))
  refine wpAny_bind (samePairsH ha hb hu da db hl hits ?_)
  refine wpAny_pure ⟨_, rfl, ?_, ?_⟩
  · exact fun x => nomatch x
  · simpa using h
end
def rNeN (hsh : NK → Int) (K : PySem.W.Frag) : R2 := fun x y H Q => ∃ a b o o' kvs lvs, x = .ref a ∧ y = .ref b ∧ NAt H a o ∧ NDr hsh K H kvs o ∧ NAt H b o' ∧ NDr hsh K H lvs o' ∧ sameN kvs lvs ∧ Q (.bl false) H
theorem op_nne {X : Cx} (hu : X.A.units + 2 < cLine) : OpR X (compareOp .NotEq) (rNeN (nkHash X.prog X.w) X.K) := by
  intro pins s σ H x y v u Q I rx ry h
  obtain ⟨a, b, o, o', kvs, lvs, rfl, rfl, na, ra, nb, rb, hs, q⟩ := h
  cases rx
  cases ry
  obtain ⟨xs, da, r1, l1⟩ := nd_of I na ra
  obtain ⟨ys, db, r2, l2⟩ := nd_of I nb rb
  refine ne_same (knd := nestKind X.prog X.w) na.lo nb.lo hu (by omega) da db (by rw [← l1, ← l2]; exact hs.1) (fun x hx => ?_) ⟨.bl false, H, I, rfl, q⟩
  obtain ⟨i, hi⟩ := List.mem_iff_getElem?.mp hx
  obtain ⟨p, hp⟩ : ∃ p, kvs[i]? = some p := ⟨_, List.getElem?_eq_getElem (by rw [l1]; exact (List.getElem?_eq_some_iff.mp hi).1)⟩
  obtain ⟨q', hq, e1, _, t, e2⟩ := paired_get r1 hp
  rw [hi] at hq
  cases hq
  obtain ⟨z, t', h1, h2⟩ := (r2.val p.1).1 _ (hs.2 p (List.mem_of_getElem? hp))
  refine ⟨z, by rw [← e1]; exact h1, ?_⟩
  rw [e2, h2]
  have := SeqAt.EqAt.int_int (A := X.A.in1) (s := s) p.2 t p.2 t'
  rw [beq_self_eq_true] at this
  exact this
end DL
namespace DL
open PySem PySem.Spec PyProof.Rows L2
/-! a def over two marks whose text replaces them (k06) -/
def mkT (c d : Nat) : Int := if c = 46 then 0 else if d = 46 then 0 else if c = d then 0 else if (c = 88 ∧ d = 89) ∨ (c = 89 ∧ d = 90) ∨ (c = 90 ∧ d = 88) then 1 else 3
def mkM (c d : Nat) : Str := if c = 46 then ⟨#[d]⟩ else if d = 46 then ⟨#[c]⟩ else if c = d then ⟨#[46]⟩ else Txt.replace (Txt.replace "XYZ" ⟨#[c]⟩ ⟨#[]⟩) ⟨#[d]⟩ ⟨#[]⟩
def isMk (c : Nat) : Prop := c = 46 ∨ c = 88 ∨ c = 89 ∨ c = 90
/-- its promise, of arguments that are objects of their own -/
def MarkRun (P : Program) (w : World) (K : PySem.W.Frag) (mg : Str → Option Value) (base : Heap) (k : Nat) (f : Addr) : Prop :=
  ∀ (A : Around) (outer : List Env) (s : Shared) (H : Hp) (c d : Nat) (t u : Tok) (Q : VK) (E : XK), Room k A → Env0 P w K mg base A outer s H → t ≠ 0 → u ≠ 0 → t < s.toks → u < s.toks → isMk c → isMk d →
    (∀ p, H p = none → Q (.ref p) (upd H p (.lst [.int (mkT c d), .str (mkM c d)]))) → codeAny (model P w) A (.call (.ref f) ⟨[.str ⟨#[c]⟩ t, .str ⟨#[d]⟩ u], []⟩) (CR CX0 outer P w H s Q E) s
structure MarkX (P : Program) (w : World) (K : PySem.W.Frag) (mg : Str → Option Value) (base : Heap) (A : Around) (x : Str) : Prop where
  ex : ∃ (f : Addr) (k : Nat), MarkRun P w K mg base k f ∧ Room k A ∧ mg x = some (.ref f) ∧ PySem.W.keepIn K (.ref f) = true
structure MarkG (P : Program) (w : World) (K : PySem.W.Frag) (mg : Str → Option Value) (base : Heap) (n : Nat) (x : Str) : Prop where
  ex : ∃ (f : Addr) (k : Nat), MarkRun P w K mg base k f ∧ k ≤ n ∧ mg x = some (.ref f) ∧ PySem.W.keepIn K (.ref f) = true
theorem MarkG.x {P : Program} {w : World} {K : PySem.W.Frag} {mg : Str → Option Value} {base : Heap} {n : Nat} {x : Str} {A : Around} (h : MarkG P w K mg base n x) (hr : Room n A) : MarkX P w K mg base A x := by
  obtain ⟨f, k, a, b, c, d⟩ := h.ex
  exact ⟨f, k, a, hr.mono b, c, d⟩
theorem MarkG.mono {P : Program} {w : World} {K : PySem.W.Frag} {mg : Str → Option Value} {base : Heap} {n n' : Nat} {x : Str} (h : MarkG P w K mg base n x) (l : n ≤ n') : MarkG P w K mg base n' x := by
  obtain ⟨f, k, a, b, c, d⟩ := h.ex
  exact ⟨f, k, a, Nat.le_trans b l, c, d⟩
/-- f(a[i + 1], b[i + 1]) -/
def tMrk (ia ib ik : Nat) : TE := fun σ H Q => ∃ x y n c d, σ[ia]? = some (some (.str x)) ∧ σ[ib]? = some (some (.str y)) ∧ σ[ik]? = some (some (.int n)) ∧ x.length ≤ sizeLine ∧ y.length ≤ sizeLine ∧ atI x.cps.toList (n + 1) = some c ∧ atI y.cps.toList (n + 1) = some d ∧ isMk c ∧ isMk d ∧
  ∀ p, H p = none → Q (.ref p) (upd H p (.lst [.int (mkT c d), .str (mkM c d)]))
section
variable {X : Cx} {pins : List (Addr × Obj)} {σ : L2.St} {H : Hp} {s : Shared}
/-- a sign of a text, a new object -/
theorem raw_sub {ia ik : Nat} {ax kx : Str} {x : Str} {n : Int} {c : Nat} {j : Nat} {p1 p2 p3 p4 p5 : Pos} {Q E : Value → Shared → Prop} (hNa : X.N[ia]? = some ax) (hva : Vis X.env.scope ax) (hNk : X.N[ik]? = some kx) (hvk : Vis X.env.scope kx)
    (da : (ax == ("__debug__" : Str)) = false) (ca : (ax == ("__classdict__" : Str)) = false) (dk : (kx == ("__debug__" : Str)) = false) (ck : (kx == ("__classdict__" : Str)) = false) (I : Inv X pins σ H s)
    (hx : σ[ia]? = some (some (.str x))) (hk : σ[ik]? = some (some (.int n))) (hz : x.length ≤ sizeLine) (he : atI x.cps.toList (n + 1) = some c)
    (fin : ∀ t k, t ≠ 0 → t < k → s.toks ≤ k → Q (.str ⟨#[c]⟩ t) { s with toks := k }) :
    wpAny (model X.prog X.w) X.A (eval (.Subscript (.Name ax p1) (.BinOp (.Name kx p2) .Add (.Constant (.int 1) j p3) p4) p5) X.env) Q E s := by
  refine Subscript_ (raw_name hNa hva I hx (fun v r => ?_) da ca)
  obtain ⟨tx, e⟩ := r
  subst e
  refine wpAny_BinOp (raw_name hNk hvk I hk (fun v r => ?_) dk ck)
  obtain ⟨tk, e⟩ := r
  subst e
  refine wpAny_Constant_int (P.add_int ?_)
  obtain ⟨j', h1, h2, h3, h4, h5⟩ := atI_get he
  have hl : x.cps.toList.length = x.length := by simp [Str.length]
  rw [hl] at h1 h4 h5
  have hn := line63
  refine tail_any (typeIs_str _ x tx) slot_str_getitem.lookup (getItem_str (c := c) (by
    have e1 : decide (n + 1 < -(2 ^ 63 : Int)) = false := decide_eq_false (by omega)
    have e2 : decide (n + 1 ≥ 2 ^ 63) = false := decide_eq_false (by omega)
    rw [e1, e2, Bool.or_false]) (by rw [h1]; simpa using h2) ?_) rfl
  exact fin (s.toks + 1 + 1) (s.toks + 1 + 1 + 1) (Nat.succ_ne_zero _) (Nat.lt_succ_self _) (Nat.le_trans (Nat.le_succ _) (Nat.le_trans (Nat.le_succ _) (Nat.le_succ _)))
theorem pe_mrk {k : Nat} {f : Addr} {fx ax bx kx : Str} {ia ib ik j j' : Nat} {pf p1 p2 p3 p4 p5 q1 q2 q3 q4 q5 pos : Pos} (R : MarkRun X.prog X.w X.K X.mg X.base k f) (hr : Room k X.A) (hg : Gl X fx) (hm : X.mg fx = some (.ref f)) (hk : PySem.W.keepIn X.K (.ref f) = true)
    (hNa : X.N[ia]? = some ax) (hva : Vis X.env.scope ax) (hNb : X.N[ib]? = some bx) (hvb : Vis X.env.scope bx) (hNk : X.N[ik]? = some kx) (hvk : Vis X.env.scope kx) (hdb : (fx == ("__debug__" : Str)) = false)
    (da : (ax == ("__debug__" : Str)) = false) (ca : (ax == ("__classdict__" : Str)) = false) (dk : (kx == ("__debug__" : Str)) = false) (ck : (kx == ("__classdict__" : Str)) = false) (db : (bx == ("__debug__" : Str)) = false) (cb : (bx == ("__classdict__" : Str)) = false) :
    PE X (.Call (.Name fx pf) [.Subscript (.Name ax p1) (.BinOp (.Name kx p2) .Add (.Constant (.int 1) j p3) p4) p5, .Subscript (.Name bx q1) (.BinOp (.Name kx q2) .Add (.Constant (.int 1) j' q3) q4) q5] [] pos) (tMrk ia ib ik) := by
  refine ⟨fun pins s σ H Q I h => ?_⟩
  obtain ⟨x, y, n, c, d, hx, hy, hn, zx, zy, ex, ey, mc, md, q⟩ := h
  refine wpAny_Call_Name_kw (ld_glob I hg hm ?_ hdb)
  refine PySem.W.callWith_K (h₀ := X.base) I.ok.mod.kin hk ?_ rfl rfl
  show wpAny _ _ (spliced ((false, eval (.Subscript (.Name ax p1) (.BinOp (.Name kx p2) .Add (.Constant (.int 1) j p3) p4) p5) X.env) :: backTo pos (starEach [.Subscript (.Name bx q1) (.BinOp (.Name kx q2) .Add (.Constant (.int 1) j' q3) q4) q5] X.env))) _ _ s
  refine Calls.spliced_cons (raw_sub hNa hva hNk hvk da ca dk ck I hx hn zx ex fun t k1 ht htk hk1 => ?_)
  show wpAny _ _ (spliced ((false, eval (.Subscript (.Name bx q1) (.BinOp (.Name kx q2) .Add (.Constant (.int 1) j' q3) q4) q5) X.env) :: backTo pos (starEach [] X.env))) _ _ _
  refine Calls.spliced_cons (raw_sub hNb hvb hNk hvk db cb dk ck (I.tok k1) hy hn zy ey fun u k2 hu huk hk2 => ?_)
  refine Calls.spliced_nil ?_
  have I2 : Inv X pins σ H { s with toks := k2 } := I.tok k2
  refine ⟨I2.kIn, wpAny_call (codeAny_mono (R X.A X.stack { s with toks := k2 } H c d t u Q E0 hr I2.env0 ht hu (Nat.lt_of_lt_of_le htk hk2) huk mc md q) fun r s' hq => ?_)⟩
  cases r with
  | error e => exact False.elim hq
  | ok fl =>
    cases fl with
    | ret u => exact I2.after hq
    | next => exact False.elim hq
    | brk => exact False.elim hq
    | cont => exact False.elim hq
end
end DL
namespace DL
open PySem PySem.Spec PyProof.Rows L2
/-! data: tuples (and lists that nobody writes) are values -/
inductive D where
  | non | bl (b : Bool) | int (i : Int) | str (x : Str)
  | tup (xs : List D) | ro (xs : List D) | ref (a : Addr)
/-- a list that stays: locked, or of the module -/
def SqR (K : PySem.W.Frag) (H : Hp) (a : Addr) (xs : List V) : Prop :=
  (∃ o, H a = some (.frz o (.lst xs))) ∨
    ∃ (o : Obj) (its : Array Value) (n : Nat), K.lookup a = some o ∧ o.cls = .type "list" ∧ o.dict = none ∧ o.data = .seq its n ∧ its.size ≤ sizeLine ∧ Vals xs its.toList
theorem SqR.sq {K : PySem.W.Frag} {H : Hp} {a : Addr} {xs : List V} (h : SqR K H a xs) : SqL K H a xs := by
  rcases h with ⟨o, h⟩ | h
  · exact .inl (.inr ⟨o, h⟩)
  · exact .inr h
theorem SqR.of {K : PySem.W.Frag} {H : Hp} {a : Addr} {xs : List V} (hO : Only H) (h : SqL K H a xs) : SqR K H a xs := by
  rcases h with (h | ⟨o, h⟩) | h
  · rcases hO a with z | ⟨o, ys, z⟩
    · rw [h] at z; cases z
    · rw [h] at z; cases z
  · exact .inl ⟨o, h⟩
  · exact .inr h
/-- what of an abstract heap stays through everything -/
structure TLe (H H' : Hp) : Prop where
  tup : ∀ b xs, H b = some (.tup xs) → H' b = some (.tup xs)
  frz : ∀ b o u, H b = some (.frz o u) → H' b = some (.frz o u)
theorem TLe.rfl {H : Hp} : TLe H H := ⟨fun _ _ h => h, fun _ _ _ h => h⟩
theorem TLe.trans {H H1 H2 : Hp} (a : TLe H H1) (b : TLe H1 H2) : TLe H H2 := ⟨fun c xs h => b.tup c xs (a.tup c xs h), fun c o u h => b.frz c o u (a.frz c o u h)⟩
theorem TLe.new {H : Hp} {p : Addr} {o : HO} (h : H p = none) : TLe H (upd H p o) :=
  ⟨fun b xs e => by rw [upd_ne (ne_of_none e h)]; exact e, fun b x u e => by rw [upd_ne (ne_of_none e h)]; exact e⟩
theorem TLe.put {H : Hp} {p : Addr} {o : HO} (h1 : ∀ xs, H p ≠ some (.tup xs)) (h2 : ∀ x u, H p ≠ some (.frz x u)) : TLe H (upd H p o) :=
  ⟨fun b xs e => by
    by_cases q : b = p
    · subst q; exact absurd e (h1 xs)
    · rw [upd_ne q]; exact e, fun b x u e => by
    by_cases q : b = p
    · subst q; exact absurd e (h2 x u)
    · rw [upd_ne q]; exact e⟩
theorem SqT.le {K : PySem.W.Frag} {H H' : Hp} {a : Addr} {xs : List V} (l : TLe H H') (h : SqT K H a xs) : SqT K H' a xs := by
  rcases h with (h | ⟨o, h⟩) | h
  · exact .inl (.inl (l.tup _ _ h))
  · exact .inl (.inr ⟨o, l.frz _ _ _ h⟩)
  · exact .inr h
theorem SqR.le {K : PySem.W.Frag} {H H' : Hp} {a : Addr} {xs : List V} (l : TLe H H') (h : SqR K H a xs) : SqR K H' a xs := by
  rcases h with ⟨o, h⟩ | h
  · exact .inl ⟨o, l.frz _ _ _ h⟩
  · exact .inr h
mutual
/-- the datum stands as the value -/
def RelD (K : PySem.W.Frag) (H : Hp) : D → V → Prop
  | .non, v => v = .non
  | .bl b, v => v = .bl b
  | .int i, v => v = .int i
  | .str x, v => v = .str x
  | .ref a, v => v = .ref a
  | .tup ds, v => ∃ a xs, v = .ref a ∧ SqT K H a xs ∧ RelDs K H ds xs
  | .ro ds, v => ∃ a xs, v = .ref a ∧ SqR K H a xs ∧ RelDs K H ds xs
def RelDs (K : PySem.W.Frag) (H : Hp) : List D → List V → Prop
  | [], vs => vs = []
  | d :: ds, vs => ∃ v r, vs = v :: r ∧ RelD K H d v ∧ RelDs K H ds r
end
mutual
theorem RelD.le {K : PySem.W.Frag} {H H' : Hp} (l : TLe H H') : ∀ (d : D) (v : V), RelD K H d v → RelD K H' d v
  | .non, v, h => by simpa [RelD] using h
  | .bl b, v, h => by simpa [RelD] using h
  | .int i, v, h => by simpa [RelD] using h
  | .str x, v, h => by simpa [RelD] using h
  | .ref a, v, h => by simpa [RelD] using h
  | .tup ds, v, h => by
    simp only [RelD] at h ⊢
    obtain ⟨a, xs, e, q, r⟩ := h
    exact ⟨a, xs, e, SqT.le l q, RelDs.le l ds xs r⟩
  | .ro ds, v, h => by
    simp only [RelD] at h ⊢
    obtain ⟨a, xs, e, q, r⟩ := h
    exact ⟨a, xs, e, SqR.le l q, RelDs.le l ds xs r⟩
theorem RelDs.le {K : PySem.W.Frag} {H H' : Hp} (l : TLe H H') : ∀ (ds : List D) (vs : List V), RelDs K H ds vs → RelDs K H' ds vs
  | [], vs, h => by simpa [RelDs] using h
  | d :: ds, vs, h => by
    simp only [RelDs] at h ⊢
    obtain ⟨v, r, e, q, t⟩ := h
    exact ⟨v, r, e, RelD.le l d v q, RelDs.le l ds r t⟩
end
section
variable {K : PySem.W.Frag} {H H' : Hp}
theorem RelDs.nil : RelDs K H [] [] := by simp [RelDs]
theorem RelDs.cons {d : D} {ds : List D} {v : V} {vs : List V} (h : RelD K H d v) (t : RelDs K H ds vs) : RelDs K H (d :: ds) (v :: vs) := by
  simp only [RelDs]; exact ⟨v, vs, rfl, h, t⟩
theorem RelDs.length : ∀ {ds : List D} {vs : List V}, RelDs K H ds vs → ds.length = vs.length
  | [], vs, h => by simp only [RelDs] at h; subst h; rfl
  | d :: ds, vs, h => by
    simp only [RelDs] at h
    obtain ⟨v, r, e, q, t⟩ := h
    subst e
    simp [RelDs.length t]
theorem RelDs.get : ∀ {ds : List D} {vs : List V} {i : Nat} {d : D}, RelDs K H ds vs → ds[i]? = some d → ∃ v, vs[i]? = some v ∧ RelD K H d v
  | [], vs, i, d, h, e => by simp at e
  | d0 :: ds, vs, 0, d, h, e => by
    simp only [RelDs] at h
    obtain ⟨v, r, e', q, t⟩ := h
    subst e'
    simp at e; subst e
    exact ⟨v, rfl, q⟩
  | d0 :: ds, vs, i + 1, d, h, e => by
    simp only [RelDs] at h
    obtain ⟨v, r, e', q, t⟩ := h
    subst e'
    simpa using RelDs.get t (by simpa using e)
theorem RelDs.append : ∀ {ds es : List D} {vs us : List V}, RelDs K H ds vs → RelDs K H es us → RelDs K H (ds ++ es) (vs ++ us)
  | [], es, vs, us, h, t => by simp only [RelDs] at h; subst h; exact t
  | d :: ds, es, vs, us, h, t => by
    simp only [RelDs] at h
    obtain ⟨v, r, e, q, h'⟩ := h
    subst e
    exact RelDs.cons q (RelDs.append h' t)
theorem RelDs.take : ∀ {ds : List D} {vs : List V} (n : Nat), RelDs K H ds vs → RelDs K H (ds.take n) (vs.take n)
  | ds, vs, 0, h => by simp [RelDs]
  | [], vs, n + 1, h => by simp only [RelDs] at h; subst h; simp [RelDs]
  | d :: ds, vs, n + 1, h => by
    simp only [RelDs] at h
    obtain ⟨v, r, e, q, h'⟩ := h
    subst e
    exact RelDs.cons q (RelDs.take n h')
theorem RelDs.drop : ∀ {ds : List D} {vs : List V} (n : Nat), RelDs K H ds vs → RelDs K H (ds.drop n) (vs.drop n)
  | ds, vs, 0, h => h
  | [], vs, n + 1, h => by simp only [RelDs] at h; subst h; simp [RelDs]
  | d :: ds, vs, n + 1, h => by
    simp only [RelDs] at h
    obtain ⟨v, r, e, q, h'⟩ := h
    subst e
    exact RelDs.drop n h'
theorem RelDs.set : ∀ {ds : List D} {vs : List V} {d : D} {v : V} (n : Nat), RelDs K H ds vs → RelD K H d v → RelDs K H (ds.set n d) (vs.set n v)
  | [], vs, d, v, n, h, q => by simp only [RelDs] at h; subst h; simp [RelDs]
  | d0 :: ds, vs, d, v, 0, h, q => by
    simp only [RelDs] at h
    obtain ⟨v0, r, e, q0, h'⟩ := h
    subst e
    exact RelDs.cons q h'
  | d0 :: ds, vs, d, v, n + 1, h, q => by
    simp only [RelDs] at h
    obtain ⟨v0, r, e, q0, h'⟩ := h
    subst e
    exact RelDs.cons q0 (RelDs.set n h' q)
theorem RelDs.erase : ∀ {ds : List D} {vs : List V} (n : Nat), RelDs K H ds vs → RelDs K H (ds.eraseIdx n) (vs.eraseIdx n)
  | [], vs, n, h => by simp only [RelDs] at h; subst h; simp [RelDs]
  | d0 :: ds, vs, 0, h => by
    simp only [RelDs] at h
    obtain ⟨v0, r, e, q0, h'⟩ := h
    subst e
    exact h'
  | d0 :: ds, vs, n + 1, h => by
    simp only [RelDs] at h
    obtain ⟨v0, r, e, q0, h'⟩ := h
    subst e
    exact RelDs.cons q0 (RelDs.erase n h')
theorem RelDs.reverse : ∀ {ds : List D} {vs : List V}, RelDs K H ds vs → RelDs K H ds.reverse vs.reverse
  | [], vs, h => by simp only [RelDs] at h; subst h; simp [RelDs]
  | d0 :: ds, vs, h => by
    simp only [RelDs] at h
    obtain ⟨v0, r, e, q0, h'⟩ := h
    subst e
    rw [List.reverse_cons, List.reverse_cons]
    exact RelDs.append (RelDs.reverse h') (RelDs.cons q0 RelDs.nil)
theorem RelDs.rep {ds : List D} {vs : List V} (h : RelDs K H ds vs) : ∀ n : Nat, RelDs K H (List.replicate n ds).flatten (List.replicate n vs).flatten
  | 0 => by simp [RelDs]
  | n + 1 => by
    rw [List.replicate_succ, List.replicate_succ, List.flatten_cons, List.flatten_cons]
    exact RelDs.append h (RelDs.rep h n)
theorem RelDs.ints : ∀ {ns : List Int}, RelDs K H (ns.map D.int) (ns.map V.int)
  | [] => RelDs.nil
  | n :: ns => RelDs.cons (by simp [RelD]) RelDs.ints
theorem RelDs.ints_inv : ∀ {ns : List Int} {vs : List V}, RelDs K H (ns.map D.int) vs → vs = ns.map V.int
  | [], vs, h => by simpa [RelDs] using h
  | n :: ns, vs, h => by
    simp only [RelDs, List.map_cons, RelD] at h
    obtain ⟨v, r, e, q, t⟩ := h
    subst e q
    rw [RelDs.ints_inv t]; rfl
end
/-! the attributes of the program's objects -/
inductive Fd where | wires | answers | state | rows | partners
  deriving DecidableEq
def Fd.nm : Fd → Str
  | .wires => "wires" | .answers => "answers" | .state => "state" | .rows => "rows" | .partners => "partners"
def fdNames : List Str := ["wires", "answers", "state", "rows", "partners"]
theorem Fd.mem (f : Fd) : f.nm ∈ fdNames := by cases f <;> decide +kernel
theorem Fd.inj {f g : Fd} (h : f.nm = g.nm) : f = g := by
  cases f <;> cases g <;> first | rfl | exact absurd h (by decide +kernel)
/-! the heap of what may change -/
inductive GO where
  | lst (xs : List D)
  | ins (c : Nat) (fs : List (Fd × D))
  | dic (kvs : List (Key × D))
  | exo (k : Nat)
  | dnt (kvs : List (NK × Int)) (o : Obj)
abbrev Gp := Addr → Option GO
def gup (G : Gp) (a : Addr) (o : GO) : Gp := fun b => if b = a then some o else G b
theorem gup_same {G : Gp} {a : Addr} {o : GO} : gup G a o a = some o := by unfold gup; rw [if_pos rfl]
theorem gup_ne {G : Gp} {a b : Addr} {o : GO} (h : b ≠ a) : gup G a o b = G b := by unfold gup; rw [if_neg h]
theorem gup_gup {G : Gp} {a : Addr} {o u : GO} : gup (gup G a o) a u = gup G a u := by
  funext b; unfold gup; split <;> rfl
/-- what the world of a law has: the written part, the classes -/
structure Wd where
  K : PySem.W.Frag
  cls : Nat → Addr
  /-- the heap that the def began with -/
  h0 : Hp := fun _ => none
  /-- the classes of exceptions by number -/
  exc : Nat → Addr := fun _ => 0
  /-- those that may be raised -/
  exr : List Nat := []
  /-- how keys of two levels are hashed -/
  hsh : NK → Int := fun _ => 0
def Wd.at (W : Wd) (H : Hp) : Wd := { W with h0 := H }
def RelKV (K : PySem.W.Frag) (H : Hp) {κ : Type} : List (κ × D) → List (κ × V) → Prop
  | [], vs => vs = []
  | (k, d) :: r, vs => ∃ v t, vs = (k, v) :: t ∧ RelD K H d v ∧ RelKV K H r t
def RelFs (K : PySem.W.Frag) (H : Hp) : List (Fd × D) → List (Str × V) → Prop
  | [], vs => vs = []
  | (f, d) :: r, vs => ∃ v t, vs = (f.nm, v) :: t ∧ RelD K H d v ∧ RelFs K H r t
theorem NKey.le {K : PySem.W.Frag} {H H' : Hp} (l : TLe H H') {k : NK} {b : Addr} (h : NKey K H k b) : NKey K H' k b := by
  obtain ⟨c, h1, h2⟩ := h
  exact ⟨c, SqT.le l h1, SqT.le l h2⟩
theorem NDr.le {hsh : NK → Int} {K : PySem.W.Frag} {H H' : Hp} (l : TLe H H') {kvs : List (NK × Int)} {o : Obj} (h : NDr hsh K H kvs o) : NDr hsh K H' kvs o := by
  obtain ⟨a, b, es, ep, xs, c, d, e, f⟩ := h
  exact ⟨a, b, es, ep, xs, c, d, e, Paired.mapP f fun p q z => ⟨z.1, z.2.1.le l, z.2.2⟩⟩
def RelO (W : Wd) (H : Hp) (a : Addr) : GO → Prop
  | .lst ds => ∃ xs, H a = some (.lst xs) ∧ RelDs W.K H ds xs
  | .ins c fs => ∃ dx vs, H a = some (.ins (W.cls c) dx vs) ∧ RelFs W.K H fs vs
  | .dic kvs => ∃ vs, H a = some (.dK vs) ∧ RelKV W.K H kvs vs
  | .exo k => k ∈ W.exr ∧ H a = some (ExK (.ref (W.exc k)) a)
  | .dnt kvs o => NAt H a o ∧ NDr W.hsh W.K H kvs o
structure RelG (W : Wd) (H : Hp) (G : Gp) : Prop where
  at_ : ∀ a o, G a = some o → RelO W H a o
  le : TLe W.h0 H
instance {W : Wd} {H : Hp} {G : Gp} : CoeFun (RelG W H G) (fun _ => ∀ a o, G a = some o → RelO W H a o) := ⟨RelG.at_⟩
section
variable {W : Wd} {K : PySem.W.Frag} {H H' : Hp} {G : Gp}
theorem RelKV.le {κ : Type} (l : TLe H H') : ∀ {ds : List (κ × D)} {vs : List (κ × V)}, RelKV K H ds vs → RelKV K H' ds vs
  | [], vs, h => by simpa [RelKV] using h
  | (k, d) :: ds, vs, h => by
    simp only [RelKV] at h ⊢
    obtain ⟨v, r, e, q, t⟩ := h
    exact ⟨v, r, e, RelD.le l d v q, RelKV.le l t⟩
theorem RelKV.length {κ : Type} : ∀ {ds : List (κ × D)} {vs : List (κ × V)}, RelKV K H ds vs → ds.length = vs.length
  | [], vs, h => by simp only [RelKV] at h; subst h; rfl
  | (k, d) :: ds, vs, h => by
    simp only [RelKV] at h
    obtain ⟨v, r, e, q, t⟩ := h
    subst e
    simp [RelKV.length t]
theorem RelKV.lookup {κ : Type} [BEq κ] : ∀ {ds : List (κ × D)} {vs : List (κ × V)} {k : κ}, RelKV K H ds vs →
    (∀ d, ds.lookup k = some d → ∃ v, vs.lookup k = some v ∧ RelD K H d v) ∧ (ds.lookup k = none → vs.lookup k = none)
  | [], vs, k, h => by simp only [RelKV] at h; subst h; exact ⟨fun d e => by simp at e, fun _ => rfl⟩
  | (k0, d0) :: ds, vs, k, h => by
    simp only [RelKV] at h
    obtain ⟨v, r, e, q, t⟩ := h
    subst e
    simp only [List.lookup_cons]
    cases k == k0 with
    | true => exact ⟨fun d e => by cases e; exact ⟨v, rfl, q⟩, fun e => by cases e⟩
    | false => exact RelKV.lookup t
theorem RelFs.le (l : TLe H H') : ∀ {ds : List (Fd × D)} {vs : List (Str × V)}, RelFs K H ds vs → RelFs K H' ds vs
  | [], vs, h => by simpa [RelFs] using h
  | (k, d) :: ds, vs, h => by
    simp only [RelFs] at h ⊢
    obtain ⟨v, r, e, q, t⟩ := h
    exact ⟨v, r, e, RelD.le l d v q, RelFs.le l t⟩
theorem RelFs.length : ∀ {ds : List (Fd × D)} {vs : List (Str × V)}, RelFs K H ds vs → ds.length = vs.length
  | [], vs, h => by simp only [RelFs] at h; subst h; rfl
  | (k, d) :: ds, vs, h => by
    simp only [RelFs] at h
    obtain ⟨v, r, e, q, t⟩ := h
    subst e
    simp [RelFs.length t]
theorem RelFs.lookup : ∀ {ds : List (Fd × D)} {vs : List (Str × V)} {k : Fd} {d : D}, RelFs K H ds vs → ds.lookup k = some d → ∃ v, vs.lookup k.nm = some v ∧ RelD K H d v
  | [], vs, k, d, h, e => by simp at e
  | (k0, d0) :: ds, vs, k, d, h, e => by
    simp only [RelFs] at h
    obtain ⟨v, r, e', q, t⟩ := h
    subst e'
    rw [List.lookup_cons] at e ⊢
    by_cases hk : k = k0
    · subst hk
      simp at e; subst e
      exact ⟨v, by simp, q⟩
    · have h1 : (k == k0) = false := by simpa using hk
      have h2 : (k.nm == k0.nm) = false := beq_eq_false_iff_ne.mpr fun z => hk (Fd.inj z)
      rw [h1] at e; rw [h2]
      exact RelFs.lookup t e
theorem RelFs.none : ∀ {ds : List (Fd × D)} {vs : List (Str × V)} {m : Str}, RelFs K H ds vs → m ∉ fdNames → vs.lookup m = Option.none
  | [], vs, m, h, e => by simp only [RelFs] at h; subst h; rfl
  | (k0, d0) :: ds, vs, m, h, e => by
    simp only [RelFs] at h
    obtain ⟨v, r, e', q, t⟩ := h
    subst e'
    rw [List.lookup_cons]
    have h2 : (m == k0.nm) = false := beq_eq_false_iff_ne.mpr fun z => e (z ▸ k0.mem)
    rw [h2]
    exact RelFs.none t e
theorem RelO.some {a : Addr} : ∀ {o : GO}, RelO W H a o → H a ≠ none
  | .lst _, h, e => by obtain ⟨xs, h, _⟩ := h; rw [e] at h; cases h
  | .ins _ _, h, e => by obtain ⟨_, xs, h, _⟩ := h; rw [e] at h; cases h
  | .dic _, h, e => by obtain ⟨xs, h, _⟩ := h; rw [e] at h; cases h
  | .exo _, h, e => by obtain ⟨_, h⟩ := h; rw [e] at h; cases h
  | .dnt _ _, h, e => by have h := h.1.at_; rw [e] at h; cases h
theorem RelO.step {a : Addr} (l : TLe H H') (h' : H' a = H a) : ∀ {o : GO}, RelO W H a o → RelO W H' a o
  | .lst _, h => by obtain ⟨xs, h, r⟩ := h; exact ⟨xs, h'.trans h, RelDs.le l _ _ r⟩
  | .ins _ _, h => by obtain ⟨dx, xs, h, r⟩ := h; exact ⟨dx, xs, h'.trans h, RelFs.le l r⟩
  | .dic _, h => by obtain ⟨xs, h, r⟩ := h; exact ⟨xs, h'.trans h, RelKV.le l r⟩
  | .exo _, h => ⟨h.1, h'.trans h.2⟩
  | .dnt _ _, h => ⟨⟨h'.trans h.1.at_, h.1.lo⟩, h.2.le l⟩
theorem RelG.free (r : RelG W H G) {p : Addr} (h : H p = none) : G p = none := by
  cases q : G p with
  | none => rfl
  | some o => exact absurd h (r p o q).some
/-- a new object of H alone (a tuple, an instance's dict ..) -/
theorem RelG.laid (r : RelG W H G) {p : Addr} {o : HO} (h : H p = none) : RelG W (upd H p o) G := ⟨fun a u e => by
  have hn := (r a u e).some
  have ne : a ≠ p := fun z => hn (by rw [z]; exact h)
  exact (r a u e).step (.new h) (upd_ne ne), r.le.trans (.new h)⟩
theorem RelG.new (r : RelG W H G) {p : Addr} {o : HO} {u : GO} (h : H p = none) (ro : RelO W (upd H p o) p u) : RelG W (upd H p o) (gup G p u) := ⟨fun a u' e => by
  by_cases q : a = p
  · subst q; rw [gup_same] at e; cases e; exact ro
  · rw [gup_ne q] at e; exact (r.laid h).at_ a u' e, r.le.trans (.new h)⟩
theorem RelG.put (r : RelG W H G) {p : Addr} {o : HO} {u : GO} (l : TLe H (upd H p o)) (ro : RelO W (upd H p o) p u) : RelG W (upd H p o) (gup G p u) := ⟨fun a u' e => by
  by_cases q : a = p
  · subst q; rw [gup_same] at e; cases e; exact ro
  · rw [gup_ne q] at e; exact (r a u' e).step l (upd_ne q), r.le.trans l⟩
theorem RelO.at {a : Addr} {H1 : Hp} : ∀ {o : GO}, RelO W H a o → RelO (W.at H1) H a o
  | .lst _, h => h
  | .ins _ _, h => h
  | .dic _, h => h
  | .exo _, h => h
  | .dnt _ _, h => h
theorem RelO.un {a : Addr} {H1 : Hp} : ∀ {o : GO}, RelO (W.at H1) H a o → RelO W H a o
  | .lst _, h => h
  | .ins _ _, h => h
  | .dic _, h => h
  | .exo _, h => h
  | .dnt _ _, h => h
/-- seen from a def that begins now -/
theorem RelG.now (r : RelG W H G) : RelG (W.at H) H G := ⟨fun a o e => (r a o e).at, .rfl⟩
/-- seen again from the def that called -/
theorem RelG.back {H1 : Hp} (l : TLe W.h0 H1) (r : RelG (W.at H1) H G) : RelG W H G := ⟨fun a o e => (r a o e).un, l.trans r.le⟩
end
/-! the names' values -/
abbrev Ev := List (Option D)
structure RelSt (K : PySem.W.Frag) (H : Hp) (env : Ev) (σ : L2.St) : Prop where
  len : env.length = σ.length
  get : ∀ (i : Nat) d, env[i]? = some (some d) → ∃ v, σ[i]? = some (some v) ∧ RelD K H d v
section
variable {K : PySem.W.Frag} {H H' : Hp} {env : Ev} {σ : L2.St}
theorem RelSt.le (l : TLe H H') (h : RelSt K H env σ) : RelSt K H' env σ := ⟨h.len, fun i d e => let ⟨v, a, b⟩ := h.get i d e; ⟨v, a, RelD.le l d v b⟩⟩
theorem RelSt.set (h : RelSt K H env σ) (i : Nat) {d : D} {v : V} (r : RelD K H d v) : RelSt K H (env.set i (some d)) (σ.set i (some v)) := by
  refine ⟨by simp [h.len], fun j e q => ?_⟩
  by_cases hj : i = j
  · subst hj
    rw [List.getElem?_set] at q
    by_cases hl : i < env.length
    · rw [if_pos rfl, if_pos hl] at q
      cases q
      exact ⟨v, by rw [List.getElem?_set, if_pos rfl, if_pos (h.len ▸ hl)], r⟩
    · rw [if_pos rfl, if_neg hl] at q; cases q
  · rw [List.getElem?_set_ne hj] at q
    obtain ⟨w, a, b⟩ := h.get j e q
    exact ⟨w, by rw [List.getElem?_set_ne hj]; exact a, b⟩
theorem RelSt.unset (h : RelSt K H env σ) (i : Nat) : RelSt K H (env.set i none) (σ.set i none) := by
  refine ⟨by simp [h.len], fun j e q => ?_⟩
  by_cases hj : i = j
  · subst hj
    rw [List.getElem?_set] at q
    by_cases hl : i < env.length
    · rw [if_pos rfl, if_pos hl] at q; cases q
    · rw [if_pos rfl, if_neg hl] at q; cases q
  · rw [List.getElem?_set_ne hj] at q
    obtain ⟨w, a, b⟩ := h.get j e q
    exact ⟨w, by rw [List.getElem?_set_ne hj]; exact a, b⟩
def wipeE (env : Ev) : List Nat → Ev
  | [] => env
  | v :: vs => (wipeE env vs).set v none
theorem RelSt.wipe (h : RelSt K H env σ) : ∀ vs : List Nat, RelSt K H (wipeE env vs) (wipe σ vs)
  | [] => h
  | v :: vs => (RelSt.wipe h vs).unset v
theorem RelSt.start {ds : List D} {vs : List V} (h : RelDs K H ds vs) (N : List Str) : RelSt K H (ds.map some ++ List.replicate (N.length - ds.length) none) (L2.start N vs) := by
  have e := h.length
  refine ⟨by simp [L2.start, e], fun i d q => ?_⟩
  unfold L2.start
  by_cases hi : i < ds.length
  · rw [List.getElem?_append_left (by simpa using hi), List.getElem?_map] at q
    cases q2 : ds[i]? with
    | none => rw [q2] at q; cases q
    | some d' =>
      rw [q2] at q
      cases q
      obtain ⟨v, a, b⟩ := h.get q2
      refine ⟨v, ?_, b⟩
      rw [List.getElem?_append_left (by simpa using e ▸ hi), List.getElem?_map, a]; rfl
  · rw [List.getElem?_append_right (by simpa using hi)] at q
    rw [List.getElem?_replicate] at q
    split at q <;> cases q
end
end DL
namespace DL
open PySem PySem.Spec PyProof.Rows L2
inductive TyT where | int | bool | str | list | tuple
inductive Bi where | len | list | tuple | int | str | max | min | sum | any | all | sorted
inductive Bm where | append | pop | popAt | clear | extend | insert | find | starts | split | join | bits
inductive Tg where
  | nm (i : Nat) | tup (is : List Nat)
mutual
inductive E where
  | v (i : Nat) | i (n : Int) | b (x : Bool) | s (x : Str) | non
  | con (k : Nat)
  | bin (o : Operator) (x y : E)
  | neg (x : E)
  | cmp (o : CmpOp) (x y : E)
  | cmp2 (o p : CmpOp) (x y z : E)
  | bop (o : BoolOp) (xs : Es)
  | not (x : E)
  | ite (c : T) (x y : E)
  | tup (xs : Es) | lst (xs : Es)
  | ix (x y : E) | sl (x : E) (lo hi : Eo) | rv (x : E)
  | call (f : Nat) (xs : Es)
  | bi (f : Bi) (xs : Es)
  | isi (x : E) (t : TyT)
  | bm (f : Bm) (x : E) (xs : Es)
  | fld (x : E) (f : Fd)
  | om (k : Nat) (x : E) (xs : Es)
  | mk (c : Nat) (xs : Es)
  | ini (c : Nat) (xs : Es)
  | isc (x : E) (k : Nat)
  | dat (k : Nat) (x : E)
  | dgt (k : Nat) (x y : E)
  | ddn | ddg (x y z : E) | dds (x : E) | ddx (x y : E)
  | fmt (x : E)
  | mrk (x y i : E)
  | nn | ng (x y z : E) | nx (x y : E)
  | fst (xs : Es)
  | callx (f : Nat) (xs : Es)
  | mkx (c : Nat) (xs : Es)
  | isx (x : E) (k : Nat) | ist (x : E) (ks : List Nat)
  | lc (it : It) (tg : Tg) (c : To) (x : E) (own : List (Str × Nat))
inductive Es where | nil | cons (x : E) (xs : Es)
inductive Eo where | none | some (x : E)
inductive T where
  | e (x : E) | cmp (o : CmpOp) (x y : E) | cmp2 (o p : CmpOp) (x y z : E)
  | not (t : T) | bop (o : BoolOp) (ts : Ts)
  | dic (neg : Bool) (k : Nat) (x : E)
  | nne (x y : E)
inductive Ts where | nil | cons (t : T) (ts : Ts)
inductive To where | none | some (t : T)
inductive It where
  | seq (x : E) | rng1 (x : E) | rng2 (x y : E) | rng3 (x y z : E) | enum (x : E) | zip (x y : E) | rev (x : E) | nk (x : E)
end
mutual
inductive S where
  | asg (t : Tg) (x : E)
  | unl (is : List Nat) (x : E)
  | par (i j : Nat) (x y : E)
  | aug (i : Nat) (o : Operator) (x : E)
  | set (o i x : E)
  | dst (o i x : E)
  | nst (o i x : E)
  | fset (o : E) (f : Fd) (x : E)
  | ex (x : E) | ret (x : E) | retN
  | ite (c : T) (s t : B)
  | loop (t : Tg) (it : It) (b : B)
  | loopU (is : List Nat) (it : It) (b : B)
  | whl (c : T) (b : B)
  | cont
  | never
  | rai (k : Nat)
  | tri (b : B) (h : Hd)
inductive B where | nil | cons (s : S) (b : B)
/-- except clauses: the class, the slot of the name, the suite -/
inductive Hd where | nil | cons (k : Nat) (i : Option Nat) (b : B) (r : Hd)
end
/-! meanings -/
abbrev K1 := D → Gp → Prop
abbrev SpD := List D → Gp → K1 → Prop
/-- what leaves a def otherwise: the number of an exception's class -/
abbrev X1 := Nat → Gp → Prop
abbrev XSpD := List D → Gp → K1 → X1 → Prop
abbrev Ev' := List (Option D)
abbrev botX : XSpD := fun _ _ _ _ => False
structure Gam where
  fn : List SpD := []
  con : List D := []
  /-- methods by place: for each class its meaning -/
  mth : List (List (Nat × SpD)) := []
  mks : List (Nat × SpD) := []
  /-- how many classes have instances -/
  ncl : Nat := 0
  /-- for each class that is asked for: the classes under it -/
  isc : List (List Nat) := []
  /-- tables of the module -/
  dic : List (List (Str × Int)) := []
  /-- defs that may raise -/
  xfn : List XSpD := []
  /-- classes whose making may raise -/
  xmk : List (Nat × XSpD) := []
  /-- what is wished of an exception here -/
  xc : Nat → Ev' → Gp → Prop := fun _ _ _ => False
abbrev botD : SpD := fun _ _ _ => False
abbrev Gam.wx (Γ : Gam) (x : Nat → Ev' → Gp → Prop) : Gam := { Γ with xc := x }
abbrev noX : Nat → Ev' → Gp → Prop := fun _ _ _ => False
/-- the classes of exceptions: 0 the one above all others, 11 ValueError -/
def exNames : List Str := ["SignError", "NoRow", "NoHead", "NoDeed", "NoWire", "NoLook", "TooMany", "Crossed", "Clash", "Looked", "NoChoice", "ValueError"]
def subx (j k : Nat) : Bool := j == k || k == 0 || k == 11
def nthN : List (List Nat) → Nat → List Nat
  | l :: _, 0 => l
  | _ :: r, n + 1 => nthN r n
  | [], _ => []
def memN : List Nat → Nat → Prop
  | [], _ => False
  | d :: r, c => if d = c then True else memN r c
def dget : List (Str × Int) → Str → Option Int
  | [], _ => none
  | (t, i) :: r, s => if s = t then some i else dget r s
def nthL : List (List (Str × Int)) → Nat → List (Str × Int)
  | l :: _, 0 => l
  | _ :: r, n + 1 => nthL r n
  | [], _ => []
def asS : D → (Str → Prop) → Prop
  | .str i, k => k i
  | _, _ => False
def onO : Option Int → (Int → Prop) → Prop
  | some i, k => k i
  | none, _ => False
def onL : Option GO → (List D → Prop) → Prop
  | some (.lst xs), k => k xs
  | _, _ => False
def onK : Option GO → (List (Key × D) → Prop) → Prop
  | some (.dic kvs), k => k kvs
  | _, _ => False
def onN : Option GO → (List (NK × Int) → Obj → Prop) → Prop
  | some (.dnt kvs o), k => k kvs o
  | _, _ => False
def kD : Key → D
  | .inl i => .int i
  | .inr s => .str s
def keyD (k : NK) : D := .tup [.tup (k.1.map kD), .int k.2]
def asN : D → (NK → Prop) → Prop
  | .tup [.tup ks, .int i], k => ∃ ks', ks = ks'.map kD ∧ k (ks', i)
  | _, _ => False
def asK : D → (Key → Prop) → Prop
  | .int i, k => k (.inl i)
  | .str s, k => k (.inr s)
  | _, _ => False
/-- None, or an exception that is kept: its class's number -/
def onX : Option GO → (Option Nat → Prop) → Prop
  | some (.exo j), k => k (some j)
  | _, _ => False
def isX (G : Gp) : D → (Option Nat → Prop) → Prop
  | .non, k => k none
  | .ref a, k => onX (G a) k
  | _, _ => False
def getK (kvs : List (Key × D)) (k : Key) : Option D := (kvs.find? fun kv => decide (kv.1 = k)).map (·.2)
def setK (kvs : List (Key × D)) (k : Key) (d : D) : List (Key × D) :=
  if (kvs.any fun kv => decide (kv.1 = k)) = true then kvs.map (fun kv => if kv.1 = k then (kv.1, d) else kv) else kvs ++ [(k, d)]
/-- the items of a list or tuple -/
def items (G : Gp) : D → (List D → Prop) → Prop
  | .tup xs, k => k xs
  | .ro xs, k => k xs
  | .ref a, k => onL (G a) k
  | _, _ => False
def newL (G : Gp) (xs : List D) (Q : K1) : Prop := xs.length ≤ sizeLine ∧ ∀ p, G p = none → Q (.ref p) (gup G p (.lst xs))
def asB : D → (Bool → Prop) → Prop
  | .bl b, k => k b
  | _, _ => False
def asI : D → (Int → Prop) → Prop
  | .int i, k => k i
  | _, _ => False
def asR : D → (Addr → Prop) → Prop
  | .ref i, k => k i
  | _, _ => False
def repS (x : Str) (k : Nat) : Str := ⟨(List.replicate k x.cps).foldl (· ++ ·) #[]⟩
/-- a shift to the left of a number of up to 256 bits -/
def CShl (i j : Int) : Prop := 0 ≤ j ∧ j ≤ 1000000 ∧ i.natAbs < 2 ^ 256
def wpBin (o : Operator) (x y : D) (G : Gp) (Q : K1) : Prop :=
  match o, x, y with
  | .Add, .int i, .int j => Q (.int (i + j)) G
  | .Add, .str i, .str j => i.length + j.length ≤ sizeLine ∧ Q (.str (i ++ j)) G
  | .Add, .ref a, .ref b => onL (G a) fun xs => onL (G b) fun ys => newL G (xs ++ ys) Q
  | .Add, .tup xs, .tup ys => xs.length + ys.length ≤ sizeLine ∧ Q (.tup (xs ++ ys)) G
  | .Sub, .int i, .int j => Q (.int (i - j)) G
  | .Mult, .int i, .int j => IntMulOk i j ∧ Q (.int (i * j)) G
  | .Mult, .ref a, .int k => onL (G a) fun xs => -(2 ^ 63) ≤ k ∧ k < 2 ^ 63 ∧ newL G (List.replicate k.toNat xs).flatten Q
  | .Mult, .str x, .int n => (0 ≤ n ∧ n ≤ 1000000 ∧ x.length ≤ 16) ∧ Q (.str (repS x n.toNat)) G
  | .FloorDiv, .int i, .int j => (0 < j ∧ j.natAbs.log2 < 9000) ∧ Q (.int (i / j)) G
  | .Mod, .int i, .int j => 0 < j ∧ Q (.int (i % j)) G
  | .Pow, .int i, .int j => CPow i j ∧ Q (.int (i ^ j.toNat)) G
  | .LShift, .int i, .int j => CShl i j ∧ Q (.int (i * 2 ^ j.toNat)) G
  | .RShift, .int i, .int j => 0 ≤ j ∧ Q (.int (i / 2 ^ j.toNat)) G
  | .BitAnd, .int i, .int j => Q (.int (Builtin.bitAnd i j)) G
  | .BitOr, .int i, .int j => Q (.int (Builtin.bitOr i j)) G
  | .BitXor, .int i, .int j => Q (.int (Builtin.bitXor i j)) G
  | _, _, _ => False
def wpAug (o : Operator) (x y : D) (G : Gp) (Q : K1) : Prop :=
  match o, x, y with
  | .Add, .int i, .int j => Q (.int (i + j)) G
  | .Add, .str i, .str j => i.length + j.length ≤ sizeLine ∧ Q (.str (i ++ j)) G
  | .Sub, .int i, .int j => Q (.int (i - j)) G
  | _, _, _ => False
/-! data for == -/
mutual
inductive Pd (G : Gp) : D → PyData → Prop where
  | non : Pd G .non .none
  | bl (b : Bool) : Pd G (.bl b) (.bool b)
  | int (i : Int) : Pd G (.int i) (.int i)
  | str (x : Str) : Pd G (.str x) (.str x)
  | tup {xs : List D} {ds : List PyData} : Pds G xs ds → Pd G (.tup xs) (.tuple ds)
  | ro {xs : List D} {ds : List PyData} : Pds G xs ds → Pd G (.ro xs) (.list ds)
  | lst {a : Addr} {xs : List D} {ds : List PyData} : G a = some (.lst xs) → Pds G xs ds → Pd G (.ref a) (.list ds)
inductive Pds (G : Gp) : List D → List PyData → Prop where
  | nil : Pds G [] []
  | cons {x : D} {xs : List D} {d : PyData} {ds : List PyData} : Pd G x d → Pds G xs ds → Pds G (x :: xs) (d :: ds)
end
def wpEq (x y : D) (G : Gp) (k : Bool → Prop) : Prop :=
  match x, y with
  | .int i, .int j => k (decide (i = j))
  | .str i, .str j => k (decide (i = j))
  | .bl i, .bl j => k (decide (i = j))
  | x, y => ∃ d e, Pd G x d ∧ Pd G y e ∧ SeqAt.shaped d = true ∧ SeqAt.shaped e = true ∧ k (PyData.eqv d e)
/-- flat: None, a bool, an int, a text -/
def flatD : D → Bool
  | .non | .bl _ | .int _ | .str _ => true
  | _ => false
def eqF : D → D → Bool
  | .non, .non => true
  | .bl a, .bl b => a == b
  | .bl a, .int b => (if a then 1 else 0) == b
  | .int a, .bl b => a == (if b then 1 else 0)
  | .int a, .int b => a == b
  | .str a, .str b => a == b
  | _, _ => false
def inF (x : D) (xs : List D) : Bool := xs.any fun y => eqF y x
def wpIn (x y : D) (G : Gp) (k : Bool → Prop) : Prop :=
  match x, y with
  | .str c, .str z => (∃ u, c = ⟨#[u]⟩ ∧ k (decide (u ∈ z.cps.toList)))
  | .tup xs, y => ∃ d ds, Pd G (.tup xs) d ∧ Pd G y (.list ds) ∧ SeqAt.shaped d = true ∧ SeqAt.shaped (.list ds) = true ∧ k (ds.any fun z => PyData.eqv z d)
  | x, y => items G y fun xs => flatD x = true ∧ xs.all flatD = true ∧ k (inF x xs)
def isNon : D → Bool
  | .non => true
  | _ => false
/-- tuples of ints, one not less than the other -/
def geT (ns ms : List Int) : Bool := Ob.lexAt (fun j => decide (ns.getD j 0 = ms.getD j 0)) (fun j => decide (ms.getD j 0 ≤ ns.getD j 0)) (decide (ns.length ≥ ms.length)) 0 (min ns.length ms.length)
def wpGe (x y : D) (k : Bool → Prop) : Prop :=
  match x, y with
  | .int i, .int j => k (decide (j ≤ i))
  | .tup xs, .tup ys => ∃ ns ms : List Int, xs = ns.map D.int ∧ ys = ms.map D.int ∧ k (geT ns ms)
  | _, _ => False
def wpCmp (o : CmpOp) (x y : D) (G : Gp) (k : Bool → Prop) : Prop :=
  match o with
  | .Eq => wpEq x y G k
  | .NotEq => wpEq x y G fun b => k (!b)
  | .Lt => asI x fun i => asI y fun j => k (decide (i < j))
  | .LtE => asI x fun i => asI y fun j => k (decide (i ≤ j))
  | .Gt => asI x fun i => asI y fun j => k (decide (j < i))
  | .GtE => wpGe x y k
  | .In => wpIn x y G k
  | .NotIn => wpIn x y G fun b => k (!b)
  | .Is => y = .non ∧ k (isNon x)
  | .IsNot => y = .non ∧ k (!isNon x)
def truth (G : Gp) : D → (Bool → Prop) → Prop
  | .bl b, k => k b
  | .non, k => k false
  | .int i, k => k (i != 0)
  | .tup xs, k => k (!xs.isEmpty)
  | .ro xs, k => k (!xs.isEmpty)
  | .ref a, k => onL (G a) fun xs => k (!xs.isEmpty)
  | _, _ => False
def isTy (G : Gp) : TyT → D → (Bool → Prop) → Prop
  | _, .non, k => k false
  | .int, .int _, k => k true
  | .int, .bl _, k => k true
  | .bool, .bl _, k => k true
  | .str, .str _, k => k true
  | .list, .ref a, k => onL (G a) fun _ => k true
  | .list, .ro _, k => k true
  | .tuple, .tup _, k => k true
  | _, .ref a, k => onL (G a) fun _ => k false
  | _, _, k => k false
def wpIx (x y : D) (G : Gp) (Q : K1) : Prop :=
  match x, y with
  | .str z, .int i => z.length ≤ sizeLine ∧ ∃ c, atI z.cps.toList i = some c ∧ Q (.str ⟨#[c]⟩) G
  | x, .int i => items G x fun xs => ∃ d, atI xs i = some d ∧ Q d G
  | _, _ => False
def cutD (xs : List D) (lo hi : Option Int) : List D := (xs.drop (HT.sIx xs.length 0 lo)).take (HT.sIx xs.length xs.length hi - HT.sIx xs.length 0 lo)
def wpSl (x : D) (lo hi : Option Int) (G : Gp) (Q : K1) : Prop :=
  match x with
  | .tup xs => ¬ (HT.sIx xs.length 0 lo = 0 ∧ HT.sIx xs.length xs.length hi = xs.length) ∧ Q (.tup (cutD xs lo hi)) G
  | .ro xs => ∀ p, G p = none → Q (.ref p) (gup G p (.lst (cutD xs lo hi)))
  | .ref a => onL (G a) fun xs => ∀ p, G p = none → Q (.ref p) (gup G p (.lst (cutD xs lo hi)))
  | .str z => z.length ≤ sizeLine ∧ Q (.str (cutS z lo hi)) G
  | _ => False
/-- {x} in an f-string -/
def wpFm (x : D) (G : Gp) (Q : K1) : Prop :=
  match x with
  | .str y => y.length ≤ sizeLine ∧ Q (.str y) G
  | .int i => i.natAbs.log2 < 1920 ∧ Q (.str (toString i)) G
  | _ => False
def wpRv (x : D) (G : Gp) (Q : K1) : Prop :=
  match x with
  | .ref a => onL (G a) fun xs => ∀ p, G p = none → Q (.ref p) (gup G p (.lst xs.reverse))
  | .ro xs => ∀ p, G p = none → Q (.ref p) (gup G p (.lst xs.reverse))
  | _ => False
/-- f(x[i + 1], y[i + 1]), f the def over two marks -/
def wpMrk (x y i : D) (G : Gp) (Q : K1) : Prop :=
  match x, y, i with
  | .str x, .str y, .int n => x.length ≤ sizeLine ∧ y.length ≤ sizeLine ∧ ∃ c d, atI x.cps.toList (n + 1) = some c ∧ atI y.cps.toList (n + 1) = some d ∧ isMk c ∧ isMk d ∧ newL G [.int (mkT c d), .str (mkM c d)] Q
  | _, _, _ => False
/-- how many items a tuple, a list or a dict has -/
def lenO : Option GO → (Nat → Prop) → Prop
  | some (.lst xs), k => k xs.length
  | some (.dic kvs), k => k kvs.length
  | _, _ => False
def lenX (G : Gp) : D → (Nat → Prop) → Prop
  | .tup xs, k => k xs.length
  | .ro xs, k => k xs.length
  | .ref a, k => lenO (G a) k
  | _, _ => False
def wpBi (f : Bi) (xs : List D) (G : Gp) (Q : K1) : Prop :=
  match f, xs with
  | .len, [.str z] => z.length ≤ sizeLine ∧ Q (.int z.length) G
  | .len, [x] => lenX G x fun n => Q (.int n) G
  | .list, [x] => items G x fun xs => ∀ p, G p = none → Q (.ref p) (gup G p (.lst xs))
  | .tuple, [x] => items G x fun xs => Q (.tup xs) G
  | .int, [.int i] => Q (.int i) G
  | .int, [.bl b] => Q (.int (if b then 1 else 0)) G
  | .int, [.str z] => ∃ n, PySem.intText? z = some n ∧ z.length ≤ 640 ∧ Q (.int n) G
  | .str, [.int i] => i.natAbs.log2 < 1920 ∧ Q (.str (toString i)) G
  | .max, [.int i, .int j] => Q (.int (if j > i then j else i)) G
  | .min, [.int i, .int j] => Q (.int (if j < i then j else i)) G
  | .sum, [x] => items G x fun xs => ∃ ns : List Int, xs = ns.map D.int ∧ (∀ ys, x ≠ .tup ys) ∧ Q (.int ns.sum) G
  | .all, [x] => items G x fun xs => ∃ ns : List Bool, xs = ns.map D.bl ∧ (∀ ys, x ≠ .tup ys) ∧ Q (.bl (ns.all id)) G
  | .any, [x] => items G x fun xs => ∃ ns : List Bool, xs = ns.map D.bl ∧ (∀ ys, x ≠ .tup ys) ∧ Q (.bl (ns.any id)) G
  | .sorted, [x] => items G x fun xs => ∃ ns : List Int, xs = ns.map D.int ∧ ∀ ns' : List Int, ns'.Perm ns → ns'.Pairwise (· ≤ ·) → ∀ p, G p = none → Q (.ref p) (gup G p (.lst (ns'.map D.int)))
  | _, _ => False
def wpBm (f : Bm) (x : D) (ys : List D) (G : Gp) (Q : K1) : Prop :=
  match f, x, ys with
  | .append, .ref a, [y] => onL (G a) fun xs => xs.length < sizeLine ∧ Q .non (gup G a (.lst (xs ++ [y])))
  | .pop, .ref a, [] => onL (G a) fun xs => ∃ y, xs[xs.length - 1]? = some y ∧ Q y (gup G a (.lst xs.dropLast))
  | .popAt, .ref a, [.int i] => onL (G a) fun xs => (-(2 ^ 63) ≤ i ∧ i < 2 ^ 63) ∧ ∃ k y, seqIndex? i xs.length = some k ∧ xs[k]? = some y ∧ Q y (gup G a (.lst (xs.eraseIdx k)))
  | .clear, .ref a, [] => onL (G a) fun xs => Q .non (gup G a (.lst []))
  | .insert, .ref a, [.int i, y] => onL (G a) fun xs => xs.length < sizeLine ∧ 0 ≤ i ∧ i < 2 ^ 63 ∧ Q .non (gup G a (.lst (xs.take i.toNat ++ [y] ++ xs.drop i.toNat)))
  | .find, .str a, [.str b] => Q (.int (Txt.find a b)) G
  | .starts, .str a, [.str b] => Q (.bl (Txt.startswith a b)) G
  | .split, .str a, [.str b] => (b.length == 0) = false ∧ a.length + 2 ≤ sizeLine ∧ ∀ p, G p = none → Q (.ref p) (gup G p (.lst ((Txt.split a b).map D.str)))
  | .join, .str a, [.ref p] => onL (G p) fun xs => ∃ ys : List Str, xs = ys.map D.str ∧ (ys.map (·.length)).sum + ys.length * a.length ≤ 16777216 ∧ Q (.str (Txt.join a ys)) G
  | .bits, .int i, [] => Q (.int (Builtin.Int.intBits i : Nat)) G
  | .extend, .ref a, [.ref b] => onL (G a) fun xs => onL (G b) fun zs => xs.length + zs.length ≤ sizeLine ∧ Q .non (gup G a (.lst (xs ++ zs)))
  | _, _, _ => False
/-- what the receiver must be ahead of the arguments -/
inductive Knd where | l | s | i
def Bm.kd : Bm → Knd
  | .find | .starts | .split | .join => .s
  | .bits => .i
  | _ => .l
def rcv (f : Bm) (x : D) (G : Gp) : Prop :=
  match f.kd, x with
  | .s, .str _ => True
  | .l, .ref a => onL (G a) fun _ => True
  | .i, .int _ => True
  | _, _ => False
def setT : Tg → D → Ev → (Ev → Prop) → Prop
  | .nm i, d, env, k => k (env.set i (some d))
  | .tup is, .tup ds, env, k => ds.length = is.length ∧ k ((is.zip ds).foldl (fun e p => e.set p.1 (some p.2)) env)
  | _, _, _, _ => False
def slots : Tg → List Nat
  | .nm i => [i]
  | .tup is => is
def lkF (f : Fd) (fs : List (Fd × D)) (k : D → Prop) : Prop :=
  match fs.lookup f with
  | some d => k d
  | none => False
def onI : Option GO → (Nat → List (Fd × D) → Prop) → Prop
  | some (.ins c fs), k => k c fs
  | _, _ => False
def putD (f : Fd) (d : D) : List (Fd × D) → List (Fd × D)
  | [] => [(f, d)]
  | (g, x) :: r => if g = f then (g, d) :: r else (g, x) :: putD f d r
/-! a loop over items -/
def forD (chk : Gp → Prop) (set : D → Ev → (Ev → Prop) → Prop) (body : (Ev → Gp → Prop) → Ev → Gp → Prop) (nx : Ev → Gp → Prop) : List D → Ev → Gp → Prop
  | [], env, G => chk G ∧ nx env G
  | d :: ds, env, G => chk G ∧ set d env fun env' => body (forD chk set body nx ds) env' G
/-- storing the items of a list -/
def setU (is : List Nat) (d : D) (env : Ev) (G : Gp) (k : Ev → Prop) : Prop := items G d fun xs => (∀ ys, d ≠ .tup ys) ∧ xs.length = is.length ∧ k ((is.zip xs).foldl (fun e p => e.set p.1 (some p.2)) env)
def forU (chk : Gp → Prop) (is : List Nat) (body : (Ev → Gp → Prop) → Ev → Gp → Prop) (nx : Ev → Gp → Prop) : List D → Ev → Gp → Prop
  | [], env, G => chk G ∧ nx env G
  | d :: ds, env, G => chk G ∧ setU is d env G fun env' => body (forU chk is body nx ds) env' G
def lcD (chk : Gp → Prop) (set : D → Ev → (Ev → Prop) → Prop) (tst : Ev → Gp → (Bool → Gp → Prop) → Prop) (elt : Ev → Gp → K1 → Prop) (p : Addr) (Q : Gp → Prop) (env : Ev) : List D → Gp → Prop
  | [], G => chk G ∧ Q G
  | d :: ds, G => chk G ∧ set d env fun env' => tst env' G fun b G1 =>
      if b = true then elt env' G1 fun y G2 => onL (G2 p) fun acc => acc.length < sizeLine ∧ lcD chk set tst elt p Q env ds (gup G2 p (.lst (acc ++ [y])))
      else lcD chk set tst elt p Q env ds G1
def whlD (c : Ev → Gp → (Bool → Gp → Prop) → Prop) (body : (Ev → Gp → Prop) → Ev → Gp → Prop) (nx : Ev → Gp → Prop) : Nat → Ev → Gp → Prop
  | 0, _, _ => False
  | n + 1, env, G => c env G fun b G1 => if b = true then body (whlD c body nx n) env G1 else nx env G1
def rngD (lo c : Int) (n : Nat) : List D := (List.range n).map fun (k : Nat) => D.int (lo + (k : Int) * c)
def enumD (n : Nat) : List D → List D
  | [] => []
  | d :: ds => .tup [.int (n : Int), d] :: enumD (n + 1) ds
def zipD : List D → List D → List D
  | x :: xs, y :: ys => .tup [x, y] :: zipD xs ys
  | _, _ => []
def chkOf (d : D) (xs : List D) (G : Gp) : Prop :=
  match d with
  | .ref a => G a = some (.lst xs)
  | _ => True
abbrev KI := List D → (Gp → Prop) → Gp → Prop
def small62 (i : Int) : Prop := -(2 ^ 62) ≤ i ∧ i < 2 ^ 62
mutual
def wpE (Γ : Gam) : E → Ev → Gp → K1 → Prop
  | .v i, env, G, Q => match env[i]? with
    | some (some d) => Q d G
    | _ => False
  | .i n, _, G, Q => Q (.int n) G
  | .b x, _, G, Q => Q (.bl x) G
  | .s x, _, G, Q => Q (.str x) G
  | .non, _, G, Q => Q .non G
  | .con k, _, G, Q => match Γ.con[k]? with
    | some d => Q d G
    | _ => False
  | .bin o x y, env, G, Q => wpE Γ x env G fun d G1 => wpE Γ y env G1 fun e G2 => wpBin o d e G2 Q
  | .neg x, env, G, Q => wpE Γ x env G fun d G1 => asI d fun i => Q (.int (-i)) G1
  | .cmp o x y, env, G, Q => wpE Γ x env G fun d G1 => wpE Γ y env G1 fun e G2 => wpCmp o d e G2 fun b => Q (.bl b) G2
  | .cmp2 o p x y z, env, G, Q => wpE Γ x env G fun d G1 => wpE Γ y env G1 fun e G2 => wpCmp o d e G2 fun b =>
      if b = true then wpE Γ z env G2 fun f G3 => wpCmp p e f G3 fun b => Q (.bl b) G3 else Q (.bl false) G2
  | .bop o xs, env, G, Q => wpBop Γ o xs env G Q
  | .not x, env, G, Q => wpE Γ x env G fun d G1 => asB d fun b => Q (.bl (!b)) G1
  | .ite c x y, env, G, Q => wpT Γ c env G fun b G1 => if b = true then wpE Γ x env G1 Q else wpE Γ y env G1 Q
  | .tup xs, env, G, Q => wpEs Γ xs env G fun ds G1 => ds.length ≤ sizeLine ∧ Q (.tup ds) G1
  | .lst xs, env, G, Q => wpEs Γ xs env G fun ds G1 => newL G1 ds Q
  | .ix x y, env, G, Q => wpE Γ x env G fun d G1 => wpE Γ y env G1 fun e G2 => wpIx d e G2 Q
  | .sl x lo hi, env, G, Q => wpE Γ x env G fun d G1 => wpEo Γ lo env G1 fun l G2 => wpEo Γ hi env G2 fun h G3 => wpSl d l h G3 Q
  | .rv x, env, G, Q => wpE Γ x env G fun d G1 => wpRv d G1 Q
  | .callx f xs, env, G, Q => wpEs Γ xs env G fun ds G1 => (Γ.xfn.getD f botX) ds G1 Q fun k G2 => Γ.xc k env G2
  | .mkx c xs, env, G, Q => match Γ.xmk[c]? with
      | some (cl, m) => wpEs Γ xs env G fun ds G1 => ∀ p, G1 p = none → m (.ref p :: ds) (gup G1 p (.ins cl [])) (fun d G2 => d = .non ∧ Q (.ref p) G2) fun k G2 => Γ.xc k env G2
      | none => False
  | .isx x k, env, G, Q => wpE Γ x env G fun d G1 => isX G1 d fun o => Q (.bl (o.any fun j => subx j k)) G1
  | .ist x ks, env, G, Q => wpE Γ x env G fun d G1 => isX G1 d fun o => Q (.bl (o.any fun j => ks.any (subx j))) G1
  | .call f xs, env, G, Q => wpEs Γ xs env G fun ds G1 => (Γ.fn.getD f botD) ds G1 Q
  | .bi f xs, env, G, Q => wpEs Γ xs env G fun ds G1 => wpBi f ds G1 Q
  | .isi x t, env, G, Q => wpE Γ x env G fun d G1 => isTy G1 t d fun b => Q (.bl b) G1
  | .isc x k, env, G, Q => wpE Γ x env G fun d G1 => asR d fun a => onI (G1 a) fun c _ => memN (nthN Γ.isc k) c ∧ Q (.bl true) G1
  | .bm f x xs, env, G, Q => wpE Γ x env G fun d G1 => rcv f d G1 ∧ wpEs Γ xs env G1 fun ds G2 => wpBm f d ds G2 Q
  | .fld x f, env, G, Q => wpE Γ x env G fun d G1 => asR d fun a => onI (G1 a) fun c fs => c < Γ.ncl ∧ lkF f fs fun d => Q d G1
  | .om k x xs, env, G, Q => wpE Γ x env G fun d G1 => asR d fun a => onI (G1 a) fun c _ =>
      match ((Γ.mth.getD k []).lookup c) with
      | some m => wpEs Γ xs env G1 fun ds G2 => m (d :: ds) G2 Q
      | none => False
  | .mk c xs, env, G, Q => match Γ.mks[c]? with
      | some (cl, m) => wpEs Γ xs env G fun ds G1 => ∀ p, G1 p = none → m (.ref p :: ds) (gup G1 p (.ins cl [])) fun d G2 => d = .non ∧ Q (.ref p) G2
      | none => False
  | .ini c xs, env, G, Q => match Γ.mks[c]? with
      | some (_, m) => wpEs Γ xs env G fun ds G1 => m ds G1 Q
      | none => False
  | .dat k x, env, G, Q => wpE Γ x env G fun d G1 => asS d fun s => onO (dget (nthL Γ.dic k) s) fun i => Q (.int i) G1
  | .dgt k x y, env, G, Q => wpE Γ x env G fun d G1 => asS d fun s => wpE Γ y env G1 fun e G2 => match dget (nthL Γ.dic k) s with
    | some i => Q (.int i) G2
    | none => Q e G2
  | .nn, _, G, Q => ∀ p o, G p = none → Q (.ref p) (gup G p (.dnt [] o))
  | .ng x y z, env, G, Q => wpE Γ x env G fun d G1 => asR d fun a => onN (G1 a) fun _ _ => wpE Γ y env G1 fun e G2 => asN e fun k => wpE Γ z env G2 fun f G3 => asI f fun i => onN (G3 a) fun kvs _ => Q (.int ((getN kvs k).getD i)) G3
  | .nx x y, env, G, Q => wpE Γ x env G fun d G1 => wpE Γ y env G1 fun e G2 => asR d fun a => asN e fun k => onN (G2 a) fun kvs _ => ∃ i, getN kvs k = some i ∧ Q (.int i) G2
  | .ddn, _, G, Q => ∀ p, G p = none → Q (.ref p) (gup G p (.dic []))
  | .ddg x y z, env, G, Q => wpE Γ x env G fun d G1 => asR d fun a => onK (G1 a) fun _ => wpE Γ y env G1 fun e G2 => asK e fun i => wpE Γ z env G2 fun f G3 => onK (G3 a) fun kvs => Q ((getK kvs i).getD f) G3
  | .ddx x y, env, G, Q => wpE Γ x env G fun d G1 => wpE Γ y env G1 fun e G2 => asR d fun a => asK e fun i => onK (G2 a) fun kvs => ∃ v, getK kvs i = some v ∧ Q v G2
  | .dds x, env, G, Q => wpE Γ x env G fun d G1 => asR d fun a => onK (G1 a) fun kvs => ∃ ks : List Int, kvs.map (·.1) = ks.map Sum.inl ∧ ks.length < 64 ∧
      ∀ (ys : List Int) (p : Addr), ys.Perm ks → ys.Pairwise (· ≤ ·) → G1 p = none → Q (.ref p) (gup G1 p (.lst (ys.map D.int)))
  | .fmt x, env, G, Q => wpE Γ x env G fun d G1 => wpFm d G1 Q
  | .fst xs, env, G, Q => wpFs Γ xs env G Str.empty fun z G1 => Q (.str z) G1
  | .mrk x y i, env, G, Q => wpE Γ x env G fun d G1 => wpE Γ y env G1 fun e G2 => wpE Γ i env G2 fun f G3 => wpMrk d e f G3 Q
  | .lc it tg c x own, env, G, Q => wpIt Γ it env G fun ds chk G1 => ∀ p, G1 p = none →
      lcD chk (setT tg) (wpTo Γ c) (wpE Γ x) p (Q (.ref p)) (wipeE env (own.map (·.2))) ds (gup G1 p (.lst []))
def wpBop (Γ : Gam) (o : BoolOp) : Es → Ev → Gp → K1 → Prop
  | .nil, _, _, _ => False
  | .cons x .nil, env, G, Q => wpE Γ x env G Q
  | .cons x xs, env, G, Q => wpE Γ x env G fun d G1 => asB d fun b => match o, b with
    | .And, true => wpBop Γ o xs env G1 Q
    | .And, false => Q (.bl false) G1
    | .Or, true => Q (.bl true) G1
    | .Or, false => wpBop Γ o xs env G1 Q
def wpEs (Γ : Gam) : Es → Ev → Gp → (List D → Gp → Prop) → Prop
  | .nil, _, G, Q => Q [] G
  | .cons x xs, env, G, Q => wpE Γ x env G fun d G1 => wpEs Γ xs env G1 fun ds G2 => Q (d :: ds) G2
def wpFs (Γ : Gam) : Es → Ev → Gp → Str → (Str → Gp → Prop) → Prop
  | .nil, _, G, z, Q => Q z G
  | .cons x xs, env, G, z, Q => wpE Γ x env G fun d G1 => asS d fun y => (z ++ y).length ≤ sizeLine ∧ wpFs Γ xs env G1 (z ++ y) Q
def wpEo (Γ : Gam) : Eo → Ev → Gp → (Option Int → Gp → Prop) → Prop
  | .none, _, G, Q => Q none G
  | .some x, env, G, Q => wpE Γ x env G fun d G1 => asI d fun i => Q (some i) G1
def wpT (Γ : Gam) : T → Ev → Gp → (Bool → Gp → Prop) → Prop
  | .e x, env, G, Q => wpE Γ x env G fun d G1 => truth G1 d fun b => Q b G1
  | .cmp o x y, env, G, Q => wpE Γ x env G fun d G1 => wpE Γ y env G1 fun e G2 => wpCmp o d e G2 fun b => Q b G2
  | .cmp2 o p x y z, env, G, Q => wpE Γ x env G fun d G1 => wpE Γ y env G1 fun e G2 => wpCmp o d e G2 fun b =>
      if b = true then wpE Γ z env G2 fun f G3 => wpCmp p e f G3 fun b => Q b G3 else Q false G2
  | .not t, env, G, Q => wpT Γ t env G fun b G1 => Q (!b) G1
  | .bop o ts, env, G, Q => wpTs Γ o ts env G Q
  | .nne x y, env, G, Q => wpE Γ x env G fun d G1 => wpE Γ y env G1 fun e G2 => asR d fun a => asR e fun b => onN (G2 a) fun kvs _ => onN (G2 b) fun lvs _ => sameN kvs lvs ∧ Q false G2
  | .dic neg k x, env, G, Q => wpE Γ x env G fun d G1 => asS d fun s => Q (if neg = true then !(dget (nthL Γ.dic k) s).isSome else (dget (nthL Γ.dic k) s).isSome) G1
def wpTs (Γ : Gam) (o : BoolOp) : Ts → Ev → Gp → (Bool → Gp → Prop) → Prop
  | .nil, _, _, _ => False
  | .cons t .nil, env, G, Q => wpT Γ t env G Q
  | .cons t ts, env, G, Q => wpT Γ t env G fun b G1 => match o, b with
    | .And, true => wpTs Γ o ts env G1 Q
    | .And, false => Q false G1
    | .Or, true => Q true G1
    | .Or, false => wpTs Γ o ts env G1 Q
def wpTo (Γ : Gam) : To → Ev → Gp → (Bool → Gp → Prop) → Prop
  | .none, _, G, Q => Q true G
  | .some t, env, G, Q => wpT Γ t env G Q
def wpIt (Γ : Gam) : It → Ev → Gp → KI → Prop
  | .seq x, env, G, R => wpE Γ x env G fun d G1 => match d with
    | .str z => R (z.cps.toList.map fun c => D.str ⟨#[c]⟩) (fun _ => True) G1
    | d => items G1 d fun xs => R xs (chkOf d xs) G1
  | .rng1 x, env, G, R => wpE Γ x env G fun d G1 => asI d fun i => small62 i ∧ R (rngD 0 1 i.toNat) (fun _ => True) G1
  | .rng2 x y, env, G, R => wpE Γ x env G fun d G1 => wpE Γ y env G1 fun e G2 => asI d fun i => asI e fun j => small62 i ∧ small62 j ∧ R (rngD i 1 (j - i).toNat) (fun _ => True) G2
  | .rng3 x y z, env, G, R => wpE Γ x env G fun d G1 => wpE Γ y env G1 fun e G2 => wpE Γ z env G2 fun f G3 => asI d fun i => asI e fun j => asI f fun c =>
      ∃ n, RgC i j c n ∧ R (rngD i c n) (fun _ => True) G3
  | .enum x, env, G, R => wpE Γ x env G fun d G1 => items G1 d fun xs => (∀ ys, d ≠ .tup ys) ∧ R (enumD 0 xs) (chkOf d xs) G1
  | .zip x y, env, G, R => wpE Γ x env G fun d G1 => wpE Γ y env G1 fun e G2 => items G2 d fun xs => items G2 e fun ys => (∀ zs, d ≠ .tup zs) ∧ (∀ zs, e ≠ .tup zs) ∧
      R (zipD xs ys) (fun G => chkOf d xs G ∧ chkOf e ys G) G2
  | .nk x, env, G, R => wpE Γ x env G fun d G1 => asR d fun a => onN (G1 a) fun kvs o => R (kvs.map fun p => keyD p.1) (fun G' => G' a = some (.dnt kvs o)) G1
  | .rev x, env, G, R => wpE Γ x env G fun d G1 => items G1 d fun xs => (∀ ys, d ≠ .tup ys) ∧ R xs.reverse (chkOf d xs) G1
end
/-- the slot of an except clause's name -/
def offE (o : Option Nat) (env : Ev) : Ev := match o with
  | none => env
  | some i => env.set i none
def onE (o : Option Nat) (p : Addr) (env : Ev) : Ev := match o with
  | none => env
  | some i => env.set i (some (.ref p))
structure Dn where
  nx : Ev → Gp → Prop
  rt : K1
  ct : Ev → Gp → Prop := fun _ _ => False
mutual
def wpS (Γ : Gam) : S → Dn → Ev → Gp → Prop
  | .asg t x, D, env, G => wpE Γ x env G fun d G1 => setT t d env fun env' => D.nx env' G1
  | .unl is x, D, env, G => wpE Γ x env G fun d G1 => items G1 d fun xs => (∀ ys, d ≠ .tup ys) ∧ xs.length = is.length ∧ D.nx ((is.zip xs).foldl (fun e p => e.set p.1 (some p.2)) env) G1
  | .par i j x y, D, env, G => wpE Γ x env G fun d G1 => wpE Γ y env G1 fun e G2 => D.nx ((env.set i (some d)).set j (some e)) G2
  | .aug i o x, D, env, G => match env[i]? with
    | some (some d) => wpE Γ x env G fun e G1 => wpAug o d e G1 fun f G2 => D.nx (env.set i (some f)) G2
    | _ => False
  | .set o i x, D, env, G => wpE Γ x env G fun d G1 => wpE Γ o env G1 fun l G2 => wpE Γ i env G2 fun e G3 => asR l fun a => asI e fun k => onL (G3 a) fun xs =>
      ∃ j, ixN xs.length k = some j ∧ D.nx env (gup G3 a (.lst (xs.set j d)))
  | .dst o i x, D, env, G => wpE Γ x env G fun d G1 => wpE Γ o env G1 fun l G2 => wpE Γ i env G2 fun e G3 => asR l fun a => asK e fun k => onK (G3 a) fun kvs =>
      kvs.length < sizeLine ∧ D.nx env (gup G3 a (.dic (setK kvs k d)))
  | .nst o i x, D, env, G => wpE Γ x env G fun d G1 => wpE Γ o env G1 fun l G2 => wpE Γ i env G2 fun e G3 => asR l fun a => asN e fun k => asI d fun v => onN (G3 a) fun kvs _ =>
      kvs.length < sizeLine ∧ ∀ o', D.nx env (gup G3 a (.dnt (setN kvs k v) o'))
  | .fset o f x, D, env, G => wpE Γ x env G fun d G1 => wpE Γ o env G1 fun l G2 => asR l fun a => onI (G2 a) fun c fs => c < Γ.ncl ∧ fs.length < 1000 ∧ D.nx env (gup G2 a (.ins c (putD f d fs)))
  | .ex x, D, env, G => wpE Γ x env G fun _ G1 => D.nx env G1
  | .ret x, D, env, G => wpE Γ x env G D.rt
  | .retN, D, _, G => D.rt .non G
  | .ite c s t, D, env, G => wpT Γ c env G fun b G1 => if b = true then wpB Γ s D env G1 else wpB Γ t D env G1
  | .loop t it b, D, env, G => wpIt Γ it env G fun ds chk G1 => forD chk (setT t) (fun k => wpB Γ b { nx := k, rt := D.rt, ct := k }) D.nx ds env G1
  | .loopU is it b, D, env, G => wpIt Γ it env G fun ds chk G1 => forU chk is (fun k => wpB Γ b { nx := k, rt := D.rt, ct := k }) D.nx ds env G1
  | .whl c b, D, env, G => ∃ n, whlD (wpT Γ c) (fun k => wpB Γ b { nx := k, rt := D.rt, ct := k }) D.nx n env G
  | .cont, D, env, G => D.ct env G
  | .never, _, _, _ => False
  | .rai k, _, env, G => Γ.xc k env G
  | .tri b h, D, env, G => wpB (Γ.wx fun j env' G' => wpHd Γ j h D env' G') b D env G
def wpB (Γ : Gam) : B → Dn → Ev → Gp → Prop
  | .nil, D, env, G => D.nx env G
  | .cons s b, D, env, G => wpS Γ s { D with nx := fun env' G' => wpB Γ b D env' G' } env G
def wpHd (Γ : Gam) (j : Nat) : Hd → Dn → Ev → Gp → Prop
  | .nil, _, env, G => Γ.xc j env G
  | .cons k i b r, D, env, G => if subx j k = true then ∀ p, G p = none → wpB (Γ.wx noX) b { nx := fun env' G' => D.nx (offE i env') G', rt := D.rt, ct := fun env' G' => D.ct (offE i env') G' } (onE i p env) (gup G p (.exo j)) else wpHd Γ j r D env G
end
def den (Γ : Gam) (n p : Nat) (b : B) : SpD := fun ds G Q => ds.length = p ∧ wpB Γ b { nx := fun _ G' => Q .non G', rt := Q } (ds.map some ++ List.replicate (n - ds.length) none) G
end DL
namespace DL
open PySem PySem.Spec PyProof.Rows L2
def MonoS (m : SpD) : Prop := ∀ ds G (Q Q' : K1), (∀ d G', Q d G' → Q' d G') → m ds G Q → m ds G Q'
/-- .. of a def that may raise -/
def MonoX (m : XSpD) : Prop := ∀ ds G (Q Q' : K1) (X X' : X1), (∀ d G', Q d G' → Q' d G') → (∀ k G', X k G' → X' k G') → m ds G Q X → m ds G Q' X'
theorem MonoX.bot : MonoX botX := fun _ _ _ _ _ _ _ _ h => h.elim
structure Gam.Mono (Γ : Gam) : Prop where
  fn : ∀ m ∈ Γ.fn, MonoS m
  mth : ∀ l ∈ Γ.mth, ∀ p ∈ l, MonoS p.2
  mks : ∀ p ∈ Γ.mks, MonoS p.2
  xfn : ∀ m ∈ Γ.xfn, MonoX m := by simp
  xmk : ∀ p ∈ Γ.xmk, MonoX p.2 := by simp
theorem MonoS.bot : MonoS botD := fun _ _ _ _ _ h => h.elim
theorem Gam.Mono.fn' {Γ : Gam} (M : Γ.Mono) (i : Nat) : MonoS (Γ.fn.getD i botD) := by
  rw [List.getD_eq_getElem?_getD]
  cases q : Γ.fn[i]? with
  | none => exact MonoS.bot
  | some m => exact M.fn m (List.mem_of_getElem? q)
theorem Gam.Mono.xfn' {Γ : Gam} (M : Γ.Mono) (i : Nat) : MonoX (Γ.xfn.getD i botX) := by
  rw [List.getD_eq_getElem?_getD]
  cases q : Γ.xfn[i]? with
  | none => exact MonoX.bot
  | some m => exact M.xfn m (List.mem_of_getElem? q)
theorem Gam.Mono.wx {Γ : Gam} (M : Γ.Mono) (x : Nat → Ev' → Gp → Prop) : (Γ.wx x).Mono := ⟨M.fn, M.mth, M.mks, M.xfn, M.xmk⟩
theorem lookup_mem {α : Type} {k : Nat} {v : α} : ∀ {l : List (Nat × α)}, l.lookup k = some v → ∃ p ∈ l, p.2 = v
  | [], h => by simp at h
  | (j, w) :: l, h => by
    rw [List.lookup_cons] at h
    cases e : k == j with
    | true => rw [e] at h; cases h; exact ⟨_, List.mem_cons_self, rfl⟩
    | false => rw [e] at h; obtain ⟨p, a, b⟩ := lookup_mem h; exact ⟨p, List.mem_cons_of_mem _ a, b⟩
theorem getD_mem {α : Type} {l : List (List α)} {i : Nat} {x : α} (h : x ∈ l.getD i []) : ∃ m ∈ l, x ∈ m := by
  rw [List.getD_eq_getElem?_getD] at h
  cases q : l[i]? with
  | none => rw [q] at h; simp at h
  | some m => rw [q] at h; exact ⟨m, List.mem_of_getElem? q, h⟩
theorem Gam.Mono.mth' {Γ : Gam} (M : Γ.Mono) {k c : Nat} {sp : SpD} (h : (Γ.mth.getD k []).lookup c = some sp) : MonoS sp := by
  obtain ⟨p, hp, e⟩ := lookup_mem h
  obtain ⟨l, hl, hp'⟩ := getD_mem hp
  subst e
  exact M.mth l hl p hp'
section
variable {G : Gp} {Q Q' : K1}
theorem onL_mono {o : Option GO} {k k' : List D → Prop} (f : ∀ xs, k xs → k' xs) (h : onL o k) : onL o k' := by
  unfold onL at h ⊢; split at h
  · exact f _ h
  · exact h.elim
theorem onK_mono {o : Option GO} {k k' : List (Key × D) → Prop} (f : ∀ xs, k xs → k' xs) (h : onK o k) : onK o k' := by
  unfold onK at h ⊢; split at h
  · exact f _ h
  · exact h.elim
theorem onN_mono {o : Option GO} {k k' : List (NK × Int) → Obj → Prop} (f : ∀ xs u, k xs u → k' xs u) (h : onN o k) : onN o k' := by
  unfold onN at h ⊢; split at h
  · exact f _ _ h
  · exact h.elim
theorem asN_mono {d : D} {k k' : NK → Prop} (f : ∀ x, k x → k' x) (h : asN d k) : asN d k' := by
  unfold asN at h ⊢; split at h
  · obtain ⟨ks, e, h⟩ := h; exact ⟨ks, e, f _ h⟩
  · exact h.elim
theorem onI_mono {o : Option GO} {k k' : Nat → List (Fd × D) → Prop} (f : ∀ c xs, k c xs → k' c xs) (h : onI o k) : onI o k' := by
  unfold onI at h ⊢; split at h
  · exact f _ _ h
  · exact h.elim
theorem items_mono {d : D} {k k' : List D → Prop} (f : ∀ xs, k xs → k' xs) (h : items G d k) : items G d k' := by
  cases d <;> first | exact f _ h | exact onL_mono f h | exact h.elim
theorem newL_mono {xs : List D} (f : ∀ d G', Q d G' → Q' d G') (h : newL G xs Q) : newL G xs Q' := ⟨h.1, fun p hp => f _ _ (h.2 p hp)⟩
theorem asB_mono {d : D} {k k' : Bool → Prop} (f : ∀ b, k b → k' b) (h : asB d k) : asB d k' := by
  cases d <;> first | exact f _ h | exact h.elim
theorem asS_mono {d : D} {k k' : Str → Prop} (f : ∀ b, k b → k' b) (h : asS d k) : asS d k' := by
  cases d <;> first | exact f _ h | exact h.elim
theorem onO_mono {d : Option Int} {k k' : Int → Prop} (f : ∀ b, k b → k' b) (h : onO d k) : onO d k' := by
  cases d <;> first | exact f _ h | exact h.elim
theorem asK_mono {d : D} {k k' : Key → Prop} (f : ∀ i, k i → k' i) (h : asK d k) : asK d k' := by
  cases d <;> first | exact f _ h | exact h
theorem onX_mono {o : Option GO} {k k' : Option Nat → Prop} (f : ∀ o, k o → k' o) (h : onX o k) : onX o k' := by
  unfold onX at h ⊢; split at h
  · exact f _ h
  · exact h.elim
theorem isX_mono {G : Gp} {d : D} {k k' : Option Nat → Prop} (f : ∀ o, k o → k' o) (h : isX G d k) : isX G d k' := by
  cases d <;> first | exact f _ h | exact onX_mono f h | exact h.elim
theorem lenO_mono {o : Option GO} {k k' : Nat → Prop} (f : ∀ o, k o → k' o) (h : lenO o k) : lenO o k' := by
  unfold lenO at h ⊢; split at h
  · exact f _ h
  · exact f _ h
  · exact h.elim
theorem lenX_mono {G : Gp} {d : D} {k k' : Nat → Prop} (f : ∀ o, k o → k' o) (h : lenX G d k) : lenX G d k' := by
  cases d <;> first | exact f _ h | exact lenO_mono f h | exact h.elim
theorem asI_mono {d : D} {k k' : Int → Prop} (f : ∀ b, k b → k' b) (h : asI d k) : asI d k' := by
  cases d <;> first | exact f _ h | exact h.elim
theorem asR_mono {d : D} {k k' : Addr → Prop} (f : ∀ b, k b → k' b) (h : asR d k) : asR d k' := by
  cases d <;> first | exact f _ h | exact h.elim
theorem lkF_mono {f : Fd} {fs : List (Fd × D)} {k k' : D → Prop} (g : ∀ b, k b → k' b) (h : lkF f fs k) : lkF f fs k' := by
  unfold lkF at h ⊢; split at h
  · exact g _ h
  · exact h.elim
theorem wpBin_mono {o : Operator} {x y : D} (f : ∀ d G', Q d G' → Q' d G') (h : wpBin o x y G Q) : wpBin o x y G Q' := by
  unfold wpBin at h ⊢
  split at h <;> first
    | exact f _ _ h
    | exact ⟨h.1, f _ _ h.2⟩
    | exact onL_mono (fun xs => onL_mono fun ys => newL_mono f) h
    | exact onL_mono (fun xs q => ⟨q.1, q.2.1, newL_mono f q.2.2⟩) h
    | exact h.elim
theorem wpAug_mono {o : Operator} {x y : D} (f : ∀ d G', Q d G' → Q' d G') (h : wpAug o x y G Q) : wpAug o x y G Q' := by
  unfold wpAug at h ⊢
  split at h <;> first
    | exact f _ _ h
    | exact ⟨h.1, f _ _ h.2⟩
    | exact h.elim
theorem wpEq_mono {x y : D} {k k' : Bool → Prop} (f : ∀ b, k b → k' b) (h : wpEq x y G k) : wpEq x y G k' := by
  unfold wpEq at h ⊢
  split at h
  · exact f _ h
  · exact f _ h
  · exact f _ h
  · obtain ⟨d, e, a, b, c, c', q⟩ := h
    exact ⟨d, e, a, b, c, c', f _ q⟩
theorem wpIn_mono {x y : D} {k k' : Bool → Prop} (f : ∀ b, k b → k' b) (h : wpIn x y G k) : wpIn x y G k' := by
  unfold wpIn at h ⊢
  split at h
  · obtain ⟨u, e, q⟩ := h; exact ⟨u, e, f _ q⟩
  · obtain ⟨d, ds, a, b, c, c', q⟩ := h; exact ⟨d, ds, a, b, c, c', f _ q⟩
  · exact items_mono (fun xs q => ⟨q.1, q.2.1, f _ q.2.2⟩) h
theorem wpGe_mono {x y : D} {k k' : Bool → Prop} (f : ∀ b, k b → k' b) (h : wpGe x y k) : wpGe x y k' := by
  unfold wpGe at h ⊢
  split at h
  · exact f _ h
  · obtain ⟨ns, ms, a, b, q⟩ := h; exact ⟨ns, ms, a, b, f _ q⟩
  · exact h.elim
theorem wpCmp_mono {o : CmpOp} {x y : D} {k k' : Bool → Prop} (f : ∀ b, k b → k' b) (h : wpCmp o x y G k) : wpCmp o x y G k' := by
  cases o
  · exact wpEq_mono f h
  · exact wpEq_mono (fun b => f _) h
  · exact asI_mono (fun i => asI_mono fun j => f _) h
  · exact asI_mono (fun i => asI_mono fun j => f _) h
  · exact asI_mono (fun i => asI_mono fun j => f _) h
  · exact wpGe_mono f h
  · exact ⟨h.1, f _ h.2⟩
  · exact ⟨h.1, f _ h.2⟩
  · exact wpIn_mono f h
  · exact wpIn_mono (fun b => f _) h
theorem truth_mono {d : D} {k k' : Bool → Prop} (f : ∀ b, k b → k' b) (h : truth G d k) : truth G d k' := by
  cases d <;> first | exact f _ h | exact onL_mono (fun xs => f _) h | exact h.elim
theorem isTy_mono {t : TyT} {d : D} {k k' : Bool → Prop} (f : ∀ b, k b → k' b) (h : isTy G t d k) : isTy G t d k' := by
  cases t <;> cases d <;> first | exact f _ h | exact onL_mono (fun xs => f _) h | exact h.elim
theorem wpIx_mono {x y : D} (f : ∀ d G', Q d G' → Q' d G') (h : wpIx x y G Q) : wpIx x y G Q' := by
  unfold wpIx at h ⊢
  split at h
  · obtain ⟨a, c, e, q⟩ := h; exact ⟨a, c, e, f _ _ q⟩
  · exact items_mono (fun xs ⟨d, e, q⟩ => ⟨d, e, f _ _ q⟩) h
  · exact h.elim
theorem wpSl_mono {x : D} {lo hi : Option Int} (f : ∀ d G', Q d G' → Q' d G') (h : wpSl x lo hi G Q) : wpSl x lo hi G Q' := by
  cases x <;> first | exact h.elim | exact ⟨h.1, f _ _ h.2⟩ | exact fun p hp => f _ _ (h p hp) | exact onL_mono (fun xs q p hp => f _ _ (q p hp)) h
theorem wpFm_mono {x : D} (f : ∀ d G', Q d G' → Q' d G') (h : wpFm x G Q) : wpFm x G Q' := by
  cases x <;> first | exact h.elim | exact ⟨h.1, f _ _ h.2⟩
theorem wpMrk_mono {x y i : D} (f : ∀ d G', Q d G' → Q' d G') (h : wpMrk x y i G Q) : wpMrk x y i G Q' := by
  unfold wpMrk at h ⊢
  split at h
  · obtain ⟨a, b, c, d, e1, e2, m1, m2, q⟩ := h
    exact ⟨a, b, c, d, e1, e2, m1, m2, newL_mono f q⟩
  · exact h.elim
theorem wpRv_mono {x : D} (f : ∀ d G', Q d G' → Q' d G') (h : wpRv x G Q) : wpRv x G Q' := by
  cases x <;> first | exact h.elim | exact fun p hp => f _ _ (h p hp) | exact onL_mono (fun xs q p hp => f _ _ (q p hp)) h
theorem wpBi_mono {b : Bi} {xs : List D} (f : ∀ d G', Q d G' → Q' d G') (h : wpBi b xs G Q) : wpBi b xs G Q' := by
  unfold wpBi at h ⊢
  split at h <;> first
    | exact h.elim
    | exact f _ _ h
    | exact ⟨h.1, f _ _ h.2⟩
    | (obtain ⟨n, a, b, q⟩ := h; exact ⟨n, a, b, f _ _ q⟩)
    | exact items_mono (fun xs q => f _ _ q) h
    | exact lenX_mono (fun n q => f _ _ q) h
    | exact items_mono (fun xs q p hp => f _ _ (q p hp)) h
    | (refine items_mono ?_ h; rintro xs ⟨ns, e, q⟩; exact ⟨ns, e, fun ns' a b p hp => f _ _ (q ns' a b p hp)⟩)
    | exact items_mono (fun xs ⟨ns, e, g, q⟩ => ⟨ns, e, g, f _ _ q⟩) h
theorem wpBm_mono {b : Bm} {x : D} {xs : List D} (f : ∀ d G', Q d G' → Q' d G') (h : wpBm b x xs G Q) : wpBm b x xs G Q' := by
  unfold wpBm at h ⊢
  split at h
  · exact onL_mono (fun xs q => ⟨q.1, f _ _ q.2⟩) h
  · exact onL_mono (fun xs ⟨y, e, q⟩ => ⟨y, e, f _ _ q⟩) h
  · exact onL_mono (fun xs ⟨b, k, y, e, e', q⟩ => ⟨b, k, y, e, e', f _ _ q⟩) h
  · exact onL_mono (fun xs q => f _ _ q) h
  · exact onL_mono (fun xs ⟨a, b, c, q⟩ => ⟨a, b, c, f _ _ q⟩) h
  · exact f _ _ h
  · exact f _ _ h
  · exact ⟨h.1, h.2.1, fun p hp => f _ _ (h.2.2 p hp)⟩
  · exact onL_mono (fun xs ⟨ys, e, z, q⟩ => ⟨ys, e, z, f _ _ q⟩) h
  · exact f _ _ h
  · exact onL_mono (fun xs => onL_mono fun zs q => ⟨q.1, f _ _ q.2⟩) h
  · exact h.elim
theorem setT_mono {t : Tg} {d : D} {env : Ev} {k k' : Ev → Prop} (f : ∀ e, k e → k' e) (h : setT t d env k) : setT t d env k' := by
  cases t <;> cases d <;> first | exact f _ h | exact ⟨h.1, f _ h.2⟩ | exact h.elim
end
theorem forD_mono {chk : Gp → Prop} {set : D → Ev → (Ev → Prop) → Prop} {body body' : (Ev → Gp → Prop) → Ev → Gp → Prop} {nx nx' : Ev → Gp → Prop}
    (hset : ∀ d env k k', (∀ e, k e → k' e) → set d env k → set d env k')
    (hb : ∀ k k', (∀ e g, k e g → k' e g) → ∀ e g, body k e g → body' k' e g) (f : ∀ e g, nx e g → nx' e g) : ∀ ds env G, forD chk set body nx ds env G → forD chk set body' nx' ds env G
  | [], env, G, h => ⟨h.1, f _ _ h.2⟩
  | d :: ds, env, G, h => ⟨h.1, hset _ _ _ _ (fun e q => hb _ _ (fun e g => forD_mono hset hb f ds e g) _ _ q) h.2⟩
theorem setU_mono {is : List Nat} {d : D} {env : Ev} {G : Gp} {k k' : Ev → Prop} (f : ∀ e, k e → k' e) (h : setU is d env G k) : setU is d env G k' := items_mono (fun _ q => ⟨q.1, q.2.1, f _ q.2.2⟩) h
theorem forU_mono {chk : Gp → Prop} {is : List Nat} {body body' : (Ev → Gp → Prop) → Ev → Gp → Prop} {nx nx' : Ev → Gp → Prop}
    (hb : ∀ k k', (∀ e g, k e g → k' e g) → ∀ e g, body k e g → body' k' e g) (f : ∀ e g, nx e g → nx' e g) : ∀ ds env G, forU chk is body nx ds env G → forU chk is body' nx' ds env G
  | [], env, G, h => ⟨h.1, f _ _ h.2⟩
  | d :: ds, env, G, h => ⟨h.1, setU_mono (fun e q => hb _ _ (fun e g => forU_mono hb f ds e g) _ _ q) h.2⟩
theorem lcD_mono {chk : Gp → Prop} {set : D → Ev → (Ev → Prop) → Prop} {tst tst' : Ev → Gp → (Bool → Gp → Prop) → Prop} {elt elt' : Ev → Gp → K1 → Prop} {p : Addr} {Q Q' : Gp → Prop} {env : Ev}
    (hset : ∀ d env k k', (∀ e, k e → k' e) → set d env k → set d env k')
    (ht : ∀ e g k k', (∀ b g, k b g → k' b g) → tst e g k → tst' e g k') (he : ∀ e g k k', (∀ b g, k b g → k' b g) → elt e g k → elt' e g k') (f : ∀ g, Q g → Q' g) : ∀ ds G, lcD chk set tst elt p Q env ds G → lcD chk set tst' elt' p Q' env ds G
  | [], G, h => ⟨h.1, f _ h.2⟩
  | d :: ds, G, h => by
    refine ⟨h.1, hset _ _ _ _ (fun e q => ht _ _ _ _ (fun b g q => ?_) q) h.2⟩
    split
    · rename_i hb
      rw [if_pos hb] at q
      exact he _ _ _ _ (fun y g q => onL_mono (fun acc q => ⟨q.1, lcD_mono hset ht he f ds _ q.2⟩) q) q
    · rename_i hb
      rw [if_neg hb] at q
      exact lcD_mono hset ht he f ds _ q
theorem whlD_mono {c c' : Ev → Gp → (Bool → Gp → Prop) → Prop} {body body' : (Ev → Gp → Prop) → Ev → Gp → Prop} {nx nx' : Ev → Gp → Prop}
    (hc : ∀ e g k k', (∀ b g, k b g → k' b g) → c e g k → c' e g k')
    (hb : ∀ k k', (∀ e g, k e g → k' e g) → ∀ e g, body k e g → body' k' e g) (f : ∀ e g, nx e g → nx' e g) : ∀ n env G, whlD c body nx n env G → whlD c' body' nx' n env G
  | 0, _, _, h => h.elim
  | n + 1, env, G, h => by
    refine hc _ _ _ _ (fun b g q => ?_) h
    split
    · rename_i hb'
      rw [if_pos hb'] at q
      exact hb _ _ (fun e g => whlD_mono hc hb f n e g) _ _ q
    · rename_i hb'
      rw [if_neg hb'] at q
      exact f _ _ q
section
variable {Γ : Gam} (M : Γ.Mono) {ux ux' : Nat → Ev' → Gp → Prop} (hu : ∀ k e g, ux k e g → ux' k e g)
include M hu
mutual
theorem wpEX_mono : ∀ (x : E) (env : Ev) (G : Gp) (Q Q' : K1), (∀ d G', Q d G' → Q' d G') → wpE (Γ.wx ux) x env G Q → wpE (Γ.wx ux') x env G Q'
  | .v i, env, G, Q, Q', f, h => by
    simp only [wpE] at h ⊢
    split at h
    · exact f _ _ h
    · exact h.elim
  | .i n, env, G, Q, Q', f, h => by simp only [wpE] at h ⊢; exact f _ _ h
  | .b n, env, G, Q, Q', f, h => by simp only [wpE] at h ⊢; exact f _ _ h
  | .s n, env, G, Q, Q', f, h => by simp only [wpE] at h ⊢; exact f _ _ h
  | .non, env, G, Q, Q', f, h => by simp only [wpE] at h ⊢; exact f _ _ h
  | .con k, env, G, Q, Q', f, h => by
    simp only [wpE] at h ⊢
    split at h
    · exact f _ _ h
    · exact h.elim
  | .bin o x y, env, G, Q, Q', f, h => by
    simp only [wpE] at h ⊢
    exact wpEX_mono x env G _ _ (fun d G1 h => wpEX_mono y env G1 _ _ (fun e G2 h => wpBin_mono f h) h) h
  | .neg x, env, G, Q, Q', f, h => by
    simp only [wpE] at h ⊢
    exact wpEX_mono x env G _ _ (fun d G1 h => asI_mono (fun i => f _ _) h) h
  | .cmp o x y, env, G, Q, Q', f, h => by
    simp only [wpE] at h ⊢
    exact wpEX_mono x env G _ _ (fun d G1 h => wpEX_mono y env G1 _ _ (fun e G2 h => wpCmp_mono (fun b => f _ _) h) h) h
  | .cmp2 o p x y z, env, G, Q, Q', f, h => by
    simp only [wpE] at h ⊢
    refine wpEX_mono x env G _ _ (fun d G1 h => wpEX_mono y env G1 _ _ (fun e G2 h => wpCmp_mono (fun b q => ?_) h) h) h
    split
    · rename_i hb
      rw [if_pos hb] at q
      exact wpEX_mono z env _ _ _ (fun f' G3 h => wpCmp_mono (fun b => f _ _) h) q
    · rename_i hb
      rw [if_neg hb] at q
      exact f _ _ q
  | .bop o xs, env, G, Q, Q', f, h => by simp only [wpE] at h ⊢; exact wpBopX_mono o xs env G Q Q' f h
  | .not x, env, G, Q, Q', f, h => by
    simp only [wpE] at h ⊢
    exact wpEX_mono x env G _ _ (fun d G1 h => asB_mono (fun i => f _ _) h) h
  | .ite c x y, env, G, Q, Q', f, h => by
    simp only [wpE] at h ⊢
    refine wpTX_mono c env G _ _ (fun b G1 h => ?_) h
    split
    · rename_i hb; rw [if_pos hb] at h; exact wpEX_mono x env G1 Q Q' f h
    · rename_i hb; rw [if_neg hb] at h; exact wpEX_mono y env G1 Q Q' f h
  | .tup xs, env, G, Q, Q', f, h => by
    simp only [wpE] at h ⊢
    exact wpEsX_mono xs env G _ _ (fun ds G1 h => ⟨h.1, f _ _ h.2⟩) h
  | .lst xs, env, G, Q, Q', f, h => by
    simp only [wpE] at h ⊢
    exact wpEsX_mono xs env G _ _ (fun ds G1 h => newL_mono f h) h
  | .dat k x, env, G, Q, Q', f, h => by
    simp only [wpE] at h ⊢
    exact wpEX_mono x env G _ _ (fun d G1 h => asS_mono (fun s h => onO_mono (fun i h => f _ _ h) h) h) h
  | .ix x y, env, G, Q, Q', f, h => by
    simp only [wpE] at h ⊢
    exact wpEX_mono x env G _ _ (fun d G1 h => wpEX_mono y env G1 _ _ (fun e G2 h => wpIx_mono f h) h) h
  | .sl x lo hi, env, G, Q, Q', f, h => by
    simp only [wpE] at h ⊢
    exact wpEX_mono x env G _ _ (fun d G1 h => wpEoX_mono lo env G1 _ _ (fun e G2 h => wpEoX_mono hi env G2 _ _ (fun e G2 h => wpSl_mono f h) h) h) h
  | .rv x, env, G, Q, Q', f, h => by
    simp only [wpE] at h ⊢
    exact wpEX_mono x env G _ _ (fun d G1 h => wpRv_mono f h) h
  | .mkx c xs, env, G, Q, Q', f, h => by
    simp only [wpE] at h ⊢
    split at h
    · rename_i cl m q
      exact wpEsX_mono xs env G _ _ (fun ds G1 h p hp => M.xmk _ (List.mem_of_getElem? q) _ _ _ _ _ _ (fun d G2 h => ⟨h.1, f _ _ h.2⟩) (fun k G2 h => hu k env G2 h) (h p hp)) h
    · exact h.elim
  | .isx x k, env, G, Q, Q', f, h => by
    simp only [wpE] at h ⊢
    exact wpEX_mono x env G _ _ (fun d G1 h => isX_mono (fun o => f _ _) h) h
  | .ist x ks, env, G, Q, Q', f, h => by
    simp only [wpE] at h ⊢
    exact wpEX_mono x env G _ _ (fun d G1 h => isX_mono (fun o => f _ _) h) h
  | .callx k xs, env, G, Q, Q', f, h => by
    simp only [wpE] at h ⊢
    exact wpEsX_mono xs env G _ _ (fun ds G1 h => M.xfn' k _ _ _ _ _ _ f (fun k G2 h => hu k env G2 h) h) h
  | .call k xs, env, G, Q, Q', f, h => by
    simp only [wpE] at h ⊢
    exact wpEsX_mono xs env G _ _ (fun ds G1 h => M.fn' k _ _ _ _ f h) h
  | .bi k xs, env, G, Q, Q', f, h => by
    simp only [wpE] at h ⊢
    exact wpEsX_mono xs env G _ _ (fun ds G1 h => wpBi_mono f h) h
  | .isi x t, env, G, Q, Q', f, h => by
    simp only [wpE] at h ⊢
    exact wpEX_mono x env G _ _ (fun ds G1 h => isTy_mono (fun b => f _ _) h) h
  | .isc x k, env, G, Q, Q', f, h => by
    simp only [wpE] at h ⊢
    exact wpEX_mono x env G _ _ (fun d G1 h => asR_mono (fun a => onI_mono fun c fs h => ⟨h.1, f _ _ h.2⟩) h) h
  | .bm k x xs, env, G, Q, Q', f, h => by
    simp only [wpE] at h ⊢
    exact wpEX_mono x env G _ _ (fun d G1 h => ⟨h.1, wpEsX_mono xs env G1 _ _ (fun ds G1 h => wpBm_mono f h) h.2⟩) h
  | .fld x k, env, G, Q, Q', f, h => by
    simp only [wpE] at h ⊢
    exact wpEX_mono x env G _ _ (fun d G1 h => asR_mono (fun a => onI_mono fun c fs h => ⟨h.1, lkF_mono (fun d => f _ _) h.2⟩) h) h
  | .om k x xs, env, G, Q, Q', f, h => by
    simp only [wpE] at h ⊢
    refine wpEX_mono x env G _ _ (fun d G1 h => asR_mono (fun a => onI_mono fun c fs h => ?_) h) h
    split at h
    · rename_i m q
      exact wpEsX_mono xs env G1 _ _ (fun ds G2 h => M.mth' q _ _ _ _ f h) h
    · exact h.elim
  | .mk c xs, env, G, Q, Q', f, h => by
    simp only [wpE] at h ⊢
    split at h
    · rename_i cl m q
      exact wpEsX_mono xs env G _ _ (fun ds G1 h p hp => M.mks _ (List.mem_of_getElem? q) _ _ _ _ (fun d G2 h => ⟨h.1, f _ _ h.2⟩) (h p hp)) h
    · exact h.elim
  | .ini c xs, env, G, Q, Q', f, h => by
    simp only [wpE] at h ⊢
    split at h
    · rename_i cl m q
      exact wpEsX_mono xs env G _ _ (fun ds G1 h => M.mks _ (List.mem_of_getElem? q) _ _ _ _ f h) h
    · exact h.elim
  | .dgt k x y, env, G, Q, Q', f, h => by
    simp only [wpE] at h ⊢
    refine wpEX_mono x env G _ _ (fun d G1 h => asS_mono (fun s h => wpEX_mono y env G1 _ _ (fun e G2 h => ?_) h) h) h
    split at h
    · exact f _ _ h
    · exact f _ _ h
  | .nn, env, G, Q, Q', f, h => by
    simp only [wpE] at h ⊢
    exact fun p o hp => f _ _ (h p o hp)
  | .ng x y z, env, G, Q, Q', f, h => by
    simp only [wpE] at h ⊢
    exact wpEX_mono x env G _ _ (fun d G1 h => asR_mono (fun a h => onN_mono (fun _ _ h => wpEX_mono y env G1 _ _ (fun e G2 h => asN_mono (fun i h => wpEX_mono z env G2 _ _ (fun u G3 h => asI_mono (fun i h => onN_mono (fun kvs _ h => f _ _ h) h) h) h) h) h) h) h) h
  | .nx x y, env, G, Q, Q', f, h => by
    simp only [wpE] at h ⊢
    exact wpEX_mono x env G _ _ (fun d G1 h => wpEX_mono y env G1 _ _ (fun e G2 h => asR_mono (fun a h => asN_mono (fun i h => onN_mono (fun kvs _ ⟨v, e, h⟩ => ⟨v, e, f _ _ h⟩) h) h) h) h) h
  | .ddn, env, G, Q, Q', f, h => by
    simp only [wpE] at h ⊢
    exact fun p hp => f _ _ (h p hp)
  | .ddg x y z, env, G, Q, Q', f, h => by
    simp only [wpE] at h ⊢
    exact wpEX_mono x env G _ _ (fun d G1 h => asR_mono (fun a h => onK_mono (fun _ h => wpEX_mono y env G1 _ _ (fun e G2 h => asK_mono (fun i h => wpEX_mono z env G2 _ _ (fun u G3 h => onK_mono (fun kvs h => f _ _ h) h) h) h) h) h) h) h
  | .ddx x y, env, G, Q, Q', f, h => by
    simp only [wpE] at h ⊢
    exact wpEX_mono x env G _ _ (fun d G1 h => wpEX_mono y env G1 _ _ (fun e G2 h => asR_mono (fun a h => asK_mono (fun i h => onK_mono (fun kvs ⟨v, e, h⟩ => ⟨v, e, f _ _ h⟩) h) h) h) h) h
  | .dds x, env, G, Q, Q', f, h => by
    simp only [wpE] at h ⊢
    exact wpEX_mono x env G _ _ (fun d G1 h => asR_mono (fun a h => onK_mono (fun kvs ⟨ks, h1, h2, h3⟩ => ⟨ks, h1, h2, fun ys p a b c => f _ _ (h3 ys p a b c)⟩) h) h) h
  | .fmt x, env, G, Q, Q', f, h => by
    simp only [wpE] at h ⊢
    exact wpEX_mono x env G _ _ (fun d G1 h => wpFm_mono f h) h
  | .mrk x y i, env, G, Q, Q', f, h => by
    simp only [wpE] at h ⊢
    exact wpEX_mono x env G _ _ (fun d G1 h => wpEX_mono y env G1 _ _ (fun e G2 h => wpEX_mono i env G2 _ _ (fun g G3 h => wpMrk_mono f h) h) h) h
  | .fst xs, env, G, Q, Q', f, h => by
    simp only [wpE] at h ⊢
    exact wpFsX_mono xs env G _ _ _ (fun z G1 h => f _ _ h) h
  | .lc it tg c x own, env, G, Q, Q', f, h => by
    simp only [wpE] at h ⊢
    exact wpItX_mono it env G _ _ (fun ds chk G1 h p hp => lcD_mono (set := setT tg) (Q := Q (.ref p)) (Q' := Q' (.ref p)) (fun _ _ _ _ f h => setT_mono f h) (fun e g k k' f h => wpToX_mono c e g k k' f h) (fun e g k k' f h => wpEX_mono x e g k k' f h) (fun g h => f _ _ h) _ _ (h p hp)) h
theorem wpBopX_mono : ∀ (o : BoolOp) (xs : Es) (env : Ev) (G : Gp) (Q Q' : K1), (∀ d G', Q d G' → Q' d G') → wpBop (Γ.wx ux) o xs env G Q → wpBop (Γ.wx ux') o xs env G Q'
  | o, .nil, env, G, Q, Q', f, h => by simp only [wpBop] at h
  | o, .cons x .nil, env, G, Q, Q', f, h => by simp only [wpBop] at h ⊢; exact wpEX_mono x env G Q Q' f h
  | o, .cons x (.cons y ys), env, G, Q, Q', f, h => by
    simp only [wpBop] at h ⊢
    refine wpEX_mono x env G _ _ (fun d G1 h => asB_mono (fun b h => ?_) h) h
    cases o <;> cases b <;> first | exact f _ _ h | exact wpBopX_mono _ (.cons y ys) env G1 Q Q' f h
theorem wpEsX_mono : ∀ (xs : Es) (env : Ev) (G : Gp) (Q Q' : List D → Gp → Prop), (∀ d G', Q d G' → Q' d G') → wpEs (Γ.wx ux) xs env G Q → wpEs (Γ.wx ux') xs env G Q'
  | .nil, env, G, Q, Q', f, h => by simp only [wpEs] at h ⊢; exact f _ _ h
  | .cons x xs, env, G, Q, Q', f, h => by
    simp only [wpEs] at h ⊢
    exact wpEX_mono x env G _ _ (fun d G1 h => wpEsX_mono xs env G1 _ _ (fun ds G2 h => f _ _ h) h) h
theorem wpFsX_mono : ∀ (xs : Es) (env : Ev) (G : Gp) (z : Str) (Q Q' : Str → Gp → Prop), (∀ d G', Q d G' → Q' d G') → wpFs (Γ.wx ux) xs env G z Q → wpFs (Γ.wx ux') xs env G z Q'
  | .nil, env, G, z, Q, Q', f, h => by simp only [wpFs] at h ⊢; exact f _ _ h
  | .cons x xs, env, G, z, Q, Q', f, h => by
    simp only [wpFs] at h ⊢
    exact wpEX_mono x env G _ _ (fun d G1 h => asS_mono (fun y h => ⟨h.1, wpFsX_mono xs env G1 _ _ _ f h.2⟩) h) h
theorem wpEoX_mono : ∀ (xs : Eo) (env : Ev) (G : Gp) (Q Q' : Option Int → Gp → Prop), (∀ d G', Q d G' → Q' d G') → wpEo (Γ.wx ux) xs env G Q → wpEo (Γ.wx ux') xs env G Q'
  | .none, env, G, Q, Q', f, h => by simp only [wpEo] at h ⊢; exact f _ _ h
  | .some x, env, G, Q, Q', f, h => by
    simp only [wpEo] at h ⊢
    exact wpEX_mono x env G _ _ (fun d G1 h => asI_mono (fun i h => f _ _ h) h) h
theorem wpTX_mono : ∀ (t : T) (env : Ev) (G : Gp) (Q Q' : Bool → Gp → Prop), (∀ d G', Q d G' → Q' d G') → wpT (Γ.wx ux) t env G Q → wpT (Γ.wx ux') t env G Q'
  | .e x, env, G, Q, Q', f, h => by
    simp only [wpT] at h ⊢
    exact wpEX_mono x env G _ _ (fun d G1 h => truth_mono (fun b => f _ _) h) h
  | .nne x y, env, G, Q, Q', f, h => by
    simp only [wpT] at h ⊢
    exact wpEX_mono x env G _ _ (fun d G1 h => wpEX_mono y env G1 _ _ (fun e G2 h => asR_mono (fun a h => asR_mono (fun b h => onN_mono (fun kvs _ h => onN_mono (fun lvs _ h => ⟨h.1, f _ _ h.2⟩) h) h) h) h) h) h
  | .dic neg k x, env, G, Q, Q', f, h => by
    simp only [wpT] at h ⊢
    exact wpEX_mono x env G _ _ (fun d G1 h => asS_mono (fun s h => f _ _ h) h) h
  | .cmp o x y, env, G, Q, Q', f, h => by
    simp only [wpT] at h ⊢
    exact wpEX_mono x env G _ _ (fun d G1 h => wpEX_mono y env G1 _ _ (fun e G2 h => wpCmp_mono (fun b => f _ _) h) h) h
  | .cmp2 o p x y z, env, G, Q, Q', f, h => by
    simp only [wpT] at h ⊢
    refine wpEX_mono x env G _ _ (fun d G1 h => wpEX_mono y env G1 _ _ (fun e G2 h => wpCmp_mono (fun b q => ?_) h) h) h
    split
    · rename_i hb
      rw [if_pos hb] at q
      exact wpEX_mono z env _ _ _ (fun f' G3 h => wpCmp_mono (fun b => f _ _) h) q
    · rename_i hb
      rw [if_neg hb] at q
      exact f _ _ q
  | .not t, env, G, Q, Q', f, h => by
    simp only [wpT] at h ⊢
    exact wpTX_mono t env G _ _ (fun b G1 h => f _ _ h) h
  | .bop o ts, env, G, Q, Q', f, h => by simp only [wpT] at h ⊢; exact wpTsX_mono o ts env G Q Q' f h
theorem wpTsX_mono : ∀ (o : BoolOp) (xs : Ts) (env : Ev) (G : Gp) (Q Q' : Bool → Gp → Prop), (∀ d G', Q d G' → Q' d G') → wpTs (Γ.wx ux) o xs env G Q → wpTs (Γ.wx ux') o xs env G Q'
  | o, .nil, env, G, Q, Q', f, h => by simp only [wpTs] at h
  | o, .cons x .nil, env, G, Q, Q', f, h => by simp only [wpTs] at h ⊢; exact wpTX_mono x env G Q Q' f h
  | o, .cons x (.cons y ys), env, G, Q, Q', f, h => by
    simp only [wpTs] at h ⊢
    refine wpTX_mono x env G _ _ (fun b G1 h => ?_) h
    cases o <;> cases b <;> first | exact f _ _ h | exact wpTsX_mono _ (.cons y ys) env G1 Q Q' f h
theorem wpToX_mono : ∀ (t : To) (env : Ev) (G : Gp) (Q Q' : Bool → Gp → Prop), (∀ d G', Q d G' → Q' d G') → wpTo (Γ.wx ux) t env G Q → wpTo (Γ.wx ux') t env G Q'
  | .none, env, G, Q, Q', f, h => by simp only [wpTo] at h ⊢; exact f _ _ h
  | .some t, env, G, Q, Q', f, h => by simp only [wpTo] at h ⊢; exact wpTX_mono t env G Q Q' f h
theorem wpItX_mono : ∀ (x : It) (env : Ev) (G : Gp) (R R' : KI), (∀ ds chk G', R ds chk G' → R' ds chk G') → wpIt (Γ.wx ux) x env G R → wpIt (Γ.wx ux') x env G R'
  | .seq x, env, G, R, R', f, h => by
    simp only [wpIt] at h ⊢
    refine wpEX_mono x env G _ _ (fun d G1 h => ?_) h
    cases d <;> first | exact f _ _ _ h | exact items_mono (fun xs => f _ _ _) h
  | .rng1 x, env, G, R, R', f, h => by
    simp only [wpIt] at h ⊢
    exact wpEX_mono x env G _ _ (fun d G1 h => asI_mono (fun i h => ⟨h.1, f _ _ _ h.2⟩) h) h
  | .rng2 x y, env, G, R, R', f, h => by
    simp only [wpIt] at h ⊢
    exact wpEX_mono x env G _ _ (fun d G1 h => wpEX_mono y env G1 _ _ (fun e G2 h => asI_mono (fun i => asI_mono fun j h => ⟨h.1, h.2.1, f _ _ _ h.2.2⟩) h) h) h
  | .rng3 x y z, env, G, R, R', f, h => by
    simp only [wpIt] at h ⊢
    exact wpEX_mono x env G _ _ (fun d G1 h => wpEX_mono y env G1 _ _ (fun e G2 h => wpEX_mono z env G2 _ _ (fun e' G3 h => asI_mono (fun i => asI_mono fun j => asI_mono fun c ⟨n, a, h⟩ => ⟨n, a, f _ _ _ h⟩) h) h) h) h
  | .enum x, env, G, R, R', f, h => by
    simp only [wpIt] at h ⊢
    exact wpEX_mono x env G _ _ (fun d G1 h => items_mono (fun xs h => ⟨h.1, f _ _ _ h.2⟩) h) h
  | .zip x y, env, G, R, R', f, h => by
    simp only [wpIt] at h ⊢
    exact wpEX_mono x env G _ _ (fun d G1 h => wpEX_mono y env G1 _ _ (fun e G2 h => items_mono (fun xs => items_mono fun ys h => ⟨h.1, h.2.1, f _ _ _ h.2.2⟩) h) h) h
  | .nk x, env, G, R, R', f, h => by
    simp only [wpIt] at h ⊢
    exact wpEX_mono x env G _ _ (fun d G1 h => asR_mono (fun a h => onN_mono (fun kvs o h => f _ _ _ h) h) h) h
  | .rev x, env, G, R, R', f, h => by
    simp only [wpIt] at h ⊢
    exact wpEX_mono x env G _ _ (fun d G1 h => items_mono (fun xs h => ⟨h.1, f _ _ _ h.2⟩) h) h
end
end
structure DnLe (D D' : Dn) : Prop where
  nx : ∀ e g, D.nx e g → D'.nx e g
  rt : ∀ d g, D.rt d g → D'.rt d g
  ct : ∀ e g, D.ct e g → D'.ct e g
section
variable {Γ : Gam} (M : Γ.Mono)
include M
mutual
theorem wpSX_mono : ∀ (s : S) (ux ux' : Nat → Ev' → Gp → Prop) (hu : ∀ k e g, ux k e g → ux' k e g) (D D' : Dn) (env : Ev) (G : Gp), DnLe D D' → wpS (Γ.wx ux) s D env G → wpS (Γ.wx ux') s D' env G
  | .asg t x, ux, ux', hu, D, D', env, G, f, h => by
    simp only [wpS] at h ⊢
    exact wpEX_mono M hu x env G _ _ (fun d G1 h => setT_mono (fun e h => f.nx _ _ h) h) h
  | .unl is x, ux, ux', hu, D, D', env, G, f, h => by
    simp only [wpS] at h ⊢
    exact wpEX_mono M hu x env G _ _ (fun d G1 h => items_mono (fun e h => ⟨h.1, h.2.1, f.nx _ _ h.2.2⟩) h) h
  | .par i j x y, ux, ux', hu, D, D', env, G, f, h => by
    simp only [wpS] at h ⊢
    exact wpEX_mono M hu x env G _ _ (fun d G1 h => wpEX_mono M hu y env G1 _ _ (fun d G1 h => f.nx _ _ h) h) h
  | .aug i o x, ux, ux', hu, D, D', env, G, f, h => by
    simp only [wpS] at h ⊢
    split at h
    · exact wpEX_mono M hu x env G _ _ (fun d G1 h => wpAug_mono (fun e g h => f.nx _ _ h) h) h
    · exact h.elim
  | .set o i x, ux, ux', hu, D, D', env, G, f, h => by
    simp only [wpS] at h ⊢
    exact wpEX_mono M hu x env G _ _ (fun d G1 h => wpEX_mono M hu o env G1 _ _ (fun d G1 h => wpEX_mono M hu i env G1 _ _ (fun d G1 h => asR_mono (fun a => asI_mono fun k => onL_mono fun xs ⟨j, e, h⟩ => ⟨j, e, f.nx _ _ h⟩) h) h) h) h
  | .dst o i x, ux, ux', hu, D, D', env, G, f, h => by
    simp only [wpS] at h ⊢
    exact wpEX_mono M hu x env G _ _ (fun d G1 h => wpEX_mono M hu o env G1 _ _ (fun d G1 h => wpEX_mono M hu i env G1 _ _ (fun d G1 h => asR_mono (fun a => asK_mono fun k => onK_mono fun xs ⟨e, h⟩ => ⟨e, f.nx _ _ h⟩) h) h) h) h
  | .nst o i x, ux, ux', hu, D, D', env, G, f, h => by
    simp only [wpS] at h ⊢
    exact wpEX_mono M hu x env G _ _ (fun d G1 h => wpEX_mono M hu o env G1 _ _ (fun d G1 h => wpEX_mono M hu i env G1 _ _ (fun d G1 h => asR_mono (fun a => asN_mono fun k => asI_mono fun v => onN_mono fun xs _ ⟨e, h⟩ => ⟨e, fun o' => f.nx _ _ (h o')⟩) h) h) h) h
  | .fset o k x, ux, ux', hu, D, D', env, G, f, h => by
    simp only [wpS] at h ⊢
    exact wpEX_mono M hu x env G _ _ (fun d G1 h => wpEX_mono M hu o env G1 _ _ (fun d G1 h => asR_mono (fun a => onI_mono fun c xs h => ⟨h.1, h.2.1, f.nx _ _ h.2.2⟩) h) h) h
  | .ex x, ux, ux', hu, D, D', env, G, f, h => by
    simp only [wpS] at h ⊢
    exact wpEX_mono M hu x env G _ _ (fun d G1 h => f.nx _ _ h) h
  | .ret x, ux, ux', hu, D, D', env, G, f, h => by
    simp only [wpS] at h ⊢
    exact wpEX_mono M hu x env G _ _ f.rt h
  | .retN, ux, ux', hu, D, D', env, G, f, h => by simp only [wpS] at h ⊢; exact f.rt _ _ h
  | .ite c s t, ux, ux', hu, D, D', env, G, f, h => by
    simp only [wpS] at h ⊢
    refine wpTX_mono M hu c env G _ _ (fun b G1 h => ?_) h
    split
    · rename_i hb; rw [if_pos hb] at h; exact wpBX_mono s ux ux' hu D D' env G1 f h
    · rename_i hb; rw [if_neg hb] at h; exact wpBX_mono t ux ux' hu D D' env G1 f h
  | .loop t it b, ux, ux', hu, D, D', env, G, f, h => by
    simp only [wpS] at h ⊢
    exact wpItX_mono M hu it env G _ _ (fun ds chk G1 h => forD_mono (set := setT t) (fun _ _ _ _ f h => setT_mono f h) (fun k k' g e G h => wpBX_mono b ux ux' hu { nx := k, rt := D.rt, ct := k } { nx := k', rt := D'.rt, ct := k' } e G ⟨g, f.rt, g⟩ h) f.nx ds env G1 h) h
  | .loopU is it b, ux, ux', hu, D, D', env, G, f, h => by
    simp only [wpS] at h ⊢
    exact wpItX_mono M hu it env G _ _ (fun ds chk G1 h => forU_mono (fun k k' g e G h => wpBX_mono b ux ux' hu { nx := k, rt := D.rt, ct := k } { nx := k', rt := D'.rt, ct := k' } e G ⟨g, f.rt, g⟩ h) f.nx ds env G1 h) h
  | .whl c b, ux, ux', hu, D, D', env, G, f, h => by
    simp only [wpS] at h ⊢
    obtain ⟨n, h⟩ := h
    exact ⟨n, whlD_mono (fun e g k k' f h => wpTX_mono M hu c e g k k' f h) (fun k k' g e G h => wpBX_mono b ux ux' hu { nx := k, rt := D.rt, ct := k } { nx := k', rt := D'.rt, ct := k' } e G ⟨g, f.rt, g⟩ h) f.nx n env G h⟩
  | .cont, ux, ux', hu, D, D', env, G, f, h => by simp only [wpS] at h ⊢; exact f.ct _ _ h
  | .never, ux, ux', hu, D, D', env, G, f, h => by simp only [wpS] at h
  | .rai k, ux, ux', hu, D, D', env, G, f, h => by
    simp only [wpS] at h ⊢
    exact hu _ _ _ h
  | .tri b hs, ux, ux', hu, D, D', env, G, f, h => by
    simp only [wpS] at h ⊢
    exact wpBX_mono b _ _ (fun j e g h => wpHdX_mono hs ux ux' hu j D D' e g f h) D D' env G f h
theorem wpBX_mono : ∀ (b : B) (ux ux' : Nat → Ev' → Gp → Prop) (hu : ∀ k e g, ux k e g → ux' k e g) (D D' : Dn) (env : Ev) (G : Gp), DnLe D D' → wpB (Γ.wx ux) b D env G → wpB (Γ.wx ux') b D' env G
  | .nil, ux, ux', hu, D, D', env, G, f, h => by simp only [wpB] at h ⊢; exact f.nx _ _ h
  | .cons s b, ux, ux', hu, D, D', env, G, f, h => by
    simp only [wpB] at h ⊢
    exact wpSX_mono s ux ux' hu { D with nx := fun env' G' => wpB (Γ.wx ux) b D env' G' } { D' with nx := fun env' G' => wpB (Γ.wx ux') b D' env' G' } env G ⟨fun e g h => wpBX_mono b ux ux' hu D D' e g f h, f.rt, f.ct⟩ h
theorem wpHdX_mono : ∀ (hs : Hd) (ux ux' : Nat → Ev' → Gp → Prop) (hu : ∀ k e g, ux k e g → ux' k e g) (j : Nat) (D D' : Dn) (env : Ev) (G : Gp), DnLe D D' → wpHd (Γ.wx ux) j hs D env G → wpHd (Γ.wx ux') j hs D' env G
  | .nil, ux, ux', hu, j, D, D', env, G, f, h => by simp only [wpHd] at h ⊢; exact hu _ _ _ h
  | .cons k i b r, ux, ux', hu, j, D, D', env, G, f, h => by
    simp only [wpHd] at h ⊢
    split
    · rename_i c
      rw [if_pos c] at h
      exact fun p hp => wpBX_mono b noX noX (fun _ _ _ h => h) { nx := fun env' G' => D.nx (offE i env') G', rt := D.rt, ct := fun env' G' => D.ct (offE i env') G' } { nx := fun env' G' => D'.nx (offE i env') G', rt := D'.rt, ct := fun env' G' => D'.ct (offE i env') G' } _ _ ⟨fun e g h => f.nx _ _ h, f.rt, fun e g h => f.ct _ _ h⟩ (h p hp)
    · rename_i c
      rw [if_neg c] at h
      exact wpHdX_mono r ux ux' hu j D D' env G f h
end
theorem wpE_mono (x : E) (env : Ev) (G : Gp) (Q Q' : K1) (f : ∀ d G', Q d G' → Q' d G') (h : wpE Γ x env G Q) : wpE Γ x env G Q' := wpEX_mono M (ux := Γ.xc) (ux' := Γ.xc) (fun _ _ _ h => h) x env G Q Q' f h
theorem wpBop_mono (o : BoolOp) (xs : Es) (env : Ev) (G : Gp) (Q Q' : K1) (f : ∀ d G', Q d G' → Q' d G') (h : wpBop Γ o xs env G Q) : wpBop Γ o xs env G Q' := wpBopX_mono M (ux := Γ.xc) (ux' := Γ.xc) (fun _ _ _ h => h) o xs env G Q Q' f h
theorem wpEs_mono (xs : Es) (env : Ev) (G : Gp) (Q Q' : List D → Gp → Prop) (f : ∀ d G', Q d G' → Q' d G') (h : wpEs Γ xs env G Q) : wpEs Γ xs env G Q' := wpEsX_mono M (ux := Γ.xc) (ux' := Γ.xc) (fun _ _ _ h => h) xs env G Q Q' f h
theorem wpFs_mono (xs : Es) (env : Ev) (G : Gp) (z : Str) (Q Q' : Str → Gp → Prop) (f : ∀ d G', Q d G' → Q' d G') (h : wpFs Γ xs env G z Q) : wpFs Γ xs env G z Q' := wpFsX_mono M (ux := Γ.xc) (ux' := Γ.xc) (fun _ _ _ h => h) xs env G z Q Q' f h
theorem wpEo_mono (xs : Eo) (env : Ev) (G : Gp) (Q Q' : Option Int → Gp → Prop) (f : ∀ d G', Q d G' → Q' d G') (h : wpEo Γ xs env G Q) : wpEo Γ xs env G Q' := wpEoX_mono M (ux := Γ.xc) (ux' := Γ.xc) (fun _ _ _ h => h) xs env G Q Q' f h
theorem wpT_mono (t : T) (env : Ev) (G : Gp) (Q Q' : Bool → Gp → Prop) (f : ∀ d G', Q d G' → Q' d G') (h : wpT Γ t env G Q) : wpT Γ t env G Q' := wpTX_mono M (ux := Γ.xc) (ux' := Γ.xc) (fun _ _ _ h => h) t env G Q Q' f h
theorem wpTs_mono (o : BoolOp) (ts : Ts) (env : Ev) (G : Gp) (Q Q' : Bool → Gp → Prop) (f : ∀ d G', Q d G' → Q' d G') (h : wpTs Γ o ts env G Q) : wpTs Γ o ts env G Q' := wpTsX_mono M (ux := Γ.xc) (ux' := Γ.xc) (fun _ _ _ h => h) o ts env G Q Q' f h
theorem wpTo_mono (t : To) (env : Ev) (G : Gp) (Q Q' : Bool → Gp → Prop) (f : ∀ d G', Q d G' → Q' d G') (h : wpTo Γ t env G Q) : wpTo Γ t env G Q' := wpToX_mono M (ux := Γ.xc) (ux' := Γ.xc) (fun _ _ _ h => h) t env G Q Q' f h
theorem wpIt_mono (x : It) (env : Ev) (G : Gp) (Q Q' : KI) (f : ∀ ds chk G', Q ds chk G' → Q' ds chk G') (h : wpIt Γ x env G Q) : wpIt Γ x env G Q' := wpItX_mono M (ux := Γ.xc) (ux' := Γ.xc) (fun _ _ _ h => h) x env G Q Q' f h
theorem wpS_mono (s : S) (D D' : Dn) (env : Ev) (G : Gp) (f : DnLe D D') (h : wpS Γ s D env G) : wpS Γ s D' env G := wpSX_mono M s Γ.xc Γ.xc (fun _ _ _ h => h) D D' env G f h
theorem wpB_mono (b : B) (D D' : Dn) (env : Ev) (G : Gp) (f : DnLe D D') (h : wpB Γ b D env G) : wpB Γ b D' env G := wpBX_mono M b Γ.xc Γ.xc (fun _ _ _ h => h) D D' env G f h
theorem den_mono (n p : Nat) (b : B) : MonoS (den Γ n p b) := fun ds G Q Q' f h => ⟨h.1, wpB_mono M b { nx := fun _ G' => Q .non G', rt := Q } { nx := fun _ G' => Q' .non G', rt := Q' } _ _ ⟨fun _ _ h => f _ _ h, f, fun _ _ h => h⟩ h.2⟩
end
end DL
namespace DL
open PySem PySem.Spec PyProof.Rows L2
theorem op_shl2 {X : Cx} : OpR X (binaryOp .LShift) (rI CShl fun i j => .int (i * 2 ^ j.toNat)) := opI fun i j _ _ _ _ _ hc q => lshift_int hc.1 (by
  have := intBits_le (a := i) (k := 256) hc.2.2
  have := hc.2.1
  omega) q
/-- what is wanted, by the values -/
def Ct (W : Wd) (H : Hp) (Q : VK) : K1 := fun d G' => ∀ v H', TLe H H' → RelG W H' G' → RelD W.K H' d v → Q v H'
theorem Ct.le {W : Wd} {H H1 : Hp} {Q : VK} (l : TLe H H1) {d : D} {G : Gp} (h : Ct W H Q d G) : Ct W H1 Q d G := fun v H' l' rg rd => h v H' (l.trans l') rg rd
theorem Ct.now {W : Wd} {H : Hp} {Q : VK} {d : D} {G : Gp} (h : Ct W H Q d G) {v : V} (rg : RelG W H G) (rd : RelD W.K H d v) : Q v H := h v H .rfl rg rd
theorem Ct.at {W : Wd} {H : Hp} {Q : VK} {d : D} {G : Gp} (h : Ct W H Q d G) (l : TLe W.h0 H) : Ct (W.at H) H Q d G := fun v H' l' rg rd => h v H' l' (rg.back l) rd
def CtB (W : Wd) (H : Hp) (Q : Bool → Hp → Prop) : Bool → Gp → Prop := fun b G' => ∀ H', TLe H H' → RelG W H' G' → Q b H'
section
variable {W : Wd} {H : Hp} {G : Gp}
theorem onL_inv {a : Addr} {k : List D → Prop} (rg : RelG W H G) (h : onL (G a) k) : ∃ xs vs, k xs ∧ G a = some (.lst xs) ∧ H a = some (.lst vs) ∧ RelDs W.K H xs vs := by
  unfold onL at h
  split at h
  · rename_i o xs e
    obtain ⟨vs, e1, r⟩ := rg a _ e
    exact ⟨xs, vs, h, e, e1, r⟩
  · exact h.elim
theorem onK_inv {a : Addr} {k : List (Key × D) → Prop} (rg : RelG W H G) (h : onK (G a) k) : ∃ xs vs, k xs ∧ G a = some (.dic xs) ∧ H a = some (.dK vs) ∧ RelKV W.K H xs vs := by
  unfold onK at h; split at h
  · rename_i xs e
    obtain ⟨vs, q, r⟩ := rg _ _ e
    exact ⟨xs, vs, h, e, q, r⟩
  · exact h.elim
theorem onN_inv {a : Addr} {k : List (NK × Int) → Obj → Prop} (rg : RelG W H G) (h : onN (G a) k) : ∃ kvs o, k kvs o ∧ G a = some (.dnt kvs o) ∧ NAt H a o ∧ NDr W.hsh W.K H kvs o := by
  unfold onN at h; split at h
  · rename_i kvs o e
    obtain ⟨q, r⟩ := rg _ _ e
    exact ⟨kvs, o, h, e, q, r⟩
  · exact h.elim
theorem kD_rel {K : PySem.W.Frag} {H : Hp} : ∀ {ks : List Key} {ys : List V}, RelDs K H (ks.map kD) ys → ys = ks.map kV
  | [], ys, h => by simpa [RelDs] using h
  | k :: ks, ys, h => by
    simp only [List.map_cons, RelDs] at h
    obtain ⟨v, r, e, q, t⟩ := h
    rw [e, kD_rel t]
    cases k with
    | inl i => rw [show v = V.int i by simpa [kD, RelD] using q]; rfl
    | inr s => rw [show v = V.str s by simpa [kD, RelD] using q]; rfl
theorem kD_of {K : PySem.W.Frag} {H : Hp} : ∀ ks : List Key, RelDs K H (ks.map kD) (ks.map kV)
  | [] => .nil
  | .inl i :: ks => .cons (by simp [kD, kV, RelD]) (kD_of ks)
  | .inr s :: ks => .cons (by simp [kD, kV, RelD]) (kD_of ks)
theorem asN_inv {K : PySem.W.Frag} {H : Hp} {d : D} {v : V} {k : NK → Prop} (rd : RelD K H d v) (h : asN d k) : ∃ x b, v = .ref b ∧ NKey K H x b ∧ k x := by
  unfold asN at h; split at h
  · rename_i ks i
    obtain ⟨ks', rfl, h⟩ := h
    simp only [RelD] at rd
    obtain ⟨b, xs, e, q, r⟩ := rd
    simp only [RelDs, RelD] at r
    obtain ⟨v1, r1, e1, ⟨c, ys, e2, q2, r2⟩, v2, r3, e3, e4, e5⟩ := r
    subst e5 e4 e3 e2 e1
    exact ⟨_, b, e, ⟨c, q, by rw [← kD_rel r2]; exact q2⟩, h⟩
  · exact h.elim
theorem keyD_rel {K : PySem.W.Frag} {H : Hp} {k : NK} {b : Addr} (h : NKey K H k b) : RelD K H (keyD k) (.ref b) := by
  obtain ⟨c, h1, h2⟩ := h
  unfold keyD
  simp only [RelD, RelDs]
  exact ⟨b, _, rfl, h1, _, _, rfl, ⟨c, _, rfl, h2, kD_of _⟩, _, _, rfl, rfl, rfl⟩
theorem RelKV.keys {K : PySem.W.Frag} {H : Hp} : ∀ {xs : List (Key × D)} {vs : List (Key × V)}, RelKV K H xs vs → xs.map (·.1) = vs.map (·.1)
  | [], vs, h => by simp only [RelKV] at h; subst h; rfl
  | (k, d) :: r, vs, h => by
    simp only [RelKV] at h
    obtain ⟨v, t, e, _, q⟩ := h
    subst e
    rw [List.map_cons, List.map_cons, q.keys]
theorem getK_rel {K : PySem.W.Frag} {H : Hp} {k : Key} {f : D} {w : V} (rw' : RelD K H f w) : ∀ {xs : List (Key × D)} {vs : List (Key × V)}, RelKV K H xs vs → RelD K H ((getK xs k).getD f) ((valV vs k).getD w)
  | [], vs, h => by simp only [RelKV] at h; subst h; exact rw'
  | (k0, d) :: r, vs, h => by
    simp only [RelKV] at h
    obtain ⟨v, t, e, rd, q⟩ := h
    subst e
    have ih := getK_rel (k := k) rw' q
    unfold getK valV at ih ⊢
    rw [List.find?_cons, List.find?_cons]
    by_cases e : k0 = k
    · simp only [e, decide_true]; exact rd
    · simp only [e, decide_false]; exact ih
theorem getK_some {K : PySem.W.Frag} {H : Hp} {k : Key} {d : D} : ∀ {xs : List (Key × D)} {vs : List (Key × V)}, RelKV K H xs vs → getK xs k = some d → ∃ v, valV vs k = some v ∧ RelD K H d v
  | [], vs, h, e => by cases e
  | (k0, d0) :: r, vs, h, e => by
    simp only [RelKV] at h
    obtain ⟨v, t, e1, rd, q⟩ := h
    subst e1
    have ih := getK_some (k := k) (d := d) q
    unfold getK at e ih
    unfold valV at ih ⊢
    rw [List.find?_cons] at e ⊢
    by_cases e2 : k0 = k
    · simp only [e2, decide_true] at e ⊢
      cases e; exact ⟨v, rfl, rd⟩
    · simp only [e2, decide_false] at e ⊢
      exact ih e
theorem setK_any {K : PySem.W.Frag} {H : Hp} (k : Key) : ∀ {xs : List (Key × D)} {vs : List (Key × V)}, RelKV K H xs vs → (xs.any fun kv => decide (kv.1 = k)) = (vs.any fun kv => decide (kv.1 = k))
  | [], vs, h => by simp only [RelKV] at h; subst h; rfl
  | (k0, d) :: r, vs, h => by
    simp only [RelKV] at h
    obtain ⟨v, t, e, rd, q⟩ := h
    subst e
    rw [List.any_cons, List.any_cons, setK_any k q]
theorem setK_map {K : PySem.W.Frag} {H : Hp} {k : Key} {d : D} {v : V} (rd : RelD K H d v) : ∀ {xs : List (Key × D)} {vs : List (Key × V)}, RelKV K H xs vs → RelKV K H (xs.map fun kv => if kv.1 = k then (kv.1, d) else kv) (vs.map fun kv => if kv.1 = k then (kv.1, v) else kv)
  | [], vs, h => by simp only [RelKV] at h; subst h; simp [RelKV]
  | (k0, d0) :: r, vs, h => by
    simp only [RelKV] at h
    obtain ⟨v0, t, e, rd0, q⟩ := h
    subst e
    rw [List.map_cons, List.map_cons]
    by_cases e : k0 = k
    · simp only [e, if_true, RelKV]; exact ⟨v, _, rfl, rd, setK_map rd q⟩
    · simp only [e, if_false, RelKV]; exact ⟨v0, _, rfl, rd0, setK_map rd q⟩
theorem setK_app {K : PySem.W.Frag} {H : Hp} {k : Key} {d : D} {v : V} (rd : RelD K H d v) : ∀ {xs : List (Key × D)} {vs : List (Key × V)}, RelKV K H xs vs → RelKV K H (xs ++ [(k, d)]) (vs ++ [(k, v)])
  | [], vs, h => by simp only [RelKV] at h; subst h; simp only [List.nil_append, RelKV]; exact ⟨v, [], rfl, rd, rfl⟩
  | (k0, d0) :: r, vs, h => by
    simp only [RelKV] at h
    obtain ⟨v0, t, e, rd0, q⟩ := h
    subst e
    simp only [List.cons_append, RelKV]
    exact ⟨v0, _, rfl, rd0, setK_app rd q⟩
theorem setK_rel {K : PySem.W.Frag} {H : Hp} {k : Key} {d : D} {v : V} {xs : List (Key × D)} {vs : List (Key × V)} (rd : RelD K H d v) (h : RelKV K H xs vs) : RelKV K H (setK xs k d) (putK vs k v) := by
  unfold setK putK
  rw [setK_any k h]
  split
  · exact setK_map rd h
  · exact setK_app rd h
theorem onI_inv {a : Addr} {k : Nat → List (Fd × D) → Prop} (rg : RelG W H G) (h : onI (G a) k) : ∃ c fs dx vs, k c fs ∧ G a = some (.ins c fs) ∧ H a = some (.ins (W.cls c) dx vs) ∧ RelFs W.K H fs vs := by
  unfold onI at h
  split at h
  · rename_i o c xs e
    obtain ⟨dx, vs, e1, r⟩ := rg a _ e
    exact ⟨c, xs, dx, vs, h, e, e1, r⟩
  · exact h.elim
theorem items_inv {d : D} {v : V} {k : List D → Prop} (rg : RelG W H G) (rd : RelD W.K H d v) (h : items G d k) :
    ∃ a xs vs, v = .ref a ∧ k xs ∧ RelDs W.K H xs vs ∧ ((SqL W.K H a vs ∧ (∀ ys, d ≠ .tup ys)) ∨ (SqT W.K H a vs ∧ d = .tup xs)) := by
  cases d <;> try exact h.elim
  · simp only [RelD] at rd
    obtain ⟨a, vs, e, q, r⟩ := rd
    exact ⟨a, _, vs, e, h, r, .inr ⟨q, rfl⟩⟩
  · simp only [RelD] at rd
    obtain ⟨a, vs, e, q, r⟩ := rd
    exact ⟨a, _, vs, e, h, r, .inl ⟨q.sq, fun _ z => by cases z⟩⟩
  · simp only [RelD] at rd
    obtain ⟨xs, vs, hk, _, e, r⟩ := onL_inv rg h
    exact ⟨_, xs, vs, rd, hk, r, .inl ⟨.of e, fun _ z => by cases z⟩⟩
theorem newL_use {xs : List D} {vs : List V} {Q : VK} (rg : RelG W H G) (r : RelDs W.K H xs vs) (h : ∀ p, G p = none → Ct W H Q (.ref p) (gup G p (.lst xs))) : ∀ p, H p = none → Q (.ref p) (upd H p (.lst vs)) := fun p hp =>
  h p (rg.free hp) _ _ (.new hp) (rg.new hp ⟨vs, upd_same, RelDs.le (.new hp) _ _ r⟩) (by simp [RelD])
theorem putL_use {a : Addr} {ys : List D} {us vs : List V} {d : D} {v : V} {Q : VK} (rg : RelG W H G) (e : H a = some (.lst us)) (r : RelDs W.K H ys vs) (rd : RelD W.K H d v) (h : Ct W H Q d (gup G a (.lst ys))) : Q v (upd H a (.lst vs)) := by
  have l : TLe H (upd H a (.lst vs)) := .put (fun xs z => by rw [e] at z; cases z) (fun x u z => by rw [e] at z; cases z)
  exact h _ _ l (rg.put l ⟨vs, upd_same, RelDs.le l _ _ r⟩) (RelD.le l _ _ rd)
theorem rint {i : Int} {x : V} (h : RelD W.K H (.int i) x) : x = .int i := by simpa [RelD] using h
theorem rstr {i : Str} {x : V} (h : RelD W.K H (.str i) x) : x = .str i := by simpa [RelD] using h
theorem rbl {i : Bool} {x : V} (h : RelD W.K H (.bl i) x) : x = .bl i := by simpa [RelD] using h
theorem rref {i : Addr} {x : V} (h : RelD W.K H (.ref i) x) : x = .ref i := by simpa [RelD] using h
theorem asI_inv {d : D} {v : V} {k : Int → Prop} (rd : RelD W.K H d v) (h : asI d k) : ∃ i, v = .int i ∧ k i := by
  cases d <;> first | exact ⟨_, rint rd, h⟩ | exact h.elim
theorem asS_inv {d : D} {v : V} {k : Str → Prop} (rd : RelD W.K H d v) (h : asS d k) : ∃ i, v = .str i ∧ k i := by
  cases d <;> first | exact ⟨_, rstr rd, h⟩ | exact h.elim
theorem asB_inv {d : D} {v : V} {k : Bool → Prop} (rd : RelD W.K H d v) (h : asB d k) : ∃ i, v = .bl i ∧ k i := by
  cases d <;> first | exact ⟨_, rbl rd, h⟩ | exact h.elim
theorem asK_inv {d : D} {v : V} {k : Key → Prop} (rd : RelD W.K H d v) (h : asK d k) : ∃ i, v = kV i ∧ k i := by
  cases d <;> first | exact h.elim | skip
  · simp only [RelD] at rd; exact ⟨.inl _, rd, h⟩
  · simp only [RelD] at rd; exact ⟨.inr _, rd, h⟩
theorem isX_inv {G : Gp} {d : D} {v : V} {k : Option Nat → Prop} (rg : RelG W H G) (rd : RelD W.K H d v) (h : isX G d k) : ∃ o, k o ∧ ((o = none ∧ v = .non) ∨ ∃ j a, o = some j ∧ v = .ref a ∧ j ∈ W.exr ∧ H a = some (ExK (.ref (W.exc j)) a)) := by
  cases d <;> first | exact h.elim | skip
  · simp only [RelD] at rd; exact ⟨none, h, .inl ⟨rfl, rd⟩⟩
  · rename_i a
    simp only [RelD] at rd
    have h : onX (G a) k := h
    generalize he : G a = o at h
    unfold onX at h
    split at h
    · rename_i j
      obtain ⟨q1, q2⟩ := rg a _ he
      exact ⟨some j, h, .inr ⟨j, a, rfl, rd, q1, q2⟩⟩
    · exact h.elim
theorem asR_inv {d : D} {v : V} {k : Addr → Prop} (rd : RelD W.K H d v) (h : asR d k) : ∃ i, v = .ref i ∧ d = .ref i ∧ k i := by
  cases d <;> first | exact ⟨_, rref rd, rfl, h⟩ | exact h.elim
end
/-- two-place operations -/
def SR2 (W : Wd) (m : D → D → Gp → K1 → Prop) : R2 := fun x y H Q => ∃ d e G, RelD W.K H d x ∧ RelD W.K H e y ∧ RelG W H G ∧ m d e G (Ct W H Q)
section
variable {X : Cx} {W : Wd}
theorem op_mulG : OpR X (binaryOp .Mult) (rI IntMulOk fun i j => .int (i * j)) := opI fun _ _ _ _ _ _ _ hc q => mul_int q hc
theorem fold_e (x : Array Nat) (hx : x.size = 0) : ∀ k, (List.replicate k x).foldl (· ++ ·) #[] = #[]
  | 0 => rfl
  | k + 1 => by
    have : x = #[] := Array.eq_empty_of_size_eq_zero hx
    subst this
    rw [List.replicate_succ, List.foldl_cons]
    exact fold_e #[] rfl k
theorem fold_n (x : Array Nat) : ∀ (k : Nat) (a : Array Nat), ((List.replicate k x).foldl (· ++ ·) a).size = a.size + k * x.size
  | 0, a => by simp
  | k + 1, a => by
    rw [List.replicate_succ, List.foldl_cons, fold_n x k, Array.size_append, Nat.add_mul]; omega
theorem op_repS : OpR X (binaryOp .Mult) (fun x y H Q => ∃ (a : Str) (n : Int), x = .str a ∧ y = .int n ∧ (0 ≤ n ∧ n ≤ 1000000 ∧ a.length ≤ 16) ∧ Q (.str (repS a n.toNat)) H) := by
  intro pins s σ H x y v u Q I rx ry h
  obtain ⟨a, n, rfl, rfl, ⟨h0, h1, h2⟩, q⟩ := h
  obtain ⟨t, rfl⟩ := rx
  obtain ⟨t', rfl⟩ := ry
  have hm : a.length * n.toNat ≤ 16 * 1000000 := Nat.mul_le_mul h2 (by omega)
  refine P.mul_str (by rw [decide_eq_false (by omega), decide_eq_false (by omega)]; rfl) (fun hn _ => ?_) (fun _ _ => decide_eq_false (by rw [show sizeLine = 16777216 from by decide]; omega)) ?_
  · have hn1 : 0 < n := by omega
    have : 16 ≤ (2 ^ 63 - 1) / n := Int.le_ediv_of_mul_le hn1 (by omega)
    omega
  · split
    · rename_i hn
      have : n = 0 := by omega
      subst this
      exact ⟨by decide, .str (repS a 0), H, I.tok _, ⟨_, rfl⟩, q⟩
    · split
      · rename_i hn hc
        refine ⟨.str (repS a n.toNat), H, I, ⟨t, ?_⟩, q⟩
        have e : repS a n.toNat = a := by
          simp only [Bool.or_eq_true, beq_iff_eq] at hc
          rcases hc with hc | hc
          · subst hc
            show (⟨#[] ++ a.cps⟩ : Str) = a
            simp
          · have : a.cps = #[] := Array.eq_empty_of_size_eq_zero hc
            show (⟨(List.replicate n.toNat a.cps).foldl (· ++ ·) #[]⟩ : Str) = a
            rw [fold_e a.cps hc, ← this]
        rw [e]
      · refine ⟨?_, .str (repS a n.toNat), H, I.tok _, ⟨_, rfl⟩, q⟩
        have e := fold_n a.cps n.toNat #[]
        have e2 : n.toNat * a.cps.size = a.length * n.toNat := Nat.mul_comm _ _
        show ((List.replicate n.toNat a.cps).foldl (· ++ ·) #[]).size ≤ _
        rw [e, e2, show sizeLine = 16777216 from by decide]
        simp; omega
theorem op_bin (hK : X.K = W.K) (o : Operator) : OpR X (binaryOp o) (SR2 W (wpBin o)) := by
  intro pins s σ H x y v u Q I rx ry ⟨d, e, G, rd, re, rg, h⟩
  unfold wpBin at h
  split at h
  · cases rint rd; cases rint re
    exact op_add pins s σ H _ _ v u Q I rx ry ⟨_, _, rfl, rfl, h.now rg (by simp [RelD])⟩
  · cases rstr rd; cases rstr re
    exact op_add_str pins s σ H _ _ v u Q I rx ry ⟨_, _, rfl, rfl, h.1, h.2.now rg (by simp [RelD])⟩
  · cases rref rd; cases rref re
    obtain ⟨xs, vs, h, ga, ha, ra⟩ := onL_inv rg h
    obtain ⟨ys, us, h, gb, hb, rb⟩ := onL_inv rg h
    refine op_cat pins s σ H _ _ v u Q I rx ry ⟨_, _, vs, us, rfl, rfl, ha, hb, ?_, newL_use rg (ra.append rb) h.2⟩
    have e := h.1
    rw [List.length_append, ra.length, rb.length] at e
    exact e
  · simp only [RelD] at rd re
    obtain ⟨a, us, rfl, sa, ra⟩ := rd
    obtain ⟨b, ws, rfl, sb, rb⟩ := re
    refine op_catA pins s σ H _ _ v u Q I rx ry ⟨a, b, us, ws, rfl, rfl, hK ▸ sa, hK ▸ sb, by rw [← ra.length, ← rb.length]; exact h.1, fun e => ?_, fun _ e => ?_, fun _ _ p hp => ?_⟩
    · subst e
      have := ra.length
      rw [List.length_nil, List.length_eq_zero_iff] at this
      subst this
      exact h.2.now rg (by simp only [RelD]; exact ⟨b, ws, rfl, sb, rb⟩)
    · subst e
      have := rb.length
      rw [List.length_nil, List.length_eq_zero_iff] at this
      subst this
      exact h.2.now rg (by simp only [RelD]; exact ⟨a, us, rfl, sa, by rw [List.append_nil]; exact ra⟩)
    · refine h.2 _ _ (.new hp) (rg.laid hp) ?_
      simp only [RelD]
      exact ⟨p, _, rfl, .of upd_same, RelDs.le (.new hp) _ _ (ra.append rb)⟩
  · cases rint rd; cases rint re
    exact op_sub pins s σ H _ _ v u Q I rx ry ⟨_, _, rfl, rfl, h.now rg (by simp [RelD])⟩
  · cases rint rd; cases rint re
    exact op_mulG pins s σ H _ _ v u Q I rx ry ⟨_, _, rfl, rfl, h.1, h.2.now rg (by simp [RelD])⟩
  · cases rref rd; cases rint re
    obtain ⟨xs, vs, h, ga, ha, ra⟩ := onL_inv rg h
    refine op_rep pins s σ H _ _ v u Q I rx ry ⟨_, _, vs, rfl, rfl, ha, h.1, h.2.1, ?_, newL_use rg (ra.rep _) h.2.2.2⟩
    have e := h.2.2.1
    rw [List.length_flatten, List.map_replicate, List.sum_replicate_nat, ra.length, Nat.mul_comm] at e
    exact e
  · cases rstr rd; cases rint re
    exact op_repS pins s σ H _ _ v u Q I rx ry ⟨_, _, rfl, rfl, h.1, h.2.now rg (by simp [RelD])⟩
  · cases rint rd; cases rint re
    exact op_fdivW pins s σ H _ _ v u Q I rx ry ⟨_, _, rfl, rfl, h.1, h.2.now rg (by simp [RelD])⟩
  · cases rint rd; cases rint re
    exact op_mod pins s σ H _ _ v u Q I rx ry ⟨_, _, rfl, rfl, h.1, h.2.now rg (by simp [RelD])⟩
  · cases rint rd; cases rint re
    exact op_pow pins s σ H _ _ v u Q I rx ry ⟨_, _, rfl, rfl, h.1, h.2.now rg (by simp [RelD])⟩
  · cases rint rd; cases rint re
    exact op_shl2 pins s σ H _ _ v u Q I rx ry ⟨_, _, rfl, rfl, h.1, h.2.now rg (by simp [RelD])⟩
  · cases rint rd; cases rint re
    exact op_shr pins s σ H _ _ v u Q I rx ry ⟨_, _, rfl, rfl, h.1, h.2.now rg (by simp [RelD])⟩
  · cases rint rd; cases rint re
    exact op_and pins s σ H _ _ v u Q I rx ry ⟨_, _, rfl, rfl, h.now rg (by simp [RelD])⟩
  · cases rint rd; cases rint re
    exact op_or pins s σ H _ _ v u Q I rx ry ⟨_, _, rfl, rfl, h.now rg (by simp [RelD])⟩
  · cases rint rd; cases rint re
    exact op_xor pins s σ H _ _ v u Q I rx ry ⟨_, _, rfl, rfl, h.now rg (by simp [RelD])⟩
  · exact h.elim
theorem op_aug (hK : X.K = W.K) (o : Operator) : OpR X (inplaceOp o) (SR2 W (wpAug o)) := by
  intro pins s σ H x y v u Q I rx ry ⟨d, e, G, rd, re, rg, h⟩
  unfold wpAug at h
  split at h
  · cases rint rd; cases rint re
    exact iop_add pins s σ H _ _ v u Q I rx ry ⟨_, _, rfl, rfl, h.now rg (by simp [RelD])⟩
  · cases rstr rd; cases rstr re
    exact iop_add_str pins s σ H _ _ v u Q I rx ry ⟨_, _, rfl, rfl, h.1, h.2.now rg (by simp [RelD])⟩
  · cases rint rd; cases rint re
    exact iop_sub pins s σ H _ _ v u Q I rx ry ⟨_, _, rfl, rfl, h.now rg (by simp [RelD])⟩
  · exact h.elim
/-! == and in -/
mutual
theorem Pd.dp {H : Hp} {G : Gp} (rg : RelG W H G) : ∀ (p : PyData) (d : D) (v : V), Pd G d p → RelD W.K H d v → Dp W.K H v p
  | .none, d, v, h, r => by cases h; simp only [RelD] at r; subst r; exact .non
  | .bool b, d, v, h, r => by cases h; simp only [RelD] at r; subst r; exact .bl b
  | .int i, d, v, h, r => by cases h; simp only [RelD] at r; subst r; exact .int i
  | .str x, d, v, h, r => by cases h; simp only [RelD] at r; subst r; exact .str x
  | .tuple ds, d, v, h, r => by
    cases h with
    | tup hs =>
      simp only [RelD] at r
      obtain ⟨a, vs, e, q, r⟩ := r
      subst e
      exact .tup q (Pds.dp rg ds _ vs hs r)
  | .list ds, d, v, h, r => by
    cases h with
    | ro hs =>
      simp only [RelD] at r
      obtain ⟨a, vs, e, q, r⟩ := r
      subst e
      exact .lst q.sq (Pds.dp rg ds _ vs hs r)
    | lst hg hs =>
      simp only [RelD] at r
      subst r
      obtain ⟨vs, e, r⟩ := rg _ _ hg
      exact .lst (.of e) (Pds.dp rg ds _ vs hs r)
  | .dict _, d, v, h, r => by cases h
theorem Pds.dp {H : Hp} {G : Gp} (rg : RelG W H G) : ∀ (ps : List PyData) (ds : List D) (vs : List V), Pds G ds ps → RelDs W.K H ds vs → DpAll W.K H vs ps
  | [], ds, vs, h, r => by cases h; simp only [RelDs] at r; subst r; exact .nil
  | p :: ps, ds, vs, h, r => by
    cases h with
    | cons h1 h2 =>
      simp only [RelDs] at r
      obtain ⟨v, t, e, q, r⟩ := r
      subst e
      exact .cons (Pd.dp rg p _ v h1 q) (Pds.dp rg ps _ t h2 r)
end
theorem dnon {H : Hp} {d : D} {v : V} (r : RelD W.K H d v) : decide (v = .non) = isNon d := by
  cases d <;> simp only [RelD] at r
  · subst r; rfl
  · subst r; rfl
  · subst r; rfl
  · subst r; rfl
  · obtain ⟨a, vs, e, _⟩ := r; subst e; rfl
  · obtain ⟨a, vs, e, _⟩ := r; subst e; rfl
  · subst r; rfl
theorem flat_inv {H : Hp} {d : D} {v : V} (r : RelD W.K H d v) (f : flatD d = true) : flatV v = true := by
  cases d <;> first | (simp only [RelD] at r; subst r; rfl) | (simp [flatD] at f)
theorem flats_inv {H : Hp} : ∀ {ds : List D} {vs : List V}, RelDs W.K H ds vs → ds.all flatD = true → vs.all flatV = true
  | [], vs, r, _ => by simp only [RelDs] at r; subst r; rfl
  | d :: ds, vs, r, f => by
    simp only [RelDs] at r
    obtain ⟨v, t, e, q, r⟩ := r
    subst e
    rw [List.all_cons, Bool.and_eq_true] at f ⊢
    exact ⟨flat_inv q f.1, flats_inv r f.2⟩
theorem eqF_inv {H : Hp} {d e : D} {v u : V} (r : RelD W.K H d v) (q : RelD W.K H e u) (f : flatD d = true) (g : flatD e = true) : eqV v u = eqF d e := by
  cases d <;> first | (simp [flatD] at f; done) | (cases e <;> first | (simp [flatD] at g; done) | (simp only [RelD] at r q; subst r; subst q; rfl))
theorem inF_inv {H : Hp} {d : D} {v : V} (r : RelD W.K H d v) (f : flatD d = true) : ∀ {ds : List D} {vs : List V}, RelDs W.K H ds vs → ds.all flatD = true → inV v vs = inF d ds
  | [], vs, h, _ => by simp only [RelDs] at h; subst h; rfl
  | e :: ds, vs, h, g => by
    simp only [RelDs] at h
    obtain ⟨u, t, e, q, h⟩ := h
    subst e
    rw [List.all_cons, Bool.and_eq_true] at g
    have ih := inF_inv r f h g.2
    unfold inV inF at ih ⊢
    rw [List.any_cons, List.any_cons, ih, eqF_inv q r g.1 f]
theorem op_geT {X : Cx} (hu : X.A.units < cLine) : OpR X (compareOp .GtE) (fun x y H Q => ∃ (a b : Addr) (ns ms : List Int), x = .ref a ∧ y = .ref b ∧ SqT X.K H a (ns.map V.int) ∧ SqT X.K H b (ms.map V.int) ∧ Q (.bl (geT ns ms)) H) := by
  intro pins s σ H x y v u Q I rx ry h
  obtain ⟨a, b, ns, ms, rfl, rfl, ha, hb, q⟩ := h
  cases rx
  cases ry
  obtain ⟨its, r1, p1, _⟩ := I.tuple ha
  obtain ⟨its2, r2, p2, _⟩ := I.tuple hb
  have i1 : IntsAre its ns := Vals.ints r1
  have i2 : IntsAre its2 ms := Vals.ints r2
  have e1 : its.toArray.size = ns.length := by rw [List.size_toArray]; exact i1.length
  have e2 : its2.toArray.size = ms.length := by rw [List.size_toArray]; exact i2.length
  have at1 : ∀ j (h1 : j < its.toArray.size), ∃ t, its.toArray[j] = .int (ns.getD j 0) t := fun j h1 => PyProof.Rows.IntsAre.int_at i1 _ _ (by simp at h1; simp [h1])
  have at2 : ∀ j (h1 : j < its2.toArray.size), ∃ t, its2.toArray[j] = .int (ms.getD j 0) t := fun j h1 => PyProof.Rows.IntsAre.int_at i2 _ _ (by simp at h1; simp [h1])
  have R := Ob.RcOp.tuples_ge (A := X.A) (s := s) (e := fun j => decide (ns.getD j 0 = ms.getD j 0)) (r := fun j => decide (ms.getD j 0 ≤ ns.getD j 0)) p1 p2 hu (fun j h1 h2 => by
    obtain ⟨t, et⟩ := at1 j h1
    obtain ⟨t', et'⟩ := at2 j h2
    rw [et, et']
    have z : (ns.getD j 0 == ms.getD j 0) = decide (ns.getD j 0 = ms.getD j 0) := by
      by_cases q : ns.getD j 0 = ms.getD j 0
      · rw [decide_eq_true q]; exact beq_iff_eq.mpr q
      · rw [decide_eq_false q]; exact beq_eq_false_iff_ne.mpr q
    rw [← z]
    exact SeqAt.EqAt.int_int _ _ _ _) (fun j h1 h2 _ => by
    obtain ⟨t, et⟩ := at1 j h1
    obtain ⟨t', et'⟩ := at2 j h2
    rw [et, et']
    exact Ob.RcOp.ge_int _ _ _ _)
  rw [e1, e2] at R
  have z : wpAny (model X.prog X.w) X.A (compareOp .GtE (.ref a) (.ref b)) (EP X pins σ Q) X.xe s := R X.prog X.w X.xe (EP X pins σ Q) ⟨.bl _, H, I, rfl, q⟩
  exact z
theorem op_cmp (hK : X.K = W.K) (hu : X.A.units + 65 < cLine) (o : CmpOp) : OpR X (compareOp o) (SR2 W fun d e G Q => wpCmp o d e G fun b => Q (.bl b) G) := by
  intro pins s σ H x y v u Q I rx ry ⟨d, e, G, rd, re, rg, h⟩
  have fin : ∀ {b : Bool}, Ct W H Q (.bl b) G → Q (.bl b) H := fun q => q.now rg (by simp [RelD])
  cases o
  · -- ==
    unfold wpCmp wpEq at h
    simp only at h
    split at h
    · cases rint rd; cases rint re
      refine op_eq pins s σ H _ _ v u Q I rx ry ⟨rfl, ?_⟩
      rw [dec_int]
      exact fin (by rw [Bool.beq_eq_decide_eq]; exact h)
    · cases rstr rd; cases rstr re
      refine op_eq pins s σ H _ _ v u Q I rx ry ⟨rfl, ?_⟩
      rw [dec_str]
      exact fin (by rw [Bool.beq_eq_decide_eq]; exact h)
    · cases rbl rd; cases rbl re
      refine op_eq pins s σ H _ _ v u Q I rx ry ⟨rfl, ?_⟩
      rw [dec_bl]
      exact fin (by rw [Bool.beq_eq_decide_eq]; exact h)
    · obtain ⟨p, q, pd, pe, s1, s2, h⟩ := h
      refine op_eqD (by omega) pins s σ H _ _ v u Q I rx ry ⟨p, q, ?_, ?_, s1, s2, fin h⟩
      · rw [hK]; exact Pd.dp rg _ _ _ pd rd
      · rw [hK]; exact Pd.dp rg _ _ _ pe re
  · -- !=
    unfold wpCmp wpEq at h
    simp only at h
    split at h
    · cases rint rd; cases rint re
      refine op_ne pins s σ H _ _ v u Q I rx ry ⟨rfl, ?_⟩
      rw [dec_int]
      exact fin (by rw [Bool.beq_eq_decide_eq]; exact h)
    · cases rstr rd; cases rstr re
      refine op_ne pins s σ H _ _ v u Q I rx ry ⟨rfl, ?_⟩
      rw [dec_str]
      exact fin (by rw [Bool.beq_eq_decide_eq]; exact h)
    · cases rbl rd; cases rbl re
      refine op_ne pins s σ H _ _ v u Q I rx ry ⟨rfl, ?_⟩
      rw [dec_bl]
      exact fin (by rw [Bool.beq_eq_decide_eq]; exact h)
    · obtain ⟨p, q, pd, pe, s1, s2, h⟩ := h
      refine op_neD (by omega) pins s σ H _ _ v u Q I rx ry ⟨p, q, ?_, ?_, s1, s2, fin h⟩
      · rw [hK]; exact Pd.dp rg _ _ _ pd rd
      · rw [hK]; exact Pd.dp rg _ _ _ pe re
  · obtain ⟨i, e1, h⟩ := asI_inv rd h; obtain ⟨j, e2, h⟩ := asI_inv re h
    exact op_lt pins s σ H _ _ v u Q I rx ry ⟨i, j, e1, e2, fin h⟩
  · obtain ⟨i, e1, h⟩ := asI_inv rd h; obtain ⟨j, e2, h⟩ := asI_inv re h
    exact op_le pins s σ H _ _ v u Q I rx ry ⟨i, j, e1, e2, fin h⟩
  · obtain ⟨i, e1, h⟩ := asI_inv rd h; obtain ⟨j, e2, h⟩ := asI_inv re h
    exact op_gt pins s σ H _ _ v u Q I rx ry ⟨i, j, e1, e2, fin h⟩
  · unfold wpCmp wpGe at h
    simp only at h
    split at h
    · cases rint rd; cases rint re
      exact op_ge pins s σ H _ _ v u Q I rx ry ⟨_, _, rfl, rfl, fin h⟩
    · obtain ⟨ns, ms, ex, ey, h⟩ := h
      subst ex ey
      simp only [RelD] at rd re
      obtain ⟨a, vs, e1, q1, r1⟩ := rd
      obtain ⟨b, us, e2, q2, r2⟩ := re
      cases RelDs.ints_inv r1
      cases RelDs.ints_inv r2
      exact op_geT (by omega) pins s σ H _ _ v u Q I rx ry ⟨a, b, ns, ms, e1, e2, by rw [hK]; exact q1, by rw [hK]; exact q2, fin h⟩
    · exact h.elim
  · obtain ⟨e1, h⟩ := h
    subst e1
    simp only [RelD] at re
    exact op_isN pins s σ H _ _ v u Q I rx ry ⟨re, by rw [dnon rd]; exact fin h⟩
  · obtain ⟨e1, h⟩ := h
    subst e1
    simp only [RelD] at re
    exact op_notN pins s σ H _ _ v u Q I rx ry ⟨re, by rw [dnon rd]; exact fin h⟩
  · unfold wpCmp wpIn at h
    simp only at h
    split at h
    · obtain ⟨c, e1, h⟩ := h
      subst e1
      cases rstr rd; cases rstr re
      exact op_in_sign pins s σ H _ _ v u Q I rx ry ⟨c, _, rfl, rfl, fin h⟩
    · obtain ⟨d1, ds, a1, a2, c1, c2, h⟩ := h
      exact op_inD (by omega) pins s σ H _ _ v u Q I rx ry ⟨d1, ds, by rw [hK]; exact Pd.dp rg _ _ _ a1 rd, by rw [hK]; exact Pd.dp rg _ _ _ a2 re, c1, c2, fin h⟩
    · obtain ⟨a, xs, vs, e1, ⟨f1, f2, h⟩, r, q⟩ := items_inv rg re h
      refine op_in_seq pins s σ H _ _ v u Q I rx ry ⟨a, vs, e1, ?_, flat_inv rd f1, flats_inv r f2, ?_⟩
      · rw [hK]; exact q.imp (·.1) (·.1)
      · rw [if_neg (by decide), inF_inv rd f1 r f2]; exact fin h
  · unfold wpCmp wpIn at h
    simp only at h
    split at h
    · obtain ⟨c, e1, h⟩ := h
      subst e1
      cases rstr rd; cases rstr re
      exact op_notIn_sign pins s σ H _ _ v u Q I rx ry ⟨c, _, rfl, rfl, fin h⟩
    · obtain ⟨d1, ds, a1, a2, c1, c2, h⟩ := h
      exact op_notInD (by omega) pins s σ H _ _ v u Q I rx ry ⟨d1, ds, by rw [hK]; exact Pd.dp rg _ _ _ a1 rd, by rw [hK]; exact Pd.dp rg _ _ _ a2 re, c1, c2, fin h⟩
    · obtain ⟨a, xs, vs, e1, ⟨f1, f2, h⟩, r, q⟩ := items_inv rg re h
      refine op_notIn_seq pins s σ H _ _ v u Q I rx ry ⟨a, vs, e1, ?_, flat_inv rd f1, flats_inv r f2, ?_⟩
      · rw [hK]; exact q.imp (·.1) (·.1)
      · rw [if_pos rfl, inF_inv rd f1 r f2]; exact fin h
/-! a value's truth, a subscript, a slice -/
theorem truth_inv {H : Hp} {G : Gp} {d : D} {v : V} {k : Bool → Prop} (rg : RelG W H G) (rd : RelD W.K H d v) (h : truth G d k) : ∃ b, TruV W.K v H b ∧ k b := by
  have le : ∀ {xs : List D} {vs : List V}, RelDs W.K H xs vs → (!xs.isEmpty) = !vs.isEmpty := fun r => by
    have e := r.length
    cases ‹List D› <;> cases ‹List V› <;> simp_all
  cases d with
  | non => simp only [RelD] at rd; subst rd; exact ⟨_, rfl, h⟩
  | bl b => simp only [RelD] at rd; subst rd; exact ⟨_, rfl, h⟩
  | int i => simp only [RelD] at rd; subst rd; exact ⟨_, rfl, h⟩
  | str x => exact h.elim
  | tup xs =>
    simp only [RelD] at rd
    obtain ⟨a, vs, e, q, r⟩ := rd
    subst e
    exact ⟨_, .inr (.inl ⟨vs, q, le r⟩), h⟩
  | ro xs =>
    simp only [RelD] at rd
    obtain ⟨a, vs, e, q, r⟩ := rd
    subst e
    exact ⟨_, .inl ⟨vs, q.sq, le r⟩, h⟩
  | ref a =>
    simp only [RelD] at rd
    subst rd
    obtain ⟨xs, vs, h, _, e, r⟩ := onL_inv rg h
    exact ⟨_, .inl ⟨vs, .of e, le r⟩, h⟩
theorem atI_inv {H : Hp} {xs : List D} {vs : List V} {i : Int} {d : D} (r : RelDs W.K H xs vs) (h : atI xs i = some d) : ∃ v, atI vs i = some v ∧ RelD W.K H d v := by
  unfold atI at h ⊢
  rw [r.length] at h
  cases e : ixN vs.length i with
  | none => rw [e] at h; cases h
  | some j => rw [e] at h; exact r.get h
theorem ix_all (hK : X.K = W.K) : IxR X (SR2 W wpIx) := by
  intro va sl pins s σ H x y v u Q I rx ry ⟨d, e, G, rd, re, rg, h⟩ hs
  unfold wpIx at h
  split at h
  · cases rstr rd; cases rint re
    obtain ⟨h1, c, h2, h⟩ := h
    exact ix_str va sl pins s σ H _ _ v u Q I rx ry ⟨_, _, c, rfl, rfl, h1, h2, h.now rg (by simp [RelD])⟩ hs
  · cases rint re
    obtain ⟨a, xs, vs, e1, ⟨d', e2, h⟩, r, q⟩ := items_inv rg rd h
    obtain ⟨w, e3, r3⟩ := atI_inv r e2
    rcases q with ⟨q, _⟩ | ⟨q, _⟩
    · exact ix_list va sl pins s σ H _ _ v u Q I rx ry ⟨a, vs, _, w, e1, rfl, by rw [hK]; exact q, e3, h.now rg r3⟩ hs
    · exact ix_tup va sl pins s σ H _ _ v u Q I rx ry ⟨a, vs, _, w, e1, rfl, by rw [hK]; exact q, e3, h.now rg r3⟩ hs
  · exact h.elim
def SSl (W : Wd) (m : D → Option Int → Option Int → Gp → K1 → Prop) : V → Option Int → Option Int → Hp → VK → Prop := fun x lo hi H Q => ∃ d G, RelD W.K H d x ∧ RelG W H G ∧ m d lo hi G (Ct W H Q)
theorem cut_rel {H : Hp} {xs : List D} {vs : List V} {lo hi : Option Int} (r : RelDs W.K H xs vs) : RelDs W.K H (cutD xs lo hi) (cutV vs lo hi) := by
  unfold cutD cutV
  rw [r.length]
  exact (r.drop _).take _
theorem sl_all (hK : X.K = W.K) : SlR X (SSl W wpSl) := by
  intro pins s σ H x v vl vu lo hi sl Q I rx hs pl pu ⟨d, G, rd, rg, h⟩
  cases d <;> try exact h.elim
  · cases rstr rd
    exact sl_str pins s σ H _ v vl vu lo hi sl Q I rx hs pl pu ⟨_, rfl, h.1, h.2.now rg (by simp [RelD])⟩
  · simp only [RelD] at rd
    obtain ⟨a, vs, e, q, r⟩ := rd
    refine sl_tup pins s σ H x v vl vu lo hi sl Q I rx hs pl pu ⟨a, vs, e, by rw [hK]; exact q, by rw [← r.length]; exact h.1, fun p hp => ?_⟩
    refine h.2 _ _ (.new hp) (rg.laid hp) ?_
    simp only [RelD]
    exact ⟨p, _, rfl, .of upd_same, RelDs.le (.new hp) _ _ (cut_rel r)⟩
  · simp only [RelD] at rd
    obtain ⟨a, vs, e, q, r⟩ := rd
    exact sl_list pins s σ H x v vl vu lo hi sl Q I rx hs pl pu ⟨a, vs, e, by rw [hK]; exact q.sq, newL_use rg (cut_rel r) h⟩
  · simp only [RelD] at rd
    obtain ⟨xs, vs, h, _, e, r⟩ := onL_inv rg h
    exact sl_list pins s σ H x v vl vu lo hi sl Q I rx hs pl pu ⟨_, vs, rd, .of e, newL_use rg (cut_rel r) h⟩
end
end DL
namespace DL
open PySem PySem.Spec PyProof.Rows L2
/-! sorted over a tuple -/
section
variable {prog : Program} {w : World} {A : Around} {E : Value → Shared → Prop} {s : Shared}
theorem collect_tuple {l : Addr} {vs : List Value} {Q : List Value → Shared → Prop} (hl : IsTup s.heap l vs.toArray)
    (h : Q vs { s with heap := (s.heap.push (seqObj "list" #[] 0)).update s.heap.objs.size (Obj.mapSeq (· ++ vs.toArray)) }) (hsz : vs.length ≤ sizeLine) :
    wpAny (model prog w) A (collect (.ref l)) Q E s := by
  obtain ⟨o, ho, hc, n, hd⟩ := id hl
  unfold collect
  refine wpAny_bind (wpAny_runValue (codeAny_builtin entry_proto_collect' ?_))
  show wpAny _ _ (do again (.builtin "list.__iadd__" ⟨[← newList [], .ref l], []⟩)) _ _ s
  refine wpAny_bind (wpAny_newList (wpAny_pure ⟨Code.quiet_builtin _ (by decide +kernel), codeAny_builtin entry_list_iadd' ?_⟩))
  show wpAny _ _ (Builtin.List.listExtendWith (.ref s.heap.objs.size) (.ref l) (.ref s.heap.objs.size)) _ _ { s with heap := s.heap.push (seqObj "list" #[] 0) }
  unfold Builtin.List.listExtendWith
  have ho' : (s.heap.push (seqObj "list" #[] 0)).get? l = some o := Heap.get?_push_of_some _ ho
  refine wpAny_bind (wpAny_typeOf (T := "tuple") ⟨o, ho', hc⟩ ?_)
  have ht : (Value.type "tuple" == Value.type "tuple") = true := by rfl
  rw [if_pos (by rw [ht]; simp)]
  refine wpAny_bind (listItems_at ho' hd ?_)
  refine wpAny_bind (listItems_at (xs := #[]) (n := 0) (Heap.get?_push_size _ rfl) rfl ?_)
  rw [if_neg (by simp)]
  refine wpAny_bind (listUpdate_at (xs := #[]) (n := 0) (Heap.get?_push_size _ rfl) rfl ?_ (Nat.zero_le _) (by show (#[] ++ vs.toArray).size ≤ sizeLine + 1; simp only [Array.size_append, List.size_toArray, List.length_nil]; omega))
  refine wpAny_pure ?_
  show wpAny (model prog w) A (do
      let o ← load s.heap.objs.size
      match o.data with
      | .seq xs _ => pure xs.toList
      | _ => unsupported "internal:collect") Q E { s with heap := (s.heap.push (seqObj "list" #[] 0)).update s.heap.objs.size (Obj.mapSeq (· ++ vs.toArray)) }
  refine wpAny_bind (wpAny_load (get?_update_seq (Heap.get?_push_size _ rfl) _) ?_)
  show wpAny _ _ (pure ((#[] : Array Value) ++ vs.toArray).toList) Q E _
  rw [show ((#[] : Array Value) ++ vs.toArray).toList = vs by simp]
  exact wpAny_pure h
open SrtO Srt in
theorem sorted_ordT {l : Addr} {vs : List Value} {ltv : Value → Value → Bool} {Q : Value → Shared → Prop} (O : Swo ltv) (hl : IsTup s.heap l vs.toArray) (hz : vs.length ≤ sizeLine)
    (hS : 2 ≤ vs.length → ∀ (h₁ : Heap) (a : Addr), h₁.get? a = some (seqObj "list" vs.toArray 0) → (∀ b o, s.heap.get? b = some o → b ≠ a ∧ h₁.get? b = some o) → SortableO prog w A.in1.in1 { s with heap := h₁ } a vs ltv)
    (h : ∀ out : List Value, Srtd ltv out → Stb ltv out vs → Q (.ref (s.heap.objs.size + 1)) { s with heap := sortedAll s.heap vs out.toArray }) :
    wpAny (model prog w) A (call (.builtin "sorted") [.ref l]) Q E s := by
  refine Calls.call_function_entry kind_sorted plain_sorted entry_sorted (args_sorted1 _) ?_
  unfold Builtin.«sorted»
  refine wpAny_bind (m := checkCount "sorted" 1 1 _) (wpAny_pure ?_)
  refine wpAny_bind (collect_tuple hl ?_ hz)
  refine wpAny_bind (wpAny_newList ?_ hz)
  have hsz : ((s.heap.push (seqObj "list" #[] 0)).update s.heap.objs.size (Obj.mapSeq (· ++ vs.toArray))).objs.size = s.heap.objs.size + 1 := by
    rw [Heap.size_update, size_push']
  have hoL : (((s.heap.push (seqObj "list" #[] 0)).update s.heap.objs.size (Obj.mapSeq (· ++ vs.toArray))).push (seqObj "list" vs.toArray 0)).get? (s.heap.objs.size + 1) = some (seqObj "list" vs.toArray 0) := by
    rw [← hsz]; exact Heap.get?_push_size _ rfl
  have keep : ∀ b o, s.heap.get? b = some o → b ≠ s.heap.objs.size + 1 ∧ (((s.heap.push (seqObj "list" #[] 0)).update s.heap.objs.size (Obj.mapSeq (· ++ vs.toArray))).push (seqObj "list" vs.toArray 0)).get? b = some o := fun b o q => by
    have hlt : b < s.heap.objs.size := Heap.lt_size q
    refine ⟨Nat.ne_of_lt (Nat.lt_succ_of_lt hlt), Heap.get?_push_of_some _ ?_⟩
    rw [Heap.get?_update_ne _ _ _ _ (Nat.ne_of_lt hlt)]
    exact Heap.get?_push_of_some _ q
  show wpAny _ _ _ _ _ { s with heap := ((s.heap.push (seqObj "list" #[] 0)).update s.heap.objs.size (Obj.mapSeq (· ++ vs.toArray))).push (seqObj "list" vs.toArray 0) }
  rw [hsz]
  refine wpAny_bind (wpAny_holding (wpAny_call_entry slot_list_sort ⟨_, hoL, rfl⟩ entry_list_sort (list_sort_ord O hoL hz (fun h2 => hS h2 _ _ hoL keep) fun out hs hb => ⟨_, rfl, ?_⟩) (args_list_sort _)))
  exact wpAny_pure ⟨_, rfl, h out hs hb⟩
end
section
variable {X : Cx}
theorem cr_sortedT : CallR X (.builtin "sorted") (fun vs H Q => ∃ (a : Addr) (ns : List Int), vs = [V.ref a] ∧ (SqL X.K H a (ns.map V.int) ∨ SqT X.K H a (ns.map V.int)) ∧
  ∀ (ns' : List Int) (p : Addr), ns'.Perm ns → ns'.Pairwise (· ≤ ·) → H p = none → Q (.ref p) (upd H p (.lst (ns'.map V.int)))) := by
  intro pins s σ H vs us Q I r h
  obtain ⟨a, ns, rfl, hs | hs, q⟩ := h
  · exact cr_sortedI pins s σ H _ us Q I r ⟨a, ns, rfl, hs, q⟩
  · obtain ⟨its, rv, hl, hz⟩ := I.tuple hs
    rw [Vals.ref1 r]
    have hi := rv.ints
    refine sorted_ordT SrtO.swo_int hl (by rw [← rv.length]; exact hz) (fun h2 h₁ a' _ _ => SrtO.ints_sortable hi h2) fun out h1 h2 => ?_
    obtain ⟨k1, k2, k3⟩ := SrtO.ints_out hi h1 h2
    obtain ⟨ep, he'⟩ := PyProof.Rows.sortedAll_at s.heap its out.toArray
    have hlen : ((out.map SrtO.iv).map V.int).length ≤ sizeLine := by
      rw [List.length_map, k2.length_eq]
      rw [List.length_map] at hz
      exact hz
    exact ⟨.ref _, upd H (s.heap.objs.size + 1) (.lst ((out.map SrtO.iv).map V.int)), I.laid (t' := s.toks) (fun _ _ => PyProof.Rows.sortedAll_old) (Nat.le_succ _) ⟨hlen, out, ep, vals_of_ints k1, he'⟩, rfl, q _ _ k2 k3 (I.hok.fresh (Nat.le_succ _))⟩
end
/-! built-ins by name -/
def Bi.nm : Bi → Str
  | .len => "len" | .list => "list" | .tuple => "tuple" | .int => "int" | .str => "str" | .max => "max" | .min => "min" | .sum => "sum" | .any => "any" | .all => "all" | .sorted => "sorted"
def Bi.val : Bi → Value
  | .len => .builtin "len" | .list => .type "list" | .tuple => .type "tuple" | .int => .type "int" | .str => .type "str" | .max => .builtin "max" | .min => .builtin "min" | .sum => .builtin "sum" | .any => .builtin "any" | .all => .builtin "all" | .sorted => .builtin "sorted"
theorem Bi.boot (f : Bi) : bootBuiltins f.nm = some f.val := by cases f <;> decide +kernel
theorem Bi.noname (f : Bi) : f.nm ≠ "__name__" := by cases f <;> decide +kernel
theorem Bi.nodebug (f : Bi) : (f.nm == ("__debug__" : Str)) = false := by cases f <;> decide +kernel
def SCl (W : Wd) (m : List D → Gp → K1 → Prop) : List V → Hp → VK → Prop := fun vs H Q => ∃ ds G, RelDs W.K H ds vs ∧ RelG W H G ∧ m ds G (Ct W H Q)
section
variable {X : Cx} {W : Wd}
theorem r1 {H : Hp} {d : D} {vs : List V} (h : RelDs W.K H [d] vs) : ∃ v, vs = [v] ∧ RelD W.K H d v := by
  simp only [RelDs] at h
  obtain ⟨v, r, e, q, t⟩ := h
  subst t; exact ⟨v, e, q⟩
theorem r2 {H : Hp} {d d' : D} {vs : List V} (h : RelDs W.K H [d, d'] vs) : ∃ v v', vs = [v, v'] ∧ RelD W.K H d v ∧ RelD W.K H d' v' := by
  simp only [RelDs] at h
  obtain ⟨v, r, e, q, v', r', e', q', t⟩ := h
  subst t; subst e'; exact ⟨v, v', e, q, q'⟩
theorem bls_inv {H : Hp} : ∀ {ns : List Bool} {vs : List V}, RelDs W.K H (ns.map D.bl) vs → vs = ns.map V.bl
  | [], vs, h => by simpa [RelDs] using h
  | n :: ns, vs, h => by
    simp only [RelDs, List.map_cons, RelD] at h
    obtain ⟨v, r, e, q, t⟩ := h
    subst e q
    rw [bls_inv t]; rfl
theorem intsD_rel {H : Hp} : ∀ ns : List Int, RelDs W.K H (ns.map D.int) (ns.map V.int)
  | [] => .nil
  | z :: zs => .cons (by simp [RelD]) (intsD_rel zs)
theorem lenX_cases {G : Gp} {d : D} {k : Nat → Prop} (h : lenX G d k) : items G d (fun xs => k xs.length) ∨ ∃ a, d = .ref a ∧ onK (G a) fun kvs => k kvs.length := by
  cases d <;> first | exact .inl h | exact h.elim | skip
  rename_i a
  have h : lenO (G a) k := h
  show onL (G a) _ ∨ _
  generalize he : G a = o at h
  unfold lenO at h
  split at h
  · exact .inl h
  · exact .inr ⟨a, rfl, by rw [he]; exact h⟩
  · exact h.elim
theorem bi_all (hK : X.K = W.K) (hc : X.calm = true) (f : Bi) : CallR X f.val (SCl W (wpBi f)) := by
  intro pins s σ H vs us Q I r ⟨ds, G, rd, rg, h⟩
  unfold wpBi at h
  split at h
  · obtain ⟨v, rfl, q⟩ := r1 rd
    cases rstr q
    exact call_len pins s σ H _ us Q I r ⟨_, _, rfl, ⟨h.1, rfl⟩, h.2.now rg (by simp [RelD])⟩
  · obtain ⟨v, rfl, q⟩ := r1 rd
    rcases lenX_cases h with h1 | ⟨b, rfl, h1⟩
    · obtain ⟨a, xs, vs, e1, h, rr, q⟩ := items_inv rg q h1
      refine call_len_seq pins s σ H _ us Q I r ⟨a, vs, by rw [e1], by rw [hK]; exact q.imp (·.1) (·.1), ?_⟩
      rw [← rr.length]
      exact h.now rg (by simp [RelD])
    · simp only [RelD] at q
      subst q
      obtain ⟨kvs, vs, h, _, hH, ra⟩ := onK_inv rg h1
      refine call_lenD pins s σ H _ us Q I r ⟨b, vs, rfl, hH, ?_⟩
      rw [← ra.length]
      exact h.now rg (by simp [RelD])
  · obtain ⟨v, rfl, q⟩ := r1 rd
    obtain ⟨a, xs, vs, e1, h, rr, q⟩ := items_inv rg q h
    exact call_list_of pins s σ H _ us Q I r ⟨a, vs, by rw [e1], by rw [hK]; exact q.imp (·.1) (·.1), newL_use rg rr h⟩
  · obtain ⟨v, rfl, q⟩ := r1 rd
    obtain ⟨a, xs, vs, e1, h, rr, q⟩ := items_inv rg q h
    refine call_tuple_of pins s σ H _ us Q I r ⟨a, vs, by rw [e1], ?_⟩
    rw [hK]
    rcases q with ⟨q, _⟩ | ⟨q, _⟩
    · refine .inl ⟨q, fun p hp => ?_⟩
      refine h _ _ (.new hp) (rg.laid hp) ?_
      simp only [RelD]
      exact ⟨p, _, rfl, .of upd_same, RelDs.le (.new hp) _ _ rr⟩
    · refine .inr ⟨q, h.now rg ?_⟩
      simp only [RelD]
      exact ⟨a, _, rfl, q, rr⟩
  · obtain ⟨v, rfl, q⟩ := r1 rd
    cases rint q
    exact call_int1 pins s σ H _ us Q I r (.inl ⟨_, rfl, h.now rg (by simp [RelD])⟩)
  · obtain ⟨v, rfl, q⟩ := r1 rd
    cases rbl q
    exact call_int1 pins s σ H _ us Q I r (.inr ⟨_, rfl, h.now rg (by simp [RelD])⟩)
  · obtain ⟨v, rfl, q⟩ := r1 rd
    cases rstr q
    obtain ⟨n, a, b, h⟩ := h
    exact call_int_str pins s σ H _ us Q I r ⟨_, n, rfl, a, b, h.now rg (by simp [RelD])⟩
  · obtain ⟨v, rfl, q⟩ := r1 rd
    cases rint q
    exact call_str_int pins s σ H _ us Q I r ⟨_, rfl, h.1, h.2.now rg (by simp [RelD])⟩
  · obtain ⟨v, v', rfl, q, q'⟩ := r2 rd
    cases rint q; cases rint q'
    exact call_max2 hc pins s σ H _ us Q I r ⟨_, _, rfl, h.now rg (by simp [RelD])⟩
  · obtain ⟨v, v', rfl, q, q'⟩ := r2 rd
    cases rint q; cases rint q'
    exact call_min2 hc pins s σ H _ us Q I r ⟨_, _, rfl, h.now rg (by simp [RelD])⟩
  · obtain ⟨v, rfl, q⟩ := r1 rd
    obtain ⟨a, xs, vs, e1, ⟨ns, e2, nt, h⟩, rr, q⟩ := items_inv rg q h
    subst e2
    cases RelDs.ints_inv rr
    rcases q with ⟨q, _⟩ | ⟨_, q⟩
    · exact cr_sum hc pins s σ H _ us Q I r ⟨a, ns, by rw [e1], by rw [hK]; exact q, h.now rg (by simp [RelD])⟩
    · exact absurd q (nt _)
  · obtain ⟨v, rfl, q⟩ := r1 rd
    obtain ⟨a, xs, vs, e1, ⟨ns, e2, nt, h⟩, rr, q⟩ := items_inv rg q h
    subst e2
    cases bls_inv rr
    rcases q with ⟨q, _⟩ | ⟨_, q⟩
    · exact cr_all hc pins s σ H _ us Q I r ⟨a, ns, by rw [e1], by rw [hK]; exact q, h.now rg (by simp [RelD])⟩
    · exact absurd q (nt _)
  · obtain ⟨v, rfl, q⟩ := r1 rd
    obtain ⟨a, xs, vs, e1, ⟨ns, e2, nt, h⟩, rr, q⟩ := items_inv rg q h
    subst e2
    cases bls_inv rr
    rcases q with ⟨q, _⟩ | ⟨_, q⟩
    · exact cr_any hc pins s σ H _ us Q I r ⟨a, ns, by rw [e1], by rw [hK]; exact q, h.now rg (by simp [RelD])⟩
    · exact absurd q (nt _)
  · obtain ⟨v, rfl, q⟩ := r1 rd
    obtain ⟨a, xs, vs, e1, ⟨ns, e2, h⟩, rr, q⟩ := items_inv rg q h
    subst e2
    cases RelDs.ints_inv rr
    refine cr_sortedT pins s σ H _ us Q I r ⟨a, ns, by rw [e1], by rw [hK]; exact q.imp (·.1) (·.1), fun ns' p h1 h2 hp => ?_⟩
    exact newL_use rg (intsD_rel ns') (fun p hp => h ns' h1 h2 p hp) p hp
  · exact h.elim
/-! isinstance -/
def TyT.nm : TyT → Str
  | .int => "int" | .bool => "bool" | .str => "str" | .list => "list" | .tuple => "tuple"
def TyT.ty : TyT → String
  | .int => "int" | .bool => "bool" | .str => "str" | .list => "list" | .tuple => "tuple"
theorem TyT.boot (t : TyT) : bootBuiltins t.nm = some (.type t.ty) := by cases t <;> decide +kernel
theorem TyT.noname (t : TyT) : t.nm ≠ "__name__" := by cases t <;> decide +kernel
theorem TyT.nodebug (t : TyT) : (t.nm == ("__debug__" : Str)) = false := by cases t <;> decide +kernel
theorem isTy_inv {H : Hp} {G : Gp} {t : TyT} {d : D} {v : V} {k : Bool → Prop} (rg : RelG W H G) (rd : RelD W.K H d v) (h : isTy G t d k) :
    ∃ (w : Value) (b : Bool), TyX W.K H v w ∧ PySem.W.kitOne W.K w (.type t.ty) = some b ∧ k b := by
  have tup : ∀ {a vs}, SqT W.K H a vs → TyX W.K H (.ref a) (.type "tuple") := fun q => by
    rcases q with (q | ⟨o, q⟩) | ⟨o, its, n, e, c, _⟩
    · exact .base (.tup q)
    · exact .fTuple q
    · exact .kTuple e c
  have ro : ∀ {a vs}, SqR W.K H a vs → TyX W.K H (.ref a) (.type "list") := fun q => by
    rcases q with ⟨o, q⟩ | ⟨o, its, n, e, c, _⟩
    · exact .base (.frz q)
    · exact .kList e c
  cases d with
  | non =>
    simp only [RelD] at rd; subst rd
    refine ⟨_, false, .base .non, kit_ty (by cases t <;> decide +kernel), ?_⟩
    cases t <;> exact h
  | bl b =>
    simp only [RelD] at rd; subst rd
    cases t
    · exact ⟨_, true, .base (.bl b), kit_ty (by decide +kernel), h⟩
    · exact ⟨_, true, .base (.bl b), kit_ty (by decide +kernel), h⟩
    · exact ⟨_, false, .base (.bl b), kit_ty (by decide +kernel), h⟩
    · exact ⟨_, false, .base (.bl b), kit_ty (by decide +kernel), h⟩
    · exact ⟨_, false, .base (.bl b), kit_ty (by decide +kernel), h⟩
  | int b =>
    simp only [RelD] at rd; subst rd
    cases t
    · exact ⟨_, true, .base (.int b), kit_ty (by decide +kernel), h⟩
    · exact ⟨_, false, .base (.int b), kit_ty (by decide +kernel), h⟩
    · exact ⟨_, false, .base (.int b), kit_ty (by decide +kernel), h⟩
    · exact ⟨_, false, .base (.int b), kit_ty (by decide +kernel), h⟩
    · exact ⟨_, false, .base (.int b), kit_ty (by decide +kernel), h⟩
  | str b =>
    simp only [RelD] at rd; subst rd
    cases t
    · exact ⟨_, false, .base (.str b), kit_ty (by decide +kernel), h⟩
    · exact ⟨_, false, .base (.str b), kit_ty (by decide +kernel), h⟩
    · exact ⟨_, true, .base (.str b), kit_ty (by decide +kernel), h⟩
    · exact ⟨_, false, .base (.str b), kit_ty (by decide +kernel), h⟩
    · exact ⟨_, false, .base (.str b), kit_ty (by decide +kernel), h⟩
  | tup xs =>
    simp only [RelD] at rd
    obtain ⟨a, vs, e, q, r⟩ := rd
    subst e
    cases t
    · exact ⟨_, false, tup q, kit_ty (by decide +kernel), h⟩
    · exact ⟨_, false, tup q, kit_ty (by decide +kernel), h⟩
    · exact ⟨_, false, tup q, kit_ty (by decide +kernel), h⟩
    · exact ⟨_, false, tup q, kit_ty (by decide +kernel), h⟩
    · exact ⟨_, true, tup q, kit_ty (by decide +kernel), h⟩
  | ro xs =>
    simp only [RelD] at rd
    obtain ⟨a, vs, e, q, r⟩ := rd
    subst e
    cases t
    · exact ⟨_, false, ro q, kit_ty (by decide +kernel), h⟩
    · exact ⟨_, false, ro q, kit_ty (by decide +kernel), h⟩
    · exact ⟨_, false, ro q, kit_ty (by decide +kernel), h⟩
    · exact ⟨_, true, ro q, kit_ty (by decide +kernel), h⟩
    · exact ⟨_, false, ro q, kit_ty (by decide +kernel), h⟩
  | ref a =>
    simp only [RelD] at rd
    subst rd
    cases t
    all_goals
      obtain ⟨xs, vs, h, _, e, r⟩ := onL_inv rg h
    · exact ⟨_, false, .base (.lst e), kit_ty (by decide +kernel), h⟩
    · exact ⟨_, false, .base (.lst e), kit_ty (by decide +kernel), h⟩
    · exact ⟨_, false, .base (.lst e), kit_ty (by decide +kernel), h⟩
    · exact ⟨_, true, .base (.lst e), kit_ty (by decide +kernel), h⟩
    · exact ⟨_, false, .base (.lst e), kit_ty (by decide +kernel), h⟩
/-! built-in methods -/
def Bm.nm : Bm → Str
  | .append => "append" | .pop => "pop" | .popAt => "pop" | .clear => "clear" | .extend => "extend" | .insert => "insert" | .find => "find" | .starts => "startswith" | .split => "split" | .join => "join" | .bits => "bit_length"
def Bm.T (f : Bm) : String := match f.kd with | .s => "str" | .l => "list" | .i => "int"
def Bm.id : Bm → String
  | .append => "list.append" | .pop => "list.pop" | .popAt => "list.pop" | .clear => "list.clear" | .extend => "list.extend" | .insert => "list.insert"
  | .find => "str.find" | .starts => "str.startswith" | .split => "str.split" | .join => "str.join" | .bits => "int.bit_length"
theorem Bm.pa (f : Bm) : PlainAttrs f.T := by cases f <;> first | exact PySem.F.plainAttrs_list | exact PySem.F.plainAttrs_str | exact PySem.F.plainAttrs_int
theorem Bm.slot (f : Bm) : Slot f.T f.nm f.id := by
  cases f
  · exact PySem.F.slot_list_append
  · exact PySem.F.slot_list_pop
  · exact PySem.F.slot_list_pop
  · exact PySem.F.slot_list_clear
  · exact PySem.F.slot_list_extend
  · exact PySem.F.slot_list_insert
  · exact PySem.F.slot_str_find
  · exact PySem.F.slot_str_startswith
  · exact PySem.F.slot_str_split
  · exact PySem.F.slot_str_join
  · exact PyProof.Rows.slot_int_bit_length
theorem Bm.ty (f : Bm) : typeOf (.builtin f.id) = pure (.type "method_descriptor") := by
  cases f
  · exact PySem.F.type_list_append
  · exact PySem.F.type_list_pop
  · exact PySem.F.type_list_pop
  · exact PySem.F.type_list_clear
  · exact PySem.F.type_list_extend
  · exact PySem.F.type_list_insert
  · exact PySem.F.type_str_find
  · exact PySem.F.type_str_startswith
  · exact PySem.F.type_str_split
  · exact PySem.F.type_str_join
  · exact PyProof.Rows.type_int_bit_length
theorem strs_rel {H : Hp} : ∀ zs : List Str, RelDs W.K H (zs.map D.str) (zs.map V.str)
  | [] => .nil
  | z :: zs => .cons (by simp [RelD]) (strs_rel zs)
theorem strs_inv {H : Hp} : ∀ {zs : List Str} {vs : List V}, RelDs W.K H (zs.map D.str) vs → vs = zs.map V.str
  | [], vs, h => by simpa [RelDs] using h
  | z :: zs, vs, h => by
    simp only [RelDs, List.map_cons, RelD] at h
    obtain ⟨v, r, e, q, t⟩ := h
    subst e q
    rw [strs_inv t]; rfl
def SMt (W : Wd) (m : D → List D → Gp → K1 → Prop) : V → List V → Hp → VK → Prop := fun x vs H Q => ∃ d ds G, RelD W.K H d x ∧ RelDs W.K H ds vs ∧ RelG W H G ∧ m d ds G (Ct W H Q)
theorem bm_all (hK : X.K = W.K) (f : Bm) : MtR X f.id (SMt W (wpBm f)) := by
  intro pins s σ H x xs v us Q I rx r ⟨d, ds, G, rd, rds, rg, h⟩
  unfold wpBm at h
  split at h
  · cases rref rd
    obtain ⟨y, rfl, q⟩ := r1 rds
    obtain ⟨xs, vs, h, _, e, rr⟩ := onL_inv rg h
    exact mt_append pins s σ H _ _ v us Q I rx r ⟨_, vs, y, rfl, rfl, e, by rw [← rr.length]; exact h.1, putL_use rg e (rr.append (.cons q .nil)) (by simp [RelD]) h.2⟩
  · cases rref rd
    simp only [RelDs] at rds
    subst rds
    obtain ⟨xs, vs, ⟨y, e1, h⟩, _, e, rr⟩ := onL_inv rg h
    rw [rr.length] at e1
    obtain ⟨w, e2, q⟩ := rr.get e1
    refine mt_pop pins s σ H _ _ v us Q I rx r ⟨_, vs, w, rfl, rfl, e, e2, putL_use rg e ?_ q h⟩
    rw [List.dropLast_eq_take, List.dropLast_eq_take, rr.length]
    exact rr.take _
  · cases rref rd
    obtain ⟨y, rfl, q⟩ := r1 rds
    cases rint q
    obtain ⟨xs, vs, ⟨hb, k, y, e1, e2, h⟩, _, e, rr⟩ := onL_inv rg h
    obtain ⟨w, e3, q⟩ := rr.get e2
    exact mt_popAt pins s σ H _ _ v us Q I rx r ⟨_, vs, _, k, w, rfl, rfl, e, hb.1, hb.2, by rw [← rr.length]; exact e1, e3, putL_use rg e (rr.erase k) q h⟩
  · cases rref rd
    simp only [RelDs] at rds
    subst rds
    obtain ⟨xs, vs, h, _, e, rr⟩ := onL_inv rg h
    exact mt_clear pins s σ H _ _ v us Q I rx r ⟨_, vs, rfl, rfl, e, putL_use rg e .nil (by simp [RelD]) h⟩
  · cases rref rd
    obtain ⟨y1, y2, rfl, q1, q2⟩ := r2 rds
    cases rint q1
    obtain ⟨xs, vs, ⟨hz, h0, h1, h⟩, _, e, rr⟩ := onL_inv rg h
    exact mt_insert pins s σ H _ _ v us Q I rx r ⟨_, vs, _, y2, rfl, rfl, e, by rw [← rr.length]; exact hz, h0, h1, putL_use rg e (((rr.take _).append (.cons q2 .nil)).append (rr.drop _)) (by simp [RelD]) h⟩
  · cases rstr rd
    obtain ⟨y, rfl, q⟩ := r1 rds
    cases rstr q
    exact mt_find pins s σ H _ _ v us Q I rx r ⟨_, _, rfl, rfl, h.now rg (by simp [RelD])⟩
  · cases rstr rd
    obtain ⟨y, rfl, q⟩ := r1 rds
    cases rstr q
    exact mt_startswith pins s σ H _ _ v us Q I rx r ⟨_, _, rfl, rfl, h.now rg (by simp [RelD])⟩
  · cases rstr rd
    obtain ⟨y, rfl, q⟩ := r1 rds
    cases rstr q
    exact mt_split pins s σ H _ _ v us Q I rx r ⟨_, _, rfl, rfl, h.1, h.2.1, newL_use rg (strs_rel _) fun p hp => h.2.2 p hp⟩
  · cases rstr rd
    obtain ⟨y, rfl, q⟩ := r1 rds
    cases rref q
    obtain ⟨xs, vs, ⟨ys, e1, hz, h⟩, _, e, rr⟩ := onL_inv rg h
    subst e1
    cases strs_inv rr
    exact mt_join pins s σ H _ _ v us Q I rx r ⟨_, _, ys, rfl, rfl, .inl (.inl (.of e)), hz, h.now rg (by simp [RelD])⟩
  · cases rint rd
    simp only [RelDs] at rds
    subst rds
    cases r
    obtain ⟨t, rfl⟩ := rx
    exact call_int_bit_length ⟨.int _, H, I.tok _, ⟨_, rfl⟩, h.now rg (by simp [RelD])⟩
  · cases rref rd
    obtain ⟨y, rfl, q⟩ := r1 rds
    cases rref q
    obtain ⟨xs, vs, h, _, e, rr⟩ := onL_inv rg h
    obtain ⟨zs, ws, h, _, e', rr'⟩ := onL_inv rg h
    exact mt_extend pins s σ H _ _ v us Q I rx r ⟨_, _, vs, ws, rfl, rfl, e, e', by rw [← rr.length, ← rr'.length]; exact h.1, putL_use rg e (rr.append rr') (by simp [RelD]) h.2⟩
  · exact h.elim
theorem rcv_inv {H : Hp} {G : Gp} {f : Bm} {d : D} {v : V} (rg : RelG W H G) (rd : RelD W.K H d v) (h : rcv f d G) : tyV W.K f.T v H := by
  unfold rcv at h
  split at h
  · rename_i q
    cases rstr rd
    show f.T = "str"
    unfold Bm.T; rw [q]
  · rename_i q
    cases rref rd
    obtain ⟨xs, vs, _, _, e, _⟩ := onL_inv rg h
    exact .inl ⟨by unfold Bm.T; rw [q], vs, .of e⟩
  · rename_i q
    cases rint rd
    show f.T = "int"
    unfold Bm.T; rw [q]
  · exact h.elim
end
end DL
namespace DL
open PySem PySem.Spec PyProof.Rows L2
/-! calls of methods, whatever the object's class -/
section
variable {prog : Program} {w : World} {A : Around} {E : Value → Shared → Prop} {env : Env} {s : Shared}
theorem call_method {o : Expr} {name : Str} {apos pos : Pos} {args : List Expr} {Q : Value → Shared → Prop}
    (hbase : attributeBase o name env (eval o env) = eval o env)
    (hfew : ((backTo pos (starEach args env)).all (fun x => !x.1) && (backToKw pos (keywordEach [] env)).all (fun x => x.1.isSome)
      && decide (args.length + ([] : List Keyword).length + (if ([] : List Keyword).isEmpty then 0 else 1) < 30)) = true)
    (hline : (apos.endLine == pos.line) = true)
    (h : wpAny (model prog w) A (eval o env) (fun ov s₁ => ∀ pl : Sem Bool, wpAny (model prog w) A (getMethod ov name pl) (fun fx s₂ => wpAny (model prog w) A (callWith pos fx.1 fx.2 (backTo pos (starEach args env)) (backToKw pos (keywordEach [] env))) Q E s₂) E s₁) E s) :
    wpAny (model prog w) A (eval (.Call (.Attribute o name apos) args [] pos) env) Q E s := by
  rw [arm_eval_Call, hbase]
  refine wpAny_bind (wpAny_mono h (fun ov s₁ h₁ => ?_) fun _ _ e => e)
  refine wpAny_bind (wpAny_standAt ?_)
  have hform : methodCallForm (args.length + ([] : List Keyword).length) (backTo pos (starEach args env)) (backToKw pos (keywordEach [] env)) = true := hfew
  have hpos : methodCallPos true o env apos pos = pure pos := by unfold methodCallPos; simp [hline]
  unfold methodCall
  rw [hform]
  refine wpAny_bind (wpAny_holding (wpAny_mono (h₁ (do return (← importBound o env).getD true)) (fun fx s₂ h₂ => ?_) fun _ _ e => e))
  exact wpAny_bind (wpAny_of_eq hpos h₂)
end
/-- the def at f, run on these -/
def RunF (X : Cx) (f : Addr) (vs : List V) (H : Hp) (Q : VK) : Prop :=
  ∃ (fd : FuncData) (ps : List Str) (k : Nat) (sp : Sp) (dvs : List V) (ds : List Value), FnOk X.prog X.w X.K X.mg X.base CX0 k f fd ps sp ∧ Room k X.A ∧ Binds X.K fd ps ds ∧ Vals dvs ds ∧ sp (vs ++ dvs) H Q E0
section
variable {X : Cx} {o e : Expr} {es : List Expr} {ta : TE} {t : TA} {m : Str} {apos pos p : Pos}
theorem pe_methV (he : PE X o ta) (ha : PA X (e :: es) t) (hbase : attributeBase o m X.env (eval o X.env) = eval o X.env)
    (hfew : ((backTo pos (starEach (e :: es) X.env)).all (fun x => !x.1) && (backToKw pos (keywordEach [] X.env)).all (fun x => x.1.isSome)
      && decide ((e :: es).length + ([] : List Keyword).length + (if ([] : List Keyword).isEmpty then 0 else 1) < 30)) = true)
    (hline : (apos.endLine == pos.line) = true) (hst : starEach (e :: es) X.env = (false, eval e X.env) :: starEach es X.env) (hpl : (backTo pos (starEach es X.env)).any (·.1) = false) :
    PE X (.Call (.Attribute o m apos) (e :: es) [] pos) (fun σ H Q => ta σ H fun x H1 => ∃ (a C dx : Addr) (fs : List (Str × V)) (f : Addr), x = .ref a ∧ H1 a = some (.ins C dx fs) ∧ fs.lookup m = none ∧ Cls X.K C ∧ Meth X.K C m f ∧
      t σ H1 fun vs H2 => RunF X f (.ref a :: vs) H2 Q) := by
  refine ⟨fun pins s σ H Q I h => ?_⟩
  refine call_method hbase hfew hline (thn (he.run pins s σ H _ I h) fun u s1 ⟨x, H1, I1, rx, a, C, dx, fs, f, ex, ea, l, c, hm, q⟩ pl => ?_)
  subst ex
  obtain rfl : u = Value.ref a := rx
  refine getmeth_ok I1 ea c hm l ?_
  refine PySem.W.callWith_K (first := [.ref a]) (h₀ := X.base) I.ok.mod.kin hm.kp (thn (ha.run pos pins s1 σ H1 _ I1 q) fun us s2 ⟨vs, H2, I2, r, q2⟩ => ⟨I2.kIn, ?_⟩) hst hpl
  obtain ⟨fd, ps, k, sp, dvs, ds, F, hr, hb, hd, q3⟩ := q2
  exact run_fn (us := .ref a :: us) (vs := .ref a :: vs) F hr hb hd pass0 I2 (.cons rfl r) q3
theorem pe_methV0 (he : PE X o ta) (hbase : attributeBase o m X.env (eval o X.env) = eval o X.env) (hline : (apos.endLine == pos.line) = true) :
    PE X (.Call (.Attribute o m apos) [] [] pos) (fun σ H Q => ta σ H fun x H1 => ∃ (a C dx : Addr) (fs : List (Str × V)) (f : Addr), x = .ref a ∧ H1 a = some (.ins C dx fs) ∧ fs.lookup m = none ∧ Cls X.K C ∧ Meth X.K C m f ∧ RunF X f [.ref a] H1 Q) := by
  refine ⟨fun pins s σ H Q I h => ?_⟩
  refine call_method hbase rfl hline (thn (he.run pins s σ H _ I h) fun u s1 ⟨x, H1, I1, rx, a, C, dx, fs, f, ex, ea, l, c, hm, q⟩ pl => ?_)
  subst ex
  obtain rfl : u = Value.ref a := rx
  refine getmeth_ok I1 ea c hm l ?_
  obtain ⟨fd, ps, k, sp, dvs, ds, F, hr, hb, hd, q3⟩ := q
  exact PySem.W.callWith_K0 (first := [.ref a]) I1.kIn hm.kp (run_fn (us := [.ref a]) (vs := [.ref a]) F hr hb hd pass0 I1 (.cons rfl .nil) q3)
/-- a def read off a class -/
structure CFn (K : PySem.W.Frag) (C : Addr) (m : Str) (f : Addr) : Prop where
  rd : ∃ mc, PySem.W.readsIn K C mc = true ∧ PySem.W.findCls K (.ref C) mc m = some (.val (.ref f))
  ga : PySem.W.specialIn K (.ref C) "__getattribute__" = some (some (.builtin "type.__getattribute__"))
  kp : PySem.W.keepIn K (.ref f) = true
/-- C.m(e, ..), C a class -/
theorem pe_clsfn {x : Str} {C f : Addr} (hg : Gl X x) (hm : X.mg x = some (.ref C)) (hdb : (x == ("__debug__" : Str)) = false) (c : CFn X.K C m f) (ha : PA X (e :: es) t)
    (hfew : ((backTo pos (starEach (e :: es) X.env)).all (fun x => !x.1) && (backToKw pos (keywordEach [] X.env)).all (fun x => x.1.isSome)
      && decide ((e :: es).length + ([] : List Keyword).length + (if ([] : List Keyword).isEmpty then 0 else 1) < 30)) = true)
    (hline : (apos.endLine == pos.line) = true) (hst : starEach (e :: es) X.env = (false, eval e X.env) :: starEach es X.env) (hpl : (backTo pos (starEach es X.env)).any (·.1) = false) :
    PE X (.Call (.Attribute (.Name x p) m apos) (e :: es) [] pos) (fun σ H Q => t σ H fun vs H2 => RunF X f vs H2 Q) := by
  refine ⟨fun pins s σ H Q I h => ?_⟩
  refine call_method rfl hfew hline (ld_glob I hg hm ?_ hdb)
  intro pl
  obtain ⟨mc, h1, h2⟩ := c.rd
  refine PySem.W.method_cls I.kIn c.ga (PySem.W.cls_value I.kIn h1 h2 rfl ?_)
  have I1 : Inv X pins σ H { s with toks := s.toks + 1 } := I.tok _
  refine PySem.W.callWith_K (first := []) (h₀ := X.base) I.ok.mod.kin c.kp (thn (ha.run pos pins _ σ H _ I1 h) fun us s2 ⟨vs, H2, I2, r, q2⟩ => ⟨I2.kIn, ?_⟩) hst hpl
  obtain ⟨fd, ps, k, sp, dvs, ds, F, hr, hb, hd, q3⟩ := q2
  exact run_fn (us := us) (vs := vs) F hr hb hd pass0 I2 r q3
end
end DL
namespace DL
open PySem PySem.Spec PyProof.Rows L2
/-! ### looking at the text -/
structure Ck where
  N : List Str
  fn : List Str := []
  con : List Str := []
  dic : List Str := []
  mth : List Str := []
  mks : List Str := []
  icl : List Str := []
  bn : List Str := []
  xfn : List Str := []
  xmk : List Str := []
  /-- classes of exceptions that are named; that are raised -/
  exs : List Nat := []
  exr : List Nat := []
  /-- nothing may be raised here; an exception is being handled -/
  nx : Bool := false
  hot : Bool := false
  /-- no try around: what is let out leaves the def -/
  fx : Bool := false
  /-- defs over two marks -/
  mrk : List Str := []
  /-- dicts with keys of two levels -/
  nst : Bool := false
def Ck.suite (C : Ck) : Ck := { N := C.N, bn := C.bn, exs := C.exs, nx := true, hot := true }
def Ck.quiet (C : Ck) : Ck := { C with nx := true, fx := false }
def Ck.inTry (C : Ck) : Ck := { C with fx := false }
def visB (sc : Scope) (x : Str) : Bool := match sc.names.lookup x with
  | some .local => true | some .cell => true | some .free => true | _ => false
def locB (sc : Scope) (x : Str) : Bool := match sc.names.lookup x with
  | some .local => true | some .cell => true | _ => false
def glbB (sc : Scope) (x : Str) : Bool := match sc.names.lookup x with
  | some .globalImplicit => true | _ => false
def isLoc (sc : Scope) (x : Str) : Bool := match sc.names.lookup x with
  | some .local => true | _ => false
def isCell (sc : Scope) (x : Str) : Bool := match sc.names.lookup x with
  | some .cell => true | _ => false
def nmB (x : Str) : Bool := !(x == "__debug__") && !(x == "__classdict__")
def starless : Expr → Bool | .Starred .. => false | _ => true
def setless : Expr → Bool | .Set .. => false | _ => true
def sliceless : Expr → Bool | .Slice .. => false | _ => true
def compless : Expr → Bool | .ListComp .. => false | .SetComp .. => false | .DictComp .. => false | _ => true
def tupless : Expr → Bool | .Tuple .. => false | _ => true
def call0less : Expr → Bool | .Call (.Name _ _) [] [] _ => false | _ => true
def plainTest : Expr → Bool
  | .UnaryOp .. => false | .BoolOp .. => false | .IfExp .. => false | .Compare .. => false | _ => true
def chkTg1 (N : List Str) (sc : Scope) (i : Nat) : Expr → Bool
  | .Name x _ => decide (N[i]? = some x) && locB sc x
  | _ => false
def chkTgs (N : List Str) (sc : Scope) : List Nat → List Expr → Bool
  | [], [] => true
  | i :: is, e :: es => chkTg1 N sc i e && chkTgs N sc is es
  | _, _ => false
def chkTg (N : List Str) (sc : Scope) : Tg → Expr → Bool
  | .nm i, e => chkTg1 N sc i e
  | .tup is, .Tuple es _ _ => chkTgs N sc is es
  | _, _ => false
def chkX (C : Ck) (sc : Scope) (k : Nat) : Expr → Bool
  | .Name cn _ => decide (exNames[k]? = some cn) && decide (k ∈ C.exs) && glbB sc cn && nmB cn
  | _ => false
def chkXs (C : Ck) (sc : Scope) : List Nat → List Expr → Bool
  | [], [] => true
  | k :: ks, e :: es => chkX C sc k e && chkXs C sc ks es
  | _, _ => false
mutual
def chkE (C : Ck) : E → Scope → Expr → Bool
  | .v i, sc, py => match py with
    | .Name x _ => decide (C.N[i]? = some x) && visB sc x && nmB x
    | _ => false
  | .i n, _, py => match py with
    | .Constant (.int m) _ _ => decide (n = m)
    | _ => false
  | .b n, _, py => match py with
    | .Constant (.bool m) _ _ => n == m
    | _ => false
  | .s n, _, py => match py with
    | .Constant (.str m) _ _ => decide (n = m)
    | _ => false
  | .non, _, py => match py with
    | .Constant .none _ _ => true
    | _ => false
  | .con k, sc, py => match py with
    | .Name x _ => decide (C.con[k]? = some x) && glbB sc x && nmB x
    | _ => false
  | .bin o x y, sc, py => match py with
    | .BinOp a o' b _ => decide (o = o') && chkE C x sc a && chkE C y sc b
    | _ => false
  | .neg x, sc, py => match py with
    | .UnaryOp .USub a _ => chkE C x sc a
    | _ => false
  | .cmp o x y, sc, py => match py with
    | .Compare a [o'] [b] _ => decide (o = o') && setless b && chkE C x sc a && chkE C y sc b
    | _ => false
  | .cmp2 o p x y z, sc, py => match py with
    | .Compare a [o', p'] [b, c] _ => decide (o = o') && decide (p = p') && setless c && chkE C x sc a && chkE C y sc b && chkE C z sc c
    | _ => false
  | .bop o xs, sc, py => match py with
    | .BoolOp o' es _ => decide (o = o') && chkEs C xs sc es
    | _ => false
  | .not x, sc, py => match py with
    | .UnaryOp .Not a _ => chkE C x sc a
    | _ => false
  | .ite c x y, sc, py => match py with
    | .IfExp t a b _ => chkT C c sc t && chkE C x sc a && chkE C y sc b
    | _ => false
  | .tup xs, sc, py => match py with
    | .Tuple es _ _ => chkEs C xs sc es
    | _ => false
  | .lst xs, sc, py => match py with
    | .List es _ => chkEs C xs sc es
    | _ => false
  | .ix x y, sc, py => match py with
    | .Subscript a b _ => sliceless b && chkE C x sc a && chkE C y sc b
    | _ => false
  | .sl x lo hi, sc, py => match py with
    | .Subscript a (.Slice l h none _) _ => chkE C x sc a && chkEo C lo sc l && chkEo C hi sc h
    | _ => false
  | .rv x, sc, py => match py with
    | .Subscript a (.Slice none none (some (.UnaryOp .USub (.Constant (.int m) _ _) _)) _) _ => decide (m = 1) && chkE C x sc a
    | _ => false
  | .call f xs, sc, py => match py with
    | .Call (.Name x _) es [] _ => decide (C.fn[f]? = some x) && glbB sc x && nmB x && !es.isEmpty && chkEs C xs sc es
    | _ => false
  | .callx f xs, sc, py => match py with
    | .Call (.Name x _) es [] _ => !C.nx && decide (C.xfn[f]? = some x) && glbB sc x && nmB x && !es.isEmpty && chkEs C xs sc es
    | _ => false
  | .mkx c xs, sc, py => match py with
    | .Call (.Name x _) es [] _ => C.fx && decide (C.xmk[c]? = some x) && glbB sc x && nmB x && !es.isEmpty && chkEs C xs sc es
    | _ => false
  | .isx x k, sc, py => match py with
    | .Call (.Name n _) [a, c] [] _ => decide (n = "isinstance") && decide (n ∈ C.bn) && glbB sc n && starless a && chkX C sc k c && chkE C x sc a
    | _ => false
  | .ist x ks, sc, py => match py with
    | .Call (.Name n _) [a, .Tuple es _ _] [] _ => decide (n = "isinstance") && decide (n ∈ C.bn) && glbB sc n && starless a && decide (ks.length ≤ 1000) && chkXs C sc ks es && chkE C x sc a
    | _ => false
  | .bi f xs, sc, py => match py with
    | .Call (.Name x _) es [] _ => !C.hot && decide (f.nm = x) && decide (x ∈ C.bn) && glbB sc x && !es.isEmpty && chkEs C xs sc es
    | _ => false
  | .isi x t, sc, py => match py with
    | .Call (.Name n _) [a, .Name tn _] [] _ => decide (n = "isinstance") && decide (n ∈ C.bn) && glbB sc n && decide (t.nm = tn) && decide (tn ∈ C.bn) && glbB sc tn && starless a && chkE C x sc a
    | _ => false
  | .isc x k, sc, py => match py with
    | .Call (.Name n _) [a, .Name cn _] [] _ => decide (n = "isinstance") && decide (n ∈ C.bn) && glbB sc n && decide (C.icl[k]? = some cn) && glbB sc cn && nmB cn && starless a && chkE C x sc a
    | _ => false
  | .bm f x xs, sc, py => match py with
    | .Call (.Attribute o m apos) es [] cpos => decide (f.nm = m) && call0less o && (apos.endLine == cpos.line) && decide (es.length < 30) && chkE C x sc o && chkEs C xs sc es
    | _ => false
  | .fld x f, sc, py => match py with
    | .Attribute a name _ => decide (f.nm = name) && call0less a && chkE C x sc a
    | _ => false
  | .om k x xs, sc, py => match py with
    | .Call (.Attribute o m apos) es [] cpos => decide (C.mth[k]? = some m) && call0less o && (apos.endLine == cpos.line) && decide (es.length < 30) && chkE C x sc o && chkEs C xs sc es
    | _ => false
  | .mk c xs, sc, py => match py with
    | .Call (.Name x _) es [] _ => decide (C.mks[c]? = some x) && glbB sc x && nmB x && !es.isEmpty && chkEs C xs sc es
    | _ => false
  | .ini c xs, sc, py => match py with
    | .Call (.Attribute (.Name x _) m apos) es [] cpos => decide (C.mks[c]? = some x) && decide (m = "__init__") && glbB sc x && nmB x && (apos.endLine == cpos.line) && decide (es.length < 30) && !es.isEmpty && chkEs C xs sc es
    | _ => false
  | .dat k x, sc, py => match py with
    | .Subscript (.Name y _) b _ => decide (C.dic[k]? = some y) && glbB sc y && nmB y && sliceless b && chkE C x sc b
    | _ => false
  | .dgt k x y, sc, py => match py with
    | .Call (.Attribute (.Name z _) m apos) [a, b] [] cpos => decide (m = "get") && decide (C.dic[k]? = some z) && glbB sc z && nmB z && (apos.endLine == cpos.line) && starless a && starless b && chkE C x sc a && chkE C y sc b
    | _ => false
  | .ddn, _, py => match py with
    | .Dict [] [] _ => true
    | _ => false
  | .ddg x y z, sc, py => match py with
    | .Call (.Attribute o m apos) [a, b] [] cpos => decide (m = "get") && call0less o && (apos.endLine == cpos.line) && starless a && starless b && chkE C x sc o && chkE C y sc a && chkE C z sc b
    | _ => false
  | .ddx x y, sc, py => match py with
    | .Subscript a b _ => sliceless b && chkE C x sc a && chkE C y sc b
    | _ => false
  | .dds x, sc, py => match py with
    | .Call (.Name n _) [a] [] _ => !C.hot && decide (n = "sorted") && decide (n ∈ C.bn) && glbB sc n && starless a && chkE C x sc a
    | _ => false
  | .fmt x, sc, py => match py with
    | .FormattedValue a m none _ => decide (m = -1) && chkE C x sc a
    | _ => false
  | .nn, _, py => match py with
    | .Dict [] [] _ => C.nst
    | _ => false
  | .ng x y z, sc, py => match py with
    | .Call (.Attribute o m apos) [a, b] [] cpos => C.nst && decide (m = "get") && call0less o && (apos.endLine == cpos.line) && starless a && starless b && chkE C x sc o && chkE C y sc a && chkE C z sc b
    | _ => false
  | .nx x y, sc, py => match py with
    | .Subscript a b _ => C.nst && sliceless b && chkE C x sc a && chkE C y sc b
    | _ => false
  | .mrk x y i, sc, py => match x, y, i, py with
    | .v a, .v b, .v k, .Call (.Name f _) [.Subscript (.Name x _) (.BinOp (.Name i _) .Add (.Constant (.int o) _ _) _) _, .Subscript (.Name y _) (.BinOp (.Name j _) .Add (.Constant (.int p) _ _) _) _] [] _ =>
      C.mrk.contains f && glbB sc f && nmB f && decide (C.N[a]? = some x) && visB sc x && nmB x && decide (C.N[b]? = some y) && visB sc y && nmB y && decide (C.N[k]? = some i) && visB sc i && nmB i && decide (j = i) && decide (o = 1) && decide (p = 1)
    | _, _, _, _ => false
  | .fst xs, sc, py => match py with
    | .JoinedStr es _ => decide (2 ≤ es.length) && chkFs C xs sc es
    | _ => false
  | .lc it tg c x own, sc, py => match py with
    | .ListComp elt [⟨t, iter, ifs, z⟩] scope _ => !C.hot && decide (z = 0) && blkC C.N sc scope own && setless iter && (slots tg).all (fun i => decide (i ∈ own.map (·.2))) && chkIt C it sc iter t && chkTg C.N scope tg t && chkTo C.quiet c scope ifs && chkE C.quiet x scope elt
    | _ => false
def chkEs (C : Ck) : Es → Scope → List Expr → Bool
  | .nil, _, es => match es with
    | [] => true
    | _ => false
  | .cons x xs, sc, es => match es with
    | e :: es => starless e && chkE C x sc e && chkEs C xs sc es
    | _ => false
def chkFs (C : Ck) : Es → Scope → List Expr → Bool
  | .nil, _, es => match es with
    | [] => true
    | _ => false
  | .cons x xs, sc, es => match es with
    | e :: es => chkE C x sc e && chkFs C xs sc es
    | _ => false
def chkEo (C : Ck) : Eo → Scope → Option Expr → Bool
  | .none, _, e => match e with
    | none => true
    | _ => false
  | .some x, sc, e => match e with
    | some e => chkE C x sc e
    | _ => false
def chkT (C : Ck) : T → Scope → Expr → Bool
  | .e x, sc, py => plainTest py && chkE C x sc py
  | .nne x y, sc, py => match py with
    | .Compare a [.NotEq] [b] _ => C.nst && setless b && chkE C x sc a && chkE C y sc b
    | _ => false
  | .dic neg k x, sc, py => match py with
    | .Compare a [o'] [.Name y _] _ => decide (o' = if neg then .NotIn else .In) && decide (C.dic[k]? = some y) && glbB sc y && nmB y && chkE C x sc a
    | _ => false
  | .cmp o x y, sc, py => match py with
    | .Compare a [o'] [b] _ => decide (o = o') && setless b && chkE C x sc a && chkE C y sc b
    | _ => false
  | .cmp2 o p x y z, sc, py => match py with
    | .Compare a [o', p'] [b, c] _ => decide (o = o') && decide (p = p') && setless c && chkE C x sc a && chkE C y sc b && chkE C z sc c
    | _ => false
  | .not t, sc, py => match py with
    | .UnaryOp .Not a _ => chkT C t sc a
    | _ => false
  | .bop o ts, sc, py => match py with
    | .BoolOp o' es _ => decide (o = o') && chkTs C ts sc es
    | _ => false
def chkTs (C : Ck) : Ts → Scope → List Expr → Bool
  | .nil, _, es => match es with
    | [] => true
    | _ => false
  | .cons x xs, sc, es => match es with
    | e :: es => chkT C x sc e && chkTs C xs sc es
    | _ => false
def chkTo (C : Ck) : To → Scope → List Expr → Bool
  | .none, _, es => match es with
    | [] => true
    | _ => false
  | .some t, sc, es => match es with
    | [e] => chkT C t sc e
    | _ => false
/-- t: the target, which enumerate and zip want as a tuple -/
def chkIt (C : Ck) : It → Scope → Expr → Expr → Bool
  | .seq x, sc, py, _ => chkE C x sc py
  | .rng1 x, sc, py, _ => match py with
    | .Call (.Name n _) [a] [] _ => decide (n = "range") && decide (n ∈ C.bn) && glbB sc n && starless a && chkE C x sc a
    | _ => false
  | .rng2 x y, sc, py, _ => match py with
    | .Call (.Name n _) [a, b] [] _ => decide (n = "range") && decide (n ∈ C.bn) && glbB sc n && starless a && starless b && chkE C x sc a && chkE C y sc b
    | _ => false
  | .rng3 x y z, sc, py, _ => match py with
    | .Call (.Name n _) [a, b, c] [] _ => decide (n = "range") && decide (n ∈ C.bn) && glbB sc n && starless a && starless b && starless c && chkE C x sc a && chkE C y sc b && chkE C z sc c
    | _ => false
  | .enum x, sc, py, t => match py with
    | .Call (.Name n _) [a] [] _ => decide (n = "enumerate") && decide (n ∈ C.bn) && glbB sc n && starless a && !tupless t && chkE C x sc a
    | _ => false
  | .zip x y, sc, py, t => match py with
    | .Call (.Name n _) [a, b] [] _ => decide (n = "zip") && decide (n ∈ C.bn) && glbB sc n && starless a && starless b && !tupless t && chkE C x sc a && chkE C y sc b
    | _ => false
  | .nk x, sc, py, _ => C.nst && chkE C x sc py
  | .rev x, sc, py, _ => match py with
    | .Call (.Name n _) [a] [] _ => decide (n = "reversed") && decide (n ∈ C.bn) && glbB sc n && starless a && chkE C x sc a
    | _ => false
end
/-- a comprehension stored at a local name of the line -/
def lcStore (sc : Scope) (y : Str) (p : Pos) : Expr → Bool
  | .ListComp _ _ scope pos => isLoc sc y && (p.line == pos.line) && !(scope.names.any fun (n, k) => n == y && (k == .local || k == .cell))
  | _ => false
def chkNm (N : List Str) (sc : Scope) : Option Nat → Option Str → Bool
  | none, none => true
  | some i, some n => decide (N[i]? = some n) && isLoc sc n
  | _, _ => false
mutual
def chkS (C : Ck) (sc : Scope) : S → Stmt → Bool
  | .asg t x, py => match py with
    | .Assign [tg] value _ => chkTg C.N sc t tg && chkE C x sc value && (match tg with
      | .Name y p => compless value || isCell sc y || lcStore sc y p value
      | _ => !C.hot && tupless value)
    | _ => false
  | .unl is x, py => match py with
    | .Assign [.Tuple es _ _] value _ => !C.hot && chkTgs C.N sc is es && chkE C x sc value && tupless value
    | _ => false
  | .par i j x y, py => match py with
    | .Assign [.Tuple [.Name a pa, .Name b pb] _ _] (.Tuple [e, f] _ _) _ => !C.hot && decide (C.N[i]? = some a) && decide (C.N[j]? = some b) && !decide (i = j) && !decide (a = b) && isLoc sc a && isLoc sc b && (pa.line == pb.line) &&
        starless e && starless f && !([e, f].all (foldedForSure 8)) && !([e, f].all (constantsAlone 8)) && chkE C x sc e && chkE C y sc f
    | _ => false
  | .aug i o x, py => match py with
    | .AugAssign (.Name y _) o' value _ => decide (C.N[i]? = some y) && locB sc y && decide (o = o') && chkE C x sc value
    | _ => false
  | .set o i x, py => match py with
    | .Assign [.Subscript a b _] value _ => chkE C x sc value && chkE C o sc a && chkE C i sc b && sliceless b
    | _ => false
  | .dst o i x, py => match py with
    | .Assign [.Subscript a b _] value _ => chkE C x sc value && chkE C o sc a && chkE C i sc b && sliceless b
    | _ => false
  | .nst o i x, py => match py with
    | .Assign [.Subscript a b _] value _ => C.nst && chkE C x sc value && chkE C o sc a && chkE C i sc b && sliceless b
    | _ => false
  | .fset o f x, py => match py with
    | .Assign [.Attribute a name _] value _ => decide (f.nm = name) && chkE C x sc value && chkE C o sc a
    | _ => false
  | .ex x, py => match py with
    | .Expr value _ => chkE C x sc value && compless value
    | _ => false
  | .ret x, py => match py with
    | .Return (some e) _ => chkE C x sc e
    | _ => false
  | .retN, py => match py with
    | .Return none _ => true
    | _ => false
  | .ite c s t, py => match py with
    | .If a b d _ => chkT C c sc a && chkB C sc s b && chkB C sc t d
    | _ => false
  | .loop t it b, py => match py with
    | .For tg iter body [] _ => !C.hot && chkTg C.N sc t tg && setless iter && chkIt C it sc iter tg && chkB C sc b body
    | _ => false
  | .loopU is it b, py => match py with
    | .For (.Tuple es k p) iter body [] _ => !C.hot && chkTgs C.N sc is es && setless iter && chkIt C it sc iter (.Tuple es k p) && chkB C sc b body
    | _ => false
  | .whl c b, py => match py with
    | .While a body [] _ => chkT C c sc a && chkB C sc b body
    | _ => false
  | .cont, py => match py with
    | .Continue _ => true
    | _ => false
  | .never, _ => true
  | .rai k, py => match py with
    | .Raise (some (.Call (.Name x _) [.Constant (.str _) _ _] [] _)) none _ => !C.nx && !C.hot && decide (exNames[k]? = some x) && decide (k ∈ C.exr) && glbB sc x && nmB x
    | _ => false
  | .tri b hs, py => match py with
    | .Try body (h :: hds) [] [] _ => !C.nx && !C.hot && chkB C.inTry sc b body && chkHd C sc hs (h :: hds)
    | _ => false
def chkB (C : Ck) (sc : Scope) : B → List Stmt → Bool
  | .nil, py => match py with
    | [] => true
    | _ => false
  | .cons s b, py => match py with
    | st :: r => chkS C sc s st && chkB C sc b r
    | _ => false
def chkHd (C : Ck) (sc : Scope) : Hd → List ExceptHandler → Bool
  | .nil, py => match py with
    | [] => true
    | _ => false
  | .cons k i b r, py => match py with
    | .ExceptHandler (some (.Name x p)) on (st :: sts) _ :: hds => chkX C sc k (.Name x p) && chkNm C.N sc i on && chkB C.suite sc b (st :: sts) && chkHd C sc r hds
    | _ => false
end
/-! ### what a body's surroundings give -/
def toSp (W : Wd) (m : SpD) : Sp := fun vs H Q _ => ∃ ds G, RelDs W.K H ds vs ∧ RelG (W.at H) H G ∧ m ds G (Ct (W.at H) H Q)
def CtX (W : Wd) (H : Hp) (E : XK) : X1 := fun k G' => ∀ H', TLe H H' → RelG W H' G' → k ∈ W.exr → E (.ref (W.exc k)) none H'
def toSpX (W : Wd) (m : XSpD) : Sp := fun vs H Q E => ∃ ds G, RelDs W.K H ds vs ∧ RelG (W.at H) H G ∧ m ds G (Ct (W.at H) H Q) (CtX (W.at H) H E)
/-- a callee that may raise -/
structure FnXX (P : Program) (w : World) (K : PySem.W.Frag) (mg : Str → Option Value) (base : Heap) (A : Around) (W : Wd) (m : XSpD) (x : Str) : Prop where
  ex : ∃ (f : Addr) (fd : FuncData) (ps : List Str) (k : Nat), FnOk P w K mg base (L2.CX P w) k f fd ps (toSpX W m) ∧ Room k A ∧ mg x = some (.ref f) ∧ PySem.W.keepIn K (.ref f) = true ∧ Binds K fd ps []
/-- the value of a class of exceptions -/
def cvX (W : Wd) (k : Nat) : Value := if k = 11 then .type "ValueError" else .ref (W.exc k)
def cvV (W : Wd) (k : Nat) : V := if k = 11 then .ty "ValueError" else .ref (W.exc k)
/-- what is known of the classes of exceptions -/
structure ExG (K : PySem.W.Frag) (mg : Str → Option Value) (W : Wd) (exs : List Nat) : Prop where
  nm : ∀ k ∈ exs, ∀ x, exNames[k]? = some x → (k = 11 → mg x = none) ∧ (k ≠ 11 → mg x = some (.ref (W.exc k)))
  no : ∀ k ∈ exs, PySem.W.kitOne K (.type "NoneType") (cvX W k) = some false
  is : ∀ j ∈ W.exr, ∀ k ∈ exs, PySem.W.kitOne K (.ref (W.exc j)) (cvX W k) = some (subx j k) ∧ PySem.W.exmOne K (.ref (W.exc j)) (cvX W k) = some (subx j k)
  ec : ∀ j ∈ W.exr, ExcC K (W.exc j)
  mkr : ∀ j ∈ W.exr, PySem.W.excIn K (W.exc j) HandSPX.veTail "ValueError.__new__" = true ∧ PySem.W.keepIn K (.ref (W.exc j)) = true ∧ PySem.W.subIn K (.ref (W.exc j)) (.type "BaseException") = some true ∧
    PySem.W.typeIn K (.ref (W.exc j)) = some (.type "type") ∧ ∀ x, exNames[j]? = some x → mg x = some (.ref (W.exc j))
theorem ExG.nil {K : PySem.W.Frag} {mg : Str → Option Value} {W : Wd} (h : W.exr = []) : ExG K mg W [] :=
  { nm := fun _ h => (nomatch h), no := fun _ h => (nomatch h), is := fun j hj => absurd hj (by rw [h]; exact List.not_mem_nil), ec := fun j hj => absurd hj (by rw [h]; exact List.not_mem_nil), mkr := fun j hj => absurd hj (by rw [h]; exact List.not_mem_nil) }
/-- what is let out here, and that it is taken -/
structure XOk (X : Cx) (W : Wd) (Γ : Gam) : Prop where
  hex : X.ex = []
  hs : X.stack = X.env :: X.outer
  hf : X.env.frame = some X.env.locals
  tk : ∃ Wo : WX, Takes X Wo ∧ ∀ (j : Nat) (σ : L2.St) (H : Hp) (env : Ev) (G : Gp), j ∈ W.exr → RelSt W.K H env σ → RelG W H G → Γ.xc j env G → Wo (.ref (W.exc j)) none σ H
structure FnX (P : Program) (w : World) (K : PySem.W.Frag) (mg : Str → Option Value) (base : Heap) (A : Around) (W : Wd) (m : SpD) (x : Str) : Prop where
  ex : ∃ (f : Addr) (fd : FuncData) (ps : List Str) (k : Nat) (sp : SpD) (dds : List D) (dvs : List V) (ds : List Value),
    FnOk P w K mg base CX0 k f fd ps (toSp W sp) ∧ Room k A ∧ mg x = some (.ref f) ∧ PySem.W.keepIn K (.ref f) = true ∧ Binds K fd ps ds ∧ Vals dvs ds ∧
      (∀ H, RelDs W.K H dds dvs) ∧ ∀ as G Q, m as G Q → sp (as ++ dds) G Q
def SRel (X : Cx) (sc : Scope) : Prop := ∀ x k, sc.names.lookup x = some k → X.env.scope.names.lookup x = some k ∨ (k = .free ∧ X.env.scope.names.lookup x = some .cell)
/-- a method of class c, called so: what it means -/
structure MthX (P : Program) (w : World) (K : PySem.W.Frag) (mg : Str → Option Value) (base : Heap) (A : Around) (W : Wd) (c : Nat) (m : Str) (sp : SpD) : Prop where
  ex : ∃ (f : Addr) (fd : FuncData) (ps : List Str) (k : Nat) (sp' : SpD) (dds : List D) (dvs : List V) (ds : List Value),
    Cls K (W.cls c) ∧ Meth K (W.cls c) m f ∧ FnOk P w K mg base CX0 k f fd ps (toSp W sp') ∧ Room k A ∧ Binds K fd ps ds ∧ Vals dvs ds ∧ (∀ H, RelDs W.K H dds dvs) ∧ ∀ as G Q, sp as G Q → sp' (as ++ dds) G Q
/-- a class that is called, or whose __init__ is -/
structure MksX (P : Program) (w : World) (K : PySem.W.Frag) (mg : Str → Option Value) (base : Heap) (A : Around) (W : Wd) (x : Str) (c : Nat) (sp : SpD) : Prop where
  ex : ∃ (f : Addr) (fd : FuncData) (ps : List Str) (k : Nat) (sp' : SpD) (dds : List D) (dvs : List V) (ds : List Value),
    mg x = some (.ref (W.cls c)) ∧ Mk K (W.cls c) f ∧ CFn K (W.cls c) "__init__" f ∧ FnOk P w K mg base CX0 k f fd ps (toSp W sp') ∧ Room (k + 1) A ∧ Binds K fd ps ds ∧ Vals dvs ds ∧ (∀ H, RelDs W.K H dds dvs) ∧ ∀ as G Q, sp as G Q → sp' (as ++ dds) G Q
structure MksXX (P : Program) (w : World) (K : PySem.W.Frag) (mg : Str → Option Value) (base : Heap) (A : Around) (W : Wd) (x : Str) (c : Nat) (sp : XSpD) : Prop where
  ex : ∃ (f : Addr) (fd : FuncData) (ps : List Str) (k : Nat) (dds : List D) (dvs : List V) (ds : List Value) (sp' : XSpD),
    mg x = some (.ref (W.cls c)) ∧ Mk K (W.cls c) f ∧ FnOk P w K mg base (L2.CX P w) k f fd ps (toSpX W sp') ∧ Room (k + 1) A ∧ Binds K fd ps ds ∧ Vals dvs ds ∧ (∀ H, RelDs W.K H dds dvs) ∧ ∀ as G Q Y, sp as G Q Y → sp' (as ++ dds) G Q Y
/-- a table of the module -/
def DicG (K : PySem.W.Frag) (w : World) (mg : Str → Option Value) (y : Str) (l : List (Str × Int)) : Prop :=
  ∃ d es n, mg y = some (.ref d) ∧ KDict K w d es n ∧ ∀ z, ∃ r, PySem.W.nsIn K d z = some r ∧ (dget l z = none → r = none) ∧ ∀ i, dget l z = some i → ∃ u, r = some u ∧ RelV (.int i) u
/-- instances of class c are of the class at Da -/
structure IsG (K : PySem.W.Frag) (W : Wd) (Da : Addr) (c : Nat) : Prop where
  is : PySem.W.kitOne K (.ref (W.cls c)) (.ref Da) = some true
  cl : Cls K (W.cls c)
  ha : PySem.W.findIn K (.ref (W.cls c)) "__class__" = some (some (.builtin "object.__class__"))
  hn : PySem.W.specialIn K (.builtin "object.__class__") "__get__" = some (some (.builtin "getset_descriptor.__get__"))
  htk : PySem.W.takesIn K (.builtin "object.__class__") = some true
  hm : PySem.W.mroIn K (W.cls c) (.type "object") = some true
structure Ok (X : Cx) (W : Wd) (Γ : Gam) (C : Ck) (sc : Scope) : Prop where
  K : X.K = W.K
  N : X.N = C.N
  nd : X.N.Nodup
  sr : SRel X sc
  fnm : ∀ x, sc.names.lookup x = some .cell → X.fn x = true
  calm : C.hot = false → X.calm = true
  xfn : ∀ (i : Nat) (x : Str), C.xfn[i]? = some x → FnXX X.prog X.w X.K X.mg X.base X.A W (Γ.xfn.getD i botX) x
  xmk : ∀ (i : Nat) (x : Str), C.xmk[i]? = some x → ∀ c sp, Γ.xmk[i]? = some (c, sp) → MksXX X.prog X.w X.K X.mg X.base X.A W x c sp
  ex : ExG X.K X.mg W C.exs
  exr : ∀ k ∈ C.exr, k ∈ W.exr
  xo : C.nx = false → XOk X W Γ
  xk : C.fx = true → ∃ Eo : XK, Takes X (fun cls d _ H => Eo cls d H) ∧ ∀ (j : Nat) (H : Hp) (env : Ev) (G : Gp), j ∈ W.exr → RelG W H G → Γ.xc j env G → Eo (.ref (W.exc j)) none H
  bn : ∀ x ∈ C.bn, X.mg x = none
  fn : ∀ (i : Nat) (x : Str), C.fn[i]? = some x → FnX X.prog X.w X.K X.mg X.base X.A W (Γ.fn.getD i botD) x
  con : ∀ (i : Nat) (x : Str) (d : D), C.con[i]? = some x → Γ.con[i]? = some d → ∃ v u, X.mg x = some u ∧ RelV v u ∧ ∀ H, RelD W.K H d v
  dic : ∀ (i : Nat) (y : Str), C.dic[i]? = some y → DicG X.K X.w X.mg y (nthL Γ.dic i)
  cl : ∀ c, c < Γ.ncl → Cls X.K (W.cls c) ∧ ∀ f : Fd, NoAttr X.K (W.cls c) f.nm
  mth : ∀ (k : Nat) (m : Str), C.mth[k]? = some m → m ∉ fdNames ∧ ∀ c sp, (Γ.mth.getD k []).lookup c = some sp → MthX X.prog X.w X.K X.mg X.base X.A W c m sp
  mks : ∀ (i : Nat) (x : Str), C.mks[i]? = some x → ∀ c sp, Γ.mks[i]? = some (c, sp) → MksX X.prog X.w X.K X.mg X.base X.A W x c sp
  isc : ∀ (k : Nat) (x : Str), C.icl[k]? = some x → ∃ Da : Addr, X.mg x = some (.ref Da) ∧ ∀ c, memN (nthN Γ.isc k) c → IsG X.K W Da c
  po : PassesOwn (model X.prog X.w) X.A X.env X.xe
  un : X.A.units + 65 < cLine
  mrk : ∀ x ∈ C.mrk, MarkX X.prog X.w X.K X.mg X.base X.A x
  hs : C.nst = true → W.hsh = nkHash X.prog X.w
section
variable {X : Cx} {W : Wd} {Γ : Gam} {C : Ck} {sc : Scope}
theorem Ok.vis (ok : Ok X W Γ C sc) {x : Str} (h : visB sc x = true) : Vis X.env.scope x := by
  unfold visB at h
  split at h
  · rename_i e; rcases ok.sr _ _ e with q | ⟨q, _⟩ <;> first | exact .inl q | cases q
  · rename_i e; rcases ok.sr _ _ e with q | ⟨q, _⟩ <;> first | exact .inr (.inl q) | cases q
  · rename_i e; rcases ok.sr _ _ e with q | ⟨_, q⟩ <;> first | exact .inr (.inr q) | exact .inr (.inl q)
  · cases h
theorem Ok.loc (ok : Ok X W Γ C sc) {x : Str} (h : locB sc x = true) : Loc X.env.scope x ∧ (X.fn x = true ∨ X.env.scope.names.lookup x = some .local) := by
  unfold locB at h
  split at h
  · rename_i e; rcases ok.sr _ _ e with q | ⟨q, _⟩ <;> first | exact ⟨.inl q, .inr q⟩ | cases q
  · rename_i e; rcases ok.sr _ _ e with q | ⟨q, _⟩ <;> first | exact ⟨.inr q, .inl (ok.fnm _ e)⟩ | cases q
  · cases h
theorem Ok.glb (ok : Ok X W Γ C sc) {x : Str} (h : glbB sc x = true) : Gl X x := by
  unfold glbB at h
  split at h
  · rename_i e; rcases ok.sr _ _ e with q | ⟨q, _⟩ <;> first | exact q | cases q
  · cases h
theorem Ok.isL (ok : Ok X W Γ C sc) {x : Str} (h : isLoc sc x = true) : X.env.scope.names.lookup x = some .local := by
  unfold DL.isLoc at h
  split at h
  · rename_i e; rcases ok.sr _ _ e with q | ⟨q, _⟩ <;> first | exact q | cases q
  · cases h
theorem Ok.isC (ok : Ok X W Γ C sc) {x : Str} (h : isCell sc x = true) : X.env.scope.names.lookup x = some .cell := by
  unfold DL.isCell at h
  split at h
  · rename_i e; rcases ok.sr _ _ e with q | ⟨q, _⟩ <;> first | exact q | cases q
  · cases h
theorem nmB_inv {x : Str} (h : nmB x = true) : (x == ("__debug__" : Str)) = false ∧ (x == ("__classdict__" : Str)) = false := by
  unfold nmB at h
  simp only [Bool.and_eq_true, Bool.not_eq_true'] at h
  exact h
theorem relabel_of {env : Env} : ∀ {names : List (Str × NameKind)} {x : Str} {k : NameKind}, names.lookup x = some k →
    (names.map fun (n, k) => if (k == NameKind.free && env.scope.kind == .function && env.kindOf n == some .cell) then (n, NameKind.cell) else (n, k)).lookup x = some k ∨
      (k = .free ∧ (names.map fun (n, k) => if (k == NameKind.free && env.scope.kind == .function && env.kindOf n == some .cell) then (n, NameKind.cell) else (n, k)).lookup x = some .cell)
  | [], _, _, h => by simp at h
  | (n, j) :: r, x, k, h => by
    rw [List.lookup_cons] at h
    rw [List.map_cons]
    by_cases c : (j == NameKind.free && env.scope.kind == .function && env.kindOf n == some .cell) = true
    · simp only [c, if_true, List.lookup_cons]
      cases e : x == n with
      | true =>
        rw [e] at h
        cases h
        refine .inr ⟨?_, rfl⟩
        simp only [Bool.and_eq_true] at c
        simpa using c.1.1
      | false => rw [e] at h; exact relabel_of h
    · simp only [c, if_false, List.lookup_cons, Bool.false_eq_true]
      cases e : x == n with
      | true => rw [e] at h; cases h; exact .inl rfl
      | false => rw [e] at h; exact relabel_of h
theorem Ok.blkOk (ok : Ok X W Γ C sc) {scope : Scope} {own : List (Str × Nat)} (h : blkC C.N sc scope own = true) : BlkOk X.N X.env.scope scope own := by
  have b := blkOk_by h
  rw [ok.N]
  refine ⟨b.kind, b.uniq, b.ix, fun y hy e => ?_, b.own⟩
  rcases b.free y hy e with q | q
  · rcases ok.sr _ _ q with z | ⟨z, _⟩
    · exact .inl z
    · cases z
  · rcases ok.sr _ _ q with z | ⟨_, z⟩
    · exact .inr z
    · exact .inl z
theorem Ok.blk (ok : Ok X W Γ C sc) (scope : Scope) (s : Shared) (H : Hp) (D : Addr) (cl : List (Str × Addr)) (fp : List Addr) : Ok (X.blk s H scope (compEnvC scope cl D X.env) fp) W Γ C.quiet scope where
  K := ok.K
  N := ok.N
  nd := ok.nd
  sr := fun x k h => relabel_of h
  fnm := fun x h => by
    show (scope.names.lookup x == some NameKind.cell) = true
    rw [h]; rfl
  calm := ok.calm
  xfn := ok.xfn
  xmk := ok.xmk
  ex := ok.ex
  exr := ok.exr
  xo := fun z => Bool.noConfusion (show true = false from z)
  xk := fun z => Bool.noConfusion (show false = true from z)
  bn := ok.bn
  fn := ok.fn
  con := ok.con
  dic := ok.dic
  cl := ok.cl
  mth := ok.mth
  mks := ok.mks
  isc := ok.isc
  po := PassesOwn.never
  un := ok.un
  mrk := ok.mrk
  hs := ok.hs
end
/-! ### weaker readings -/
section
variable {X : Cx}
theorem _root_.L2.PE.imp {e : Expr} {t u : TE} (h : PE X e t) (f : ∀ σ H Q, u σ H Q → t σ H Q) : PE X e u := ⟨fun pins s σ H Q I q => h.run pins s σ H Q I (f _ _ _ q)⟩
theorem _root_.L2.PT.imp {e : Expr} {t u : TT} (h : PT X e t) (f : ∀ σ H Q, u σ H Q → t σ H Q) : PT X e u := ⟨fun pins s σ H Q I q => h.run pins s σ H Q I (f _ _ _ q)⟩
theorem _root_.L2.PW.imp {e : Expr} {t u : TT} (h : PW X e t) (f : ∀ σ H Q, u σ H Q → t σ H Q) : PW X e u := ⟨fun wh pins s σ H Q I q => h.run wh pins s σ H Q I (f _ _ _ q)⟩
theorem _root_.L2.PTs.imp {e : List Expr} {t u : TT} (h : PTs X e t) (f : ∀ σ H Q, u σ H Q → t σ H Q) : PTs X e u := ⟨fun pins s σ H Q I q => h.run pins s σ H Q I (f _ _ _ q)⟩
theorem _root_.L2.PA.imp {e : List Expr} {t u : TA} (h : PA X e t) (f : ∀ σ H Q, u σ H Q → t σ H Q) : PA X e u := ⟨fun pos pins s σ H Q I q => h.run pos pins s σ H Q I (f _ _ _ q)⟩
theorem _root_.L2.PS.imp {e : Stmt} {t u : TS} (h : PS X e t) (f : ∀ D σ H, u D σ H → t D σ H) : PS X e u := ⟨fun pins s σ H D I q => h.run pins s σ H D I (f _ _ _ q)⟩
theorem _root_.L2.PSs.imp {e : List Stmt} {t u : TS} (h : PSs X e t) (f : ∀ D σ H, u D σ H → t D σ H) : PSs X e u := ⟨fun pins s σ H D I q => h.run pins s σ H D I (f _ _ _ q)⟩
theorem _root_.L2.PG.imp {e : Expr} {t u : TG} (h : PG X e t) (f : ∀ v σ H Q, u v σ H Q → t v σ H Q) : PG X e u := ⟨fun pins s σ H v w Q I r q => h.run pins s σ H v w Q I r (f _ _ _ _ q)⟩
theorem _root_.L2.PGs.imp {e : List Expr} {t u : TGs} (h : PGs X e t) (f : ∀ v σ H Q, u v σ H Q → t v σ H Q) : PGs X e u := ⟨fun pins s σ H v w Q I r q => h.run pins s σ H v w Q I r (f _ _ _ _ q)⟩
theorem _root_.L2.PI.imp {tg e : Expr} {t u : TI} (h : PI X tg e t) (f : ∀ σ H R, u σ H R → t σ H R) : PI X tg e u := ⟨fun pins s σ H R I q => h.run pins s σ H R I (f _ _ _ q)⟩
end
/-! ### our readings -/
def Snd (W : Wd) (m : Ev → Gp → K1 → Prop) : TE := fun σ H Q => ∃ env G, RelSt W.K H env σ ∧ RelG W H G ∧ m env G (Ct W H Q)
def SndB (W : Wd) (m : Ev → Gp → (Bool → Gp → Prop) → Prop) : TT := fun σ H Q => ∃ env G, RelSt W.K H env σ ∧ RelG W H G ∧ m env G (CtB W H Q)
def CtA (W : Wd) (H : Hp) (Q : List V → Hp → Prop) : List D → Gp → Prop := fun ds G' => ∀ vs H', TLe H H' → RelG W H' G' → RelDs W.K H' ds vs → Q vs H'
def SndA (W : Wd) (m : Ev → Gp → (List D → Gp → Prop) → Prop) : TA := fun σ H Q => ∃ env G, RelSt W.K H env σ ∧ RelG W H G ∧ m env G (CtA W H Q)
def CtO (W : Wd) (H : Hp) (Q : Option Int → Hp → Prop) : Option Int → Gp → Prop := fun o G' => ∀ H', TLe H H' → RelG W H' G' → Q o H'
def SndO (W : Wd) (m : Ev → Gp → (Option Int → Gp → Prop) → Prop) : TO := fun σ H Q => ∃ env G, RelSt W.K H env σ ∧ RelG W H G ∧ m env G (CtO W H Q)
/-- the iterator gives these items while chk holds -/
structure Srv (W : Wd) (J : L2.It) (H1 : Hp) (ds : List D) (chk : Gp → Prop) : Prop where
  stop : ∀ i H G, TLe H1 H → RelG W H G → chk G → ds.length ≤ i → J.stop i H
  go : ∀ i H G, TLe H1 H → RelG W H G → chk G → i < ds.length → J.go i H
  yld : ∀ i H G x H' d, TLe H1 H → RelG W H G → chk G → ds[i]? = some d → J.yld i H x H' → TLe H H' ∧ RelG W H' G ∧ RelD W.K H' d x
def SndI (W : Wd) (m : Ev → Gp → KI → Prop) : TI := fun σ H R => ∃ env G, RelSt W.K H env σ ∧ RelG W H G ∧ m env G fun ds chk G' => ∀ J H', TLe H H' → RelG W H' G' → Srv W J H' ds chk → R J H'
def SndG (W : Wd) (tg : Tg) : TG := fun v σ H Q => ∃ env d, RelSt W.K H env σ ∧ RelD W.K H d v ∧ setT tg d env fun env' => ∀ σ', RelSt W.K H env' σ' → σ'.length = σ.length → (∀ i, i ∉ slots tg → σ'[i]? = σ[i]?) → Q σ' H
def DnOf (W : Wd) (H : Hp) (D : Ends) : Dn where
  nx := fun env' G' => ∀ σ' H', TLe H H' → RelSt W.K H' env' σ' → RelG W H' G' → D.nx σ' H'
  rt := Ct W H D.rt
  ct := fun env' G' => ∀ σ' H', TLe H H' → RelSt W.K H' env' σ' → RelG W H' G' → D.ct σ' H'
def SndS (W : Wd) (m : Dn → Ev → Gp → Prop) : TS := fun D σ H => ∃ env G, RelSt W.K H env σ ∧ RelG W H G ∧ m (DnOf W H D) env G
end DL
namespace DL
open PySem PySem.Spec PyProof.Rows L2
section
variable {X : Cx} {W : Wd}
theorem Snd.bind {m : Ev → Gp → K1 → Prop} (mono : ∀ env G (Q Q' : K1), (∀ d G', Q d G' → Q' d G') → m env G Q → m env G Q') {σ : L2.St} {H : Hp} {env : Ev} {G : Gp} {K : K1} {R : VK}
    (rs : RelSt W.K H env σ) (rg : RelG W H G) (h : m env G K) (f : ∀ d G1 v H1, TLe H H1 → RelSt W.K H1 env σ → RelG W H1 G1 → RelD W.K H1 d v → K d G1 → R v H1) : Snd W m σ H R :=
  ⟨env, G, rs, rg, mono _ _ _ _ (fun d G1 k v H1 l rg1 rd => f d G1 v H1 l (rs.le l) rg1 rd k) h⟩
theorem SndB.bind {m : Ev → Gp → (Bool → Gp → Prop) → Prop} (mono : ∀ env G (Q Q' : Bool → Gp → Prop), (∀ d G', Q d G' → Q' d G') → m env G Q → m env G Q') {σ : L2.St} {H : Hp} {env : Ev} {G : Gp} {K : Bool → Gp → Prop} {R : Bool → Hp → Prop}
    (rs : RelSt W.K H env σ) (rg : RelG W H G) (h : m env G K) (f : ∀ d G1 H1, TLe H H1 → RelSt W.K H1 env σ → RelG W H1 G1 → K d G1 → R d H1) : SndB W m σ H R :=
  ⟨env, G, rs, rg, mono _ _ _ _ (fun d G1 k H1 l rg1 => f d G1 H1 l (rs.le l) rg1 k) h⟩
theorem SndA.bind {m : Ev → Gp → (List D → Gp → Prop) → Prop} (mono : ∀ env G (Q Q' : List D → Gp → Prop), (∀ d G', Q d G' → Q' d G') → m env G Q → m env G Q') {σ : L2.St} {H : Hp} {env : Ev} {G : Gp} {K : List D → Gp → Prop} {R : List V → Hp → Prop}
    (rs : RelSt W.K H env σ) (rg : RelG W H G) (h : m env G K) (f : ∀ ds G1 vs H1, TLe H H1 → RelSt W.K H1 env σ → RelG W H1 G1 → RelDs W.K H1 ds vs → K ds G1 → R vs H1) : SndA W m σ H R :=
  ⟨env, G, rs, rg, mono _ _ _ _ (fun d G1 k v H1 l rg1 rd => f d G1 v H1 l (rs.le l) rg1 rd k) h⟩
theorem SndO.bind {m : Ev → Gp → (Option Int → Gp → Prop) → Prop} (mono : ∀ env G (Q Q' : Option Int → Gp → Prop), (∀ d G', Q d G' → Q' d G') → m env G Q → m env G Q') {σ : L2.St} {H : Hp} {env : Ev} {G : Gp} {K : Option Int → Gp → Prop} {R : Option Int → Hp → Prop}
    (rs : RelSt W.K H env σ) (rg : RelG W H G) (h : m env G K) (f : ∀ d G1 H1, TLe H H1 → RelSt W.K H1 env σ → RelG W H1 G1 → K d G1 → R d H1) : SndO W m σ H R :=
  ⟨env, G, rs, rg, mono _ _ _ _ (fun d G1 k H1 l rg1 => f d G1 H1 l (rs.le l) rg1 k) h⟩
theorem SndI.bind {m : Ev → Gp → KI → Prop} (mono : ∀ env G (R R' : KI), (∀ ds chk G', R ds chk G' → R' ds chk G') → m env G R → m env G R') {σ : L2.St} {H : Hp} {env : Ev} {G : Gp} {K : KI} {R : L2.It → Hp → Prop}
    (rs : RelSt W.K H env σ) (rg : RelG W H G) (h : m env G K) (f : ∀ ds chk G1 J H1, TLe H H1 → RelSt W.K H1 env σ → RelG W H1 G1 → Srv W J H1 ds chk → K ds chk G1 → R J H1) : SndI W m σ H R :=
  ⟨env, G, rs, rg, mono _ _ _ _ (fun ds chk G1 k J H1 l rg1 sv => f ds chk G1 J H1 l (rs.le l) rg1 sv k) h⟩
/-! arguments without stars -/
theorem starEach_of : ∀ {es : List Expr} {env : Env}, es.all starless = true → starEach es env = es.map fun e => (false, eval e env)
  | [], _, _ => rfl
  | e :: es, env, h => by
    rw [List.all_cons, Bool.and_eq_true] at h
    rw [List.map_cons, ← starEach_of h.2]
    cases e <;> first | rfl | exact Bool.noConfusion (show false = true from h.1)
theorem backTo_of {pos : Pos} {env : Env} (es : List Expr) : (backTo pos (es.map fun e => (false, eval e env))).any (·.1) = false := by
  unfold backTo
  rw [List.map_map, List.any_map]
  induction es with
  | nil => rfl
  | cons e es ih => rw [List.any_cons, ih]; rfl
theorem backTo_all {pos : Pos} {env : Env} (es : List Expr) : (backTo pos (es.map fun e => (false, eval e env))).all (fun x => !x.1) = true := by
  unfold backTo
  rw [List.map_map, List.all_map]
  induction es with
  | nil => rfl
  | cons e es ih => rw [List.all_cons, ih]; rfl
theorem he_of {e : Expr} {es : List Expr} {env : Env} (h : (e :: es).all starless = true) : starEach (e :: es) env = (false, eval e env) :: starEach es env := by
  have h2 := h
  rw [List.all_cons, Bool.and_eq_true] at h2
  rw [starEach_of h, starEach_of h2.2]; rfl
theorem hpl_of {es : List Expr} {env : Env} {pos : Pos} (h : es.all starless = true) : (backTo pos (starEach es env)).any (·.1) = false := by
  rw [starEach_of h]; exact backTo_of es
theorem backTo_two {a b : Expr} {env : Env} {pos : Pos} (h : [a, b].all starless = true) : (backTo pos (starEach [b] env)).any (·.1) = false := by
  have : [b].all starless = true := by
    rw [List.all_cons, Bool.and_eq_true] at h; exact h.2
  exact hpl_of this
theorem few_of {es : List Expr} {env : Env} {pos : Pos} (h : es.all starless = true) (hl : es.length < 30) : ((backTo pos (starEach es env)).all (fun x => !x.1) && (backToKw pos (keywordEach [] env)).all (fun x => x.1.isSome)
      && decide (es.length + ([] : List Keyword).length + (if ([] : List Keyword).isEmpty then 0 else 1) < 30)) = true := by
  rw [starEach_of h, backTo_all]
  simpa [keywordEach, backToKw] using hl
theorem folded_of {e : Expr} {env : Env} (h : setless e = true) (x : Value) : foldedSetIterable e env x = pure x := by
  cases e <;> first | rfl | exact Bool.noConfusion (show false = true from h)
theorem marks_of {o : CmpOp} {e : Expr} (h : setless e = true) : behindInMarks o e = false := by
  cases e <;> first | rfl | exact Bool.noConfusion (show false = true from h)
theorem base_of {e : Expr} {f : Str} {env : Env} {w : Sem Value} (h : call0less e = true) : attributeBase e f env w = w := by
  unfold attributeBase
  split
  · simp [call0less] at h
  · rfl
theorem nosl_of {e : Expr} (h : sliceless e = true) : L2.NoSl e := by
  intro ov iv
  cases e <;> first | rfl | exact Bool.noConfusion (show false = true from h)
theorem plainIx_of {e : Expr} (h : sliceless e = true) : PlainIx e := fun o i => by
  cases e <;> first | rfl | exact Bool.noConfusion (show false = true from h)
/-! targets -/
def foldS (σ : L2.St) (ps : List (Nat × V)) : L2.St := ps.foldl (fun e p => e.set p.1 (some p.2)) σ
theorem foldS_len : ∀ (ps : List (Nat × V)) (σ : L2.St), (foldS σ ps).length = σ.length
  | [], _ => rfl
  | p :: ps, σ => by
    show (foldS (σ.set p.1 (some p.2)) ps).length = _
    rw [foldS_len ps, List.length_set]
theorem foldS_out {i : Nat} : ∀ (is : List Nat) (vs : List V) (σ : L2.St), i ∉ is → (foldS σ (is.zip vs))[i]? = σ[i]?
  | [], _, _, _ => rfl
  | j :: is, [], _, _ => rfl
  | j :: is, v :: vs, σ, h => by
    show (foldS (σ.set j (some v)) (is.zip vs))[i]? = _
    rw [foldS_out is vs _ fun z => h (List.mem_cons_of_mem _ z), List.getElem?_set_ne (by intro z; subst z; exact h List.mem_cons_self)]
theorem foldS_rel {K : PySem.W.Frag} {H : Hp} : ∀ (is : List Nat) {ds : List D} {vs : List V} {env : Ev} {σ : L2.St}, RelSt K H env σ → RelDs K H ds vs → RelSt K H ((is.zip ds).foldl (fun e p => e.set p.1 (some p.2)) env) (foldS σ (is.zip vs))
  | [], _, _, _, _, h, _ => h
  | i :: is, [], vs, _, _, h, r => by simp only [RelDs] at r; subst r; exact h
  | i :: is, d :: ds, vs, env, σ, h, r => by
    simp only [RelDs] at r
    obtain ⟨v, t, e, q, r⟩ := r
    subst e
    exact foldS_rel is (h.set i q) r
def gNames (is : List Nat) : TGs := fun vs σ H Q => vs.length = is.length ∧ Q (foldS σ (is.zip vs)) H
variable {Γ : Gam} {C : Ck} {sc : Scope}
theorem pg_nm (ok : Ok X W Γ C sc) {i : Nat} {py : Expr} (h : chkTg1 C.N sc i py = true) : PG X py (gName i) ∧ starless py = true := by
  unfold chkTg1 at h
  split at h
  · simp only [Bool.and_eq_true, decide_eq_true_eq] at h
    exact ⟨pg_name ok.nd (by rw [ok.N]; exact h.1) (ok.loc h.2).1 (ok.loc h.2).2, rfl⟩
  · cases h
theorem assignEach_of : ∀ {es : List Expr} {env : Env}, es.all starless = true → assignEach es env = es.map fun e => (false, assign e env)
  | [], _, _ => rfl
  | e :: es, env, h => by
    rw [List.all_cons, Bool.and_eq_true] at h
    rw [List.map_cons, ← assignEach_of h.2]
    cases e <;> first | rfl | exact Bool.noConfusion (show false = true from h.1)
theorem pgs_nm (ok : Ok X W Γ C sc) : ∀ {is : List Nat} {es : List Expr}, chkTgs C.N sc is es = true → PGs X es (gNames is) ∧ es.all starless = true ∧ es.length = is.length
  | [], [], _ => by
    refine ⟨L2.PGs.imp pgs_nil fun vs σ H Q hq => ?_, rfl, rfl⟩
    obtain ⟨h1, h2⟩ := hq
    match vs, h1, h2 with
    | [], _, h2 => exact ⟨rfl, h2⟩
  | i :: is, e :: es, h => by
    unfold chkTgs at h
    rw [Bool.and_eq_true] at h
    obtain ⟨h1, h2⟩ := pg_nm ok h.1
    obtain ⟨h3, h4, h5⟩ := pgs_nm ok h.2
    have hs : (e :: es).all starless = true := by rw [List.all_cons, h2, h4]; rfl
    refine ⟨L2.PGs.imp (pgs_cons h1 h3 (by rw [assignEach_of hs, assignEach_of h4]; rfl)) fun vs σ H Q hq => ?_, hs, by simp [h5]⟩
    obtain ⟨q1, q2⟩ := hq
    match vs, q1, q2 with
    | v :: vs, q1, q2 => exact ⟨v, vs, rfl, by simpa using q1, q2⟩
  | [], _ :: _, h => by cases h
  | _ :: _, [], h => by cases h
theorem find_of : ∀ (es : List Expr) (env : Env), ((es.map fun e => (false, assign e env)) : List (Bool × (Value → Sem Unit))).findIdx? (·.1) = none
  | [], _ => rfl
  | e :: es, env => by rw [List.map_cons, List.findIdx?_cons, find_of es env]; rfl
theorem pg_of (ok : Ok X W Γ C sc) (hc : X.calm = true) {tg : Tg} {py : Expr} (h : chkTg C.N sc tg py = true) : PG X py (SndG W tg) := by
  cases tg with
  | nm i =>
    refine L2.PG.imp (pg_nm ok h).1 fun v σ H Q ⟨env, d, rs, rd, q⟩ => ?_
    exact q _ (rs.set i rd) (by simp) fun j hj => by
      rw [List.getElem?_set_ne]
      intro z; subst z; exact hj (by simp [slots])
  | tup is =>
    cases py with
    | Tuple es k p =>
      obtain ⟨h3, h4, h5⟩ := pgs_nm ok (show chkTgs C.N sc is es = true from h)
      refine L2.PG.imp (pg_tup (n := is.length) hc h3 (by rw [assignEach_of h4, List.length_map, h5]) (by rw [assignEach_of h4]; exact find_of _ _)) fun v σ H Q ⟨env, d, rs, rd, q⟩ => ?_
      cases d <;> try exact q.elim
      simp only [RelD] at rd
      obtain ⟨a, vs, e, sq, r⟩ := rd
      have hl := r.length
      refine ⟨a, vs, e, by rw [ok.K]; exact sq, by rw [← hl]; exact q.1, ?_, ?_⟩
      · rw [← hl]; exact q.1
      · exact q.2 _ (foldS_rel is rs r) (foldS_len _ _) fun j hj => foldS_out _ _ _ hj
    | _ => exact Bool.noConfusion (show false = true from h)
theorem pg_unlist (ok : Ok X W Γ C sc) (hc : X.calm = true) {is : List Nat} {es : List Expr} {k : Nat} {p : Pos} (h : chkTgs C.N sc is es = true) : PG X (.Tuple es k p) (gUnl X.K is.length (gNames is)) := by
  obtain ⟨h3, h4, h5⟩ := pgs_nm ok h
  exact pg_unl hc h3 (by rw [assignEach_of h4, List.length_map, h5]) (by rw [assignEach_of h4]; exact find_of _ _)
/-! iterators -/
theorem lst_at {d : D} {v : V} {xs : List D} {G1 : Gp} {H1 : Hp} (rg : RelG W H1 G1) (rd : RelD W.K H1 d v) (nt : ∀ ys, d ≠ .tup ys) (h : items G1 d fun ys => xs = ys) :
    ∃ a, v = .ref a ∧ chkOf d xs G1 ∧ ∀ H G, TLe H1 H → RelG W H G → chkOf d xs G → ∃ vs, SqL W.K H a vs ∧ RelDs W.K H xs vs := by
  cases d <;> try exact h.elim
  · exact absurd rfl (nt _)
  · simp only [RelD] at rd
    obtain ⟨a, vs, e, q, r⟩ := rd
    cases (show xs = _ from h)
    exact ⟨a, e, trivial, fun H G l _ _ => ⟨vs, (SqR.le l q).sq, RelDs.le l _ _ r⟩⟩
  · rename_i a
    simp only [RelD] at rd
    obtain ⟨ys, vs, h, g, e, r⟩ := onL_inv rg h
    subst h
    refine ⟨a, rd, g, fun H G l rg' c => ?_⟩
    obtain ⟨us, e', r'⟩ := rg' a _ c
    exact ⟨us, .of e', r'⟩
theorem items_eq {G : Gp} {d : D} {k : List D → Prop} (h : items G d k) : ∃ xs, k xs ∧ items G d fun ys => xs = ys := by
  cases d with
  | tup xs => exact ⟨_, h, rfl⟩
  | ro xs => exact ⟨_, h, rfl⟩
  | ref a =>
    have h' : onL (G a) k := h
    show ∃ xs, k xs ∧ onL (G a) fun ys => xs = ys
    cases e : G a with
    | none => rw [e] at h'; exact h'.elim
    | some o =>
      rw [e] at h'
      cases o with
      | lst xs => exact ⟨xs, h', rfl⟩
      | ins c fs => exact h'.elim
      | dic kvs => exact h'.elim
      | exo k => exact h'.elim
      | dnt kvs o => exact h'.elim
  | _ => exact h.elim
theorem srv_list {a : Addr} {xs : List D} {H1 : Hp} {chk : Gp → Prop} (f : ∀ H G, TLe H1 H → RelG W H G → chk G → ∃ vs, SqL W.K H a vs ∧ RelDs W.K H xs vs) : Srv W (Itl W.K a) H1 xs chk where
  stop := fun i H G l rg c hi => let ⟨vs, q, r⟩ := f H G l rg c; ⟨vs, q, by rw [← r.length]; exact hi⟩
  go := fun i H G l rg c hi => by
    obtain ⟨vs, q, r⟩ := f H G l rg c
    obtain ⟨v, e, _⟩ := r.get (List.getElem?_eq_getElem hi)
    exact ⟨vs, v, q, e⟩
  yld := fun i H G x H' d l rg c e ⟨e1, y⟩ => by
    subst e1
    obtain ⟨vs, q, r⟩ := f _ G l rg c
    obtain ⟨v, e2, rd⟩ := r.get e
    have := y vs q
    rw [e2] at this; cases this
    exact ⟨.rfl, rg, rd⟩
theorem srv_nk {a : Addr} {kvs : List (NK × Int)} {o : Obj} {H1 : Hp} : Srv W (Itn W.hsh W.K a o kvs) H1 (kvs.map fun p => keyD p.1) fun G => G a = some (.dnt kvs o) where
  stop := fun i H G l rg c hi => let ⟨q, r⟩ := rg a _ c; ⟨q, r, by rw [List.length_map] at hi; exact hi⟩
  go := fun i H G l rg c hi => let ⟨q, r⟩ := rg a _ c; ⟨q, r, by rw [List.length_map] at hi; exact hi⟩
  yld := fun i H G x H' d l rg c e ⟨e1, k, v, b, e2, e3, hk⟩ => by
    subst e1 e3
    rw [List.getElem?_map, e2] at e
    cases e
    exact ⟨.rfl, rg, keyD_rel hk⟩
theorem srv_tup {a : Addr} {xs : List D} {vs : List V} {H1 : Hp} {chk : Gp → Prop} (q : SqT W.K H1 a vs) (r : RelDs W.K H1 xs vs) : Srv W (Itt W.K a) H1 xs chk where
  stop := fun i H G l rg c hi => ⟨vs, SqT.le l q, by rw [← r.length]; exact hi⟩
  go := fun i H G l rg c hi => by
    obtain ⟨v, e, _⟩ := r.get (List.getElem?_eq_getElem hi)
    exact ⟨vs, v, SqT.le l q, e⟩
  yld := fun i H G x H' d l rg c e ⟨e1, y⟩ => by
    subst e1
    obtain ⟨v, e2, rd⟩ := r.get e
    have := y vs (SqT.le l q)
    rw [e2] at this; cases this
    exact ⟨.rfl, rg, RelD.le l _ _ rd⟩
theorem srv_str {z : Str} {H1 : Hp} : Srv W (Its z) H1 (z.cps.toList.map fun c => D.str ⟨#[c]⟩) fun _ => True where
  stop := fun i H G l rg c hi => by simpa [Its] using hi
  go := fun i H G l rg c hi => by simpa [Its] using hi
  yld := fun i H G x H' d l rg c e ⟨e1, c', e2, e3⟩ => by
    subst e1
    rw [List.getElem?_map] at e
    have e4 : z.cps.toList[i]? = some c' := by simpa using e2
    rw [e4] at e
    cases e
    exact ⟨.rfl, rg, by simp [RelD, e3]⟩
theorem rngD_get {lo c : Int} {n i : Nat} {d : D} (h : (rngD lo c n)[i]? = some d) : d = .int (lo + (i : Int) * c) := by
  unfold rngD at h
  rw [List.getElem?_map] at h
  by_cases hi : i < n
  · rw [List.getElem?_range hi] at h
    cases h; rfl
  · rw [List.getElem?_eq_none (by simpa using hi)] at h
    cases h
theorem rngD_len {lo c : Int} {n : Nat} : (rngD lo c n).length = n := by simp [rngD]
theorem srv_rng {lo : Int} {n : Nat} {H1 : Hp} : Srv W (Itr lo n) H1 (rngD lo 1 n) fun _ => True where
  stop := fun i H G l rg c hi => by rw [rngD_len] at hi; exact hi
  go := fun i H G l rg c hi => by rw [rngD_len] at hi; exact hi
  yld := fun i H G x H' d l rg c e ⟨e1, e2⟩ => by
    subst e1
    have e3 := rngD_get e
    subst e3
    exact ⟨.rfl, rg, by rw [Int.mul_one]; simp [RelD, e2]⟩
theorem srv_rngC {lo k : Int} {n : Nat} {H1 : Hp} : Srv W (Itc lo k n) H1 (rngD lo k n) fun _ => True where
  stop := fun i H G l rg c hi => by rw [rngD_len] at hi; exact hi
  go := fun i H G l rg c hi => by rw [rngD_len] at hi; exact hi
  yld := fun i H G x H' d l rg c e ⟨e1, e2⟩ => by
    subst e1
    have e3 := rngD_get e
    subst e3
    exact ⟨.rfl, rg, by simp [RelD, e2]⟩
theorem srv_rev {a : Addr} {xs : List D} {n : Nat} {H1 : Hp} {chk : Gp → Prop} (hn : n = xs.length) (f : ∀ H G, TLe H1 H → RelG W H G → chk G → ∃ vs, SqL W.K H a vs ∧ RelDs W.K H xs vs) : Srv W (Itv W.K a n) H1 xs.reverse chk where
  stop := fun i H G l rg c hi => by rw [List.length_reverse, ← hn] at hi; exact hi
  go := fun i H G l rg c hi => by
    rw [List.length_reverse] at hi
    obtain ⟨vs, q, r⟩ := f H G l rg c
    obtain ⟨v, e, _⟩ := r.get (i := n - 1 - i) (List.getElem?_eq_getElem (by omega))
    exact ⟨by omega, vs, v, q, e⟩
  yld := fun i H G x H' d l rg c e ⟨e1, y⟩ => by
    subst e1
    obtain ⟨vs, q, r⟩ := f _ G l rg c
    have hi : i < xs.length := by
      have := (List.getElem?_eq_some_iff.mp e).1
      simpa using this
    rw [List.getElem?_reverse hi, ← hn] at e
    obtain ⟨v, e2, rd⟩ := r.get e
    have := y vs q
    rw [e2] at this; cases this
    exact ⟨.rfl, rg, rd⟩
theorem enumD_get : ∀ {xs : List D} {n i : Nat} {d : D}, (enumD n xs)[i]? = some d → ∃ x, xs[i]? = some x ∧ d = .tup [.int ((n + i : Nat) : Int), x]
  | [], _, _, _, h => by simp [enumD] at h
  | x :: xs, n, 0, d, h => by simp [enumD] at h; exact ⟨x, rfl, by simp [h]⟩
  | x :: xs, n, i + 1, d, h => by
    obtain ⟨y, a, b⟩ := enumD_get (xs := xs) (n := n + 1) (i := i) (d := d) (by simpa [enumD] using h)
    exact ⟨y, by simpa using a, by rw [b]; congr 3; omega⟩
theorem enumD_len : ∀ (xs : List D) (n : Nat), (enumD n xs).length = xs.length
  | [], _ => rfl
  | x :: xs, n => by simp [enumD, enumD_len xs]
theorem pairD_new {H : Hp} {G : Gp} {T : Addr} {d e : D} {v u : V} (hT : H T = none) (rg : RelG W H G) (r1 : RelD W.K H d v) (r2 : RelD W.K H e u) :
    TLe H (upd H T (.tup [v, u])) ∧ RelG W (upd H T (.tup [v, u])) G ∧ RelD W.K (upd H T (.tup [v, u])) (.tup [d, e]) (.ref T) := by
  refine ⟨.new hT, rg.laid hT, ?_⟩
  simp only [RelD]
  exact ⟨T, _, rfl, .of upd_same, .cons (RelD.le (.new hT) _ _ r1) (.cons (RelD.le (.new hT) _ _ r2) .nil)⟩
theorem srv_enum {a : Addr} {xs : List D} {H1 : Hp} {chk : Gp → Prop} (f : ∀ H G, TLe H1 H → RelG W H G → chk G → ∃ vs, SqL W.K H a vs ∧ RelDs W.K H xs vs) : Srv W (Ite W.K a) H1 (enumD 0 xs) chk where
  stop := fun i H G l rg c hi => let ⟨vs, q, r⟩ := f H G l rg c; ⟨vs, q, by rw [← r.length, ← enumD_len xs 0]; exact hi⟩
  go := fun i H G l rg c hi => by
    rw [enumD_len] at hi
    obtain ⟨vs, q, r⟩ := f H G l rg c
    obtain ⟨v, e, _⟩ := r.get (List.getElem?_eq_getElem hi)
    exact ⟨vs, v, q, e⟩
  yld := fun i H G x H' d l rg c e ⟨T, y, e1, e2, e3, h⟩ => by
    subst e1 e3
    obtain ⟨vs, q, r⟩ := f H G l rg c
    obtain ⟨d', e4, e5⟩ := enumD_get e
    obtain ⟨v, e6, rd⟩ := r.get e4
    have := h vs q
    rw [e6] at this; cases this
    subst e5
    rw [Nat.zero_add]
    exact pairD_new e2 rg (by simp [RelD]) rd
theorem zipD_get : ∀ {xs ys : List D} {i : Nat} {d : D}, (zipD xs ys)[i]? = some d → ∃ x y, xs[i]? = some x ∧ ys[i]? = some y ∧ d = .tup [x, y]
  | [], _, _, _, h => by simp [zipD] at h
  | _ :: _, [], _, _, h => by simp [zipD] at h
  | x :: xs, y :: ys, 0, d, h => by simp [zipD] at h; exact ⟨x, y, rfl, rfl, by simp [h]⟩
  | x :: xs, y :: ys, i + 1, d, h => by
    obtain ⟨x', y', a, b, c⟩ := zipD_get (xs := xs) (ys := ys) (i := i) (d := d) (by simpa [zipD] using h)
    exact ⟨x', y', by simpa using a, by simpa using b, c⟩
theorem zipD_len : ∀ (xs ys : List D), (zipD xs ys).length = min xs.length ys.length
  | [], _ => by simp [zipD]
  | _ :: _, [] => by simp [zipD]
  | x :: xs, y :: ys => by simp [zipD, zipD_len xs ys]
theorem srv_zip {a b : Addr} {xs ys : List D} {H1 : Hp} {chk : Gp → Prop} (f : ∀ H G, TLe H1 H → RelG W H G → chk G → ∃ vs, SqL W.K H a vs ∧ RelDs W.K H xs vs) (g : ∀ H G, TLe H1 H → RelG W H G → chk G → ∃ vs, SqL W.K H b vs ∧ RelDs W.K H ys vs) : Srv W (Itz W.K a b) H1 (zipD xs ys) chk where
  stop := fun i H G l rg c hi => by
    rw [zipD_len] at hi
    obtain ⟨vs, q, r⟩ := f H G l rg c
    obtain ⟨us, q', r'⟩ := g H G l rg c
    refine ⟨vs, us, q, q', ?_⟩
    rw [← r.length, ← r'.length]
    omega
  go := fun i H G l rg c hi => by
    rw [zipD_len] at hi
    obtain ⟨vs, q, r⟩ := f H G l rg c
    obtain ⟨us, q', r'⟩ := g H G l rg c
    obtain ⟨v, e, _⟩ := r.get (i := i) (List.getElem?_eq_getElem (by omega))
    obtain ⟨u, e', _⟩ := r'.get (i := i) (List.getElem?_eq_getElem (by omega))
    exact ⟨vs, us, v, u, q, q', e, e'⟩
  yld := fun i H G x H' d l rg c e ⟨T, y, z, e1, e2, e3, h1, h2⟩ => by
    subst e1 e3
    obtain ⟨vs, q, r⟩ := f H G l rg c
    obtain ⟨us, q', r'⟩ := g H G l rg c
    obtain ⟨x', y', a1, a2, a3⟩ := zipD_get e
    obtain ⟨v, e6, rd⟩ := r.get a1
    obtain ⟨u, e7, rd'⟩ := r'.get a2
    have t1 := h1 vs q
    rw [e6] at t1; cases t1
    have t2 := h2 us q'
    rw [e7] at t2; cases t2
    subst a3
    exact pairD_new e2 rg rd rd'
/-- a list, a tuple or a text, by what it turns out to be -/
theorem pi_any {tg l : Expr} {tl : TE} (hl : PE X l tl) : PI X tg l (fun σ H R => tl σ H fun x H1 => (∃ a, x = .ref a ∧ (∃ xs, SqL X.K H1 a xs) ∧ R (Itl X.K a) H1) ∨ (∃ a, x = .ref a ∧ (∃ xs, SqT X.K H1 a xs) ∧ R (Itt X.K a) H1) ∨ ∃ z, x = .str z ∧ R (Its z) H1) := by
  constructor
  intro pins s σ H R I h
  apply thn (hl.run pins s σ H _ I h)
  intro v s1 hv
  obtain ⟨x, H1, I1, r1, q1⟩ := hv
  have one : ∀ (o : Obj) (J : L2.It) (tn : Nat → Heap → Prop), Turn X.prog X.w X.K tg J [s1.heap.objs.size] s1.heap.objs.size tn → tn 0 (s1.heap.push o) → R J H1 →
      PIE X pins σ tg R (.ref s1.heap.objs.size) { s1 with heap := s1.heap.push o } := fun o J tn T st q => pi_one (tk := s1.toks) I1 o T st q
  rcases q1 with ⟨a, e, ⟨xs, hq⟩, q⟩ | ⟨a, e, ⟨xs, hq⟩, q⟩ | ⟨z, e, q⟩
  · subst e
    obtain rfl : v = Value.ref a := r1
    obtain ⟨its, _, p, _⟩ := I1.list hq
    exact wpAny_pyIter_list p.isList (one _ _ _ (turn_list a _) ⟨_, Heap.get?_push_size _ rfl, rfl, rfl⟩ q)
  · subst e
    obtain rfl : v = Value.ref a := r1
    obtain ⟨its, _, p, _⟩ := I1.tuple hq
    exact wpAny_pyIter_tuple (show s1.heap.IsTuple a its.toArray from p) (one _ _ _ (turn_tuple a _) ⟨_, Heap.get?_push_size _ rfl, rfl, rfl⟩ q)
  · subst e
    obtain ⟨t, e⟩ := r1
    subst e
    cases c : z.cps.all (· < 128) with
    | false => exact wpAny_pyIter_wide c (one _ _ _ (turn_str _ z t "str_iterator" (.inr rfl)) ⟨_, Heap.get?_push_size _ rfl, rfl, rfl⟩ q)
    | true => exact wpAny_pyIter_ascii c (one _ _ _ (turn_str _ z t "str_ascii_iterator" (.inl rfl)) ⟨_, Heap.get?_push_size _ rfl, rfl, rfl⟩ q)
end
/-- a look-up in a written table, with another value -/
theorem pe_kget {X : Cx} {y : Str} {p apos cpos : Pos} {e f : Expr} {t : TA} {d0 : Addr} {es : Array DictEntry} {n : Nat} (kd : KDict X.K X.w d0 es n) (hg : Gl X y) (hm : X.mg y = some (.ref d0)) (hdb : (y == ("__debug__" : Str)) = false) (ha : PA X [e, f] t)
    (hst : [e, f].all starless = true) (hline : (apos.endLine == cpos.line) = true) :
    PE X (.Call (.Attribute (.Name y p) "get" apos) [e, f] [] cpos) (fun σ H Q => t σ H fun vs H2 => ∃ (s : Str) (z v : V) (r : Option Value), vs = [.str s, z] ∧ PySem.W.nsIn X.K d0 s = some r ∧ ((∃ u, r = some u ∧ RelV v u) ∨ (r = none ∧ v = z)) ∧ Q v H2) := by
  refine ⟨fun pins s σ H Q I h => ?_⟩
  refine wpAny_Call_method_late (base_of rfl) (few_of hst (by simp)) hline rfl (thn ((pe_glob (v := .ref d0) hg hm rfl hdb).run pins s σ H (fun x H1 => x = .ref d0 ∧ H = H1) I ⟨rfl, rfl⟩) fun v s1 ⟨x, H1, I1, r1, ex, eH⟩ => ?_)
  subst ex; subst eH
  obtain rfl : v = Value.ref d0 := r1
  have hmap := PySem.W.mapOf_K (prog := X.prog) (w := X.w) I1.kIn kd.at_ kd.lit
  refine ⟨"dict", "dict.get", PySem.F.plainAttrs_dict, PySem.F.slot_dict_get, PySem.F.type_dict_get, hmap.typeIs, fun a q => ?_, ?_⟩
  · cases q
    exact ⟨_, I1.kIn _ _ kd.at_, rfl⟩
  have hA := ha.run cpos pins s1 σ H _ I1 h
  rw [he_of hst] at hA ⊢
  refine Calls.callWith_builtin (by show (false || (backTo cpos (starEach [f] X.env)).any (·.1)) = false; rw [backTo_two hst] <;> rfl) (Calls.evalArgs_plain ?_)
  refine thn hA fun us s2 ⟨vs, H2, I2, r2, sz, z, w, r, evs, en, hr, q⟩ => ?_
  subst evs
  cases r2 with
  | cons ra rb =>
    cases rb with
    | cons rb rc =>
      cases rc
      obtain ⟨tk, rfl⟩ := ra
      have hmap2 := PySem.W.mapOf_K (prog := X.prog) (w := X.w) I2.kIn kd.at_ kd.lit
      have hf := PySem.W.find_K (x := sz) kd.at_ en
      refine call_meetsIn PySem.F.slot_dict_get hmap2.typeIs PySem.F.entry_dict_get (PySem.F.args_dict_get_3 _ _ _) (meets_dict_get_default (strKind X.prog X.w) d0 (strKind_is X.prog X.w sz tk) kd.low _) ⟨_, hmap2, w, H2, I2.tok _, ?_, q⟩
      rw [hf]
      rcases hr with ⟨u, rfl, hu⟩ | ⟨rfl, rfl⟩
      · exact hu
      · exact rb
end DL
namespace DL
open PySem PySem.Spec PyProof.Rows L2
section
variable {W : Wd} {Γ : Gam}
theorem wipe_in {σ : L2.St} {i : Nat} : ∀ {vs : List Nat}, i ∈ vs → (wipe σ vs)[i]? = if i < σ.length then some none else none
  | v :: vs, h => by
    show ((wipe σ vs).set v none)[i]? = _
    by_cases e : v = i
    · subst e
      rw [List.getElem?_set, if_pos rfl, wipe_length]
    · rw [List.getElem?_set_ne e]
      exact wipe_in (by rcases List.mem_cons.mp h with z | z; exact absurd z.symm e; exact z)
theorem wipe_eq {σ σ' : L2.St} {vs : List Nat} (hl : σ'.length = σ.length) (h : ∀ i, i ∉ vs → σ'[i]? = σ[i]?) : wipe σ' vs = wipe σ vs := by
  apply List.ext_getElem?
  intro i
  by_cases hi : i ∈ vs
  · rw [wipe_in hi, wipe_in hi, hl]
  · rw [wipe_out hi, wipe_out hi, h i hi]
theorem wipe_wipe {σ : L2.St} {vs : List Nat} : wipe (wipe σ vs) vs = wipe σ vs := by
  refine wipe_eq (wipe_length _ _) fun i hi => wipe_out hi
theorem chkEs_star : ∀ {xs : Es} {sc : Scope} {es : List Expr}, chkEs C xs sc es = true → es.all starless = true
  | .nil, sc, es, h => by
    cases es with
    | nil => rfl
    | cons _ _ => exact Bool.noConfusion (show false = true from h)
  | .cons x xs, sc, es, h => by
    cases es with
    | nil => exact Bool.noConfusion (show false = true from h)
    | cons e es =>
      have h : (starless e && chkE C x sc e && chkEs C xs sc es) = true := by simpa only [chkEs] using h
      simp only [Bool.and_eq_true] at h
      rw [List.all_cons, h.1.1, chkEs_star h.2]; rfl
theorem plain_truth {py : Expr} (h : plainTest py = true) (env : Env) : ∀ whole, isTrue py env whole = (do let v ← whole; standAt py.pos; holding [v] (truthy v)) := by
  intro whole
  cases py <;> first | rfl | exact Bool.noConfusion (show false = true from h)
theorem TLe.lst {H : Hp} {p : Addr} {us vs : List V} (ha : H p = some (.lst us)) : TLe H (upd H p (.lst vs)) :=
  .put (fun xs z => by rw [ha] at z; cases z) (fun x u z => by rw [ha] at z; cases z)
/-- the parts of a comprehension, put together -/
theorem lc_reads (M : Γ.Mono) {it : It} {tg : Tg} {c : To} {x : E} {vs : List Nat} (hs : (slots tg).all (fun i => decide (i ∈ vs)) = true) (σ : L2.St) (H : Hp) (Q : VK)
    (h : Snd W (fun env G Q => wpIt Γ it env G fun ds chk G1 => ∀ p, G1 p = none → lcD chk (setT tg) (wpTo Γ c) (wpE Γ x) p (Q (.ref p)) (wipeE env vs) ds (gup G1 p (.lst []))) σ H Q) :
    tLc (SndI W (wpIt Γ it)) (SndG W tg) (SndB W (wpTo Γ c)) (Snd W (wpE Γ x)) vs σ H Q := by
  obtain ⟨env, G, rs, rg, h⟩ := h
  refine SndI.bind (fun env G R R' f h => wpIt_mono M it env G R R' f h) rs rg h fun ds chk G1 J H1 l rs1 rg1 sv h p hp => ?_
  have h := h p (rg1.free hp)
  have lp : TLe H1 (upd H1 p (.lst [])) := .new hp
  refine ⟨fun i m H' => ∃ G', m = ds.length - i ∧ i ≤ ds.length ∧ TLe H1 H' ∧ RelG W H' G' ∧ lcD chk (setT tg) (wpTo Γ c) (wpE Γ x) p (fun G => Ct W H Q (.ref p) G) (wipeE env vs) (ds.drop i) G', ⟨ds.length, _, by simp, Nat.zero_le _, lp, rg1.new (u := .lst []) hp ⟨[], upd_same, .nil⟩, h⟩, ?_⟩
  rintro i m H' ⟨G', rfl, hi, l', rg', h⟩
  by_cases hlt : i < ds.length
  · rw [List.drop_eq_getElem_cons hlt] at h
    obtain ⟨hc, h⟩ := h
    refine .inr ⟨sv.go i H' G' l' rg' hc hlt, fun H2 => ∃ G2, TLe H1 H2 ∧ RelG W H2 G2 ∧ lcD chk (setT tg) (wpTo Γ c) (wpE Γ x) p (fun G => Ct W H Q (.ref p) G) (wipeE env vs) (ds.drop (i + 1)) G2, fun H2 ⟨G2, a, b, c'⟩ => ⟨ds.length - (i + 1), by omega, G2, rfl, hlt, a, b, c'⟩, fun y H2 hy => ?_⟩
    obtain ⟨l2, rg2, rd⟩ := sv.yld i H' G' y H2 _ l' rg' hc (List.getElem?_eq_getElem hlt) hy
    have l02 := l'.trans l2
    refine ⟨wipeE env vs, _, (rs1.le l02).wipe vs, rd, setT_mono (fun env' h σ2 rs2 e1 e2 => ⟨?_, ?_⟩) h⟩
    · rw [show wipe σ2 vs = wipe (wipe σ vs) vs from wipe_eq e1 fun j hj => e2 j fun z => hj (by
        have := List.all_eq_true.mp hs j z
        simpa using this)]
      exact wipe_wipe
    · refine SndB.bind (fun env G Q Q' f h => wpTo_mono M c env G Q Q' f h) rs2 rg2 h fun b G3 H3 l3 rs3 rg3 h => ?_
      cases b with
      | false => exact ⟨G3, l02.trans l3, rg3, h⟩
      | true =>
        rw [if_pos rfl] at h ⊢
        refine Snd.bind (fun env G Q Q' f h => wpE_mono M x env G Q Q' f h) rs3 rg3 h fun d G4 v H4 l4 rs4 rg4 rd4 h => ?_
        obtain ⟨acc, us, ⟨hz, h⟩, ga, ha, ra⟩ := onL_inv rg4 h
        refine ⟨us, ha, by rw [← ra.length]; exact hz, _, ?_, ?_, h⟩
        · exact (l02.trans l3).trans (l4.trans (.lst ha))
        · exact rg4.put (u := .lst (acc ++ [d])) (.lst ha) ⟨_, upd_same, RelDs.le (.lst ha) _ _ (ra.append (.cons rd4 .nil))⟩
  · have e : i = ds.length := by omega
    subst e
    rw [List.drop_length] at h
    exact .inl ⟨sv.stop _ H' G' l' rg' h.1 (Nat.le_refl _), h.2 _ _ (l.trans l') rg' (by simp [RelD])⟩
theorem wpE_m (M : Γ.Mono) (x : E) : ∀ env G (Q Q' : K1), (∀ d G', Q d G' → Q' d G') → wpE Γ x env G Q → wpE Γ x env G Q' := fun env G Q Q' f h => wpE_mono M x env G Q Q' f h
theorem wpEs_m (M : Γ.Mono) (x : Es) : ∀ env G (Q Q' : List D → Gp → Prop), (∀ d G', Q d G' → Q' d G') → wpEs Γ x env G Q → wpEs Γ x env G Q' := fun env G Q Q' f h => wpEs_mono M x env G Q Q' f h
theorem wpEo_m (M : Γ.Mono) (x : Eo) : ∀ env G (Q Q' : Option Int → Gp → Prop), (∀ d G', Q d G' → Q' d G') → wpEo Γ x env G Q → wpEo Γ x env G Q' := fun env G Q Q' f h => wpEo_mono M x env G Q Q' f h
theorem wpT_m (M : Γ.Mono) (x : T) : ∀ env G (Q Q' : Bool → Gp → Prop), (∀ d G', Q d G' → Q' d G') → wpT Γ x env G Q → wpT Γ x env G Q' := fun env G Q Q' f h => wpT_mono M x env G Q Q' f h
theorem wpIt_m (M : Γ.Mono) (x : It) : ∀ env G (R R' : KI), (∀ ds chk G', R ds chk G' → R' ds chk G') → wpIt Γ x env G R → wpIt Γ x env G R' := fun env G Q Q' f h => wpIt_mono M x env G Q Q' f h
theorem PE.no {X : Cx} {py : Expr} {t : TE} (h : ∀ σ H Q, ¬ t σ H Q) : PE X py t := ⟨fun _ _ _ _ _ _ q => (h _ _ _ q).elim⟩
theorem pe_cv {X : Cx} {C : Ck} {sc : Scope} (ok : Ok X W Γ C sc) {k : Nat} {c : Expr} (h : chkX C sc k c = true) : starless c = true ∧ k ∈ C.exs ∧ PE X c (tC (cvV W k)) := by
  cases c with
  | Name cn p =>
    have h' : (decide (exNames[k]? = some cn) && decide (k ∈ C.exs) && glbB sc cn && nmB cn) = true := h
    simp only [Bool.and_eq_true, decide_eq_true_eq] at h'
    obtain ⟨⟨⟨hn, hk⟩, hg⟩, hd⟩ := h'
    refine ⟨rfl, hk, ?_⟩
    obtain ⟨h1, h2⟩ := ok.ex.nm k hk cn hn
    unfold cvV
    by_cases e : k = 11
    · subst e
      rw [if_pos rfl]
      cases (show some _ = some cn from hn)
      exact pe_bltn (v := .ty "ValueError") (ok.glb hg) (h1 rfl) (by decide +kernel) rfl (by decide +kernel) (by decide +kernel)
    · rw [if_neg e]
      exact pe_glob (v := .ref (W.exc k)) (ok.glb hg) (h2 e) rfl (nmB_inv hd).1
  | _ => exact Bool.noConfusion (show false = true from h)
theorem cv_cls {k : Nat} : ClsV (cvV W k) (cvX W k) := by
  unfold cvV cvX
  by_cases e : k = 11
  · rw [if_pos e, if_pos e]; exact .ty _
  · rw [if_neg e, if_neg e]; exact .own _
theorem is_val {X : Cx} {C : Ck} {sc : Scope} (ok : Ok X W Γ C sc) {H : Hp} {o : Option Nat} {v : V} (hv : (o = none ∧ v = .non) ∨ ∃ j a, o = some j ∧ v = .ref a ∧ j ∈ W.exr ∧ H a = some (ExK (.ref (W.exc j)) a)) :
    ∃ t, TyK X.K H v t ∧ ∀ k ∈ C.exs, PySem.W.kitOne X.K t (cvX W k) = some (o.any fun j => subx j k) := by
  rcases hv with ⟨rfl, rfl⟩ | ⟨j, a, rfl, rfl, hj, hH⟩
  · exact ⟨_, .inl (.base .non), fun k hk => ok.ex.no k hk⟩
  · exact ⟨_, .inr ⟨a, W.exc j, rfl, rfl, ok.ex.ec j hj, hH⟩, fun k hk => (ok.ex.is j hj k hk).1⟩
theorem pa_cvs {X : Cx} {C : Ck} {sc : Scope} (ok : Ok X W Γ C sc) : ∀ {ks : List Nat} {es : List Expr}, chkXs C sc ks es = true → es.all starless = true ∧ (∀ k ∈ ks, k ∈ C.exs) ∧ PA X es (fun _ H Q => Q (ks.map (cvV W)) H)
  | [], [], _ => ⟨rfl, fun _ h => (nomatch h), pa_nil⟩
  | k :: ks, e :: es, h => by
    have h' : (chkX C sc k e && chkXs C sc ks es) = true := h
    simp only [Bool.and_eq_true] at h'
    obtain ⟨a1, a2, a3⟩ := pe_cv ok h'.1
    obtain ⟨b1, b2, b3⟩ := pa_cvs ok h'.2
    have hs : (e :: es).all starless = true := by rw [List.all_cons, a1, b1]; rfl
    exact ⟨hs, fun j hj => by rcases List.mem_cons.mp hj with z | z; exact z ▸ a2; exact b2 j z, pa_cons a3 b3 (he_of hs)⟩
  | [], _ :: _, h => Bool.noConfusion (show false = true from h)
  | _ :: _, [], h => Bool.noConfusion (show false = true from h)
theorem cvs_cls : ∀ ks : List Nat, Paired ClsV (ks.map (cvV W)) (ks.map (cvX W))
  | [] => .nil
  | k :: ks => .cons cv_cls (cvs_cls ks)
theorem cvs_any {K : PySem.W.Frag} {t : Value} {o : Option Nat} : ∀ {ks : List Nat}, (∀ k ∈ ks, PySem.W.kitOne K t (cvX W k) = some (o.any fun j => subx j k)) → PySem.W.kitAny K t (ks.map (cvX W)) = some (o.any fun j => ks.any (subx j))
  | [], _ => by cases o <;> rfl
  | k :: ks, h => by
    have ih := cvs_any fun j hj => h j (List.mem_cons_of_mem _ hj)
    refine kitAny_cons (h k List.mem_cons_self) (fun e => ?_) fun e => ?_
    · rw [ih]
      cases o with
      | none => rfl
      | some j =>
        have e : subx j k = false := e
        simp [List.any_cons, e]
    · cases o with
      | none => exact Bool.noConfusion (show false = true from e)
      | some j =>
        have e : subx j k = true := e
        simp [List.any_cons, e]
mutual
theorem snd_E (M : Γ.Mono) : ∀ (x : E) {C : Ck} {X : Cx} {sc : Scope} (ok : Ok X W Γ C sc) {py : Expr}, chkE C x sc py = true → PE X py (Snd W (wpE Γ x))
  | .v i, C, X, sc, ok, py, h => by
    simp only [chkE] at h
    split at h
    · simp only [Bool.and_eq_true, decide_eq_true_eq] at h
      refine (pe_var (by rw [ok.N]; exact h.1.1) (ok.vis h.1.2) (nmB_inv h.2).1 (nmB_inv h.2).2).imp fun σ H Q ⟨env, G, rs, rg, q⟩ => ?_
      simp only [wpE] at q
      split at q
      · obtain ⟨v, a, b⟩ := rs.get _ _ ‹_›
        exact ⟨v, a, q.now rg b⟩
      · exact q.elim
    · cases h
  | .i n, C, X, sc, ok, py, h => by
    simp only [chkE] at h
    split at h
    · cases of_decide_eq_true h
      refine pe_int.imp fun σ H Q ⟨env, G, rs, rg, q⟩ => ?_
      simp only [wpE] at q
      exact q.now rg (by simp [RelD])
    · cases h
  | .b n, C, X, sc, ok, py, h => by
    simp only [chkE] at h
    split at h
    · cases eq_of_beq h
      refine pe_bl.imp fun σ H Q ⟨env, G, rs, rg, q⟩ => ?_
      simp only [wpE] at q
      exact q.now rg (by simp [RelD])
    · cases h
  | .s n, C, X, sc, ok, py, h => by
    simp only [chkE] at h
    split at h
    · cases of_decide_eq_true h
      refine pe_str.imp fun σ H Q ⟨env, G, rs, rg, q⟩ => ?_
      simp only [wpE] at q
      exact q.now rg (by simp [RelD])
    · cases h
  | .non, C, X, sc, ok, py, h => by
    simp only [chkE] at h
    split at h
    · refine pe_non.imp fun σ H Q ⟨env, G, rs, rg, q⟩ => ?_
      simp only [wpE] at q
      exact q.now rg (by simp [RelD])
    · cases h
  | .con k, C, X, sc, ok, py, h => by
    simp only [chkE] at h
    split at h
    · simp only [Bool.and_eq_true, decide_eq_true_eq] at h
      cases e : Γ.con[k]? with
      | none =>
        refine PE.no fun σ H Q ⟨env, G, rs, rg, q⟩ => ?_
        simp only [wpE, e] at q
      | some d =>
        obtain ⟨v, u, a, b, c⟩ := ok.con _ _ _ h.1.1 e
        refine (pe_glob (ok.glb h.1.2) a b (nmB_inv h.2).1).imp fun σ H Q ⟨env, G, rs, rg, q⟩ => ?_
        simp only [wpE, e] at q
        exact q.now rg (c H)
    · cases h
  | .bin o x y, C, X, sc, ok, py, h => by
    simp only [chkE] at h
    split at h
    · simp only [Bool.and_eq_true, decide_eq_true_eq] at h
      cases h.1.1
      refine (pe_op (op_bin ok.K o) (snd_E M x ok h.1.2) (snd_E M y ok h.2)).imp fun σ H Q ⟨env, G, rs, rg, q⟩ => ?_
      simp only [wpE] at q
      refine Snd.bind (wpE_m M x) rs rg q fun d G1 v H1 l1 rs1 rg1 rd1 q => ?_
      refine Snd.bind (wpE_m M y) rs1 rg1 q fun e G2 u H2 l2 rs2 rg2 rd2 q => ?_
      exact ⟨d, e, G2, RelD.le l2 _ _ rd1, rd2, rg2, wpBin_mono (fun _ _ q => q.le (l1.trans l2)) q⟩
    · cases h
  | .neg x, C, X, sc, ok, py, h => by
    simp only [chkE] at h
    split at h
    · refine (pe_un un_neg (snd_E M x ok h)).imp fun σ H Q ⟨env, G, rs, rg, q⟩ => ?_
      simp only [wpE] at q
      refine Snd.bind (wpE_m M x) rs rg q fun d G1 v H1 l1 rs1 rg1 rd1 q => ?_
      obtain ⟨i, e, q⟩ := asI_inv rd1 q
      exact ⟨i, e, (q.le l1).now rg1 (by simp [RelD])⟩
    · cases h
  | .cmp o x y, C, X, sc, ok, py, h => by
    simp only [chkE] at h
    split at h
    · simp only [Bool.and_eq_true, decide_eq_true_eq] at h
      cases h.1.1.1
      refine (pe_cmpR (op_cmp ok.K ok.un o) (snd_E M x ok h.1.2) (snd_E M y ok h.2) (marks_of h.1.1.2)).imp fun σ H Q ⟨env, G, rs, rg, q⟩ => ?_
      simp only [wpE] at q
      refine Snd.bind (wpE_m M x) rs rg q fun d G1 v H1 l1 rs1 rg1 rd1 q => ?_
      refine Snd.bind (wpE_m M y) rs1 rg1 q fun e G2 u H2 l2 rs2 rg2 rd2 q => ?_
      exact ⟨d, e, G2, RelD.le l2 _ _ rd1, rd2, rg2, wpCmp_mono (fun _ q => q.le (l1.trans l2)) q⟩
    · cases h
  | .cmp2 o p x y z, C, X, sc, ok, py, h => by
    simp only [chkE] at h
    split at h
    · simp only [Bool.and_eq_true, decide_eq_true_eq] at h
      obtain ⟨⟨⟨⟨⟨ho, hp⟩, hz⟩, hx⟩, hy⟩, hw⟩ := h
      cases ho; cases hp
      refine (pe_chain (op_cmp ok.K ok.un o) (op_cmp ok.K ok.un p) (snd_E M x ok hx) (snd_E M y ok hy) (snd_E M z ok hw) (by unfold lastMarks lastMarks; exact marks_of hz)).imp fun σ H Q ⟨env, G, rs, rg, q⟩ => ?_
      simp only [wpE] at q
      refine Snd.bind (wpE_m M x) rs rg q fun d G1 v H1 l1 rs1 rg1 rd1 q => ?_
      refine Snd.bind (wpE_m M y) rs1 rg1 q fun e G2 u H2 l2 rs2 rg2 rd2 q => ?_
      refine ⟨d, e, G2, RelD.le l2 _ _ rd1, rd2, rg2, wpCmp_mono (fun b q w H3 l3 rg3 rd3 => ?_) q⟩
      cases rbl rd3
      refine ⟨b, rfl, ?_⟩
      have l13 := (l1.trans l2).trans l3
      cases b with
      | false => exact q _ _ l13 rg3 (by simp [RelD])
      | true =>
        rw [if_pos rfl] at q ⊢
        refine Snd.bind (wpE_m M z) (rs2.le l3) rg3 q fun f G4 t H4 l4 rs4 rg4 rd4 q => ?_
        exact ⟨e, f, G4, RelD.le l4 _ _ (RelD.le l3 _ _ rd2), rd4, rg4, wpCmp_mono (fun _ q => q.le (l13.trans l4)) q⟩
    · cases h
  | .bop o xs, C, X, sc, ok, py, h => by
    simp only [chkE] at h
    split at h
    · simp only [Bool.and_eq_true, decide_eq_true_eq] at h
      cases h.1
      refine (snd_Bop M xs ok h.2).imp fun σ H Q ⟨env, G, rs, rg, q⟩ => ?_
      simp only [wpE] at q
      exact ⟨env, G, rs, rg, q⟩
    · cases h
  | .not x, C, X, sc, ok, py, h => by
    simp only [chkE] at h
    split at h
    · refine (pe_not (snd_E M x ok h)).imp fun σ H Q ⟨env, G, rs, rg, q⟩ => ?_
      simp only [wpE] at q
      refine Snd.bind (wpE_m M x) rs rg q fun d G1 v H1 l1 rs1 rg1 rd1 q => ?_
      obtain ⟨i, e, q⟩ := asB_inv rd1 q
      exact ⟨i, e, (q.le l1).now rg1 (by simp [RelD])⟩
    · cases h
  | .ite c x y, C, X, sc, ok, py, h => by
    simp only [chkE] at h
    split at h
    · simp only [Bool.and_eq_true] at h
      refine (pe_ifExp (snd_T M c ok h.1.1) (snd_E M x ok h.1.2) (snd_E M y ok h.2)).imp fun σ H Q ⟨env, G, rs, rg, q⟩ => ?_
      simp only [wpE] at q
      refine SndB.bind (wpT_m M c) rs rg q fun b G1 H1 l1 rs1 rg1 q => ?_
      cases b with
      | true => exact Snd.bind (wpE_m M x) rs1 rg1 q fun d G2 v H2 l2 rs2 rg2 rd2 q => (q.le (l1.trans l2)).now rg2 rd2
      | false => exact Snd.bind (wpE_m M y) rs1 rg1 q fun d G2 v H2 l2 rs2 rg2 rd2 q => (q.le (l1.trans l2)).now rg2 rd2
    · cases h
  | .tup xs, C, X, sc, ok, py, h => by
    simp only [chkE] at h
    split at h
    · refine (pe_tup (snd_Es M xs ok h)).imp fun σ H Q ⟨env, G, rs, rg, q⟩ => ?_
      simp only [wpE] at q
      refine SndA.bind (wpEs_m M xs) rs rg q fun ds G1 vs H1 l1 rs1 rg1 rd1 q => ⟨by rw [← rd1.length]; exact q.1, fun p hp => ?_⟩
      refine q.2 _ _ (l1.trans (.new hp)) (rg1.laid hp) ?_
      simp only [RelD]
      exact ⟨p, vs, rfl, .of upd_same, RelDs.le (.new hp) _ _ rd1⟩
    · cases h
  | .lst xs, C, X, sc, ok, py, h => by
    simp only [chkE] at h
    split at h
    · refine (pe_lst (snd_Es M xs ok h)).imp fun σ H Q ⟨env, G, rs, rg, q⟩ => ?_
      simp only [wpE] at q
      exact SndA.bind (wpEs_m M xs) rs rg q fun ds G1 vs H1 l1 rs1 rg1 rd1 q => ⟨by rw [← rd1.length]; exact q.1, newL_use rg1 rd1 fun p hp => (q.2 p hp).le l1⟩
    · cases h
  | .dat k x, C, X, sc, ok, py, h => by
    simp only [chkE] at h
    split at h
    · simp only [Bool.and_eq_true, decide_eq_true_eq] at h
      obtain ⟨⟨⟨⟨hk, hg⟩, hn⟩, hs⟩, hx⟩ := h
      obtain ⟨d0, es, n, hm, kd, hz⟩ := ok.dic _ _ hk
      refine (pe_ix ix_kdict (pe_glob (v := .ref d0) (ok.glb hg) hm rfl (nmB_inv hn).1) (snd_E M x ok hx) (plainIx_of hs)).imp fun σ H Q ⟨env, G, rs, rg, q⟩ => ?_
      simp only [wpE] at q
      refine Snd.bind (wpE_m M x) rs rg q fun d G1 v H1 l1 rs1 rg1 rd1 q => ?_
      obtain ⟨s, e, q⟩ := asS_inv rd1 q
      subst e
      obtain ⟨r, e1, e2, e3⟩ := hz s
      cases e : dget (nthL Γ.dic k) s with
      | none => rw [e] at q; exact q.elim
      | some i =>
        rw [e] at q
        obtain ⟨u, rfl, ru⟩ := e3 i e
        exact ⟨d0, s, .int i, rfl, rfl, ⟨es, n, u, kd.at_, kd.lit, e1, ru⟩, ((show Ct W H Q (.int i) G1 from q).le l1).now rg1 (by simp [RelD])⟩
    · cases h
  | .dgt k x y, C, X, sc, ok, py, h => by
    simp only [chkE] at h
    split at h
    · simp only [Bool.and_eq_true, decide_eq_true_eq] at h
      obtain ⟨⟨⟨⟨⟨⟨⟨⟨hme, hk⟩, hg⟩, hn⟩, hl⟩, hs1⟩, hs2⟩, hx⟩, hy⟩ := h
      subst hme
      rename_i z p apos a b cpos
      have hs : [a, b].all starless = true := by simp [hs1, hs2]
      have hs' : [b].all starless = true := by simp [hs2]
      obtain ⟨d0, es, n, hm, kd, hz⟩ := ok.dic _ _ hk
      refine (pe_kget kd (ok.glb hg) hm (nmB_inv hn).1 (pa_cons (snd_E M x ok hx) (pa_cons (snd_E M y ok hy) pa_nil (he_of hs')) (he_of hs)) hs hl).imp fun σ H Q ⟨env, G, rs, rg, q⟩ => ?_
      simp only [wpE] at q
      refine Snd.bind (wpE_m M x) rs rg q fun d G1 v H1 l1 rs1 rg1 rd1 q => ?_
      obtain ⟨s, e, q⟩ := asS_inv rd1 q
      subst e
      refine Snd.bind (wpE_m M y) rs1 rg1 q fun e G2 u H2 l2 rs2 rg2 rd2 q => ?_
      obtain ⟨r, e1, e2, e3⟩ := hz s
      cases e : dget (nthL Γ.dic k) s with
      | none =>
        rw [e] at q
        exact ⟨s, u, u, r, rfl, e1, .inr ⟨e2 e, rfl⟩, ((show Ct W H Q _ G2 from q).le (l1.trans l2)).now rg2 rd2⟩
      | some i =>
        rw [e] at q
        obtain ⟨w, rfl, rw'⟩ := e3 i e
        exact ⟨s, u, .int i, _, rfl, e1, .inl ⟨w, rfl, rw'⟩, ((show Ct W H Q (.int i) G2 from q).le (l1.trans l2)).now rg2 (by simp [RelD])⟩
    · cases h
  | .ddn, C, X, sc, ok, py, h => by
    simp only [chkE] at h
    split at h
    · refine pe_dnewK.imp fun σ H Q ⟨env, G, rs, rg, q⟩ => ?_
      simp only [wpE] at q
      exact fun p hp => q p (rg.free hp) _ _ (.new hp) (rg.new hp ⟨[], upd_same, rfl⟩) (by simp [RelD])
    · cases h
  | .ddg x y z, C, X, sc, ok, py, h => by
    simp only [chkE] at h
    split at h
    · rename_i o m apos a b cpos
      simp only [Bool.and_eq_true, decide_eq_true_eq] at h
      obtain ⟨⟨⟨⟨⟨⟨⟨hm, hc⟩, hl⟩, hs1⟩, hs2⟩, hx⟩, hy⟩, hz⟩ := h
      subst hm
      have hs : [a, b].all starless = true := by simp [hs1, hs2]
      refine (pe_dget2 (by have := ok.un; omega) (snd_E M x ok hx) (snd_E M y ok hy) (snd_E M z ok hz) ⟨base_of hc, few_of hs (by simp), hl, by rw [starEach_of hs]; rfl⟩).imp fun σ H Q ⟨env, G, rs, rg, q⟩ => ?_
      simp only [wpE] at q
      refine Snd.bind (wpE_m M x) rs rg q fun d G1 v H1 l1 rs1 rg1 rd1 q => ?_
      obtain ⟨ad, e1, _, q⟩ := asR_inv rd1 q
      obtain ⟨kvs, vs, q, _, ha, ra⟩ := onK_inv rg1 q
      refine ⟨ad, e1, .inl ⟨vs, .inl ha⟩, ?_⟩
      refine Snd.bind (wpE_m M y) rs1 rg1 q fun e G2 u H2 l2 rs2 rg2 rd2 q => ?_
      obtain ⟨k, e2, q⟩ := asK_inv rd2 q
      refine Snd.bind (wpE_m M z) rs2 rg2 q fun f G3 w H3 l3 rs3 rg3 rd3 q => ?_
      obtain ⟨kvs3, vs3, q, _, ha3, ra3⟩ := onK_inv rg3 q
      subst e2
      refine ⟨valV vs3 k, .inl ⟨vs3, k, .inl ha3, rfl, rfl⟩, ?_⟩
      exact ((show Ct W H Q _ G3 from q).le ((l1.trans l2).trans l3)).now rg3 (getK_rel rd3 ra3)
    · cases h
  | .ddx x y, C, X, sc, ok, py, h => by
    simp only [chkE] at h
    split at h
    · rename_i a b pos
      simp only [Bool.and_eq_true] at h
      obtain ⟨⟨hs, hx⟩, hy⟩ := h
      refine (pe_dget (by have := ok.un; omega) (snd_E M x ok hx) (snd_E M y ok hy) (nosl_of hs)).imp fun σ H Q ⟨env, G, rs, rg, q⟩ => ?_
      simp only [wpE] at q
      refine Snd.bind (wpE_m M x) rs rg q fun d G1 v H1 l1 rs1 rg1 rd1 q => ?_
      refine Snd.bind (wpE_m M y) rs1 rg1 q fun e G2 u H2 l2 rs2 rg2 rd2 q => ?_
      obtain ⟨ad, e1, _, q⟩ := asR_inv (RelD.le l2 _ _ rd1) q
      obtain ⟨k, e2, q⟩ := asK_inv rd2 q
      obtain ⟨kvs, vs, ⟨w, e3, q⟩, _, ha, ra⟩ := onK_inv rg2 q
      subst e2
      obtain ⟨w', e4, rw'⟩ := getK_some ra e3
      exact ⟨ad, w', e1, .inl ⟨vs, k, .inl ha, rfl, e4.symm⟩, ((show Ct W H Q w G2 from q).le (l1.trans l2)).now rg2 rw'⟩
    · cases h
  | .dds x, C, X, sc, ok, py, h => by
    simp only [chkE] at h
    split at h
    · rename_i n p a pos
      simp only [Bool.and_eq_true, decide_eq_true_eq] at h
      obtain ⟨⟨⟨⟨⟨hot, hm⟩, hb⟩, hg⟩, hs1⟩, hx⟩ := h
      subst hm
      have hs : [a].all starless = true := by simp [hs1]
      refine (pe_callB (call_sortedDI (ok.calm (by simpa using hot))) (ok.glb hg) (ok.bn _ hb) (Bi.boot .sorted) (pa_cons (snd_E M x ok hx) pa_nil (he_of hs)) (by decide +kernel) (by decide +kernel) (he_of hs) (hpl_of rfl)).imp fun σ H Q ⟨env, G, rs, rg, q⟩ => ?_
      simp only [wpE] at q
      refine Snd.bind (wpE_m M x) rs rg q fun d G1 v H1 l1 rs1 rg1 rd1 q => ?_
      obtain ⟨ad, e1, _, q⟩ := asR_inv rd1 q
      obtain ⟨kvs, vs, ⟨ks, hk, h64, q⟩, _, ha, ra⟩ := onK_inv rg1 q
      refine ⟨ad, vs, ks, by rw [e1], .inl ha, ra.keys.symm.trans hk, h64, fun ys p hp1 hp2 hp => ?_⟩
      exact newL_use rg1 (intsD_rel ys) (fun p hp => (show Ct W H Q (.ref p) _ from q ys p hp1 hp2 hp).le l1) p hp
    · cases h
  | .fmt x, C, X, sc, ok, py, h => by
    simp only [chkE] at h
    split at h
    · simp only [Bool.and_eq_true, decide_eq_true_eq] at h
      obtain ⟨hm, hx⟩ := h
      subst hm
      refine (pe_fmt (snd_E M x ok hx)).imp fun σ H Q ⟨env, G, rs, rg, q⟩ => ?_
      simp only [wpE] at q
      refine Snd.bind (wpE_m M x) rs rg q fun d G1 v H1 l1 rs1 rg1 rd1 q => ?_
      cases d <;> try exact q.elim
      · cases rint rd1
        exact .inr ⟨_, rfl, q.1, ((q.2 : Ct W H Q _ G1).le l1).now rg1 (by simp [RelD])⟩
      · cases rstr rd1
        exact .inl ⟨_, rfl, q.1, ((q.2 : Ct W H Q _ G1).le l1).now rg1 (by simp [RelD])⟩
    · cases h
  | .nn, C, X, sc, ok, py, h => by
    simp only [chkE] at h
    split at h
    · have pe := pe_nnew (X := X) (pos := ‹_›)
      rw [← ok.hs h, ok.K] at pe
      refine pe.imp fun σ H Q ⟨env, G, rs, rg, q⟩ => ?_
      simp only [wpE] at q
      exact fun p o hp lo r => q p o (rg.free hp) _ _ (.new hp) (rg.new hp ⟨⟨upd_same, lo⟩, r.le (.new hp)⟩) (by simp [RelD])
    · cases h
  | .ng x y z, C, X, sc, ok, py, h => by
    simp only [chkE] at h
    split at h
    · rename_i o m apos a b cpos
      simp only [Bool.and_eq_true, decide_eq_true_eq] at h
      obtain ⟨⟨⟨⟨⟨⟨⟨⟨hc0, hm⟩, hc⟩, hl⟩, hs1⟩, hs2⟩, hx⟩, hy⟩, hz⟩ := h
      subst hm
      have hs : [a, b].all starless = true := by simp [hs1, hs2]
      have pe := pe_nget2 (by have := ok.un; omega) (snd_E M x ok hx) (snd_E M y ok hy) (snd_E M z ok hz) (apos := apos) (cpos := cpos) ⟨base_of hc, few_of hs (by simp), hl, by rw [starEach_of hs]; rfl⟩
      rw [← ok.hs hc0, ok.K] at pe
      refine pe.imp fun σ H Q ⟨env, G, rs, rg, q⟩ => ?_
      simp only [wpE] at q
      refine Snd.bind (wpE_m M x) rs rg q fun d G1 v H1 l1 rs1 rg1 rd1 q => ?_
      obtain ⟨ad, e1, _, q⟩ := asR_inv rd1 q
      obtain ⟨kv1, o1, q, _, na1, nd1⟩ := onN_inv rg1 q
      refine ⟨ad, e1, ⟨o1, kv1, na1, nd1⟩, ?_⟩
      refine Snd.bind (wpE_m M y) rs1 rg1 q fun e G2 u H2 l2 rs2 rg2 rd2 q => ?_
      obtain ⟨k, bb, e2, hk, q⟩ := asN_inv rd2 q
      refine Snd.bind (wpE_m M z) rs2 rg2 q fun f G3 w H3 l3 rs3 rg3 rd3 q => ?_
      obtain ⟨i, e3, q⟩ := asI_inv rd3 q
      obtain ⟨kv3, o3, q, _, na3, nd3⟩ := onN_inv rg3 q
      exact ⟨bb, k, kv3, o3, i, e2, hk.le l3, na3, nd3, e3, ((show Ct W H Q _ G3 from q).le ((l1.trans l2).trans l3)).now rg3 (by simp [RelD])⟩
    · cases h
  | .nx x y, C, X, sc, ok, py, h => by
    simp only [chkE] at h
    split at h
    · rename_i a b pos
      simp only [Bool.and_eq_true] at h
      obtain ⟨⟨⟨hc0, hs⟩, hx⟩, hy⟩ := h
      have pe := pe_nix (pos := pos) (by have := ok.un; omega) (snd_E M x ok hx) (snd_E M y ok hy) (nosl_of hs)
      rw [← ok.hs hc0, ok.K] at pe
      refine pe.imp fun σ H Q ⟨env, G, rs, rg, q⟩ => ?_
      simp only [wpE] at q
      refine Snd.bind (wpE_m M x) rs rg q fun d G1 v H1 l1 rs1 rg1 rd1 q => ?_
      refine Snd.bind (wpE_m M y) rs1 rg1 q fun e G2 u H2 l2 rs2 rg2 rd2 q => ?_
      obtain ⟨ad, e1, _, q⟩ := asR_inv (RelD.le l2 _ _ rd1) q
      obtain ⟨k, bb, e2, hk, q⟩ := asN_inv rd2 q
      obtain ⟨kvs, o, ⟨i, hi, q⟩, _, na, nd⟩ := onN_inv rg2 q
      exact ⟨ad, bb, k, kvs, o, i, e1, e2, hk, na, nd, hi, ((show Ct W H Q (.int i) G2 from q).le (l1.trans l2)).now rg2 (by simp [RelD])⟩
    · cases h
  | .mrk x y i, C, X, sc, ok, py, h => by
    simp only [chkE] at h
    split at h
    · rename_i a b k f _ x _ i _ o _ _ _ _ y _ j _ p _ _ _ _ _
      simp only [Bool.and_eq_true, decide_eq_true_eq] at h
      obtain ⟨⟨⟨⟨⟨⟨⟨⟨⟨⟨⟨⟨⟨⟨hf, hg⟩, hn⟩, ha⟩, va⟩, na⟩, hb⟩, vb⟩, nb⟩, hk⟩, vk⟩, nk⟩, e1⟩, e2⟩, e3⟩ := h
      subst e1 e2 e3
      obtain ⟨fa, kk, R, hr, hm, hkp⟩ := (ok.mrk f (List.elem_iff.mp hf)).ex
      refine (pe_mrk R hr (ok.glb hg) hm hkp (by rw [ok.N]; exact ha) (ok.vis va) (by rw [ok.N]; exact hb) (ok.vis vb) (by rw [ok.N]; exact hk) (ok.vis vk) (nmB_inv hn).1 (nmB_inv na).1 (nmB_inv na).2 (nmB_inv nk).1 (nmB_inv nk).2 (nmB_inv nb).1 (nmB_inv nb).2).imp fun σ H Q ⟨env, G, rs, rg, q⟩ => ?_
      simp only [wpE] at q
      split at q
      · rename_i dx hx
        split at q
        · rename_i dy hy
          split at q
          · rename_i di hi
            unfold wpMrk at q
            split at q
            · rename_i x y n
              obtain ⟨vx, gx, rx⟩ := rs.get _ _ hx
              obtain ⟨vy, gy, ry⟩ := rs.get _ _ hy
              obtain ⟨vi, gi, ri⟩ := rs.get _ _ hi
              cases rstr rx
              cases rstr ry
              cases rint ri
              obtain ⟨zx, zy, c, d, ex, ey, mc, md, q⟩ := q
              refine ⟨x, y, n, c, d, gx, gy, gi, zx, zy, ex, ey, mc, md, fun p hp => ?_⟩
              exact newL_use rg (.cons (by simp [RelD]) (.cons (by simp [RelD]) .nil)) (fun p hp => q.2 p hp) p hp
            · exact q.elim
          · exact q.elim
        · exact q.elim
      · exact q.elim
    · cases h
  | .fst xs, C, X, sc, ok, py, h => by
    simp only [chkE] at h
    split at h
    · rename_i es pos
      simp only [Bool.and_eq_true, decide_eq_true_eq] at h
      obtain ⟨hl, hx⟩ := h
      obtain ⟨ts, hp, hi⟩ := snd_Fs M xs ok hx
      match es, hl, hp with
      | e1 :: e2 :: r, _, hp =>
        refine (pe_joined hp).imp fun σ H Q ⟨env, G, rs, rg, q⟩ => ?_
        simp only [wpE] at q
        refine hi Str.empty σ H _ env G rs rg (wpFs_mono M xs env G _ _ _ (fun z G1 q H1 l1 rg1 => ?_) q)
        exact ((q : Ct W H Q (.str z) G1).le l1).now rg1 (by simp [RelD])
    · cases h
  | .ix x y, C, X, sc, ok, py, h => by
    simp only [chkE] at h
    split at h
    · simp only [Bool.and_eq_true] at h
      refine (pe_ix (ix_all ok.K) (snd_E M x ok h.1.2) (snd_E M y ok h.2) (plainIx_of h.1.1)).imp fun σ H Q ⟨env, G, rs, rg, q⟩ => ?_
      simp only [wpE] at q
      refine Snd.bind (wpE_m M x) rs rg q fun d G1 v H1 l1 rs1 rg1 rd1 q => ?_
      refine Snd.bind (wpE_m M y) rs1 rg1 q fun e G2 u H2 l2 rs2 rg2 rd2 q => ?_
      exact ⟨d, e, G2, RelD.le l2 _ _ rd1, rd2, rg2, wpIx_mono (fun _ _ q => q.le (l1.trans l2)) q⟩
    · cases h
  | .sl x lo hi, C, X, sc, ok, py, h => by
    simp only [chkE] at h
    split at h
    · simp only [Bool.and_eq_true] at h
      refine (pe_slice (sl_all ok.K) (snd_E M x ok h.1.1) (snd_Eo M lo ok h.1.2) (snd_Eo M hi ok h.2)).imp fun σ H Q ⟨env, G, rs, rg, q⟩ => ?_
      simp only [wpE] at q
      refine Snd.bind (wpE_m M x) rs rg q fun d G1 v H1 l1 rs1 rg1 rd1 q => ?_
      refine SndO.bind (wpEo_m M lo) rs1 rg1 q fun e G2 H2 l2 rs2 rg2 q => ?_
      refine SndO.bind (wpEo_m M hi) rs2 rg2 q fun f G3 H3 l3 rs3 rg3 q => ?_
      exact ⟨d, G3, RelD.le l3 _ _ (RelD.le l2 _ _ rd1), rg3, wpSl_mono (fun _ _ q => q.le ((l1.trans l2).trans l3)) q⟩
    · cases h
  | .rv x, C, X, sc, ok, py, h => by
    simp only [chkE] at h
    split at h
    · simp only [Bool.and_eq_true, decide_eq_true_eq] at h
      obtain ⟨h1, h2⟩ := h
      subst h1
      refine (pe_revL (snd_E M x ok h2)).imp fun σ H Q ⟨env, G, rs, rg, q⟩ => ?_
      simp only [wpE] at q
      refine Snd.bind (wpE_m M x) rs rg q fun d G1 v H1 l1 rs1 rg1 rd1 q => ?_
      cases d <;> try exact q.elim
      · simp only [RelD] at rd1
        obtain ⟨a, vs, e, sq, r⟩ := rd1
        exact ⟨a, vs, e, by rw [ok.K]; exact sq.sq, newL_use rg1 (r.reverse) (fun p hp => (q p hp).le l1)⟩
      · simp only [RelD] at rd1
        obtain ⟨xs, vs, h, _, e, r⟩ := onL_inv rg1 q
        exact ⟨_, vs, rd1, .of e, newL_use rg1 (r.reverse) (fun p hp => (h p hp).le l1)⟩
    · cases h
  | .call f xs, C, X, sc, ok, py, h => by
    simp only [chkE] at h
    split at h
    · rename_i x p es pos
      simp only [Bool.and_eq_true, decide_eq_true_eq] at h
      obtain ⟨⟨⟨⟨hf, hg⟩, hn⟩, he⟩, ha⟩ := h
      cases es with
      | nil => simp at he
      | cons e es =>
        obtain ⟨fa, fd, ps, k, sp, dds, dvs, dvl, F, hr, hm, hk, hb, hd, hdd, imp⟩ := (ok.fn _ _ hf).ex
        have hs := chkEs_star ha
        have hs2 : es.all starless = true := by rw [List.all_cons, Bool.and_eq_true] at hs; exact hs.2
        refine (pe_call F hr (ok.glb hg) hm hk hb hd pass0 (snd_Es M xs ok ha) (nmB_inv hn).1 (he_of hs) (hpl_of hs2)).imp fun σ H Q ⟨env, G, rs, rg, q⟩ => ?_
        simp only [wpE] at q
        refine SndA.bind (wpEs_m M xs) rs rg q fun ds G1 vs H1 l1 rs1 rg1 rd1 q => ?_
        exact ⟨ds ++ dds, G1, rd1.append (hdd H1), rg1.now, imp _ _ _ (M.fn' f _ _ _ _ (fun _ _ q => (q.le l1).at rg1.le) q)⟩
    · cases h
  | .callx f xs, C, X, sc, ok, py, h => by
    simp only [chkE] at h
    split at h
    · rename_i x p es pos
      simp only [Bool.and_eq_true, decide_eq_true_eq] at h
      obtain ⟨⟨⟨⟨⟨hx0, hf⟩, hg⟩, hn⟩, he⟩, ha⟩ := h
      cases es with
      | nil => simp at he
      | cons e es =>
        obtain ⟨fa, fd, ps, k, F, hr, hm, hk, hb⟩ := (ok.xfn _ _ hf).ex
        have hs := chkEs_star ha
        have hs2 : es.all starless = true := by rw [List.all_cons, Bool.and_eq_true] at hs; exact hs.2
        obtain ⟨Wo, tk, hW⟩ := (ok.xo (by simpa using hx0)).tk
        refine (pe_callS F hr (ok.glb hg) hm hk hb (fun σ => passAt tk σ) (snd_Es M xs ok ha) (nmB_inv hn).1 (he_of hs) (hpl_of hs2)).imp fun σ H Q ⟨env, G, rs, rg, q⟩ => ?_
        simp only [wpE] at q
        refine SndA.bind (wpEs_m M xs) rs rg q fun ds G1 vs H1 l1 rs1 rg1 rd1 q => ?_
        refine ⟨ds, G1, rd1, rg1.now, M.xfn' f _ _ _ _ _ _ (fun _ _ q => (q.le l1).at rg1.le) (fun j G2 q H2 l2 rg2 hj => ?_) q⟩
        exact hW j σ H2 env G2 hj (rs1.le l2) (rg2.back rg1.le) q
    · cases h
  | .mkx c xs, C, X, sc, ok, py, h => by
    simp only [chkE] at h
    split at h
    · rename_i x p es pos
      simp only [Bool.and_eq_true, decide_eq_true_eq] at h
      obtain ⟨⟨⟨⟨⟨hx0, hf⟩, hg⟩, hn⟩, he⟩, ha⟩ := h
      cases es with
      | nil => simp at he
      | cons e es =>
        have hs := chkEs_star ha
        have hs2 : es.all starless = true := by rw [List.all_cons, Bool.and_eq_true] at hs; exact hs.2
        obtain ⟨Eo, tk, hW⟩ := ok.xk hx0
        cases em : Γ.xmk[c]? with
        | none => exact ⟨fun pins s σ H Q I ⟨env, G, rs, rg, q⟩ => by simp only [wpE, em] at q⟩
        | some cm =>
          obtain ⟨cl, sp⟩ := cm
          obtain ⟨f, fd, ps, kk, dds, dvs, ds, sp', hx, hmk, F, hr, hb, hd, hdd, imp⟩ := (ok.xmk c x hf cl sp em).ex
          refine (pe_make hmk F hr (ok.glb hg) hx hb hd (passes_call tk fun _ _ _ _ q => q) (snd_Es M xs ok ha) (nmB_inv hn).1 (he_of hs) (hpl_of hs2)).imp fun σ H Q ⟨env, G, rs, rg, q⟩ => ?_
          simp only [wpE, em] at q
          refine SndA.bind (wpEs_m M xs) rs rg q fun ds2 G2 us H2 l2 rs2 rg2 rd2 q => ?_
          intro x dx hx0 hdx hne
          have hx1 : (upd H2 dx (.own x)) x = none := by rw [upd_ne (Ne.symm hne)]; exact hx0
          have l3 : TLe H2 (upd (upd H2 dx (.own x)) x (.ins (W.cls cl) dx [])) := (TLe.new hdx).trans (TLe.new hx1)
          have rg3 := (rg2.laid (o := .own x) hdx).new (o := .ins (W.cls cl) dx []) (u := .ins cl []) hx1 ⟨dx, [], upd_same, by simp [RelFs]⟩
          refine ⟨(.ref x :: ds2) ++ dds, _, RelDs.append (.cons (by simp [RelD]) (RelDs.le l3 _ _ rd2)) (hdd _), rg3.now, imp _ _ _ _ (M.xmk _ (List.mem_of_getElem? em) _ _ _ _ _ _ (fun d G' h => ?_) (fun j G4 q H4 l4 rg4 hj => hW j H4 env G4 hj (rg4.back rg3.le) q) (q x (rg2.free hx0)))⟩
          intro v H' l' rg' rd'
          obtain ⟨e, h⟩ := h
          subst e
          exact ⟨by simpa [RelD] using rd', h (.ref x) H' ((l2.trans l3).trans l') (rg'.back rg3.le) (by simp [RelD])⟩
    · cases h
  | .isx x k, C, X, sc, ok, py, h => by
    simp only [chkE] at h
    split at h
    · rename_i n p a c pos
      simp only [Bool.and_eq_true, decide_eq_true_eq] at h
      obtain ⟨⟨⟨⟨⟨hn, hnb⟩, hng⟩, hst⟩, hk⟩, ha⟩ := h
      subst hn
      obtain ⟨hsc, hke, pc⟩ := pe_cv ok hk
      have hs : [a, c].all starless = true := by rw [List.all_cons, hst, List.all_cons, hsc]; rfl
      have hs2 : [c].all starless = true := by rw [List.all_cons, hsc]; rfl
      refine (pe_callB call_isK1 (ok.glb hng) (ok.bn _ hnb) (by decide +kernel) (pa_cons (snd_E M x ok ha) (pa_cons pc pa_nil (he_of hs2)) (he_of hs)) (by decide +kernel) (by decide +kernel) (he_of hs) (hpl_of hs2)).imp fun σ H Q ⟨env, G, rs, rg, q⟩ => ?_
      simp only [wpE] at q
      refine Snd.bind (wpE_m M x) rs rg q fun d G1 v H1 l1 rs1 rg1 rd1 q => ?_
      obtain ⟨o, q, hv⟩ := isX_inv rg1 rd1 q
      obtain ⟨t, ty, kt⟩ := is_val ok hv
      exact ⟨v, cvV W k, t, cvX W k, _, rfl, cv_cls, ty, kt k hke, (q.le l1).now rg1 (by simp [RelD])⟩
    · cases h
  | .ist x ks, C, X, sc, ok, py, h => by
    simp only [chkE] at h
    split at h
    · rename_i n p a es kk tp pos
      simp only [Bool.and_eq_true, decide_eq_true_eq] at h
      obtain ⟨⟨⟨⟨⟨⟨hn, hnb⟩, hng⟩, hst⟩, hlk⟩, hk⟩, ha⟩ := h
      subst hn
      obtain ⟨hsc, hke, pc⟩ := pa_cvs ok hk
      have hs : [a, Expr.Tuple es kk tp].all starless = true := by rw [List.all_cons, hst]; rfl
      have hs2 : [Expr.Tuple es kk tp].all starless = true := rfl
      refine (pe_callB call_isKT (ok.glb hng) (ok.bn _ hnb) (by decide +kernel) (pa_cons (snd_E M x ok ha) (pa_cons (pe_tup pc) pa_nil (he_of hs2)) (he_of hs)) (by decide +kernel) (by decide +kernel) (he_of hs) (hpl_of hs2)).imp fun σ H Q ⟨env, G, rs, rg, q⟩ => ?_
      simp only [wpE] at q
      refine Snd.bind (wpE_m M x) rs rg q fun d G1 v H1 l1 rs1 rg1 rd1 q => ?_
      obtain ⟨o, q, hv⟩ := isX_inv rg1 rd1 q
      refine ⟨by rw [List.length_map, show sizeLine = 16777216 from by decide]; omega, fun p hp => ?_⟩
      obtain ⟨t, ty, kt⟩ := is_val ok (H := upd H1 p (.tup (ks.map (cvV W)))) (hv.imp id fun ⟨j, a, e1, e2, e3, e4⟩ => ⟨j, a, e1, e2, e3, (upd_ne (ne_of_none e4 hp)).trans e4⟩)
      exact ⟨v, p, ks.map (cvV W), t, ks.map (cvX W), _, rfl, upd_same, cvs_cls ks, ty, cvs_any fun k hk => kt k (hke k hk), q _ _ (l1.trans (.new hp)) (rg1.laid hp) (by simp [RelD])⟩
    · cases h
  | .bi f xs, C, X, sc, ok, py, h => by
    simp only [chkE] at h
    split at h
    · rename_i x p es pos
      simp only [Bool.and_eq_true, decide_eq_true_eq] at h
      obtain ⟨⟨⟨⟨⟨hot, hf⟩, hb⟩, hg⟩, he⟩, ha⟩ := h
      subst hf
      cases es with
      | nil => simp at he
      | cons e es =>
        have hs := chkEs_star ha
        have hs2 : es.all starless = true := by rw [List.all_cons, Bool.and_eq_true] at hs; exact hs.2
        have key : PE X (.Call (.Name f.nm p) (e :: es) [] pos) (tCB (SCl W (wpBi f)) (SndA W (wpEs Γ xs))) := by
          have hc := bi_all (X := X) ok.K (ok.calm (by simpa using hot)) f
          have hv := f.boot
          cases e : f.val <;> rw [e] at hc hv <;> first
            | exact pe_callB hc (ok.glb hg) (ok.bn _ hb) hv (snd_Es M xs ok ha) f.noname f.nodebug (he_of hs) (hpl_of hs2)
            | exact pe_callTy hc (ok.glb hg) (ok.bn _ hb) hv (snd_Es M xs ok ha) f.noname f.nodebug (he_of hs) (hpl_of hs2)
            | (cases f <;> simp [Bi.val] at e)
        refine key.imp fun σ H Q ⟨env, G, rs, rg, q⟩ => ?_
        simp only [wpE] at q
        refine SndA.bind (wpEs_m M xs) rs rg q fun ds G1 vs H1 l1 rs1 rg1 rd1 q => ?_
        exact ⟨ds, G1, rd1, rg1, wpBi_mono (fun _ _ q => q.le l1) q⟩
    · cases h
  | .isi x t, C, X, sc, ok, py, h => by
    simp only [chkE] at h
    split at h
    · rename_i n p a tn tp pos
      simp only [Bool.and_eq_true, decide_eq_true_eq] at h
      obtain ⟨⟨⟨⟨⟨⟨⟨hn, hnb⟩, hng⟩, ht⟩, htb⟩, htg⟩, hst⟩, ha⟩ := h
      subst hn; subst ht
      have hs : [a, Expr.Name t.nm tp].all starless = true := by rw [List.all_cons, hst]; rfl
      have hs2 : [Expr.Name t.nm tp].all starless = true := rfl
      refine (pe_callB call_isi (ok.glb hng) (ok.bn _ hnb) (by decide +kernel) (pa_cons (snd_E M x ok ha) (pa_cons (pe_bltn (v := .ty t.ty) (ok.glb htg) (ok.bn _ htb) t.boot rfl t.noname t.nodebug) pa_nil (he_of hs2)) (he_of hs)) (by decide +kernel) (by decide +kernel) (he_of hs) (hpl_of hs2)).imp fun σ H Q ⟨env, G, rs, rg, q⟩ => ?_
      simp only [wpE] at q
      refine Snd.bind (wpE_m M x) rs rg q fun d G1 v H1 l1 rs1 rg1 rd1 q => ?_
      obtain ⟨w, b, h1, h2, q⟩ := isTy_inv rg1 rd1 q
      exact ⟨v, .ty t.ty, w, .type t.ty, b, rfl, .ty _, by rw [ok.K]; exact h1, by rw [ok.K]; exact h2, (q.le l1).now rg1 (by simp [RelD])⟩
    · cases h
  | .isc x k, C, X, sc, ok, py, h => by
    simp only [chkE] at h
    split at h
    · rename_i n p a cn tp pos
      simp only [Bool.and_eq_true, decide_eq_true_eq] at h
      obtain ⟨⟨⟨⟨⟨⟨⟨hn, hnb⟩, hng⟩, ht⟩, htg⟩, hdb⟩, hst⟩, ha⟩ := h
      subst hn
      have hs : [a, Expr.Name cn tp].all starless = true := by rw [List.all_cons, hst]; rfl
      have hs2 : [Expr.Name cn tp].all starless = true := rfl
      obtain ⟨Da, hmg, hall⟩ := ok.isc k cn ht
      refine (pe_callB call_isi (ok.glb hng) (ok.bn _ hnb) (by decide +kernel) (pa_cons (snd_E M x ok ha) (pa_cons (pe_glob (v := .ref Da) (ok.glb htg) hmg rfl (nmB_inv hdb).1) pa_nil (he_of hs2)) (he_of hs)) (by decide +kernel) (by decide +kernel) (he_of hs) (hpl_of hs2)).imp fun σ H Q ⟨env, G, rs, rg, q⟩ => ?_
      simp only [wpE] at q
      refine Snd.bind (wpE_m M x) rs rg q fun d G1 v H1 l1 rs1 rg1 rd1 q => ?_
      obtain ⟨ad, e1, ed, q⟩ := asR_inv rd1 q
      subst ed
      obtain ⟨c, fs, dx, vs, q, ga, hH, ra⟩ := onI_inv rg1 q
      obtain ⟨hmem, q⟩ := q
      have g := hall c hmem
      subst e1
      exact ⟨.ref ad, .ref Da, _, _, true, rfl, .own Da, .base (.ins hH g.cl g.ha g.hn g.htk g.hm), g.is, (q.le l1).now rg1 (by simp [RelD])⟩
    · cases h
  | .bm f x xs, C, X, sc, ok, py, h => by
    simp only [chkE] at h
    split at h
    · rename_i o m apos es cpos
      simp only [Bool.and_eq_true, decide_eq_true_eq] at h
      obtain ⟨⟨⟨⟨⟨hm, hc⟩, hl⟩, hn⟩, hx⟩, ha⟩ := h
      subst hm
      have hs := chkEs_star ha
      have fin : ∀ {σ H Q}, Snd W (wpE Γ (.bm f x xs)) σ H Q → tBM X.K f.T (SMt W (wpBm f)) (Snd W (wpE Γ x)) (SndA W (wpEs Γ xs)) σ H Q := fun {σ H Q} ⟨env, G, rs, rg, q⟩ => by
        simp only [wpE] at q
        refine Snd.bind (wpE_m M x) rs rg q fun d G1 v H1 l1 rs1 rg1 rd1 q => ⟨by rw [ok.K]; exact rcv_inv rg1 rd1 q.1, ?_⟩
        refine SndA.bind (wpEs_m M xs) rs1 rg1 q.2 fun ds G2 vs H2 l2 rs2 rg2 rd2 q => ?_
        exact ⟨d, ds, G2, RelD.le l2 _ _ rd1, rd2, rg2, wpBm_mono (fun _ _ q => q.le (l1.trans l2)) q⟩
      cases es with
      | nil =>
        cases xs with
        | cons y ys => exact Bool.noConfusion (show false = true from ha)
        | nil =>
          refine (pe_bm0 f.pa f.slot f.ty (bm_all ok.K f) (snd_E M x ok hx) (base_of hc) hl).imp fun σ H Q q => ?_
          obtain ⟨env, G, rs, rg, q⟩ := q
          simp only [wpE, wpEs] at q
          refine Snd.bind (wpE_m M x) rs rg q fun d G1 v H1 l1 rs1 rg1 rd1 q => ⟨by rw [ok.K]; exact rcv_inv rg1 rd1 q.1, ?_⟩
          exact ⟨d, [], G1, rd1, .nil, rg1, wpBm_mono (fun _ _ q => q.le l1) q.2⟩
      | cons e es =>
        have hs2 : es.all starless = true := by rw [List.all_cons, Bool.and_eq_true] at hs; exact hs.2
        exact (pe_bm f.pa f.slot f.ty (bm_all ok.K f) (snd_E M x ok hx) (snd_Es M xs ok ha) (base_of hc) (few_of hs hn) hl (he_of hs) (hpl_of hs2)).imp fun σ H Q q => fin q
    · cases h
  | .fld x f, C, X, sc, ok, py, h => by
    simp only [chkE] at h
    split at h
    · rename_i a name pos
      simp only [Bool.and_eq_true, decide_eq_true_eq] at h
      obtain ⟨⟨hn, hc⟩, hx⟩ := h
      subst hn
      refine (pe_fld (snd_E M x ok hx) (base_of hc)).imp fun σ H Q ⟨env, G, rs, rg, q⟩ => ?_
      simp only [wpE] at q
      refine Snd.bind (wpE_m M x) rs rg q fun d G1 v H1 l1 rs1 rg1 rd1 q => ?_
      obtain ⟨ad, e1, _, q⟩ := asR_inv rd1 q
      obtain ⟨c, fs, dx, vs, ⟨hcl, q⟩, ga, ha, ra⟩ := onI_inv rg1 q
      unfold lkF at q
      split at q
      · rename_i d' el
        obtain ⟨u, lu, ru⟩ := ra.lookup el
        obtain ⟨k1, k2⟩ := ok.cl c hcl
        exact ⟨ad, _, dx, vs, u, e1, ha, k1, k2 f, lu, (q.le l1).now rg1 ru⟩
      · exact q.elim
    · cases h
  | .om k x xs, C, X, sc, ok, py, h => by
    simp only [chkE] at h
    split at h
    · rename_i o m apos es cpos
      simp only [Bool.and_eq_true, decide_eq_true_eq] at h
      obtain ⟨⟨⟨⟨⟨hm, hc⟩, hl⟩, hn⟩, hx⟩, ha⟩ := h
      have hs := chkEs_star ha
      obtain ⟨nfd, hmth⟩ := ok.mth k m hm
      cases es with
      | nil =>
        cases xs with
        | cons y ys => exact Bool.noConfusion (show false = true from ha)
        | nil =>
          refine (pe_methV0 (snd_E M x ok hx) (base_of hc) hl).imp fun σ H Q ⟨env, G, rs, rg, q⟩ => ?_
          simp only [wpE, wpEs] at q
          refine Snd.bind (wpE_m M x) rs rg q fun d G1 v H1 l1 rs1 rg1 rd1 q => ?_
          obtain ⟨ad, e1, ed, q⟩ := asR_inv rd1 q
          subst ed
          obtain ⟨c, fs, dx, vs, q, ga, hH, ra⟩ := onI_inv rg1 q
          split at q
          · rename_i sp el
            obtain ⟨f, fd, ps, kk, sp', dds, dvs, ds, hcl, hmt, F, hr, hb, hd, hdd, imp⟩ := (hmth c sp el).ex
            try simp only [wpEs] at q
            refine ⟨ad, _, dx, vs, f, e1, hH, ra.none nfd, hcl, hmt, fd, ps, kk, _, dvs, ds, F, hr, hb, hd, ?_⟩
            exact ⟨[.ref ad] ++ dds, G1, RelDs.append (.cons (by simp [RelD]) .nil) (hdd _), rg1.now, imp _ _ _ (M.mth' el _ _ _ _ (fun _ _ q => (q.le l1).at rg1.le) q)⟩
          · exact q.elim
      | cons e es =>
        have hs2 : es.all starless = true := by rw [List.all_cons, Bool.and_eq_true] at hs; exact hs.2
        refine (pe_methV (snd_E M x ok hx) (snd_Es M xs ok ha) (base_of hc) (few_of hs hn) hl (he_of hs) (hpl_of hs2)).imp fun σ H Q ⟨env, G, rs, rg, q⟩ => ?_
        simp only [wpE] at q
        refine Snd.bind (wpE_m M x) rs rg q fun d G1 v H1 l1 rs1 rg1 rd1 q => ?_
        obtain ⟨ad, e1, ed, q⟩ := asR_inv rd1 q
        subst ed
        obtain ⟨c, fs, dx, vs, q, ga, hH, ra⟩ := onI_inv rg1 q
        cases el : (Γ.mth.getD k []).lookup c with
        | none =>
          simp only [el] at q
        | some sp =>
          simp only [el] at q
          obtain ⟨f, fd, ps, kk, sp', dds, dvs, ds, hcl, hmt, F, hr, hb, hd, hdd, imp⟩ := (hmth c sp el).ex
          refine ⟨ad, _, dx, vs, f, e1, hH, ra.none nfd, hcl, hmt, ?_⟩
          refine SndA.bind (wpEs_m M xs) rs1 rg1 q fun ds2 G2 us H2 l2 rs2 rg2 rd2 q => ?_
          refine ⟨fd, ps, kk, _, dvs, ds, F, hr, hb, hd, ?_⟩
          exact ⟨(.ref ad :: ds2) ++ dds, G2, RelDs.append (.cons (by simp [RelD]) rd2) (hdd _), rg2.now, imp _ _ _ (M.mth' el _ _ _ _ (fun _ _ q => (q.le (l1.trans l2)).at rg2.le) q)⟩
    · cases h
  | .mk c xs, C, X, sc, ok, py, h => by
    simp only [chkE] at h
    split at h
    · rename_i x p es pos
      simp only [Bool.and_eq_true, decide_eq_true_eq] at h
      obtain ⟨⟨⟨⟨hf, hg⟩, hn⟩, he⟩, ha⟩ := h
      cases es with
      | nil => simp at he
      | cons e es =>
        have hs := chkEs_star ha
        have hs2 : es.all starless = true := by rw [List.all_cons, Bool.and_eq_true] at hs; exact hs.2
        cases em : Γ.mks[c]? with
        | none => exact ⟨fun pins s σ H Q I ⟨env, G, rs, rg, q⟩ => by simp only [wpE, em] at q⟩
        | some cm =>
          obtain ⟨cl, sp⟩ := cm
          obtain ⟨f, fd, ps, kk, sp', dds, dvs, ds, hx, hmk, hcf, F, hr, hb, hd, hdd, imp⟩ := (ok.mks c x hf cl sp em).ex
          refine (pe_make hmk F hr (ok.glb hg) hx hb hd pass0 (snd_Es M xs ok ha) (nmB_inv hn).1 (he_of hs) (hpl_of hs2)).imp fun σ H Q ⟨env, G, rs, rg, q⟩ => ?_
          simp only [wpE, em] at q
          refine SndA.bind (wpEs_m M xs) rs rg q fun ds2 G2 us H2 l2 rs2 rg2 rd2 q => ?_
          intro x dx hx0 hdx hne
          have hx1 : (upd H2 dx (.own x)) x = none := by rw [upd_ne (Ne.symm hne)]; exact hx0
          have l3 : TLe H2 (upd (upd H2 dx (.own x)) x (.ins (W.cls cl) dx [])) := (TLe.new hdx).trans (TLe.new hx1)
          have rg3 := (rg2.laid (o := .own x) hdx).new (o := .ins (W.cls cl) dx []) (u := .ins cl []) hx1 ⟨dx, [], upd_same, by simp [RelFs]⟩
          refine ⟨(.ref x :: ds2) ++ dds, _, RelDs.append (.cons (by simp [RelD]) (RelDs.le l3 _ _ rd2)) (hdd _), rg3.now, imp _ _ _ (M.mks _ (List.mem_of_getElem? em) _ _ _ _ (fun d G' h => ?_) (q x (rg2.free hx0)))⟩
          intro v H' l' rg' rd'
          obtain ⟨e, h⟩ := h
          subst e
          exact ⟨by simpa [RelD] using rd', h (.ref x) H' ((l2.trans l3).trans l') (rg'.back rg3.le) (by simp [RelD])⟩
    · cases h
  | .ini c xs, C, X, sc, ok, py, h => by
    simp only [chkE] at h
    split at h
    · rename_i x p m apos es pos
      simp only [Bool.and_eq_true, decide_eq_true_eq] at h
      obtain ⟨⟨⟨⟨⟨⟨⟨hf, hm⟩, hg⟩, hn⟩, hl⟩, hn30⟩, he⟩, ha⟩ := h
      subst hm
      cases es with
      | nil => simp at he
      | cons e es =>
        have hs := chkEs_star ha
        have hs2 : es.all starless = true := by rw [List.all_cons, Bool.and_eq_true] at hs; exact hs.2
        cases em : Γ.mks[c]? with
        | none => exact ⟨fun pins s σ H Q I ⟨env, G, rs, rg, q⟩ => by simp only [wpE, em] at q⟩
        | some cm =>
          obtain ⟨cl, sp⟩ := cm
          obtain ⟨f, fd, ps, kk, sp', dds, dvs, ds, hx, hmk, hcf, F, hr, hb, hd, hdd, imp⟩ := (ok.mks c x hf cl sp em).ex
          refine (pe_clsfn (ok.glb hg) hx (nmB_inv hn).1 hcf (snd_Es M xs ok ha) (few_of hs hn30) hl (he_of hs) (hpl_of hs2)).imp fun σ H Q ⟨env, G, rs, rg, q⟩ => ?_
          simp only [wpE, em] at q
          refine SndA.bind (wpEs_m M xs) rs rg q fun ds2 G2 us H2 l2 rs2 rg2 rd2 q => ?_
          refine ⟨fd, ps, kk, _, dvs, ds, F, hr.mono (Nat.le_succ _), hb, hd, ?_⟩
          exact ⟨ds2 ++ dds, G2, RelDs.append rd2 (hdd _), rg2.now, imp _ _ _ (M.mks _ (List.mem_of_getElem? em) _ _ _ _ (fun _ _ q => (q.le l2).at rg2.le) q)⟩
    · cases h
  | .lc it tg c x own, C, X, sc, ok, py, h => by
    simp only [chkE] at h
    split at h
    · rename_i elt t iter ifs z scope pos
      simp only [Bool.and_eq_true, decide_eq_true_eq] at h
      obtain ⟨⟨⟨⟨⟨⟨⟨⟨hot, hz⟩, hb⟩, hi⟩, hs⟩, hit⟩, ht⟩, hc⟩, hx⟩ := h
      subst hz
      have calm : X.calm = true := ok.calm (by simpa using hot)
      refine (pe_lc calm ok.nd (snd_It M it ok hit) (ok.blkOk hb) (fun s H D cl fp => pg_of (ok.blk scope s H D cl fp) calm ht) (fun s H D cl fp => snd_To M c (ok.blk scope s H D cl fp) hc)
        (fun s H D cl fp => snd_E M x (ok.blk scope s H D cl fp) hx) (folded_of hi)).imp fun σ H Q q => lc_reads M hs σ H Q ?_
      obtain ⟨env, G, rs, rg, q⟩ := q
      simp only [wpE] at q
      exact ⟨env, G, rs, rg, q⟩
    · cases h
theorem snd_Bop (M : Γ.Mono) : ∀ (xs : Es) {C : Ck} {X : Cx} {sc : Scope} (ok : Ok X W Γ C sc) {o : BoolOp} {es : List Expr} {pos : Pos}, chkEs C xs sc es = true → PE X (.BoolOp o es pos) (Snd W (wpBop Γ o xs))
  | .nil, C, X, sc, ok, o, es, pos, h => PE.no fun σ H Q ⟨env, G, rs, rg, q⟩ => by simp only [wpBop] at q
  | .cons x .nil, C, X, sc, ok, o, es, pos, h => by
    cases es with
    | nil => exact Bool.noConfusion (show false = true from h)
    | cons e es =>
      have h : (starless e && chkE C x sc e && chkEs C .nil sc es) = true := by simpa only [chkEs] using h
      simp only [Bool.and_eq_true] at h
      cases es with
      | cons _ _ => exact Bool.noConfusion (show false = true from h.2)
      | nil =>
        refine (pe_one (snd_E M x ok h.1.2)).imp fun σ H Q ⟨env, G, rs, rg, q⟩ => ?_
        simp only [wpBop] at q
        exact ⟨env, G, rs, rg, q⟩
  | .cons x (.cons y ys), C, X, sc, ok, o, es, pos, h => by
    cases es with
    | nil => exact Bool.noConfusion (show false = true from h)
    | cons e es =>
      have h : (starless e && chkE C x sc e && chkEs C (.cons y ys) sc es) = true := h
      simp only [Bool.and_eq_true] at h
      cases es with
      | nil => exact Bool.noConfusion (show false = true from h.2)
      | cons e' es =>
        have ih := fun o => snd_Bop M (.cons y ys) ok (o := o) (pos := pos) h.2
        cases o with
        | And =>
          refine (pe_and (snd_E M x ok h.1.2) (ih .And)).imp fun σ H Q ⟨env, G, rs, rg, q⟩ => ?_
          simp only [wpBop] at q
          refine Snd.bind (wpE_m M x) rs rg q fun d G1 v H1 l1 rs1 rg1 rd1 q => ?_
          obtain ⟨b, e, q⟩ := asB_inv rd1 q
          refine ⟨b, e, ?_⟩
          cases b with
          | true => exact ⟨env, G1, rs1, rg1, wpBop_mono M _ _ _ _ _ _ (fun _ _ q => q.le l1) q⟩
          | false => exact (q.le l1).now rg1 (by simp [RelD])
        | Or =>
          refine (pe_or (snd_E M x ok h.1.2) (ih .Or)).imp fun σ H Q ⟨env, G, rs, rg, q⟩ => ?_
          simp only [wpBop] at q
          refine Snd.bind (wpE_m M x) rs rg q fun d G1 v H1 l1 rs1 rg1 rd1 q => ?_
          obtain ⟨b, e, q⟩ := asB_inv rd1 q
          refine ⟨b, e, ?_⟩
          cases b with
          | false => exact ⟨env, G1, rs1, rg1, wpBop_mono M _ _ _ _ _ _ (fun _ _ q => q.le l1) q⟩
          | true => exact (q.le l1).now rg1 (by simp [RelD])
theorem snd_Fs (M : Γ.Mono) : ∀ (xs : Es) {C : Ck} {X : Cx} {sc : Scope} (ok : Ok X W Γ C sc) {es : List Expr}, chkFs C xs sc es = true →
    ∃ ts, PJ X es ts ∧ ∀ (z : Str) (σ : L2.St) (H : Hp) (R : Str → Hp → Prop) (env : Ev) (G : Gp), RelSt W.K H env σ → RelG W H G → wpFs Γ xs env G z (fun y G' => ∀ H', TLe H H' → RelG W H' G' → R y H') → tJs ts z σ H R
  | .nil, C, X, sc, ok, es, h => by
    cases es with
    | nil =>
      refine ⟨[], .nil, fun z σ H R env G rs rg q => ?_⟩
      simp only [wpFs] at q
      exact q H .rfl rg
    | cons _ _ => exact Bool.noConfusion (show false = true from h)
  | .cons x xs, C, X, sc, ok, es, h => by
    cases es with
    | nil => exact Bool.noConfusion (show false = true from h)
    | cons e es =>
      have h : (chkE C x sc e && chkFs C xs sc es) = true := h
      simp only [Bool.and_eq_true] at h
      obtain ⟨ts, hp, hi⟩ := snd_Fs M xs ok h.2
      refine ⟨_ :: ts, .cons (snd_E M x ok h.1) hp, fun z σ H R env G rs rg q => ?_⟩
      simp only [wpFs] at q
      refine Snd.bind (wpE_m M x) rs rg q fun d G1 v H1 l1 rs1 rg1 rd1 q => ?_
      obtain ⟨y, ey, hl, q⟩ := asS_inv rd1 q
      refine ⟨y, ey, hl, hi _ σ H1 R env G1 rs1 rg1 (wpFs_mono M xs env G1 _ _ _ (fun w G2 q H2 l2 rg2 => q H2 (l1.trans l2) rg2) q)⟩
theorem snd_Es (M : Γ.Mono) : ∀ (xs : Es) {C : Ck} {X : Cx} {sc : Scope} (ok : Ok X W Γ C sc) {es : List Expr}, chkEs C xs sc es = true → PA X es (SndA W (wpEs Γ xs))
  | .nil, C, X, sc, ok, es, h => by
    cases es with
    | nil =>
      refine pa_nil.imp fun σ H Q ⟨env, G, rs, rg, q⟩ => ?_
      simp only [wpEs] at q
      exact q _ _ .rfl rg .nil
    | cons _ _ => exact Bool.noConfusion (show false = true from h)
  | .cons x xs, C, X, sc, ok, es, h => by
    have hs := chkEs_star h
    cases es with
    | nil => exact Bool.noConfusion (show false = true from h)
    | cons e es =>
      have h : (starless e && chkE C x sc e && chkEs C xs sc es) = true := h
      simp only [Bool.and_eq_true] at h
      refine (pa_cons (snd_E M x ok h.1.2) (snd_Es M xs ok h.2) (he_of hs)).imp fun σ H Q ⟨env, G, rs, rg, q⟩ => ?_
      simp only [wpEs] at q
      refine Snd.bind (wpE_m M x) rs rg q fun d G1 v H1 l1 rs1 rg1 rd1 q => ?_
      refine SndA.bind (wpEs_m M xs) rs1 rg1 q fun ds G2 vs H2 l2 rs2 rg2 rd2 q => ?_
      exact q _ _ (l1.trans l2) rg2 (.cons (RelD.le l2 _ _ rd1) rd2)
theorem snd_Eo (M : Γ.Mono) : ∀ (x : Eo) {C : Ck} {X : Cx} {sc : Scope} (ok : Ok X W Γ C sc) {e : Option Expr}, chkEo C x sc e = true → PO X e (SndO W (wpEo Γ x))
  | .none, C, X, sc, ok, e, h => by
    cases e with
    | none =>
      refine ⟨fun pins s σ H Q I ⟨env, G, rs, rg, q⟩ => po_none.run pins s σ H Q I ?_⟩
      simp only [wpEo] at q
      exact q _ .rfl rg
    | some _ => exact Bool.noConfusion (show false = true from h)
  | .some x, C, X, sc, ok, e, h => by
    cases e with
    | none => exact Bool.noConfusion (show false = true from h)
    | some e =>
      have h : chkE C x sc e = true := h
      refine ⟨fun pins s σ H Q I ⟨env, G, rs, rg, q⟩ => (po_some (snd_E M x ok h)).run pins s σ H Q I ?_⟩
      simp only [wpEo] at q
      refine Snd.bind (wpE_m M x) rs rg q fun d G1 v H1 l1 rs1 rg1 rd1 q => ?_
      obtain ⟨i, e, q⟩ := asI_inv rd1 q
      exact ⟨i, e, q _ l1 rg1⟩
theorem snd_T (M : Γ.Mono) : ∀ (x : T) {C : Ck} {X : Cx} {sc : Scope} (ok : Ok X W Γ C sc) {py : Expr}, chkT C x sc py = true → PT X py (SndB W (wpT Γ x))
  | .e x, C, X, sc, ok, py, h => by
    simp only [chkT, Bool.and_eq_true] at h
    refine (pt_truth (snd_E M x ok h.2) (plain_truth h.1 _)).imp fun σ H Q ⟨env, G, rs, rg, q⟩ => ?_
    simp only [wpT] at q
    refine Snd.bind (wpE_m M x) rs rg q fun d G1 v H1 l1 rs1 rg1 rd1 q => ?_
    obtain ⟨b, e, q⟩ := truth_inv rg1 rd1 q
    exact ⟨b, by rw [ok.K]; exact e, q _ l1 rg1⟩
  | .nne x y, C, X, sc, ok, py, h => by
    simp only [chkT] at h
    split at h
    · simp only [Bool.and_eq_true] at h
      obtain ⟨⟨⟨hc0, hst⟩, hx⟩, hy⟩ := h
      have ho := op_nne (X := X) (by have := ok.un; omega)
      rw [← ok.hs hc0, ok.K] at ho
      refine (pt_cmpR ho (snd_E M x ok hx) (snd_E M y ok hy) (marks_of hst)).imp fun σ H Q ⟨env, G, rs, rg, q⟩ => ?_
      simp only [wpT] at q
      refine Snd.bind (wpE_m M x) rs rg q fun d G1 v H1 l1 rs1 rg1 rd1 q => ?_
      refine Snd.bind (wpE_m M y) rs1 rg1 q fun e G2 u H2 l2 rs2 rg2 rd2 q => ?_
      obtain ⟨a, e1, _, q⟩ := asR_inv (RelD.le l2 _ _ rd1) q
      obtain ⟨b, e2, _, q⟩ := asR_inv rd2 q
      obtain ⟨kvs, o, q, _, na, nda⟩ := onN_inv rg2 q
      obtain ⟨lvs, o', q, _, nb, ndb⟩ := onN_inv rg2 q
      exact ⟨a, b, o, o', kvs, lvs, e1, e2, na, nda, nb, ndb, q.1, _, rfl, q.2 _ (l1.trans l2) rg2⟩
    · cases h
  | .dic neg k x, C, X, sc, ok, py, h => by
    simp only [chkT] at h
    split at h
    · simp only [Bool.and_eq_true, decide_eq_true_eq] at h
      obtain ⟨⟨⟨⟨ho, hk⟩, hg⟩, hn⟩, hx⟩ := h
      obtain ⟨d0, es, n, hm, kd, hz⟩ := ok.dic _ _ hk
      subst ho
      cases neg with
      | false =>
        refine (pt_cmpR (op_in_kd kd) (snd_E M x ok hx) (pe_glob (v := .ref d0) (ok.glb hg) hm rfl (nmB_inv hn).1) (marks_of rfl)).imp fun σ H Q ⟨env, G, rs, rg, q⟩ => ?_
        simp only [wpT] at q
        refine Snd.bind (wpE_m M x) rs rg q fun d G1 v H1 l1 rs1 rg1 rd1 q => ?_
        obtain ⟨s, e, q⟩ := asS_inv rd1 q
        subst e
        obtain ⟨r, e1, e2, e3⟩ := hz s
        have eb : r.isSome = (dget (nthL Γ.dic k) s).isSome := by
          cases e : dget (nthL Γ.dic k) s with
          | none => rw [e2 e]; rfl
          | some i => obtain ⟨u, rfl, _⟩ := e3 i e; rfl
        refine ⟨s, r, rfl, rfl, e1, ?_⟩
        rw [eb]
        exact ⟨_, rfl, q _ l1 rg1⟩
      | true =>
        refine (pt_cmpR (op_notIn_kd kd) (snd_E M x ok hx) (pe_glob (v := .ref d0) (ok.glb hg) hm rfl (nmB_inv hn).1) (marks_of rfl)).imp fun σ H Q ⟨env, G, rs, rg, q⟩ => ?_
        simp only [wpT] at q
        refine Snd.bind (wpE_m M x) rs rg q fun d G1 v H1 l1 rs1 rg1 rd1 q => ?_
        obtain ⟨s, e, q⟩ := asS_inv rd1 q
        subst e
        obtain ⟨r, e1, e2, e3⟩ := hz s
        have eb : r.isSome = (dget (nthL Γ.dic k) s).isSome := by
          cases e : dget (nthL Γ.dic k) s with
          | none => rw [e2 e]; rfl
          | some i => obtain ⟨u, rfl, _⟩ := e3 i e; rfl
        refine ⟨s, r, rfl, rfl, e1, ?_⟩
        rw [eb]
        exact ⟨_, rfl, q _ l1 rg1⟩
    · cases h
  | .cmp o x y, C, X, sc, ok, py, h => by
    simp only [chkT] at h
    split at h
    · simp only [Bool.and_eq_true, decide_eq_true_eq] at h
      cases h.1.1.1
      refine (pt_cmpR (op_cmp ok.K ok.un o) (snd_E M x ok h.1.2) (snd_E M y ok h.2) (marks_of h.1.1.2)).imp fun σ H Q ⟨env, G, rs, rg, q⟩ => ?_
      simp only [wpT] at q
      refine Snd.bind (wpE_m M x) rs rg q fun d G1 v H1 l1 rs1 rg1 rd1 q => ?_
      refine Snd.bind (wpE_m M y) rs1 rg1 q fun e G2 u H2 l2 rs2 rg2 rd2 q => ?_
      exact ⟨d, e, G2, RelD.le l2 _ _ rd1, rd2, rg2, wpCmp_mono (fun b q w H3 l3 rg3 rd3 => ⟨b, rbl rd3, q _ ((l1.trans l2).trans l3) rg3⟩) q⟩
    · cases h
  | .cmp2 o p x y z, C, X, sc, ok, py, h => by
    simp only [chkT] at h
    split at h
    · simp only [Bool.and_eq_true, decide_eq_true_eq] at h
      obtain ⟨⟨⟨⟨⟨ho, hp⟩, hz⟩, hx⟩, hy⟩, hw⟩ := h
      cases ho; cases hp
      refine (pt_chain (op_cmp ok.K ok.un o) (op_cmp ok.K ok.un p) (snd_E M x ok hx) (snd_E M y ok hy) (snd_E M z ok hw) (by unfold lastMarks lastMarks; exact marks_of hz)).imp fun σ H Q ⟨env, G, rs, rg, q⟩ => ?_
      simp only [wpT] at q
      refine Snd.bind (wpE_m M x) rs rg q fun d G1 v H1 l1 rs1 rg1 rd1 q => ?_
      refine Snd.bind (wpE_m M y) rs1 rg1 q fun e G2 u H2 l2 rs2 rg2 rd2 q => ?_
      refine ⟨d, e, G2, RelD.le l2 _ _ rd1, rd2, rg2, wpCmp_mono (fun b q w H3 l3 rg3 rd3 => ?_) q⟩
      cases rbl rd3
      refine ⟨b, rfl, ?_⟩
      have l13 := (l1.trans l2).trans l3
      cases b with
      | false => exact ⟨false, rfl, q _ l13 rg3⟩
      | true =>
        rw [if_pos rfl] at q ⊢
        refine Snd.bind (wpE_m M z) (rs2.le l3) rg3 q fun f G4 t H4 l4 rs4 rg4 rd4 q => ?_
        exact ⟨e, f, G4, RelD.le l4 _ _ (RelD.le l3 _ _ rd2), rd4, rg4, wpCmp_mono (fun b q w H5 l5 rg5 rd5 => ⟨b, rbl rd5, q _ ((l13.trans l4).trans l5) rg5⟩) q⟩
    · cases h
  | .not t, C, X, sc, ok, py, h => by
    simp only [chkT] at h
    split at h
    · refine (pt_not (snd_T M t ok h)).imp fun σ H Q ⟨env, G, rs, rg, q⟩ => ?_
      simp only [wpT] at q
      exact SndB.bind (wpT_m M t) rs rg q fun b G1 H1 l1 rs1 rg1 q => q _ l1 rg1
    · cases h
  | .bop o ts, C, X, sc, ok, py, h => by
    simp only [chkT] at h
    split at h
    · simp only [Bool.and_eq_true, decide_eq_true_eq] at h
      cases h.1
      refine (snd_Ts M ts ok h.2).pt.imp fun σ H Q ⟨env, G, rs, rg, q⟩ => ?_
      simp only [wpT] at q
      exact ⟨env, G, rs, rg, q⟩
    · cases h
theorem snd_Ts (M : Γ.Mono) : ∀ (xs : Ts) {C : Ck} {X : Cx} {sc : Scope} (ok : Ok X W Γ C sc) {o : BoolOp} {es : List Expr} {pos : Pos}, chkTs C xs sc es = true → PW X (.BoolOp o es pos) (SndB W (wpTs Γ o xs))
  | .nil, C, X, sc, ok, o, es, pos, h => ⟨fun _ _ _ _ _ _ _ ⟨env, G, rs, rg, q⟩ => by simp only [wpTs] at q⟩
  | .cons x .nil, C, X, sc, ok, o, es, pos, h => by
    cases es with
    | nil => exact Bool.noConfusion (show false = true from h)
    | cons e es =>
      have h : (chkT C x sc e && chkTs C .nil sc es) = true := h
      simp only [Bool.and_eq_true] at h
      cases es with
      | cons _ _ => exact Bool.noConfusion (show false = true from h.2)
      | nil =>
        cases o with
        | And =>
          refine (pw_and1 (snd_T M x ok h.1)).imp fun σ H Q ⟨env, G, rs, rg, q⟩ => ?_
          simp only [wpTs] at q
          exact ⟨env, G, rs, rg, q⟩
        | Or =>
          refine (pw_or1 (snd_T M x ok h.1)).imp fun σ H Q ⟨env, G, rs, rg, q⟩ => ?_
          simp only [wpTs] at q
          exact ⟨env, G, rs, rg, q⟩
  | .cons x (.cons y ys), C, X, sc, ok, o, es, pos, h => by
    cases es with
    | nil => exact Bool.noConfusion (show false = true from h)
    | cons e es =>
      have h : (chkT C x sc e && chkTs C (.cons y ys) sc es) = true := h
      simp only [Bool.and_eq_true] at h
      cases es with
      | nil => exact Bool.noConfusion (show false = true from h.2)
      | cons e' es =>
        have ih := fun o => snd_Ts M (.cons y ys) ok (o := o) (pos := pos) h.2
        cases o with
        | And =>
          refine (pw_and (snd_T M x ok h.1) (ih .And)).imp fun σ H Q ⟨env, G, rs, rg, q⟩ => ?_
          simp only [wpTs] at q
          refine SndB.bind (wpT_m M x) rs rg q fun b G1 H1 l1 rs1 rg1 q => ?_
          cases b with
          | true => exact ⟨env, G1, rs1, rg1, wpTs_mono M _ _ _ _ _ _ (fun _ _ q H2 l2 rg2 => q _ (l1.trans l2) rg2) q⟩
          | false => exact q _ l1 rg1
        | Or =>
          refine (pw_or (snd_T M x ok h.1) (ih .Or)).imp fun σ H Q ⟨env, G, rs, rg, q⟩ => ?_
          simp only [wpTs] at q
          refine SndB.bind (wpT_m M x) rs rg q fun b G1 H1 l1 rs1 rg1 q => ?_
          cases b with
          | false => exact ⟨env, G1, rs1, rg1, wpTs_mono M _ _ _ _ _ _ (fun _ _ q H2 l2 rg2 => q _ (l1.trans l2) rg2) q⟩
          | true => exact q _ l1 rg1
theorem snd_To (M : Γ.Mono) : ∀ (x : To) {C : Ck} {X : Cx} {sc : Scope} (ok : Ok X W Γ C sc) {es : List Expr}, chkTo C x sc es = true → PTs X es (SndB W (wpTo Γ x))
  | .none, C, X, sc, ok, es, h => by
    cases es with
    | nil =>
      refine pts_nil.imp fun σ H Q ⟨env, G, rs, rg, q⟩ => ?_
      simp only [wpTo] at q
      exact q _ .rfl rg
    | cons _ _ => exact Bool.noConfusion (show false = true from h)
  | .some t, C, X, sc, ok, es, h => by
    match es, h with
    | [e], h =>
      have h : chkT C t sc e = true := h
      refine (pts_one (snd_T M t ok h)).imp fun σ H Q ⟨env, G, rs, rg, q⟩ => ?_
      simp only [wpTo] at q
      exact ⟨env, G, rs, rg, q⟩
    | [], h => exact Bool.noConfusion (show false = true from h)
    | _ :: _ :: _, h => exact Bool.noConfusion (show false = true from h)
theorem snd_It (M : Γ.Mono) : ∀ (x : It) {C : Ck} {X : Cx} {sc : Scope} (ok : Ok X W Γ C sc) {py tg : Expr}, chkIt C x sc py tg = true → PI X tg py (SndI W (wpIt Γ x))
  | .seq x, C, X, sc, ok, py, tg, h => by
    simp only [chkIt] at h
    refine (pi_any (snd_E M x ok h)).imp fun σ H R ⟨env, G, rs, rg, q⟩ => ?_
    simp only [wpIt] at q
    refine Snd.bind (wpE_m M x) rs rg q fun d G1 v H1 l1 rs1 rg1 rd1 q => ?_
    have go : ∀ {d : D}, RelD W.K H1 d v → (items G1 d fun xs => (fun ds chk G' => ∀ J H', TLe H H' → RelG W H' G' → Srv W J H' ds chk → R J H') xs (chkOf d xs) G1) →
        (∃ a, v = .ref a ∧ (∃ xs, SqL X.K H1 a xs) ∧ R (Itl X.K a) H1) ∨ (∃ a, v = .ref a ∧ (∃ xs, SqT X.K H1 a xs) ∧ R (Itt X.K a) H1) ∨ ∃ z, v = .str z ∧ R (Its z) H1 := fun {d} rd1 q => by
      obtain ⟨xs, q, hi⟩ := items_eq q
      by_cases nt : ∀ ys, d ≠ .tup ys
      · obtain ⟨a, e, hc, f⟩ := lst_at rg1 rd1 nt hi
        obtain ⟨vs, sq, r⟩ := f H1 G1 .rfl rg1 hc
        refine .inl ⟨a, e, ⟨vs, by rw [ok.K]; exact sq⟩, ?_⟩
        rw [ok.K]
        exact q _ _ l1 rg1 (srv_list f)
      · cases d with
        | tup ys =>
          simp only [RelD] at rd1
          obtain ⟨a, vs, e, sq, r⟩ := rd1
          cases (show xs = _ from hi)
          refine .inr (.inl ⟨a, e, ⟨vs, by rw [ok.K]; exact sq⟩, ?_⟩)
          rw [ok.K]
          exact q _ _ l1 rg1 (srv_tup sq r)
        | _ => exact absurd (fun _ z => nomatch z) nt
    cases d with
    | str z => exact .inr (.inr ⟨z, rstr rd1, q _ _ l1 rg1 srv_str⟩)
    | non => exact go rd1 q
    | bl _ => exact go rd1 q
    | int _ => exact go rd1 q
    | tup _ => exact go rd1 q
    | ro _ => exact go rd1 q
    | ref _ => exact go rd1 q
  | .rng1 x, C, X, sc, ok, py, tg, h => by
    simp only [chkIt] at h
    split at h
    · rename_i n p a pos
      simp only [Bool.and_eq_true, decide_eq_true_eq] at h
      obtain ⟨⟨⟨⟨hn, hb⟩, hg⟩, hs⟩, hx⟩ := h
      subst hn
      have hs : [a].all starless = true := by simp [hs]
      refine (pi_range1 (ok.glb hg) (ok.bn _ hb) (pa_cons (snd_E M x ok hx) pa_nil (he_of hs)) (by rw [starEach_of hs]; rfl)).imp fun σ H R ⟨env, G, rs, rg, q⟩ => ?_
      simp only [wpIt] at q
      refine Snd.bind (wpE_m M x) rs rg q fun d G1 v H1 l1 rs1 rg1 rd1 q => ?_
      obtain ⟨i, e, q⟩ := asI_inv rd1 q
      exact ⟨i, by rw [e], q.1.1, q.1.2, q.2 _ _ l1 rg1 srv_rng⟩
    · cases h
  | .rng2 x y, C, X, sc, ok, py, tg, h => by
    simp only [chkIt] at h
    split at h
    · rename_i n p a b pos
      simp only [Bool.and_eq_true, decide_eq_true_eq] at h
      obtain ⟨⟨⟨⟨⟨⟨hn, hb⟩, hg⟩, hs1⟩, hs2⟩, hx⟩, hy⟩ := h
      subst hn
      have hs : [a, b].all starless = true := by simp [hs1, hs2]
      have hs' : [b].all starless = true := by simp [hs2]
      refine (pi_range2 (ok.glb hg) (ok.bn _ hb) (pa_cons (snd_E M x ok hx) (pa_cons (snd_E M y ok hy) pa_nil (he_of hs')) (he_of hs)) (by rw [starEach_of hs]; rfl) (by rw [starEach_of hs']; rfl)).imp fun σ H R ⟨env, G, rs, rg, q⟩ => ?_
      simp only [wpIt] at q
      refine Snd.bind (wpE_m M x) rs rg q fun d G1 v H1 l1 rs1 rg1 rd1 q => ?_
      refine Snd.bind (wpE_m M y) rs1 rg1 q fun e G2 u H2 l2 rs2 rg2 rd2 q => ?_
      obtain ⟨i, e1, q⟩ := asI_inv (RelD.le l2 _ _ rd1) q
      obtain ⟨j, e2, q⟩ := asI_inv rd2 q
      exact ⟨i, j, by rw [e1, e2], ⟨q.1.1, q.1.2, q.2.1.1, q.2.1.2⟩, q.2.2 _ _ (l1.trans l2) rg2 srv_rng⟩
    · cases h
  | .rng3 x y z, C, X, sc, ok, py, tg, h => by
    simp only [chkIt] at h
    split at h
    · rename_i n p a b c pos
      simp only [Bool.and_eq_true, decide_eq_true_eq] at h
      obtain ⟨⟨⟨⟨⟨⟨⟨⟨hn, hb⟩, hg⟩, hs1⟩, hs2⟩, hs3⟩, hx⟩, hy⟩, hz⟩ := h
      subst hn
      have hs : [a, b, c].all starless = true := by simp [hs1, hs2, hs3]
      have hs' : [b, c].all starless = true := by simp [hs2, hs3]
      have hs'' : [c].all starless = true := by simp [hs3]
      refine (pi_range3 (ok.glb hg) (ok.bn _ hb) (pa_cons (snd_E M x ok hx) (pa_cons (snd_E M y ok hy) (pa_cons (snd_E M z ok hz) pa_nil (he_of hs'')) (he_of hs')) (he_of hs)) (he_of hs) (hpl_of hs')).imp fun σ H R ⟨env, G, rs, rg, q⟩ => ?_
      simp only [wpIt] at q
      refine Snd.bind (wpE_m M x) rs rg q fun d G1 v H1 l1 rs1 rg1 rd1 q => ?_
      refine Snd.bind (wpE_m M y) rs1 rg1 q fun e G2 u H2 l2 rs2 rg2 rd2 q => ?_
      refine Snd.bind (wpE_m M z) rs2 rg2 q fun f G3 w H3 l3 rs3 rg3 rd3 q => ?_
      obtain ⟨i, e1, q⟩ := asI_inv (RelD.le l3 _ _ (RelD.le l2 _ _ rd1)) q
      obtain ⟨j, e2, q⟩ := asI_inv (RelD.le l3 _ _ rd2) q
      obtain ⟨c, e3, n, hr, q⟩ := asI_inv rd3 q
      exact ⟨i, j, c, n, by rw [e1, e2, e3], hr, q _ _ ((l1.trans l2).trans l3) rg3 srv_rngC⟩
    · cases h
  | .enum x, C, X, sc, ok, py, tg, h => by
    simp only [chkIt] at h
    split at h
    · rename_i n p a pos
      simp only [Bool.and_eq_true, decide_eq_true_eq] at h
      obtain ⟨⟨⟨⟨⟨hn, hb⟩, hg⟩, hs⟩, ht⟩, hx⟩ := h
      subst hn
      have hs : [a].all starless = true := by simp [hs]
      cases tg with
      | Tuple elts kk tpos =>
        refine (pi_enum (ok.glb hg) (ok.bn _ hb) (pa_cons (snd_E M x ok hx) pa_nil (he_of hs)) (by rw [starEach_of hs]; rfl)).imp fun σ H R ⟨env, G, rs, rg, q⟩ => ?_
        simp only [wpIt] at q
        refine Snd.bind (wpE_m M x) rs rg q fun d G1 v H1 l1 rs1 rg1 rd1 q => ?_
        obtain ⟨xs, ⟨nt, q⟩, hi⟩ := items_eq q
        obtain ⟨a, e, hc, f⟩ := lst_at rg1 rd1 nt hi
        obtain ⟨vs, sq, r⟩ := f H1 G1 .rfl rg1 hc
        refine ⟨a, vs, by rw [e], by rw [ok.K]; exact sq, ?_⟩
        rw [ok.K]
        exact q _ _ l1 rg1 (srv_enum f)
      | _ => exact Bool.noConfusion (show false = true from ht)
    · cases h
  | .zip x y, C, X, sc, ok, py, tg, h => by
    simp only [chkIt] at h
    split at h
    · rename_i n p a b pos
      simp only [Bool.and_eq_true, decide_eq_true_eq] at h
      obtain ⟨⟨⟨⟨⟨⟨⟨hn, hb⟩, hg⟩, hs1⟩, hs2⟩, ht⟩, hx⟩, hy⟩ := h
      subst hn
      have hs : [a, b].all starless = true := by simp [hs1, hs2]
      have hs' : [b].all starless = true := by simp [hs2]
      cases tg with
      | Tuple elts kk tpos =>
        refine (pi_zip (ok.glb hg) (ok.bn _ hb) (pa_cons (snd_E M x ok hx) (pa_cons (snd_E M y ok hy) pa_nil (he_of hs')) (he_of hs)) (he_of hs) (hpl_of hs')).imp fun σ H R ⟨env, G, rs, rg, q⟩ => ?_
        simp only [wpIt] at q
        refine Snd.bind (wpE_m M x) rs rg q fun d G1 v H1 l1 rs1 rg1 rd1 q => ?_
        refine Snd.bind (wpE_m M y) rs1 rg1 q fun e G2 u H2 l2 rs2 rg2 rd2 q => ?_
        obtain ⟨xs, q, hi⟩ := items_eq q
        obtain ⟨ys, ⟨nt1, nt2, q⟩, hj⟩ := items_eq q
        obtain ⟨a, e1, hc1, f⟩ := lst_at rg2 (RelD.le l2 _ _ rd1) nt1 hi
        obtain ⟨b, e2, hc2, g⟩ := lst_at rg2 rd2 nt2 hj
        obtain ⟨vs, sq, r⟩ := f H2 G2 .rfl rg2 hc1
        obtain ⟨us, sq', r'⟩ := g H2 G2 .rfl rg2 hc2
        refine ⟨a, b, vs, us, by rw [e1, e2], by rw [ok.K]; exact sq, by rw [ok.K]; exact sq', ?_⟩
        rw [ok.K]
        exact q _ _ (l1.trans l2) rg2 (srv_zip (fun H G l rg c => f H G l rg c.1) (fun H G l rg c => g H G l rg c.2))
      | _ => exact Bool.noConfusion (show false = true from ht)
    · cases h
  | .nk x, C, X, sc, ok, py, tg, h => by
    simp only [chkIt, Bool.and_eq_true] at h
    have pi := pi_nkeys (tg := tg) (snd_E M x ok h.2)
    rw [← ok.hs h.1, ok.K] at pi
    refine pi.imp fun σ H R ⟨env, G, rs, rg, q⟩ => ?_
    simp only [wpIt] at q
    refine Snd.bind (wpE_m M x) rs rg q fun d G1 v H1 l1 rs1 rg1 rd1 q => ?_
    obtain ⟨a, e1, _, q⟩ := asR_inv rd1 q
    obtain ⟨kvs, o, q, _, na, nd⟩ := onN_inv rg1 q
    exact ⟨a, o, kvs, e1, na, nd, q _ _ l1 rg1 srv_nk⟩
  | .rev x, C, X, sc, ok, py, tg, h => by
    simp only [chkIt] at h
    split at h
    · rename_i n p a pos
      simp only [Bool.and_eq_true, decide_eq_true_eq] at h
      obtain ⟨⟨⟨⟨hn, hb⟩, hg⟩, hs⟩, hx⟩ := h
      subst hn
      have hs : [a].all starless = true := by simp [hs]
      refine (pi_reversed (ok.glb hg) (ok.bn _ hb) (pa_cons (snd_E M x ok hx) pa_nil (he_of hs)) (by rw [starEach_of hs]; rfl)).imp fun σ H R ⟨env, G, rs, rg, q⟩ => ?_
      simp only [wpIt] at q
      refine Snd.bind (wpE_m M x) rs rg q fun d G1 v H1 l1 rs1 rg1 rd1 q => ?_
      obtain ⟨xs, ⟨nt, q⟩, hi⟩ := items_eq q
      obtain ⟨a, e, hc, f⟩ := lst_at rg1 rd1 nt hi
      obtain ⟨vs, sq, r⟩ := f H1 G1 .rfl rg1 hc
      refine ⟨a, vs, by rw [e], by rw [ok.K]; exact sq, ?_⟩
      rw [ok.K]
      exact q _ _ l1 rg1 (srv_rev r.length.symm f)
    · cases h
end
end
end DL
namespace DL
open PySem PySem.Spec PyProof.Rows L2
section
variable {W : Wd} {Γ : Gam}
theorem swap_no {e : Expr} {t : Option Expr} {l : Nat} {env : Env} (h : compless e = true) : swapsWith e t l env = pure false := by
  cases e <;> first | rfl | exact Bool.noConfusion (show false = true from h)
theorem swap_cell {e : Expr} {y : Str} {p : Pos} {l : Nat} {env : Env} (hk : env.scope.kind = .function) (h : env.scope.names.lookup y = some .cell) : swapsWith e (some (.Name y p)) l env = pure false := by
  have k : env.kindOf y = some .cell := h
  have b : env.blockKind = .function := by
    unfold Env.blockKind
    rw [hk]; rfl
  cases e <;> first | rfl | (
    unfold swapsWith
    simp only [k, b]
    rfl)
theorem swap_other {e t : Expr} {l : Nat} {env : Env} (h : ∀ y p, t ≠ .Name y p) : swapsWith e (some t) l env = pure false := by
  cases e <;> first | rfl | (
    unfold swapsWith
    cases t <;> first | rfl | exact absurd rfl (h _ _))
def nameless : Expr → Bool
  | .Name .. => false
  | _ => true
theorem sole_other {e t : Expr} {l : Nat} {env : Env} (h : nameless t = true) : swapsWithSole [t] e l env = pure false :=
  swap_other (t := t) fun y p z => by subst z; exact Bool.noConfusion (show false = true from h)
theorem stores_no {t e : Expr} {env : Env} (h : tupless e = true) : swappedStores [t] e env = pure none := by
  cases e <;> first | exact Bool.noConfusion (show false = true from h) | (cases t <;> rfl)
theorem stores_sub {a b e : Expr} {p : Pos} {env : Env} : swappedStores [.Subscript a b p] e env = pure none := by
  cases e <;> rfl
def isStar : Expr → Bool
  | .Starred .. => true
  | _ => false
theorem isStar_no {e : Expr} (h : starless e = true) : isStar e = false := by
  cases e <;> first | rfl | exact Bool.noConfusion (show false = true from h)
theorem stores_par {a b : Str} {pa pb pt : Pos} {k k2 : Nat} {pt2 : Pos} {e f : Expr} {env : Env} (hk : env.scope.kind = .function) (ha : env.scope.names.lookup a = some .local) (hb : env.scope.names.lookup b = some .local)
    (hab : a ≠ b) (hl : (pa.line == pb.line) = true) (s1 : starless e = true) (s2 : starless f = true) (c1 : [e, f].all (foldedForSure 8) = false) (c2 : [e, f].all (constantsAlone 8) = false) :
    swappedStores [.Tuple [.Name a pa, .Name b pb] k pt] (.Tuple [e, f] k2 pt2) env = pure (some [a, b]) := by
  have k1 : env.kindOf a = some .local := ha
  have k2' : env.kindOf b = some .local := hb
  have bk : env.blockKind = .function := by
    unfold Env.blockKind
    rw [hk]; rfl
  have st : [e, f].any isStar = false := by
    rw [List.any_cons, List.any_cons, List.any_nil, isStar_no s1, isStar_no s2]; rfl
  have hl' : (pb.line == pa.line) = true := by
    have := eq_of_beq hl
    rw [this]; exact beq_self_eq_true _
  have hne : (a == b) = false := beq_eq_false_iff_ne.mpr hab
  have hne' : (b == a) = false := beq_eq_false_iff_ne.mpr (Ne.symm hab)
  have ed : ([a, b].eraseDups).length = 2 := by
    simp [List.eraseDups_cons, hne']
  unfold swappedStores
  simp only [bk, List.length_cons, List.length_nil, List.head?_cons, Option.map_some, Option.getD_some, Expr.pos, List.filterMap_cons, k1, k2', List.filterMap_nil, hl', beq_self_eq_true, Bool.and_self, if_true, c1, c2, ed]
  refine (if_neg (by decide)).trans ((if_neg fun z => ?_).trans ((if_neg (by decide)).trans ((if_neg (by decide)).trans (if_neg (by decide)))))
  have z' : [e, f].any isStar = true := z
  rw [st] at z'
  cases z'
theorem wpS_m (M : Γ.Mono) (x : S) {D D' : Dn} {env : Ev} {G : Gp} (f : DnLe D D') (h : wpS Γ x D env G) : wpS Γ x D' env G := wpS_mono M x D D' env G f h
theorem wpB_m (M : Γ.Mono) (x : B) {D D' : Dn} {env : Ev} {G : Gp} (f : DnLe D D') (h : wpB Γ x D env G) : wpB Γ x D' env G := wpB_mono M x D D' env G f h
/-- the ends, seen from a later heap -/
theorem DnOf.le {H H1 : Hp} (l : TLe H H1) (D : Ends) : DnLe (DnOf W H D) (DnOf W H1 D) :=
  ⟨fun e g h σ' H' l' rs rg => h σ' H' (l.trans l') rs rg, fun d g h => h.le l, fun e g h σ' H' l' rs rg => h σ' H' (l.trans l') rs rg⟩
theorem DnOf.at {H : Hp} (l0 : TLe W.h0 H) (D : Ends) : DnLe (DnOf W H D) (DnOf (W.at H) H D) :=
  ⟨fun e g h σ' H' l rs rg => h σ' H' l rs (rg.back l0), fun d g h => h.at l0, fun e g h σ' H' l rs rg => h σ' H' l rs (rg.back l0)⟩
theorem PS.no {X : Cx} {py : Stmt} {t : TS} (h : ∀ σ H Q, ¬ t σ H Q) : PS X py t := ⟨fun _ _ _ _ _ _ q => (h _ _ _ q).elim⟩
theorem foldE_rel {K : PySem.W.Frag} {H : Hp} {is : List Nat} {ds : List D} {vs : List V} {env : Ev} {σ : L2.St} (h : RelSt K H env σ) (r : RelDs K H ds vs) : RelSt K H ((is.zip ds).foldl (fun e p => e.set p.1 (some p.2)) env) (foldS σ (is.zip vs)) := foldS_rel is h r
theorem RelFs.put {K : PySem.W.Frag} {H : Hp} {f : Fd} {d : DL.D} {v : V} (rd : RelD K H d v) : ∀ {fs : List (Fd × DL.D)} {vs : List (Str × V)}, RelFs K H fs vs → RelFs K H (putD f d fs) (putF f.nm v vs)
  | [], vs, h => by
    simp only [RelFs] at h; subst h
    simp only [putD, putF, RelFs]
    exact ⟨v, [], rfl, rd, rfl⟩
  | (g, x) :: r, vs, h => by
    simp only [RelFs] at h
    obtain ⟨u, t, e, q, h⟩ := h
    subst e
    by_cases c : g = f
    · subst c
      simp only [putD, putF, if_true, RelFs]
      first
        | exact ⟨v, t, rfl, rd, h⟩
        | exact ⟨v, t, by simp, rd, h⟩
    · have c' : ¬ g.nm = f.nm := fun z => c (Fd.inj z)
      simp only [putD, putF, if_neg c, if_neg c', RelFs]
      first
        | exact ⟨u, _, rfl, q, RelFs.put rd h⟩
        | exact ⟨u, _, by simp [c'], q, RelFs.put rd h⟩
/-- the reading of an assignment -/
theorem asg_read (M : Γ.Mono) {t : Tg} {x : E} {D : Ends} {σ : L2.St} {H : Hp} (h : SndS W (wpS Γ (.asg t x)) D σ H) : tAsg (Snd W (wpE Γ x)) (SndG W t) D σ H := by
  obtain ⟨env, G, rs, rg, h⟩ := h
  simp only [wpS] at h
  refine Snd.bind (wpE_m M x) rs rg h fun d G1 v H1 l1 rs1 rg1 rd1 h => ?_
  exact ⟨env, d, rs1, rd1, setT_mono (fun env' h σ' rs' _ _ => h σ' H1 l1 rs' rg1) h⟩
theorem asg_read1 (M : Γ.Mono) {i : Nat} {x : E} {D : Ends} {σ : L2.St} {H : Hp} (h : SndS W (wpS Γ (.asg (.nm i) x)) D σ H) : tAsg (Snd W (wpE Γ x)) (gName i) D σ H := by
  obtain ⟨env, G, rs, rg, h⟩ := h
  simp only [wpS] at h
  refine Snd.bind (wpE_m M x) rs rg h fun d G1 v H1 l1 rs1 rg1 rd1 h => ?_
  exact h _ H1 l1 (rs1.set i rd1) rg1
/-- the suites' readings -/
def hkOf (W : Wd) (Γ : Gam) : Hd → List HK
  | .nil => []
  | .cons k i b r => ⟨cvX W k, i, fun _ => SndS W (wpB (Γ.wx noX) b)⟩ :: hkOf W Γ r
/-- the body's reading, for a wish about its exceptions -/
def tryB (W : Wd) (Γ : Gam) (b : B) (W' : WX) : TS := fun D σ H => ∃ env G xc, RelSt W.K H env σ ∧ RelG (W.at H) H G ∧
  (∀ (j : Nat) (env' : Ev) (G' : Gp) (σ' : L2.St) (H' : Hp), j ∈ W.exr → RelSt W.K H' env' σ' → RelG (W.at H) H' G' → xc j env' G' → W' (.ref (W.exc j)) none σ' H') ∧ wpB (Γ.wx xc) b (DnOf (W.at H) H D) env G
theorem names_of {X : Cx} {C : Ck} {sc : Scope} (ok : Ok X W Γ C sc) {k : Nat} {x : Str} {p : Pos} (h : chkX C sc k (.Name x p) = true) : Names X x (cvX W k) := by
  have h' : (decide (exNames[k]? = some x) && decide (k ∈ C.exs) && glbB sc x && nmB x) = true := h
  simp only [Bool.and_eq_true, decide_eq_true_eq] at h'
  obtain ⟨⟨⟨hn, hk⟩, hg⟩, hd⟩ := h'
  obtain ⟨h1, h2⟩ := ok.ex.nm k hk x hn
  refine ⟨ok.glb hg, (nmB_inv hd).1, ?_⟩
  unfold cvX
  by_cases e : k = 11
  · subst e
    rw [if_pos rfl]
    have e2 : x = "ValueError" := by have : some ("ValueError" : Str) = some x := hn; cases this; rfl
    subst e2
    exact .inr ⟨h1 rfl, by decide +kernel, by decide +kernel⟩
  · rw [if_neg e]; exact .inl (h2 e)
theorem nm_of {X : Cx} {C : Ck} {sc : Scope} (ok : Ok X W Γ C sc) {i : Option Nat} {on : Option Str} (h : chkNm C.N sc i on = true) : NmOk X on i := by
  cases i with
  | none => cases on with
    | none => exact .no
    | some n => exact Bool.noConfusion (show false = true from h)
  | some i => cases on with
    | none => exact Bool.noConfusion (show false = true from h)
    | some n =>
      have h' : (decide (C.N[i]? = some n) && isLoc sc n) = true := h
      simp only [Bool.and_eq_true, decide_eq_true_eq] at h'
      exact .as (by rw [ok.N]; exact h'.1) (ok.isL h'.2)
theorem _root_.DL.Ok.suite {X : Cx} {C : Ck} {sc : Scope} (ok : Ok X W Γ C sc) (a : Addr) (pn : List (Addr × Obj)) : Ok (X.suite a pn) W (Γ.wx noX) C.suite sc where
  K := ok.K
  N := ok.N
  nd := ok.nd
  sr := ok.sr
  fnm := ok.fnm
  calm := fun z => Bool.noConfusion (show true = false from z)
  xfn := fun i x h => by simp [Ck.suite] at h
  xmk := fun i x h => by simp [Ck.suite] at h
  ex := ok.ex
  exr := fun k h => by simp [Ck.suite] at h
  xo := fun z => Bool.noConfusion (show true = false from z)
  xk := fun z => Bool.noConfusion (show false = true from z)
  bn := ok.bn
  fn := fun i x h => by simp [Ck.suite] at h
  con := fun i x d h => by simp [Ck.suite] at h
  dic := fun i x h => by simp [Ck.suite] at h
  cl := ok.cl
  mth := fun i x h => by simp [Ck.suite] at h
  mks := fun i x h => by simp [Ck.suite] at h
  isc := fun i x h => by simp [Ck.suite] at h
  po := PassesOwn.never
  un := ok.un
  mrk := fun x h => by simp [Ck.suite] at h
  hs := fun h => by simp [Ck.suite] at h
theorem _root_.DL.Ok.tri {X : Cx} {C : Ck} {sc : Scope} (ok : Ok X W Γ C sc) {pn : List (Addr × Obj)} {xe : Value → Shared → Prop} {W' : WX} {H : Hp} {xc : Nat → Ev' → Gp → Prop} (tk : Takes (X.tr pn xe) W') (po : PassesOwn (model X.prog X.w) X.A X.env xe)
    (hxc : ∀ (j : Nat) (σ' : L2.St) (H' : Hp) (env' : Ev) (G' : Gp), j ∈ W.exr → RelSt W.K H' env' σ' → RelG (W.at H) H' G' → xc j env' G' → W' (.ref (W.exc j)) none σ' H') (xo : XOk X W Γ) : Ok (X.tr pn xe) (W.at H) (Γ.wx xc) C.inTry sc where
  K := ok.K
  N := ok.N
  nd := ok.nd
  sr := ok.sr
  fnm := ok.fnm
  calm := ok.calm
  xfn := fun i x h => ⟨(ok.xfn i x h).ex⟩
  xmk := fun i x h c sp e => ⟨(ok.xmk i x h c sp e).ex⟩
  ex := ⟨ok.ex.nm, ok.ex.no, ok.ex.is, ok.ex.ec, ok.ex.mkr⟩
  exr := ok.exr
  xo := fun _ => ⟨xo.hex, xo.hs, xo.hf, W', tk, hxc⟩
  xk := fun z => Bool.noConfusion (show false = true from z)
  bn := ok.bn
  fn := fun i x h => ⟨(ok.fn i x h).ex⟩
  con := ok.con
  dic := ok.dic
  cl := ok.cl
  mth := fun k m h => ⟨(ok.mth k m h).1, fun c sp e => ⟨((ok.mth k m h).2 c sp e).ex⟩⟩
  mks := fun i x h c sp e => ⟨(ok.mks i x h c sp e).ex⟩
  isc := fun k x h => (ok.isc k x h).imp fun Da q => ⟨q.1, fun c m => ⟨(q.2 c m).is, (q.2 c m).cl, (q.2 c m).ha, (q.2 c m).hn, (q.2 c m).htk, (q.2 c m).hm⟩⟩
  po := po
  un := ok.un
  mrk := ok.mrk
  hs := ok.hs
theorem onE_rel {K : PySem.W.Frag} {H : Hp} {env : Ev} {σ : L2.St} (h : RelSt K H env σ) (i : Option Nat) (a : Addr) : RelSt K H (onE i a env) (onS i a σ) := by
  cases i with
  | none => exact h
  | some i => exact h.set i (by simp [RelD])
theorem offE_rel {K : PySem.W.Frag} {H : Hp} {env : Ev} {σ : L2.St} (h : RelSt K H env σ) (i : Option Nat) : RelSt K H (offE i env) (offS i σ) := by
  cases i with
  | none => exact h
  | some i => exact h.unset i
/-- the wish about the body's exceptions, as the clauses want it -/
theorem try_wish (M : Γ.Mono) {X : Cx} {C : Ck} {sc : Scope} (ok : Ok X W Γ C sc) {Wo : WX} (hW : ∀ (j : Nat) (σ : L2.St) (H : Hp) (env : Ev) (G : Gp), j ∈ W.exr → RelSt W.K H env σ → RelG W H G → Γ.xc j env G → Wo (.ref (W.exc j)) none σ H)
    {H : Hp} {D : Ends} (l0 : TLe W.h0 H) {j : Nat} {env : Ev} {G : Gp} {σ : L2.St} {H1 : Hp} : ∀ (hs : Hd) {hds : List ExceptHandler}, chkHd C sc hs hds = true → j ∈ W.exr → RelSt W.K H1 env σ → RelG (W.at H) H1 G →
    wpHd Γ j hs (DnOf W H D) env G → wK X.K Wo D (hkOf W Γ hs) (.ref (W.exc j)) none σ H1
  | .nil, hds, hc, hj, rs, rg, h => by
    simp only [wpHd] at h
    exact hW j σ H1 env G hj rs (rg.back l0) h
  | .cons k i b r, hds, hc, hj, rs, rg, h => by
    simp only [wpHd] at h
    simp only [chkHd] at hc
    split at hc
    · simp only [Bool.and_eq_true] at hc
      obtain ⟨⟨⟨hc1, hn⟩, hb⟩, hr⟩ := hc
      have hk : k ∈ C.exs := by
        have h' : (decide (exNames[k]? = some _) && decide (k ∈ C.exs) && glbB sc _ && nmB _) = true := hc1
        simp only [Bool.and_eq_true, decide_eq_true_eq] at h'
        exact h'.1.1.2
      refine ⟨subx j k, (ok.ex.is j hj k hk).2, fun e => ⟨rfl, fun a na => ?_⟩, fun e => ?_⟩
      · rw [if_pos e] at h
        have l1 : TLe H1 (upd H1 a (ExK (.ref (W.exc j)) a)) := .new na
        have rg1 : RelG (W.at H) (upd H1 a (ExK (.ref (W.exc j)) a)) (gup G a (.exo j)) := rg.new na ⟨hj, upd_same⟩
        refine ⟨onE i a env, gup G a (.exo j), onE_rel (rs.le l1) i a, rg1.back l0, wpB_m (M.wx noX) b ⟨fun e' g h' σ' H' l rs' rg' => ?_, fun d g h' => ?_, fun e' g h' σ' H' l rs' rg' => ?_⟩ (h a (rg.free na))⟩
        · exact h' (offS i σ') H' ((rg1.le).trans l) (offE_rel rs' i) rg'
        · exact Ct.le rg1.le h'
        · exact h' (offS i σ') H' ((rg1.le).trans l) (offE_rel rs' i) rg'
      · rw [if_neg (by rw [e]; exact Bool.false_ne_true)] at h
        exact try_wish M ok hW l0 r hr hj rs rg h
    · cases hc
mutual
theorem snd_S : ∀ (x : S) {W : Wd} {Γ : Gam} (M : Γ.Mono) {C : Ck} {X : Cx} {sc : Scope} (ok : Ok X W Γ C sc) {py : Stmt}, chkS C sc x py = true → PS X py (SndS W (wpS Γ x))
  | .asg t x, W, Γ, M, C, X, sc, ok, py, h => by
    simp only [chkS] at h
    split at h
    · rename_i tg value pos
      simp only [Bool.and_eq_true] at h
      obtain ⟨⟨ht, hx⟩, h⟩ := h
      cases t with
      | nm i =>
        cases tg with
        | Name y p =>
          have ht' : (decide (C.N[i]? = some y) && locB sc y) = true := ht
          simp only [Bool.and_eq_true, decide_eq_true_eq] at ht'
          have hN : X.N[i]? = some y := by rw [ok.N]; exact ht'.1
          have plain : ∀ (hs : ∀ env, env = X.env → env.scope.kind = .function → swapsWith value (some (.Name y p)) pos.line env = pure false), PS X (.Assign [.Name y p] value pos) (SndS W (wpS Γ (.asg (.nm i) x))) := fun hs =>
            ⟨fun pins s σ H D I q => (ps_set ok.nd hN (ok.loc ht'.2).1 (snd_E M x ok hx) (hs _ rfl I.ok.kind) (ok.loc ht'.2).2).run pins s σ H D I (asg_read1 M q)⟩
          simp only [Bool.or_eq_true] at h
          rcases h with (h | h) | h
          · exact plain fun env _ _ => swap_no h
          · exact plain fun env e k => swap_cell k (by rw [e]; exact ok.isC h)
          · -- a comprehension at a local name
            cases value with
            | ListComp elt gs scope lpos =>
              have h9 : (isLoc sc y && (p.line == lpos.line) && !(scope.names.any fun (n, k) => n == y && (k == .local || k == .cell))) = true := h
              simp only [Bool.and_eq_true, Bool.not_eq_true'] at h9
              cases x with
              | lc it tg c x own =>
                simp only [chkE] at hx
                split at hx
                · rename_i elt' t' iter ifs z scope' pos' e
                  cases e
                  simp only [Bool.and_eq_true, decide_eq_true_eq] at hx
                  obtain ⟨⟨⟨⟨⟨⟨⟨⟨hot, hz⟩, hb⟩, hi⟩, hs⟩, hit⟩, ht2⟩, hc⟩, hx⟩ := hx
                  subst hz
                  have calm : X.calm = true := ok.calm (by simpa using hot)
                  refine ⟨fun pins s σ H D I q => (ps_setLc calm ok.nd hN (ok.isL h9.1.1) (sw_true I.ok.kind (ok.isL h9.1.1) h9.1.2 h9.2) (snd_It M it ok hit) (ok.blkOk hb) (fun s H D cl fp => pg_of (ok.blk _ s H D cl fp) calm ht2)
                    (fun s H D cl fp => snd_To M c (ok.blk _ s H D cl fp) hc) (fun s H D cl fp => snd_E M x (ok.blk _ s H D cl fp) hx) (folded_of hi)).run pins s σ H D I ?_⟩
                  have q' := asg_read1 M q
                  refine lc_reads M hs σ H _ ?_
                  obtain ⟨env, G, rs, rg, q'⟩ := q'
                  simp only [wpE] at q'
                  exact ⟨env, G, rs, rg, q'⟩
                · cases hx
              | _ => simp only [chkE] at hx <;> first | exact Bool.noConfusion hx | (split at hx <;> first | (rename_i e; cases e) | cases hx)
            | _ => exact Bool.noConfusion (show false = true from h)
        | _ => exact Bool.noConfusion (show false = true from ht)
      | tup is =>
        cases tg with
        | Tuple es k p =>
          have h : (!C.hot && tupless value) = true := h
          simp only [Bool.and_eq_true] at h
          exact (ps_asg (snd_E M x ok hx) (pg_of ok (ok.calm (by simpa using h.1)) ht) (sole_other rfl) (stores_no h.2) rfl).imp fun D σ H q => asg_read M q
        | _ => exact Bool.noConfusion (show false = true from ht)
    · cases h
  | .unl is x, W, Γ, M, C, X, sc, ok, py, h => by
    simp only [chkS] at h
    split at h
    · rename_i es k p value pos
      simp only [Bool.and_eq_true] at h
      obtain ⟨⟨⟨hot, ht⟩, hx⟩, h⟩ := h
      refine (ps_asg (snd_E M x ok hx) (pg_unlist ok (ok.calm (by simpa using hot)) ht) (sole_other rfl) (stores_no h) rfl).imp fun D σ H ⟨env, G, rs, rg, q⟩ => ?_
      simp only [wpS] at q
      refine Snd.bind (wpE_m M x) rs rg q fun d G1 v H1 l1 rs1 rg1 rd1 q => ?_
      obtain ⟨xs, ⟨nt, hl, q⟩, hi⟩ := items_eq q
      obtain ⟨a, e, hc, f⟩ := lst_at rg1 rd1 nt hi
      obtain ⟨vs, sq, r⟩ := f H1 G1 .rfl rg1 hc
      exact ⟨a, vs, e, by rw [ok.K]; exact sq, by rw [← r.length]; exact hl, by rw [← r.length]; exact hl, q _ H1 l1 (foldE_rel rs1 r) rg1⟩
    · cases h
  | .par i j x y, W, Γ, M, C, X, sc, ok, py, h => by
    simp only [chkS] at h
    split at h
    · rename_i a pa b pb k p e f k2 p2 pos
      simp only [Bool.and_eq_true, decide_eq_true_eq, Bool.not_eq_true', decide_eq_false_iff_not] at h
      obtain ⟨⟨⟨⟨⟨⟨⟨⟨⟨⟨⟨⟨⟨hot, hi⟩, hj⟩, hij⟩, hab⟩, la⟩, lb⟩, hl⟩, s1⟩, s2⟩, c1⟩, c2⟩, hx⟩, hy⟩ := h
      have hs : [e, f].all starless = true := by rw [List.all_cons, s1, List.all_cons, s2]; rfl
      have hs' : [f].all starless = true := by rw [List.all_cons, s2]; rfl
      refine ⟨fun pins s σ H D I q => (ps_par (ok.calm (by simpa using hot)) ok.nd (by rw [ok.N]; exact hi) (by rw [ok.N]; exact hj) hij (ok.isL la) (ok.isL lb) (pa_cons (snd_E M x ok hx) (pa_cons (snd_E M y ok hy) pa_nil (he_of hs')) (he_of hs))
        (stores_par I.ok.kind (ok.isL la) (ok.isL lb) hab hl s1 s2 c1 c2) (sole_other rfl)).run pins s σ H D I ?_⟩
      obtain ⟨env, G, rs, rg, q⟩ := q
      simp only [wpS] at q
      refine Snd.bind (wpE_m M x) rs rg q fun d G1 v H1 l1 rs1 rg1 rd1 q => ?_
      refine Snd.bind (wpE_m M y) rs1 rg1 q fun e G2 u H2 l2 rs2 rg2 rd2 q => ?_
      exact ⟨v, u, rfl, q _ H2 (l1.trans l2) ((rs2.set i (RelD.le l2 _ _ rd1)).set j rd2) rg2⟩
    · cases h
  | .aug i o x, W, Γ, M, C, X, sc, ok, py, h => by
    simp only [chkS] at h
    split at h
    · simp only [Bool.and_eq_true, decide_eq_true_eq] at h
      obtain ⟨⟨⟨hi, hl⟩, ho⟩, hx⟩ := h
      subst ho
      refine (ps_aug ok.nd (by rw [ok.N]; exact hi) (ok.loc hl).1 (snd_E M x ok hx) (op_aug ok.K o) (ok.loc hl).2).imp fun D σ H ⟨env, G, rs, rg, q⟩ => ?_
      simp only [wpS] at q
      split at q
      · obtain ⟨v, a, b⟩ := rs.get _ _ ‹_›
        refine ⟨v, a, Snd.bind (wpE_m M x) rs rg q fun e G1 u H1 l1 rs1 rg1 rd1 q => ?_⟩
        exact ⟨_, e, G1, RelD.le l1 _ _ b, rd1, rg1, wpAug_mono (fun f G2 q w H2 l2 rg2 rd2 => q _ H2 (l1.trans l2) ((rs1.le l2).set i rd2) rg2) q⟩
      · exact q.elim
    · cases h
  | .set o i x, W, Γ, M, C, X, sc, ok, py, h => by
    simp only [chkS] at h
    split at h
    · rename_i a b p value pos
      simp only [Bool.and_eq_true] at h
      obtain ⟨⟨⟨hx, ho⟩, hi⟩, hb⟩ := h
      refine (ps_asg (snd_E M x ok hx) (pg_sub (snd_E M o ok ho) (snd_E M i ok hi) set_list (fun v => by cases b <;> first | rfl | exact Bool.noConfusion (show false = true from hb))) (sole_other rfl) stores_sub rfl).imp fun D σ H ⟨env, G, rs, rg, q⟩ => ?_
      simp only [wpS] at q
      refine Snd.bind (wpE_m M x) rs rg q fun d G1 v H1 l1 rs1 rg1 rd1 q => ?_
      refine Snd.bind (wpE_m M o) rs1 rg1 q fun l G2 lv H2 l2 rs2 rg2 rd2 q => ?_
      refine Snd.bind (wpE_m M i) rs2 rg2 q fun e G3 ev H3 l3 rs3 rg3 rd3 q => ?_
      obtain ⟨ad, e1, _, q⟩ := asR_inv (RelD.le l3 _ _ rd2) q
      obtain ⟨k, e2, q⟩ := asI_inv rd3 q
      obtain ⟨xs, vs, ⟨j, e3, q⟩, _, ha, ra⟩ := onL_inv rg3 q
      refine ⟨ad, vs, k, j, e1, e2, ha, by rw [← ra.length]; exact e3, ?_⟩
      have lt : TLe H3 (upd H3 ad (.lst (vs.set j v))) := .lst ha
      exact q _ _ (((l1.trans l2).trans l3).trans lt) (rs3.le lt) (rg3.put (u := .lst (xs.set j d)) lt ⟨_, upd_same, RelDs.le lt _ _ (ra.set j (RelD.le l3 _ _ (RelD.le l2 _ _ rd1)))⟩)
    · cases h
  | .dst o i x, W, Γ, M, C, X, sc, ok, py, h => by
    simp only [chkS] at h
    split at h
    · rename_i a b p value pos
      simp only [Bool.and_eq_true] at h
      obtain ⟨⟨⟨hx, ho⟩, hi⟩, hb⟩ := h
      refine (ps_dput (by have := ok.un; omega) (snd_E M o ok ho) (snd_E M i ok hi) (snd_E M x ok hx) (swap_other fun _ _ e => by cases e)).imp fun D σ H ⟨env, G, rs, rg, q⟩ => ?_
      simp only [wpS] at q
      refine Snd.bind (wpE_m M x) rs rg q fun d G1 v H1 l1 rs1 rg1 rd1 q => ?_
      refine Snd.bind (wpE_m M o) rs1 rg1 q fun l G2 lv H2 l2 rs2 rg2 rd2 q => ?_
      refine Snd.bind (wpE_m M i) rs2 rg2 q fun e G3 ev H3 l3 rs3 rg3 rd3 q => ?_
      obtain ⟨ad, e1, _, q⟩ := asR_inv (RelD.le l3 _ _ rd2) q
      obtain ⟨k, e2, q⟩ := asK_inv rd3 q
      obtain ⟨kvs, vs, ⟨hl, q⟩, _, ha, ra⟩ := onK_inv rg3 q
      subst e2
      refine ⟨ad, _, e1, .inl ⟨vs, k, ha, rfl, by rw [← ra.length]; exact hl, rfl⟩, ?_⟩
      have lt : TLe H3 (upd H3 ad (.dK (putK vs k v))) := .put (fun xs z => by rw [ha] at z; cases z) (fun y u z => by rw [ha] at z; cases z)
      exact q _ _ (((l1.trans l2).trans l3).trans lt) (rs3.le lt) (rg3.put (u := .dic (setK kvs k d)) lt ⟨_, upd_same, setK_rel (RelD.le lt _ _ (RelD.le l3 _ _ (RelD.le l2 _ _ rd1))) (RelKV.le lt ra)⟩)
    · cases h
  | .nst o i x, W, Γ, M, C, X, sc, ok, py, h => by
    simp only [chkS] at h
    split at h
    · rename_i a b p value pos
      simp only [Bool.and_eq_true] at h
      obtain ⟨⟨⟨⟨hc0, hx⟩, ho⟩, hi⟩, hb⟩ := h
      have ps := ps_nput (pos := pos) (pos' := p) (by have := ok.un; omega) (snd_E M o ok ho) (snd_E M i ok hi) (snd_E M x ok hx) (swap_other fun _ _ e => by cases e)
      rw [← ok.hs hc0, ok.K] at ps
      refine ps.imp fun D σ H ⟨env, G, rs, rg, q⟩ => ?_
      simp only [wpS] at q
      refine Snd.bind (wpE_m M x) rs rg q fun d G1 v H1 l1 rs1 rg1 rd1 q => ?_
      refine Snd.bind (wpE_m M o) rs1 rg1 q fun l G2 lv H2 l2 rs2 rg2 rd2 q => ?_
      refine Snd.bind (wpE_m M i) rs2 rg2 q fun e G3 ev H3 l3 rs3 rg3 rd3 q => ?_
      obtain ⟨ad, e1, _, q⟩ := asR_inv (RelD.le l3 _ _ rd2) q
      obtain ⟨k, bb, e2, hk, q⟩ := asN_inv rd3 q
      obtain ⟨j, e3, q⟩ := asI_inv rd1 q
      obtain ⟨kvs, ob, ⟨hl, q⟩, _, na, nd⟩ := onN_inv rg3 q
      refine ⟨ad, bb, k, kvs, ob, j, e1, e2, e3, hk, na, nd, hl, fun o' r' => ?_⟩
      have lt : TLe H3 (upd H3 ad (NObj ad o')) := .put (fun xs z => by rw [na.at_] at z; cases z) (fun y u z => by rw [na.at_] at z; cases z)
      exact q o' _ _ (((l1.trans l2).trans l3).trans lt) (rs3.le lt) (rg3.put (u := .dnt (setN kvs k j) o') lt ⟨⟨upd_same, na.lo⟩, r'.le lt⟩)
    · cases h
  | .fset o f x, W, Γ, M, C, X, sc, ok, py, h => by
    simp only [chkS] at h
    split at h
    · rename_i a name p value pos
      simp only [Bool.and_eq_true, decide_eq_true_eq] at h
      obtain ⟨⟨hn, hx⟩, ho⟩ := h
      subst hn
      refine (ps_fld (snd_E M o ok ho) (snd_E M x ok hx) (swap_other fun _ _ e => by cases e)).imp fun D σ H ⟨env, G, rs, rg, q⟩ => ?_
      simp only [wpS] at q
      refine Snd.bind (wpE_m M x) rs rg q fun d G1 v H1 l1 rs1 rg1 rd1 q => ?_
      refine Snd.bind (wpE_m M o) rs1 rg1 q fun l G2 lv H2 l2 rs2 rg2 rd2 q => ?_
      obtain ⟨ad, e1, _, q⟩ := asR_inv rd2 q
      obtain ⟨c, fs, dx, vs, ⟨hcl, hlen, q⟩, ga, hH, ra⟩ := onI_inv rg2 q
      obtain ⟨k1, k2⟩ := ok.cl c hcl
      refine ⟨ad, _, dx, vs, e1, hH, k1, k2 f, by rw [← ra.length]; exact hlen, ?_⟩
      have lt : TLe H2 (upd H2 ad (.ins (W.cls c) dx (putF f.nm v vs))) := .put (fun xs z => by rw [hH] at z; cases z) (fun y u z => by rw [hH] at z; cases z)
      exact q _ _ ((l1.trans l2).trans lt) (rs2.le lt) (rg2.put lt ⟨dx, _, upd_same, RelFs.put (RelD.le lt _ _ (RelD.le l2 _ _ rd1)) (RelFs.le lt ra)⟩)
    · cases h
  | .ex x, W, Γ, M, C, X, sc, ok, py, h => by
    simp only [chkS] at h
    split at h
    · simp only [Bool.and_eq_true] at h
      refine (ps_expr (snd_E M x ok h.1) (swap_no h.2)).imp fun D σ H ⟨env, G, rs, rg, q⟩ => ?_
      simp only [wpS] at q
      exact Snd.bind (wpE_m M x) rs rg q fun d G1 v H1 l1 rs1 rg1 rd1 q => q _ H1 l1 rs1 rg1
    · cases h
  | .ret x, W, Γ, M, C, X, sc, ok, py, h => by
    simp only [chkS] at h
    split at h
    · refine (ps_ret (snd_E M x ok h)).imp fun D σ H ⟨env, G, rs, rg, q⟩ => ?_
      simp only [wpS] at q
      exact ⟨env, G, rs, rg, q⟩
    · cases h
  | .retN, W, Γ, M, C, X, sc, ok, py, h => by
    simp only [chkS] at h
    split at h
    · refine ps_retN.imp fun D σ H ⟨env, G, rs, rg, q⟩ => ?_
      simp only [wpS] at q
      exact q _ H .rfl rg (by simp [RelD])
    · cases h
  | .ite c s t, W, Γ, M, C, X, sc, ok, py, h => by
    simp only [chkS] at h
    split at h
    · simp only [Bool.and_eq_true] at h
      refine (ps_if (snd_T M c ok h.1.1) (snd_B s M ok h.1.2) (snd_B t M ok h.2)).imp fun D σ H ⟨env, G, rs, rg, q⟩ => ?_
      simp only [wpS] at q
      refine SndB.bind (wpT_m M c) rs rg q fun b G1 H1 l1 rs1 rg1 q => ?_
      cases b with
      | true => exact ⟨env, G1, rs1, rg1, wpB_m M s (DnOf.le l1 D) q⟩
      | false => exact ⟨env, G1, rs1, rg1, wpB_m M t (DnOf.le l1 D) q⟩
    · cases h
  | .loop t it b, W, Γ, M, C, X, sc, ok, py, h => by
    simp only [chkS] at h
    split at h
    · rename_i tg iter body pos
      simp only [Bool.and_eq_true] at h
      obtain ⟨⟨⟨⟨hot, ht⟩, hs⟩, hi⟩, hb⟩ := h
      have calm : X.calm = true := ok.calm (by simpa using hot)
      refine (ps_for ok.po calm (snd_It M it ok hi) (pg_of ok calm ht) (snd_B b M ok hb) (folded_of hs)).imp fun D σ H ⟨env, G, rs, rg, q⟩ => ?_
      simp only [wpS] at q
      refine SndI.bind (wpIt_m M it) rs rg q fun ds chk G1 J H1 l1 rs1 rg1 sv q => ?_
      refine ⟨fun i m σ' H' => ∃ env' G', m = ds.length - i ∧ i ≤ ds.length ∧ TLe H1 H' ∧ RelSt W.K H' env' σ' ∧ RelG W H' G' ∧ forD chk (setT t) (fun k => wpB Γ b { nx := k, rt := (DnOf W H D).rt, ct := k }) (DnOf W H D).nx (ds.drop i) env' G',
        ⟨ds.length, env, G1, by simp, Nat.zero_le _, .rfl, rs1, rg1, q⟩, ?_⟩
      rintro i m σ' H' ⟨env', G', rfl, hle, l', rs', rg', q⟩
      by_cases hlt : i < ds.length
      · rw [List.drop_eq_getElem_cons hlt] at q
        obtain ⟨hc, q⟩ := q
        refine .inr ⟨sv.go i H' G' l' rg' hc hlt, fun σ2 H2 => ∃ env2 G2, TLe H1 H2 ∧ RelSt W.K H2 env2 σ2 ∧ RelG W H2 G2 ∧ forD chk (setT t) (fun k => wpB Γ b { nx := k, rt := (DnOf W H D).rt, ct := k }) (DnOf W H D).nx (ds.drop (i + 1)) env2 G2,
          fun σ2 H2 ⟨env2, G2, a1, a2, a3, a4⟩ => ⟨ds.length - (i + 1), by omega, env2, G2, rfl, hlt, a1, a2, a3, a4⟩, fun y H2 hy => ?_⟩
        obtain ⟨l2, rg2, rd⟩ := sv.yld i H' G' y H2 _ l' rg' hc (List.getElem?_eq_getElem hlt) hy
        have l02 := l'.trans l2
        refine ⟨env', _, rs'.le l2, rd, setT_mono (fun env2 q σ2 rs2 _ _ => ⟨env2, G', rs2, rg2, ?_⟩) q⟩
        refine wpB_m M b ?_ q
        exact ⟨fun e g h σ3 H3 l3 rs3 rg3 => ⟨e, g, l02.trans l3, rs3, rg3, h⟩, fun d g h => Ct.le (l1.trans l02) h, fun e g h σ3 H3 l3 rs3 rg3 => ⟨e, g, l02.trans l3, rs3, rg3, h⟩⟩
      · have e : i = ds.length := by omega
        subst e
        rw [List.drop_length] at q
        exact .inl ⟨sv.stop _ H' G' l' rg' q.1 (Nat.le_refl _), q.2 σ' H' (l1.trans l') rs' rg'⟩
    · cases h
  | .loopU is it b, W, Γ, M, C, X, sc, ok, py, h => by
    simp only [chkS] at h
    split at h
    · rename_i es k p iter body pos
      simp only [Bool.and_eq_true] at h
      obtain ⟨⟨⟨⟨hot, ht⟩, hs⟩, hi⟩, hb⟩ := h
      have calm : X.calm = true := ok.calm (by simpa using hot)
      refine (ps_for ok.po calm (snd_It M it ok hi) (pg_unlist ok calm ht) (snd_B b M ok hb) (folded_of hs)).imp fun D σ H ⟨env, G, rs, rg, q⟩ => ?_
      simp only [wpS] at q
      refine SndI.bind (wpIt_m M it) rs rg q fun ds chk G1 J H1 l1 rs1 rg1 sv q => ?_
      refine ⟨fun i m σ' H' => ∃ env' G', m = ds.length - i ∧ i ≤ ds.length ∧ TLe H1 H' ∧ RelSt W.K H' env' σ' ∧ RelG W H' G' ∧ forU chk is (fun k => wpB Γ b { nx := k, rt := (DnOf W H D).rt, ct := k }) (DnOf W H D).nx (ds.drop i) env' G',
        ⟨ds.length, env, G1, by simp, Nat.zero_le _, .rfl, rs1, rg1, q⟩, ?_⟩
      rintro i m σ' H' ⟨env', G', rfl, hle, l', rs', rg', q⟩
      by_cases hlt : i < ds.length
      · rw [List.drop_eq_getElem_cons hlt] at q
        obtain ⟨hc, q⟩ := q
        refine .inr ⟨sv.go i H' G' l' rg' hc hlt, fun σ2 H2 => ∃ env2 G2, TLe H1 H2 ∧ RelSt W.K H2 env2 σ2 ∧ RelG W H2 G2 ∧ forU chk is (fun k => wpB Γ b { nx := k, rt := (DnOf W H D).rt, ct := k }) (DnOf W H D).nx (ds.drop (i + 1)) env2 G2,
          fun σ2 H2 ⟨env2, G2, a1, a2, a3, a4⟩ => ⟨ds.length - (i + 1), by omega, env2, G2, rfl, hlt, a1, a2, a3, a4⟩, fun y H2 hy => ?_⟩
        obtain ⟨l2, rg2, rd⟩ := sv.yld i H' G' y H2 _ l' rg' hc (List.getElem?_eq_getElem hlt) hy
        have l02 := l'.trans l2
        obtain ⟨xs, ⟨nt, hl, q⟩, hit⟩ := items_eq (show setU _ _ _ _ _ from q)
        obtain ⟨a, e, hc2, f⟩ := lst_at rg2 rd nt hit
        obtain ⟨vs, sq, r⟩ := f H2 G' .rfl rg2 hc2
        refine ⟨a, vs, e, by rw [ok.K]; exact sq, by rw [← r.length]; exact hl, by rw [← r.length]; exact hl, _, G', foldE_rel (rs'.le l2) r, rg2, ?_⟩
        refine wpB_m M b ?_ q
        exact ⟨fun e g h σ3 H3 l3 rs3 rg3 => ⟨e, g, l02.trans l3, rs3, rg3, h⟩, fun d g h => Ct.le (l1.trans l02) h, fun e g h σ3 H3 l3 rs3 rg3 => ⟨e, g, l02.trans l3, rs3, rg3, h⟩⟩
      · have e : i = ds.length := by omega
        subst e
        rw [List.drop_length] at q
        exact .inl ⟨sv.stop _ H' G' l' rg' q.1 (Nat.le_refl _), q.2 σ' H' (l1.trans l') rs' rg'⟩
    · cases h
  | .whl c b, W, Γ, M, C, X, sc, ok, py, h => by
    simp only [chkS] at h
    split at h
    · simp only [Bool.and_eq_true] at h
      refine (ps_while ok.po (snd_T M c ok h.1) (snd_B b M ok h.2)).imp fun D σ H ⟨env, G, rs, rg, q⟩ => ?_
      simp only [wpS] at q
      obtain ⟨n, q⟩ := q
      refine ⟨fun m σ' H' => ∃ env' G', TLe H H' ∧ RelSt W.K H' env' σ' ∧ RelG W H' G' ∧ whlD (wpT Γ c) (fun k => wpB Γ b { nx := k, rt := (DnOf W H D).rt, ct := k }) (DnOf W H D).nx m env' G', ⟨n, env, G, .rfl, rs, rg, q⟩, ?_⟩
      rintro m σ' H' ⟨env', G', l', rs', rg', q⟩
      cases m with
      | zero => exact q.elim
      | succ m =>
        refine SndB.bind (wpT_m M c) rs' rg' q fun bb G1 H1 l1 rs1 rg1 q => ?_
        cases bb with
        | false => exact q σ' H1 (l'.trans l1) rs1 rg1
        | true =>
          rw [if_pos rfl] at q ⊢
          refine ⟨fun σ2 H2 => ∃ env2 G2, TLe H H2 ∧ RelSt W.K H2 env2 σ2 ∧ RelG W H2 G2 ∧ whlD (wpT Γ c) (fun k => wpB Γ b { nx := k, rt := (DnOf W H D).rt, ct := k }) (DnOf W H D).nx m env2 G2, fun σ2 H2 q => ⟨m, Nat.lt_succ_self _, q⟩, env', G1, rs1, rg1, ?_⟩
          refine wpB_m M b ?_ q
          exact ⟨fun e g h σ3 H3 l3 rs3 rg3 => ⟨e, g, (l'.trans l1).trans l3, rs3, rg3, h⟩, fun d g h => Ct.le (l'.trans l1) h, fun e g h σ3 H3 l3 rs3 rg3 => ⟨e, g, (l'.trans l1).trans l3, rs3, rg3, h⟩⟩
    · cases h
  | .cont, W, Γ, M, C, X, sc, ok, py, h => by
    simp only [chkS] at h
    split at h
    · refine ps_continue.imp fun D σ H ⟨env, G, rs, rg, q⟩ => ?_
      simp only [wpS] at q
      exact q σ H .rfl rs rg
    · cases h
  | .never, W, Γ, M, C, X, sc, ok, py, h => PS.no fun D σ H ⟨env, G, rs, rg, q⟩ => by simp only [wpS] at q
  | .rai k, W, Γ, M, C, X, sc, ok, py, h => by
    simp only [chkS] at h
    split at h
    · simp only [Bool.and_eq_true, decide_eq_true_eq] at h
      obtain ⟨⟨⟨⟨⟨hx, hot⟩, hn⟩, hk⟩, hg⟩, hd⟩ := h
      have hj := ok.exr k hk
      obtain ⟨m1, m2, m3, m4, m5⟩ := ok.ex.mkr k hj
      obtain ⟨Wo, tk, hW⟩ := (ok.xo (by simpa using hx)).tk
      refine (ps_raiseK (ok.calm (by simpa using hot)) tk m1 (m5 _ hn) m2 m3 m4 (ok.glb hg) (nmB_inv hd).1).imp fun D σ H ⟨env, G, rs, rg, q⟩ => ?_
      simp only [wpS] at q
      exact hW k σ H env G hj rs rg q
    · cases h
  | .tri b hs, W, Γ, M, C, X, sc, ok, py, h => by
    simp only [chkS] at h
    split at h
    · rename_i body hd hds pos
      simp only [Bool.and_eq_true] at h
      obtain ⟨⟨⟨hx, hot⟩, hb⟩, hh⟩ := h
      have xo := ok.xo (by simpa using hx)
      obtain ⟨Wo, tk, hW⟩ := xo.tk
      refine ⟨fun pins s σ H D I q => (ps_tryK (tb := tryB W Γ b) (l := hkOf W Γ hs) (Wout := Wo) xo.hex xo.hs xo.hf ok.nd tk (fun W' pn xe tk' po => ⟨fun pins s σ H D I q => ?_⟩) (snd_Hd hs M ok hh)).run pins s σ H D I ?_⟩
      · obtain ⟨env, G, xc, rs, rg, hxc, q⟩ := q
        exact (snd_B b (W := W.at H) (Γ := Γ.wx xc) (M.wx xc) (ok.tri tk' po (fun j σ' H' env' G' hj rs' rg' h => hxc j env' G' σ' H' hj rs' rg' h) xo) hb).run pins s σ H D I ⟨env, G, rs, rg, q⟩
      · obtain ⟨env, G, rs, rg, q⟩ := q
        simp only [wpS] at q
        refine ⟨env, G, _, rs, rg.now, fun j env' G' σ' H' hj rs' rg' h => ?_, wpB_m (M.wx _) b (DnOf.at rg.le D) q⟩
        exact try_wish M ok hW rg.le hs hh hj rs' rg' h
    · cases h
theorem snd_B : ∀ (x : B) {W : Wd} {Γ : Gam} (M : Γ.Mono) {C : Ck} {X : Cx} {sc : Scope} (ok : Ok X W Γ C sc) {py : List Stmt}, chkB C sc x py = true → PSs X py (SndS W (wpB Γ x))
  | .nil, W, Γ, M, C, X, sc, ok, py, h => by
    cases py with
    | nil =>
      refine pss_nil.imp fun D σ H ⟨env, G, rs, rg, q⟩ => ?_
      simp only [wpB] at q
      exact q σ H .rfl rs rg
    | cons _ _ => exact Bool.noConfusion (show false = true from h)
  | .cons s b, W, Γ, M, C, X, sc, ok, py, h => by
    cases py with
    | nil => exact Bool.noConfusion (show false = true from h)
    | cons st r =>
      have h : (chkS C sc s st && chkB C sc b r) = true := h
      simp only [Bool.and_eq_true] at h
      refine (pss_cons (snd_S s M ok h.1) (snd_B b M ok h.2)).imp fun D σ H ⟨env, G, rs, rg, q⟩ => ?_
      simp only [wpB] at q
      refine ⟨env, G, rs, rg, wpS_m M s ?_ q⟩
      exact ⟨fun e g h σ' H' l' rs' rg' => ⟨e, g, rs', rg', wpB_m M b (DnOf.le l' D) h⟩, fun d g h => h, fun e g h => h⟩
theorem snd_Hd : ∀ (hs : Hd) {W : Wd} {Γ : Gam} (M : Γ.Mono) {C : Ck} {X : Cx} {sc : Scope} (ok : Ok X W Γ C sc) {hds : List ExceptHandler}, chkHd C sc hs hds = true → HdK X hds (hkOf W Γ hs)
  | .nil, W, Γ, M, C, X, sc, ok, hds, h => by
    cases hds with
    | nil => exact .nil
    | cons _ _ => exact Bool.noConfusion (show false = true from h)
  | .cons k i b r, W, Γ, M, C, X, sc, ok, hds, h => by
    simp only [chkHd] at h
    split at h
    · rename_i x p on st sts p2 hds'
      simp only [Bool.and_eq_true] at h
      obtain ⟨⟨⟨hc, hn⟩, hb⟩, hr⟩ := h
      exact .cons (names_of ok hc) (nm_of ok hn) (fun a pn cls => snd_B b (M.wx noX) (ok.suite a pn) hb) (snd_Hd r M ok hr)
    · cases h
end
end
end DL
namespace DL
open PySem PySem.Spec PyProof.Rows L2
section
variable {P : Program} {w : World} {K : PySem.W.Frag} {mg : Str → Option Value} {base : Heap} {W : Wd}
/-- what is known of a callee, whoever calls it at most n deep -/
def FnG (P : Program) (w : World) (K : PySem.W.Frag) (mg : Str → Option Value) (base : Heap) (n : Nat) (W : Wd) (m : SpD) (x : Str) : Prop :=
  ∃ (f : Addr) (fd : FuncData) (ps : List Str) (k : Nat) (sp : SpD) (dds : List D) (dvs : List V) (ds : List Value),
    k ≤ n ∧ FnOk P w K mg base CX0 k f fd ps (toSp W sp) ∧ mg x = some (.ref f) ∧ PySem.W.keepIn K (.ref f) = true ∧ Binds K fd ps ds ∧ Vals dvs ds ∧
      (∀ H, RelDs W.K H dds dvs) ∧ ∀ as G Q, m as G Q → sp (as ++ dds) G Q
theorem FnG.x {n : Nat} {m : SpD} {x : Str} {A : Around} (h : FnG P w K mg base n W m x) (hr : Room n A) : FnX P w K mg base A W m x := by
  obtain ⟨f, fd, ps, k, sp, dds, dvs, ds, hk, F, a, b, c, d, e, g⟩ := h
  exact ⟨f, fd, ps, k, sp, dds, dvs, ds, F, hr.mono hk, a, b, c, d, e, g⟩
/-- the def st stands under the name x -/
structure DefAt (K : PySem.W.Frag) (mg : Str → Option Value) (x : Str) (st : Stmt) (ps : List Str) : Prop where
  ex : ∃ (f : Addr) (fd : FuncData), Fun K x x st f fd ∧ mg x = some (.ref f) ∧ Binds K fd ps [] ∧ ∀ us : List Value, us.length = ps.length → bindArgs fd ⟨us, []⟩ = pure (ps.zip us)
/-- a method of class c, whoever calls it at most n deep -/
structure MthG (P : Program) (w : World) (K : PySem.W.Frag) (mg : Str → Option Value) (base : Heap) (n : Nat) (W : Wd) (c : Nat) (m : Str) (sp : SpD) : Prop where
  ex : ∃ (f : Addr) (fd : FuncData) (ps : List Str) (k : Nat) (sp' : SpD) (dds : List D) (dvs : List V) (ds : List Value),
    k ≤ n ∧ Cls K (W.cls c) ∧ Meth K (W.cls c) m f ∧ FnOk P w K mg base CX0 k f fd ps (toSp W sp') ∧ Binds K fd ps ds ∧ Vals dvs ds ∧ (∀ H, RelDs W.K H dds dvs) ∧ ∀ as G Q, sp as G Q → sp' (as ++ dds) G Q
theorem MthG.x {n c : Nat} {m : Str} {sp : SpD} {A : Around} (h : MthG P w K mg base n W c m sp) (hr : Room n A) : MthX P w K mg base A W c m sp := by
  obtain ⟨f, fd, ps, k, sp', dds, dvs, ds, hk, a, b, F, c, d, e, g⟩ := h.ex
  exact ⟨f, fd, ps, k, sp', dds, dvs, ds, a, b, F, hr.mono hk, c, d, e, g⟩
theorem MthG.mono {n n' c : Nat} {m : Str} {sp : SpD} (h : MthG P w K mg base n W c m sp) (l : n ≤ n') : MthG P w K mg base n' W c m sp := by
  obtain ⟨f, fd, ps, k, sp', dds, dvs, ds, hk, r⟩ := h.ex
  exact ⟨f, fd, ps, k, sp', dds, dvs, ds, Nat.le_trans hk l, r⟩
/-- a class that is called, or whose __init__ is -/
structure MksG (P : Program) (w : World) (K : PySem.W.Frag) (mg : Str → Option Value) (base : Heap) (n : Nat) (W : Wd) (x : Str) (c : Nat) (sp : SpD) : Prop where
  ex : ∃ (f : Addr) (fd : FuncData) (ps : List Str) (k : Nat) (sp' : SpD) (dds : List D) (dvs : List V) (ds : List Value),
    k + 1 ≤ n ∧ mg x = some (.ref (W.cls c)) ∧ Mk K (W.cls c) f ∧ CFn K (W.cls c) "__init__" f ∧ FnOk P w K mg base CX0 k f fd ps (toSp W sp') ∧ Binds K fd ps ds ∧ Vals dvs ds ∧ (∀ H, RelDs W.K H dds dvs) ∧ ∀ as G Q, sp as G Q → sp' (as ++ dds) G Q
theorem MksG.x' {n c : Nat} {x : Str} {sp : SpD} {A : Around} (h : MksG P w K mg base n W x c sp) (hr : Room n A) : MksX P w K mg base A W x c sp := by
  obtain ⟨f, fd, ps, k, sp', dds, dvs, ds, hk, a, b, d, F, r⟩ := h.ex
  exact ⟨f, fd, ps, k, sp', dds, dvs, ds, a, b, d, F, hr.mono hk, r⟩
theorem MksG.mono {n n' c : Nat} {x : Str} {sp : SpD} (h : MksG P w K mg base n W x c sp) (l : n ≤ n') : MksG P w K mg base n' W x c sp := by
  obtain ⟨f, fd, ps, k, sp', dds, dvs, ds, hk, r⟩ := h.ex
  exact ⟨f, fd, ps, k, sp', dds, dvs, ds, Nat.le_trans hk l, r⟩
/-- a callee that may raise, called at most n deep -/
def FnXG (P : Program) (w : World) (K : PySem.W.Frag) (mg : Str → Option Value) (base : Heap) (n : Nat) (W : Wd) (m : XSpD) (x : Str) : Prop :=
  ∃ (f : Addr) (fd : FuncData) (ps : List Str) (k : Nat), k ≤ n ∧ FnOk P w K mg base (L2.CX P w) k f fd ps (toSpX W m) ∧ mg x = some (.ref f) ∧ PySem.W.keepIn K (.ref f) = true ∧ Binds K fd ps []
theorem FnXG.x {n : Nat} {m : XSpD} {x : Str} {A : Around} (h : FnXG P w K mg base n W m x) (hr : Room n A) : FnXX P w K mg base A W m x := by
  obtain ⟨f, fd, ps, k, hk, F, r⟩ := h
  exact ⟨f, fd, ps, k, F, hr.mono hk, r⟩
theorem FnXG.mono {n n' : Nat} {m : XSpD} {x : Str} (h : FnXG P w K mg base n W m x) (l : n ≤ n') : FnXG P w K mg base n' W m x := by
  obtain ⟨f, fd, ps, k, hk, r⟩ := h
  exact ⟨f, fd, ps, k, Nat.le_trans hk l, r⟩
/-- a class whose making may raise -/
structure MksXG (P : Program) (w : World) (K : PySem.W.Frag) (mg : Str → Option Value) (base : Heap) (n : Nat) (W : Wd) (x : Str) (c : Nat) (sp : XSpD) : Prop where
  ex : ∃ (f : Addr) (fd : FuncData) (ps : List Str) (k : Nat) (dds : List D) (dvs : List V) (ds : List Value) (sp' : XSpD),
    k + 1 ≤ n ∧ mg x = some (.ref (W.cls c)) ∧ Mk K (W.cls c) f ∧ FnOk P w K mg base (L2.CX P w) k f fd ps (toSpX W sp') ∧ Binds K fd ps ds ∧ Vals dvs ds ∧ (∀ H, RelDs W.K H dds dvs) ∧ ∀ as G Q Y, sp as G Q Y → sp' (as ++ dds) G Q Y
theorem MksXG.x' {n c : Nat} {x : Str} {sp : XSpD} {A : Around} (h : MksXG P w K mg base n W x c sp) (hr : Room n A) : MksXX P w K mg base A W x c sp := by
  obtain ⟨f, fd, ps, k, dds, dvs, ds, sp', hk, a, b, F, r⟩ := h.ex
  exact ⟨f, fd, ps, k, dds, dvs, ds, sp', a, b, F, hr.mono hk, r⟩
theorem MksXG.mono {n n' c : Nat} {x : Str} {sp : XSpD} (h : MksXG P w K mg base n W x c sp) (l : n ≤ n') : MksXG P w K mg base n' W x c sp := by
  obtain ⟨f, fd, ps, k, dds, dvs, ds, sp', hk, r⟩ := h.ex
  exact ⟨f, fd, ps, k, dds, dvs, ds, sp', Nat.le_trans hk l, r⟩
theorem ExG.at {exs : List Nat} {H : Hp} (h : ExG K mg W exs) : ExG K mg (W.at H) exs := ⟨h.nm, h.no, h.is, h.ec, h.mkr⟩
theorem IsG.at {Da : Addr} {c : Nat} {H : Hp} (h : IsG K W Da c) : IsG K (W.at H) Da c := ⟨h.is, h.cl, h.ha, h.hn, h.htk, h.hm⟩
theorem ExG.sub {exs ks : List Nat} (h : ExG K mg W exs) (l : ∀ k ∈ ks, k ∈ exs) : ExG K mg W ks := ⟨fun k hk => h.nm k (l k hk), fun k hk => h.no k (l k hk), fun j hj k hk => h.is j hj k (l k hk), h.ec, h.mkr⟩
/-- what is known of the classes -/
structure ClsG (P : Program) (w : World) (K : PySem.W.Frag) (mg : Str → Option Value) (base : Heap) (n : Nat) (W : Wd) (Γ : Gam) (C : Ck) : Prop where
  cl : ∀ c, c < Γ.ncl → Cls K (W.cls c) ∧ ∀ f : Fd, NoAttr K (W.cls c) f.nm
  mth : ∀ (k : Nat) (m : Str), C.mth[k]? = some m → m ∉ fdNames ∧ ∀ c sp, (Γ.mth.getD k []).lookup c = some sp → MthG P w K mg base n W c m sp
  mks : ∀ (i : Nat) (x : Str), C.mks[i]? = some x → ∀ c sp, Γ.mks[i]? = some (c, sp) → MksG P w K mg base n W x c sp
  isc : ∀ (k : Nat) (x : Str), C.icl[k]? = some x → ∃ Da : Addr, mg x = some (.ref Da) ∧ ∀ c, memN (nthN Γ.isc k) c → IsG K W Da c
  xfn : ∀ (i : Nat) (x : Str), C.xfn[i]? = some x → FnXG P w K mg base n W (Γ.xfn.getD i botX) x
  xmk : ∀ (i : Nat) (x : Str), C.xmk[i]? = some x → ∀ c sp, Γ.xmk[i]? = some (c, sp) → MksXG P w K mg base n W x c sp
  ex : ExG K mg W C.exs
  exr : ∀ k ∈ C.exr, k ∈ W.exr
  xc0 : Γ.xc = noX := by rfl
  mrk : ∀ x ∈ C.mrk, MarkG P w K mg base n x
  hs : C.nst = true → W.hsh = nkHash P w
theorem ClsG.noN {n : Nat} {Γ : Gam} {C : Ck} (mrk : ∀ x ∈ C.mrk, MarkG P w K mg base n x) (hs : C.nst = true → W.hsh = nkHash P w) (h1 : C.mth = [] := by rfl) (h2 : C.mks = [] := by rfl) (h3 : Γ.ncl = 0 := by rfl) (h4 : C.icl = [] := by rfl) (h5 : C.xfn = [] := by rfl) (h6 : C.xmk = [] := by rfl) (h7 : C.exs = [] := by rfl) (h8 : C.exr = [] := by rfl) (h9 : W.exr = [] := by rfl) (h10 : Γ.xc = noX := by rfl) : ClsG P w K mg base n W Γ C :=
  { cl := fun c h => by rw [h3] at h; exact absurd h (Nat.not_lt_zero _)
    mth := fun k m h => by rw [h1] at h; simp at h
    mks := fun i x h => by rw [h2] at h; simp at h
    isc := fun i x h => by rw [h4] at h; simp at h
    xfn := fun i x h => by rw [h5] at h; simp at h
    xmk := fun i x h => by rw [h6] at h; simp at h
    ex := by rw [h7]; exact .nil h9
    exr := fun k h => by rw [h8] at h; exact nomatch h
    xc0 := h10
    mrk := mrk
    hs := hs }
theorem ClsG.noM {n : Nat} {Γ : Gam} {C : Ck} (mrk : ∀ x ∈ C.mrk, MarkG P w K mg base n x) (h1 : C.mth = [] := by rfl) (h2 : C.mks = [] := by rfl) (h3 : Γ.ncl = 0 := by rfl) (h4 : C.icl = [] := by rfl) (h5 : C.xfn = [] := by rfl) (h6 : C.xmk = [] := by rfl) (h7 : C.exs = [] := by rfl) (h8 : C.exr = [] := by rfl) (h9 : W.exr = [] := by rfl) (h10 : Γ.xc = noX := by rfl) (h12 : C.nst = false := by rfl) : ClsG P w K mg base n W Γ C :=
  ClsG.noN mrk (fun h => by rw [h12] at h; cases h) h1 h2 h3 h4 h5 h6 h7 h8 h9 h10
theorem mrk_nil {n : Nat} : ∀ x ∈ ([] : List Str), MarkG P w K mg base n x := fun x h => (nomatch h)
theorem ClsG.no {n : Nat} {Γ : Gam} {C : Ck} (h1 : C.mth = []) (h2 : C.mks = []) (h3 : Γ.ncl = 0) (h4 : C.icl = []) (h5 : C.xfn = [] := by rfl) (h6 : C.xmk = [] := by rfl) (h7 : C.exs = [] := by rfl) (h8 : C.exr = [] := by rfl) (h9 : W.exr = [] := by rfl) (h10 : Γ.xc = noX := by rfl) (h11 : C.mrk = [] := by rfl) (h12 : C.nst = false := by rfl) : ClsG P w K mg base n W Γ C :=
  ClsG.noM (by rw [h11]; exact mrk_nil) h1 h2 h3 h4 h5 h6 h7 h8 h9 h10 h12
/-- the body, ready for the rules of defs and methods -/
theorem body_ok {qual : Str} {st : Stmt} {N ps : List Str} {n : Nat} {Γ : Gam} {C : Ck} {b : B} (S : FnScope N ps (defScope st)) (hW : K = W.K) (hN : N = C.N) (M : Γ.Mono)
    (hb : chkB C (defScope st) b (defBody st) = true) (bn : ∀ x ∈ C.bn, mg x = none) (fn : ∀ (i : Nat) (x : Str), C.fn[i]? = some x → FnG P w K mg base n W (Γ.fn.getD i botD) x)
    (con : ∀ (i : Nat) (x : Str) (d : D), C.con[i]? = some x → Γ.con[i]? = some d → ∃ v u, mg x = some u ∧ RelV v u ∧ ∀ H, RelD W.K H d v)
    (dic : ∀ (i : Nat) (y : Str), C.dic[i]? = some y → DicG K w mg y (nthL Γ.dic i)) (cg : ClsG P w K mg base n W Γ C) (f : Addr) (cdv : Value) (A : Around) (outer : List Env) (s : Shared) (H : Hp) (vs : List V) (Q : VK) (E : XK)
    (hr : Room n (A.deeper (envOfC qual (defScope st) s.heap.objs.size f cdv))) (h : toSp W (den Γ N.length ps.length b) vs H Q E) :
    ∃ t, PSs (cxOf CX0 P w K mg base N qual (defScope st) f cdv A outer s H E).nox (defBody st) t ∧ t { nx := fun _ H' => Q .non H', rt := Q } (start N vs) H := by
  obtain ⟨ds, G, rd, rg, h⟩ := h
  have no : ∀ (j : Nat) (env : Ev) (G : Gp), ¬ Γ.xc j env G := fun j env G q => by rw [cg.xc0] at q; exact q
  refine ⟨SndS (W.at H) (wpB Γ b), snd_B b (W := W.at H) (C := C) (X := (cxOf CX0 P w K mg base N qual (defScope st) f cdv A outer s H E).nox) M (sc := defScope st) ⟨hW, hN, S.nd, fun x k h => .inl h, fun _ _ => rfl, fun _ => rfl, fun i x hx => ⟨((cg.xfn i x hx).x hr).ex⟩, fun i x hx c sp hl => ⟨((cg.xmk i x hx c sp hl).x' hr).ex⟩, cg.ex.at, cg.exr,
    fun _ => ⟨rfl, rfl, rfl, fun _ _ _ _ => False, takes0, fun j _ _ env G _ _ _ q => no j env G q⟩, fun _ => ⟨fun _ _ _ => False, takes0, fun j _ env G _ _ q => no j env G q⟩,
    bn, fun i x hx => ⟨((fn i x hx).x hr).ex⟩, con, dic, cg.cl, fun k m hm => ⟨(cg.mth k m hm).1, fun c sp hl => ⟨(((cg.mth k m hm).2 c sp hl).x hr).ex⟩⟩,
    fun i x hx c sp hl => ⟨((cg.mks i x hx c sp hl).x' hr).ex⟩, fun k x h => (cg.isc k x h).imp fun Da q => ⟨q.1, fun c m => (q.2 c m).at⟩, PassesOwn.never, (by have := hr.un; exact (by omega : (A.deeper (envOfC qual (defScope st) s.heap.objs.size f cdv)).units + 65 < cLine)), fun x hx => (cg.mrk x hx).x hr, cg.hs⟩ hb, ?_⟩
  refine ⟨_, G, RelSt.start rd N, rg, wpB_m M b ?_ h.2⟩
  exact ⟨fun e g h σ' H' l rs rg => h _ H' l rg (by simp [RelD]), fun d g h => h, fun e g h => h.elim⟩
theorem len_ok {N ps : List Str} {Γ : Gam} {b : B} : ∀ vs H Q E, toSp W (den Γ N.length ps.length b) vs H Q E → vs.length = ps.length := fun vs H Q E h => by
  obtain ⟨ds, G, rd, rg, h⟩ := h
  rw [← rd.length]; exact h.1
/-- a method without defaults -/
theorem mth_ok {m qual : Str} {st : Stmt} {N ps : List Str} {n c : Nat} {Γ : Gam} {C : Ck} {b : B} {f : Addr} {fd : FuncData} (F : Fun K m qual st f fd) (hcl : Cls K (W.cls c)) (hmt : Meth K (W.cls c) m f) (hbd : Binds K fd ps []) (S : FnScope N ps (defScope st)) (hW : K = W.K) (hN : N = C.N) (M : Γ.Mono)
    (hb : chkB C (defScope st) b (defBody st) = true) (bn : ∀ x ∈ C.bn, mg x = none) (fn : ∀ (i : Nat) (x : Str), C.fn[i]? = some x → FnG P w K mg base n W (Γ.fn.getD i botD) x)
    (con : ∀ (i : Nat) (x : Str) (d : D), C.con[i]? = some x → Γ.con[i]? = some d → ∃ v u, mg x = some u ∧ RelV v u ∧ ∀ H, RelD W.K H d v)
    (dic : ∀ (i : Nat) (y : Str), C.dic[i]? = some y → DicG K w mg y (nthL Γ.dic i)) (cg : ClsG P w K mg base n W Γ C) : MthG P w K mg base (n + 1) W c m (den Γ N.length ps.length b) :=
  ⟨f, fd, ps, n + 1, _, [], [], [], Nat.le_refl _, hcl, hmt, F.ok S len_ok (fun cdv A outer s H vs Q E hr h => body_ok S hW hN M hb bn fn con dic cg f cdv A outer s H vs Q E hr h), hbd, .nil, fun _ => .nil, fun as G Q h => by rw [List.append_nil]; exact h⟩
/-- a method with defaults, the last of them left out by the caller -/
theorem mthD_ok {m qual : Str} {st : Stmt} {N ps : List Str} {n c : Nat} {Γ : Gam} {C : Ck} {b : B} {f : Addr} {fd : FuncData} {dvs0 dvs : List V} {dds : List D} (F : FunD K m qual (defArgs st) (defBody st) (defScope st) dvs0 [] f fd) (hcl : Cls K (W.cls c)) (hmt : Meth K (W.cls c) m f)
    (hbd : ∃ ds, Vals dvs ds ∧ Binds K fd ps ds) (hdd : ∀ H, RelDs W.K H dds dvs) (S : FnScope N ps (defScope st)) (hW : K = W.K) (hN : N = C.N) (M : Γ.Mono)
    (hb : chkB C (defScope st) b (defBody st) = true) (bn : ∀ x ∈ C.bn, mg x = none) (fn : ∀ (i : Nat) (x : Str), C.fn[i]? = some x → FnG P w K mg base n W (Γ.fn.getD i botD) x)
    (con : ∀ (i : Nat) (x : Str) (d : D), C.con[i]? = some x → Γ.con[i]? = some d → ∃ v u, mg x = some u ∧ RelV v u ∧ ∀ H, RelD W.K H d v)
    (dic : ∀ (i : Nat) (y : Str), C.dic[i]? = some y → DicG K w mg y (nthL Γ.dic i)) (cg : ClsG P w K mg base n W Γ C) : MthG P w K mg base (n + 1) W c m (fun ds G Q => den Γ N.length ps.length b (ds ++ dds) G Q) := by
  obtain ⟨ds, hv, hbd⟩ := hbd
  exact ⟨f, fd, ps, n + 1, _, dds, dvs, ds, Nat.le_refl _, hcl, hmt, F.ok S len_ok (fun cdv A outer s H vs Q E hr h => by
    obtain ⟨t, h1, h2⟩ := body_ok S hW hN M hb bn fn con dic cg f cdv A outer s H vs Q E hr h
    exact ⟨t, h1.nox, h2⟩), hbd, hv, hdd, fun as G Q h => h⟩
/-- a method as it stands in the class's line -/
structure MethAt (K : PySem.W.Frag) (C : Addr) (m qual : Str) (st : Stmt) (ps : List Str) : Prop where
  ex : ∃ (f : Addr) (fd : FuncData), Fun K m qual st f fd ∧ Meth K C m f ∧ Binds K fd ps []
structure MethAtD (K : PySem.W.Frag) (C : Addr) (m qual : Str) (st : Stmt) (ps : List Str) (dvs0 dvs : List V) : Prop where
  ex : ∃ (f : Addr) (fd : FuncData), FunD K m qual (defArgs st) (defBody st) (defScope st) dvs0 [] f fd ∧ Meth K C m f ∧ ∃ ds, Vals dvs ds ∧ Binds K fd ps ds
theorem MethAt.g {m qual : Str} {st : Stmt} {N ps : List Str} {n c : Nat} {Γ : Gam} {C : Ck} {b : B} (Dm : MethAt K (W.cls c) m qual st ps) (hcl : Cls K (W.cls c)) (S : FnScope N ps (defScope st)) (hW : K = W.K) (hN : N = C.N) (M : Γ.Mono)
    (hb : chkB C (defScope st) b (defBody st) = true) (bn : ∀ x ∈ C.bn, mg x = none) (fn : ∀ (i : Nat) (x : Str), C.fn[i]? = some x → FnG P w K mg base n W (Γ.fn.getD i botD) x)
    (con : ∀ (i : Nat) (x : Str) (d : D), C.con[i]? = some x → Γ.con[i]? = some d → ∃ v u, mg x = some u ∧ RelV v u ∧ ∀ H, RelD W.K H d v)
    (dic : ∀ (i : Nat) (y : Str), C.dic[i]? = some y → DicG K w mg y (nthL Γ.dic i)) (cg : ClsG P w K mg base n W Γ C) : MthG P w K mg base (n + 1) W c m (den Γ N.length ps.length b) := by
  obtain ⟨f, fd, F, hmt, hbd⟩ := Dm.ex
  exact mth_ok F hcl hmt hbd S hW hN M hb bn fn con dic cg
theorem MethAtD.g {m qual : Str} {st : Stmt} {N ps : List Str} {n c : Nat} {Γ : Gam} {C : Ck} {b : B} {dvs0 dvs : List V} {dds : List D} (Dm : MethAtD K (W.cls c) m qual st ps dvs0 dvs) (hdd : ∀ H, RelDs W.K H dds dvs) (hcl : Cls K (W.cls c)) (S : FnScope N ps (defScope st)) (hW : K = W.K) (hN : N = C.N) (M : Γ.Mono)
    (hb : chkB C (defScope st) b (defBody st) = true) (bn : ∀ x ∈ C.bn, mg x = none) (fn : ∀ (i : Nat) (x : Str), C.fn[i]? = some x → FnG P w K mg base n W (Γ.fn.getD i botD) x)
    (con : ∀ (i : Nat) (x : Str) (d : D), C.con[i]? = some x → Γ.con[i]? = some d → ∃ v u, mg x = some u ∧ RelV v u ∧ ∀ H, RelD W.K H d v)
    (dic : ∀ (i : Nat) (y : Str), C.dic[i]? = some y → DicG K w mg y (nthL Γ.dic i)) (cg : ClsG P w K mg base n W Γ C) : MthG P w K mg base (n + 1) W c m (fun ds G Q => den Γ N.length ps.length b (ds ++ dds) G Q) := by
  obtain ⟨f, fd, F, hmt, hbd⟩ := Dm.ex
  exact mthD_ok F hcl hmt hbd hdd S hW hN M hb bn fn con dic cg
theorem MthG.all {n c : Nat} {m : Str} {sp : SpD} (h : MthG P w K mg base n W c m fun ds G Q => sp (ds ++ []) G Q) : MthG P w K mg base n W c m sp := by
  obtain ⟨f, fd, ps, k, sp', dds, dvs, ds, hk, a, b, F, c, d, e, g⟩ := h.ex
  exact ⟨f, fd, ps, k, sp', dds, dvs, ds, hk, a, b, F, c, d, e, fun as G Q q => g as G Q (by rw [List.append_nil]; exact q)⟩
theorem mem_cons {Da : Addr} {d : Nat} {r : List Nat} (h : IsG K W Da d) (t : ∀ c, memN r c → IsG K W Da c) : ∀ c, memN (d :: r) c → IsG K W Da c := fun c q => by
  unfold memN at q
  by_cases e : d = c
  · subst e; exact h
  · rw [if_neg e] at q; exact t c q
/-- a def keeps what our meaning of its body says -/
theorem def_bodyO {x : Str} {st : Stmt} {f : Addr} {fd : FuncData} {N ps : List Str} {n : Nat} {Γ : Gam} {C : Ck} {b : B} (F : Fun K x x st f fd) (S : FnScope N ps (defScope st)) (hW : K = W.K) (hN : N = C.N) (M : Γ.Mono)
    (hb : chkB C (defScope st) b (defBody st) = true) (bn : ∀ x ∈ C.bn, mg x = none) (fn : ∀ (i : Nat) (x : Str), C.fn[i]? = some x → FnG P w K mg base n W (Γ.fn.getD i botD) x)
    (con : ∀ (i : Nat) (x : Str) (d : D), C.con[i]? = some x → Γ.con[i]? = some d → ∃ v u, mg x = some u ∧ RelV v u ∧ ∀ H, RelD W.K H d v)
    (dic : ∀ (i : Nat) (y : Str), C.dic[i]? = some y → DicG K w mg y (nthL Γ.dic i)) (cg : ClsG P w K mg base n W Γ C) :
    FnOk P w K mg base CX0 (n + 1) f fd ps (toSp W (den Γ N.length ps.length b)) :=
  F.ok S len_ok (fun cdv A outer s H vs Q E hr h => body_ok S hW hN M hb bn fn con dic cg f cdv A outer s H vs Q E hr h)
theorem def_okO {x : Str} {st : Stmt} {N ps : List Str} {n : Nat} {Γ : Gam} {C : Ck} {b : B} (F : DefAt K mg x st ps) (S : FnScope N ps (defScope st)) (hW : K = W.K) (hN : N = C.N) (M : Γ.Mono)
    (hb : chkB C (defScope st) b (defBody st) = true) (bn : ∀ x ∈ C.bn, mg x = none) (fn : ∀ (i : Nat) (x : Str), C.fn[i]? = some x → FnG P w K mg base n W (Γ.fn.getD i botD) x)
    (con : ∀ (i : Nat) (x : Str) (d : D), C.con[i]? = some x → Γ.con[i]? = some d → ∃ v u, mg x = some u ∧ RelV v u ∧ ∀ H, RelD W.K H d v)
    (dic : ∀ (i : Nat) (y : Str), C.dic[i]? = some y → DicG K w mg y (nthL Γ.dic i)) (cg : ClsG P w K mg base n W Γ C) :
    FnG P w K mg base (n + 1) W (den Γ N.length ps.length b) x := by
  obtain ⟨f, fd, F, hm, hb', _⟩ := F.ex
  exact ⟨f, fd, ps, n + 1, _, [], [], [], Nat.le_refl _, def_bodyO F S hW hN M hb bn fn con dic cg, hm, F.kp, hb', .nil, fun _ => .nil, fun as G Q h => by rw [List.append_nil]; exact h⟩
/-- a def keeps what our meaning of its body says -/
theorem def_body {x : Str} {st : Stmt} {f : Addr} {fd : FuncData} {N ps : List Str} {n : Nat} {Γ : Gam} {C : Ck} {b : B} (F : Fun K x x st f fd) (S : FnScope N ps (defScope st)) (hW : K = W.K) (hN : N = C.N) (M : Γ.Mono)
    (hb : chkB C (defScope st) b (defBody st) = true) (bn : ∀ x ∈ C.bn, mg x = none) (fn : ∀ (i : Nat) (x : Str), C.fn[i]? = some x → FnG P w K mg base n W (Γ.fn.getD i botD) x)
    (con : ∀ (i : Nat) (x : Str) (d : D), C.con[i]? = some x → Γ.con[i]? = some d → ∃ v u, mg x = some u ∧ RelV v u ∧ ∀ H, RelD W.K H d v)
    (dic : ∀ (i : Nat) (y : Str), C.dic[i]? = some y → DicG K w mg y (nthL Γ.dic i)) (h1 : C.mth = [] := by rfl) (h2 : C.mks = [] := by rfl) (h3 : Γ.ncl = 0 := by rfl) (h4 : C.icl = [] := by rfl) (h5 : C.xfn = [] := by rfl) (h6 : C.xmk = [] := by rfl) (h7 : C.exs = [] := by rfl) (h8 : C.exr = [] := by rfl) (h9 : W.exr = [] := by rfl) (h10 : Γ.xc = noX := by rfl) (h11 : C.mrk = [] := by rfl) (h12 : C.nst = false := by rfl) :
    FnOk P w K mg base CX0 (n + 1) f fd ps (toSp W (den Γ N.length ps.length b)) :=
  def_bodyO F S hW hN M hb bn fn con dic (ClsG.no h1 h2 h3 h4 h5 h6 h7 h8 h9 h10 h11 h12)
theorem def_ok {x : Str} {st : Stmt} {N ps : List Str} {n : Nat} {Γ : Gam} {C : Ck} {b : B} (F : DefAt K mg x st ps) (S : FnScope N ps (defScope st)) (hW : K = W.K) (hN : N = C.N) (M : Γ.Mono)
    (hb : chkB C (defScope st) b (defBody st) = true) (bn : ∀ x ∈ C.bn, mg x = none) (fn : ∀ (i : Nat) (x : Str), C.fn[i]? = some x → FnG P w K mg base n W (Γ.fn.getD i botD) x)
    (con : ∀ (i : Nat) (x : Str) (d : D), C.con[i]? = some x → Γ.con[i]? = some d → ∃ v u, mg x = some u ∧ RelV v u ∧ ∀ H, RelD W.K H d v)
    (dic : ∀ (i : Nat) (y : Str), C.dic[i]? = some y → DicG K w mg y (nthL Γ.dic i)) (h1 : C.mth = [] := by rfl) (h2 : C.mks = [] := by rfl) (h3 : Γ.ncl = 0 := by rfl) (h4 : C.icl = [] := by rfl) (h5 : C.xfn = [] := by rfl) (h6 : C.xmk = [] := by rfl) (h7 : C.exs = [] := by rfl) (h8 : C.exr = [] := by rfl) (h9 : W.exr = [] := by rfl) (h10 : Γ.xc = noX := by rfl) (h11 : C.mrk = [] := by rfl) (h12 : C.nst = false := by rfl) :
    FnG P w K mg base (n + 1) W (den Γ N.length ps.length b) x := by
  obtain ⟨f, fd, F, hm, hb', _⟩ := F.ex
  exact ⟨f, fd, ps, n + 1, _, [], [], [], Nat.le_refl _, def_body F S hW hN M hb bn fn con dic h1 h2 h3 h4 h5 h6 h7 h8 h9 h10 h11 h12, hm, F.kp, hb', .nil, fun _ => .nil, fun as G Q h => by rw [List.append_nil]; exact h⟩
theorem FnG.mono {n n' : Nat} {m : SpD} {x : Str} (h : FnG P w K mg base n W m x) (l : n ≤ n') : FnG P w K mg base n' W m x := by
  obtain ⟨f, fd, ps, k, sp, dds, dvs, ds, hk, r⟩ := h
  exact ⟨f, fd, ps, k, sp, dds, dvs, ds, Nat.le_trans hk l, r⟩
theorem fn_nil {n : Nat} {l : List SpD} : ∀ (i : Nat) (x : Str), ([] : List Str)[i]? = some x → FnG P w K mg base n W (l.getD i botD) x := fun i x h => by simp at h
theorem fn_cons {n n' : Nat} {m : SpD} {ms : List SpD} {y : Str} {ys : List Str} (h : FnG P w K mg base n' W m y) (l : n' ≤ n) (t : ∀ (i : Nat) (x : Str), ys[i]? = some x → FnG P w K mg base n W (ms.getD i botD) x) :
    ∀ (i : Nat) (x : Str), (y :: ys)[i]? = some x → FnG P w K mg base n W ((m :: ms).getD i botD) x
  | 0, x, e => by
    have e' : y = x := by simpa using e
    subst e'
    exact h.mono l
  | i + 1, x, e => t i x (by simpa using e)
theorem con_nil {l : List D} : ∀ (i : Nat) (x : Str) (d : D), ([] : List Str)[i]? = some x → l[i]? = some d → ∃ v u, mg x = some u ∧ RelV v u ∧ ∀ H, RelD W.K H d v := fun i x d h => by simp at h
theorem con_cons {y : Str} {ys : List Str} {e : D} {l : List D} {v : V} {u : Value} (h : mg y = some u) (r : RelV v u) (q : ∀ H, RelD W.K H e v) (t : ∀ (i : Nat) (x : Str) (d : D), ys[i]? = some x → l[i]? = some d → ∃ v u, mg x = some u ∧ RelV v u ∧ ∀ H, RelD W.K H d v) :
    ∀ (i : Nat) (x : Str) (d : D), (y :: ys)[i]? = some x → (e :: l)[i]? = some d → ∃ v u, mg x = some u ∧ RelV v u ∧ ∀ H, RelD W.K H d v
  | 0, x, d, h1, h2 => by
    have e1 : y = x := by simpa using h1
    have e2 : e = d := by simpa using h2
    subst e1; subst e2
    exact ⟨v, u, h, r, q⟩
  | i + 1, x, d, h1, h2 => t i x d (by simpa using h1) (by simpa using h2)
/-! constants of the module -/
def ConG (K : PySem.W.Frag) (mg : Str → Option Value) (x : Str) (d : D) : Prop := ∃ v u, mg x = some u ∧ RelV v u ∧ ∀ H, RelD K H d v
section
variable {h : Heap} {x : Str}
theorem RelDs.strs {H : Hp} : ∀ zs : List Str, RelDs K H (zs.map D.str) (zs.map V.str)
  | [] => .nil
  | z :: zs => .cons (by simp [RelD]) (RelDs.strs zs)
/-- a written table's entries -/
def entOf (P : Params) : List DictEntry → List (Str × Int) → Prop
  | [], [] => True
  | e :: es, (z, i) :: l => ((∃ t, e.key = .str z t ∧ e.hash = PyData.keyHash P z) ∧ ∃ t, e.val = .int i t) ∧ entOf P es l
  | _, _ => False
theorem entOf.lit {P : Params} : ∀ {es : List DictEntry} {l : List (Str × Int)}, entOf P es l → PySem.W.KeysLit P es
  | [], [], _ => trivial
  | e :: es, (z, i) :: l, h => ⟨⟨z, h.1.1⟩, entOf.lit h.2⟩
  | [], _ :: _, h => h.elim
  | _ :: _, [], h => h.elim
theorem entOf.find {P : Params} (z : Str) : ∀ {es : List DictEntry} {l : List (Str × Int)}, entOf P es l →
    (dget l z = none → es.find? (·.key.isStr z) = none ∧ es.any (·.refKey) = false) ∧ ∀ i, dget l z = some i → ∃ e t, es.find? (·.key.isStr z) = some e ∧ e.val = .int i t
  | [], [], _ => ⟨fun _ => ⟨rfl, rfl⟩, fun i h => by cases h⟩
  | e :: es, (y, i) :: l, h => by
    obtain ⟨⟨⟨t, hk, hh⟩, t', hv⟩, h⟩ := h
    obtain ⟨ih1, ih2⟩ := entOf.find z h
    have hs : e.key.isStr z = (y == z) := by rw [hk]; rfl
    have hr : e.refKey = false := by unfold DictEntry.refKey; rw [hk]
    by_cases q : z = y
    · subst q
      have hs : e.key.isStr z = true := by rw [hs]; simp
      refine ⟨fun h => by simp [dget] at h, fun j hj => ?_⟩
      simp only [dget, if_true, Option.some.injEq] at hj
      subst hj
      exact ⟨e, t', by rw [List.find?_cons, hs], hv⟩
    · have hs : e.key.isStr z = false := by rw [hs]; exact beq_eq_false_iff_ne.mpr fun e => q e.symm
      simp only [dget, if_neg q]
      refine ⟨fun h => ?_, fun j hj => ?_⟩
      · obtain ⟨a, b⟩ := ih1 h
        exact ⟨by rw [List.find?_cons, hs]; exact a, by rw [List.any_cons, hr, b]; rfl⟩
      · obtain ⟨e', t, a, b⟩ := ih2 j hj
        exact ⟨e', t, by rw [List.find?_cons, hs]; exact a, b⟩
  | [], _ :: _, h => h.elim
  | _ :: _, [], h => h.elim
end
theorem dic_nil {l : List (List (Str × Int))} : ∀ (i : Nat) (y : Str), ([] : List Str)[i]? = some y → DicG K w mg y (nthL l i) := fun i y h => by simp at h
theorem con_consG {y : Str} {ys : List Str} {e : D} {l : List D} (h : ConG W.K mg y e) (t : ∀ (i : Nat) (x : Str) (d : D), ys[i]? = some x → l[i]? = some d → ∃ v u, mg x = some u ∧ RelV v u ∧ ∀ H, RelD W.K H d v) :
    ∀ (i : Nat) (x : Str) (d : D), (y :: ys)[i]? = some x → (e :: l)[i]? = some d → ∃ v u, mg x = some u ∧ RelV v u ∧ ∀ H, RelD W.K H d v := by
  obtain ⟨v, u, a, b, c⟩ := h
  exact con_cons a b c t
theorem mono_fn {fs : List SpD} {cs : List D} {ts : List (List (Str × Int))} (h : ∀ m ∈ fs, MonoS m) : Gam.Mono { fn := fs, con := cs, dic := ts } := { fn := h, mth := fun _ h => by simp at h, mks := fun _ h => by simp at h }
/-- builtins that the module leaves alone -/
theorem bn_nil : ∀ x ∈ ([] : List Str), mg x = none := fun _ h => by simp at h
theorem bn_cons {y : Str} {ys : List Str} (h : mg y = none) (t : ∀ x ∈ ys, mg x = none) : ∀ x ∈ (y :: ys), mg x = none := fun x hx => by
  rcases List.mem_cons.mp hx with e | e
  · rw [e]; exact h
  · exact t x e
end
/-- the law itself, over plain data -/
def LawD (m : SpD) : Prop := ∀ ns : List Int, ns.length ≤ 63 → (∀ z ∈ ns, Builtin.Int.intBits z ≤ 1048576) → m [.ro (ns.map D.int)] (fun _ => none) fun d _ => d = .bl true
theorem law_sp {W : Wd} {m : SpD} (L : LawD m) (M : MonoS m) (H : Hp) (a : Addr) (ns : List Int) (hl : ns.length ≤ 63) (hb : ∀ z ∈ ns, Builtin.Int.intBits z ≤ 1048576) (hO : Only H) (hS : SqL W.K H a (ns.map V.int)) :
    toSp W m [.ref a] H (fun v _ => v = .bl true) fun _ _ _ => False := by
  refine ⟨[.ro (ns.map D.int)], fun _ => none, .cons ?_ .nil, ⟨fun _ _ h => (nomatch h), .rfl⟩, M _ _ _ _ (fun d G e => ?_) (L ns hl hb)⟩
  · simp only [RelD]
    exact ⟨a, _, rfl, .of hO hS, .ints⟩
  · subst e
    exact fun v H' _ _ r => by simpa [RelD] using r
/-- what the law's def is called with -/
def spL (K : PySem.W.Frag) : Sp := fun vs H Q _ => ∃ (a : Addr) (ns : List Int), vs = [.ref a] ∧ ns.length ≤ 63 ∧ (∀ z ∈ ns, Builtin.Int.intBits z ≤ 1048576) ∧ Only H ∧ SqL K H a (ns.map V.int) ∧ ∀ H', Q (.bl true) H'
theorem law_end {P : Program} {w : World} {K : PySem.W.Frag} {mg : Str → Option Value} {fa : Addr} {x : Str} {st : Stmt} {k : Nat} {W : Wd} {m : SpD} (hW : K = W.K) (D : DefAt K mg "law" st [x]) (hfa : mg "law" = some (.ref fa)) (L : LawD m) (M : MonoS m)
    (F : ∀ base : Heap, K.In base → base.Ns mainGlobals mg → ∀ {f : Addr} {fd : FuncData}, Fun K "law" "law" st f fd → FnOk P w K mg base CX0 k f fd [x] (toSp W m)) :
    ∃ fd : FuncData, (∀ (s : Shared) (u : Value), BindsTo s fd ⟨[u], []⟩ [(x, u)]) ∧ ∀ base : Heap, K.In base → base.Ns mainGlobals mg → FnOk P w K mg base CX0 k fa fd [x] (spL K) := by
  obtain ⟨f, fd, Fn, hm, _, hb⟩ := D.ex
  rw [hfa] at hm
  cases hm
  refine ⟨fd, fun s u => .of_eq (hb [u] rfl), fun base h1 h2 => (F base h1 h2 Fn).imp fun vs H Q E h => ?_⟩
  obtain ⟨a, ns, rfl, hl, hbits, hO, hS, q⟩ := h
  obtain ⟨ds, G, rd, rg, h⟩ := law_sp (W := W) L M H a ns hl hbits hO (by rw [← hW]; exact hS)
  refine ⟨ds, G, rd, rg, M _ _ _ _ (fun d G' h v H' l' rg' rd' => ?_) h⟩
  rw [show v = V.bl true from h v H' l' rg' rd']
  exact q H'
section
variable {P : Program} {w : World} {K : PySem.W.Frag} {mg : Str → Option Value} {base : Heap} {W : Wd}
theorem FnG.all {n : Nat} {m : SpD} {x : Str} (h : FnG P w K mg base n W (fun ds G Q => m (ds ++ []) G Q) x) : FnG P w K mg base n W m x := by
  obtain ⟨f, fd, ps, k, sp, dds, dvs, ds, hk, F, a, b, c, d, e, g⟩ := h
  exact ⟨f, fd, ps, k, sp, dds, dvs, ds, hk, F, a, b, c, d, e, fun as G Q q => g as G Q (by show m (as ++ []) G Q; rw [List.append_nil]; exact q)⟩
end
end DL
namespace DL
open PySem PySem.Spec PyProof.Rows L2
/-! a def over two marks whose text replaces them (k06): stepped as it stands, its arguments' tokens known -/
section
variable {P : Program} {w : World} {A : Around} {env : Env} {m : Str → Option Value} {n0 : Nat}
abbrev nst := starless
end
end DL
namespace DL
open PySem PySem.Spec PyProof.Rows L2
theorem forD_by {chk : Gp → Prop} {set : D → Ev → (Ev → Prop) → Prop} {body : (Ev → Gp → Prop) → Ev → Gp → Prop} {nx : Ev → Gp → Prop} {ds : List D} {env : Ev} {G : Gp}
    (hset : ∀ d env k k', (∀ e, k e → k' e) → set d env k → set d env k') (hb : ∀ k k', (∀ e g, k e g → k' e g) → ∀ e g, body k e g → body k' e g)
    (I : Nat → Ev → Gp → Prop) (h0 : I 0 env G) (hc : ∀ i env G, I i env G → chk G) (step : ∀ i d env G, ds[i]? = some d → I i env G → set d env fun env' => body (I (i + 1)) env' G)
    (hd : ∀ env G, I ds.length env G → nx env G) : forD chk set body nx ds env G := by
  have go : ∀ (es : List D) (i : Nat) env G, (∀ j d, es[j]? = some d → ds[i + j]? = some d) → i + es.length = ds.length → I i env G → forD chk set body nx es env G := by
    intro es
    induction es with
    | nil =>
      intro i env G _ hl h
      have : i = ds.length := by simpa using hl
      subst this
      exact ⟨hc _ _ _ h, hd _ _ h⟩
    | cons d es ih =>
      intro i env G hj hl h
      refine ⟨hc _ _ _ h, hset _ _ _ _ (fun e q => hb _ _ (fun e g q => ih (i + 1) e g (fun j d' e' => ?_) ?_ q) _ _ q) (step i d env G (hj 0 d rfl) h)⟩
      · have := hj (j + 1) d' (by simpa using e')
        rw [show i + 1 + j = i + (j + 1) by omega]; exact this
      · simp only [List.length_cons] at hl; omega
  exact go ds 0 env G (fun j d h => by rw [Nat.zero_add]; exact h) (by omega) h0
section
variable {Γ : Gam} (M : Γ.Mono)
include M
/-- a for loop, by what holds ahead of turn i -/
theorem for_by {chk : Gp → Prop} {t : Tg} {b : B} {rt : K1} {nx : Ev → Gp → Prop} {ds : List D} {env : Ev} {G : Gp} (I : Nat → Ev → Gp → Prop) (h0 : I 0 env G) (hc : ∀ i env G, I i env G → chk G)
    (step : ∀ i d env G, ds[i]? = some d → I i env G → setT t d env fun env' => wpB Γ b { nx := I (i + 1), rt := rt, ct := I (i + 1) } env' G) (hd : ∀ env G, I ds.length env G → nx env G) :
    forD chk (setT t) (fun k => wpB Γ b { nx := k, rt := rt, ct := k }) nx ds env G :=
  forD_by (fun _ _ _ _ f h => setT_mono f h) (fun k k' f e g h => wpB_mono M b { nx := k, rt := rt, ct := k } { nx := k', rt := rt, ct := k' } e g ⟨f, fun _ _ h => h, f⟩ h) I h0 hc step hd
theorem whl_by {c : T} {b : B} {rt : K1} {nx : Ev → Gp → Prop} (I : Nat → Ev → Gp → Prop) {m : Nat} {env : Ev} {G : Gp} (h0 : I m env G)
    (step : ∀ m env G, I m env G → wpT Γ c env G fun t G1 => if t = true then wpB Γ b { nx := fun env' G' => ∃ m', m' < m ∧ I m' env' G', rt := rt, ct := fun env' G' => ∃ m', m' < m ∧ I m' env' G' } env G1 else nx env G1) :
    ∃ n, whlD (wpT Γ c) (fun k => wpB Γ b { nx := k, rt := rt, ct := k }) nx n env G := by
  have hb : ∀ k k' : Ev → Gp → Prop, (∀ e g, k e g → k' e g) → ∀ e g, wpB Γ b { nx := k, rt := rt, ct := k } e g → wpB Γ b { nx := k', rt := rt, ct := k' } e g := fun k k' f e g h => wpB_mono M b { nx := k, rt := rt, ct := k } { nx := k', rt := rt, ct := k' } e g ⟨f, fun _ _ h => h, f⟩ h
  have go : ∀ n m env G, m < n → I m env G → whlD (wpT Γ c) (fun k => wpB Γ b { nx := k, rt := rt, ct := k }) nx n env G := by
    intro n
    induction n with
    | zero => intro m env G h; omega
    | succ n ih =>
      intro m env G hm h
      refine wpT_mono M c env G _ _ (fun t G1 q => ?_) (step m env G h)
      cases t with
      | false => exact q
      | true =>
        rw [if_pos rfl] at q ⊢
        exact hb _ _ (fun e g ⟨m', h1, h2⟩ => ih m' e g (by omega) h2) _ _ q
  exact ⟨m + 1, go (m + 1) m env G (Nat.lt_succ_self m) h0⟩
end
theorem onL_some {o : Option GO} {xs : List D} {k : List D → Prop} (h : o = some (.lst xs)) (q : k xs) : onL o k := by subst h; exact q
theorem bAnd_nat (a b : Nat) : Builtin.bitAnd (a : Int) (b : Int) = ((a &&& b : Nat) : Int) := by
  unfold Builtin.bitAnd
  have h1 : decide ((0 : Int) ≤ (a : Int)) = true := decide_eq_true (Int.natCast_nonneg a)
  have h2 : decide ((0 : Int) ≤ (b : Int)) = true := decide_eq_true (Int.natCast_nonneg b)
  rw [h1, h2]
  simp
end DL
namespace DL
open PySem L2
/-! ### stepping: one equation a construct -/
def lookE : Ev → Nat → (D → Prop) → Prop
  | some d :: _, 0, k => k d
  | _ :: r, n + 1, k => lookE r n k
  | _, _, _ => False
theorem look_0 (d : D) (r : Ev) (k : D → Prop) : lookE (some d :: r) 0 k = k d := rfl
theorem look_s (d : Option D) (r : Ev) (n : Nat) (k : D → Prop) : lookE (d :: r) (n + 1) k = lookE r n k := by cases d <;> rfl
theorem lookE_eq : ∀ (env : Ev) (i : Nat) (k : D → Prop), (match env[i]? with | some (some d) => k d | _ => False) = lookE env i k
  | [], i, k => by simp [lookE]
  | none :: r, 0, k => rfl
  | some d :: r, 0, k => rfl
  | none :: r, i + 1, k => by simpa [lookE] using lookE_eq r i k
  | some d :: r, i + 1, k => by simpa [lookE] using lookE_eq r i k
/-- what was found, or the other one -/
def onD : Option Int → DL.D → (DL.D → Prop) → Prop
  | some i, _, k => k (.int i)
  | none, e, k => k e
/-- the k-th of a list of meanings -/
def nthS : List SpD → Nat → SpD
  | m :: _, 0 => m
  | _ :: r, n + 1 => nthS r n
  | [], _ => botD
theorem nthS_eq : ∀ (l : List SpD) (i : Nat), l.getD i botD = nthS l i
  | [], i => by simp [nthS]
  | m :: r, 0 => rfl
  | m :: r, i + 1 => by simpa [nthS] using nthS_eq r i
theorem nth_0 (m : SpD) (r : List SpD) : nthS (m :: r) 0 = m := rfl
theorem nth_s (m : SpD) (r : List SpD) (n : Nat) : nthS (m :: r) (n + 1) = nthS r n := rfl
def nthX : List XSpD → Nat → XSpD
  | m :: _, 0 => m
  | _ :: r, n + 1 => nthX r n
  | [], _ => botX
theorem nthX_eq : ∀ (l : List XSpD) (i : Nat), l.getD i botX = nthX l i
  | [], i => by simp [nthX]
  | m :: r, 0 => rfl
  | m :: r, i + 1 => by simpa [nthX] using nthX_eq r i
theorem nth_x0 (m : XSpD) (r : List XSpD) : nthX (m :: r) 0 = m := rfl
theorem nth_xs (m : XSpD) (r : List XSpD) (n : Nat) : nthX (m :: r) (n + 1) = nthX r n := rfl
def nthM : List (Nat × XSpD) → Nat → (Nat → XSpD → Prop) → Prop
  | p :: _, 0, k => k p.1 p.2
  | _ :: r, n + 1, k => nthM r n k
  | [], _, _ => False
theorem nthM_eq : ∀ (l : List (Nat × XSpD)) (i : Nat) (k : Nat → XSpD → Prop), (match l[i]? with | some p => k p.1 p.2 | none => False) = nthM l i k
  | [], i, k => by simp [nthM]
  | p :: r, 0, k => rfl
  | p :: r, i + 1, k => by simpa [nthM] using nthM_eq r i k
theorem nth_m0 (c : Nat) (m : XSpD) (r : List (Nat × XSpD)) (k : Nat → XSpD → Prop) : nthM ((c, m) :: r) 0 k = k c m := rfl
theorem nth_ms (p : Nat × XSpD) (r : List (Nat × XSpD)) (n : Nat) (k : Nat → XSpD → Prop) : nthM (p :: r) (n + 1) k = nthM r n k := rfl
def nthD : List D → Nat → (D → Prop) → Prop
  | d :: _, 0, k => k d
  | _ :: r, n + 1, k => nthD r n k
  | [], _, _ => False
theorem nthD_eq : ∀ (l : List D) (i : Nat) (k : D → Prop), (match l[i]? with | some d => k d | _ => False) = nthD l i k
  | [], i, k => by simp [nthD]
  | m :: r, 0, k => rfl
  | m :: r, i + 1, k => by simpa [nthD] using nthD_eq r i k
theorem nthD_0 (d : D) (r : List D) (k : D → Prop) : nthD (d :: r) 0 k = k d := rfl
theorem nthD_s (d : D) (r : List D) (n : Nat) (k : D → Prop) : nthD (d :: r) (n + 1) k = nthD r n k := rfl
/-- storing at a place -/
def putE : Ev → Nat → D → Ev
  | _ :: r, 0, d => some d :: r
  | x :: r, n + 1, d => x :: putE r n d
  | [], _, _ => []
theorem put_0 (x : Option D) (r : Ev) (d : D) : putE (x :: r) 0 d = some d :: r := rfl
theorem put_s (x : Option D) (r : Ev) (n : Nat) (d : D) : putE (x :: r) (n + 1) d = x :: putE r n d := rfl
theorem putE_eq : ∀ (env : Ev) (i : Nat) (d : D), env.set i (some d) = putE env i d
  | [], _, _ => rfl
  | x :: r, 0, d => rfl
  | x :: r, i + 1, d => by rw [put_s, ← putE_eq r i d]; rfl
def putsE : List Nat → List D → Ev → Ev
  | i :: is, d :: ds, env => putsE is ds (putE env i d)
  | _, _, env => env
theorem puts_c (i : Nat) (is : List Nat) (d : D) (ds : List D) (env : Ev) : putsE (i :: is) (d :: ds) env = putsE is ds (putE env i d) := rfl
theorem puts_n (ds : List D) (env : Ev) : putsE [] ds env = env := rfl
theorem putsE_eq : ∀ (is : List Nat) (ds : List D) (env : Ev), (is.zip ds).foldl (fun e p => e.set p.1 (some p.2)) env = putsE is ds env
  | [], _, _ => rfl
  | _ :: _, [], _ => rfl
  | i :: is, d :: ds, env => by
    show (is.zip ds).foldl (fun e p => e.set p.1 (some p.2)) (env.set i (some d)) = _
    rw [putsE_eq is ds, putE_eq]; rfl
section
variable (Γ : Gam) (env : Ev) (G : Gp) (Q : K1) (D : Dn) (k : Bool → Gp → Prop)
theorem e_v (i : Nat) : wpE Γ (.v i) env G Q = lookE env i fun d => Q d G := by simp only [wpE]; exact lookE_eq env i _
theorem e_i (n : Int) : wpE Γ (.i n) env G Q = Q (.int n) G := by simp only [wpE]
theorem e_b (n : Bool) : wpE Γ (.b n) env G Q = Q (.bl n) G := by simp only [wpE]
theorem e_s (n : Str) : wpE Γ (.s n) env G Q = Q (.str n) G := by simp only [wpE]
theorem e_non : wpE Γ .non env G Q = Q .non G := by simp only [wpE]
theorem e_con (n : Nat) : wpE Γ (.con n) env G Q = nthD Γ.con n fun d => Q d G := by simp only [wpE]; exact nthD_eq Γ.con n _
theorem e_mrk (x y i : E) : wpE Γ (.mrk x y i) env G Q = wpE Γ x env G fun d G1 => wpE Γ y env G1 fun e G2 => wpE Γ i env G2 fun f G3 => wpMrk d e f G3 Q := by simp only [wpE]
theorem e_bin (o : Operator) (x y : E) : wpE Γ (.bin o x y) env G Q = wpE Γ x env G fun d G1 => wpE Γ y env G1 fun e G2 => wpBin o d e G2 Q := by simp only [wpE]
theorem e_neg (x : E) : wpE Γ (.neg x) env G Q = wpE Γ x env G fun d G1 => asI d fun i => Q (.int (-i)) G1 := by simp only [wpE]
theorem e_cmp (o : CmpOp) (x y : E) : wpE Γ (.cmp o x y) env G Q = wpE Γ x env G fun d G1 => wpE Γ y env G1 fun e G2 => wpCmp o d e G2 fun b => Q (.bl b) G2 := by simp only [wpE]
theorem e_cmp2 (o p : CmpOp) (x y z : E) : wpE Γ (.cmp2 o p x y z) env G Q = wpE Γ x env G fun d G1 => wpE Γ y env G1 fun e G2 => wpCmp o d e G2 fun b => if b = true then wpE Γ z env G2 fun f G3 => wpCmp p e f G3 fun b => Q (.bl b) G3 else Q (.bl false) G2 := by simp only [wpE]
theorem e_and1 (x : E) (o : BoolOp) : wpE Γ (.bop o (.cons x .nil)) env G Q = wpE Γ x env G Q := by simp only [wpE, wpBop]
theorem e_and (x y : E) (ys : Es) : wpE Γ (.bop .And (.cons x (.cons y ys))) env G Q = wpE Γ x env G fun d G1 => asB d fun b => if b = true then wpE Γ (.bop .And (.cons y ys)) env G1 Q else Q (.bl false) G1 := by
  simp only [wpE, wpBop]
  congr 1; funext d G1; congr 1; funext b; cases b <;> rfl
theorem e_or (x y : E) (ys : Es) : wpE Γ (.bop .Or (.cons x (.cons y ys))) env G Q = wpE Γ x env G fun d G1 => asB d fun b => if b = true then Q (.bl true) G1 else wpE Γ (.bop .Or (.cons y ys)) env G1 Q := by
  simp only [wpE, wpBop]
  congr 1; funext d G1; congr 1; funext b; cases b <;> rfl
theorem e_not (x : E) : wpE Γ (.not x) env G Q = wpE Γ x env G fun d G1 => asB d fun b => Q (.bl (!b)) G1 := by simp only [wpE]
theorem e_ite (c : T) (x y : E) : wpE Γ (.ite c x y) env G Q = wpT Γ c env G fun b G1 => if b = true then wpE Γ x env G1 Q else wpE Γ y env G1 Q := by simp only [wpE]
theorem e_tup (xs : Es) : wpE Γ (.tup xs) env G Q = wpEs Γ xs env G fun ds G1 => ds.length ≤ sizeLine ∧ Q (.tup ds) G1 := by simp only [wpE]
theorem e_lst (xs : Es) : wpE Γ (.lst xs) env G Q = wpEs Γ xs env G fun ds G1 => newL G1 ds Q := by simp only [wpE]
theorem e_ix (x y : E) : wpE Γ (.ix x y) env G Q = wpE Γ x env G fun d G1 => wpE Γ y env G1 fun e G2 => wpIx d e G2 Q := by simp only [wpE]
theorem e_sl (x : E) (lo hi : Eo) : wpE Γ (.sl x lo hi) env G Q = wpE Γ x env G fun d G1 => wpEo Γ lo env G1 fun l G2 => wpEo Γ hi env G2 fun h G3 => wpSl d l h G3 Q := by simp only [wpE]
theorem e_dgt (i : Nat) (x y : E) : wpE Γ (.dgt i x y) env G Q = wpE Γ x env G fun d G1 => asS d fun s => wpE Γ y env G1 fun e G2 => onD (dget (nthL Γ.dic i) s) e fun r => Q r G2 := by
  simp only [wpE]
  congr 1; funext d G1; congr 1; funext s; congr 1; funext e G2
  cases dget (nthL Γ.dic i) s <;> rfl
theorem e_nn : wpE Γ .nn env G Q = ∀ p o, G p = none → Q (.ref p) (gup G p (.dnt [] o)) := by simp only [wpE]
theorem e_ng (x y z : E) : wpE Γ (.ng x y z) env G Q = wpE Γ x env G fun d G1 => asR d fun a => onN (G1 a) fun _ _ => wpE Γ y env G1 fun e G2 => asN e fun k => wpE Γ z env G2 fun f G3 => asI f fun i => onN (G3 a) fun kvs _ => Q (.int ((getN kvs k).getD i)) G3 := by simp only [wpE]
theorem e_nx (x y : E) : wpE Γ (.nx x y) env G Q = wpE Γ x env G fun d G1 => wpE Γ y env G1 fun e G2 => asR d fun a => asN e fun k => onN (G2 a) fun kvs _ => ∃ i, getN kvs k = some i ∧ Q (.int i) G2 := by simp only [wpE]
theorem un_N (kvs : List (NK × Int)) (o : Obj) (k : List (NK × Int) → Obj → Prop) : onN (some (.dnt kvs o)) k = k kvs o := rfl
theorem e_ddn : wpE Γ .ddn env G Q = ∀ p, G p = none → Q (.ref p) (gup G p (.dic [])) := by simp only [wpE]
theorem e_ddg (x y z : E) : wpE Γ (.ddg x y z) env G Q = wpE Γ x env G fun d G1 => asR d fun a => onK (G1 a) fun _ => wpE Γ y env G1 fun e G2 => asK e fun i => wpE Γ z env G2 fun f G3 => onK (G3 a) fun kvs => Q ((getK kvs i).getD f) G3 := by simp only [wpE]
theorem e_ddx (x y : E) : wpE Γ (.ddx x y) env G Q = wpE Γ x env G fun d G1 => wpE Γ y env G1 fun e G2 => asR d fun a => asK e fun i => onK (G2 a) fun kvs => ∃ v, getK kvs i = some v ∧ Q v G2 := by simp only [wpE]
theorem e_dds (x : E) : wpE Γ (.dds x) env G Q = wpE Γ x env G fun d G1 => asR d fun a => onK (G1 a) fun kvs => ∃ ks : List Int, kvs.map (·.1) = ks.map Sum.inl ∧ ks.length < 64 ∧ ∀ (ys : List Int) (p : Addr), ys.Perm ks → ys.Pairwise (· ≤ ·) → G1 p = none → Q (.ref p) (gup G1 p (.lst (ys.map DL.D.int))) := by simp only [wpE]
theorem un_K (kvs : List (Key × DL.D)) (k : List (Key × DL.D) → Prop) : onK (some (.dic kvs)) k = k kvs := rfl
theorem e_fmt (x : E) : wpE Γ (.fmt x) env G Q = wpE Γ x env G fun d G1 => wpFm d G1 Q := by simp only [wpE]
theorem e_fst (xs : Es) : wpE Γ (.fst xs) env G Q = wpFs Γ xs env G Str.empty fun z G1 => Q (.str z) G1 := by simp only [wpE]
theorem es_fn (z : Str) (R : Str → Gp → Prop) : wpFs Γ .nil env G z R = R z G := by simp only [wpFs]
theorem es_fc (x : E) (xs : Es) (z : Str) (R : Str → Gp → Prop) : wpFs Γ (.cons x xs) env G z R = wpE Γ x env G fun d G1 => asS d fun y => (z ++ y).length ≤ sizeLine ∧ wpFs Γ xs env G1 (z ++ y) R := by simp only [wpFs]
theorem e_rv (x : E) : wpE Γ (.rv x) env G Q = wpE Γ x env G fun d G1 => wpRv d G1 Q := by simp only [wpE]
theorem e_call (f : Nat) (xs : Es) : wpE Γ (.call f xs) env G Q = wpEs Γ xs env G fun ds G1 => nthS Γ.fn f ds G1 Q := by simp only [wpE, nthS_eq]
theorem e_callx (f : Nat) (xs : Es) : wpE Γ (.callx f xs) env G Q = wpEs Γ xs env G fun ds G1 => nthX Γ.xfn f ds G1 Q fun j G2 => Γ.xc j env G2 := by simp only [wpE, nthX_eq]
theorem e_mkx (c : Nat) (xs : Es) : wpE Γ (.mkx c xs) env G Q = nthM Γ.xmk c fun cl m => wpEs Γ xs env G fun ds G1 => ∀ p, G1 p = none → m (.ref p :: ds) (gup G1 p (.ins cl [])) (fun d G2 => d = .non ∧ Q (.ref p) G2) fun j G2 => Γ.xc j env G2 := by
  simp only [wpE]
  rw [← nthM_eq]
  cases Γ.xmk[c]? with
  | none => rfl
  | some p => rfl
theorem e_isx (x : E) (j : Nat) : wpE Γ (.isx x j) env G Q = wpE Γ x env G fun d G1 => isX G1 d fun o => Q (.bl (o.any fun i => subx i j)) G1 := by simp only [wpE]
theorem e_ist (x : E) (js : List Nat) : wpE Γ (.ist x js) env G Q = wpE Γ x env G fun d G1 => isX G1 d fun o => Q (.bl (o.any fun i => js.any (subx i))) G1 := by simp only [wpE]
theorem s_rai (j : Nat) : wpS Γ (.rai j) D env G = Γ.xc j env G := by simp only [wpS]
theorem s_tri (b : B) (h : Hd) : wpS Γ (.tri b h) D env G = wpB (Γ.wx fun j env' G' => wpHd Γ j h D env' G') b D env G := by simp only [wpS]
theorem b_hd0 (j : Nat) : wpHd Γ j .nil D env G = Γ.xc j env G := by simp only [wpHd]
theorem b_hd1 (j n : Nat) (o : Option Nat) (b : B) (r : Hd) : wpHd Γ j (.cons n o b r) D env G = (if subx j n = true then ∀ p, G p = none → wpB (Γ.wx noX) b { nx := fun env' G' => D.nx (offE o env') G', rt := D.rt, ct := fun env' G' => D.ct (offE o env') G' } (onE o p env) (gup G p (.exo j)) else wpHd Γ j r D env G) := by simp only [wpHd]
theorem wi_on0 (p : Addr) : onE none p env = env := rfl
theorem wi_on1 (i : Nat) (p : Addr) : onE (some i) p env = putE env i (.ref p) := putE_eq env i _
theorem wi_of0 : offE none env = env := rfl
theorem wi_of1 (i : Nat) : offE (some i) env = wipeE env [i] := rfl
theorem wi_fn (f : Nat → Ev' → Gp → Prop) : (Γ.wx f).fn = Γ.fn := rfl
theorem wi_con (f : Nat → Ev' → Gp → Prop) : (Γ.wx f).con = Γ.con := rfl
theorem wi_mth (f : Nat → Ev' → Gp → Prop) : (Γ.wx f).mth = Γ.mth := rfl
theorem wi_mks (f : Nat → Ev' → Gp → Prop) : (Γ.wx f).mks = Γ.mks := rfl
theorem wi_ncl (f : Nat → Ev' → Gp → Prop) : (Γ.wx f).ncl = Γ.ncl := rfl
theorem wi_isc (f : Nat → Ev' → Gp → Prop) : (Γ.wx f).isc = Γ.isc := rfl
theorem wi_dic (f : Nat → Ev' → Gp → Prop) : (Γ.wx f).dic = Γ.dic := rfl
theorem wi_xfn (f : Nat → Ev' → Gp → Prop) : (Γ.wx f).xfn = Γ.xfn := rfl
theorem wi_xmk (f : Nat → Ev' → Gp → Prop) : (Γ.wx f).xmk = Γ.xmk := rfl
theorem wi_xc (f : Nat → Ev' → Gp → Prop) : (Γ.wx f).xc = f := rfl
theorem wi_wx (f g : Nat → Ev' → Gp → Prop) : (Γ.wx f).wx g = Γ.wx g := rfl
theorem e_bi (f : Bi) (xs : Es) : wpE Γ (.bi f xs) env G Q = wpEs Γ xs env G fun ds G1 => wpBi f ds G1 Q := by simp only [wpE]
theorem e_isi (x : E) (t : TyT) : wpE Γ (.isi x t) env G Q = wpE Γ x env G fun d G1 => isTy G1 t d fun b => Q (.bl b) G1 := by simp only [wpE]
theorem e_bm (f : Bm) (x : E) (xs : Es) : wpE Γ (.bm f x xs) env G Q = wpE Γ x env G fun d G1 => rcv f d G1 ∧ wpEs Γ xs env G1 fun ds G2 => wpBm f d ds G2 Q := by simp only [wpE]
theorem e_dat (i : Nat) (x : E) : wpE Γ (.dat i x) env G Q = wpE Γ x env G fun d G1 => asS d fun s => onO (dget (nthL Γ.dic i) s) fun n => Q (.int n) G1 := by simp only [wpE]
theorem t_nne (x y : E) : wpT Γ (.nne x y) env G k = wpE Γ x env G fun d G1 => wpE Γ y env G1 fun e G2 => asR d fun a => asR e fun b => onN (G2 a) fun kvs _ => onN (G2 b) fun lvs _ => sameN kvs lvs ∧ k false G2 := by simp only [wpT]
theorem t_dic (neg : Bool) (i : Nat) (x : E) : wpT Γ (.dic neg i x) env G k = wpE Γ x env G fun d G1 => asS d fun s => k (if neg = true then !(dget (nthL Γ.dic i) s).isSome else (dget (nthL Γ.dic i) s).isSome) G1 := by simp only [wpT]
theorem e_lc (it : It) (tg : Tg) (c : To) (x : E) (own : List (Str × Nat)) : wpE Γ (.lc it tg c x own) env G Q = wpIt Γ it env G fun ds chk G1 => ∀ p, G1 p = none → lcD chk (setT tg) (wpTo Γ c) (wpE Γ x) p (Q (.ref p)) (wipeE env (own.map (·.2))) ds (gup G1 p (.lst [])) := by simp only [wpE]
theorem es_nil (Q : List DL.D → Gp → Prop) : wpEs Γ .nil env G Q = Q [] G := by simp only [wpEs]
theorem es_cons (x : E) (xs : Es) (Q : List DL.D → Gp → Prop) : wpEs Γ (.cons x xs) env G Q = wpE Γ x env G fun d G1 => wpEs Γ xs env G1 fun ds G2 => Q (d :: ds) G2 := by simp only [wpEs]
theorem eo_none (Q : Option Int → Gp → Prop) : wpEo Γ .none env G Q = Q none G := by simp only [wpEo]
theorem eo_some (x : E) (Q : Option Int → Gp → Prop) : wpEo Γ (.some x) env G Q = wpE Γ x env G fun d G1 => asI d fun i => Q (some i) G1 := by simp only [wpEo]
theorem t_e (x : E) : wpT Γ (.e x) env G k = wpE Γ x env G fun d G1 => truth G1 d fun b => k b G1 := by simp only [wpT]
theorem t_cmp (o : CmpOp) (x y : E) : wpT Γ (.cmp o x y) env G k = wpE Γ x env G fun d G1 => wpE Γ y env G1 fun e G2 => wpCmp o d e G2 fun b => k b G2 := by simp only [wpT]
theorem t_cmp2 (o p : CmpOp) (x y z : E) : wpT Γ (.cmp2 o p x y z) env G k = wpE Γ x env G fun d G1 => wpE Γ y env G1 fun e G2 => wpCmp o d e G2 fun b => if b = true then wpE Γ z env G2 fun f G3 => wpCmp p e f G3 fun b => k b G3 else k false G2 := by simp only [wpT]
theorem t_not (t : T) : wpT Γ (.not t) env G k = wpT Γ t env G fun b G1 => k (!b) G1 := by simp only [wpT]
theorem t_and1 (x : T) (o : BoolOp) : wpT Γ (.bop o (.cons x .nil)) env G k = wpT Γ x env G k := by simp only [wpT, wpTs]
theorem t_and (x y : T) (ys : Ts) : wpT Γ (.bop .And (.cons x (.cons y ys))) env G k = wpT Γ x env G fun b G1 => if b = true then wpT Γ (.bop .And (.cons y ys)) env G1 k else k false G1 := by
  simp only [wpT, wpTs]
  congr 1; funext b G1; cases b <;> rfl
theorem t_or (x y : T) (ys : Ts) : wpT Γ (.bop .Or (.cons x (.cons y ys))) env G k = wpT Γ x env G fun b G1 => if b = true then k true G1 else wpT Γ (.bop .Or (.cons y ys)) env G1 k := by
  simp only [wpT, wpTs]
  congr 1; funext b G1; cases b <;> rfl
theorem to_none : wpTo Γ .none env G k = k true G := by simp only [wpTo]
theorem to_some (t : T) : wpTo Γ (.some t) env G k = wpT Γ t env G k := by simp only [wpTo]
/-- what is walked -/
def seqI (d : DL.D) (G : Gp) (R : KI) : Prop := match d with
  | .str z => R (z.cps.toList.map fun c => DL.D.str ⟨#[c]⟩) (fun _ => True) G
  | d => items G d fun xs => R xs (chkOf d xs) G
theorem i_seq (x : E) (R : KI) : wpIt Γ (.seq x) env G R = wpE Γ x env G fun d G1 => seqI d G1 R := by simp only [wpIt]; rfl
theorem i_rng1 (x : E) (R : KI) : wpIt Γ (.rng1 x) env G R = wpE Γ x env G fun d G1 => asI d fun i => small62 i ∧ R (rngD 0 1 i.toNat) (fun _ => True) G1 := by simp only [wpIt]
theorem i_rng2 (x y : E) (R : KI) : wpIt Γ (.rng2 x y) env G R = wpE Γ x env G fun d G1 => wpE Γ y env G1 fun e G2 => asI d fun i => asI e fun j => small62 i ∧ small62 j ∧ R (rngD i 1 (j - i).toNat) (fun _ => True) G2 := by simp only [wpIt]
theorem i_rng3 (x y z : E) (R : KI) : wpIt Γ (.rng3 x y z) env G R = wpE Γ x env G fun d G1 => wpE Γ y env G1 fun e G2 => wpE Γ z env G2 fun f G3 => asI d fun i => asI e fun j => asI f fun c => ∃ n, RgC i j c n ∧ R (rngD i c n) (fun _ => True) G3 := by simp only [wpIt]
theorem i_enum (x : E) (R : KI) : wpIt Γ (.enum x) env G R = wpE Γ x env G fun d G1 => items G1 d fun xs => (∀ ys, d ≠ .tup ys) ∧ R (enumD 0 xs) (chkOf d xs) G1 := by simp only [wpIt]
theorem i_zip (x y : E) (R : KI) : wpIt Γ (.zip x y) env G R = wpE Γ x env G fun d G1 => wpE Γ y env G1 fun e G2 => items G2 d fun xs => items G2 e fun ys => (∀ zs, d ≠ .tup zs) ∧ (∀ zs, e ≠ .tup zs) ∧ R (zipD xs ys) (fun G => chkOf d xs G ∧ chkOf e ys G) G2 := by simp only [wpIt]
theorem i_rev (x : E) (R : KI) : wpIt Γ (.rev x) env G R = wpE Γ x env G fun d G1 => items G1 d fun xs => (∀ ys, d ≠ .tup ys) ∧ R xs.reverse (chkOf d xs) G1 := by simp only [wpIt]
theorem s_asg (i : Nat) (x : E) : wpS Γ (.asg (.nm i) x) D env G = wpE Γ x env G fun d G1 => D.nx (putE env i d) G1 := by simp only [wpS, setT, putE_eq]
theorem s_asgT (is : List Nat) (x : E) : wpS Γ (.asg (.tup is) x) D env G = wpE Γ x env G fun d G1 => setT (.tup is) d env fun env' => D.nx env' G1 := by simp only [wpS]
theorem s_unl (is : List Nat) (x : E) : wpS Γ (.unl is x) D env G = wpE Γ x env G fun d G1 => items G1 d fun xs => (∀ ys, d ≠ .tup ys) ∧ xs.length = is.length ∧ D.nx (putsE is xs env) G1 := by simp only [wpS, putsE_eq]
theorem s_par (i j : Nat) (x y : E) : wpS Γ (.par i j x y) D env G = wpE Γ x env G fun d G1 => wpE Γ y env G1 fun e G2 => D.nx (putE (putE env i d) j e) G2 := by simp only [wpS, putE_eq]
theorem s_aug (i : Nat) (o : Operator) (x : E) : wpS Γ (.aug i o x) D env G = lookE env i fun d => wpE Γ x env G fun e G1 => wpAug o d e G1 fun f G2 => D.nx (putE env i f) G2 := by
  simp only [wpS, putE_eq]; exact lookE_eq env i _
theorem s_nst (o i x : E) : wpS Γ (.nst o i x) D env G = wpE Γ x env G fun d G1 => wpE Γ o env G1 fun l G2 => wpE Γ i env G2 fun e G3 => asR l fun a => asN e fun k => asI d fun v => onN (G3 a) fun kvs _ => kvs.length < sizeLine ∧ ∀ o', D.nx env (gup G3 a (.dnt (setN kvs k v) o')) := by simp only [wpS]
theorem s_dst (o i x : E) : wpS Γ (.dst o i x) D env G = wpE Γ x env G fun d G1 => wpE Γ o env G1 fun l G2 => wpE Γ i env G2 fun e G3 => asR l fun a => asK e fun k => onK (G3 a) fun kvs => kvs.length < sizeLine ∧ D.nx env (gup G3 a (.dic (setK kvs k d))) := by simp only [wpS]
theorem s_set (o i x : E) : wpS Γ (.set o i x) D env G = wpE Γ x env G fun d G1 => wpE Γ o env G1 fun l G2 => wpE Γ i env G2 fun e G3 => asR l fun a => asI e fun k => onL (G3 a) fun xs => ∃ j, ixN xs.length k = some j ∧ D.nx env (gup G3 a (.lst (xs.set j d))) := by simp only [wpS]
theorem s_ex (x : E) : wpS Γ (.ex x) D env G = wpE Γ x env G fun _ G1 => D.nx env G1 := by simp only [wpS]
theorem s_ret (x : E) : wpS Γ (.ret x) D env G = wpE Γ x env G D.rt := by simp only [wpS]
theorem s_retN : wpS Γ .retN D env G = D.rt .non G := by simp only [wpS]
theorem s_ite (c : T) (s t : B) : wpS Γ (.ite c s t) D env G = wpT Γ c env G fun b G1 => if b = true then wpB Γ s D env G1 else wpB Γ t D env G1 := by simp only [wpS]
theorem s_cont : wpS Γ .cont D env G = D.ct env G := by simp only [wpS]
theorem b_nil : wpB Γ .nil D env G = D.nx env G := by simp only [wpB]
theorem b_cons (s : S) (b : B) : wpB Γ (.cons s b) D env G = wpS Γ s { D with nx := wpB Γ b D } env G := by simp only [wpB]
theorem s_loop (t : Tg) (it : It) (b : B) : wpS Γ (.loop t it b) D env G = wpIt Γ it env G fun ds chk G1 => forD chk (setT t) (fun k => wpB Γ b { nx := k, rt := D.rt, ct := k }) D.nx ds env G1 := by simp only [wpS]
theorem s_loopU (is : List Nat) (it : It) (b : B) : wpS Γ (.loopU is it b) D env G = wpIt Γ it env G fun ds chk G1 => forU chk is (fun k => wpB Γ b { nx := k, rt := D.rt, ct := k }) D.nx ds env G1 := by simp only [wpS]
theorem s_whl (c : T) (b : B) : wpS Γ (.whl c b) D env G = ∃ n, whlD (wpT Γ c) (fun k => wpB Γ b { nx := k, rt := D.rt, ct := k }) D.nx n env G := by simp only [wpS]
end
section
variable (G : Gp) (Q : K1) (k : Bool → Prop) (i j : Int)
theorem v_add : wpBin .Add (.int i) (.int j) G Q = Q (.int (i + j)) G := rfl
theorem v_addS (x y : Str) : wpBin .Add (.str x) (.str y) G Q = (x.length + y.length ≤ sizeLine ∧ Q (.str (x ++ y)) G) := rfl
theorem v_addL (a b : Addr) : wpBin .Add (.ref a) (.ref b) G Q = onL (G a) fun xs => onL (G b) fun ys => newL G (xs ++ ys) Q := rfl
theorem v_sub : wpBin .Sub (.int i) (.int j) G Q = Q (.int (i - j)) G := rfl
theorem v_mul : wpBin .Mult (.int i) (.int j) G Q = (IntMulOk i j ∧ Q (.int (i * j)) G) := rfl
theorem v_rep (a : Addr) : wpBin .Mult (.ref a) (.int j) G Q = onL (G a) fun xs => -(2 ^ 63) ≤ j ∧ j < 2 ^ 63 ∧ newL G (List.replicate j.toNat xs).flatten Q := rfl
theorem v_repS (x : Str) : wpBin .Mult (.str x) (.int j) G Q = ((0 ≤ j ∧ j ≤ 1000000 ∧ x.length ≤ 16) ∧ Q (.str (repS x j.toNat)) G) := rfl
theorem v_div : wpBin .FloorDiv (.int i) (.int j) G Q = ((0 < j ∧ j.natAbs.log2 < 9000) ∧ Q (.int (i / j)) G) := rfl
theorem v_mod : wpBin .Mod (.int i) (.int j) G Q = (0 < j ∧ Q (.int (i % j)) G) := rfl
theorem v_pow : wpBin .Pow (.int i) (.int j) G Q = (CPow i j ∧ Q (.int (i ^ j.toNat)) G) := rfl
theorem v_addT (xs ys : List D) : wpBin .Add (.tup xs) (.tup ys) G Q = (xs.length + ys.length ≤ sizeLine ∧ Q (.tup (xs ++ ys)) G) := rfl
theorem v_shl : wpBin .LShift (.int i) (.int j) G Q = (CShl i j ∧ Q (.int (i * 2 ^ j.toNat)) G) := rfl
theorem v_shr : wpBin .RShift (.int i) (.int j) G Q = (0 ≤ j ∧ Q (.int (i / 2 ^ j.toNat)) G) := rfl
theorem v_and : wpBin .BitAnd (.int i) (.int j) G Q = Q (.int (Builtin.bitAnd i j)) G := rfl
theorem v_or : wpBin .BitOr (.int i) (.int j) G Q = Q (.int (Builtin.bitOr i j)) G := rfl
theorem v_xor : wpBin .BitXor (.int i) (.int j) G Q = Q (.int (Builtin.bitXor i j)) G := rfl
theorem u_add : wpAug .Add (.int i) (.int j) G Q = Q (.int (i + j)) G := rfl
theorem u_sub : wpAug .Sub (.int i) (.int j) G Q = Q (.int (i - j)) G := rfl
theorem c_eqI : wpCmp .Eq (.int i) (.int j) G k = k (decide (i = j)) := rfl
theorem c_neI : wpCmp .NotEq (.int i) (.int j) G k = k (!decide (i = j)) := rfl
theorem c_eqS (x y : Str) : wpCmp .Eq (.str x) (.str y) G k = k (decide (x = y)) := rfl
theorem c_neS (x y : Str) : wpCmp .NotEq (.str x) (.str y) G k = k (!decide (x = y)) := rfl
theorem c_eqB (x y : Bool) : wpCmp .Eq (.bl x) (.bl y) G k = k (decide (x = y)) := rfl
theorem c_neB (x y : Bool) : wpCmp .NotEq (.bl x) (.bl y) G k = k (!decide (x = y)) := rfl
theorem c_lt : wpCmp .Lt (.int i) (.int j) G k = k (decide (i < j)) := rfl
theorem c_le : wpCmp .LtE (.int i) (.int j) G k = k (decide (i ≤ j)) := rfl
theorem c_gt : wpCmp .Gt (.int i) (.int j) G k = k (decide (j < i)) := rfl
theorem c_ge : wpCmp .GtE (.int i) (.int j) G k = k (decide (j ≤ i)) := rfl
theorem c_is (d : D) : wpCmp .Is d .non G k = k (isNon d) := by show (D.non = .non ∧ _) = _; simp
theorem c_isnot (d : D) : wpCmp .IsNot d .non G k = k (!isNon d) := by show (D.non = .non ∧ _) = _; simp
theorem a_I (f : Int → Prop) : asI (.int i) f = f i := rfl
theorem a_B (b : Bool) (f : Bool → Prop) : asB (.bl b) f = f b := rfl
theorem a_R (a : Addr) (f : Addr → Prop) : asR (.ref a) f = f a := rfl
theorem tr_B (b : Bool) : truth G (.bl b) k = k b := rfl
theorem it_tup (xs : List D) (f : List D → Prop) : items G (.tup xs) f = f xs := rfl
theorem it_ro (xs : List D) (f : List D → Prop) : items G (.ro xs) f = f xs := rfl
theorem it_ref (a : Addr) (f : List D → Prop) : items G (.ref a) f = onL (G a) f := rfl
theorem sq_tup (xs : List D) (R : KI) : seqI (.tup xs) G R = R xs (fun _ => True) G := rfl
theorem sq_ro (xs : List D) (R : KI) : seqI (.ro xs) G R = R xs (fun _ => True) G := rfl
theorem sq_ref (a : Addr) (R : KI) : seqI (.ref a) G R = onL (G a) fun xs => R xs (chkOf (.ref a) xs) G := rfl
theorem x_tup (xs : List D) : wpIx (.tup xs) (.int i) G Q = ∃ d, atI xs i = some d ∧ Q d G := rfl
theorem x_ro (xs : List D) : wpIx (.ro xs) (.int i) G Q = ∃ d, atI xs i = some d ∧ Q d G := rfl
theorem x_ref (a : Addr) : wpIx (.ref a) (.int i) G Q = onL (G a) fun xs => ∃ d, atI xs i = some d ∧ Q d G := rfl
theorem ty_i : isTy G .int (.int i) k = k true := rfl
theorem ty_ib (b : Bool) : isTy G .int (.bl b) k = k true := rfl
theorem ty_b (b : Bool) : isTy G .bool (.bl b) k = k true := rfl
theorem ty_bi : isTy G .bool (.int i) k = k false := rfl
theorem ty_it (xs : List D) : isTy G .int (.tup xs) k = k false := rfl
theorem ty_t (xs : List D) : isTy G .tuple (.tup xs) k = k true := rfl
theorem ty_l (a : Addr) : isTy G .list (.ref a) k = onL (G a) fun _ => k true := rfl
theorem ty_lr (xs : List D) : isTy G .list (.ro xs) k = k true := rfl
theorem ty_s (x : Str) : isTy G .str (.str x) k = k true := rfl
theorem b_lenT (xs : List D) : wpBi .len [.tup xs] G Q = Q (.int xs.length) G := rfl
theorem b_lenR (xs : List D) : wpBi .len [.ro xs] G Q = Q (.int xs.length) G := rfl
theorem b_lenL (a : Addr) : wpBi .len [.ref a] G Q = lenO (G a) fun n => Q (.int n) G := rfl
theorem un_nL (xs : List D) (f : Nat → Prop) : lenO (some (.lst xs)) f = f xs.length := rfl
theorem un_nK (xs : List (Key × D)) (f : Nat → Prop) : lenO (some (.dic xs)) f = f xs.length := rfl
theorem a_K1 (f : Key → Prop) : asK (.int i) f = f (.inl i) := rfl
theorem a_K2 (x : Str) (f : Key → Prop) : asK (.str x) f = f (.inr x) := rfl
theorem un_x0 (f : Option Nat → Prop) : isX G .non f = f none := rfl
theorem un_x1 (a : Addr) (f : Option Nat → Prop) : isX G (.ref a) f = onX (G a) f := rfl
theorem un_x2 (j : Nat) (f : Option Nat → Prop) : onX (some (.exo j)) f = f (some j) := rfl
theorem b_lenS (z : Str) : wpBi .len [.str z] G Q = (z.length ≤ sizeLine ∧ Q (.int z.length) G) := rfl
theorem b_strI : wpBi .str [.int i] G Q = (i.natAbs.log2 < 1920 ∧ Q (.str (toString i)) G) := rfl
theorem x_str (z : Str) : wpIx (.str z) (.int i) G Q = (z.length ≤ sizeLine ∧ ∃ c, L2.atI z.cps.toList i = some c ∧ Q (.str ⟨#[c]⟩) G) := rfl
theorem c_inC (u : Nat) (z : Str) : wpCmp .In (.str ⟨#[u]⟩) (.str z) G k = k (decide (u ∈ z.cps.toList)) := by
  apply propext; constructor
  · rintro ⟨v, e, h⟩; cases e; exact h
  · exact fun h => ⟨u, rfl, h⟩
theorem c_ninC (u : Nat) (z : Str) : wpCmp .NotIn (.str ⟨#[u]⟩) (.str z) G k = k (!decide (u ∈ z.cps.toList)) := c_inC G (fun b => k (!b)) u z
theorem b_intB (b : Bool) : wpBi .int [.bl b] G Q = Q (.int (if b then 1 else 0)) G := rfl
theorem b_intI : wpBi .int [.int i] G Q = Q (.int i) G := rfl
theorem b_max : wpBi .max [.int i, .int j] G Q = Q (.int (if j > i then j else i)) G := rfl
theorem b_min : wpBi .min [.int i, .int j] G Q = Q (.int (if j < i then j else i)) G := rfl
theorem b_listL (a : Addr) : wpBi .list [.ref a] G Q = onL (G a) fun xs => ∀ p, G p = none → Q (.ref p) (gup G p (.lst xs)) := rfl
theorem b_listT (xs : List D) : wpBi .list [.tup xs] G Q = ∀ p, G p = none → Q (.ref p) (gup G p (.lst xs)) := rfl
theorem b_tupleL (a : Addr) : wpBi .tuple [.ref a] G Q = onL (G a) fun xs => Q (.tup xs) G := rfl
theorem m_app (a : Addr) (y : D) : wpBm .append (.ref a) [y] G Q = onL (G a) fun xs => xs.length < sizeLine ∧ Q .non (gup G a (.lst (xs ++ [y]))) := rfl
theorem m_r1 (a : Addr) : rcv .append (.ref a) G = onL (G a) fun _ => True := rfl
theorem m_r2 (a : Addr) : rcv .pop (.ref a) G = onL (G a) fun _ => True := rfl
theorem m_r3 (a : Addr) : rcv .popAt (.ref a) G = onL (G a) fun _ => True := rfl
theorem m_r4 (a : Addr) : rcv .clear (.ref a) G = onL (G a) fun _ => True := rfl
theorem m_r5 (a : Addr) : rcv .extend (.ref a) G = onL (G a) fun _ => True := rfl
theorem m_r6 (a : Addr) : rcv .insert (.ref a) G = onL (G a) fun _ => True := rfl
theorem m_s1 (z : Str) : rcv .find (.str z) G = True := rfl
theorem m_s2 (z : Str) : rcv .starts (.str z) G = True := rfl
theorem m_s3 (z : Str) : rcv .split (.str z) G = True := rfl
theorem m_s4 (z : Str) : rcv .join (.str z) G = True := rfl
theorem m_r7 (i : Int) : rcv .bits (.int i) G = True := rfl
theorem m_bit (i : Int) : wpBm .bits (.int i) [] G Q = Q (.int (Builtin.Int.intBits i : Nat)) G := rfl
theorem m_fnd (a b : Str) : wpBm .find (.str a) [.str b] G Q = Q (.int (Txt.find a b)) G := rfl
theorem m_sta (a b : Str) : wpBm .starts (.str a) [.str b] G Q = Q (.bl (Txt.startswith a b)) G := rfl
theorem m_spl (a b : Str) : wpBm .split (.str a) [.str b] G Q = ((b.length == 0) = false ∧ a.length + 2 ≤ sizeLine ∧ ∀ p, G p = none → Q (.ref p) (gup G p (.lst ((Txt.split a b).map D.str)))) := rfl
theorem m_joi (a : Str) (p : Addr) : wpBm .join (.str a) [.ref p] G Q = onL (G p) fun xs => ∃ ys : List Str, xs = ys.map D.str ∧ (ys.map (·.length)).sum + ys.length * a.length ≤ 16777216 ∧ Q (.str (Txt.join a ys)) G := rfl
theorem st_nm (i : Nat) (d : D) (env : Ev) (f : Ev → Prop) : setT (.nm i) d env f = f (putE env i d) := by show f _ = _; rw [putE_eq]
theorem st_tup (is : List Nat) (ds : List D) (env : Ev) (f : Ev → Prop) : setT (.tup is) (.tup ds) env f = (ds.length = is.length ∧ f (putsE is ds env)) := by show (_ ∧ f _) = _; rw [putsE_eq]
theorem sl_str' (z : Str) (lo hi : Option Int) : wpSl (.str z) lo hi G Q = (z.length ≤ sizeLine ∧ Q (.str (cutS z lo hi)) G) := rfl
theorem v_fmS (y : Str) : wpFm (.str y) G Q = (y.length ≤ sizeLine ∧ Q (.str y) G) := rfl
theorem v_fmI : wpFm (.int i) G Q = (i.natAbs.log2 < 1920 ∧ Q (.str (toString i)) G) := rfl
theorem v_intS (z : Str) : wpBi .int [.str z] G Q = ∃ n, PySem.intText? z = some n ∧ z.length ≤ 640 ∧ Q (.int n) G := rfl
theorem sl_ro' (xs : List D) (lo hi : Option Int) : wpSl (.ro xs) lo hi G Q = ∀ p, G p = none → Q (.ref p) (gup G p (.lst (cutD xs lo hi))) := rfl
theorem sl_ref' (a : Addr) (lo hi : Option Int) : wpSl (.ref a) lo hi G Q = onL (G a) fun xs => ∀ p, G p = none → Q (.ref p) (gup G p (.lst (cutD xs lo hi))) := rfl
theorem at_nat (xs : List D) (n : Nat) : atI xs (n : Int) = xs[n]? := by
  unfold atI ixN
  by_cases h : n < xs.length
  · rw [if_pos (Int.natCast_nonneg n), if_pos (by omega)]; simp
  · rw [if_pos (Int.natCast_nonneg n), if_neg (by omega), List.getElem?_eq_none (by omega)]; rfl
theorem at_0 (xs : List D) : atI xs 0 = xs[0]? := at_nat xs 0
theorem at_1 (xs : List D) : atI xs 1 = xs[1]? := at_nat xs 1
theorem at_2 (xs : List D) : atI xs 2 = xs[2]? := at_nat xs 2
theorem at_3 (xs : List D) : atI xs 3 = xs[3]? := at_nat xs 3
theorem ex_some (d : D) (f : D → Prop) : (∃ x, some d = some x ∧ f x) = f d := by simp
end
theorem bXor_nat (a b : Nat) : Builtin.bitXor (a : Int) (b : Int) = ((a ^^^ b : Nat) : Int) := by
  rw [Bits.bitXor_pp (Int.natCast_nonneg a) (Int.natCast_nonneg b)]; simp
theorem bOr_nat (a b : Nat) : Builtin.bitOr (a : Int) (b : Int) = ((a ||| b : Nat) : Int) := by
  rw [Bits.bitOr_pp (Int.natCast_nonneg a) (Int.natCast_nonneg b)]; simp
theorem it_L (xs : List D) (k : List D → Prop) : onL (some (.lst xs)) k = k xs := rfl
theorem sIx_lo (n a : Nat) : HT.sIx n 0 (some (a : Int)) = min a n := HT.sIx_nat n 0 a
theorem sIx_hi (n a : Nat) : HT.sIx n n (some (a : Int)) = min a n := HT.sIx_nat n n a
theorem cut_take (xs : List D) (n : Nat) : cutD xs none (some (n : Int)) = xs.take n := by
  unfold cutD
  rw [sIx_hi, HT.sIx_none, List.drop_zero, Nat.sub_zero]
  by_cases h : n ≤ xs.length
  · rw [Nat.min_eq_left h]
  · rw [Nat.min_eq_right (by omega), List.take_of_length_le (Nat.le_refl _), List.take_of_length_le (by omega)]
theorem cut_drop (xs : List D) (n : Nat) : cutD xs (some (n : Int)) none = xs.drop n := by
  unfold cutD
  rw [sIx_lo, HT.sIx_none]
  by_cases h : n ≤ xs.length
  · rw [Nat.min_eq_left h, List.take_of_length_le (by simp)]
  · rw [Nat.min_eq_right (by omega), List.drop_eq_nil_of_le (Nat.le_refl _), List.drop_eq_nil_of_le (by omega)]; simp
theorem cut_mid (xs : List D) (a b : Nat) : cutD xs (some (a : Int)) (some (b : Int)) = (xs.take b).drop a := by
  unfold cutD
  rw [sIx_lo, sIx_hi]
  apply List.ext_getElem?
  intro i
  rw [List.getElem?_take, List.getElem?_drop, List.getElem?_drop, List.getElem?_take]
  by_cases h : a + i < b
  · rw [if_pos h]
    by_cases h2 : a + i < xs.length
    · rw [if_pos (by omega), show min a xs.length = a by omega]
    · rw [List.getElem?_eq_none (l := xs) (i := a + i) (by omega)]
      split
      · exact List.getElem?_eq_none (by omega)
      · rfl
  · rw [if_neg h]
    split
    · exact List.getElem?_eq_none (by omega)
    · rfl
theorem len_lt {n : Nat} (h : n ≤ 1000000) : n < sizeLine := by
  rw [show sizeLine = 16777216 from by decide]; omega
/-- names' values, some of them left open -/
def Has : Ev → List (Option D) → Prop
  | x :: r, some d :: l => x = some d ∧ Has r l
  | _ :: r, none :: l => Has r l
  | [], [] => True
  | _, _ => False
theorem has_s (x : Option D) (r : Ev) (d : D) (l : List (Option D)) : Has (x :: r) (some d :: l) = (x = some d ∧ Has r l) := rfl
theorem has_n (x : Option D) (r : Ev) (l : List (Option D)) : Has (x :: r) (none :: l) = Has r l := rfl
theorem has_e : Has [] [] = True := rfl
def fill : List (Option D) → (Nat → Option D) → Nat → Ev
  | some d :: l, os, n => some d :: fill l os n
  | none :: l, os, n => os n :: fill l os (n + 1)
  | [], _, _ => []
theorem fill_from : ∀ (l : List (Option D)) {os os' : Nat → Option D} {n : Nat}, (∀ k, n ≤ k → os k = os' k) → fill l os n = fill l os' n
  | [], _, _, _, _ => rfl
  | some d :: l, os, os', n, h => by simp only [fill]; rw [fill_from l h]
  | none :: l, os, os', n, h => by simp only [fill]; rw [h n (Nat.le_refl _), fill_from l fun k hk => h k (by omega)]
theorem Has.inv' : ∀ {l : List (Option D)} {env : Ev} (n : Nat), Has env l → ∃ os : Nat → Option D, env = fill l os n
  | [], [], n, _ => ⟨fun _ => none, rfl⟩
  | [], _ :: _, n, h => h.elim
  | some d :: l, [], n, h => h.elim
  | none :: l, [], n, h => h.elim
  | some d :: l, x :: r, n, h => by
    obtain ⟨e, h⟩ := h
    obtain ⟨os, q⟩ := Has.inv' n h
    exact ⟨os, by rw [e, q]; rfl⟩
  | none :: l, x :: r, n, h => by
    obtain ⟨os, q⟩ := Has.inv' (n + 1) (show Has r l from h)
    refine ⟨fun k => if k = n then x else os k, ?_⟩
    simp only [fill, if_true]
    rw [q, fill_from l (os := os) (os' := fun k => if k = n then x else os k) fun k hk => by simp; omega]
theorem Has.inv {l : List (Option D)} {env : Ev} (h : Has env l) : ∃ os : Nat → Option D, env = fill l os 0 := Has.inv' 0 h
theorem fill_s (d : D) (l : List (Option D)) (os : Nat → Option D) (n : Nat) : fill (some d :: l) os n = some d :: fill l os n := rfl
theorem fill_n (l : List (Option D)) (os : Nat → Option D) (n : Nat) : fill (none :: l) os n = os n :: fill l os (n + 1) := rfl
theorem fill_e (os : Nat → Option D) (n : Nat) : fill [] os n = [] := rfl
theorem nabs (n : Nat) : (no_index (OfNat.ofNat n : Int)).natAbs = n := rfl
theorem log_ok {n : Nat} (h : n < 18446744073709551616) : n.log2 < 9000 := by
  by_cases h0 : n = 0
  · subst h0; decide
  · have : n.log2 < 64 := (Nat.log2_lt h0).mpr (by omega)
    omega
theorem ck_r (a : Addr) (xs : List D) (G : Gp) : chkOf (.ref a) xs G = (G a = some (.lst xs)) := rfl
theorem ck_t (ys : List D) (xs : List D) (G : Gp) : chkOf (.tup ys) xs G = True := rfl
theorem ck_o (ys : List D) (xs : List D) (G : Gp) : chkOf (.ro ys) xs G = True := rfl
/-- wiping a place -/
def clrE : Ev → Nat → Ev
  | _ :: r, 0 => none :: r
  | x :: r, n + 1 => x :: clrE r n
  | [], _ => []
theorem clr_0 (x : Option D) (r : Ev) : clrE (x :: r) 0 = none :: r := rfl
theorem clr_s (x : Option D) (r : Ev) (n : Nat) : clrE (x :: r) (n + 1) = x :: clrE r n := rfl
theorem clrE_eq : ∀ (env : Ev) (i : Nat), env.set i none = clrE env i
  | [], _ => rfl
  | x :: r, 0 => rfl
  | x :: r, i + 1 => by rw [clr_s, ← clrE_eq r i]; rfl
theorem wi_n (env : Ev) : wipeE env [] = env := rfl
theorem wi_c (env : Ev) (v : Nat) (vs : List Nat) : wipeE env (v :: vs) = clrE (wipeE env vs) v := by rw [← clrE_eq]; rfl
section
variable (chk : Gp → Prop) (set : D → Ev → (Ev → Prop) → Prop) (body : (Ev → Gp → Prop) → Ev → Gp → Prop) (nx : Ev → Gp → Prop) (tst : Ev → Gp → (Bool → Gp → Prop) → Prop) (elt : Ev → Gp → K1 → Prop) (p : Addr) (Q : Gp → Prop) (env : Ev) (d : D) (ds : List D) (G : Gp)
/-- loops over what is written out -/
theorem un_fc : forD chk set body nx (d :: ds) env G = (chk G ∧ set d env fun env' => body (forD chk set body nx ds) env' G) := rfl
theorem un_fn : forD chk set body nx [] env G = (chk G ∧ nx env G) := rfl
theorem un_lc : lcD chk set tst elt p Q env (d :: ds) G = (chk G ∧ set d env fun env' => tst env' G fun b G1 =>
      if b = true then elt env' G1 fun y G2 => onL (G2 p) fun acc => acc.length < sizeLine ∧ lcD chk set tst elt p Q env ds (gup G2 p (.lst (acc ++ [y])))
      else lcD chk set tst elt p Q env ds G1) := rfl
theorem un_ln : lcD chk set tst elt p Q env [] G = (chk G ∧ Q G) := rfl
end
theorem un_cm (xs : List D) (a b : Nat) : cutD xs (some (no_index (OfNat.ofNat a : Int))) (some (no_index (OfNat.ofNat b : Int))) = (xs.take b).drop a := cut_mid xs a b
theorem un_ct (xs : List D) (b : Nat) : cutD xs none (some (no_index (OfNat.ofNat b : Int))) = xs.take b := cut_take xs b
theorem un_cd (xs : List D) (a : Nat) : cutD xs (some (no_index (OfNat.ofNat a : Int))) none = xs.drop a := cut_drop xs a
theorem un_slT (xs : List D) (n : Nat) (h : 0 < n) (hx : 0 < xs.length) (G : Gp) (Q : K1) : wpSl (.tup xs) (some (no_index (OfNat.ofNat n : Int))) none G Q = Q (.tup (xs.drop n)) G := by
  show (¬ _ ∧ Q (.tup (cutD _ _ _)) G) = _
  have : ¬ (HT.sIx xs.length 0 (some (OfNat.ofNat n : Int)) = 0 ∧ HT.sIx xs.length xs.length none = xs.length) := fun q => by
    have := q.1
    rw [show HT.sIx xs.length 0 (some (OfNat.ofNat n : Int)) = min n xs.length from sIx_lo _ _] at this
    omega
  rw [show cutD xs (some (OfNat.ofNat n : Int)) none = xs.drop n from cut_drop _ n]
  exact propext ⟨fun h => h.2, fun h => ⟨this, h⟩⟩
theorem un_rt (a : Addr) : (∀ ys, D.ref a ≠ D.tup ys) = True := eq_true fun _ h => by cases h
def boolsK : List D → (List Bool → Prop) → Prop
  | [], k => k []
  | .bl b :: xs, k => boolsK xs fun bs => k (b :: bs)
  | _, _ => False
theorem un_bn (k : List Bool → Prop) : boolsK [] k = k [] := rfl
theorem un_bc (b : Bool) (xs : List D) (k : List Bool → Prop) : boolsK (.bl b :: xs) k = boolsK xs fun bs => k (b :: bs) := rfl
theorem boolsK_ex : ∀ (xs : List D) (k : List Bool → Prop), (∃ ns : List Bool, xs = ns.map D.bl ∧ k ns) = boolsK xs k
  | [], k => by
    apply propext; constructor
    · rintro ⟨ns, h, q⟩; cases ns with
      | nil => exact q
      | cons b bs => cases h
    · intro q; exact ⟨[], rfl, q⟩
  | x :: xs, k => by
    apply propext; constructor
    · rintro ⟨ns, h, q⟩; cases ns with
      | nil => cases h
      | cons b bs =>
        cases h
        show boolsK (bs.map D.bl) fun bs => k (b :: bs)
        rw [← boolsK_ex]; exact ⟨bs, rfl, q⟩
    · intro q
      cases x with
      | bl b =>
        have q : boolsK xs fun bs => k (b :: bs) := q
        rw [← boolsK_ex] at q
        obtain ⟨bs, h, q⟩ := q
        exact ⟨b :: bs, by rw [h]; rfl, q⟩
      | _ => exact q.elim
theorem boolsK_map (bs : List Bool) (k : List Bool → Prop) : boolsK (bs.map D.bl) k = k bs := by
  rw [← boolsK_ex]
  apply propext; constructor
  · rintro ⟨ns, h, q⟩
    have : ns = bs := ((List.map_inj_right fun x y e => by cases e; rfl).mp h).symm
    rw [← this]; exact q
  · intro q; exact ⟨bs, rfl, q⟩
theorem un_any (a : Addr) (G : Gp) (Q : K1) : wpBi .any [.ref a] G Q = onL (G a) fun xs => boolsK xs fun bs => Q (.bl (bs.any id)) G := by
  simp only [← boolsK_ex]
  show (onL (G a) fun xs => ∃ ns : List Bool, xs = ns.map D.bl ∧ (∀ ys, D.ref a ≠ .tup ys) ∧ Q (.bl (ns.any id)) G) = _
  simp only [un_rt, true_and]
theorem un_all (a : Addr) (G : Gp) (Q : K1) : wpBi .all [.ref a] G Q = onL (G a) fun xs => boolsK xs fun bs => Q (.bl (bs.all id)) G := by
  simp only [← boolsK_ex]
  show (onL (G a) fun xs => ∃ ns : List Bool, xs = ns.map D.bl ∧ (∀ ys, D.ref a ≠ .tup ys) ∧ Q (.bl (ns.all id)) G) = _
  simp only [un_rt, true_and]
theorem un_inT (c : Str) (xs : List D) (G : Gp) (k : Bool → Prop) : wpCmp .In (.str c) (.tup xs) G k = (xs.all flatD = true ∧ k (inF (.str c) xs)) := by
  show (flatD (.str c) = true ∧ _) = _
  simp [flatD]
theorem un_ninT (c : Str) (xs : List D) (G : Gp) (k : Bool → Prop) : wpCmp .NotIn (.str c) (.tup xs) G k = (xs.all flatD = true ∧ k (!inF (.str c) xs)) := un_inT c xs G fun b => k (!b)
theorem un_inS (c d : Str) (xs : List D) : inF (.str c) (.str d :: xs) = (decide (c = d) || inF (.str c) xs) := by
  show ((d == c) || inF (.str c) xs) = _
  congr 1
  by_cases h : c = d
  · subst h; simp
  · have : ¬ d = c := fun e => h e.symm
    simp [h, this]
theorem un_inI (c d : Int) (xs : List D) : inF (.int c) (.int d :: xs) = (decide (c = d) || inF (.int c) xs) := by
  show ((d == c) || inF (.int c) xs) = _
  congr 1
  by_cases h : c = d
  · subst h; simp
  · have : ¬ d = c := fun e => h e.symm
    simp [h, this]
theorem un_inN (x : D) : inF x [] = false := rfl
theorem un_fS (c : Str) : flatD (.str c) = true := rfl
theorem un_fI (c : Int) : flatD (.int c) = true := rfl
theorem un_at (xs : List D) (n : Nat) : atI xs (no_index (OfNat.ofNat n : Int)) = xs[n]? := at_nat xs n
theorem un_clr (a : Addr) (G : Gp) (Q : K1) : wpBm .clear (.ref a) [] G Q = onL (G a) fun _ => Q .non (gup G a (.lst [])) := rfl
theorem un_asS (s : Str) (k : Str → Prop) : asS (.str s) k = k s := rfl
theorem un_onDs (i : Int) (e : D) (k : D → Prop) : onD (some i) e k = k (.int i) := rfl
theorem un_onDn (e : D) (k : D → Prop) : onD none e k = k e := rfl
theorem un_onS (i : Int) (k : Int → Prop) : onO (some i) k = k i := rfl
theorem un_onN (k : Int → Prop) : onO none k = False := rfl
theorem un_t0 (l : List (Str × Int)) (r : List (List (Str × Int))) : nthL (l :: r) 0 = l := rfl
theorem un_tS (l : List (Str × Int)) (r : List (List (Str × Int))) (n : Nat) : nthL (l :: r) (n + 1) = nthL r n := rfl
theorem un_d0 (s : Str) : dget [] s = none := rfl
theorem un_dc (t : Str) (i : Int) (r : List (Str × Int)) (s : Str) : dget ((t, i) :: r) s = if s = t then some i else dget r s := rfl
theorem un_ins (a : Addr) (i : Int) (y : D) (G : Gp) (Q : K1) : wpBm .insert (.ref a) [.int i, y] G Q = onL (G a) fun xs => xs.length < sizeLine ∧ 0 ≤ i ∧ i < 2 ^ 63 ∧ Q .non (gup G a (.lst (xs.take i.toNat ++ [y] ++ xs.drop i.toNat))) := rfl
theorem un_inL (c : Str) (p : Addr) (G : Gp) (k : Bool → Prop) : wpCmp .In (.str c) (.ref p) G k = onL (G p) fun xs => flatD (.str c) = true ∧ xs.all flatD = true ∧ k (inF (.str c) xs) := rfl
theorem un_newL (G : Gp) (xs : List D) (Q : K1) : newL G xs Q = (xs.length ≤ sizeLine ∧ ∀ p, G p = none → Q (.ref p) (gup G p (.lst xs))) := rfl
theorem un_sm (n : Nat) (h : n ≤ 1000000) : small62 (no_index (OfNat.ofNat n : Int)) = True := by
  have : (OfNat.ofNat n : Int) = (n : Int) := rfl
  rw [this]; unfold small62; apply eq_true; omega
theorem un_sm' (n : Nat) (h : n ≤ 1000000) : small62 (n : Int) = True := by
  unfold small62; apply eq_true; omega
theorem sz : sizeLine = 16777216 := by decide
theorem mul_l {i j : Int} (h : i.natAbs < 2 ^ 64) : IntMulOk i j := CMul.ok (.inl (by omega))
theorem mul_r {i j : Int} (h : j.natAbs < 2 ^ 64) : IntMulOk i j := CMul.ok (.inr (by omega))
theorem un_rvr (a : Addr) (G : Gp) (Q : K1) : wpRv (.ref a) G Q = onL (G a) fun xs => ∀ p, G p = none → Q (.ref p) (gup G p (.lst xs.reverse)) := rfl
theorem un_setU (is : List Nat) (a : Addr) (env : Ev) (G : Gp) (k : Ev → Prop) : setU is (.ref a) env G k = onL (G a) fun xs => xs.length = is.length ∧ k (putsE is xs env) := by
  show (onL (G a) fun xs => (∀ ys, D.ref a ≠ .tup ys) ∧ xs.length = is.length ∧ k _) = _
  simp only [un_rt, true_and, putsE_eq]
theorem un_ge2 (a b c d : Int) (G : Gp) (k : Bool → Prop) : wpCmp .GtE (.tup [.int a, .int b]) (.tup [.int c, .int d]) G k = k (if a = c then (if b = d then true else decide (d ≤ b)) else decide (c ≤ a)) := by
  have e : geT [a, b] [c, d] = (if a = c then (if b = d then true else decide (d ≤ b)) else decide (c ≤ a)) := by
    unfold geT
    simp only [List.length_cons, List.length_nil, Nat.min_self, Ob.lexAt_succ, Ob.lexAt_zero]
    simp
  apply propext
  constructor
  · rintro ⟨ns, ms, h1, h2, q⟩
    have e1 : ns = [a, b] := ((List.map_inj_right fun x y e => by cases e; rfl).mp (show [a, b].map D.int = ns.map D.int from h1)).symm
    have e2 : ms = [c, d] := ((List.map_inj_right fun x y e => by cases e; rfl).mp (show [c, d].map D.int = ms.map D.int from h2)).symm
    rw [e1, e2, e] at q; exact q
  · intro q
    exact ⟨[a, b], [c, d], rfl, rfl, by rw [e]; exact q⟩
/-- the list's ints -/
def intsK : List D → (List Int → Prop) → Prop
  | [], k => k []
  | .int b :: xs, k => intsK xs fun bs => k (b :: bs)
  | _, _ => False
theorem un_in0 (k : List Int → Prop) : intsK [] k = k [] := rfl
theorem un_inC (b : Int) (xs : List D) (k : List Int → Prop) : intsK (.int b :: xs) k = intsK xs fun bs => k (b :: bs) := rfl
theorem intsK_ex : ∀ (xs : List D) (k : List Int → Prop), (∃ ns : List Int, xs = ns.map D.int ∧ k ns) = intsK xs k
  | [], k => by
    apply propext; constructor
    · rintro ⟨ns, h, q⟩; cases ns with
      | nil => exact q
      | cons b bs => cases h
    · intro q; exact ⟨[], rfl, q⟩
  | x :: xs, k => by
    apply propext; constructor
    · rintro ⟨ns, h, q⟩; cases ns with
      | nil => cases h
      | cons b bs =>
        cases h
        show intsK (bs.map D.int) fun bs => k (b :: bs)
        rw [← intsK_ex]; exact ⟨bs, rfl, q⟩
    · intro q
      cases x with
      | int b =>
        have q : intsK xs fun bs => k (b :: bs) := q
        rw [← intsK_ex] at q
        obtain ⟨bs, h, q⟩ := q
        exact ⟨b :: bs, by rw [h]; rfl, q⟩
      | _ => exact q.elim
theorem un_srt (xs : List D) (G : Gp) (Q : K1) : wpBi .sorted [.tup xs] G Q = intsK xs fun ns => ∀ ns' : List Int, ns'.Perm ns → ns'.Pairwise (· ≤ ·) → ∀ p, G p = none → Q (.ref p) (gup G p (.lst (ns'.map D.int))) := by
  rw [← intsK_ex]; rfl
theorem un_srl (a : Addr) (G : Gp) (Q : K1) : wpBi .sorted [.ref a] G Q = onL (G a) fun xs => intsK xs fun ns => ∀ ns' : List Int, ns'.Perm ns → ns'.Pairwise (· ≤ ·) → ∀ p, G p = none → Q (.ref p) (gup G p (.lst (ns'.map D.int))) := by
  simp only [← intsK_ex]; rfl
/-! objects -/
def lookM : List (Nat × SpD) → Nat → (SpD → Prop) → Prop
  | (d, m) :: r, c, k => if d = c then k m else lookM r c k
  | [], _, _ => False
def nthMM : List (List (Nat × SpD)) → Nat → List (Nat × SpD)
  | l :: _, 0 => l
  | _ :: r, n + 1 => nthMM r n
  | [], _ => []
def nthK : List (Nat × SpD) → Nat → (Nat → SpD → Prop) → Prop
  | p :: _, 0, k => k p.1 p.2
  | _ :: r, n + 1, k => nthK r n k
  | [], _, _ => False
theorem lookM_eq : ∀ (l : List (Nat × SpD)) (c : Nat) (k : SpD → Prop), (match l.lookup c with | some m => k m | none => False) = lookM l c k
  | [], c, k => rfl
  | (d, m) :: r, c, k => by
    rw [List.lookup_cons]
    by_cases h : d = c
    · subst h; simp [lookM]
    · have : (c == d) = false := beq_eq_false_iff_ne.mpr fun e => h e.symm
      simp only [this, lookM, if_neg h]
      exact lookM_eq r c k
theorem nthMM_eq : ∀ (l : List (List (Nat × SpD))) (i : Nat), l.getD i [] = nthMM l i
  | [], i => by simp [nthMM]
  | m :: r, 0 => rfl
  | m :: r, i + 1 => by simpa [nthMM] using nthMM_eq r i
theorem nthK_eq : ∀ (l : List (Nat × SpD)) (i : Nat) (k : Nat → SpD → Prop), (match l[i]? with | some (c, m) => k c m | none => False) = nthK l i k
  | [], i, k => by simp [nthK]
  | m :: r, 0, k => rfl
  | m :: r, i + 1, k => by simpa [nthK] using nthK_eq r i k
section
variable (Γ : Gam) (env : Ev) (G : Gp) (Q : K1) (Dd : Dn)
theorem e_fld (x : E) (f : Fd) : wpE Γ (.fld x f) env G Q = wpE Γ x env G fun d G1 => asR d fun a => onI (G1 a) fun c fs => c < Γ.ncl ∧ lkF f fs fun d => Q d G1 := by simp only [wpE]
theorem e_om (i : Nat) (x : E) (xs : Es) : wpE Γ (.om i x xs) env G Q = wpE Γ x env G fun d G1 => asR d fun a => onI (G1 a) fun c _ => lookM (nthMM Γ.mth i) c fun m => wpEs Γ xs env G1 fun ds G2 => m (d :: ds) G2 Q := by
  simp only [wpE]
  congr 1; funext d G1; congr 1; funext a; congr 1; funext c fs
  rw [nthMM_eq]; exact lookM_eq _ c _
theorem e_mk (c : Nat) (xs : Es) : wpE Γ (.mk c xs) env G Q = nthK Γ.mks c fun cl m => wpEs Γ xs env G fun ds G1 => ∀ p, G1 p = none → m (.ref p :: ds) (gup G1 p (.ins cl [])) fun d G2 => d = .non ∧ Q (.ref p) G2 := by
  simp only [wpE]; exact nthK_eq Γ.mks c _
theorem e_ini (c : Nat) (xs : Es) : wpE Γ (.ini c xs) env G Q = nthK Γ.mks c fun _ m => wpEs Γ xs env G fun ds G1 => m ds G1 Q := by
  simp only [wpE]; exact nthK_eq Γ.mks c _
theorem s_fset (o x : E) (f : Fd) : wpS Γ (.fset o f x) Dd env G = wpE Γ x env G fun d G1 => wpE Γ o env G1 fun l G2 => asR l fun a => onI (G2 a) fun c fs => c < Γ.ncl ∧ fs.length < 1000 ∧ Dd.nx env (gup G2 a (.ins c (putD f d fs))) := by simp only [wpS]
end
theorem un_lmc (d c : Nat) (m : SpD) (r : List (Nat × SpD)) (k : SpD → Prop) : lookM ((d, m) :: r) c k = if d = c then k m else lookM r c k := rfl
theorem un_mm0 (l : List (Nat × SpD)) (r : List (List (Nat × SpD))) : nthMM (l :: r) 0 = l := rfl
theorem un_mms (l : List (Nat × SpD)) (r : List (List (Nat × SpD))) (n : Nat) : nthMM (l :: r) (n + 1) = nthMM r n := rfl
theorem un_k0 (c : Nat) (m : SpD) (r : List (Nat × SpD)) (k : Nat → SpD → Prop) : nthK ((c, m) :: r) 0 k = k c m := rfl
theorem un_ks (p : Nat × SpD) (r : List (Nat × SpD)) (n : Nat) (k : Nat → SpD → Prop) : nthK (p :: r) (n + 1) k = nthK r n k := rfl
theorem it_I (c : Nat) (fs : List (Fd × D)) (k : Nat → List (Fd × D) → Prop) : onI (some (.ins c fs)) k = k c fs := rfl
theorem un_lk (f g : Fd) (d : D) (r : List (Fd × D)) (k : D → Prop) : lkF f ((g, d) :: r) k = if f = g then k d else lkF f r k := by
  unfold lkF
  rw [List.lookup_cons]
  by_cases h : f = g
  · subst h; simp
  · have : (f == g) = false := beq_eq_false_iff_ne.mpr h
    rw [this, if_neg h]
theorem un_pd0 (f : Fd) (d : D) : putD f d [] = [(f, d)] := rfl
theorem un_pdc (f g : Fd) (d x : D) (r : List (Fd × D)) : putD f d ((g, x) :: r) = if g = f then (g, d) :: r else (g, x) :: putD f d r := rfl
section
variable (Γ : Gam) (env : Ev) (G : Gp) (Q : K1)
theorem e_isc (x : E) (k : Nat) : wpE Γ (.isc x k) env G Q = wpE Γ x env G fun d G1 => asR d fun a => onI (G1 a) fun c _ => memN (nthN Γ.isc k) c ∧ Q (.bl true) G1 := by simp only [wpE]
end
theorem un_nn0 (l : List Nat) (r : List (List Nat)) : nthN (l :: r) 0 = l := rfl
theorem un_nns (l : List Nat) (r : List (List Nat)) (n : Nat) : nthN (l :: r) (n + 1) = nthN r n := rfl
theorem un_memn (d c : Nat) (r : List Nat) : memN (d :: r) c = if d = c then True else memN r c := rfl
end DL
namespace DL
open PySem PySem.Spec PyProof.Rows L2
section
variable {P : Program} {w : World} {K : PySem.W.Frag} {mg : Str → Option Value} {base : Heap} {W : Wd}
theorem all_nil {p : Nat → Prop} : ∀ k ∈ ([] : List Nat), p k := fun k h => (nomatch h)
theorem all_cons {p : Nat → Prop} {a : Nat} {l : List Nat} (h : p a) (t : ∀ k ∈ l, p k) : ∀ k ∈ a :: l, p k := fun k hk => by
  rcases List.mem_cons.mp hk with e | e
  · rw [e]; exact h
  · exact t k e
end
end DL
namespace DL
open PySem PySem.Spec PyProof.Rows L2
/-! the small head: facts of the top, told by a Hook -/
abbrev TabV : Type := Option (List (Option (Str × Int × Int)))
def tabObs (K : PySem.W.Frag) (x : Str) : TabV := match K.lookup (He.ga K x) with
  | some ⟨.type c, none, .dict es _, sl⟩ => match decide (c = "dict") && (decide (sl.size = 0) && !(He.ga K x == sysModules)) with
    | true => some (es.toList.map fun e => match e.key, e.val with
      | .str z _, .int i _ => some (z, e.hash, i)
      | _, _ => none)
    | false => none
  | _ => none
def tabVal (w : World) (t : List (Str × Int)) : TabV := some (t.map fun p => some (p.1, PyData.keyHash w.params p.1, p.2))
abbrev AlL : Type := He.AlD × List TabV
def obsL (fs : PySem.W.Frag → List (List Bool)) (fn : List He.DefD) (tb : List (Str × List (Str × Int))) (K : PySem.W.Frag) : AlL :=
  (((fs K).all (fun l => l.all id) && fn.all fun d => d.ok K, fn.map fun d => He.fnW K d.at_), tb.map fun t => tabObs K t.1)
def valL (fn : List He.DefD) (tb : List (Str × List (Str × Int))) (w : World) : AlL := ((true, fn.map He.DefD.val), tb.map fun t => tabVal w t.2)
/-- the addresses that the module's names reach -/
def refsL (o : Obj) : List Addr := match o.data with
  | .dict es _ => es.toList.flatMap fun e => He.refV e.val
  | .func fd => He.refV fd.code ++ He.refV fd.defaults
  | .cls cd => [cd.ns]
  | _ => []
def frL {α : Type} : List Nat → (List Nat → α) → α
  | [], k => k []
  | a :: r, k => HandSHeadRun.frNat a fun a => frL r fun r => k (a :: r)
def stL (g : Addr → Option Obj) (as : List Addr) : List Addr := as.flatMap fun a => match g a with
  | some o => refsL o
  | none => []
def asL (g : Addr → Option Obj) : List Addr := frL (stL g [mainGlobals]) fun a => frL (stL g a) fun b => frL (stL g b) fun c => frL (stL g c) fun d => mainGlobals :: cStatics :: (a ++ (b ++ (c ++ d)))
def obsLG (n : Nat) (fs : PySem.W.Frag → List (List Bool)) (fn : List He.DefD) (tb : List (Str × List (Str × Int))) (g : Addr → Option Obj) : AlL := obsL fs fn tb (He.frG g (asL g))
def hookL (n : Nat) (fs : PySem.W.Frag → List (List Bool)) (fn : List He.DefD) (tb : List (Str × List (Str × Int))) : PySem.W.Hook where
  α := AlL
  obs := fun s => obsLG n fs fn tb s.heap.get?
  val := fun w => valL fn tb w
  says := fun w h => ∃ K : PySem.W.Frag, K.In h ∧ obsL fs fn tb K = valL fn tb w
  of := fun _ _ e => ⟨_, He.frG_in, e⟩
  keeps := fun _ _ _ ⟨K, hK, c⟩ k => ⟨K, PySem.W.Frag.In.keeps hK k, c⟩
theorem obsLG_eq {n : Nat} {fs : PySem.W.Frag → List (List Bool)} {fn : List He.DefD} {tb : List (Str × List (Str × Int))} {g : Addr → Option Obj} {s : Shared} (h : ∀ a, g a = s.heap.get? a) : obsLG n fs fn tb g = (hookL n fs fn tb).obs s := by
  have e : g = s.heap.get? := funext h
  rw [e] <;> rfl
section
variable {P : Program} {w : World} {K : PySem.W.Frag} {mg : Str → Option Value} {h : Heap} {fs : PySem.W.Frag → List (List Bool)} {fn : List He.DefD} {tb : List (Str × List (Str × Int))}
theorem hk_fact (c : obsL fs fn tb K = valL fn tb w) (i j : Nat) {l : List Bool} {b : Bool} (h1 : (fs K)[i]? = some l) (h2 : l[j]? = some b) : b = true := by
  have c1 := (Bool.and_eq_true_iff.mp (show ((fs K).all (fun l => l.all id) && fn.all fun d => d.ok K) = true from congrArg (fun z : AlL => z.1.1) c)).1
  have c2 := List.all_eq_true.mp c1 l (List.mem_of_getElem? h1)
  exact List.all_eq_true.mp c2 b (List.mem_of_getElem? h2)
theorem hk_def (c : obsL fs fn tb K = valL fn tb w) (i : Nat) {d : He.DefD} (h : fn[i]? = some d) : ∃ fd, FunD K d.name d.qual d.params d.body d.scope (d.dvs K) (d.kws K) (He.fAd K d.at_) fd := by
  have c2 := (Bool.and_eq_true_iff.mp (show ((fs K).all (fun l => l.all id) && fn.all fun d => d.ok K) = true from congrArg (fun z : AlL => z.1.1) c)).2
  have e : fn.map (fun d => He.fnW K d.at_) = fn.map He.DefD.val := congrArg (fun z : AlL => z.1.2) c
  have e2 : (fn.map fun d => He.fnW K d.at_)[i]? = (fn.map He.DefD.val)[i]? := by rw [e]
  rw [List.getElem?_map, List.getElem?_map, h] at e2
  exact He.DefD.funD (Option.some.inj e2) (List.all_eq_true.mp c2 d (List.mem_of_getElem? h))
/-- a def that stands, no defaults -/
theorem FunD.fun {x q : Str} {st : Stmt} {f : Addr} {fd : FuncData} (F : FunD K x q (defArgs st) (defBody st) (defScope st) [] [] f fd) : Fun K x q st f fd := by
  obtain ⟨oc, od, dV, kV, doc, pm, an, cdv, ct, osl, rfl, lk, hcd, hD, hK⟩ := F.ex
  rcases hD with ⟨_, rfl⟩ | ⟨h, _⟩
  · exact ⟨⟨oc, od, kV, doc, pm, an, cdv, ct, osl, rfl, lk, hcd⟩, F.kp⟩
  · exact absurd rfl h
/-- the datum of a def -/
def dD (x : Str) (st : Stmt) (dfl : List He.Dv) : He.DefD := ⟨(x, none), x, x, defArgs st, defBody st, defScope st, dfl, []⟩
/-- Bools -/
def gloB (K : PySem.W.Frag) (x : Str) : Bool := He.eqO (PySem.W.nsIn K mainGlobals x) (some (some (.ref (He.ga K x))))
def freeB (K : PySem.W.Frag) (x : Str) : Bool := He.eqO (PySem.W.nsIn K mainGlobals x) (some none)
theorem gloB_ok (X : K.In h) (G : h.Ns mainGlobals mg) {x : Str} (c : gloB K x = true) : mg x = some (.ref (He.ga K x)) := PySem.W.mg_of X G (He.eqO_ok c)
theorem freeB_ok (X : K.In h) (G : h.Ns mainGlobals mg) {x : Str} (c : freeB K x = true) : mg x = none := PySem.W.mg_none_of X G (He.eqO_ok c)
theorem defAtH {x : Str} {st : Stmt} {ps : List Str} (F : ∃ fd, FunD K x x (defArgs st) (defBody st) (defScope st) [] [] (He.ga K x) fd) (X : K.In h) (G : h.Ns mainGlobals mg) (c : gloB K x = true)
    (hb : ∀ (kV doc pm : Value) (an : Option Addr) (cdv ct : Value) (us : List Value), us.length = ps.length → bindArgs (PySem.W.fnOf x x (defArgs st) (defBody st) (defScope st) .none kV doc pm an cdv ct) ⟨us, []⟩ = pure (ps.zip us)) : DefAt K mg x st ps := by
  obtain ⟨fd, F⟩ := F
  have F' := FunD.fun F
  refine ⟨_, fd, F', gloB_ok X G c, F'.binds hb, ?_⟩
  obtain ⟨oc, od, kV, doc, pm, an, cdv, ct, osl, rfl, lk, hcd⟩ := F'.ex
  exact hb _ _ _ _ _ _
def tupSB (K : PySem.W.Frag) (x : Str) (zs : List Str) : Bool := gloB K x && (He.tupB K x (zs.map He.Dv.str) && decide (zs.length ≤ 1000))
theorem tupSB_ok (X : K.In h) (G : h.Ns mainGlobals mg) {x : Str} {zs : List Str} (c : tupSB K x zs = true) : ConG K mg x (.tup (zs.map D.str)) := by
  obtain ⟨c1, c⟩ := Bool.and_eq_true_iff.mp c
  obtain ⟨c2, c3⟩ := Bool.and_eq_true_iff.mp c
  refine ⟨.ref (He.ga K x), _, gloB_ok X G c1, rfl, fun H => ?_⟩
  simp only [RelD]
  have e : (zs.map He.Dv.str).map (He.Dv.v K) = zs.map V.str := by rw [List.map_map]; rfl
  have t := He.tupB_ok (K := K) (x := x) c2 H
  rw [e] at t
  exact ⟨_, zs.map V.str, rfl, t, .strs zs⟩
/-- the written parts, by their defs -/
theorem hk_dD (c : obsL fs fn tb K = valL fn tb w) (i : Nat) {x : Str} {st : Stmt} {dfl : List He.Dv} {dvs : List V} (h : fn[i]? = some (dD x st dfl)) (e : dfl.map (He.Dv.v K) = dvs) :
    ∃ fd, FunD K x x (defArgs st) (defBody st) (defScope st) dvs [] (He.ga K x) fd := by
  subst e; exact hk_def c i h
end
theorem walk_ofEB {l : PySem.W.OpenLaw} {n k : Nat} {q : Program} {loose : List Str} {XP : (Str → Option Value) → Heap → Prop} {YP : World → Heap → Prop} {d : DefRec} {x : Str}
    (hn : l.most = some n) (hn2 : n ≤ sizeLine) (hdf : d.params.defaults = []) (hr : Room k callerA)
    (F : ∀ (w : World) (mg : Str → Option Value) (fa : Addr) (h : Heap), YP w h → h.Ns mainGlobals mg → mg d.name = some (.ref fa) →
      ∃ (K : PySem.W.Frag) (fd : FuncData) (sp : Sp), K.In h ∧ (∀ (s : Shared) (u : Value), BindsTo s fd ⟨[u], []⟩ [(x, u)]) ∧
        (∀ (H : Hp) (a : Addr) (ns : List Int), ns.length ≤ n → (∀ z ∈ ns, Builtin.Int.intBits z ≤ 1048576) → Only H → SqL K H a (ns.map V.int) → sp [.ref a] H (fun v _ => v = .bl true) fun _ _ _ => False) ∧
        ∀ base : Heap, K.In base → base.Ns mainGlobals mg → FnOk l.prog w K mg base CX0 k fa fd [x] sp) :
    PySem.W.WalkO q loose XP YP l.row.toRowW d [] (fun f vs => PySem.call f vs) := by
  refine Att.attach_callB hn hdf fun w s₀ s₁ mg mb fa o pm cd doc a vs ns G Y ho hd hcd hmg hobj hints hlen hbits hg => ?_
  obtain ⟨K, fd, sp, KX, hb, hsp, hF⟩ := F w mg fa _ Y G.T.g hmg
  exact law_call KX G.T.g G.T.b G.T.builtins G.T.nolimit hg hobj hints (Nat.le_trans hlen hn2) hr hF hb (fun H hO hS => hsp H a ns hlen hbits hO hS) fun H e s' => fun z => z
end DL
namespace DL
open PySem PySem.Spec PyProof.Rows L2
/-! how many bits are 1 -/
def pop (n : Nat) : Nat := if h : n = 0 then 0 else n % 2 + pop (n / 2)
termination_by n
decreasing_by omega
theorem pop_zero : pop 0 = 0 := by unfold pop; simp
theorem pop_step (n : Nat) : pop n = n % 2 + pop (n / 2) := by
  by_cases h : n = 0
  · subst h; simp [pop_zero]
  · rw [pop, dif_neg h]
theorem pop_double (n : Nat) : pop (2 * n) = pop n := by
  rw [pop_step (2 * n)]
  have h1 : 2 * n % 2 = 0 := by omega
  have h2 : 2 * n / 2 = n := by omega
  rw [h1, h2]; omega
theorem and_dbl (a b : Nat) (x y : Nat) (hx : x < 2) (hy : y < 2) : (2 * a + x) &&& (2 * b + y) = 2 * (a &&& b) + x * y := by
  apply Nat.eq_of_testBit_eq
  intro i
  cases i with
  | zero =>
    rw [Nat.testBit_and]
    simp only [Nat.testBit_zero]
    rcases (show x = 0 ∨ x = 1 by omega) with rfl | rfl <;> rcases (show y = 0 ∨ y = 1 by omega) with rfl | rfl <;> simp <;> omega
  | succ i =>
    rw [Nat.testBit_and, Nat.testBit_succ, Nat.testBit_succ, Nat.testBit_succ]
    have h1 : (2 * a + x) / 2 = a := by omega
    have h2 : (2 * b + y) / 2 = b := by omega
    have h3 : (2 * (a &&& b) + x * y) / 2 = (a &&& b) := by
      rcases (show x = 0 ∨ x = 1 by omega) with rfl | rfl <;> rcases (show y = 0 ∨ y = 1 by omega) with rfl | rfl <;> omega
    rw [h1, h2, h3, Nat.testBit_and]
theorem xor_dbl (a b : Nat) (x y : Nat) (hx : x < 2) (hy : y < 2) : (2 * a + x) ^^^ (2 * b + y) = 2 * (a ^^^ b) + (x + y) % 2 := by
  apply Nat.eq_of_testBit_eq
  intro i
  cases i with
  | zero =>
    rw [Nat.testBit_xor]
    simp only [Nat.testBit_zero]
    rcases (show x = 0 ∨ x = 1 by omega) with rfl | rfl <;> rcases (show y = 0 ∨ y = 1 by omega) with rfl | rfl <;> simp <;> omega
  | succ i =>
    rw [Nat.testBit_xor, Nat.testBit_succ, Nat.testBit_succ, Nat.testBit_succ]
    have h1 : (2 * a + x) / 2 = a := by omega
    have h2 : (2 * b + y) / 2 = b := by omega
    have h3 : (2 * (a ^^^ b) + (x + y) % 2) / 2 = (a ^^^ b) := by omega
    rw [h1, h2, h3, Nat.testBit_xor]
theorem split2 (n : Nat) : n = 2 * (n / 2) + n % 2 := by omega
theorem pop_xor : ∀ a b : Nat, pop (a ^^^ b) + 2 * pop (a &&& b) = pop a + pop b := by
  intro a
  induction a using Nat.strongRecOn with
  | _ a ih =>
    intro b
    by_cases h : a = 0
    · subst h
      simp [pop_zero]
    · have ea := split2 a
      have eb := split2 b
      have i := ih (a / 2) (by omega) (b / 2)
      have hx := xor_dbl (a / 2) (b / 2) (a % 2) (b % 2) (by omega) (by omega)
      have ha := and_dbl (a / 2) (b / 2) (a % 2) (b % 2) (by omega) (by omega)
      rw [← ea, ← eb] at hx ha
      rw [hx, ha, pop_step (2 * _ + _), pop_step (2 * (a / 2 &&& b / 2) + _), pop_step a, pop_step b]
      rcases Nat.mod_two_eq_zero_or_one a with x | x <;> rcases Nat.mod_two_eq_zero_or_one b with y | y <;> rw [x, y] <;> simp only [Nat.zero_add, Nat.add_zero, Nat.mul_zero, Nat.zero_mul, Nat.mul_one, Nat.one_mul] <;> 
        first | (rw [show (2 * (a / 2 ^^^ b / 2) + 0 % 2) / 2 = (a / 2 ^^^ b / 2) by omega]; omega) | skip
      all_goals
        simp only [Nat.reduceAdd, Nat.reduceMod, Nat.add_zero]
        have h1 : (2 * (a / 2 ^^^ b / 2)) / 2 = (a / 2 ^^^ b / 2) := by omega
        have h2 : (2 * (a / 2 ^^^ b / 2) + 1) / 2 = (a / 2 ^^^ b / 2) := by omega
        have h3 : (2 * (a / 2 &&& b / 2)) / 2 = (a / 2 &&& b / 2) := by omega
        have h4 : (2 * (a / 2 &&& b / 2) + 1) / 2 = (a / 2 &&& b / 2) := by omega
        simp only [h1, h2, h3, h4]
        omega
end DL
namespace DL
open PySem
/-- bits below w, counted one by one -/
def cnt (n : Nat) : Nat → Nat
  | 0 => 0
  | w + 1 => cnt n w + n / 2 ^ w % 2
theorem cnt_succ (n : Nat) : ∀ w, cnt n (w + 1) = n % 2 + cnt (n / 2) w
  | 0 => by simp [cnt]
  | w + 1 => by
    have h : cnt n (w + 2) = cnt n (w + 1) + n / 2 ^ (w + 1) % 2 := rfl
    have h2 : cnt (n / 2) (w + 1) = cnt (n / 2) w + n / 2 / 2 ^ w % 2 := rfl
    have h3 : n / 2 / 2 ^ w = n / 2 ^ (w + 1) := by rw [Nat.div_div_eq_div_mul, ← Nat.pow_succ']
    rw [h, cnt_succ n w, h2, h3]
    omega
theorem cnt_pop : ∀ (w n : Nat), n < 2 ^ w → cnt n w = pop n
  | 0, n, h => by
    have : n = 0 := by simpa using h
    subst this; simp [cnt, pop_zero]
  | w + 1, n, h => by
    rw [cnt_succ, pop_step, cnt_pop w (n / 2) (by rw [Nat.pow_succ] at h; omega)]
theorem shr_nat (n k : Nat) : (n : Int) / 2 ^ k = ((n / 2 ^ k : Nat) : Int) := by
  rw [Int.natCast_ediv, Int.natCast_pow]; rfl
theorem rng_get {n i : Nat} {d : D} (h : (rngD 0 1 n)[i]? = some d) : d = .int (i : Int) ∧ i < n := by
  have h1 := rngD_get h
  have h2 := (List.getElem?_eq_some_iff.mp h).1
  rw [rngD_len] at h2
  exact ⟨by rw [h1]; simp, h2⟩
theorem small_nat {n : Nat} (h : n ≤ 1000000) : small62 (n : Int) := by
  unfold small62; omega
end DL
namespace DL
open PySem
def bt (n i : Nat) : Nat := n / 2 ^ i % 2
theorem bt_lt (n i : Nat) : bt n i < 2 := Nat.mod_lt _ (by decide)
theorem bt_test (n i : Nat) : bt n i = if n.testBit i then 1 else 0 := by
  unfold bt
  rw [Nat.testBit_eq_decide_div_mod_eq]
  have := Nat.mod_lt (n / 2 ^ i) (show 2 > 0 by decide)
  by_cases h : n / 2 ^ i % 2 = 1
  · simp [h]
  · simp [h]; omega
theorem bt_and (a b i : Nat) : bt (a &&& b) i = bt a i * bt b i := by
  simp only [bt_test, Nat.testBit_and]
  cases a.testBit i <;> cases b.testBit i <;> rfl
theorem bt_xor (a b i : Nat) : bt (a ^^^ b) i = (bt a i + bt b i) % 2 := by
  simp only [bt_test, Nat.testBit_xor]
  cases a.testBit i <;> cases b.testBit i <;> rfl
theorem bt_or (a b i : Nat) : bt (a ||| b) i = max (bt a i) (bt b i) := by
  simp only [bt_test, Nat.testBit_or]
  cases a.testBit i <;> cases b.testBit i <;> rfl
theorem cnt_bt (n w : Nat) : cnt n (w + 1) = cnt n w + bt n w := rfl
theorem mod_bt (n w : Nat) : n % 2 ^ (w + 1) = n % 2 ^ w + bt n w * 2 ^ w := by
  rw [Nat.mod_pow_succ, Nat.mul_comm]; rfl
theorem bt_eq {a b : Nat} (h : ∀ i, bt a i = bt b i) : a = b := by
  apply Nat.eq_of_testBit_eq
  intro i
  have := h i
  rw [bt_test, bt_test] at this
  cases ha : a.testBit i <;> cases hb : b.testBit i <;> simp_all
theorem bt_shift (n k i : Nat) : bt (n * 2 ^ k) i = if k ≤ i then bt n (i - k) else 0 := by
  simp only [bt_test, Nat.testBit_mul_two_pow]
  by_cases h : k ≤ i <;> simp [h]
theorem pop_small {n w : Nat} (h : n < 2 ^ w) : cnt n w = pop n := cnt_pop w n h
theorem and_small {a b w : Nat} (h : a < 2 ^ w) : a &&& b < 2 ^ w := Nat.lt_of_le_of_lt Nat.and_le_left h
end DL
namespace DL
open PySem
/-- one statement by what holds behind it -/
theorem cut_at {Γ : Gam} (M : Γ.Mono) {s : S} {b : B} {D : Dn} {env : Ev} {G : Gp} (R : Ev → Gp → Prop) (h : wpS Γ s { nx := R, rt := D.rt, ct := D.ct } env G) (k : ∀ e g, R e g → wpB Γ b D e g) : wpB Γ (.cons s b) D env G := by
  rw [b_cons]; exact wpS_mono M s { nx := R, rt := D.rt, ct := D.ct } _ env G ⟨k, fun _ _ h => h, fun _ _ h => h⟩ h
/-! comparing tuples of whole numbers -/
mutual
theorem depth_ints : ∀ is : List Int, PyData.depthAll (is.map PyData.int) ≤ 1
  | [] => by simp [PyData.depthAll]
  | i :: is => by
    have := depth_ints is
    simp [PyData.depthAll, PyData.depth]; omega
end
theorem lay_ints : ∀ is : List Int, PyData.canLayAll0 (is.map PyData.int) = true
  | [] => by simp [PyData.canLayAll0]
  | i :: is => by simp [PyData.canLayAll0, PyData.canLay0, lay_ints is]
theorem eqv_ints : ∀ is js : List Int, PyData.eqvAll (is.map PyData.int) (js.map PyData.int) = decide (is = js)
  | [], [] => by simp [PyData.eqvAll]
  | [], j :: js => by simp [PyData.eqvAll]
  | i :: is, [] => by simp [PyData.eqvAll]
  | i :: is, j :: js => by
    simp only [List.map_cons, PyData.eqvAll, PyData.eqv, eqv_ints is js]
    by_cases h : i = j <;> by_cases h' : is = js <;> simp [h, h']
theorem pds_ints (G : Gp) : ∀ is : List Int, Pds G (is.map D.int) (is.map PyData.int)
  | [] => .nil
  | i :: is => .cons (.int i) (pds_ints G is)
mutual
theorem Pd.fn {G : Gp} : ∀ {x : D} {d e : PyData}, Pd G x d → Pd G x e → d = e
  | _, _, _, .non, .non => rfl
  | _, _, _, .bl _, .bl _ => rfl
  | _, _, _, .int _, .int _ => rfl
  | _, _, _, .str _, .str _ => rfl
  | _, _, _, .tup h, .tup k => by rw [Pds.fn h k]
  | _, _, _, .ro h, .ro k => by rw [Pds.fn h k]
  | _, _, _, .lst e h, .lst e' k => by
    rw [e] at e'
    cases e'
    rw [Pds.fn h k]
theorem Pds.fn {G : Gp} : ∀ {xs : List D} {ds es : List PyData}, Pds G xs ds → Pds G xs es → ds = es
  | _, _, _, .nil, .nil => rfl
  | _, _, _, .cons h t, .cons h' t' => by rw [Pd.fn h h', Pds.fn t t']
end
theorem eq_pdT {G : Gp} {xs ys : List D} {d e : PyData} (h : Pd G (.tup xs) d) (h' : Pd G (.tup ys) e) (s : SeqAt.shaped d = true) (s' : SeqAt.shaped e = true) (k : Bool → Prop) : wpCmp .Eq (.tup xs) (.tup ys) G k = k (PyData.eqv d e) := by
  apply propext
  constructor
  · rintro ⟨d', e', a, b, _, _, q⟩
    rw [Pd.fn h a, Pd.fn h' b]; exact q
  · intro q; exact ⟨d, e, h, h', s, s', q⟩
theorem eq_tupE (G : Gp) (is js : List Int) (k : Bool → Prop) : wpCmp .Eq (.tup (is.map D.int)) (.tup (js.map D.int)) G k = k (decide (is = js)) := by
  rw [eq_pdT (.tup (pds_ints G is)) (.tup (pds_ints G js)) _ _ k]
  · simp only [PyData.eqv, eqv_ints]
  · unfold SeqAt.shaped; simp [PyData.canLay0, lay_ints, PyData.depth]; have := depth_ints is; omega
  · unfold SeqAt.shaped; simp [PyData.canLay0, lay_ints, PyData.depth]; have := depth_ints js; omega
section
variable (G : Gp) (a b c a' b' c' : Int) (k : Bool → Prop)
theorem q_eqM (is js : List Int) : wpCmp .Eq (.tup (is.map D.int)) (.tup (js.map D.int)) G k = k (decide (is = js)) := eq_tupE G is js k
theorem q_neM (is js : List Int) : wpCmp .NotEq (.tup (is.map D.int)) (.tup (js.map D.int)) G k = k (!decide (is = js)) := eq_tupE G is js fun b => k (!b)
theorem q_eq2 : wpCmp .Eq (.tup [.int a, .int b]) (.tup [.int a', .int b']) G k = k (decide (a = a' ∧ b = b')) := by
  have := eq_tupE G [a, b] [a', b'] k
  rw [show decide ([a, b] = [a', b']) = decide (a = a' ∧ b = b') from decide_eq_decide.mpr (by simp)] at this
  exact this
theorem q_ne2 : wpCmp .NotEq (.tup [.int a, .int b]) (.tup [.int a', .int b']) G k = k (!decide (a = a' ∧ b = b')) := q_eq2 G a b a' b' fun b => k (!b)
theorem q_eq3 : wpCmp .Eq (.tup [.int a, .int b, .int c]) (.tup [.int a', .int b', .int c']) G k = k (decide (a = a' ∧ b = b' ∧ c = c')) := by
  have := eq_tupE G [a, b, c] [a', b', c'] k
  rw [show decide ([a, b, c] = [a', b', c']) = decide (a = a' ∧ b = b' ∧ c = c') from decide_eq_decide.mpr (by simp)] at this
  exact this
theorem q_ne3 : wpCmp .NotEq (.tup [.int a, .int b, .int c]) (.tup [.int a', .int b', .int c']) G k = k (!decide (a = a' ∧ b = b' ∧ c = c')) := q_eq3 G a b c a' b' c' fun b => k (!b)
end
/-! a list comprehension whose element leaves the heap as it is -/
def But (p : Addr) (G G' : Gp) : Prop := ∀ a, a ≠ p → G' a = G a
theorem But.rfl {p : Addr} {G : Gp} : But p G G := fun _ _ => Eq.refl _
/-- what was there stays -/
def Ext (G G' : Gp) : Prop := ∀ a o, G a = some o → G' a = some o
theorem Ext.rfl {G : Gp} : Ext G G := fun _ _ h => h
theorem Ext.trans {G G' G'' : Gp} (h : Ext G G') (k : Ext G' G'') : Ext G G'' := fun a o e => k a o (h a o e)
theorem Ext.none {G G' : Gp} (h : Ext G G') {p : Addr} (e : G' p = Option.none) : G p = Option.none := by
  cases q : G p with
  | none => exact Eq.refl _
  | some o => rw [h p o q] at e; cases e
theorem Ext.put {G G' : Gp} (h : Ext G G') {p : Addr} (e : G p = Option.none) (o : GO) : Ext G (gup G' p o) := fun a u q => by
  have : a ≠ p := by rintro rfl; rw [e] at q; cases q
  rw [gup_ne this]; exact h a u q
theorem Ext.new {G G' : Gp} (h : Ext G G') {p : Addr} (e : G' p = Option.none) (o : GO) : Ext G (gup G' p o) := h.put (h.none e) o
theorem ne_of {G : Gp} {a p : Addr} {o : GO} (h : G a = some o) (e : G p = Option.none) : a ≠ p := by rintro rfl; rw [e] at h; cases h
theorem new_heap (G : Gp) (p : Addr) (o : GO) (h : G p = none) : ∃ G', gup G p o = G' ∧ Ext G G' ∧ G' p = some o := ⟨_, Eq.refl _, Ext.rfl.new h o, gup_same⟩
theorem lc_extT {Γ : Gam} (M : Γ.Mono) {chk : Gp → Prop} {tg : Tg} {c : To} {x : E} {p : Addr} {Q : Gp → Prop} {env : Ev} {ds : List D} {G : Gp} (hp : G p = none) (R : Nat → List D → Prop)
    (hchk : ∀ G', Ext G G' → chk G') (h0 : R 0 [])
    (step : ∀ i d ys G', ds[i]? = some d → Ext G G' → R i ys → setT tg d env fun env' => wpTo Γ c env' G' fun b G1 => Ext G' G1 ∧ if b = true then wpE Γ x env' G1 fun y G2 => Ext G1 G2 ∧ R (i + 1) (ys ++ [y]) else R (i + 1) ys)
    (hlen : ds.length ≤ 1000000) (hd : ∀ ys G', R ds.length ys → ys.length ≤ ds.length → Ext G G' → G' p = some (.lst ys) → Q G') : lcD chk (setT tg) (wpTo Γ c) (wpE Γ x) p Q env ds (gup G p (.lst [])) := by
  have go : ∀ (es : List D) (i : Nat) (ys : List D) (G' : Gp), (∀ j d, es[j]? = some d → ds[i + j]? = some d) → i + es.length = ds.length → ys.length ≤ i → R i ys → Ext G G' → G' p = some (.lst ys) → lcD chk (setT tg) (wpTo Γ c) (wpE Γ x) p Q env es G' := by
    intro es
    induction es with
    | nil =>
      intro i ys G' _ hl hy h hE hG
      have : i = ds.length := by simpa using hl
      subst this
      exact ⟨hchk _ hE, hd _ _ h hy hE hG⟩
    | cons d es ih =>
      intro i ys G' hj hl hy h hE hG
      simp only [List.length_cons] at hl
      have hj' : ∀ j d', es[j]? = some d' → ds[i + 1 + j]? = some d' := fun j d' e => by
        have := hj (j + 1) d' (by simpa using e)
        rw [show i + 1 + j = i + (j + 1) by omega]; exact this
      refine ⟨hchk _ hE, setT_mono (fun env' q => ?_) (step i d ys G' (hj 0 d (Eq.refl _)) hE h)⟩
      refine wpTo_mono M c env' _ _ _ (fun b G1 q => ?_) q
      obtain ⟨hE1, q⟩ := q
      cases b with
      | true =>
        rw [if_pos (Eq.refl _)] at q ⊢
        refine wpE_mono M x env' _ _ _ (fun y G2 q => ?_) q
        obtain ⟨hE2, q⟩ := q
        rw [hE2 _ _ (hE1 _ _ hG)]
        refine ⟨len_lt (by omega), ?_⟩
        exact ih (i + 1) (ys ++ [y]) _ hj' (by omega) (by simp; omega) q (((hE.trans hE1).trans hE2).put hp _) gup_same
      | false =>
        rw [if_neg Bool.false_ne_true] at q ⊢
        exact ih (i + 1) ys _ hj' (by omega) (by omega) q (hE.trans hE1) (hE1 _ _ hG)
  exact go ds 0 [] _ (fun j d h => by rw [Nat.zero_add]; exact h) (by omega) (Nat.le_refl _) h0 (Ext.rfl.put hp _) gup_same
/-- .. without a test: item by item -/
theorem lc_ext {Γ : Gam} (M : Γ.Mono) {chk : Gp → Prop} {tg : Tg} {x : E} {p : Addr} {Q : Gp → Prop} {env : Ev} {ds : List D} {G : Gp} (hp : G p = none) (R : Nat → D → Prop)
    (hchk : ∀ G', Ext G G' → chk G')
    (step : ∀ i d G', ds[i]? = some d → Ext G G' → setT tg d env fun env' => wpE Γ x env' G' fun y G2 => Ext G' G2 ∧ R i y)
    (hlen : ds.length ≤ 1000000) (hd : ∀ ys G', ys.length = ds.length → (∀ i y, ys[i]? = some y → R i y) → Ext G G' → G' p = some (.lst ys) → Q G') : lcD chk (setT tg) (wpTo Γ .none) (wpE Γ x) p Q env ds (gup G p (.lst [])) := by
  refine lc_extT M hp (fun i ys => ys.length = i ∧ ∀ j y, ys[j]? = some y → R j y) hchk ⟨Eq.refl _, fun j y h => by simp at h⟩ (fun i d ys G' hi hb ⟨h1, h2⟩ => ?_) hlen fun ys G' h _ => hd ys G' h.1 h.2
  refine setT_mono (fun env' q => ?_) (step i d G' hi hb)
  rw [to_none]
  refine ⟨Ext.rfl, ?_⟩
  rw [if_pos (Eq.refl _)]
  refine wpE_mono M x env' _ _ _ (fun y G2 q => ⟨q.1, by simp [h1], fun j z hz => ?_⟩) q
  by_cases hj : j < ys.length
  · rw [List.getElem?_append_left hj] at hz; exact h2 j z hz
  · rw [List.getElem?_append_right (by omega)] at hz
    have : j = i := by
      have := (List.getElem?_eq_some_iff.mp hz).1
      simp at this; omega
    subst this
    rw [h1, Nat.sub_self] at hz
    cases hz
    exact q.2
theorem map_get {α : Type} {f : α → D} {l : List α} {i : Nat} {d : D} (h : (l.map f)[i]? = some d) : ∃ a, l[i]? = some a ∧ d = f a := by
  rw [List.getElem?_map] at h
  cases e : l[i]? with
  | none => rw [e] at h; cases h
  | some a => rw [e] at h; cases h; exact ⟨a, rfl, rfl⟩
theorem ints_get {ns : List Int} {l : List D} (hl : l ⊆ ns.map D.int) {i : Nat} {d : D} (h : l[i]? = some d) : ∃ z, d = .int z := by
  obtain ⟨z, _, e⟩ := List.mem_map.mp (hl (List.mem_of_getElem? h))
  exact ⟨z, e.symm⟩
theorem map_get' {α : Type} {f : α → D} {l : List α} {i : Nat} {a : α} (h : l[i]? = some a) : (l.map f)[i]? = some (f a) := by rw [List.getElem?_map, h]; rfl
theorem mul_ok {i j : Int} {a b : Nat} (ha : i.natAbs < 2 ^ a) (hb : j.natAbs < 2 ^ b) (h : a + b ≤ 100000000) : IntMulOk i j := by
  have x := PyProof.Rows.intBits_le ha
  have y := PyProof.Rows.intBits_le hb
  have e : bitsLine = 134217728 := by decide
  unfold IntMulOk
  intro z
  rw [Bool.and_eq_true] at z
  have z2 := z.2
  unfold Builtin.Int.intTooBig at z2
  have z3 := of_decide_eq_true z2
  rw [e] at z3
  omega
/-! texts written out -/
theorem ofS_inj {a b : String} (h : Str.ofString a = Str.ofString b) : a = b := by
  have h1 := congrArg (fun s : Str => s.cps.toList) h
  simp only [Str.ofString_eq_toList] at h1
  have h2 : a.toList = b.toList := by
    have f : Function.Injective Char.toNat := fun x y e => Char.ext (UInt32.toNat_inj.mp e)
    exact (List.map_inj_right (fun x y e => f e)).mp (by simpa using h1)
  exact String.toList_injective h2
theorem s_lit (a b : String) : (Str.ofString a = Str.ofString b) = (a = b) := propext ⟨ofS_inj, fun h => by rw [h]⟩
/-- another place -/
theorem oth {w a r : Int} (h0 : 0 ≤ a) (ha : a < w) (r0 : 0 ≤ r) (hr : r < w - 1) : 0 ≤ (a + 1 + r) % w ∧ (a + 1 + r) % w < w ∧ (a + 1 + r) % w ≠ a := by
  have hw : 0 < w := by omega
  by_cases h : a + 1 + r < w
  · rw [Int.emod_eq_of_lt (by omega) h]; omega
  · have e : (a + 1 + r) % w = a + 1 + r - w := by
      rw [← Int.sub_emod_right, Int.emod_eq_of_lt (by omega) (by omega)]
    rw [e]; omega
/-! rows -/
structure Row where
  t : Nat
  x : Nat
  z : Nat
  deriving DecidableEq
def Row.d (r : Row) : D := .tup [.int (r.t : Int), .int (r.x : Int), .int (r.z : Int)]
def Row.mul (r s : Row) : Row := ⟨(r.t + s.t + 2 * pop (r.z &&& s.x)) % 4, r.x ^^^ s.x, r.z ^^^ s.z⟩
def Row.crosses (r s : Row) : Bool := decide ((pop (r.x &&& s.z) + pop (r.z &&& s.x)) % 2 = 1)
def Row.turned (r : Row) : Row := ⟨(r.t + 2) % 4, r.x, r.z⟩
def Row.straight (r : Row) : Bool := decide ((r.t + pop (r.x &&& r.z)) % 2 = 0)
section
variable (G : Gp) (r s : Row) (a b c : Int) (k : Bool → Prop) (Q : K1)
theorem q_rr : wpCmp .Eq r.d s.d G k = k (decide (r = s)) := by
  have := q_eq3 G r.t r.x r.z s.t s.x s.z k
  rw [show decide ((r.t : Int) = s.t ∧ (r.x : Int) = s.x ∧ (r.z : Int) = s.z) = decide (r = s) from decide_eq_decide.mpr (by cases r; cases s; simp; omega)] at this
  exact this
theorem q_nrr : wpCmp .NotEq r.d s.d G k = k (!decide (r = s)) := q_rr G r s fun b => k (!b)
theorem q_rt : wpCmp .Eq r.d (.tup [.int a, .int b, .int c]) G k = k (decide ((r.t : Int) = a ∧ (r.x : Int) = b ∧ (r.z : Int) = c)) := q_eq3 _ _ _ _ _ _ _ _
theorem q_nrt : wpCmp .NotEq r.d (.tup [.int a, .int b, .int c]) G k = k (!decide ((r.t : Int) = a ∧ (r.x : Int) = b ∧ (r.z : Int) = c)) := q_ne3 _ _ _ _ _ _ _ _
theorem q_tr : wpCmp .Eq (.tup [.int a, .int b, .int c]) r.d G k = k (decide (a = (r.t : Int) ∧ b = (r.x : Int) ∧ c = (r.z : Int))) := q_eq3 _ _ _ _ _ _ _ _
theorem q_ntr : wpCmp .NotEq (.tup [.int a, .int b, .int c]) r.d G k = k (!decide (a = (r.t : Int) ∧ b = (r.x : Int) ∧ c = (r.z : Int))) := q_ne3 _ _ _ _ _ _ _ _
theorem q_r0 : wpIx r.d (.int 0) G Q = Q (.int r.t) G := by
  show (∃ d, L2.atI _ 0 = some d ∧ Q d G) = _
  rw [at_0]; simp
theorem q_r1 : wpIx r.d (.int 1) G Q = Q (.int r.x) G := by
  show (∃ d, L2.atI _ 1 = some d ∧ Q d G) = _
  rw [at_1]; simp
theorem q_r2 : wpIx r.d (.int 2) G Q = Q (.int r.z) G := by
  show (∃ d, L2.atI _ 2 = some d ∧ Q d G) = _
  rw [at_2]; simp
theorem q_rs (R : KI) : seqI r.d G R = R [.int r.t, .int r.x, .int r.z] (fun _ => True) G := rfl
theorem q_rl : wpBi .len [r.d] G Q = Q (.int 3) G := rfl
theorem q_rT : isTy G .tuple r.d k = k true := rfl
theorem q_ru (is : List Nat) (env : Ev) (f : Ev → Prop) : setT (.tup is) r.d env f = (3 = is.length ∧ f (putsE is [.int r.t, .int r.x, .int r.z] env)) := st_tup _ _ _ _
theorem q_r1n : wpSl r.d (some 1) none G Q = Q (.tup [.int r.x, .int r.z]) G := by
  show (¬ _ ∧ Q (.tup (cutD _ _ _)) G) = _
  rw [show cutD [D.int r.t, D.int r.x, D.int r.z] (some 1) none = _ from cut_drop _ 1]
  have : ¬ (HT.sIx 3 0 (some 1) = 0 ∧ HT.sIx 3 3 none = 3) := by decide
  exact propext ⟨fun h => h.2, fun h => ⟨this, h⟩⟩
end
/-- on w wires -/
structure Row.On (w : Nat) (r : Row) : Prop where
  t : r.t < 4
  x : r.x < 2 ^ w
  z : r.z < 2 ^ w
theorem Row.On.mul {w : Nat} {r s : Row} (hr : r.On w) (hs : s.On w) : (r.mul s).On w :=
  ⟨Nat.mod_lt _ (by decide), Nat.xor_lt_two_pow hr.x hs.x, Nat.xor_lt_two_pow hr.z hs.z⟩
theorem pop_xor_l (a b c : Nat) : pop ((a ^^^ b) &&& c) % 2 = (pop (a &&& c) + pop (b &&& c)) % 2 := by
  rw [Nat.and_xor_distrib_right]
  have := pop_xor (a &&& c) (b &&& c); omega
theorem pop_xor_r (a b c : Nat) : pop (c &&& (a ^^^ b)) % 2 = (pop (c &&& a) + pop (c &&& b)) % 2 := by
  rw [Nat.and_comm, pop_xor_l, Nat.and_comm a, Nat.and_comm b]
def Row.one : Row := ⟨0, 0, 0⟩
theorem Row.crosses_comm (r s : Row) : r.crosses s = s.crosses r := by
  unfold Row.crosses
  rw [Nat.and_comm r.x, Nat.and_comm r.z, Nat.add_comm]
theorem Row.mul_assoc (a b c : Row) : (a.mul b).mul c = a.mul (b.mul c) := by
  unfold Row.mul
  have h1 := pop_xor_l a.z b.z c.x
  have h2 := pop_xor_r b.x c.x a.z
  simp only [Row.mk.injEq, Nat.xor_assoc, and_self, and_true]
  omega
theorem Row.mul_t (r s : Row) : (r.mul s).t < 4 := Nat.mod_lt _ (by decide)
theorem Row.mul_one {r : Row} (h : r.t < 4) : r.mul .one = r := by
  cases r; simp only [Row.mul, Row.one, Row.mk.injEq] at *
  simp [pop_zero]; omega
theorem Row.one_mul {r : Row} (h : r.t < 4) : Row.one.mul r = r := by
  cases r; simp only [Row.mul, Row.one, Row.mk.injEq] at *
  simp [pop_zero]; omega
theorem Row.straight_mul {a b : Row} (ha : a.straight = true) (hb : b.straight = true) : (a.mul b).straight = !a.crosses b := by
  unfold Row.straight at *
  unfold Row.crosses Row.mul
  simp only [decide_eq_true_eq] at ha hb
  rw [← decide_not]
  apply decide_eq_decide.mpr
  have h1 := pop_xor_l a.x b.x (a.z ^^^ b.z)
  have h2 := pop_xor_r a.z b.z a.x
  have h3 := pop_xor_r a.z b.z b.x
  rw [Nat.and_comm b.x a.z] at h3
  show ((a.t + b.t + 2 * pop (a.z &&& b.x)) % 4 + pop ((a.x ^^^ b.x) &&& (a.z ^^^ b.z))) % 2 = 0 ↔ _
  omega
theorem Row.mul_self (r : Row) : r.mul r = ⟨if r.straight then 0 else 2, 0, 0⟩ := by
  unfold Row.mul Row.straight
  rw [Nat.and_comm r.z]
  simp only [Nat.xor_self, Row.mk.injEq, and_self, and_true, decide_eq_true_eq]
  split <;> omega
end DL
namespace DL
open PySem
/-! one bit -/
theorem bt_unit {d : Nat} (hd : d < 2) (w i : Nat) : bt (d * 2 ^ w) i = if i = w then d else 0 := by
  rw [bt_shift]
  unfold bt
  by_cases h : w ≤ i
  · rw [if_pos h]
    by_cases e : i = w
    · subst e; simp; omega
    · rw [if_neg e]
      have : d / 2 ^ (i - w) = 0 := by
        apply Nat.div_eq_of_lt
        have : 2 ≤ 2 ^ (i - w) := by
          calc 2 = 2 ^ 1 := rfl
            _ ≤ 2 ^ (i - w) := Nat.pow_le_pow_right (by decide) (by omega)
        omega
      rw [this]
  · rw [if_neg h, if_neg (by omega)]
theorem pop_unit {b : Nat} (hb : b < 2) : ∀ w, pop (b * 2 ^ w) = b
  | 0 => by
    rcases (show b = 0 ∨ b = 1 by omega) with rfl | rfl
    · simp [pop_zero]
    · rw [pop_step]; simp [pop_zero]
  | w + 1 => by
    rw [Nat.pow_succ, Nat.mul_comm (2 ^ w), Nat.mul_left_comm, pop_double]
    exact pop_unit hb w
theorem and_unit {d : Nat} (hd : d < 2) (w x : Nat) : (d * 2 ^ w) &&& x = (d * bt x w) * 2 ^ w := by
  apply bt_eq
  intro i
  have hb := bt_lt x w
  have hdb : d * bt x w < 2 := by
    rcases (show d = 0 ∨ d = 1 by omega) with rfl | rfl <;> omega
  rw [bt_and, bt_unit hd, bt_unit hdb]
  split
  · rename_i e; rw [e]
  · rw [Nat.zero_mul]
theorem pop_flip {d : Nat} (hd : d < 2) (w z x : Nat) : pop ((z ^^^ d * 2 ^ w) &&& x) % 2 = (pop (z &&& x) + d * bt x w) % 2 := by
  have hb := bt_lt x w
  have hdb : d * bt x w < 2 := by
    rcases (show d = 0 ∨ d = 1 by omega) with rfl | rfl <;> omega
  rw [pop_xor_l, and_unit hd, pop_unit hdb]
theorem pop_flip' {d : Nat} (hd : d < 2) (w z x : Nat) : pop (z &&& (x ^^^ d * 2 ^ w)) % 2 = (pop (z &&& x) + d * bt z w) % 2 := by
  rw [Nat.and_comm, pop_flip hd, Nat.and_comm]
theorem bt_flip {d : Nat} (hd : d < 2) (n w i : Nat) : bt (n ^^^ d * 2 ^ w) i = (bt n i + if i = w then d else 0) % 2 := by rw [bt_xor, bt_unit hd]
theorem unit_small {d w k : Nat} (hd : d < 2) (hw : w < k) : d * 2 ^ w < 2 ^ k := by
  have : 2 ^ w < 2 ^ k := Nat.pow_lt_pow_right (by decide) hw
  have h0 : 0 < 2 ^ w := Nat.pow_pos (by decide)
  rcases (show d = 0 ∨ d = 1 by omega) with rfl | rfl <;> omega
theorem flip_small {n d w k : Nat} (hn : n < 2 ^ k) (hd : d < 2) (hw : w < k) : n ^^^ d * 2 ^ w < 2 ^ k := Nat.xor_lt_two_pow hn (unit_small hd hw)
/-! moves -/
inductive N1 where | mix | quarter | back | flip | sign
  deriving DecidableEq
inductive N2 where | join | both | swap
  deriving DecidableEq
def N1.s : N1 → Str
  | .mix => "mix" | .quarter => "quarter" | .back => "back" | .flip => "flip" | .sign => "sign"
def N2.s : N2 → Str
  | .join => "join" | .both => "both" | .swap => "swap"
inductive Mv where
  | one (n : N1) (w : Nat)
  | two (n : N2) (a b : Nat)
  deriving DecidableEq
def Mv.d : Mv → D
  | .one n w => .tup [.str n.s, .int (w : Int)]
  | .two n a b => .tup [.str n.s, .int (a : Int), .int (b : Int)]
/-- a move's wires -/
def Mv.pl : Mv → List Int
  | .one _ w => [(w : Int)]
  | .two _ a b => [(a : Int), (b : Int)]
section
variable (G : Gp) (Q : K1) (k : Bool → Prop) (m : Mv)
theorem q_mT : isTy G .tuple m.d k = k true := by cases m <;> rfl
theorem q_m1n : wpSl m.d (some 1) none G Q = Q (.tup (m.pl.map D.int)) G := by
  cases m with
  | one n w => exact un_slT [_, _] 1 (by decide) (Nat.succ_pos _) G Q
  | two n a b => exact un_slT [_, _, _] 1 (by decide) (Nat.succ_pos _) G Q
end
def Mv.On (w : Nat) : Mv → Prop
  | .one _ a => a < w
  | .two _ a b => a < w ∧ b < w ∧ a ≠ b
/-- what a move of one wire does to turn and marks, by the marks there -/
def N1.e : N1 → Nat → Nat → Nat × Nat × Nat
  | .mix, x, z => (2 * x * z, (x + z) % 2, (x + z) % 2)
  | .quarter, x, _ => (x, 0, x)
  | .back, x, _ => (3 * x, 0, x)
  | .flip, _, z => (2 * z, 0, 0)
  | .sign, x, _ => (2 * x, 0, 0)
def N2.e : N2 → Nat → Nat → Nat → Nat → Nat × Nat × Nat × Nat × Nat
  | .join, x, _, _, v => (0, 0, x, v, 0)
  | .both, x, _, u, _ => (2 * x * u, 0, 0, u, x)
  | .swap, x, z, u, v => (0, (x + u) % 2, (x + u) % 2, (z + v) % 2, (z + v) % 2)
def Row.moved (r : Row) : Mv → Row
  | .one n w => let e := n.e (bt r.x w) (bt r.z w); ⟨(r.t + e.1) % 4, r.x ^^^ e.2.1 * 2 ^ w, r.z ^^^ e.2.2 * 2 ^ w⟩
  | .two n a b => let e := n.e (bt r.x a) (bt r.z a) (bt r.x b) (bt r.z b)
    ⟨(r.t + e.1) % 4, (r.x ^^^ e.2.1 * 2 ^ a) ^^^ e.2.2.1 * 2 ^ b, (r.z ^^^ e.2.2.2.1 * 2 ^ a) ^^^ e.2.2.2.2 * 2 ^ b⟩
theorem N1.e_lt (n : N1) {x z : Nat} (hx : x < 2) (hz : z < 2) : (n.e x z).2.1 < 2 ∧ (n.e x z).2.2 < 2 := by
  cases n <;> simp only [N1.e] <;> omega
theorem N2.e_lt (n : N2) {x z u v : Nat} (hx : x < 2) (hz : z < 2) (hu : u < 2) (hv : v < 2) : (n.e x z u v).2.1 < 2 ∧ (n.e x z u v).2.2.1 < 2 ∧ (n.e x z u v).2.2.2.1 < 2 ∧ (n.e x z u v).2.2.2.2 < 2 := by
  cases n <;> simp only [N2.e] <;> omega
theorem Row.On.moved {w : Nat} {r : Row} (h : r.On w) {m : Mv} (hm : m.On w) : (r.moved m).On w := by
  cases m with
  | one n a =>
    have e := n.e_lt (bt_lt r.x a) (bt_lt r.z a)
    exact ⟨Nat.mod_lt _ (by decide), flip_small h.x e.1 hm, flip_small h.z e.2 hm⟩
  | two n a b =>
    have e := n.e_lt (bt_lt r.x a) (bt_lt r.z a) (bt_lt r.x b) (bt_lt r.z b)
    exact ⟨Nat.mod_lt _ (by decide), flip_small (flip_small h.x e.1 hm.1) e.2.1 hm.2.1, flip_small (flip_small h.z e.2.2.1 hm.1) e.2.2.2 hm.2.1⟩
theorem bit2 {x : Nat} (h : x < 2) : x = 0 ∨ x = 1 := by omega
theorem fb1 (n : N1) {x z x' z' : Nat} (hx : x < 2) (hz : z < 2) (hx' : x' < 2) (hz' : z' < 2) :
    (n.e ((x + x') % 2) ((z + z') % 2)).2.1 = ((n.e x z).2.1 + (n.e x' z').2.1) % 2 ∧ (n.e ((x + x') % 2) ((z + z') % 2)).2.2 = ((n.e x z).2.2 + (n.e x' z').2.2) % 2 ∧
    ((n.e ((x + x') % 2) ((z + z') % 2)).1) % 4 = ((n.e x z).1 + (n.e x' z').1 + 2 * ((n.e x z).2.2 * x' + z * (n.e x' z').2.1 + (n.e x z).2.2 * (n.e x' z').2.1)) % 4 := by
  rcases bit2 hx with rfl | rfl <;> rcases bit2 hz with rfl | rfl <;> rcases bit2 hx' with rfl | rfl <;> rcases bit2 hz' with rfl | rfl <;> cases n <;> decide
theorem fb2 (n : N2) {x z u v x' z' u' v' : Nat} (hx : x < 2) (hz : z < 2) (hu : u < 2) (hv : v < 2) (hx' : x' < 2) (hz' : z' < 2) (hu' : u' < 2) (hv' : v' < 2) :
    let e := n.e x z u v; let e' := n.e x' z' u' v'; let f := n.e ((x + x') % 2) ((z + z') % 2) ((u + u') % 2) ((v + v') % 2)
    f.2.1 = (e.2.1 + e'.2.1) % 2 ∧ f.2.2.1 = (e.2.2.1 + e'.2.2.1) % 2 ∧ f.2.2.2.1 = (e.2.2.2.1 + e'.2.2.2.1) % 2 ∧ f.2.2.2.2 = (e.2.2.2.2 + e'.2.2.2.2) % 2 ∧
    f.1 % 4 = (e.1 + e'.1 + 2 * (e.2.2.2.1 * x' + e.2.2.2.2 * u' + (z * e'.2.1 + e.2.2.2.1 * e'.2.1) + (v * e'.2.2.1 + e.2.2.2.2 * e'.2.2.1))) % 4 := by
  have key : ∀ n : N2, ∀ x z u v x' z' u' v' : Fin 2, let e := n.e x z u v; let e' := n.e x' z' u' v'; let f := n.e ((x.val + x'.val) % 2) ((z.val + z'.val) % 2) ((u.val + u'.val) % 2) ((v.val + v'.val) % 2)
      f.2.1 = (e.2.1 + e'.2.1) % 2 ∧ f.2.2.1 = (e.2.2.1 + e'.2.2.1) % 2 ∧ f.2.2.2.1 = (e.2.2.2.1 + e'.2.2.2.1) % 2 ∧ f.2.2.2.2 = (e.2.2.2.2 + e'.2.2.2.2) % 2 ∧
      f.1 % 4 = (e.1 + e'.1 + 2 * (e.2.2.2.1 * x'.val + e.2.2.2.2 * u'.val + (z.val * e'.2.1 + e.2.2.2.1 * e'.2.1) + (v.val * e'.2.2.1 + e.2.2.2.2 * e'.2.2.1))) % 4 := by
    intro n; cases n <;> decide +kernel
  exact key n ⟨x, hx⟩ ⟨z, hz⟩ ⟨u, hu⟩ ⟨v, hv⟩ ⟨x', hx'⟩ ⟨z', hz'⟩ ⟨u', hu'⟩ ⟨v', hv'⟩
theorem unit_add {d e : Nat} (hd : d < 2) (he : e < 2) (w : Nat) : (d + e) % 2 * 2 ^ w = d * 2 ^ w ^^^ e * 2 ^ w := by
  rcases bit2 hd with rfl | rfl <;> rcases bit2 he with rfl | rfl <;> simp
theorem xor4 (a b c d : Nat) : (a ^^^ b) ^^^ (c ^^^ d) = (a ^^^ c) ^^^ (b ^^^ d) := by
  apply Nat.eq_of_testBit_eq; intro i
  simp only [Nat.testBit_xor]
  cases a.testBit i <;> cases b.testBit i <;> cases c.testBit i <;> cases d.testBit i <;> rfl
theorem xor6 (p q a b c d : Nat) : ((p ^^^ q) ^^^ (a ^^^ b)) ^^^ (c ^^^ d) = ((p ^^^ a) ^^^ c) ^^^ ((q ^^^ b) ^^^ d) := by
  rw [xor4 p q a b, xor4]
/-- a move keeps products -/
theorem Row.mul_moved (r s : Row) (m : Mv) (hm : ∀ n a b, m = .two n a b → a ≠ b) : (r.mul s).moved m = (r.moved m).mul (s.moved m) := by
  cases m with
  | one n w =>
    have h := fb1 n (bt_lt r.x w) (bt_lt r.z w) (bt_lt s.x w) (bt_lt s.z w)
    have e := n.e_lt (bt_lt r.x w) (bt_lt r.z w)
    have e' := n.e_lt (bt_lt s.x w) (bt_lt s.z w)
    have p1 := pop_flip e.2 w r.z (s.x ^^^ (n.e (bt s.x w) (bt s.z w)).2.1 * 2 ^ w)
    have p2 := pop_flip' e'.1 w r.z s.x
    rw [bt_flip e'.1, if_pos rfl] at p1
    simp only [Row.moved, Row.mul, Row.mk.injEq, bt_xor]
    obtain ⟨h1, h2, h3⟩ := h
    refine ⟨?_, ?_, ?_⟩
    · have m1 : (n.e (bt r.x w) (bt r.z w)).2.2 * ((bt s.x w + (n.e (bt s.x w) (bt s.z w)).2.1) % 2) % 2 = ((n.e (bt r.x w) (bt r.z w)).2.2 * bt s.x w + (n.e (bt r.x w) (bt r.z w)).2.2 * (n.e (bt s.x w) (bt s.z w)).2.1) % 2 := by
        rw [← Nat.mul_add, Nat.mul_mod, Nat.mod_mod, ← Nat.mul_mod]
      have m2 : (n.e (bt s.x w) (bt s.z w)).2.1 * bt r.z w = bt r.z w * (n.e (bt s.x w) (bt s.z w)).2.1 := Nat.mul_comm _ _
      omega
    · rw [h1, unit_add e.1 e'.1, xor4]
    · rw [h2, unit_add e.2 e'.2, xor4]
  | two n a b =>
    have hab : a ≠ b := hm n a b rfl
    have h := fb2 n (bt_lt r.x a) (bt_lt r.z a) (bt_lt r.x b) (bt_lt r.z b) (bt_lt s.x a) (bt_lt s.z a) (bt_lt s.x b) (bt_lt s.z b)
    have e := n.e_lt (bt_lt r.x a) (bt_lt r.z a) (bt_lt r.x b) (bt_lt r.z b)
    have e' := n.e_lt (bt_lt s.x a) (bt_lt s.z a) (bt_lt s.x b) (bt_lt s.z b)
    simp only [Row.moved, Row.mul, Row.mk.injEq, bt_xor]
    simp only at h
    revert h e e'
    generalize n.e (bt r.x a) (bt r.z a) (bt r.x b) (bt r.z b) = E
    generalize n.e (bt s.x a) (bt s.z a) (bt s.x b) (bt s.z b) = F
    generalize n.e ((bt r.x a + bt s.x a) % 2) ((bt r.z a + bt s.z a) % 2) ((bt r.x b + bt s.x b) % 2) ((bt r.z b + bt s.z b) % 2) = C
    obtain ⟨E1, E2, E3, E4, E5⟩ := E
    obtain ⟨F1, F2, F3, F4, F5⟩ := F
    obtain ⟨C1, C2, C3, C4, C5⟩ := C
    simp only
    rintro ⟨h1, h2, h3, h4, h5⟩ ⟨e1, e2, e3, e4⟩ ⟨f1, f2, f3, f4⟩
    refine ⟨?_, ?_, ?_⟩
    · have p1 := pop_flip e4 b (r.z ^^^ E4 * 2 ^ a) ((s.x ^^^ F2 * 2 ^ a) ^^^ F3 * 2 ^ b)
      have p2 := pop_flip e3 a r.z ((s.x ^^^ F2 * 2 ^ a) ^^^ F3 * 2 ^ b)
      have p3 := pop_flip' f2 b r.z (s.x ^^^ F2 * 2 ^ a)
      have p4 := pop_flip' f1 a r.z s.x
      rw [bt_flip f2, bt_flip f1, if_pos rfl, if_neg (Ne.symm hab)] at p1
      rw [bt_flip f2, bt_flip f1, if_pos rfl, if_neg hab] at p2
      have x1 := bt_lt s.x a; have x2 := bt_lt s.x b; have x3 := bt_lt r.z a; have x4 := bt_lt r.z b
      generalize bt s.x a = q1 at *
      generalize bt s.x b = q2 at *
      generalize bt r.z a = q3 at *
      generalize bt r.z b = q4 at *
      rcases bit2 e3 with rfl | rfl <;> rcases bit2 e4 with rfl | rfl <;> rcases bit2 f1 with rfl | rfl <;> rcases bit2 f2 with rfl | rfl <;> simp only [Nat.zero_mul, Nat.one_mul, Nat.mul_zero, Nat.mul_one, Nat.add_zero, Nat.zero_add] at * <;> omega
    · rw [h1, h2, unit_add e1 f1, unit_add e2 f2, xor6]
    · rw [h3, h4, unit_add e3 f3, unit_add e4 f4, xor6]
theorem bt_zero (w : Nat) : bt 0 w = 0 := by unfold bt; simp
theorem Row.plain_moved (t : Nat) (ht : t < 4) (m : Mv) : (Row.mk t 0 0).moved m = ⟨t, 0, 0⟩ := by
  cases m with
  | one n w => cases n <;> simp [Row.moved, N1.e, bt_zero] <;> omega
  | two n a b => cases n <;> simp [Row.moved, N2.e, bt_zero] <;> omega
def Mv.Ok (m : Mv) : Prop := ∀ n a b, m = .two n a b → a ≠ b
theorem Mv.On.ok {w : Nat} {m : Mv} (h : m.On w) : m.Ok := fun n a b e => by subst e; exact h.2.2
theorem Row.moved_t (r : Row) (m : Mv) : (r.moved m).t < 4 := by cases m <;> exact Nat.mod_lt _ (by decide)
theorem Row.straight_self (r : Row) : r.straight = decide (r.mul r = .one) := by
  rw [Row.mul_self]
  unfold Row.one
  cases r.straight <;> simp
theorem Row.straight_moved (r : Row) {m : Mv} (hm : m.Ok) : (r.moved m).straight = r.straight := by
  rw [Row.straight_self, ← Row.mul_moved _ _ _ hm, Row.mul_self]
  have h0 := Row.plain_moved 0 (by decide) m
  have h2 := Row.plain_moved 2 (by decide) m
  cases r.straight
  · rw [if_neg Bool.false_ne_true, h2]; rfl
  · rw [if_pos rfl, h0]; rfl
/-- crossing is told by the products in both orders -/
theorem Row.crosses_prod (r s : Row) : r.crosses s = decide ((r.mul s).t ≠ (s.mul r).t) := by
  unfold Row.crosses Row.mul
  apply decide_eq_decide.mpr
  rw [Nat.and_comm s.z r.x]
  show _ ↔ ¬ ((r.t + s.t + 2 * pop (r.z &&& s.x)) % 4 = (s.t + r.t + 2 * pop (r.x &&& s.z)) % 4)
  omega
theorem Row.moved_t_eq (r : Row) (m : Mv) : ∃ k, ∀ t, (Row.moved ⟨t, r.x, r.z⟩ m).t = (t + k) % 4 := by
  cases m with
  | one n w => exact ⟨(n.e (bt r.x w) (bt r.z w)).1, fun t => rfl⟩
  | two n a b => exact ⟨(n.e (bt r.x a) (bt r.z a) (bt r.x b) (bt r.z b)).1, fun t => rfl⟩
theorem Row.crosses_moved (r s : Row) {m : Mv} (hm : m.Ok) : (r.moved m).crosses (s.moved m) = r.crosses s := by
  rw [Row.crosses_prod, Row.crosses_prod, ← Row.mul_moved _ _ _ hm, ← Row.mul_moved _ _ _ hm]
  apply decide_eq_decide.mpr
  obtain ⟨k, hk⟩ := Row.moved_t_eq (r.mul s) m
  have h1 := hk (r.mul s).t
  have h2 := hk (s.mul r).t
  have e : (Row.mk (s.mul r).t (r.mul s).x (r.mul s).z) = s.mul r := by
    unfold Row.mul; simp only [Nat.xor_comm]
  rw [e] at h2
  have e1 : (Row.mk (r.mul s).t (r.mul s).x (r.mul s).z) = r.mul s := rfl
  rw [e1] at h1
  rw [h1, h2]
  have t1 := Row.mul_t r s
  have t2 := Row.mul_t s r
  omega
/-! undoing -/
def Mv.undo : Mv → Mv
  | .one .quarter w => .one .back w
  | .one .back w => .one .quarter w
  | m => m
theorem xor_xor (a b : Nat) : (a ^^^ b) ^^^ b = a := by rw [Nat.xor_assoc, Nat.xor_self, Nat.xor_zero]
theorem Mv.undo_on {w : Nat} {m : Mv} (h : m.On w) : m.undo.On w := by
  cases m with
  | one n a => cases n <;> exact h
  | two n a b => exact h
theorem Row.moved_undo {r : Row} (ht : r.t < 4) {m : Mv} (hm : m.Ok) : (r.moved m).moved m.undo = r := by
  obtain ⟨t, x, z⟩ := r
  cases m with
  | one n w =>
    have hx := bt_lt x w; have hz := bt_lt z w
    cases n <;> simp only [Mv.undo, Row.moved, N1.e, Row.mk.injEq, Nat.zero_mul, Nat.xor_zero, and_true, true_and] at * 
    · have hs : (bt x w + bt z w) % 2 < 2 := by omega
      rw [bt_flip hs, bt_flip hs, if_pos rfl]
      have e : ((bt x w + (bt x w + bt z w) % 2) % 2 + (bt z w + (bt x w + bt z w) % 2) % 2) % 2 = (bt x w + bt z w) % 2 := by omega
      rw [e]
      refine ⟨?_, xor_xor _ _, xor_xor _ _⟩
      rcases bit2 hx with h | h <;> rcases bit2 hz with h' | h' <;> rw [h, h'] <;> simp <;> omega
    · refine ⟨by omega, xor_xor _ _⟩
    · refine ⟨by omega, xor_xor _ _⟩
    · omega
    · omega
  | two n a b =>
    have hab : a ≠ b := hm n a b rfl
    have hx := bt_lt x a; have hz := bt_lt z a; have hu := bt_lt x b; have hv := bt_lt z b
    have swp : ∀ p q r : Nat, ((p ^^^ q ^^^ r) ^^^ q) ^^^ r = p := fun p q r => by
      rw [Nat.xor_assoc p q r, Nat.xor_assoc p, Nat.xor_assoc p, Nat.xor_assoc (q ^^^ r), Nat.xor_self, Nat.xor_zero]
    cases n <;> simp only [Mv.undo, Row.moved, N2.e, Row.mk.injEq, Nat.zero_mul, Nat.xor_zero, and_true, true_and] at * 
    · rw [bt_flip hx, if_neg hab, bt_flip hv, if_neg (Ne.symm hab)]
      simp only [Nat.add_zero, Nat.mod_eq_of_lt hx, Nat.mod_eq_of_lt hv]
      exact ⟨by omega, xor_xor _ _, xor_xor _ _⟩
    · refine ⟨?_, swp _ _ _⟩
      rcases bit2 hx with h | h <;> rcases bit2 hu with h' | h' <;> rw [h, h'] <;> simp <;> omega
    · have hs : (bt x a + bt x b) % 2 < 2 := by omega
      have ht' : (bt z a + bt z b) % 2 < 2 := by omega
      rw [bt_flip hs, bt_flip hs, bt_flip hs, bt_flip hs, bt_flip ht', bt_flip ht', bt_flip ht', bt_flip ht', if_pos rfl, if_pos rfl, if_neg hab, if_neg (Ne.symm hab)]
      simp only [if_true, if_neg hab, if_neg (Ne.symm hab)]
      have e : ((((bt x a + (bt x a + bt x b) % 2) % 2 + 0) % 2) + (((bt x b + 0) % 2 + (bt x a + bt x b) % 2) % 2)) % 2 = (bt x a + bt x b) % 2 := by omega
      have e' : ((((bt z a + (bt z a + bt z b) % 2) % 2 + 0) % 2) + (((bt z b + 0) % 2 + (bt z a + bt z b) % 2) % 2)) % 2 = (bt z a + bt z b) % 2 := by omega
      rw [e, e']
      exact ⟨by omega, swp _ _ _, swp _ _ _⟩
/-! a row behind one move and the next ones -/
theorem fold_on {w : Nat} : ∀ (ms : List Mv) (r : Row), r.On w → (∀ m ∈ ms, m.On w) → (ms.foldl Row.moved r).On w
  | [], r, h, _ => h
  | a :: ms, r, h, hm => fold_on ms _ (h.moved (hm a (List.mem_cons_self ..))) fun m q => hm m (List.mem_cons_of_mem _ q)
/-! parity by folding -/
theorem bAnd_one (n : Nat) : Builtin.bitAnd (n : Int) 1 = ((n % 2 : Nat) : Int) := by
  rw [show (1 : Int) = ((1 : Nat) : Int) from rfl, bAnd_nat, Nat.and_one_is_mod]
/-! putting one bit -/
theorem flip_eq : ∀ (w n : Nat), (n ^^^ 2 ^ w) + bt n w * 2 ^ w = n + (1 - bt n w) * 2 ^ w
  | 0, n => by
    have h := xor_dbl (n / 2) 0 (n % 2) 1 (Nat.mod_lt _ (by decide)) (by decide)
    rw [← split2, Nat.xor_zero] at h
    have b : bt n 0 = n % 2 := by unfold bt; simp
    rw [b, Nat.pow_zero]
    have h : n ^^^ 1 = 2 * (n / 2) + (n % 2 + 1) % 2 := h
    omega
  | w + 1, n => by
    have ih := flip_eq w (n / 2)
    have h := xor_dbl (n / 2) (2 ^ w) (n % 2) 0 (Nat.mod_lt _ (by decide)) (by decide)
    rw [← split2, Nat.add_zero, Nat.add_zero, Nat.mod_mod, ← Nat.pow_succ'] at h
    have b : bt n (w + 1) = bt (n / 2) w := by unfold bt; rw [Nat.div_div_eq_div_mul, ← Nat.pow_succ']
    rw [h, b]
    have hb := bt_lt (n / 2) w
    rcases bit2 hb with e | e <;> rw [e] at ih ⊢ <;> simp only [Nat.zero_mul, Nat.one_mul, Nat.sub_zero, Nat.sub_self, Nat.add_zero, Nat.pow_succ] at ih ⊢ <;> omega
def put (n w v : Nat) : Nat := n ^^^ ((bt n w + v) % 2) * 2 ^ w
theorem bit_and (n w : Nat) : Builtin.bitAnd ((n : Int) / 2 ^ w) 1 = (bt n w : Int) := by
  rw [shr_nat, bAnd_one]; rfl
end DL
namespace DL
open PySem
/-! numbers a + b i, vectors -/
structure Cx where
  a : Int
  b : Int
  deriving DecidableEq
def Cx.d (c : Cx) : D := .tup [.int c.a, .int c.b]
def Cx.zero : Cx := ⟨0, 0⟩
def Cx.add (c e : Cx) : Cx := ⟨c.a + e.a, c.b + e.b⟩
def Cx.sub (c e : Cx) : Cx := ⟨c.a - e.a, c.b - e.b⟩
def Cx.mul (c e : Cx) : Cx := ⟨c.a * e.a - c.b * e.b, c.a * e.b + c.b * e.a⟩
def Cx.norm (c : Cx) : Int := c.a * c.a + c.b * c.b
/-- times i -/
def Cx.im (c : Cx) : Cx := ⟨-c.b, c.a⟩
def Cx.spin (c : Cx) : Nat → Cx
  | 0 => c
  | n + 1 => (c.spin n).im
theorem Cx.im4 (c : Cx) : c.im.im.im.im = c := by cases c; simp [Cx.im]
section
variable (G : Gp) (Q : K1) (k : Bool → Prop) (c e : Cx) (a b : Int)
theorem q_c0 : wpIx c.d (.int 0) G Q = Q (.int c.a) G := by
  show (∃ d, L2.atI _ 0 = some d ∧ Q d G) = _
  rw [at_0]; simp
theorem q_c1 : wpIx c.d (.int 1) G Q = Q (.int c.b) G := by
  show (∃ d, L2.atI _ 1 = some d ∧ Q d G) = _
  rw [at_1]; simp
theorem q_cT : isTy G .tuple c.d k = k true := rfl
theorem q_cl : wpBi .len [c.d] G Q = Q (.int 2) G := rfl
theorem q_cu (is : List Nat) (env : Ev) (f : Ev → Prop) : setT (.tup is) c.d env f = (2 = is.length ∧ f (putsE is [.int c.a, .int c.b] env)) := st_tup _ _ _ _
theorem q_cc : wpCmp .Eq c.d e.d G k = k (decide (c = e)) := by
  have := q_eq2 G c.a c.b e.a e.b k
  rw [show decide (c.a = e.a ∧ c.b = e.b) = decide (c = e) from decide_eq_decide.mpr (by cases c; cases e; simp)] at this
  exact this
theorem q_ncc : wpCmp .NotEq c.d e.d G k = k (!decide (c = e)) := q_cc G (fun b => k (!b)) c e
end
/-- a vector: as many numbers -/
def vl (n : Nat) (f : Nat → Cx) : List D := (List.range n).map fun k => (f k).d
/-! comparing what is alike -/
theorem pds_map {α : Type} {G : Gp} {f : α → D} {g : α → PyData} (h : ∀ a, Pd G (f a) (g a)) : ∀ l : List α, Pds G (l.map f) (l.map g)
  | [] => .nil
  | a :: l => .cons (h a) (pds_map h l)
theorem lay_map {α : Type} {g : α → PyData} (h : ∀ a, PyData.canLay0 (g a) = true) : ∀ l : List α, PyData.canLayAll0 (l.map g) = true
  | [] => by simp [PyData.canLayAll0]
  | a :: l => by simp [PyData.canLayAll0, h a, lay_map h l]
theorem depth_map {α : Type} {g : α → PyData} {n : Nat} (h : ∀ a, (g a).depth ≤ n) : ∀ l : List α, PyData.depthAll (l.map g) ≤ n
  | [] => by simp [PyData.depthAll]
  | a :: l => by
    have := depth_map h l
    have := h a
    simp [PyData.depthAll]; omega
theorem eq_refs {G : Gp} {p q : Addr} {xs : List D} {ds : List PyData} (hp : G p = some (.lst xs)) (hq : G q = some (.lst xs)) (h : Pds G xs ds) (hl : PyData.canLayAll0 ds = true) (hd : PyData.depthAll ds ≤ 60) (k : Bool → Prop) (q' : k true) : wpCmp .Eq (.ref p) (.ref q) G k := by
  refine ⟨.list ds, .list ds, .lst hp h, .lst hq h, ?_, ?_, ?_⟩
  · unfold SeqAt.shaped; simp [PyData.canLay0, hl, PyData.depth]; omega
  · unfold SeqAt.shaped; simp [PyData.canLay0, hl, PyData.depth]; omega
  · rw [SeqAt.eqv_refl (.list ds) (by simpa [PyData.canLay0] using hl)]; exact q'
def Cx.pd (c : Cx) : PyData := .tuple [.int c.a, .int c.b]
/-! sizes -/
def Cx.Bd (e : Nat) (c : Cx) : Prop := c.a.natAbs < 2 ^ e ∧ c.b.natAbs < 2 ^ e
theorem pow_le {e e' : Nat} (h : e ≤ e') : 2 ^ e ≤ 2 ^ e' := Nat.pow_le_pow_right (by decide) h
theorem Cx.Bd.mono {e e' : Nat} {c : Cx} (h : c.Bd e) (l : e ≤ e') : c.Bd e' := ⟨Nat.lt_of_lt_of_le h.1 (pow_le l), Nat.lt_of_lt_of_le h.2 (pow_le l)⟩
theorem Cx.Bd.add {e : Nat} {c d : Cx} (h : c.Bd e) (k : d.Bd e) : (c.add d).Bd (e + 1) := by
  obtain ⟨a, b⟩ := h
  obtain ⟨a', b'⟩ := k
  simp only [Cx.Bd, Cx.add]
  rw [Nat.pow_succ]
  constructor <;> omega
theorem Cx.Bd.sub {e : Nat} {c d : Cx} (h : c.Bd e) (k : d.Bd e) : (c.sub d).Bd (e + 1) := by
  obtain ⟨a, b⟩ := h
  obtain ⟨a', b'⟩ := k
  simp only [Cx.Bd, Cx.sub]
  rw [Nat.pow_succ]
  constructor <;> omega
theorem Cx.Bd.im {e : Nat} {c : Cx} (h : c.Bd e) : c.im.Bd e := by
  obtain ⟨a, b⟩ := h
  simp only [Cx.Bd, Cx.im]
  constructor <;> omega
theorem Cx.Bd.spin {e : Nat} {c : Cx} (h : c.Bd e) : ∀ n, (c.spin n).Bd e
  | 0 => h
  | n + 1 => (Cx.Bd.spin h n).im
theorem bd_mul {i j : Int} {e f : Nat} (h : i.natAbs < 2 ^ e) (k : j.natAbs < 2 ^ f) : (i * j).natAbs < 2 ^ (e + f) := by
  rw [Int.natAbs_mul, Nat.pow_add]
  exact Nat.mul_lt_mul'' h k
theorem Cx.Bd.mul {e f : Nat} {c d : Cx} (h : c.Bd e) (k : d.Bd f) : (c.mul d).Bd (e + f + 1) := by
  obtain ⟨a, b⟩ := h
  obtain ⟨a', b'⟩ := k
  have h1 := bd_mul a a'
  have h2 := bd_mul b b'
  have h3 := bd_mul a b'
  have h4 := bd_mul b a'
  simp only [Cx.Bd, Cx.mul]
  rw [Nat.pow_succ]
  constructor <;> omega
/-! spinning -/
theorem Cx.spin_add (c : Cx) (m : Nat) : ∀ n, c.spin (m + n) = (c.spin m).spin n
  | 0 => rfl
  | n + 1 => congrArg Cx.im (Cx.spin_add c m n)
theorem Cx.spin4 (c : Cx) (n : Nat) : c.spin (n + 4) = c.spin n := by
  rw [Cx.spin_add]; exact Cx.im4 _
theorem Cx.spin_mul4 (c : Cx) (n : Nat) : ∀ k, c.spin (n + 4 * k) = c.spin n
  | 0 => rfl
  | k + 1 => by rw [Nat.mul_add, ← Nat.add_assoc, Cx.spin4, Cx.spin_mul4]
theorem Cx.spin_mod (c : Cx) (n : Nat) : c.spin (n % 4) = c.spin n := by
  conv => rhs; rw [show n = n % 4 + 4 * (n / 4) by omega]
  rw [Cx.spin_mul4]
theorem Cx.spin_eq (c : Cx) {m n : Nat} (h : m % 4 = n % 4) : c.spin m = c.spin n := by rw [← Cx.spin_mod, h, Cx.spin_mod]
/-- a vector struck by a row -/
def stk (f : Nat → Cx) (r : Row) : Nat → Cx := fun k => (f (k ^^^ r.x)).spin (r.t + 2 * pop (r.z &&& (k ^^^ r.x)))
theorem stk_mul (f : Nat → Cx) (r s : Row) : stk (stk f r) s = stk f (s.mul r) := by
  funext k
  unfold stk Row.mul
  simp only
  rw [← Nat.xor_assoc, ← Cx.spin_add]
  apply Cx.spin_eq
  have h1 := pop_xor_l s.z r.z (k ^^^ s.x ^^^ r.x)
  have h2 := pop_xor_r (k ^^^ s.x) r.x s.z
  omega
theorem stk_one (f : Nat → Cx) : stk f .one = f := by
  funext k
  simp [stk, Row.one, pop_zero, Cx.spin]
/-! sums of norms, and how two vectors lie to one another -/
def nf (f : Nat → Cx) : Nat → Int
  | 0 => 0
  | n + 1 => nf f n + (f n).norm
def mm (f g : Nat → Cx) (u v : Cx) : Nat → Int
  | 0 => 0
  | n + 1 => mm f g u v n + (((f n).mul v).sub (u.mul (g n))).norm
theorem sq_nn (a : Int) : 0 ≤ a * a := by
  rcases Int.le_total 0 a with h | h
  · exact Int.mul_nonneg h h
  · exact Int.mul_nonneg_of_nonpos_of_nonpos h h
theorem Cx.norm_nn (c : Cx) : 0 ≤ c.norm := Int.add_nonneg (sq_nn _) (sq_nn _)
theorem sq_zero {a : Int} (h : a * a = 0) : a = 0 := by
  rcases Int.mul_eq_zero.mp h with h | h <;> exact h
theorem Cx.norm_zero {c : Cx} (h : c.norm = 0) : c = .zero := by
  have h1 := sq_nn c.a
  have h2 := sq_nn c.b
  unfold Cx.norm at h
  have e1 := sq_zero (a := c.a) (by omega)
  have e2 := sq_zero (a := c.b) (by omega)
  cases c; simp only [Cx.zero] at *; rw [e1, e2]
theorem nf_nn (f : Nat → Cx) : ∀ n, 0 ≤ nf f n
  | 0 => Int.le_refl 0
  | n + 1 => Int.add_nonneg (nf_nn f n) (Cx.norm_nn _)
theorem nf_zero (f : Nat → Cx) : ∀ n, nf f n = 0 ↔ ∀ k, k < n → f k = .zero
  | 0 => ⟨fun _ k h => absurd h (Nat.not_lt_zero k), fun _ => rfl⟩
  | n + 1 => by
    have h1 := nf_nn f n
    have h2 := (f n).norm_nn
    have ih := nf_zero f n
    constructor
    · intro h
      have h : nf f n + (f n).norm = 0 := h
      intro k hk
      rcases Nat.lt_succ_iff_lt_or_eq.mp hk with hk | rfl
      · exact ih.mp (by omega) k hk
      · exact Cx.norm_zero (by omega)
    · intro h
      show nf f n + (f n).norm = 0
      rw [ih.mpr fun k hk => h k (by omega), h n (by omega)]; rfl
theorem Cx.sub_zero {c e : Cx} : c.sub e = .zero ↔ c = e := by
  cases c; cases e; simp only [Cx.sub, Cx.zero, Cx.mk.injEq]; omega
theorem Cx.mul_zero_or {c e : Cx} (h : c.mul e = .zero) : c = .zero ∨ e = .zero := by
  have hn : c.norm * e.norm = (c.mul e).norm := by simp only [Cx.norm, Cx.mul]; grind
  rw [h] at hn
  have hn : c.norm * e.norm = 0 := hn
  rcases Int.mul_eq_zero.mp hn with h | h
  · exact .inl (Cx.norm_zero h)
  · exact .inr (Cx.norm_zero h)
theorem Cx.mul_comm (c e : Cx) : c.mul e = e.mul c := by
  simp only [Cx.mul, Cx.mk.injEq]; constructor <;> grind
theorem Cx.mul_z (c : Cx) : c.mul .zero = .zero := by simp [Cx.mul, Cx.zero]
theorem Cx.z_mul (c : Cx) : Cx.zero.mul c = .zero := by simp [Cx.mul, Cx.zero]
theorem Cx.cancel {c e u : Cx} (hu : u ≠ .zero) (h : u.mul c = u.mul e) : c = e := by
  have : u.mul (c.sub e) = .zero := by
    simp only [Cx.mul, Cx.sub, Cx.zero, Cx.mk.injEq] at h ⊢
    obtain ⟨h1, h2⟩ := h
    constructor <;> grind
  rcases Cx.mul_zero_or this with h | h
  · exact absurd h hu
  · exact Cx.sub_zero.mp h
/-- a is the first place of f that is not nought, or n -/
def First (f : Nat → Cx) (n a : Nat) : Prop := a ≤ n ∧ (∀ k, k < a → f k = .zero) ∧ (a < n → f a ≠ .zero)
theorem First.uniq {f : Nat → Cx} {n a b : Nat} (h : First f n a) (k : First f n b) : a = b := by
  obtain ⟨h1, h2, h3⟩ := h
  obtain ⟨k1, k2, k3⟩ := k
  rcases Nat.lt_trichotomy a b with l | l | l
  · exact absurd (k2 a l) (h3 (by omega))
  · exact l
  · exact absurd (h2 b l) (k3 (by omega))
theorem First.zero {f : Nat → Cx} {n a : Nat} (h : First f n a) : nf f n = 0 ↔ a = n := by
  rw [nf_zero]
  constructor
  · intro z
    rcases Nat.lt_or_ge a n with l | l
    · exact absurd (z a l) (h.2.2 l)
    · have := h.1; omega
  · rintro rfl; exact h.2.1
/-! striking and norms -/
theorem nf_add (f : Nat → Cx) (m : Nat) : ∀ n, nf f (m + n) = nf f m + nf (fun k => f (m + k)) n
  | 0 => by simp [nf]
  | n + 1 => by
    show nf f (m + n) + (f (m + n)).norm = nf f m + (nf (fun k => f (m + k)) n + (f (m + n)).norm)
    rw [nf_add f m n]; omega
theorem nf_congr {f g : Nat → Cx} : ∀ n, (∀ k, k < n → (f k).norm = (g k).norm) → nf f n = nf g n
  | 0, _ => rfl
  | n + 1, h => by
    show nf f n + (f n).norm = nf g n + (g n).norm
    rw [nf_congr n fun k hk => h k (by omega), h n (by omega)]
theorem top_xor {k w : Nat} (h : k < 2 ^ w) : 2 ^ w + k = k ^^^ 2 ^ w := by
  have e := flip_eq w k
  have b : bt k w = 0 := by unfold bt; rw [Nat.div_eq_of_lt h]
  rw [b] at e
  omega
theorem nf_xor : ∀ (w x : Nat) (f : Nat → Cx), x < 2 ^ w → nf (fun k => f (k ^^^ x)) (2 ^ w) = nf f (2 ^ w)
  | 0, x, f, h => by
    have : x = 0 := by simpa using h
    subst this
    simp
  | w + 1, x, f, h => by
    have e2 : 2 ^ (w + 1) = 2 ^ w + 2 ^ w := by rw [Nat.pow_succ]; omega
    rw [e2, nf_add, nf_add]
    by_cases hx : x < 2 ^ w
    · rw [nf_xor w x f hx]
      have : nf (fun k => f ((2 ^ w + k) ^^^ x)) (2 ^ w) = nf (fun k => (fun j => f (2 ^ w + j)) (k ^^^ x)) (2 ^ w) := nf_congr _ fun k hk => by
        have hlt : k ^^^ x < 2 ^ w := Nat.xor_lt_two_pow hk hx
        simp only
        rw [top_xor hk, top_xor hlt, Nat.xor_assoc, Nat.xor_comm (2 ^ w), ← Nat.xor_assoc]
      rw [this, nf_xor w x (fun j => f (2 ^ w + j)) hx]
    · obtain ⟨y, hy, rfl⟩ : ∃ y, y < 2 ^ w ∧ x = y ^^^ 2 ^ w := ⟨x - 2 ^ w, by omega, by rw [← top_xor (show x - 2 ^ w < 2 ^ w by omega)]; omega⟩
      have e1 : nf (fun k => f (k ^^^ (y ^^^ 2 ^ w))) (2 ^ w) = nf (fun k => (fun j => f (2 ^ w + j)) (k ^^^ y)) (2 ^ w) := nf_congr _ fun k hk => by
        have hlt : k ^^^ y < 2 ^ w := Nat.xor_lt_two_pow hk hy
        simp only
        rw [top_xor hlt, Nat.xor_assoc]
      have e3 : nf (fun k => f ((2 ^ w + k) ^^^ (y ^^^ 2 ^ w))) (2 ^ w) = nf (fun k => f (k ^^^ y)) (2 ^ w) := nf_congr _ fun k hk => by
        rw [top_xor hk, Nat.xor_assoc, Nat.xor_comm (2 ^ w), Nat.xor_assoc, Nat.xor_self, Nat.xor_zero]
      rw [e1, e3, nf_xor w y (fun j => f (2 ^ w + j)) hy, nf_xor w y f hy]
      omega
theorem Cx.norm_im (c : Cx) : c.im.norm = c.norm := by simp only [Cx.norm, Cx.im]; grind
theorem Cx.norm_spin (c : Cx) : ∀ n, (c.spin n).norm = c.norm
  | 0 => rfl
  | n + 1 => (Cx.norm_im _).trans (Cx.norm_spin c n)
theorem nf_stk (f : Nat → Cx) (w : Nat) (r : Row) (h : r.x < 2 ^ w) : nf (stk f r) (2 ^ w) = nf f (2 ^ w) := by
  rw [← nf_xor w r.x f h]
  exact nf_congr _ fun k _ => Cx.norm_spin _ _
def vadd (f g : Nat → Cx) : Nat → Cx := fun k => (f k).add (g k)
def vsub (f g : Nat → Cx) : Nat → Cx := fun k => (f k).sub (g k)
theorem nf_par (f g : Nat → Cx) : ∀ n, nf (vadd f g) n + nf (vsub f g) n = 2 * nf f n + 2 * nf g n
  | 0 => rfl
  | n + 1 => by
    have ih := nf_par f g n
    have e : ((f n).add (g n)).norm + ((f n).sub (g n)).norm = 2 * (f n).norm + 2 * (g n).norm := by simp only [Cx.norm, Cx.add, Cx.sub]; grind
    simp only [nf, vadd, vsub] at *
    omega
theorem Cx.im_add (c e : Cx) : (c.add e).im = c.im.add e.im := by simp [Cx.im, Cx.add]; omega
theorem Cx.im_sub (c e : Cx) : (c.sub e).im = c.im.sub e.im := by simp [Cx.im, Cx.sub]; omega
theorem Cx.spin_addC (c e : Cx) : ∀ n, (c.add e).spin n = (c.spin n).add (e.spin n)
  | 0 => rfl
  | n + 1 => by show ((c.add e).spin n).im = _; rw [Cx.spin_addC c e n, Cx.im_add]; rfl
theorem Cx.spin_subC (c e : Cx) : ∀ n, (c.sub e).spin n = (c.spin n).sub (e.spin n)
  | 0 => rfl
  | n + 1 => by show ((c.sub e).spin n).im = _; rw [Cx.spin_subC c e n, Cx.im_sub]; rfl
theorem stk_vadd (f g : Nat → Cx) (r : Row) : stk (vadd f g) r = vadd (stk f r) (stk g r) := by
  funext k; exact Cx.spin_addC _ _ _
theorem stk_vsub (f g : Nat → Cx) (r : Row) : stk (vsub f g) r = vsub (stk f r) (stk g r) := by
  funext k; exact Cx.spin_subC _ _ _
theorem stk_self (f : Nat → Cx) (r : Row) (h : r.straight = true) : stk (stk f r) r = f := by
  rw [stk_mul, Row.mul_self, if_pos h]; exact stk_one f
theorem part_add (f : Nat → Cx) (r : Row) (h : r.straight = true) : stk (vadd f (stk f r)) r = vadd f (stk f r) := by
  rw [stk_vadd, stk_self f r h]
  funext k
  simp only [vadd, Cx.add, Cx.mk.injEq]; omega
theorem part_sub (f : Nat → Cx) (r : Row) (h : r.straight = true) (k : Nat) : stk (vsub f (stk f r)) r k = (vsub f (stk f r) k).spin 2 := by
  rw [stk_vsub, stk_self f r h]
  simp only [vsub, Cx.sub, Cx.spin, Cx.im, Cx.mk.injEq]; omega
theorem Cx.Bd.stk {e : Nat} {f : Nat → Cx} {w : Nat} (h : ∀ k, k < 2 ^ w → (f k).Bd e) {r : Row} (hx : r.x < 2 ^ w) : ∀ k, k < 2 ^ w → (stk f r k).Bd e := fun k hk =>
  Cx.Bd.spin (h _ (Nat.xor_lt_two_pow hk hx)) _
/-! a vector behind a move -/
def N1.turn : N1 → Nat
  | .quarter => 1 | .sign => 2 | .back => 3 | _ => 0
def chg (f : Nat → Cx) : Mv → Nat → Cx
  | .one .mix w, k => if bt k w = 0 then (f k).add (f (k ^^^ 2 ^ w)) else (f (k ^^^ 2 ^ w)).sub (f k)
  | .one .flip w, k => f (k ^^^ 2 ^ w)
  | .one n w, k => if bt k w = 1 then (f k).spin n.turn else f k
  | .two .join a b, k => f (k ^^^ bt k a * 2 ^ b)
  | .two .both a b, k => if bt k a = 1 ∧ bt k b = 1 then (f k).spin 2 else f k
  | .two .swap a b, k => if bt k a = bt k b then f k else f (k ^^^ 2 ^ a ^^^ 2 ^ b)
theorem pow_lt {a w : Nat} (h : a < w) : 2 ^ a < 2 ^ w := Nat.pow_lt_pow_right (by decide) h
theorem and_pow (k w : Nat) : k &&& 2 ^ w = bt k w * 2 ^ w := by
  have := and_unit (d := 1) (by decide) w k
  rw [Nat.one_mul, Nat.one_mul] at this
  rw [Nat.and_comm]; exact this
end DL
namespace DL
open PySem
/-! striking and moving -/
def Cx.neg (c : Cx) : Cx := ⟨-c.a, -c.b⟩
theorem Cx.spin2 (c : Cx) : c.spin 2 = c.neg := rfl
theorem Cx.spin_ev (c : Cx) (e s : Nat) : c.spin (e + 2 * s) = if s % 2 = 0 then c.spin e else (c.spin e).neg := by
  split
  · exact Cx.spin_eq c (by omega)
  · rw [Cx.spin_eq c (show (e + 2 * s) % 4 = (e + 2) % 4 by omega)]; rfl
theorem Cx.sp2 (c : Cx) (e : Nat) : c.spin (e + 2) = (c.spin e).neg := rfl
theorem Cx.sp6 (c : Cx) (e : Nat) : c.spin (e + 6) = (c.spin e).neg := by rw [Cx.spin_eq c (show (e + 6) % 4 = (e + 2) % 4 by omega)]; rfl
theorem Cx.sp8 (c : Cx) (e : Nat) : c.spin (e + 8) = c.spin e := Cx.spin_eq c (by omega)
theorem xor_mid (a b c : Nat) : a ^^^ b ^^^ c = a ^^^ c ^^^ b := by rw [Nat.xor_assoc, Nat.xor_comm b, ← Nat.xor_assoc]
theorem chg_struck (f : Nat → Cx) (r : Row) (m : Mv) (hm : m.Ok) (k : Nat) : stk (chg f m) (r.moved m) k = chg (stk f r) m k := by
  cases m with
  | one n w =>
    have hx := bt_lt r.x w
    have hz := bt_lt r.z w
    have hk := bt_lt k w
    have hu : ∀ i, bt (i ^^^ 2 ^ w) w = (bt i w + 1) % 2 := fun i => by
      have := bt_flip (d := 1) (by decide) i w w
      rw [Nat.one_mul, if_pos rfl] at this; exact this
    have pu : ∀ i, pop (r.z &&& (i ^^^ 2 ^ w)) % 2 = (pop (r.z &&& i) + bt r.z w) % 2 := fun i => by
      have := pop_flip' (d := 1) (by decide) w r.z i
      rw [Nat.one_mul, Nat.one_mul] at this; exact this
    have hj : bt (k ^^^ r.x) w = (bt k w + bt r.x w) % 2 := bt_xor _ _ _
    cases n with
    | flip =>
      simp only [stk, chg, Row.moved, N1.e, Nat.zero_mul, Nat.xor_zero]
      rw [xor_mid k (2 ^ w) r.x]
      apply Cx.spin_eq
      have := pu (k ^^^ r.x)
      omega
    | mix =>
      obtain ⟨e, he⟩ : ∃ e, r.t + 2 * pop (r.z &&& (k ^^^ r.x)) = e := ⟨_, rfl⟩
      have hS0 : stk f r k = (f (k ^^^ r.x)).spin e := by rw [← he]; rfl
      have hS1 : stk f r (k ^^^ 2 ^ w) = (f (k ^^^ r.x ^^^ 2 ^ w)).spin (e + 2 * bt r.z w) := by
        unfold stk
        rw [xor_mid k (2 ^ w) r.x]
        apply Cx.spin_eq
        have := pu (k ^^^ r.x); omega
      have hL0 : (bt r.x w + bt r.z w) % 2 = 0 → stk (chg f (.one .mix w)) (r.moved (.one .mix w)) k = (chg f (.one .mix w) (k ^^^ r.x)).spin (e + 2 * (bt r.x w * bt r.z w)) := fun h => by
        simp only [stk, Row.moved, N1.e, h, Nat.zero_mul, Nat.xor_zero]
        apply Cx.spin_eq
        rw [Nat.mul_assoc]; omega
      have hL1 : (bt r.x w + bt r.z w) % 2 = 1 → stk (chg f (.one .mix w)) (r.moved (.one .mix w)) k = (chg f (.one .mix w) (k ^^^ r.x ^^^ 2 ^ w)).spin (e + 2 * (bt r.x w * bt r.z w + bt (k ^^^ r.x) w + bt r.z w + 1)) := fun h => by
        simp only [stk, Row.moved, N1.e, h, Nat.one_mul]
        rw [← Nat.xor_assoc k r.x]
        apply Cx.spin_eq
        have q := pop_flip (d := 1) (by decide) w r.z (k ^^^ r.x ^^^ 2 ^ w)
        rw [hu, Nat.one_mul, Nat.one_mul] at q
        have p1 := pu (k ^^^ r.x)
        rw [Nat.mul_assoc]; omega
      have hxx : k ^^^ r.x ^^^ 2 ^ w ^^^ 2 ^ w = k ^^^ r.x := xor_xor _ _
      have hu1 := hu (k ^^^ r.x)
      have hR : chg (stk f r) (.one .mix w) k = if bt k w = 0 then (stk f r k).add (stk f r (k ^^^ 2 ^ w)) else (stk f r (k ^^^ 2 ^ w)).sub (stk f r k) := rfl
      have hC : ∀ i, chg f (.one .mix w) i = if bt i w = 0 then (f i).add (f (i ^^^ 2 ^ w)) else (f (i ^^^ 2 ^ w)).sub (f i) := fun _ => rfl
      rw [hR, hS0, hS1, Cx.spin_ev]
      rw [hj] at hu1
      clear hR hS0 hS1 pu hu he
      rcases bit2 hx with x | x <;> rcases bit2 hz with z | z <;> rcases bit2 hk with c | c
      all_goals
        rw [x, z] at hL0 hL1
        rw [c, x] at hj hu1
        first | rw [hL0 rfl] | rw [hL1 rfl]
        simp only [hC, hj, hu1, hxx, c, z, Nat.reduceAdd, Nat.reduceMod, Nat.reduceMul, Nat.zero_mul, Nat.mul_zero, Nat.one_mul, Nat.mul_one, Cx.spin_ev, if_true, Nat.add_zero, Nat.zero_add, if_neg (show ¬ (1 = 0) by decide), Cx.spin_addC, Cx.spin_subC, Cx.sp2, Cx.spin4, Cx.sp6, Cx.sp8]
        try simp only [Cx.add, Cx.sub, Cx.neg, Cx.mk.injEq]
        try (constructor <;> omega)
    | quarter =>
      simp only [stk, chg, Row.moved, N1.e, N1.turn, Nat.zero_mul, Nat.xor_zero]
      have q := pop_flip hx w r.z (k ^^^ r.x)
      rcases bit2 hx with x | x <;> rcases bit2 hk with c | c <;> rw [x] at q hj ⊢ <;> rw [c] at hj ⊢ <;> rw [hj] at q ⊢ <;> simp only [Nat.reduceAdd, Nat.reduceMod, if_true, if_neg (show ¬ (0 = 1) by decide), ← Cx.spin_add] <;> apply Cx.spin_eq <;> omega
    | back =>
      simp only [stk, chg, Row.moved, N1.e, N1.turn, Nat.zero_mul, Nat.xor_zero]
      have q := pop_flip hx w r.z (k ^^^ r.x)
      rcases bit2 hx with x | x <;> rcases bit2 hk with c | c <;> rw [x] at q hj ⊢ <;> rw [c] at hj ⊢ <;> rw [hj] at q ⊢ <;> simp only [Nat.reduceAdd, Nat.reduceMod, if_true, if_neg (show ¬ (0 = 1) by decide), ← Cx.spin_add] <;> apply Cx.spin_eq <;> omega
    | sign =>
      simp only [stk, chg, Row.moved, N1.e, N1.turn, Nat.zero_mul, Nat.xor_zero]
      rcases bit2 hx with x | x <;> rcases bit2 hk with c | c <;> rw [x] at hj ⊢ <;> rw [c] at hj ⊢ <;> rw [hj] <;> simp only [Nat.reduceAdd, Nat.reduceMod, if_true, if_neg (show ¬ (0 = 1) by decide), ← Cx.spin_add] <;> apply Cx.spin_eq <;> omega
  | two n a b =>
    have hab : a ≠ b := hm n a b rfl
    have hxa := bt_lt r.x a
    have hxb := bt_lt r.x b
    have hza := bt_lt r.z a
    have hzb := bt_lt r.z b
    have hka := bt_lt k a
    have hkb := bt_lt k b
    cases n with
    | join =>
      simp only [stk, chg, Row.moved, N2.e, Nat.zero_mul, Nat.xor_zero]
      have ej : bt (k ^^^ (r.x ^^^ bt r.x a * 2 ^ b)) a = (bt k a + bt r.x a) % 2 := by
        rw [bt_xor, bt_flip hxa, if_neg hab, Nat.add_zero, Nat.mod_eq_of_lt hxa]
      have hsum : (bt k a + bt r.x a) % 2 < 2 := Nat.mod_lt _ (by decide)
      rw [ej]
      have idx : k ^^^ (r.x ^^^ bt r.x a * 2 ^ b) ^^^ (bt k a + bt r.x a) % 2 * 2 ^ b = k ^^^ bt k a * 2 ^ b ^^^ r.x := by
        rw [unit_add hka hxa]
        apply Nat.eq_of_testBit_eq; intro i
        simp only [Nat.testBit_xor]
        cases k.testBit i <;> cases r.x.testBit i <;> cases (bt r.x a * 2 ^ b).testBit i <;> cases (bt k a * 2 ^ b).testBit i <;> rfl
      have jdx : k ^^^ (r.x ^^^ bt r.x a * 2 ^ b) = (k ^^^ bt k a * 2 ^ b ^^^ r.x) ^^^ (bt k a + bt r.x a) % 2 * 2 ^ b := by rw [← idx, xor_xor]
      rw [idx]
      apply Cx.spin_eq
      have q1 := pop_flip hzb a r.z (k ^^^ (r.x ^^^ bt r.x a * 2 ^ b))
      rw [ej] at q1
      have q2 := pop_flip' hsum b r.z (k ^^^ bt k a * 2 ^ b ^^^ r.x)
      rw [← jdx] at q2
      rw [Nat.mul_comm ((bt k a + bt r.x a) % 2)] at q2
      omega
    | both =>
      simp only [stk, chg, Row.moved, N2.e, Nat.zero_mul, Nat.xor_zero]
      have q1 := pop_flip hxb a r.z (k ^^^ r.x)
      have q2 := pop_flip hxa b (r.z ^^^ bt r.x b * 2 ^ a) (k ^^^ r.x)
      have ea : bt (k ^^^ r.x) a = (bt k a + bt r.x a) % 2 := bt_xor _ _ _
      have eb : bt (k ^^^ r.x) b = (bt k b + bt r.x b) % 2 := bt_xor _ _ _
      rw [ea] at q1 ⊢
      rw [eb] at q2 ⊢
      rcases bit2 hxa with x | x <;> rcases bit2 hxb with y | y <;> rcases bit2 hka with c | c <;> rcases bit2 hkb with d | d <;> rw [x, y, c] at q1 <;> rw [x, y, d] at q2 <;> rw [x, y, c, d] <;> simp only [Nat.reduceAdd, Nat.reduceMod, Nat.reduceMul, Nat.zero_mul, Nat.one_mul, Nat.mul_zero, Nat.mul_one, Nat.add_zero, Nat.zero_add, and_self, and_true, true_and, false_and, and_false, if_true, if_false, show ¬ ((0 : Nat) = 1) by decide, ← Cx.spin_add] at * <;> apply Cx.spin_eq <;> omega
    | swap =>
      have hdx : (bt r.x a + bt r.x b) % 2 < 2 := Nat.mod_lt _ (by decide)
      have hdz : (bt r.z a + bt r.z b) % 2 < 2 := Nat.mod_lt _ (by decide)
      have uni : ∀ (g : Nat → Cx) (i : Nat), chg g (.two .swap a b) i = g (i ^^^ (bt i a + bt i b) % 2 * 2 ^ a ^^^ (bt i a + bt i b) % 2 * 2 ^ b) := fun g i => by
        simp only [chg]
        have h1 := bt_lt i a
        have h2 := bt_lt i b
        split
        · rename_i e
          rw [show (bt i a + bt i b) % 2 = 0 by omega]; simp
        · rename_i e
          rw [show (bt i a + bt i b) % 2 = 1 by omega]; simp
      rw [uni]
      simp only [stk, uni, Row.moved, N2.e]
      generalize hj : k ^^^ (r.x ^^^ (bt r.x a + bt r.x b) % 2 * 2 ^ a ^^^ (bt r.x a + bt r.x b) % 2 * 2 ^ b) = j
      have ja : bt j a = (bt k a + bt r.x b) % 2 := by
        rw [← hj, bt_xor, bt_flip hdx, bt_flip hdx, if_pos rfl, if_neg hab]; omega
      have jb : bt j b = (bt k b + bt r.x a) % 2 := by
        rw [← hj, bt_xor, bt_flip hdx, bt_flip hdx, if_neg (Ne.symm hab), if_pos rfl]; omega
      have he1 : (bt j a + bt j b) % 2 = ((bt k a + bt k b) % 2 + (bt r.x a + bt r.x b) % 2) % 2 := by rw [ja, jb]; omega
      have hek : (bt k a + bt k b) % 2 < 2 := Nat.mod_lt _ (by decide)
      have hje : (bt j a + bt j b) % 2 < 2 := Nat.mod_lt _ (by decide)
      have idx : j ^^^ (bt j a + bt j b) % 2 * 2 ^ a ^^^ (bt j a + bt j b) % 2 * 2 ^ b = k ^^^ (bt k a + bt k b) % 2 * 2 ^ a ^^^ (bt k a + bt k b) % 2 * 2 ^ b ^^^ r.x := by
        rw [he1, unit_add hek hdx, unit_add hek hdx, ← hj]
        apply Nat.eq_of_testBit_eq; intro i
        simp only [Nat.testBit_xor]
        cases k.testBit i <;> cases r.x.testBit i <;> cases ((bt r.x a + bt r.x b) % 2 * 2 ^ a).testBit i <;> cases ((bt r.x a + bt r.x b) % 2 * 2 ^ b).testBit i <;> cases ((bt k a + bt k b) % 2 * 2 ^ a).testBit i <;> cases ((bt k a + bt k b) % 2 * 2 ^ b).testBit i <;> rfl
      rw [← idx]
      apply Cx.spin_eq
      have q1 := pop_flip hdz a r.z j
      have q2 := pop_flip hdz b (r.z ^^^ (bt r.z a + bt r.z b) % 2 * 2 ^ a) j
      have q3 := pop_flip' hje a r.z j
      have q4 := pop_flip' hje b r.z (j ^^^ (bt j a + bt j b) % 2 * 2 ^ a)
      have hja := bt_lt j a
      have hjb := bt_lt j b
      generalize pop (r.z &&& j) = P at *
      generalize bt j a = ja at *
      generalize bt j b = jb at *
      rcases bit2 hza with x | x <;> rcases bit2 hzb with y | y <;> rcases bit2 hja with c | c <;> rcases bit2 hjb with d | d <;> subst c <;> subst d <;> rw [x, y] at q1 q2 <;> rw [x] at q3 <;> rw [y] at q4 <;> rw [x, y] <;> simp only [Nat.reduceAdd, Nat.reduceMod, Nat.zero_mul, Nat.one_mul, Nat.mul_zero, Nat.mul_one] at * <;> omega
/-! sums over all places -/
def sm (g : Nat → Int) : Nat → Int
  | 0 => 0
  | n + 1 => sm g n + g n
theorem nf_sm (f : Nat → Cx) : ∀ n, nf f n = sm (fun k => (f k).norm) n
  | 0 => rfl
  | n + 1 => by show nf f n + (f n).norm = sm _ n + _; rw [nf_sm f n]
theorem sm_add (f : Nat → Int) (m : Nat) : ∀ n, sm f (m + n) = sm f m + sm (fun k => f (m + k)) n
  | 0 => by simp [sm]
  | n + 1 => by
    show sm f (m + n) + f (m + n) = sm f m + (sm (fun k => f (m + k)) n + f (m + n))
    rw [sm_add f m n]; omega
theorem sm_congr {f g : Nat → Int} : ∀ n, (∀ k, k < n → f k = g k) → sm f n = sm g n
  | 0, _ => rfl
  | n + 1, h => by
    show sm f n + f n = sm g n + g n
    rw [sm_congr n fun k hk => h k (by omega), h n (by omega)]
theorem sm_plus (f g : Nat → Int) : ∀ n, sm (fun k => f k + g k) n = sm f n + sm g n
  | 0 => rfl
  | n + 1 => by
    show sm (fun k => f k + g k) n + (f n + g n) = (sm f n + f n) + (sm g n + g n)
    rw [sm_plus f g n]; omega
theorem sm_xor : ∀ (w x : Nat) (f : Nat → Int), x < 2 ^ w → sm (fun k => f (k ^^^ x)) (2 ^ w) = sm f (2 ^ w)
  | 0, x, f, h => by
    have : x = 0 := by simpa using h
    subst this
    simp
  | w + 1, x, f, h => by
    have e2 : 2 ^ (w + 1) = 2 ^ w + 2 ^ w := by rw [Nat.pow_succ]; omega
    rw [e2, sm_add, sm_add]
    by_cases hx : x < 2 ^ w
    · rw [sm_xor w x f hx]
      have : sm (fun k => f ((2 ^ w + k) ^^^ x)) (2 ^ w) = sm (fun k => (fun j => f (2 ^ w + j)) (k ^^^ x)) (2 ^ w) := sm_congr _ fun k hk => by
        have hlt : k ^^^ x < 2 ^ w := Nat.xor_lt_two_pow hk hx
        simp only
        rw [top_xor hk, top_xor hlt, Nat.xor_assoc, Nat.xor_comm (2 ^ w), ← Nat.xor_assoc]
      rw [this, sm_xor w x (fun j => f (2 ^ w + j)) hx]
    · obtain ⟨y, hy, rfl⟩ : ∃ y, y < 2 ^ w ∧ x = y ^^^ 2 ^ w := ⟨x - 2 ^ w, by omega, by rw [← top_xor (show x - 2 ^ w < 2 ^ w by omega)]; omega⟩
      have e1 : sm (fun k => f (k ^^^ (y ^^^ 2 ^ w))) (2 ^ w) = sm (fun k => (fun j => f (2 ^ w + j)) (k ^^^ y)) (2 ^ w) := sm_congr _ fun k hk => by
        have hlt : k ^^^ y < 2 ^ w := Nat.xor_lt_two_pow hk hy
        simp only
        rw [top_xor hlt, Nat.xor_assoc]
      have e3 : sm (fun k => f ((2 ^ w + k) ^^^ (y ^^^ 2 ^ w))) (2 ^ w) = sm (fun k => f (k ^^^ y)) (2 ^ w) := sm_congr _ fun k hk => by
        rw [top_xor hk, Nat.xor_assoc, Nat.xor_comm (2 ^ w), Nat.xor_assoc, Nat.xor_self, Nat.xor_zero]
      rw [e1, e3, sm_xor w y (fun j => f (2 ^ w + j)) hy, sm_xor w y f hy]
      omega
/-- exchanging places where p holds leaves a sum -/
theorem sm_some (w x : Nat) (hx : x < 2 ^ w) (p : Nat → Bool) (hp : ∀ k, p (k ^^^ x) = p k) (g : Nat → Int) : sm (fun k => if p k = true then g (k ^^^ x) else g k) (2 ^ w) = sm g (2 ^ w) := by
  have h := sm_xor w x (fun k => if p k = true then g k else 0) hx
  have e1 : sm (fun k => if p k = true then g (k ^^^ x) else g k) (2 ^ w) = sm (fun k => (if p (k ^^^ x) = true then g (k ^^^ x) else 0) + (if p k = true then 0 else g k)) (2 ^ w) := sm_congr _ fun k _ => by
    rw [hp]; split <;> omega
  rw [e1, sm_plus, h, ← sm_plus]
  exact sm_congr _ fun k _ => by split <;> omega
def Mv.many : Mv → Int
  | .one .mix _ => 2
  | _ => 1
theorem bt_px (k w : Nat) : bt (k ^^^ 2 ^ w) w = (bt k w + 1) % 2 := by
  have := bt_flip (d := 1) (by decide) k w w
  rw [Nat.one_mul, if_pos rfl] at this; exact this
theorem bt_px' (k : Nat) {a w : Nat} (h : a ≠ w) : bt (k ^^^ 2 ^ w) a = bt k a := by
  have := bt_flip (d := 1) (by decide) k w a
  rw [Nat.one_mul, if_neg h] at this
  have := bt_lt k a; omega
theorem nf_chg (f : Nat → Cx) (W : Nat) (m : Mv) (hm : m.On W) : nf (chg f m) (2 ^ W) = m.many * nf f (2 ^ W) := by
  cases m with
  | one n w =>
    have hw : w < W := hm
    have hx := pow_lt hw
    have sp : ∀ n : N1, (∀ k, (chg f (.one n w) k).norm = (f k).norm) → nf (chg f (.one n w)) (2 ^ W) = 1 * nf f (2 ^ W) := fun n h => by
      rw [Int.one_mul]; exact nf_congr _ fun k _ => h k
    cases n with
    | mix =>
      show _ = 2 * _
      rw [nf_sm, nf_sm]
      have e : sm (fun k => (chg f (.one .mix w) (k ^^^ 2 ^ w)).norm) (2 ^ W) = sm (fun k => (chg f (.one .mix w) k).norm) (2 ^ W) := sm_xor W (2 ^ w) (fun k => (chg f (.one .mix w) k).norm) hx
      have s : sm (fun k => (f (k ^^^ 2 ^ w)).norm) (2 ^ W) = sm (fun k => (f k).norm) (2 ^ W) := sm_xor W (2 ^ w) (fun k => (f k).norm) hx
      have q : sm (fun k => (chg f (.one .mix w) k).norm + (chg f (.one .mix w) (k ^^^ 2 ^ w)).norm) (2 ^ W) = sm (fun k => ((f k).norm + (f k).norm) + ((f (k ^^^ 2 ^ w)).norm + (f (k ^^^ 2 ^ w)).norm)) (2 ^ W) := sm_congr _ fun k _ => by
        have hb := bt_lt k w
        simp only [chg, bt_px, xor_xor]
        rcases bit2 hb with b | b <;> rw [b] <;> simp only [Nat.reduceAdd, Nat.reduceMod, if_true, if_neg (show ¬ (1 = 0) by decide), Cx.norm, Cx.add, Cx.sub] <;> grind
      rw [sm_plus, sm_plus, sm_plus, sm_plus] at q
      omega
    | flip =>
      show _ = 1 * _
      rw [nf_sm, nf_sm, Int.one_mul]
      exact sm_xor W (2 ^ w) (fun k => (f k).norm) hx
    | quarter => exact sp .quarter fun k => by simp only [chg]; split; exact Cx.norm_spin _ _; rfl
    | back => exact sp .back fun k => by simp only [chg]; split; exact Cx.norm_spin _ _; rfl
    | sign => exact sp .sign fun k => by simp only [chg]; split; exact Cx.norm_spin _ _; rfl
  | two n a b =>
    obtain ⟨ha, hb, hab⟩ := hm
    show _ = 1 * _
    rw [Int.one_mul]
    cases n with
    | join =>
      rw [nf_sm, nf_sm, ← sm_some W (2 ^ b) (pow_lt hb) (fun k => decide (bt k a = 1)) (fun k => by simp only [bt_px' k hab]) (fun k => (f k).norm)]
      refine sm_congr _ fun k _ => ?_
      have h := bt_lt k a
      simp only [chg]
      rcases bit2 h with c | c <;> rw [c] <;> simp
    | both => exact nf_congr _ fun k _ => by simp only [chg]; split; exact Cx.norm_spin _ _; rfl
    | swap =>
      have hx : 2 ^ a ^^^ 2 ^ b < 2 ^ W := Nat.xor_lt_two_pow (pow_lt ha) (pow_lt hb)
      rw [nf_sm, nf_sm, ← sm_some W (2 ^ a ^^^ 2 ^ b) hx (fun k => !decide (bt k a = bt k b)) (fun k => ?_) (fun k => (f k).norm)]
      · refine sm_congr _ fun k _ => ?_
        simp only [chg, Nat.xor_assoc]
        by_cases h : bt k a = bt k b
        · rw [if_pos h]; simp [h]
        · rw [if_neg h]; simp [h]
      · show (!decide (bt (k ^^^ (2 ^ a ^^^ 2 ^ b)) a = bt (k ^^^ (2 ^ a ^^^ 2 ^ b)) b)) = !decide (bt k a = bt k b)
        rw [← Nat.xor_assoc, bt_px' _ hab, bt_px, bt_px, bt_px' _ (Ne.symm hab)]
        have h1 := bt_lt k a
        have h2 := bt_lt k b
        congr 1
        exact decide_eq_decide.mpr (by omega)
/-! sums of vectors -/
def lin (f : Nat → Cx) (u : Cx) (g : Nat → Cx) (v : Cx) : Nat → Cx := fun k => ((f k).mul u).add ((g k).mul v)
theorem Cx.im_mul (c u : Cx) : (c.mul u).im = c.im.mul u := by simp only [Cx.im, Cx.mul, Cx.mk.injEq]; constructor <;> grind
theorem Cx.spin_mul (c u : Cx) : ∀ n, (c.mul u).spin n = (c.spin n).mul u
  | 0 => rfl
  | n + 1 => by show ((c.mul u).spin n).im = _; rw [Cx.spin_mul c u n, Cx.im_mul]; rfl
theorem lin_add (a b c d u v : Cx) : ((a.add b).mul u).add ((c.add d).mul v) = ((a.mul u).add (c.mul v)).add ((b.mul u).add (d.mul v)) := by
  simp only [Cx.add, Cx.mul, Cx.mk.injEq]; constructor <;> grind
theorem lin_sub (a b c d u v : Cx) : ((a.sub b).mul u).add ((c.sub d).mul v) = ((a.mul u).add (c.mul v)).sub ((b.mul u).add (d.mul v)) := by
  simp only [Cx.add, Cx.sub, Cx.mul, Cx.mk.injEq]; constructor <;> grind
theorem chg_lin (f g : Nat → Cx) (u v : Cx) (m : Mv) (k : Nat) : chg (lin f u g v) m k = lin (chg f m) u (chg g m) v k := by
  cases m with
  | one n w =>
    cases n <;> simp only [chg, lin] <;> (try split) <;> (try rfl) <;> simp only [Cx.spin_addC, Cx.spin_mul, lin_add, lin_sub]
  | two n a b =>
    cases n <;> simp only [chg, lin] <;> (try split) <;> (try rfl) <;> simp only [Cx.spin_addC, Cx.spin_mul]
theorem chg_bd {f : Nat → Cx} {e W : Nat} {m : Mv} (hm : m.On W) (h : ∀ k, k < 2 ^ W → (f k).Bd e) : ∀ k, k < 2 ^ W → (chg f m k).Bd (e + 1) := fun k hk => by
  have up : ∀ {c : Cx}, c.Bd e → c.Bd (e + 1) := fun q => q.mono (Nat.le_succ e)
  cases m with
  | one n w =>
    have hx : k ^^^ 2 ^ w < 2 ^ W := Nat.xor_lt_two_pow hk (pow_lt hm)
    cases n <;> simp only [chg] <;> (try split) <;> first | exact (h k hk).add (h _ hx) | exact (h _ hx).sub (h k hk) | exact up (h _ hx) | exact up ((h k hk).spin _) | exact up (h k hk)
  | two n a b =>
    obtain ⟨ha, hb, hab⟩ := hm
    cases n with
    | join => exact up (h _ (Nat.xor_lt_two_pow hk (unit_small (bt_lt k a) hb)))
    | both => simp only [chg]; split; exact up ((h k hk).spin _); exact up (h k hk)
    | swap => simp only [chg]; split; exact up (h k hk); exact up (h _ (Nat.xor_lt_two_pow (Nat.xor_lt_two_pow hk (pow_lt ha)) (pow_lt hb)))
end DL
namespace DL
open PySem
/-! words, and what becomes of the marks -/
def act (ms : List Mv) (r : Row) : Row := ms.foldl Row.moved r
theorem act_mul : ∀ (ms : List Mv) (r s : Row), (∀ m ∈ ms, m.Ok) → act ms (r.mul s) = (act ms r).mul (act ms s)
  | [], r, s, _ => rfl
  | m :: ms, r, s, h => by
    show act ms ((r.mul s).moved m) = (act ms (r.moved m)).mul (act ms (s.moved m))
    rw [Row.mul_moved _ _ _ (h m (List.mem_cons_self ..)), act_mul ms _ _ fun m q => h m (List.mem_cons_of_mem _ q)]
theorem act_plain {t : Nat} (ht : t < 4) : ∀ ms : List Mv, act ms ⟨t, 0, 0⟩ = ⟨t, 0, 0⟩
  | [] => rfl
  | m :: ms => by
    show act ms ((Row.mk t 0 0).moved m) = _
    rw [Row.plain_moved t ht, act_plain ht ms]
theorem act_straight : ∀ (ms : List Mv) (r : Row), (∀ m ∈ ms, m.Ok) → (act ms r).straight = r.straight
  | [], r, _ => rfl
  | m :: ms, r, h => by
    show (act ms (r.moved m)).straight = _
    rw [act_straight ms _ fun m q => h m (List.mem_cons_of_mem _ q), Row.straight_moved _ (h m (List.mem_cons_self ..))]
theorem act_crosses : ∀ (ms : List Mv) (r s : Row), (∀ m ∈ ms, m.Ok) → (act ms r).crosses (act ms s) = r.crosses s
  | [], r, s, _ => rfl
  | m :: ms, r, s, h => by
    show (act ms (r.moved m)).crosses (act ms (s.moved m)) = _
    rw [act_crosses ms _ _ fun m q => h m (List.mem_cons_of_mem _ q), Row.crosses_moved _ _ (h m (List.mem_cons_self ..))]
theorem act_app (a b : List Mv) (r : Row) : act (a ++ b) r = act b (act a r) := List.foldl_append ..
theorem act_on {w : Nat} (ms : List Mv) (r : Row) (h : r.On w) (hm : ∀ m ∈ ms, m.On w) : (act ms r).On w := fold_on ms r h hm
/-- the rows of single marks -/
def bas (k : Nat) : Row := if k % 2 = 0 then ⟨0, 2 ^ (k / 2), 0⟩ else ⟨0, 0, 2 ^ (k / 2)⟩
theorem bas_on {w k : Nat} (h : k < 2 * w) : (bas k).On w := by
  have hp : 2 ^ (k / 2) < 2 ^ w := pow_lt (by omega)
  have h0 : 0 < 2 ^ w := Nat.pow_pos (by decide)
  unfold bas
  split
  · exact ⟨Nat.zero_lt_succ 3, hp, h0⟩
  · exact ⟨Nat.zero_lt_succ 3, h0, hp⟩
def rl (n : Nat) (f : Nat → Row) : List D := (List.range n).map fun k => (f k).d
def Row.pd (r : Row) : PyData := .tuple [.int r.t, .int r.x, .int r.z]
theorem Row.hpd (G : Gp) (r : Row) : Pd G r.d r.pd := .tup (.cons (.int _) (.cons (.int _) (.cons (.int _) .nil)))
def Mv.pd : Mv → PyData
  | .one n w => .tuple [.str n.s, .int w]
  | .two n a b => .tuple [.str n.s, .int a, .int b]
theorem Mv.hpd (G : Gp) (m : Mv) : Pd G m.d m.pd := by
  cases m with
  | one n w => exact .tup (.cons (.str _) (.cons (.int _) .nil))
  | two n a b => exact .tup (.cons (.str _) (.cons (.int _) (.cons (.int _) .nil)))
theorem Mv.lay (m : Mv) : PyData.canLay0 m.pd = true := by
  cases m with
  | one n w => cases n <;> simp [Mv.pd, PyData.canLay0, PyData.canLayAll0, N1.s] <;> decide +kernel
  | two n a b => cases n <;> simp [Mv.pd, PyData.canLay0, PyData.canLayAll0, N2.s] <;> decide +kernel
theorem Mv.dep (m : Mv) : (m.pd).depth ≤ 1 := by
  cases m <;> simp [Mv.pd, PyData.depth, PyData.depthAll]
theorem low_xor (n i : Nat) : n % 2 ^ i ^^^ 2 ^ i = n % 2 ^ i + 2 ^ i := by
  have h : n % 2 ^ i < 2 ^ i := Nat.mod_lt _ (Nat.pow_pos (by decide))
  rw [← top_xor h]; omega
theorem pop_pow2 (a b : Nat) : pop (2 ^ a &&& 2 ^ b) = if a = b then 1 else 0 := by
  have h := and_unit (d := 1) (by decide) a (2 ^ b)
  have e := bt_unit (d := 1) (by decide) b a
  rw [Nat.one_mul] at h e
  rw [h, e, Nat.one_mul]
  split
  · exact pop_unit (b := 1) (by decide) a
  · rw [Nat.zero_mul]; exact pop_zero
theorem bas_cross (k j : Nat) (h : j < k) : (bas k).crosses (bas j) = decide (j = k - 1 ∧ k % 2 = 1) := by
  unfold Row.crosses bas
  apply decide_eq_decide.mpr
  by_cases hk : k % 2 = 0 <;> by_cases hj : j % 2 = 0
  · rw [if_pos hk, if_pos hj]
    simp only [Nat.and_zero, Nat.zero_and, pop_zero]; omega
  · rw [if_pos hk, if_neg hj]
    simp only [Nat.and_zero, Nat.zero_and, pop_zero, pop_pow2]
    split <;> omega
  · rw [if_neg hk, if_pos hj]
    simp only [Nat.and_zero, Nat.zero_and, pop_zero, pop_pow2]
    split <;> omega
  · rw [if_neg hk, if_neg hj]
    simp only [Nat.and_zero, Nat.zero_and, pop_zero]; omega
theorem bas_straight (k : Nat) : (bas k).straight = true := by
  unfold Row.straight bas
  split <;> simp [pop_zero]
end DL
namespace DL
open PySem
/-! the fair copy of a word -/
structure St2 where
  I : Nat → Row
  ss : List Mv
def St2.st (S : St2) (m : Mv) : St2 := ⟨fun k => (S.I k).moved m, S.ss ++ [m]⟩
def low (n : Nat) : Nat := if h : n % 2 = 1 ∨ n = 0 then 0 else low (n / 2) + 1
termination_by n
decreasing_by omega
theorem bt_zero' (n : Nat) : bt n 0 = n % 2 := by unfold bt; simp
theorem bt_succ (n i : Nat) : bt n (i + 1) = bt (n / 2) i := by unfold bt; rw [Nat.div_div_eq_div_mul, ← Nat.pow_succ']
theorem low_ok : ∀ n : Nat, n ≠ 0 → bt n (low n) = 1 ∧ ∀ j, j < low n → bt n j = 0 := by
  intro n
  induction n using Nat.strongRecOn with
  | _ n ih =>
    intro hn
    by_cases h : n % 2 = 1 ∨ n = 0
    · rw [low, dif_pos h]
      exact ⟨by rw [bt_zero']; omega, fun j hj => absurd hj (Nat.not_lt_zero j)⟩
    · rw [low, dif_neg h]
      obtain ⟨a, b⟩ := ih (n / 2) (by omega) (by omega)
      refine ⟨by rw [bt_succ]; exact a, fun j hj => ?_⟩
      cases j with
      | zero => rw [bt_zero']; omega
      | succ j => rw [bt_succ]; exact b j (by omega)
theorem bt_big {n w i : Nat} (h : n < 2 ^ w) (hi : w ≤ i) : bt n i = 0 := by
  unfold bt
  rw [Nat.div_eq_of_lt (Nat.lt_of_lt_of_le h (pow_le hi))]
theorem bt_pow (a i : Nat) : bt (2 ^ a) i = if i = a then 1 else 0 := by
  have := bt_unit (d := 1) (by decide) a i
  rwa [Nat.one_mul] at this
/-! moves where a row has no mark -/
theorem Row.ext' {r s : Row} (h1 : r.t = s.t) (h2 : r.x = s.x) (h3 : r.z = s.z) : r = s := by cases r; cases s; simp_all
theorem out1 {r : Row} (ht : r.t < 4) {n : N1} {o : Nat} (hx : bt r.x o = 0) (hz : bt r.z o = 0) : r.moved (.one n o) = r := by
  cases n <;> simp only [Row.moved, N1.e, hx, hz] <;> refine Row.ext' ?_ ?_ ?_ <;> simp <;> omega
theorem out2 {r : Row} (ht : r.t < 4) {n : N2} {a b : Nat} (hx : bt r.x a = 0) (hz : bt r.z a = 0) (hx' : bt r.x b = 0) (hz' : bt r.z b = 0) : r.moved (.two n a b) = r := by
  cases n <;> simp only [Row.moved, N2.e, hx, hz, hx', hz'] <;> refine Row.ext' ?_ ?_ ?_ <;> simp <;> omega
theorem bas_out {j wire o : Nat} (hj : j < 2 * wire) (ho : wire ≤ o) : bt (bas j).x o = 0 ∧ bt (bas j).z o = 0 := by
  unfold bas
  split
  · exact ⟨by rw [bt_pow, if_neg (by omega)], bt_zero _⟩
  · exact ⟨bt_zero _, by rw [bt_pow, if_neg (by omega)]⟩
theorem bas_t (j : Nat) : (bas j).t < 4 := by unfold bas; split <;> exact Nat.zero_lt_succ 3
/-- all wires of a move are from wire on -/
def Mv.Ge (wire : Nat) : Mv → Prop
  | .one _ a => wire ≤ a
  | .two _ a b => wire ≤ a ∧ wire ≤ b
structure Gd (w wire : Nat) (I0 : Nat → Row) (S : St2) : Prop where
  on : ∀ k, k < 2 * w → (S.I k).On w
  str : ∀ k, k < 2 * w → (S.I k).straight = true
  cr : ∀ k j, k < 2 * w → j < k → (S.I k).crosses (S.I j) = decide (j = k - 1 ∧ k % 2 = 1)
  fix : ∀ j, j < 2 * wire → S.I j = bas j
  ms : ∀ m ∈ S.ss, m.On w
  rel : ∀ k, S.I k = act S.ss (I0 k)
theorem Gd.st {w wire : Nat} {I0 : Nat → Row} {S : St2} (h : Gd w wire I0 S) {m : Mv} (hm : m.On w) (hg : m.Ge wire) : Gd w wire I0 (S.st m) where
  on := fun k hk => (h.on k hk).moved hm
  str := fun k hk => by show ((S.I k).moved m).straight = true; rw [Row.straight_moved _ hm.ok]; exact h.str k hk
  cr := fun k j hk hj => by show ((S.I k).moved m).crosses ((S.I j).moved m) = _; rw [Row.crosses_moved _ _ hm.ok]; exact h.cr k j hk hj
  fix := fun j hj => by
    show (S.I j).moved m = bas j
    rw [h.fix j hj]
    cases m with
    | one n a => exact out1 (bas_t j) (bas_out hj hg).1 (bas_out hj hg).2
    | two n a b => exact out2 (bas_t j) (bas_out hj hg.1).1 (bas_out hj hg.1).2 (bas_out hj hg.2).1 (bas_out hj hg.2).2
  ms := fun m' hm' => by
    rcases List.mem_append.mp hm' with q | q
    · exact h.ms _ q
    · rw [List.mem_singleton.mp q]; exact hm
  rel := fun k => by show (S.I k).moved m = act (S.ss ++ [m]) (I0 k); rw [act_app, ← h.rel k]; rfl
def up (f : Nat → St2 → St2) (lo : Nat) : Nat → St2 → St2
  | 0, S => S
  | n + 1, S => f (lo + n) (up f lo n S)
def g1 (a o : Nat) (S : St2) : St2 := if bt (S.I a).z o = 1 then (if bt (S.I a).x o = 1 then S.st (.one .quarter o) else S.st (.one .mix o)) else S
def gs (a wire : Nat) (S : St2) : St2 := if bt (S.I a).x wire = 0 then S.st (.two .swap wire (low (S.I a).x)) else S
def g2 (a wire o : Nat) (S : St2) : St2 := if bt (S.I a).x o = 1 then S.st (.two .join wire o) else S
theorem Gd.start {w : Nat} {ms : List Mv} (hms : ∀ m ∈ ms, m.On w) : Gd w 0 (fun k => act ms (bas k)) ⟨fun k => act ms (bas k), []⟩ where
  on := fun k hk => act_on ms _ (bas_on hk) hms
  str := fun k hk => by show (act ms (bas k)).straight = true; rw [act_straight ms _ fun m hm => (hms m hm).ok]; exact bas_straight k
  cr := fun k j hk hj => by show (act ms (bas k)).crosses (act ms (bas j)) = _; rw [act_crosses ms _ _ fun m hm => (hms m hm).ok]; exact bas_cross k j hj
  fix := fun j hj => by omega
  ms := fun m hm => by simp at hm
  rel := fun k => rfl
theorem act_undo : ∀ (ss : List Mv) (r : Row), r.t < 4 → (∀ m ∈ ss, m.Ok) → act ((ss.reverse).map Mv.undo) (act ss r) = r
  | [], r, _, _ => rfl
  | m :: ss, r, ht, h => by
    show act (((m :: ss).reverse).map Mv.undo) (act ss (r.moved m)) = r
    rw [List.reverse_cons, List.map_append, act_app, act_undo ss (r.moved m) (Row.moved_t _ _) fun m' h' => h m' (List.mem_cons_of_mem _ h')]
    exact Row.moved_undo ht (h m (List.mem_cons_self ..))
/-! only the images' rows count -/
def Sim (w : Nat) (S T : St2) : Prop := S.ss = T.ss ∧ ∀ k, k < 2 * w → S.I k = T.I k
theorem Sim.st {w : Nat} {S T : St2} (h : Sim w S T) (m : Mv) : Sim w (S.st m) (T.st m) := ⟨by show S.ss ++ [m] = T.ss ++ [m]; rw [h.1], fun k hk => by show (S.I k).moved m = (T.I k).moved m; rw [h.2 k hk]⟩
theorem Sim.gs {w a wire : Nat} (ha : a < 2 * w) {S T : St2} (h : Sim w S T) : Sim w (gs a wire S) (gs a wire T) := by
  unfold DL.gs
  rw [h.2 a ha]
  split
  · exact h.st _
  · exact h
/-! comparing words, comparing images -/
theorem Mv.eqv (m n : Mv) : PyData.eqv m.pd n.pd = decide (m = n) := by
  have ss : ∀ a b : Str, (a == b) = decide (a = b) := fun a b => by by_cases h : a = b <;> simp [h]
  have ii : ∀ a b : Int, (a == b) = decide (a = b) := fun a b => by by_cases h : a = b <;> simp [h]
  cases m with
  | one a w =>
    cases n with
    | one b v =>
      simp only [Mv.pd, PyData.eqv, PyData.eqvAll, ss, ii, Bool.and_true]
      rw [← Bool.decide_and]
      apply decide_eq_decide.mpr
      cases a <;> cases b <;> simp [N1.s, s_lit] <;> omega
    | two b c v => simp [Mv.pd, PyData.eqv, PyData.eqvAll]
  | two a w x =>
    cases n with
    | one b v => simp [Mv.pd, PyData.eqv, PyData.eqvAll]
    | two b c v =>
      simp only [Mv.pd, PyData.eqv, PyData.eqvAll, ss, ii, Bool.and_true]
      rw [← Bool.decide_and, ← Bool.decide_and]
      apply decide_eq_decide.mpr
      cases a <;> cases b <;> simp [N2.s, s_lit] <;> omega
theorem Mvs.eqv : ∀ ms ns : List Mv, PyData.eqvAll (ms.map Mv.pd) (ns.map Mv.pd) = decide (ms = ns)
  | [], [] => by simp [PyData.eqvAll]
  | [], n :: ns => by simp [PyData.eqvAll]
  | m :: ms, [] => by simp [PyData.eqvAll]
  | m :: ms, n :: ns => by
    simp only [List.map_cons, PyData.eqvAll, Mv.eqv, Mvs.eqv ms ns]
    rw [← Bool.decide_and]
    exact decide_eq_decide.mpr (by simp)
theorem Row.eqv (r s : Row) : PyData.eqv r.pd s.pd = decide (r = s) := by
  have ii : ∀ a b : Int, (a == b) = decide (a = b) := fun a b => by by_cases h : a = b <;> simp [h]
  simp only [Row.pd, PyData.eqv, PyData.eqvAll, ii, Bool.and_true]
  rw [← Bool.decide_and, ← Bool.decide_and]
  exact decide_eq_decide.mpr (by cases r; cases s; simp; omega)
theorem eq_lists {G : Gp} {p q : Addr} {xs ys : List D} {ds es : List PyData} (hp : G p = some (.lst xs)) (hq : G q = some (.lst ys)) (h : Pds G xs ds) (h' : Pds G ys es) (hl : PyData.canLayAll0 ds = true) (hl' : PyData.canLayAll0 es = true) (hd : PyData.depthAll ds ≤ 60) (hd' : PyData.depthAll es ≤ 60)
    (k : Bool → Prop) (q' : k (PyData.eqvAll ds es)) : wpCmp .Eq (.ref p) (.ref q) G k := by
  refine ⟨.list ds, .list es, .lst hp h, .lst hq h', ?_, ?_, ?_⟩
  · unfold SeqAt.shaped; simp [PyData.canLay0, hl, PyData.depth]; omega
  · unfold SeqAt.shaped; simp [PyData.canLay0, hl', PyData.depth]; omega
  · simpa [PyData.eqv] using q'
end DL
namespace DL
open PySem
end DL
namespace DL
open PySem
/-! a word done to vectors -/
def run (ms : List Mv) (f : Nat → Cx) : Nat → Cx := ms.foldl chg f
theorem run_app (a b : List Mv) (f : Nat → Cx) : run (a ++ b) f = run b (run a f) := List.foldl_append ..
theorem run_struck : ∀ (ms : List Mv) (f : Nat → Cx) (r : Row), (∀ m ∈ ms, m.Ok) → stk (run ms f) (act ms r) = run ms (stk f r)
  | [], f, r, _ => rfl
  | m :: ms, f, r, h => by
    show stk (run ms (chg f m)) (act ms (r.moved m)) = run ms (chg (stk f r) m)
    rw [run_struck ms _ _ fun m' h' => h m' (List.mem_cons_of_mem _ h')]
    congr 1
    funext k
    exact chg_struck f r m (h m (List.mem_cons_self ..)) k
/-- a vector times a whole number -/
def sca (n : Nat) (f : Nat → Cx) : Nat → Cx := fun k => ⟨(n : Int) * (f k).a, (n : Int) * (f k).b⟩
theorem sca_one (f : Nat → Cx) : sca 1 f = f := by
  funext k; simp [sca]
theorem sca_sca (m n : Nat) (f : Nat → Cx) : sca m (sca n f) = sca (m * n) f := by
  funext k
  simp only [sca, Cx.mk.injEq, Int.natCast_mul, Int.mul_assoc, and_self]
theorem im_sca (n : Nat) (c : Cx) : (Cx.mk ((n : Int) * c.a) ((n : Int) * c.b)).im = ⟨(n : Int) * c.im.a, (n : Int) * c.im.b⟩ := by
  simp only [Cx.im, Cx.mk.injEq]; constructor <;> grind
theorem spin_sca (n : Nat) (c : Cx) : ∀ t, (Cx.mk ((n : Int) * c.a) ((n : Int) * c.b)).spin t = ⟨(n : Int) * (c.spin t).a, (n : Int) * (c.spin t).b⟩
  | 0 => rfl
  | t + 1 => by
    show ((Cx.mk ((n : Int) * c.a) ((n : Int) * c.b)).spin t).im = _
    rw [spin_sca n c t, im_sca]; rfl
theorem chg_sca (n : Nat) (f : Nat → Cx) (m : Mv) : chg (sca n f) m = sca n (chg f m) := by
  funext k
  cases m with
  | one a w =>
    cases a <;> simp only [chg, sca] <;> (try split) <;> (try rfl) <;> first
      | exact spin_sca _ _ _
      | (simp only [Cx.add, Cx.sub, Cx.mk.injEq]; constructor <;> grind)
  | two a b c =>
    cases a <;> simp only [chg, sca] <;> (try split) <;> first | rfl | exact spin_sca _ _ _
def Mv.two? : Mv → Nat
  | .one .mix _ => 2
  | _ => 1
theorem chg_undo (f : Nat → Cx) (m : Mv) (hm : m.Ok) : chg (chg f m) m.undo = sca m.two? f := by
  funext k
  cases m with
  | one n w =>
    have hb := bt_lt k w
    cases n with
    | mix =>
      simp only [Mv.undo, chg, Mv.two?, sca, bt_px, xor_xor]
      rcases bit2 hb with b | b <;> rw [b] <;> simp only [Nat.reduceAdd, Nat.reduceMod, if_true, if_neg (show ¬ (1 = 0) by decide), Cx.add, Cx.sub, Cx.mk.injEq] <;> constructor <;> omega
    | flip => simp only [Mv.undo, chg, Mv.two?, sca, xor_xor]; simp
    | quarter =>
      simp only [Mv.undo, chg, Mv.two?, sca, N1.turn]
      split
      · rw [← Cx.spin_add, Cx.spin_eq _ (show (1 + 3) % 4 = 0 % 4 by decide)]; simp [Cx.spin]
      · simp
    | back =>
      simp only [Mv.undo, chg, Mv.two?, sca, N1.turn]
      split
      · rw [← Cx.spin_add, Cx.spin_eq _ (show (3 + 1) % 4 = 0 % 4 by decide)]; simp [Cx.spin]
      · simp
    | sign =>
      simp only [Mv.undo, chg, Mv.two?, sca, N1.turn]
      split
      · rw [← Cx.spin_add, Cx.spin_eq _ (show (2 + 2) % 4 = 0 % 4 by decide)]; simp [Cx.spin]
      · simp
  | two n a b =>
    have hab : a ≠ b := hm n a b rfl
    cases n with
    | join =>
      simp only [Mv.undo, chg, Mv.two?, sca]
      rw [bt_flip (bt_lt k a), if_neg hab, Nat.add_zero, Nat.mod_eq_of_lt (bt_lt k a), xor_xor]; simp
    | both =>
      simp only [Mv.undo, chg, Mv.two?, sca]
      split
      · rw [← Cx.spin_add, Cx.spin_eq _ (show (2 + 2) % 4 = 0 % 4 by decide)]; simp [Cx.spin]
      · simp
    | swap =>
      simp only [Mv.undo, chg, Mv.two?, sca]
      have h1 := bt_lt k a
      have h2 := bt_lt k b
      split
      · simp
      · rename_i h
        have e1 : bt (k ^^^ 2 ^ a ^^^ 2 ^ b) a = (bt k a + 1) % 2 := by rw [bt_px' _ hab, bt_px]
        have e2 : bt (k ^^^ 2 ^ a ^^^ 2 ^ b) b = (bt k b + 1) % 2 := by rw [bt_px, bt_px' _ (Ne.symm hab)]
        rw [e1, e2, if_neg (by omega), xor_mid _ (2 ^ b) (2 ^ a), xor_xor, xor_xor]; simp
def back (ms : List Mv) : List Mv := (ms.reverse).map Mv.undo
/-- how much a word and its undoing make of a vector -/
def many (ms : List Mv) : Nat := ms.foldr (fun m n => n * m.two?) 1
/-- a word and then its moves undone: so many times the vector -/
theorem run_back : ∀ (ms : List Mv) (f : Nat → Cx), (∀ m ∈ ms, m.Ok) → ∃ n : Nat, 0 < n ∧ run (back ms) (run ms f) = sca n f
  | [], f, _ => ⟨1, by decide, (sca_one f).symm⟩
  | m :: ms, f, h => by
    obtain ⟨n, hn, e⟩ := run_back ms (chg f m) fun m' h' => h m' (List.mem_cons_of_mem _ h')
    refine ⟨n * m.two?, Nat.mul_pos hn (by cases m with | one a w => cases a <;> simp [Mv.two?] | two a b c => simp [Mv.two?]), ?_⟩
    unfold back at e ⊢
    rw [List.reverse_cons, List.map_append, run_app]
    show run [m.undo] (run _ (run ms (chg f m))) = _
    rw [e]
    show chg (sca n (chg f m)) m.undo = _
    rw [chg_sca, chg_undo f m (h m (List.mem_cons_self ..)), sca_sca]
/-! only the places below 2 ^ w count -/
theorem chg_near {w : Nat} {m : Mv} (hm : m.On w) {f g : Nat → Cx} (h : ∀ k, k < 2 ^ w → f k = g k) : ∀ k, k < 2 ^ w → chg f m k = chg g m k := fun k hk => by
  cases m with
  | one n a =>
    have hx : k ^^^ 2 ^ a < 2 ^ w := Nat.xor_lt_two_pow hk (pow_lt hm)
    cases n <;> simp only [chg, h k hk, h _ hx]
  | two n a b =>
    obtain ⟨ha, hb, _⟩ := hm
    have h1 : k ^^^ bt k a * 2 ^ b < 2 ^ w := Nat.xor_lt_two_pow hk (unit_small (bt_lt k a) hb)
    have h2 : k ^^^ 2 ^ a ^^^ 2 ^ b < 2 ^ w := Nat.xor_lt_two_pow (Nat.xor_lt_two_pow hk (pow_lt ha)) (pow_lt hb)
    cases n <;> simp only [chg, h k hk, h _ h1, h _ h2]
theorem run_near {w : Nat} : ∀ (ms : List Mv) {f g : Nat → Cx}, (∀ m ∈ ms, m.On w) → (∀ k, k < 2 ^ w → f k = g k) → ∀ k, k < 2 ^ w → run ms f k = run ms g k
  | [], f, g, _, h => h
  | m :: ms, f, g, hm, h => run_near ms (fun m' h' => hm m' (List.mem_cons_of_mem _ h')) (chg_near (hm m (List.mem_cons_self ..)) h)
theorem stk_near {w : Nat} {r : Row} (hx : r.x < 2 ^ w) {f g : Nat → Cx} (h : ∀ k, k < 2 ^ w → f k = g k) : ∀ k, k < 2 ^ w → stk f r k = stk g r k := fun k hk => by
  unfold stk; rw [h _ (Nat.xor_lt_two_pow hk hx)]
/-! times a number -/
def mulc (f : Nat → Cx) (u : Cx) : Nat → Cx := fun k => (f k).mul u
theorem mulc_lin (f : Nat → Cx) (u : Cx) : mulc f u = lin f u f .zero := by
  funext k; simp [mulc, lin, Cx.mul, Cx.add, Cx.zero]
theorem chg_mulc (f : Nat → Cx) (u : Cx) (m : Mv) : chg (mulc f u) m = mulc (chg f m) u := by
  funext k
  rw [mulc_lin, chg_lin, ← mulc_lin]
theorem run_mulc (u : Cx) : ∀ (ms : List Mv) (f : Nat → Cx), run ms (mulc f u) = mulc (run ms f) u
  | [], f => rfl
  | m :: ms, f => by show run ms (chg (mulc f u) m) = mulc (run ms (chg f m)) u; rw [chg_mulc, run_mulc u ms]
theorem stk_mulc (f : Nat → Cx) (u : Cx) (r : Row) : stk (mulc f u) r = mulc (stk f r) u := by
  funext k; exact Cx.spin_mul _ _ _
def Cx.one : Cx := ⟨1, 0⟩
theorem Cx.mul_one (c : Cx) : c.mul .one = c := by simp [Cx.mul, Cx.one]
theorem Cx.one_mul (c : Cx) : Cx.one.mul c = c := by simp [Cx.mul, Cx.one]
theorem Cx.mul_assoc (a b c : Cx) : (a.mul b).mul c = a.mul (b.mul c) := by simp only [Cx.mul, Cx.mk.injEq]; constructor <;> grind
theorem zero_spin : ∀ n, Cx.zero.spin n = .zero
  | 0 => rfl
  | n + 1 => by show (Cx.zero.spin n).im = _; rw [zero_spin n]; rfl
/-! unit vectors -/
def un (j : Nat) : Nat → Cx := fun k => if k = j then .one else .zero
theorem xor_eq {k x j : Nat} : k ^^^ x = j ↔ k = j ^^^ x := ⟨fun h => by rw [← h, xor_xor], fun h => by rw [h, xor_xor]⟩
theorem stk_un (j : Nat) (r : Row) : stk (un j) r = mulc (un (j ^^^ r.x)) (Cx.one.spin (r.t + 2 * pop (r.z &&& j))) := by
  funext k
  unfold stk mulc un
  by_cases h : k ^^^ r.x = j
  · rw [if_pos h, if_pos (xor_eq.mp h), h, Cx.one_mul]
  · rw [if_neg h, if_neg fun e => h (xor_eq.mpr e), zero_spin, Cx.z_mul]
theorem back_back (ms : List Mv) : back (back ms) = ms := by
  unfold back
  rw [← List.map_reverse, List.reverse_reverse, List.map_map]
  have : (Mv.undo ∘ Mv.undo) = id := by
    funext m
    cases m with
    | one n a => cases n <;> rfl
    | two n a b => rfl
  rw [this, List.map_id]
theorem back_on {w : Nat} {ms : List Mv} (h : ∀ m ∈ ms, m.On w) : ∀ m ∈ back ms, m.On w := fun m hm => by
  obtain ⟨m', h', rfl⟩ := List.mem_map.mp hm
  exact Mv.undo_on (h _ (List.mem_reverse.mp h'))
theorem act_back (ms : List Mv) (r : Row) (ht : r.t < 4) (h : ∀ m ∈ ms, m.Ok) : act (back ms) (act ms r) = r := act_undo ms r ht h
/-- what is alike on single marks is alike on all rows -/
theorem act_all {w : Nat} {ms ns : List Mv} (hm : ∀ m ∈ ms, m.On w) (hn : ∀ m ∈ ns, m.On w) (h : ∀ k, k < 2 * w → act ms (bas k) = act ns (bas k)) {r : Row} (hr : r.On w) : act ms r = act ns r := by
  have om : ∀ m ∈ ms, m.Ok := fun m h => (hm m h).ok
  have on : ∀ m ∈ ns, m.Ok := fun m h => (hn m h).ok
  have bx : ∀ i, bas (2 * i) = ⟨0, 2 ^ i, 0⟩ := fun i => by unfold bas; rw [if_pos (by omega), show 2 * i / 2 = i by omega]
  have bz : ∀ i, bas (2 * i + 1) = ⟨0, 0, 2 ^ i⟩ := fun i => by unfold bas; rw [if_neg (by omega), show (2 * i + 1) / 2 = i by omega]
  have hx : ∀ i, i ≤ w → act ms ⟨r.t, r.x % 2 ^ i, 0⟩ = act ns ⟨r.t, r.x % 2 ^ i, 0⟩ := by
    intro i
    induction i with
    | zero => intro _; rw [Nat.pow_zero, Nat.mod_one, act_plain hr.t, act_plain hr.t]
    | succ i ih =>
      intro hi
      have ih := ih (by omega)
      have hb := bt_lt r.x i
      rcases bit2 hb with c | c
      · rw [mod_bt, c, Nat.zero_mul, Nat.add_zero]; exact ih
      · have e : (Row.mk r.t (r.x % 2 ^ (i + 1)) 0) = (Row.mk r.t (r.x % 2 ^ i) 0).mul (bas (2 * i)) := by
          rw [bx]; unfold Row.mul
          simp only [Nat.zero_and, pop_zero, Nat.mul_zero, Nat.add_zero, Nat.mod_eq_of_lt hr.t, Row.mk.injEq, Nat.xor_zero, and_true, true_and]
          rw [low_xor, mod_bt, c, Nat.one_mul]
        rw [e, act_mul ms _ _ om, act_mul ns _ _ on, ih, h (2 * i) (by omega)]
  have hz : ∀ i, i ≤ w → act ms ⟨r.t, r.x, r.z % 2 ^ i⟩ = act ns ⟨r.t, r.x, r.z % 2 ^ i⟩ := by
    intro i
    induction i with
    | zero =>
      intro _
      have := hx w (Nat.le_refl _)
      rw [Nat.mod_eq_of_lt hr.x] at this
      rw [Nat.pow_zero, Nat.mod_one]; exact this
    | succ i ih =>
      intro hi
      have ih := ih (by omega)
      have hb := bt_lt r.z i
      rcases bit2 hb with c | c
      · rw [mod_bt, c, Nat.zero_mul, Nat.add_zero]; exact ih
      · have e : (Row.mk r.t r.x (r.z % 2 ^ (i + 1))) = (Row.mk r.t r.x (r.z % 2 ^ i)).mul (bas (2 * i + 1)) := by
          rw [bz]; unfold Row.mul
          simp only [Nat.and_zero, pop_zero, Nat.mul_zero, Nat.add_zero, Nat.mod_eq_of_lt hr.t, Row.mk.injEq, Nat.xor_zero, and_true, true_and]
          rw [low_xor, mod_bt, c, Nat.one_mul]
        rw [e, act_mul ms _ _ om, act_mul ns _ _ on, ih, h (2 * i + 1) (by omega)]
  have := hz w (Nat.le_refl _)
  rw [Nat.mod_eq_of_lt hr.z] at this
  exact this
/-! words that do alike to single marks do alike to vectors, but for a number -/
section
variable {w : Nat} {U V : List Mv} (hU : ∀ m ∈ U, m.On w) (hV : ∀ m ∈ V, m.On w)
include hU hV
/-- the first unit vector's pictures lie on one line -/
theorem first_line (h : ∀ r : Row, r.On w → act U r = act V r) : ∃ (n : Nat) (c : Cx), 0 < n ∧ ∀ k, k < 2 ^ w → sca n (run V (un 0)) k = mulc (run U (un 0)) c k := by
  have oU : ∀ m ∈ U, m.Ok := fun m h => (hU m h).ok
  have oV : ∀ m ∈ V, m.Ok := fun m h => (hV m h).ok
  have oB : ∀ m ∈ back U, m.Ok := fun m h => (back_on hU m h).ok
  obtain ⟨g, hg⟩ : ∃ g, g = run (back U) (run V (un 0)) := ⟨_, rfl⟩
  have hz : ∀ i, i < w → stk g ⟨0, 0, 2 ^ i⟩ = g := fun i hi => by
    have hr : (Row.mk 0 0 (2 ^ i)).On w := ⟨Nat.zero_lt_succ 3, Nat.pow_pos (by decide), pow_lt hi⟩
    have e1 : stk (un 0) ⟨0, 0, 2 ^ i⟩ = un 0 := by
      rw [stk_un]
      simp only [Nat.xor_zero, Nat.and_zero, pop_zero, Nat.mul_zero, Nat.add_zero]
      funext k; exact Cx.mul_one _
    have e2 := run_struck V (un 0) ⟨0, 0, 2 ^ i⟩ oV
    rw [e1, ← h _ hr] at e2
    have e3 := run_struck (back U) (run V (un 0)) (act U ⟨0, 0, 2 ^ i⟩) oB
    rw [e2, act_back U _ (Nat.zero_lt_succ 3) oU, ← hg] at e3
    exact e3
  have gz : ∀ k, k < 2 ^ w → g k = mulc (un 0) (g 0) k := fun k hk => by
    unfold mulc un
    by_cases h0 : k = 0
    · subst h0; rw [if_pos rfl, Cx.one_mul]
    · rw [if_neg h0, Cx.z_mul]
      obtain ⟨l1, _⟩ := low_ok k h0
      have li : low k < w := by
        rcases Nat.lt_or_ge (low k) w with q | q
        · exact q
        · rw [bt_big hk q] at l1; omega
      have e := congrFun (hz _ li) k
      unfold stk at e
      have p : pop (2 ^ low k &&& k) = 1 := by rw [Nat.and_comm, and_pow, l1, Nat.one_mul]; have := pop_unit (b := 1) (by decide) (low k); rwa [Nat.one_mul] at this
      simp only [Nat.xor_zero, p] at e
      have e : (g k).neg = g k := e
      generalize g k = c at e
      cases c
      simp only [Cx.neg, Cx.mk.injEq, Cx.zero] at e ⊢
      omega
  obtain ⟨n, hn, en⟩ := run_back (back U) (run V (un 0)) oB
  rw [back_back, ← hg] at en
  refine ⟨n, g 0, hn, fun k hk => ?_⟩
  rw [← en, run_near U hU gz k hk, run_mulc]
/-- .. and so do all unit vectors' pictures, with the same numbers -/
theorem all_line (h : ∀ r : Row, r.On w → act U r = act V r) : ∃ (n : Nat) (c : Cx), 0 < n ∧ ∀ j, j < 2 ^ w → ∀ k, k < 2 ^ w → sca n (run V (un j)) k = mulc (run U (un j)) c k := by
  have oU : ∀ m ∈ U, m.Ok := fun m h => (hU m h).ok
  have oV : ∀ m ∈ V, m.Ok := fun m h => (hV m h).ok
  obtain ⟨n, c, hn, h0⟩ := first_line hU hV h
  refine ⟨n, c, hn, fun j hj k hk => ?_⟩
  have hr : (Row.mk 0 j 0).On w := ⟨Nat.zero_lt_succ 3, hj, Nat.pow_pos (by decide)⟩
  have e1 : stk (un 0) ⟨0, j, 0⟩ = un j := by
    rw [stk_un]
    simp only [Nat.zero_and, pop_zero, Nat.mul_zero, Nat.add_zero, Nat.zero_xor]
    funext k; exact Cx.mul_one _
  have eU := run_struck U (un 0) ⟨0, j, 0⟩ oU
  have eV := run_struck V (un 0) ⟨0, j, 0⟩ oV
  rw [e1] at eU eV
  rw [← h _ hr] at eV
  have ho := act_on U _ hr hU
  have ss : ∀ f : Nat → Cx, stk (sca n f) (act U ⟨0, j, 0⟩) = sca n (stk f (act U ⟨0, j, 0⟩)) := fun f => by
    funext k; exact spin_sca n _ _
  rw [← eU, ← eV, ← ss, ← stk_mulc]
  exact stk_near ho.x h0 k hk
end
end DL
namespace DL
open PySem
/-! a small bench, and what its deeds make of it -/
def sgn (a : Nat) : Row := ⟨2 * a, 0, 0⟩
structure Sm where
  R : Nat → Row
  P : Nat → Row
  as : List Nat
inductive De where
  | mv (m : Mv) | look (k : Nat) | ask (r : Row) (ns : List Nat) | when (n : Nat) (r : Row)
def De.d : De → D
  | .mv m => m.d
  | .look k => .tup [.str "look", .int (k : Int)]
  | .ask r ns => .tup [.str "ask", r.d, .tup (ns.map fun n => D.int ((n : Nat) : Int))]
  | .when n r => .tup [.str "when", .int (n : Int), r.d]
/-- fitting w wires, behind n looks -/
def De.On (w n : Nat) : De → Prop
  | .mv m => m.On w
  | .look k => k < w
  | .ask r ns => r.On w ∧ r.straight = true ∧ ∀ j ∈ ns, j < n
  | .when j r => j < n ∧ r.On w
def De.isL : De → Bool
  | .look _ => true
  | .ask _ _ => true
  | _ => false
def Sm.start : Sm := ⟨fun k => ⟨0, 0, 2 ^ k⟩, fun k => ⟨0, 2 ^ k, 0⟩, []⟩
def Sm.sgd (s : Sm) (r : Row) (ns : List Nat) : Row := ns.foldl (fun r n => r.mul (sgn (s.as.getD n 0))) r
def De.row (s : Sm) : De → Row
  | .look k => ⟨0, 0, 2 ^ k⟩
  | .ask r ns => s.sgd r ns
  | _ => .one
def fstc (w : Nat) (f : Nat → Row) (r : Row) : Option Nat := (List.range w).find? fun k => (f k).crosses r
def fnd (w : Nat) (R P : Nat → Row) (r : Row) : List Row := ((List.range w).filter fun k => (P k).crosses r).map R
def Sm.left (w : Nat) (s : Sm) (r : Row) : Row := (fnd w s.R s.P r).foldl Row.mul r
def Sm.even (s : Sm) (a : Nat) (r : Row) (c : Nat) : Sm where
  R k := if k = a then r.mul (sgn c) else if (s.R k).crosses r then (s.R k).mul (s.R a) else s.R k
  P k := if k = a then s.R a else if (s.P k).crosses r then (s.P k).mul (s.R a) else s.P k
  as := s.as ++ [c]
structure Tl where
  even : Bool
  a : Nat
  rs : List Row
def Tl.kd (t : Tl) : Str := if t.even then "even" else "sure"
def Sm.told (s : Sm) (a : Nat) : Sm := { s with as := s.as ++ [a] }
def Sm.look (w : Nat) (s : Sm) (r : Row) (c : Nat) : Tl × Sm :=
  match fstc w s.R r with
  | some a => (⟨true, c, [s.R a]⟩, s.even a r c)
  | none => (⟨false, (s.left w r).t / 2, fnd w s.R s.P r⟩, s.told ((s.left w r).t / 2))
def Sm.move (s : Sm) (m : Mv) : Sm := ⟨fun k => (s.R k).moved m, fun k => (s.P k).moved m, s.as⟩
def Sm.strike (s : Sm) (n : Nat) (r : Row) : Sm := { s with R := fun k => if (s.R k).crosses r then (s.R k).mul (sgn (s.as.getD n 0)) else s.R k }
def Sm.step (w : Nat) (s : Sm) (c : Nat) : De → Sm
  | .mv m => s.move m
  | .look k => (s.look w ⟨0, 0, 2 ^ k⟩ c).2
  | .ask r ns => (s.look w (s.sgd r ns) c).2
  | .when n r => s.strike n r
theorem fstc_none {w : Nat} {f : Nat → Row} {r : Row} : fstc w f r = none ↔ ∀ k, k < w → (f k).crosses r = false := by
  unfold fstc
  rw [List.find?_eq_none]
  simp
theorem fstc_some {w : Nat} {f : Nat → Row} {r : Row} {a : Nat} (h : fstc w f r = some a) : a < w ∧ (f a).crosses r = true := by
  unfold fstc at h
  exact ⟨by simpa using List.mem_of_find?_eq_some h, by simpa using List.find?_some h⟩
theorem fnd_step (w : Nat) (R P : Nat → Row) (r : Row) : fnd (w + 1) R P r = fnd w R P r ++ if (P w).crosses r = true then [R w] else [] := by
  unfold fnd
  rw [List.range_succ, List.filter_append, List.map_append]
  congr 1
  simp only [List.filter_cons, List.filter_nil]
  split <;> rfl
/-! what a bench owns, and what its deeds leave alone -/
def Ow (G : Gp) (b a : Addr) : Prop := a = b ∨ ∃ c fs f, G b = some (.ins c fs) ∧ (f, D.ref a) ∈ fs
theorem none_gup {G : Gp} {a x : Addr} {o : GO} (h : gup G a o x = none) : G x = none := by
  by_cases e : x = a
  · subst e; rw [gup_same] at h; cases h
  · rw [gup_ne e] at h; exact h
structure Fr (b : Addr) (G G' : Gp) : Prop where
  keep : ∀ a o, ¬ Ow G b a → G a = some o → G' a = some o
  own : ∀ a, Ow G' b a → Ow G b a ∨ G a = none
  all : ∀ a, G' a = none → G a = none
theorem Fr.rfl {b : Addr} {G : Gp} : Fr b G G := ⟨fun _ _ _ h => h, fun _ h => .inl h, fun _ h => h⟩
theorem Fr.trans {b : Addr} {G G' G'' : Gp} (h : Fr b G G') (k : Fr b G' G'') : Fr b G G'' := by
  refine ⟨fun a o n e => ?_, fun a q => ?_, fun a e => h.all a (k.all a e)⟩
  · refine k.keep a o (fun q => ?_) (h.keep a o n e)
    rcases h.own a q with z | z
    · exact n z
    · rw [e] at z; cases z
  · rcases k.own a q with z | z
    · exact h.own a z
    · exact .inr (h.all a z)
theorem Ow.ext {b a : Addr} {G G' : Gp} {o : GO} (hb : G b = some o) (h : Ext G G') : Ow G' b a ↔ Ow G b a := by
  unfold Ow
  rw [h b o hb, hb]
theorem Fr.ext {b : Addr} {G G' : Gp} {o : GO} (hb : G b = some o) (h : Ext G G') : Fr b G G' :=
  ⟨fun a u _ e => h a u e, fun a q => .inl ((Ow.ext hb h).mp q), fun a e => h.none e⟩
theorem Fr.put {b a : Addr} {G : Gp} (hn : a ≠ b) (ha : Ow G b a) (o : GO) : Fr b G (gup G a o) := by
  refine ⟨fun x u n e => ?_, fun x q => .inl ?_, fun x e => none_gup e⟩
  · rw [gup_ne (show x ≠ a from fun z => n (by rw [z]; exact ha))]; exact e
  · unfold Ow at *
    rw [gup_ne (Ne.symm hn)] at q
    exact q
theorem Fr.fld {b : Addr} {G G' : Gp} (h : Fr b G G') {c c' : Nat} {fs fs' : List (Fd × D)} (hb : G' b = some (.ins c fs)) (k : ∀ f a, (f, D.ref a) ∈ fs' → (∃ g, (g, D.ref a) ∈ fs) ∨ G a = none) : Fr b G (gup G' b (.ins c' fs')) := by
  refine ⟨fun x u n e => ?_, fun x q => ?_, fun x e => h.all x (none_gup e)⟩
  · rw [gup_ne (show x ≠ b from fun z => n (.inl z))]; exact h.keep x u n e
  · rcases q with q | ⟨c2, fs2, f, q, m⟩
    · exact h.own x (.inl q)
    · rw [gup_same] at q
      cases q
      rcases k f x m with ⟨g, z⟩ | z
      · exact h.own x (.inr ⟨c, fs, g, hb, z⟩)
      · exact .inr z
/-- something that the bench does not own -/
def Out (b x : Addr) (o : GO) (G : Gp) : Prop := G x = some o ∧ ¬ Ow G b x
theorem Out.fr {b x : Addr} {o : GO} {G G' : Gp} (h : Out b x o G) (k : Fr b G G') : Out b x o G' := by
  refine ⟨k.keep _ _ h.2 h.1, fun q => ?_⟩
  rcases k.own x q with z | z
  · exact h.2 z
  · rw [h.1] at z; cases z
theorem Out.ext {b x : Addr} {o u : GO} {G G' : Gp} (h : Out b x o G) (hb : G b = some u) (k : Ext G G') : Out b x o G' := h.fr (Fr.ext hb k)
/-- a small bench on the heap -/
structure StS (b pa pr pp : Addr) (w : Nat) (s : Sm) (G : Gp) : Prop where
  ar : pa ≠ pr
  ap : pa ≠ pp
  rp : pr ≠ pp
  gb : G b = some (.ins 0 [(.wires, .int (w : Int)), (.answers, .ref pa), (.rows, .ref pr), (.partners, .ref pp)])
  ga : G pa = some (.lst (s.as.map fun n => D.int ((n : Nat) : Int)))
  gr : G pr = some (.lst (rl w s.R))
  gp : G pp = some (.lst (rl w s.P))
def SS (b : Addr) (w : Nat) (s : Sm) (G : Gp) : Prop := ∃ pa pr pp, StS b pa pr pp w s G
section
variable {b pa pr pp : Addr} {w : Nat} {s : Sm} {G G' : Gp}
theorem StS.ow (h : StS b pa pr pp w s G) (a : Addr) : Ow G b a ↔ a = b ∨ a = pa ∨ a = pr ∨ a = pp := by
  unfold Ow
  rw [h.gb]
  constructor
  · rintro (e | ⟨c, fs, f, e, m⟩)
    · exact .inl e
    · cases e
      simp only [List.mem_cons, Prod.mk.injEq, reduceCtorEq, and_false, false_or, List.not_mem_nil, or_false, D.ref.injEq] at m
      rcases m with ⟨_, e⟩ | ⟨_, e⟩ | ⟨_, e⟩
      · exact .inr (.inl e)
      · exact .inr (.inr (.inl e))
      · exact .inr (.inr (.inr e))
  · rintro (e | e | e | e)
    · exact .inl e
    · exact .inr ⟨_, _, .answers, rfl, by rw [e]; simp⟩
    · exact .inr ⟨_, _, .rows, rfl, by rw [e]; simp⟩
    · exact .inr ⟨_, _, .partners, rfl, by rw [e]; simp⟩
theorem StS.ext (h : StS b pa pr pp w s G) (k : Ext G G') : StS b pa pr pp w s G' := ⟨h.ar, h.ap, h.rp, k _ _ h.gb, k _ _ h.ga, k _ _ h.gr, k _ _ h.gp⟩
theorem SS.ext (h : SS b w s G) (k : Ext G G') : SS b w s G' := by
  obtain ⟨pa, pr, pp, h⟩ := h
  exact ⟨pa, pr, pp, h.ext k⟩
theorem SS.frx (h : SS b w s G) (k : Ext G G') : Fr b G G' := by
  obtain ⟨pa, pr, pp, h⟩ := h
  exact Fr.ext h.gb k
theorem StS.free (h : StS b pa pr pp w s G) {a : Addr} (ha : G a = none) : ¬ Ow G b a := fun q => by
  rcases (h.ow a).mp q with rfl | rfl | rfl | rfl
  · rw [h.gb] at ha; cases ha
  · rw [h.ga] at ha; cases ha
  · rw [h.gr] at ha; cases ha
  · rw [h.gp] at ha; cases ha
theorem SS.free (h : SS b w s G) {a : Addr} (ha : G a = none) : ¬ Ow G b a := by
  obtain ⟨pa, pr, pp, h⟩ := h
  exact h.free ha
/-- a new object is none of the bench's -/
theorem SS.new (h : SS b w s G) {a : Addr} (ha : G a = none) (o : GO) : Out b a o (gup G a o) := by
  refine ⟨gup_same, fun q => h.free ha ?_⟩
  obtain ⟨pa, pr, pp, h⟩ := h
  exact (Ow.ext h.gb (Ext.rfl.new ha o)).mp q
theorem SS.new' (h : SS b w s G) (k : Ext G G') {a : Addr} (ha : G a = none) {o : GO} (e : G' a = some o) : Out b a o G' := by
  refine ⟨e, fun q => h.free ha ?_⟩
  obtain ⟨pa, pr, pp, h⟩ := h
  exact (Ow.ext h.gb k).mp q
theorem SS.out (h : SS b w s G) {a : Addr} {o : GO} (e : Out b a o G) (k : Ext G G') : Out b a o G' := e.fr (h.frx k)
theorem SS.gb (h : SS b w s G) : ∃ fs, G b = some (.ins 0 fs) := by
  obtain ⟨pa, pr, pp, h⟩ := h
  exact ⟨_, h.gb⟩
theorem SS.some (h : SS b w s G) : ∃ o, G b = some o := by
  obtain ⟨pa, pr, pp, h⟩ := h
  exact ⟨_, h.gb⟩
theorem StS.oa (h : StS b pa pr pp w s G) : Ow G b pa := (h.ow _).mpr (.inr (.inl rfl))
theorem StS.orr (h : StS b pa pr pp w s G) : Ow G b pr := (h.ow _).mpr (.inr (.inr (.inl rfl)))
theorem StS.op (h : StS b pa pr pp w s G) : Ow G b pp := (h.ow _).mpr (.inr (.inr (.inr rfl)))
end
end DL
namespace DL
open PySem
/-! rows held and their partners -/
theorem Row.crosses_mul2 (r s u : Row) : (r.mul s).crosses u = (r.crosses u ^^ s.crosses u) := by
  have h1 := pop_xor_l r.x s.x u.z
  have h2 := pop_xor_l r.z s.z u.x
  unfold Row.crosses Row.mul
  have e : (pop ((r.x ^^^ s.x) &&& u.z) + pop ((r.z ^^^ s.z) &&& u.x)) % 2 = ((pop (r.x &&& u.z) + pop (r.z &&& u.x)) % 2 + (pop (s.x &&& u.z) + pop (s.z &&& u.x)) % 2) % 2 := by omega
  simp only [e]
  rcases Nat.mod_two_eq_zero_or_one (pop (r.x &&& u.z) + pop (r.z &&& u.x)) with a | a <;> rcases Nat.mod_two_eq_zero_or_one (pop (s.x &&& u.z) + pop (s.z &&& u.x)) with b | b <;> rw [a, b] <;> rfl
theorem Row.crosses_mul3 (r s u : Row) : u.crosses (r.mul s) = (u.crosses r ^^ u.crosses s) := by
  rw [Row.crosses_comm, Row.crosses_mul2, Row.crosses_comm r, Row.crosses_comm s]
theorem Row.crosses_self (r : Row) : r.crosses r = false := by
  unfold Row.crosses
  rw [Nat.and_comm r.z r.x]
  exact decide_eq_false (by omega)
theorem Row.crosses_plain {r : Row} (hx : r.x = 0) (hz : r.z = 0) (u : Row) : r.crosses u = false := by
  unfold Row.crosses
  rw [hx, hz, Nat.zero_and, Nat.zero_and, pop_zero]; rfl
theorem sgn_cross (a : Nat) (u : Row) : (sgn a).crosses u = false := Row.crosses_plain rfl rfl u
theorem cross_sgn (a : Nat) (u : Row) : u.crosses (sgn a) = false := by rw [Row.crosses_comm]; exact sgn_cross a u
theorem mul_sgn (r : Row) (a : Nat) : r.mul (sgn a) = ⟨(r.t + 2 * a) % 4, r.x, r.z⟩ := by simp [Row.mul, sgn, pop_zero]
theorem sgn_mul (r : Row) (a : Nat) : (sgn a).mul r = ⟨(r.t + 2 * a) % 4, r.x, r.z⟩ := by simp [Row.mul, sgn, pop_zero, Nat.add_comm]
theorem sgn_comm (r : Row) (a : Nat) : (sgn a).mul r = r.mul (sgn a) := by rw [mul_sgn, sgn_mul]
theorem sgn_straight (r : Row) (a : Nat) : (r.mul (sgn a)).straight = r.straight := by
  rw [mul_sgn]
  unfold Row.straight
  apply decide_eq_decide.mpr
  show ((r.t + 2 * a) % 4 + pop (r.x &&& r.z)) % 2 = 0 ↔ (r.t + pop (r.x &&& r.z)) % 2 = 0
  omega
theorem sgn_on {w : Nat} {r : Row} (h : r.On w) (a : Nat) : (r.mul (sgn a)).On w := by
  rw [mul_sgn]; exact ⟨Nat.mod_lt _ (by decide), h.x, h.z⟩
theorem sgn_sgn (a b : Nat) : (sgn a).mul (sgn b) = ⟨(2 * a + 2 * b) % 4, 0, 0⟩ := by rw [mul_sgn]; rfl
theorem Row.comm2 {r s : Row} (h : r.crosses s = false) : r.mul s = s.mul r := by
  have := Row.crosses_prod r s
  rw [h] at this
  have := of_decide_eq_false this.symm
  simp only [ne_eq, Decidable.not_not] at this
  unfold Row.mul at *
  simp only [Row.mk.injEq, Nat.xor_comm, and_self, and_true] at *
  exact this
theorem turned_sgn (r : Row) (h : r.t < 4) : r.turned = r.mul (sgn 1) := by
  rw [mul_sgn]; unfold Row.turned; rfl
structure Tab (w : Nat) (R P : Nat → Row) : Prop where
  on : ∀ k, k < w → (R k).On w ∧ (P k).On w
  st : ∀ k, k < w → (R k).straight = true
  rr : ∀ i j, i < w → j < w → (R i).crosses (R j) = false
  rp : ∀ i j, i < w → j < w → (R i).crosses (P j) = decide (i = j)
  nd : ∀ r : Row, r.x < 2 ^ w → r.z < 2 ^ w → (∀ k, k < w → r.crosses (R k) = false ∧ r.crosses (P k) = false) → r.x = 0 ∧ r.z = 0
theorem bt_hi {n k i : Nat} (h : n < 2 ^ k) (hi : k ≤ i) : bt n i = 0 := by
  unfold bt
  rw [Nat.div_eq_of_lt (Nat.lt_of_lt_of_le h (Nat.pow_le_pow_right (by decide) hi))]
theorem cross_z (r : Row) (k : Nat) : r.crosses ⟨0, 0, 2 ^ k⟩ = decide (bt r.x k = 1) := by
  unfold Row.crosses
  have h := and_unit (d := 1) (by decide) k r.x
  rw [Nat.one_mul, Nat.one_mul, Nat.and_comm] at h
  have hb := bt_lt r.x k
  simp only [h, pop_unit hb, Nat.and_zero, pop_zero, Nat.add_zero, Nat.mod_eq_of_lt hb]
theorem cross_x (r : Row) (k : Nat) : r.crosses ⟨0, 2 ^ k, 0⟩ = decide (bt r.z k = 1) := by
  unfold Row.crosses
  have h := and_unit (d := 1) (by decide) k r.z
  rw [Nat.one_mul, Nat.one_mul, Nat.and_comm] at h
  have hb := bt_lt r.z k
  simp only [h, pop_unit hb, Nat.and_zero, pop_zero, Nat.zero_add, Nat.mod_eq_of_lt hb]
theorem zero_of {n w : Nat} (h : n < 2 ^ w) (hb : ∀ k, k < w → bt n k = 0) : n = 0 := by
  apply bt_eq
  intro i
  rw [bt_zero]
  by_cases hi : i < w
  · exact hb i hi
  · exact bt_hi h (by omega)
theorem Tab.start (w : Nat) : Tab w Sm.start.R Sm.start.P := by
  have h0 : 0 < 2 ^ w := Nat.pow_pos (by decide)
  refine ⟨fun k hk => ?_, fun k hk => ?_, fun i j _ _ => ?_, fun i j _ _ => ?_, fun r hx hz h => ?_⟩
  · have hp : 2 ^ k < 2 ^ w := pow_lt hk
    exact ⟨⟨Nat.zero_lt_succ 3, h0, hp⟩, ⟨Nat.zero_lt_succ 3, hp, h0⟩⟩
  · show Row.straight ⟨0, 0, 2 ^ k⟩ = true
    unfold Row.straight; simp [pop_zero]
  · show Row.crosses ⟨0, 0, 2 ^ i⟩ ⟨0, 0, 2 ^ j⟩ = false
    unfold Row.crosses; simp [pop_zero]
  · show Row.crosses ⟨0, 0, 2 ^ i⟩ ⟨0, 2 ^ j, 0⟩ = _
    unfold Row.crosses
    simp only [Nat.zero_and, pop_zero, Nat.zero_add, pop_pow2]
    by_cases e : i = j
    · rw [if_pos e]; simp [e]
    · rw [if_neg e]; simp [e]
  · refine ⟨zero_of hx fun k hk => ?_, zero_of hz fun k hk => ?_⟩
    · have q := (h k hk).1
      rw [show Sm.start.R k = ⟨0, 0, 2 ^ k⟩ from rfl, cross_z] at q
      have := of_decide_eq_false q
      have := bt_lt r.x k
      omega
    · have q := (h k hk).2
      rw [show Sm.start.P k = ⟨0, 2 ^ k, 0⟩ from rfl, cross_x] at q
      have := of_decide_eq_false q
      have := bt_lt r.z k
      omega
theorem Mv.undo_undo (m : Mv) : m.undo.undo = m := by
  cases m with
  | one n w => cases n <;> rfl
  | two n a b => rfl
theorem Tab.move {w : Nat} {R P : Nat → Row} (h : Tab w R P) {m : Mv} (hm : m.On w) : Tab w (fun k => (R k).moved m) (fun k => (P k).moved m) := by
  refine ⟨fun k hk => ⟨(h.on k hk).1.moved hm, (h.on k hk).2.moved hm⟩, fun k hk => ?_, fun i j hi hj => ?_, fun i j hi hj => ?_, fun r hx hz q => ?_⟩
  · rw [Row.straight_moved _ hm.ok]; exact h.st k hk
  · rw [Row.crosses_moved _ _ hm.ok]; exact h.rr i j hi hj
  · rw [Row.crosses_moved _ _ hm.ok]; exact h.rp i j hi hj
  · have hon : (Row.mk 0 r.x r.z).On w := ⟨Nat.zero_lt_succ 3, hx, hz⟩
    have hu := Mv.undo_on hm
    have e := Row.moved_undo (r := Row.mk 0 r.x r.z) (Nat.zero_lt_succ 3) hu.ok
    rw [Mv.undo_undo] at e
    have hon1 := hon.moved hu
    generalize (Row.mk 0 r.x r.z).moved m.undo = r1 at *
    have hc : ∀ u : Row, (r1.moved m).crosses u = r.crosses u := fun u => by rw [e]; rfl
    have z := h.nd r1 hon1.x hon1.z fun k hk => by
      have := q k hk
      rw [← hc, ← hc, Row.crosses_moved _ _ hm.ok, Row.crosses_moved _ _ hm.ok] at this
      exact this
    obtain ⟨t, x, y⟩ := r1
    obtain ⟨rfl, rfl⟩ : x = 0 ∧ y = 0 := z
    rw [Row.plain_moved t hon1.t] at e
    cases r
    simp only [Row.mk.injEq] at e
    exact ⟨e.2.1.symm, e.2.2.symm⟩
theorem Tab.strike {w : Nat} {R P : Nat → Row} (h : Tab w R P) (q : Row) (a : Nat) : Tab w (fun k => if (R k).crosses q then (R k).mul (sgn a) else R k) P := by
  have hc : ∀ k u, (if (R k).crosses q then (R k).mul (sgn a) else R k).crosses u = (R k).crosses u := fun k u => by
    split
    · rw [Row.crosses_mul2, sgn_cross, Bool.xor_false]
    · rfl
  have hc2 : ∀ (k : Nat) (u : Row), u.crosses (if (R k).crosses q then (R k).mul (sgn a) else R k) = u.crosses (R k) := fun k u => by
    rw [Row.crosses_comm, hc, Row.crosses_comm]
  refine ⟨fun k hk => ⟨?_, (h.on k hk).2⟩, fun k hk => ?_, fun i j hi hj => ?_, fun i j hi hj => ?_, fun r hx hz g => ?_⟩
  · split
    · exact sgn_on (h.on k hk).1 a
    · exact (h.on k hk).1
  · split
    · rw [sgn_straight]; exact h.st k hk
    · exact h.st k hk
  · rw [hc, hc2]; exact h.rr i j hi hj
  · rw [hc]; exact h.rp i j hi hj
  · exact h.nd r hx hz fun k hk => by
      have := g k hk
      rw [hc2] at this; exact this
section
variable {w : Nat} {s : Sm} {a : Nat} {r : Row} {c : Nat}
theorem even_R (u : Row) (k : Nat) (hk : k ≠ a) : u.crosses ((s.even a r c).R k) = (u.crosses (s.R k) ^^ ((s.R k).crosses r && u.crosses (s.R a))) := by
  show u.crosses (if k = a then _ else _) = _
  rw [if_neg hk]
  split
  · rename_i e; rw [Row.crosses_mul3, e, Bool.true_and]
  · rename_i e; rw [Bool.eq_false_iff.mpr e, Bool.false_and, Bool.xor_false]
theorem even_P (u : Row) (k : Nat) (hk : k ≠ a) : u.crosses ((s.even a r c).P k) = (u.crosses (s.P k) ^^ ((s.P k).crosses r && u.crosses (s.R a))) := by
  show u.crosses (if k = a then _ else _) = _
  rw [if_neg hk]
  split
  · rename_i e; rw [Row.crosses_mul3, e, Bool.true_and]
  · rename_i e; rw [Bool.eq_false_iff.mpr e, Bool.false_and, Bool.xor_false]
theorem even_Ra : (s.even a r c).R a = r.mul (sgn c) := by show (if a = a then _ else _) = _; rw [if_pos rfl]
theorem even_Pa : (s.even a r c).P a = s.R a := by show (if a = a then _ else _) = _; rw [if_pos rfl]
theorem Tab.even (h : Tab w s.R s.P) (ha : a < w) (hx : (s.R a).crosses r = true) (hr : r.On w) (hs : r.straight = true) : Tab w (s.even a r c).R (s.even a r c).P := by
  have hx' : r.crosses (s.R a) = true := by rw [Row.crosses_comm]; exact hx
  have hsg : ∀ u : Row, u.crosses (r.mul (sgn c)) = u.crosses r := fun u => by rw [Row.crosses_mul3, cross_sgn, Bool.xor_false]
  have hsg' : ∀ u : Row, (r.mul (sgn c)).crosses u = r.crosses u := fun u => by rw [Row.crosses_mul2, sgn_cross, Bool.xor_false]
  refine ⟨fun k hk => ⟨?_, ?_⟩, fun k hk => ?_, fun i j hi hj => ?_, fun i j hi hj => ?_, fun u ux uz g => ?_⟩
  · show Row.On w (if k = a then _ else _)
    split
    · exact sgn_on hr c
    · split
      · exact (h.on k hk).1.mul (h.on a ha).1
      · exact (h.on k hk).1
  · show Row.On w (if k = a then _ else _)
    split
    · exact (h.on a ha).1
    · split
      · exact (h.on k hk).2.mul (h.on a ha).1
      · exact (h.on k hk).2
  · show Row.straight (if k = a then _ else _) = true
    split
    · rw [sgn_straight]; exact hs
    · split
      · rw [Row.straight_mul (h.st k hk) (h.st a ha), h.rr k a hk ha]; rfl
      · exact h.st k hk
  · by_cases ei : i = a
    · subst ei
      rw [even_Ra, hsg']
      by_cases ej : j = i
      · subst ej; rw [even_Ra, hsg]; exact Row.crosses_self r
      · rw [even_R _ _ ej, hx', Row.crosses_comm r, Bool.and_true, Bool.xor_self]
    · by_cases ej : j = a
      · subst ej
        rw [even_Ra, hsg, Row.crosses_comm, even_R _ _ ei, hx', Row.crosses_comm r, Bool.and_true, Bool.xor_self]
      · rw [even_R _ _ ej, Row.crosses_comm _ (s.R j), Row.crosses_comm _ (s.R a), even_R _ _ ei, even_R _ _ ei, h.rr j i hj hi, h.rr j a hj ha, h.rr a i ha hi, h.rr a a ha ha]
        simp
  · by_cases ei : i = a
    · subst ei
      rw [even_Ra, hsg']
      by_cases ej : j = i
      · subst ej; rw [even_Pa, hx']; simp
      · rw [even_P _ _ ej, hx', Row.crosses_comm r, Bool.and_true, Bool.xor_self]
        exact (decide_eq_false (Ne.symm ej)).symm
    · by_cases ej : j = a
      · subst ej
        rw [even_Pa, Row.crosses_comm, even_R _ _ ei, h.rr j i hj hi, h.rr j j hj hj]
        simp [ei]
      · rw [even_P _ _ ej, Row.crosses_comm _ (s.P j), Row.crosses_comm _ (s.R a), even_R _ _ ei, even_R _ _ ei, h.rr a i ha hi, h.rr a a ha ha, Row.crosses_comm (s.P j), Row.crosses_comm (s.P j), h.rp i j hi hj, h.rp a j ha hj]
        simp [Ne.symm ej]
  · have u1 : u.crosses (s.R a) = false := by have := (g a ha).2; rw [even_Pa] at this; exact this
    have u2 : ∀ k, k < w → u.crosses (s.R k) = false := fun k hk => by
      by_cases e : k = a
      · subst e; exact u1
      · have := (g k hk).1; rw [even_R _ _ e, u1] at this; simpa using this
    have u3 : ∀ k, k < w → k ≠ a → u.crosses (s.P k) = false := fun k hk e => by
      have := (g k hk).2; rw [even_P _ _ e, u1] at this; simpa using this
    have u4 : u.crosses r = false := by have := (g a ha).1; rw [even_Ra, hsg] at this; exact this
    by_cases u5 : u.crosses (s.P a) = true
    · have v := h.nd (u.mul (s.R a)) (Nat.xor_lt_two_pow ux (h.on a ha).1.x) (Nat.xor_lt_two_pow uz (h.on a ha).1.z) fun k hk => by
        refine ⟨?_, ?_⟩
        · rw [Row.crosses_mul2, u2 k hk, h.rr a k ha hk]; rfl
        · rw [Row.crosses_mul2, h.rp a k ha hk]
          by_cases e : k = a
          · subst e; rw [u5]; simp
          · rw [u3 k hk e, decide_eq_false (Ne.symm e)]; rfl
      have z := Row.crosses_plain v.1 v.2 r
      rw [Row.crosses_mul2, u4, hx] at z
      cases z
    · exact h.nd u ux uz fun k hk => by
        refine ⟨u2 k hk, ?_⟩
        by_cases e : k = a
        · subst e; exact Bool.eq_false_iff.mpr u5
        · exact u3 k hk e
end
/-! products of rows held -/
def prs (R : Nat → Row) (S : Nat → Bool) : Nat → Row
  | 0 => .one
  | n + 1 => if S n then (prs R S n).mul (R n) else prs R S n
theorem prs_t (R : Nat → Row) (S : Nat → Bool) : ∀ n, (prs R S n).t < 4
  | 0 => Nat.zero_lt_succ 3
  | n + 1 => by
    unfold prs
    split
    · exact Row.mul_t _ _
    · exact prs_t R S n
theorem prs_congr {R R' : Nat → Row} {S S' : Nat → Bool} : ∀ {n : Nat}, (∀ k, k < n → R k = R' k ∧ S k = S' k) → prs R S n = prs R' S' n
  | 0, _ => rfl
  | n + 1, h => by
    unfold prs
    rw [(h n (by omega)).1, (h n (by omega)).2, prs_congr fun k hk => h k (by omega)]
theorem prs_fold (R P : Nat → Row) (q : Row) {r : Row} (hr : r.t < 4) : ∀ n, (fnd n R P q).foldl Row.mul r = r.mul (prs R (fun k => (P k).crosses q) n)
  | 0 => (Row.mul_one hr).symm
  | n + 1 => by
    rw [fnd_step, List.foldl_append, prs_fold R P q hr n]
    show _ = r.mul (if (P n).crosses q = true then (prs R (fun k => (P k).crosses q) n).mul (R n) else prs R (fun k => (P k).crosses q) n)
    split
    · rw [← Row.mul_assoc]; rfl
    · rfl
section
variable {w : Nat} {R P : Nat → Row}
theorem prs_on (h : Tab w R P) (S : Nat → Bool) : ∀ n, n ≤ w → (prs R S n).On w
  | 0, _ => ⟨Nat.zero_lt_succ 3, Nat.pow_pos (by decide), Nat.pow_pos (by decide)⟩
  | n + 1, hn => by
    unfold prs
    split
    · exact (prs_on h S n (by omega)).mul (h.on n (by omega)).1
    · exact prs_on h S n (by omega)
theorem prs_free {q : Row} (S : Nat → Bool) : ∀ n, (∀ k, k < n → S k = true → (R k).crosses q = false) → (prs R S n).crosses q = false
  | 0, _ => Row.crosses_plain rfl rfl q
  | n + 1, h => by
    unfold prs
    split
    · rename_i e
      rw [Row.crosses_mul2, prs_free S n fun k hk => h k (by omega), h n (by omega) e]; rfl
    · exact prs_free S n fun k hk => h k (by omega)
theorem prs_rr (h : Tab w R P) (S : Nat → Bool) {n : Nat} (hn : n ≤ w) {j : Nat} (hj : j < w) : (prs R S n).crosses (R j) = false :=
  prs_free S n fun k hk _ => h.rr k j (by omega) hj
theorem prs_rp (h : Tab w R P) (S : Nat → Bool) : ∀ n, n ≤ w → ∀ j, j < w → (prs R S n).crosses (P j) = (decide (j < n) && S j)
  | 0, _, j, _ => Row.crosses_plain rfl rfl _
  | n + 1, hn, j, hj => by
    have ih := prs_rp h S n (by omega) j hj
    unfold prs
    split
    · rename_i e
      rw [Row.crosses_mul2, ih, h.rp n j (by omega) hj]
      by_cases c : n = j
      · subst c; rw [e]; simp
      · simp only [c, decide_false, Bool.xor_false]
        congr 1; exact decide_eq_decide.mpr (by omega)
    · rename_i e
      rw [ih]
      by_cases c : n = j
      · subst c; rw [Bool.eq_false_iff.mpr e]; simp
      · congr 1; exact decide_eq_decide.mpr (by omega)
theorem prs_st (h : Tab w R P) (S : Nat → Bool) : ∀ n, n ≤ w → (prs R S n).straight = true
  | 0, _ => by show Row.straight .one = true; decide +kernel
  | n + 1, hn => by
    unfold prs
    split
    · rw [Row.straight_mul (prs_st h S n (by omega)) (h.st n (by omega)), prs_rr h S (by omega) (by omega)]; rfl
    · exact prs_st h S n (by omega)
theorem prs_sq (h : Tab w R P) (S : Nat → Bool) {n : Nat} (hn : n ≤ w) : (prs R S n).mul (prs R S n) = .one := by
  rw [Row.mul_self, prs_st h S n hn]; rfl
theorem prs_mul (h : Tab w R P) (S T : Nat → Bool) : ∀ n, n ≤ w → (prs R S n).mul (prs R T n) = prs R (fun k => S k ^^ T k) n
  | 0, _ => by show Row.mul .one .one = .one; decide +kernel
  | n + 1, hn => by
    have ih := prs_mul h S T n (by omega)
    have hc : (prs R T n).mul (R n) = (R n).mul (prs R T n) := Row.comm2 (prs_rr h T (by omega) (by omega))
    have h1 : (R n).mul (R n) = .one := by rw [Row.mul_self, h.st n (by omega)]; rfl
    unfold prs
    cases hs : S n <;> cases ht : T n <;> simp only [if_true, if_false, Bool.false_eq_true, Bool.xor_false, Bool.xor_true, Bool.not_true, Bool.not_false]
    · exact ih
    · rw [← Row.mul_assoc, ih]
    · rw [Row.mul_assoc, ← hc, ← Row.mul_assoc, ih]
    · rw [Row.mul_assoc, ← Row.mul_assoc (R n), ← hc, Row.mul_assoc (prs R T n), h1, Row.mul_one (prs_t R T n), ih]
/-- the rows held tell the answer a of r -/
def Knows (w : Nat) (R : Nat → Row) (a : Nat) (r : Row) : Prop := ∃ S : Nat → Bool, r = (prs R S w).mul (sgn a)
theorem Knows.cross (h : Tab w R P) {a : Nat} {r : Row} {S : Nat → Bool} (e : r = (prs R S w).mul (sgn a)) : (∀ k, k < w → (R k).crosses r = false) ∧ ∀ k, k < w → (P k).crosses r = S k := by
  subst e
  refine ⟨fun k hk => ?_, fun k hk => ?_⟩
  · rw [Row.crosses_mul3, cross_sgn, Row.crosses_comm, prs_rr h S (Nat.le_refl _) hk]; rfl
  · rw [Row.crosses_mul3, cross_sgn, Row.crosses_comm, prs_rp h S w (Nat.le_refl _) k hk, decide_eq_true hk]; simp
/-- the row left by rows that cross none -/
theorem Tab.left (h : Tab w R P) {r : Row} (hr : r.On w) (hs : r.straight = true) (hc : ∀ k, k < w → (R k).crosses r = false) : ∃ a, a < 2 ∧ (fnd w R P r).foldl Row.mul r = sgn a := by
  rw [prs_fold R P r hr.t]
  generalize hS : (fun k => (P k).crosses r) = S
  have hSk : ∀ k, (P k).crosses r = S k := fun k => by rw [← hS]
  have ho := hr.mul (prs_on h S w (Nat.le_refl _))
  have hz := h.nd _ ho.x ho.z fun k hk => by
    refine ⟨?_, ?_⟩
    · rw [Row.crosses_mul2, prs_rr h S (Nat.le_refl _) hk, Row.crosses_comm, hc k hk]; rfl
    · rw [Row.crosses_mul2, prs_rp h S w (Nat.le_refl _) k hk, decide_eq_true hk, Row.crosses_comm, hSk, Bool.true_and, Bool.xor_self]
  have ht : (r.mul (prs R S w)).straight = true := by
    rw [Row.straight_mul hs (prs_st h S w (Nat.le_refl _)), Row.crosses_comm, prs_free S w fun k hk _ => hc k hk]; rfl
  generalize r.mul (prs R S w) = l at *
  obtain ⟨t, x, z⟩ := l
  obtain ⟨rfl, rfl⟩ : x = 0 ∧ z = 0 := hz
  have h4 : t < 4 := ho.t
  unfold Row.straight at ht
  have h2 := of_decide_eq_true ht
  have h3 : (t + pop (0 &&& 0)) % 2 = 0 := h2
  rw [Nat.zero_and, pop_zero] at h3
  exact ⟨t / 2, by omega, by unfold sgn; rw [Row.mk.injEq]; omega⟩
theorem sgn_t {a : Nat} (h : a < 2) : (sgn a).t < 4 := by show 2 * a < 4; omega
theorem Tab.knows (h : Tab w R P) {r : Row} (hr : r.On w) (hs : r.straight = true) (hc : ∀ k, k < w → (R k).crosses r = false) : ∃ a, a < 2 ∧ (fnd w R P r).foldl Row.mul r = sgn a ∧ Knows w R a r := by
  obtain ⟨a, ha, e⟩ := h.left hr hs hc
  refine ⟨a, ha, e, fun k => (P k).crosses r, ?_⟩
  rw [prs_fold R P r hr.t] at e
  rw [← sgn_comm, ← e, Row.mul_assoc, prs_sq h _ (Nat.le_refl _), Row.mul_one hr.t]
/-- what is known is told -/
theorem Knows.told (h : Tab w R P) {a : Nat} (ha : a < 2) {r : Row} (hk : Knows w R a r) : (fnd w R P r).foldl Row.mul r = sgn a ∧ fstc w R r = none := by
  obtain ⟨S, e⟩ := hk
  have hc := Knows.cross h e
  refine ⟨?_, fstc_none.mpr hc.1⟩
  have ht : r.t < 4 := by rw [e]; exact Row.mul_t _ _
  rw [prs_fold R P r ht, prs_congr (R' := R) (S' := S) fun k hk => ⟨rfl, hc.2 k hk⟩]
  rw [e, ← sgn_comm, Row.mul_assoc, prs_sq h S (Nat.le_refl _), Row.mul_one (sgn_t ha)]
end
end DL
namespace DL
open PySem
/-! what a small bench tells -/
def Sm.tl (w : Nat) (s : Sm) (c : Nat) : De → Option Tl
  | .look k => some (s.look w ⟨0, 0, 2 ^ k⟩ c).1
  | .ask r ns => some (s.look w (s.sgd r ns) c).1
  | _ => none
/-- a bench in order -/
structure SmOk (w : Nat) (s : Sm) : Prop where
  tab : Tab w s.R s.P
  as : ∀ a ∈ s.as, a < 2
theorem SmOk.start (w : Nat) : SmOk w Sm.start := ⟨Tab.start w, fun a h => by simp [Sm.start] at h⟩
theorem sgd_on {w : Nat} {s : Sm} : ∀ (ns : List Nat) {r : Row}, r.On w → (s.sgd r ns).On w
  | [], _, h => h
  | n :: ns, r, h => sgd_on ns (r := r.mul (sgn (s.as.getD n 0))) (sgn_on h _)
theorem sgd_st {s : Sm} : ∀ (ns : List Nat) {r : Row}, (s.sgd r ns).straight = r.straight
  | [], _ => rfl
  | n :: ns, r => by
    rw [show s.sgd r (n :: ns) = s.sgd (r.mul (sgn (s.as.getD n 0))) ns from rfl, sgd_st ns, sgn_straight]
theorem pow_on {w k : Nat} (h : k < w) : (Row.mk 0 0 (2 ^ k)).On w := ⟨Nat.zero_lt_succ 3, Nat.pow_pos (by decide), pow_lt h⟩
theorem pow_st (k : Nat) : (Row.mk 0 0 (2 ^ k)).straight = true := by unfold Row.straight; simp [pop_zero]
theorem Sm.look_as (w : Nat) (s : Sm) (r : Row) (c : Nat) : (s.look w r c).2.as = s.as ++ [(s.look w r c).1.a] := by
  unfold Sm.look
  split <;> rfl
theorem Sm.look_a {w : Nat} {s : Sm} (h : SmOk w s) {r : Row} (hr : r.On w) (hs : r.straight = true) {c : Nat} (hc : c < 2) : (s.look w r c).1.a < 2 := by
  unfold Sm.look
  split
  · exact hc
  · rename_i e
    obtain ⟨a, ha, q⟩ := h.tab.left hr hs (fstc_none.mp e)
    show (s.left w r).t / 2 < 2
    unfold Sm.left
    rw [q]
    show 2 * a / 2 < 2
    omega
theorem SmOk.look {w : Nat} {s : Sm} (h : SmOk w s) {r : Row} (hr : r.On w) (hs : r.straight = true) {c : Nat} (hc : c < 2) : SmOk w (s.look w r c).2 := by
  refine ⟨?_, fun a ha => ?_⟩
  · unfold Sm.look
    split
    · rename_i a e
      obtain ⟨ha, hx⟩ := fstc_some e
      exact h.tab.even ha hx hr hs
    · exact h.tab
  · rw [Sm.look_as] at ha
    rcases List.mem_append.mp ha with q | q
    · exact h.as a q
    · rw [List.mem_singleton.mp q]; exact Sm.look_a h hr hs hc
theorem SmOk.step {w : Nat} {s : Sm} (h : SmOk w s) {d : De} (hd : d.On w s.as.length) {c : Nat} (hc : c < 2) : SmOk w (s.step w c d) := by
  cases d with
  | mv m => exact ⟨h.tab.move hd, h.as⟩
  | look k => exact h.look (pow_on hd) (pow_st k) hc
  | ask r ns => exact h.look (sgd_on ns hd.1) (by rw [sgd_st]; exact hd.2.1) hc
  | when n r => exact ⟨h.tab.strike r _, h.as⟩
theorem De.On.mono {w n n' : Nat} {d : De} (h : d.On w n) (l : n ≤ n') : d.On w n' := by
  cases d with
  | mv m => exact h
  | look k => exact h
  | ask r ns => exact ⟨h.1, h.2.1, fun j hj => Nat.lt_of_lt_of_le (h.2.2 j hj) l⟩
  | when n r => exact ⟨Nat.lt_of_lt_of_le h.1 l, h.2⟩
/-! words done -/
def Sm.rn (w : Nat) (ch : Nat → Nat) (st : List Tl × Sm) (d : De) : List Tl × Sm :=
  (st.1 ++ (st.2.tl w (ch st.1.length) d).toList, st.2.step w (ch st.1.length) d)
/-- a word on w wires, behind n looks -/
def WdOn (w : Nat) : Nat → List De → Prop
  | _, [] => True
  | n, d :: ds => d.On w n ∧ WdOn w (n + if d.isL then 1 else 0) ds
def lks : List De → Nat
  | [] => 0
  | d :: ds => (if d.isL then 1 else 0) + lks ds
theorem lks_app (a b : List De) : lks (a ++ b) = lks a + lks b := by
  induction a with
  | nil => simp [lks]
  | cons d ds ih => simp only [List.cons_append, lks, ih]; omega
theorem lks_le (a : List De) : lks a ≤ a.length := by
  induction a with
  | nil => exact Nat.le_refl _
  | cons d ds ih => simp only [lks, List.length_cons]; split <;> omega
theorem WdOn.app {w : Nat} : ∀ {a b : List De} {n : Nat}, WdOn w n (a ++ b) ↔ WdOn w n a ∧ WdOn w (n + lks a) b
  | [], b, n => by simp [WdOn, lks]
  | d :: ds, b, n => by
    simp only [List.cons_append, WdOn, lks, WdOn.app (a := ds), and_assoc, Nat.add_assoc]
theorem WdOn.mono {w : Nat} : ∀ {a : List De} {n n' : Nat}, WdOn w n a → n ≤ n' → WdOn w n' a
  | [], _, _, _, _ => trivial
  | d :: ds, n, n', h, l => ⟨h.1.mono l, WdOn.mono h.2 (by omega)⟩
theorem WdOn.get {w : Nat} : ∀ {a : List De} {n i : Nat} {d : De}, WdOn w n a → a[i]? = some d → d.On w (n + lks (a.take i))
  | d0 :: ds, n, 0, d, h, e => by simp at e; subst e; exact h.1
  | d0 :: ds, n, i + 1, d, h, e => by
    have := WdOn.get h.2 (i := i) (by simpa using e)
    simpa only [List.take_succ_cons, lks, Nat.add_assoc] using this
  | [], n, i, d, h, e => by simp at e
/-- lists told, each its own -/
structure Tls (b : Addr) (G0 : Gp) (ts : List Tl) (qs : List Addr) (G : Gp) : Prop where
  len : qs.length = ts.length
  nd : qs.Nodup
  out : ∀ (i : Nat) t q, ts[i]? = some t → qs[i]? = some q → Out b q (.lst (t.rs.map Row.d)) G
  new : ∀ q ∈ qs, G0 q = none
theorem Tls.nil (b : Addr) (G0 G : Gp) : Tls b G0 [] [] G := ⟨rfl, List.nodup_nil, fun i t q h => by simp at h, fun q h => by simp at h⟩
theorem Tls.fr {b : Addr} {G0 G G' : Gp} {ts : List Tl} {qs : List Addr} (h : Tls b G0 ts qs G) (f : Fr b G G') : Tls b G0 ts qs G' :=
  ⟨h.len, h.nd, fun i t q a c => (h.out i t q a c).fr f, h.new⟩
theorem Tls.snoc {b : Addr} {G0 G : Gp} {ts : List Tl} {qs : List Addr} {t : Tl} {q : Addr} (h : Tls b G0 ts qs G) (o : Out b q (.lst (t.rs.map Row.d)) G) (hn : G0 q = none) (hq : q ∉ qs) : Tls b G0 (ts ++ [t]) (qs ++ [q]) G := by
  refine ⟨by simp [h.len], ?_, fun i u p a c => ?_, fun p hp => ?_⟩
  · rw [List.nodup_append]
    exact ⟨h.nd, by simp, fun x hx y hy e => hq (by rw [← List.mem_singleton.mp hy, ← e]; exact hx)⟩
  · by_cases hi : i < ts.length
    · rw [List.getElem?_append_left hi] at a
      rw [List.getElem?_append_left (by rw [h.len]; exact hi)] at c
      exact h.out i u p a c
    · rw [List.getElem?_append_right (by omega)] at a
      rw [List.getElem?_append_right (by rw [h.len]; omega), h.len] at c
      have : i - ts.length = 0 := by
        have := (List.getElem?_eq_some_iff.mp a).1; simp at this; omega
      rw [this] at a c
      cases a; cases c
      exact o
  · rcases List.mem_append.mp hp with z | z
    · exact h.new p z
    · rw [List.mem_singleton.mp z]; exact hn
/-- what is no list told and not the bench's stays -/
theorem Tls.mem {b : Addr} {G0 G : Gp} {ts : List Tl} {qs : List Addr} (h : Tls b G0 ts qs G) {q : Addr} (hq : q ∈ qs) : ∃ xs, G q = some (.lst xs) := by
  obtain ⟨i, hi⟩ := List.mem_iff_getElem?.mp hq
  have hl : i < ts.length := by rw [← h.len]; exact (List.getElem?_eq_some_iff.mp hi).1
  exact ⟨_, (h.out i _ q (List.getElem?_eq_getElem hl) hi).1⟩
end DL
namespace DL
open PySem
theorem Ow.up {b p a : Addr} {G : Gp} (hb : p ≠ b) (o : GO) : Ow (gup G p o) b a ↔ Ow G b a := by
  unfold Ow
  rw [gup_ne (Ne.symm hb)]
theorem Out.put {b p : Addr} {o : GO} {G : Gp} (h : ¬ Ow G b p) (o' : GO) : Out b p o' (gup G p o') :=
  ⟨gup_same, fun q => h ((Ow.up (fun z => h (.inl z)) o').mp q)⟩
theorem Out.ne {b x : Addr} {o : GO} {G : Gp} (h : Out b x o G) : x ≠ b := fun z => h.2 (.inl z)
theorem Tls.base {b : Addr} {G0 G1 G : Gp} {ts : List Tl} {qs : List Addr} (h : Tls b G1 ts qs G) (e : Ext G0 G1) : Tls b G0 ts qs G := ⟨h.len, h.nd, h.out, fun q z => e.none (h.new q z)⟩
end DL
namespace DL
open PySem
/-! what a bench knows -/
theorem sgn_sgn2 {a : Nat} (ha : a < 2) : (sgn a).mul (sgn 1) = sgn (1 - a) := by
  rw [sgn_sgn]; unfold sgn; rw [Row.mk.injEq]; omega
theorem sgn_off {a : Nat} (ha : a < 2) : (sgn a).mul (sgn a) = .one := by
  rw [sgn_sgn]; unfold Row.one; rw [Row.mk.injEq]; omega
section
variable {w : Nat} {R P : Nat → Row} {s : Sm}
theorem Knows.t {a : Nat} {r : Row} (h : Knows w R a r) : r.t < 4 := by
  obtain ⟨S, e⟩ := h
  rw [e]; exact Row.mul_t _ _
theorem Knows.turn {a : Nat} {r : Row} (h : Knows w R a r) (ha : a < 2) : Knows w R (1 - a) (r.mul (sgn 1)) := by
  obtain ⟨S, e⟩ := h
  exact ⟨S, by rw [e, Row.mul_assoc, sgn_sgn2 ha]⟩
theorem Knows.turned {a : Nat} {r : Row} (h : Knows w R a r) (ha : a < 2) : Knows w R (1 - a) r.turned := by
  rw [turned_sgn r h.t]; exact h.turn ha
theorem prs_one (R : Nat → Row) (k : Nat) (hk : (R k).t < 4) : ∀ n, prs R (fun j => decide (j = k)) n = if k < n then R k else .one
  | 0 => rfl
  | n + 1 => by
    show (if decide (n = k) = true then (prs R (fun j => decide (j = k)) n).mul (R n) else prs R (fun j => decide (j = k)) n) = _
    rw [prs_one R k hk n]
    by_cases e : n = k
    · subst e
      rw [if_pos (by simp), if_neg (Nat.lt_irrefl _), if_pos (Nat.lt_succ_self _), Row.one_mul hk]
    · rw [if_neg (by simpa using e)]
      by_cases h : k < n
      · rw [if_pos h, if_pos (by omega)]
      · rw [if_neg h, if_neg (by omega)]
/-- a row held is known -/
theorem knows_held {k : Nat} (hk : k < w) (ht : (R k).t < 4) : Knows w R 0 (R k) := by
  refine ⟨fun j => decide (j = k), ?_⟩
  rw [prs_one R k ht, if_pos hk]
  exact (Row.mul_one ht).symm
theorem look_knows (ok : SmOk w s) {r : Row} (hr : r.On w) (hs : r.straight = true) {c : Nat} (hc : c < 2) : Knows w (s.look w r c).2.R (s.look w r c).1.a r := by
  have ok2 := ok.look hr hs hc
  unfold Sm.look at *
  split
  · rename_i a e
    rw [e] at ok2
    obtain ⟨ha, hx⟩ := fstc_some e
    have hk := knows_held (R := (s.even a r c).R) ha (ok2.tab.on a ha).1.t
    rw [even_Ra] at hk
    obtain ⟨S, q⟩ := hk
    refine ⟨S, ?_⟩
    show r = (prs (s.even a r c).R S w).mul (sgn c)
    have q2 : r.mul (sgn c) = prs (s.even a r c).R S w := by rw [q]; exact Row.mul_one (prs_t _ _ _)
    rw [← q2, Row.mul_assoc, sgn_off hc, Row.mul_one hr.t]
  · rename_i e
    obtain ⟨a, ha, q, k⟩ := ok.tab.knows hr hs (fstc_none.mp e)
    show Knows w s.R ((s.left w r).t / 2) r
    unfold Sm.left
    rw [q]
    have e3 : (sgn a).t / 2 = a := by show 2 * a / 2 = a; omega
    rw [e3]; exact k
theorem knows_look (ok : SmOk w s) {a : Nat} (ha : a < 2) {r : Row} (h : Knows w s.R a r) (c : Nat) : s.look w r c = (⟨false, a, fnd w s.R s.P r⟩, s.told a) := by
  obtain ⟨h1, h2⟩ := h.told ok.tab ha
  unfold Sm.look
  rw [h2]
  have e3 : (s.left w r).t / 2 = a := by
    unfold Sm.left
    rw [h1]; show 2 * a / 2 = a; omega
  rw [e3]
theorem prs_strike (q : Row) (S : Nat → Bool) : ∀ n, prs (fun k => if (R k).crosses q then (R k).mul (sgn 1) else R k) S n = if (prs R S n).crosses q then (prs R S n).mul (sgn 1) else prs R S n
  | 0 => by
    show Row.one = if Row.one.crosses q then _ else Row.one
    rw [Row.crosses_plain rfl rfl]; rfl
  | n + 1 => by
    show (if S n = true then (prs _ S n).mul (if (R n).crosses q then (R n).mul (sgn 1) else R n) else prs _ S n) = if (if S n = true then (prs R S n).mul (R n) else prs R S n).crosses q then (if S n = true then (prs R S n).mul (R n) else prs R S n).mul (sgn 1) else (if S n = true then (prs R S n).mul (R n) else prs R S n)
    rw [prs_strike q S n]
    by_cases h : S n = true
    · rw [if_pos h, if_pos h, Row.crosses_mul2]
      have ht := prs_t R S n
      generalize prs R S n = p at *
      cases e1 : p.crosses q <;> cases e2 : (R n).crosses q <;> simp only [Bool.false_xor, Bool.true_xor, Bool.not_true, Bool.not_false, if_true, if_false, Bool.false_eq_true]
      · rw [Row.mul_assoc]
      · rw [Row.mul_assoc, sgn_comm, ← Row.mul_assoc]
      · rw [Row.mul_assoc, ← Row.mul_assoc (sgn 1), sgn_comm (R n), Row.mul_assoc (R n), sgn_off (by decide), ← Row.mul_assoc, Row.mul_one (Row.mul_t _ _)]
    · rw [if_neg h, if_neg h]
theorem Knows.strike {a : Nat} (ha : a < 2) {r q : Row} (h : Knows w R a r) : Knows w (fun k => if (R k).crosses q then (R k).mul (sgn 1) else R k) (if r.crosses q then 1 - a else a) r := by
  obtain ⟨S, e⟩ := h
  refine ⟨S, ?_⟩
  have hc : r.crosses q = (prs R S w).crosses q := by rw [e, Row.crosses_mul2, sgn_cross, Bool.xor_false]
  rw [prs_strike, ← hc]
  split
  · rw [Row.mul_assoc, sgn_comm (sgn (1 - a)), sgn_sgn2 (show 1 - a < 2 by omega), show 1 - (1 - a) = a by omega]; exact e
  · exact e
theorem Knows.some_cross {a : Nat} {r q : Row} (h : Knows w R a r) (hc : r.crosses q = true) : ∃ k, k < w ∧ (R k).crosses q = true := by
  obtain ⟨S, e⟩ := h
  refine Decidable.byContradiction fun z => ?_
  have hz : ∀ k, k < w → S k = true → (R k).crosses q = false := fun k hk _ => by
    cases y : (R k).crosses q with
    | false => rfl
    | true => exact absurd ⟨k, hk, y⟩ z
  rw [e, Row.crosses_mul2, sgn_cross, Bool.xor_false, prs_free S w hz] at hc
  cases hc
theorem look_even {r : Row} {c k : Nat} (hk : k < w) (hx : (s.R k).crosses r = true) : (s.look w r c).1.even = true ∧ (s.look w r c).1.a = c := by
  unfold Sm.look
  split
  · exact ⟨rfl, rfl⟩
  · rename_i e
    have := fstc_none.mp e k hk
    rw [hx] at this; cases this
end
/-! a look's row -/
def De.base : De → Row
  | .look k => ⟨0, 0, 2 ^ k⟩
  | .ask r _ => r
  | _ => .one
theorem sgd_eq (s : Sm) : ∀ (ns : List Nat) (r : Row), ∃ t, s.sgd r ns = ⟨t, r.x, r.z⟩
  | [], r => ⟨r.t, rfl⟩
  | n :: ns, r => by
    obtain ⟨t, e⟩ := sgd_eq s ns (r.mul (sgn (s.as.getD n 0)))
    refine ⟨t, ?_⟩
    show s.sgd (r.mul (sgn (s.as.getD n 0))) ns = _
    rw [e, mul_sgn]
theorem sgd_as {s t : Sm} : ∀ (ns : List Nat) (r : Row), (∀ n ∈ ns, s.as.getD n 0 = t.as.getD n 0) → s.sgd r ns = t.sgd r ns
  | [], r, _ => rfl
  | n :: ns, r, h => by
    show s.sgd (r.mul (sgn (s.as.getD n 0))) ns = t.sgd (r.mul (sgn (t.as.getD n 0))) ns
    rw [h n (List.mem_cons_self ..), sgd_as ns _ fun m hm => h m (List.mem_cons_of_mem _ hm)]
end DL
namespace DL
open PySem
end DL
namespace DL
open PySem
/-! two benches side by side -/
def Sep (G : Gp) (b c : Addr) : Prop := ∀ a, Ow G c a → ¬ Ow G b a
theorem Sep.symm {G : Gp} {b c : Addr} (h : Sep G b c) : Sep G c b := fun a q z => h a z q
/-- a bench stays while another one works -/
theorem SS.keep {b c : Addr} {w : Nat} {s : Sm} {G G' : Gp} (h : SS c w s G) (d : Sep G b c) (f : Fr b G G') : SS c w s G' ∧ Sep G' b c ∧ ∀ a, Ow G' c a ↔ Ow G c a := by
  have kp : ∀ (a : Addr) (o : GO), Ow G c a → G a = Option.some o → G' a = Option.some o := fun a o q e => f.keep a o (d a q) e
  obtain ⟨o, ho⟩ := h.some
  have hb : G' c = G c := by rw [ho]; exact kp c o (.inl rfl) ho
  have iff : ∀ a, Ow G' c a ↔ Ow G c a := fun a => by unfold Ow; rw [hb]
  refine ⟨?_, fun a q z => ?_, iff⟩
  · obtain ⟨pa, pr, pp, h⟩ := h
    exact ⟨pa, pr, pp, h.ar, h.ap, h.rp, kp _ _ (.inl rfl) h.gb, kp _ _ h.oa h.ga, kp _ _ h.orr h.gr, kp _ _ h.op h.gp⟩
  · have q' := (iff a).mp q
    rcases f.own a z with y | y
    · exact d a q' y
    · exact h.free y q'
theorem Sep.same {G G' : Gp} {b c : Addr} (h : Sep G b c) (hb : ∀ a, Ow G' b a ↔ Ow G b a) (hc : ∀ a, Ow G' c a ↔ Ow G c a) : Sep G' b c := fun a q z => h a ((hc a).mp q) ((hb a).mp z)
theorem SS.iff {b : Addr} {w : Nat} {s : Sm} {G G' : Gp} (h : SS b w s G) (e : Ext G G') (a : Addr) : Ow G' b a ↔ Ow G b a := by
  obtain ⟨o, ho⟩ := h.some
  exact Ow.ext ho e
theorem Sep.ext {b c : Addr} {w v : Nat} {s t : Sm} {G G' : Gp} (h : Sep G b c) (hb : SS b w s G) (hc : SS c v t G) (e : Ext G G') : Sep G' b c := h.same (hb.iff e) (hc.iff e)
/-- a new bench beside one that is there -/
theorem Sep.new {b p : Addr} {w : Nat} {s : Sm} {G G' : Gp} {o : GO} (hb : SS b w s G) (hp : G p = none) (hF : ∀ a u, a ≠ p → gup G p o a = some u → G' a = some u) (hO : ∀ a, Ow G' p a → a = p ∨ gup G p o a = none) :
    Ext G G' ∧ SS b w s G' ∧ Sep G' b p := by
  have e : Ext G G' := fun a u q => hF a u (ne_of q hp) (by rw [gup_ne (ne_of q hp)]; exact q)
  refine ⟨e, hb.ext e, fun a q z => ?_⟩
  have z' := (hb.iff e a).mp z
  rcases hO a q with y | y
  · rw [y] at z'; exact hb.free hp z'
  · exact hb.free (none_gup y) z'
/-! moves, and back -/
end DL
namespace DL
open PySem
/-- three benches and a list beside them -/
structure T3 (b c e : Addr) (w : Nat) (s1 s2 s3 : Sm) (p : Addr) (o : GO) (G : Gp) : Prop where
  sb : SS b w s1 G
  sc : SS c w s2 G
  se : SS e w s3 G
  bc : Sep G b c
  be : Sep G b e
  ce : Sep G c e
  ob : Out b p o G
  oc : ¬ Ow G c p
  oe : ¬ Ow G e p
theorem T3.one {b c e : Addr} {w : Nat} {s1 s2 s3 s3' : Sm} {p : Addr} {o : GO} {G G' : Gp} (h : T3 b c e w s1 s2 s3 p o G) (f : Fr e G G') (S : SS e w s3' G') : T3 b c e w s1 s2 s3' p o G' := by
  obtain ⟨B, be, ib⟩ := h.sb.keep h.be.symm f
  obtain ⟨C, ce, ic⟩ := h.sc.keep h.ce.symm f
  have o := (show Out e p o G from ⟨h.ob.1, h.oe⟩).fr f
  exact ⟨B, C, S, h.bc.same ib ic, be.symm, ce.symm, ⟨o.1, fun z => h.ob.2 ((ib p).mp z)⟩, fun z => h.oc ((ic p).mp z), o.2⟩
theorem T3.ext {b c e : Addr} {w : Nat} {s1 s2 s3 : Sm} {p : Addr} {o : GO} {G G' : Gp} (h : T3 b c e w s1 s2 s3 p o G) (x : Ext G G') : T3 b c e w s1 s2 s3 p o G' :=
  ⟨h.sb.ext x, h.sc.ext x, h.se.ext x, h.bc.ext h.sb h.sc x, h.be.ext h.sb h.se x, h.ce.ext h.sc h.se x, h.sb.out h.ob x, fun z => h.oc ((h.sc.iff x p).mp z), fun z => h.oe ((h.se.iff x p).mp z)⟩
/-- another list instead -/
theorem T3.new {b c e : Addr} {w : Nat} {s1 s2 s3 : Sm} {p q : Addr} {o u : GO} {G G' : Gp} (h : T3 b c e w s1 s2 s3 p o G) (x : Ext G G') (hq : G q = none) (g : G' q = some u) : T3 b c e w s1 s2 s3 q u G' := by
  have k := h.ext x
  exact ⟨k.sb, k.sc, k.se, k.bc, k.be, k.ce, h.sb.new' x hq g, (h.sc.new' x hq g).2, (h.se.new' x hq g).2⟩
end DL
namespace DL
open PySem
/-! rows in lists -/
/-! the rows of a sure answer -/
theorem Tab.inj {w : Nat} {R P : Nat → Row} (h : Tab w R P) {i j : Nat} (hi : i < w) (hj : j < w) (e : R i = R j) : i = j := by
  have a := h.rp i i hi hi
  have b := h.rp j i hj hi
  rw [e, b] at a
  have := decide_eq_decide.mp a
  simp at this; exact this.symm
end DL
namespace DL
open PySem
/-! two tables of rows for the same -/
section
variable {w : Nat} {R P : Nat → Row}
theorem Tab.perm (h : Tab w R P) {σ : Nat → Nat} (h1 : ∀ j, j < w → σ j < w) (h2 : ∀ i j, i < w → j < w → σ i = σ j → i = j) (h3 : ∀ k, k < w → ∃ j, j < w ∧ σ j = k) : Tab w (fun j => R (σ j)) fun j => P (σ j) := by
  refine ⟨fun k hk => h.on _ (h1 k hk), fun k hk => h.st _ (h1 k hk), fun i j hi hj => h.rr _ _ (h1 i hi) (h1 j hj), fun i j hi hj => ?_, fun r hx hz q => ?_⟩
  · rw [h.rp _ _ (h1 i hi) (h1 j hj)]
    exact decide_eq_decide.mpr ⟨h2 i j hi hj, fun e => by rw [e]⟩
  · refine h.nd r hx hz fun k hk => ?_
    obtain ⟨j, hj, rfl⟩ := h3 k hk
    exact q j hj
theorem knows_mul (h : Tab w R P) {r s : Row} (hr : Knows w R 0 r) (hs : Knows w R 0 s) : Knows w R 0 (r.mul s) := by
  obtain ⟨S, e⟩ := hr
  obtain ⟨T, f⟩ := hs
  have z : ∀ p : Row, p.t < 4 → p.mul (sgn 0) = p := fun p hp => Row.mul_one hp
  rw [z _ (prs_t _ _ _)] at e f
  refine ⟨fun k => S k ^^ T k, ?_⟩
  rw [z _ (prs_t _ _ _), ← prs_mul h S T w (Nat.le_refl _), e, f]
theorem knows_one : Knows w R 0 .one := by
  refine ⟨fun _ => false, ?_⟩
  have : ∀ n, prs R (fun _ => false) n = .one := fun n => by
    induction n with
    | zero => rfl
    | succ n ih => show (if (false : Bool) = true then _ else _) = _; rw [if_neg Bool.false_ne_true]; exact ih
  rw [this]; exact (Row.mul_one (by decide)).symm
/-- what is known by products of known rows -/
theorem knows_prs (h : Tab w R P) {R' : Nat → Row} {S : Nat → Bool} : ∀ n, (∀ k, k < n → S k = true → Knows w R 0 (R' k)) → Knows w R 0 (prs R' S n)
  | 0, _ => knows_one
  | n + 1, q => by
    have ih := knows_prs h n fun k hk => q k (by omega)
    show Knows w R 0 (if S n = true then (prs R' S n).mul (R' n) else prs R' S n)
    split
    · rename_i e; exact knows_mul h ih (q n (by omega) e)
    · exact ih
/-- nothing but nothing is known of nothing -/
theorem sgn_known (h : Tab w R P) {a : Nat} (ha : a < 2) (k : Knows w R 0 (sgn a)) : a = 0 := by
  obtain ⟨S, e⟩ := k
  have hc := (Knows.cross h e).2
  have hS : ∀ j, j < w → S j = false := fun j hj => by rw [← hc j hj]; exact cross_sgn _ _
  have : prs R S w = .one := by
    rw [prs_congr (R' := R) (S' := fun _ => false) fun j hj => ⟨rfl, hS j hj⟩]
    obtain ⟨T, f⟩ := (knows_one : Knows w R 0 .one)
    have : ∀ n, prs R (fun _ => false) n = .one := fun n => by
      induction n with
      | zero => rfl
      | succ n ih => show (if (false : Bool) = true then _ else _) = _; rw [if_neg Bool.false_ne_true]; exact ih
    exact this w
  rw [this] at e
  have e2 : sgn a = .one := by rw [e]; exact Row.mul_one (by decide)
  unfold sgn Row.one at e2
  rw [Row.mk.injEq] at e2; omega
theorem known_cross (h : Tab w R P) {a : Nat} {r : Row} (k : Knows w R a r) {j : Nat} (hj : j < w) : r.crosses (R j) = false := by
  obtain ⟨S, e⟩ := k
  rw [Row.crosses_comm]; exact (Knows.cross h e).1 j hj
theorem known_on (h : Tab w R P) {r : Row} (k : Knows w R 0 r) : r.On w ∧ r.straight = true := by
  obtain ⟨S, e⟩ := k
  subst e
  exact ⟨sgn_on (prs_on h S w (Nat.le_refl _)) 0, by rw [sgn_straight]; exact prs_st h S w (Nat.le_refl _)⟩
end
/-- what is known and does not cross the row looked at stays known -/
theorem knows_even {w : Nat} {s : Sm} (ok : SmOk w s) {a : Nat} (ha : a < w) {q : Row} (hx : (s.R a).crosses q = true) (hq : q.On w) (hs : q.straight = true) {c : Nat} {u : Row} (k : Knows w s.R 0 u) (hu : u.crosses q = false) : Knows w (s.even a q c).R 0 u := by
  have T := ok.tab.even (c := c) ha hx hq hs
  obtain ⟨uo, us⟩ := known_on ok.tab k
  have hcr : ∀ j, j < w → ((s.even a q c).R j).crosses u = false := fun j hj => by
    rw [Row.crosses_comm]
    by_cases e : j = a
    · subst e; rw [even_Ra, Row.crosses_mul3, cross_sgn, hu]; rfl
    · rw [even_R _ _ e, known_cross ok.tab k hj, known_cross ok.tab k ha]; simp
  obtain ⟨b, hb, _, kb⟩ := T.knows uo us hcr
  obtain ⟨S, e⟩ := kb
  have hSa : S a = false := by
    have := (Knows.cross T e).2 a ha
    rw [even_Pa] at this
    rw [← this, Row.crosses_comm]; exact known_cross ok.tab k ha
  have hp : Knows w s.R 0 (prs (s.even a q c).R S w) := knows_prs ok.tab w fun j hj hSj => by
    have hja : j ≠ a := fun z => by rw [z, hSa] at hSj; cases hSj
    show Knows w s.R 0 (if j = a then _ else if (s.R j).crosses q then (s.R j).mul (s.R a) else s.R j)
    rw [if_neg hja]
    have kj := knows_held (R := s.R) hj (ok.tab.on j hj).1.t
    split
    · exact knows_mul ok.tab kj (knows_held ha (ok.tab.on a ha).1.t)
    · exact kj
  have hsg : Knows w s.R 0 (sgn b) := by
    have hpp := prs_sq T S (Nat.le_refl w)
    have := knows_mul ok.tab hp k
    rw [e, ← Row.mul_assoc, hpp] at this
    rw [Row.one_mul (sgn_t hb)] at this; exact this
  have := sgn_known ok.tab hb hsg
  subst this
  exact ⟨S, e⟩
theorem knows_stay {w : Nat} {s : Sm} (ok : SmOk w s) {q : Row} (hq : q.On w) (hs : q.straight = true) {c : Nat} {u : Row} (k : Knows w s.R 0 u) (hu : u.crosses q = false) : Knows w (s.look w q c).2.R 0 u := by
  unfold Sm.look
  split
  · rename_i a e
    obtain ⟨ha, hx⟩ := fstc_some e
    exact knows_even ok ha hx hq hs k hu
  · exact k
/-- the same rows told by another table -/
structure Alt (w : Nat) (R : Nat → Row) (R' : Nat → Row) : Prop where
  tab : ∃ P', Tab w R' P'
  kn : ∀ k, k < w → Knows w R 0 (R' k)
theorem Alt.cross {w : Nat} {R P R' : Nat → Row} (T : Tab w R P) (h : Alt w R R') (q : Row) : (∃ k, k < w ∧ (R' k).crosses q = true) ↔ ∃ k, k < w ∧ (R k).crosses q = true := by
  constructor
  · rintro ⟨k, hk, hc⟩
    exact (h.kn k hk).some_cross hc
  · rintro ⟨k, hk, hc⟩
    obtain ⟨P', T'⟩ := h.tab
    obtain ⟨a, _, _, ka⟩ := T'.knows (T.on k hk).1 (T.st k hk) fun j hj => by
      rw [Row.crosses_comm]
      have := known_cross T (h.kn j hj) hk
      rw [Row.crosses_comm]; exact this
    exact ka.some_cross hc
/-- the plain list's order behind an even look -/
def shf (w a j : Nat) : Nat := if j < a then j else if j + 1 < w then j + 1 else a
theorem shf_lt {w a j : Nat} (ha : a < w) (hj : j < w) : shf w a j < w := by unfold shf; split <;> (try split) <;> omega
theorem shf_inj {w a i j : Nat} (ha : a < w) (hi : i < w) (hj : j < w) (e : shf w a i = shf w a j) : i = j := by
  unfold shf at e
  by_cases c1 : i < a <;> by_cases c2 : j < a <;> by_cases c3 : i + 1 < w <;> by_cases c4 : j + 1 < w <;> simp only [c1, c2, c3, c4, if_true, if_false] at e <;> omega
theorem shf_sur {w a k : Nat} (ha : a < w) (hk : k < w) : ∃ j, j < w ∧ shf w a j = k := by
  by_cases h1 : k < a
  · exact ⟨k, hk, by unfold shf; rw [if_pos h1]⟩
  · by_cases h2 : k = a
    · refine ⟨w - 1, by omega, ?_⟩
      unfold shf
      rw [if_neg (by omega), if_neg (by omega), h2]
    · refine ⟨k - 1, by omega, ?_⟩
      unfold shf
      rw [if_neg (by omega), if_pos (by omega)]; omega
def altE (w : Nat) (R' : Nat → Row) (a : Nat) (q : Row) (c : Nat) : Nat → Row := fun j => ((Sm.mk R' R' []).even a q c).R (shf w a j)
theorem Alt.even {w : Nat} {s : Sm} {R' : Nat → Row} (ok : SmOk w s) (h : Alt w s.R R') {a : Nat} (ha : a < w) {q : Row} (hx : (R' a).crosses q = true) (hq : q.On w) (hs : q.straight = true) {c : Nat} (hc : c < 2) : Alt w (s.look w q c).2.R (altE w R' a q c) := by
  obtain ⟨P', T'⟩ := h.tab
  have kc := look_knows ok hq hs hc
  obtain ⟨k0, hk0, hx0⟩ := (Alt.cross ok.tab h q).mp ⟨a, ha, hx⟩
  rw [(look_even hk0 hx0).2] at kc
  refine ⟨?_, fun j hj => ?_⟩
  · have T2 := (Tab.even (s := ⟨R', P', []⟩) (c := c) T' ha hx hq hs).perm (σ := shf w a) (fun j hj => shf_lt ha hj) (fun i j hi hj e => shf_inj ha hi hj e) fun k hk => shf_sur ha hk
    exact ⟨_, T2⟩
  · have hl := shf_lt ha hj
    show Knows w _ 0 (if shf w a j = a then q.mul (sgn c) else if (R' (shf w a j)).crosses q then (R' (shf w a j)).mul (R' a) else R' (shf w a j))
    split
    · obtain ⟨S, e⟩ := kc
      refine ⟨S, ?_⟩
      rw [show ∀ p : Row, p.mul (sgn 0) = p.mul .one from fun p => rfl, Row.mul_one (prs_t _ _ _)]
      have e2 := congrArg (fun z : Row => z.mul (sgn c)) e
      have e2 : q.mul (sgn c) = ((prs _ S w).mul (sgn c)).mul (sgn c) := e2
      rw [e2, Row.mul_assoc, sgn_off hc, Row.mul_one (prs_t _ _ _)]
    · have kj := h.kn _ hl
      split
      · rename_i e
        refine knows_stay ok hq hs (knows_mul ok.tab kj (h.kn a ha)) ?_
        rw [Row.crosses_mul2, e, hx]; rfl
      · rename_i e
        exact knows_stay ok hq hs kj (Bool.eq_false_iff.mpr e)
end DL
namespace DL
open PySem
end DL
namespace DL
open PySem
/-! benches alike but for signs -/
def RSm (r s : Row) : Prop := r.x = s.x ∧ r.z = s.z
theorem RSm.refl {r : Row} : RSm r r := ⟨Eq.refl _, Eq.refl _⟩
theorem RSm.cross {r r' u u' : Row} (h : RSm r r') (k : RSm u u') : r.crosses u = r'.crosses u' := by
  unfold Row.crosses; rw [h.1, h.2, k.1, k.2]
theorem RSm.mul {r r' u u' : Row} (h : RSm r r') (k : RSm u u') : RSm (r.mul u) (r'.mul u') := ⟨by show r.x ^^^ u.x = _; rw [h.1, k.1]; rfl, by show r.z ^^^ u.z = _; rw [h.2, k.2]; rfl⟩
theorem RSm.moved {r r' : Row} (h : RSm r r') (m : Mv) : RSm (r.moved m) (r'.moved m) := by
  obtain ⟨t, x, z⟩ := r
  obtain ⟨t', x', z'⟩ := r'
  obtain ⟨rfl, rfl⟩ : x = x' ∧ z = z' := h
  cases m <;> exact ⟨rfl, rfl⟩
theorem RSm.sgnl {r r' : Row} (h : RSm r r') (a b : Nat) : RSm (r.mul (sgn a)) (r'.mul (sgn b)) := h.mul ⟨rfl, rfl⟩
structure SmS (w : Nat) (s s' : Sm) : Prop where
  R : ∀ k, k < w → RSm (s.R k) (s'.R k)
  P : ∀ k, k < w → RSm (s.P k) (s'.P k)
theorem SmS.refl {w : Nat} {s : Sm} : SmS w s s := ⟨fun _ _ => RSm.refl, fun _ _ => RSm.refl⟩
theorem find_congr {p q : Nat → Bool} : ∀ {l : List Nat}, (∀ k ∈ l, p k = q k) → l.find? p = l.find? q
  | [], _ => rfl
  | k :: l, h => by
    simp only [List.find?_cons]
    rw [h k (List.mem_cons_self ..), find_congr fun j hj => h j (List.mem_cons_of_mem _ hj)]
theorem fstc_same {w : Nat} {R R' : Nat → Row} {q q' : Row} (h : ∀ k, k < w → RSm (R k) (R' k)) (hq : RSm q q') : fstc w R q = fstc w R' q' :=
  find_congr fun k hk => (h k (List.mem_range.mp hk)).cross hq
theorem SmS.look {w : Nat} {s s' : Sm} (h : SmS w s s') {q q' : Row} (hq : RSm q q') (c c' : Nat) : (s.look w q c).1.even = (s'.look w q' c').1.even ∧ SmS w (s.look w q c).2 (s'.look w q' c').2 := by
  have e := fstc_same h.R hq
  cases e1 : fstc w s.R q with
  | none =>
    rw [e1] at e
    have l1 : s.look w q c = (⟨false, (s.left w q).t / 2, fnd w s.R s.P q⟩, s.told ((s.left w q).t / 2)) := by unfold Sm.look; rw [e1]
    have l2 : s'.look w q' c' = (⟨false, (s'.left w q').t / 2, fnd w s'.R s'.P q'⟩, s'.told ((s'.left w q').t / 2)) := by unfold Sm.look; rw [← e]
    rw [l1, l2]
    exact ⟨rfl, h.R, h.P⟩
  | some a =>
    rw [e1] at e
    obtain ⟨ha, _⟩ := fstc_some e1
    have l1 : s.look w q c = (⟨true, c, [s.R a]⟩, s.even a q c) := by unfold Sm.look; rw [e1]
    have l2 : s'.look w q' c' = (⟨true, c', [s'.R a]⟩, s'.even a q' c') := by unfold Sm.look; rw [← e]
    rw [l1, l2]
    refine ⟨rfl, fun k hk => ?_, fun k hk => ?_⟩
    · show RSm (if k = a then q.mul (sgn c) else if (s.R k).crosses q then (s.R k).mul (s.R a) else s.R k) (if k = a then q'.mul (sgn c') else if (s'.R k).crosses q' then (s'.R k).mul (s'.R a) else s'.R k)
      rw [(h.R k hk).cross hq]
      split
      · exact hq.sgnl c c'
      · split
        · exact (h.R k hk).mul (h.R a ha)
        · exact h.R k hk
    · show RSm (if k = a then s.R a else if (s.P k).crosses q then (s.P k).mul (s.R a) else s.P k) (if k = a then s'.R a else if (s'.P k).crosses q' then (s'.P k).mul (s'.R a) else s'.P k)
      rw [(h.P k hk).cross hq]
      split
      · exact h.R a ha
      · split
        · exact (h.P k hk).mul (h.R a ha)
        · exact h.P k hk
theorem sgd_same (s s' : Sm) (ns : List Nat) (r : Row) : RSm (s.sgd r ns) (s'.sgd r ns) := by
  obtain ⟨t, e⟩ := sgd_eq s ns r
  obtain ⟨t', e'⟩ := sgd_eq s' ns r
  rw [e, e']; exact ⟨rfl, rfl⟩
theorem SmS.step {w : Nat} {s s' : Sm} (h : SmS w s s') (c c' : Nat) (d : De) : ((s.tl w c d).map Tl.even = (s'.tl w c' d).map Tl.even) ∧ SmS w (s.step w c d) (s'.step w c' d) := by
  cases d with
  | mv m => exact ⟨rfl, fun k hk => (h.R k hk).moved m, fun k hk => (h.P k hk).moved m⟩
  | look k =>
    obtain ⟨a, b⟩ := h.look (q := ⟨0, 0, 2 ^ k⟩) RSm.refl c c'
    exact ⟨congrArg some a, b⟩
  | ask r ns =>
    obtain ⟨a, b⟩ := h.look (sgd_same s s' ns r) c c'
    exact ⟨congrArg some a, b⟩
  | when n r =>
    refine ⟨rfl, fun k hk => ?_, h.P⟩
    show RSm (if (s.R k).crosses r then (s.R k).mul (sgn (s.as.getD n 0)) else s.R k) (if (s'.R k).crosses r then (s'.R k).mul (sgn (s'.as.getD n 0)) else s'.R k)
    rw [(h.R k hk).cross RSm.refl]
    split
    · exact (h.R k hk).sgnl _ _
    · exact h.R k hk
end DL
namespace DL
open PySem
/-! great benches: rows that keep a vector, but for a sign -/
def Eig (w : Nat) (f : Nat → Cx) (a : Nat) (r : Row) : Prop := ∀ k, k < 2 ^ w → stk f r k = (f k).spin (2 * a)
theorem stk_sgn (f : Nat → Cx) (a k : Nat) : stk f (sgn a) k = (f k).spin (2 * a) := by
  unfold stk sgn
  simp [pop_zero]
theorem Eig.sgn (w : Nat) (f : Nat → Cx) (a : Nat) : Eig w f a (DL.sgn a) := fun k _ => stk_sgn f a k
theorem Eig.par {w : Nat} {f : Nat → Cx} {a b : Nat} {r : Row} (h : Eig w f a r) (e : a % 2 = b % 2) : Eig w f b r := fun k hk => by
  rw [h k hk]; exact Cx.spin_eq _ (by omega)
theorem Eig.mul {w : Nat} {f : Nat → Cx} {a b : Nat} {r s : Row} (hs : s.x < 2 ^ w) (hr : Eig w f a r) (h : Eig w f b s) : Eig w f (a + b) (s.mul r) := fun k hk => by
  have hk' : k ^^^ s.x < 2 ^ w := Nat.xor_lt_two_pow hk hs
  rw [← stk_mul]
  show (stk f r (k ^^^ s.x)).spin (s.t + 2 * pop (s.z &&& (k ^^^ s.x))) = _
  rw [hr _ hk', ← Cx.spin_add, Nat.add_comm, Cx.spin_add]
  rw [show (f (k ^^^ s.x)).spin (s.t + 2 * pop (s.z &&& (k ^^^ s.x))) = stk f s k from rfl, h k hk, ← Cx.spin_add]
  exact Cx.spin_eq _ (by omega)
theorem Eig.msgn {w : Nat} {f : Nat → Cx} {a : Nat} {r : Row} (hr : r.x < 2 ^ w) (h : Eig w f a r) (b : Nat) : Eig w f (b + a) (r.mul (DL.sgn b)) := Eig.mul hr (Eig.sgn w f b) h
theorem Eig.one (w : Nat) (f : Nat → Cx) : Eig w f 0 .one := fun k _ => by rw [stk_one]; rfl
theorem eig_prs {w : Nat} {R P : Nat → Row} (T : Tab w R P) {f : Nat → Cx} (h : ∀ k, k < w → Eig w f 0 (R k)) (S : Nat → Bool) : ∀ n, n ≤ w → Eig w f 0 (prs R S n)
  | 0, _ => Eig.one w f
  | n + 1, hn => by
    have ih := eig_prs T h S n (by omega)
    unfold prs
    split
    · exact Eig.mul (prs_on T S n (by omega)).x (h n (by omega)) ih
    · exact ih
theorem eig_knows {w : Nat} {R P : Nat → Row} (T : Tab w R P) {f : Nat → Cx} (h : ∀ k, k < w → Eig w f 0 (R k)) {a : Nat} {r : Row} (k : Knows w R a r) : Eig w f a r := by
  obtain ⟨S, rfl⟩ := k
  exact Eig.msgn (prs_on T S w (Nat.le_refl _)).x (eig_prs T h S w (Nat.le_refl _)) a
theorem cross_mul {r s : Row} (h : r.crosses s = true) : r.mul s = (DL.sgn 1).mul (s.mul r) := by
  rw [sgn_mul]
  have h := of_decide_eq_true h
  have e1 := Nat.and_comm s.z r.x
  simp only [Row.mul, Row.mk.injEq]
  refine ⟨?_, Nat.xor_comm _ _, Nat.xor_comm _ _⟩
  rw [e1]
  omega
theorem stk_smul (f : Nat → Cx) (u : Row) (a k : Nat) : stk f ((DL.sgn a).mul u) k = (stk f u k).spin (2 * a) := by
  rw [← stk_mul]; exact stk_sgn _ _ _
section
variable {w : Nat} {f : Nat → Cx} {r s : Row}
/-- striking by two rows that cross, or do not -/
theorem stk_cross (hr : r.x < 2 ^ w) (hs : Eig w f 0 s) (hc : s.crosses r = true) (k : Nat) (hk : k < 2 ^ w) : stk (stk f r) s k = (stk f r k).spin 2 := by
  rw [stk_mul, cross_mul hc, stk_smul, ← stk_mul, stk_near (g := f) hr (fun k hk => (hs k hk : stk f s k = f k)) k hk]
theorem stk_free (hr : r.x < 2 ^ w) (hs : Eig w f 0 s) (hc : s.crosses r = false) (k : Nat) (hk : k < 2 ^ w) : stk (stk f r) s k = stk f r k := by
  rw [stk_mul, Row.comm2 hc, ← stk_mul, stk_near (g := f) hr (fun k hk => (hs k hk : stk f s k = f k)) k hk]
theorem Cx.add_spin2 (c e : Cx) : c.add (e.spin 2) = c.sub e := by
  rw [Cx.spin2]; simp only [Cx.add, Cx.sub, Cx.neg, Cx.mk.injEq]; constructor <;> omega
theorem swap_part (hr : r.x < 2 ^ w) (hs : Eig w f 0 s) (hc : s.crosses r = true) (k : Nat) (hk : k < 2 ^ w) : stk (vadd f (stk f r)) s k = vsub f (stk f r) k := by
  rw [stk_vadd]
  show (stk f s k).add (stk (stk f r) s k) = (f k).sub (stk f r k)
  rw [hs k hk, stk_cross hr hs hc k hk]
  exact Cx.add_spin2 _ _
theorem w_even (hr : r.x < 2 ^ w) (hsx : s.x < 2 ^ w) (hs : Eig w f 0 s) (hc : s.crosses r = true) : nf (vadd f (stk f r)) (2 ^ w) = nf (vsub f (stk f r)) (2 ^ w) := by
  rw [← nf_stk (vadd f (stk f r)) w s hsx]
  exact nf_congr _ fun k hk => by rw [swap_part hr hs hc k hk]
theorem w_sum (hr : r.x < 2 ^ w) : nf (vadd f (stk f r)) (2 ^ w) + nf (vsub f (stk f r)) (2 ^ w) = 4 * nf f (2 ^ w) := by
  rw [nf_par, nf_stk f w r hr]; omega
theorem w_sure {a : Nat} (hr : r.x < 2 ^ w) (h : Eig w f a r) (ha : a < 2) : (if a = 0 then nf (vsub f (stk f r)) (2 ^ w) else nf (vadd f (stk f r)) (2 ^ w)) = 0 := by
  rcases bit2 ha with rfl | rfl
  · rw [if_pos rfl]
    refine (nf_zero _ _).mpr fun k hk => ?_
    show (f k).sub (stk f r k) = _
    rw [h k hk]; exact Cx.sub_zero.mpr rfl
  · rw [if_neg (by decide)]
    refine (nf_zero _ _).mpr fun k hk => ?_
    show (f k).add (stk f r k) = _
    rw [h k hk]
    show (f k).add ((f k).spin 2) = _
    rw [Cx.add_spin2]; exact Cx.sub_zero.mpr rfl
end
/-- the part for an answer -/
def prt (f : Nat → Cx) (r : Row) (a : Nat) : Nat → Cx := if a = 0 then vadd f (stk f r) else vsub f (stk f r)
theorem prt_self {w : Nat} (f : Nat → Cx) {r : Row} (h : r.straight = true) {a : Nat} (ha : a < 2) : Eig w (prt f r a) a r := fun k hk => by
  unfold prt
  rcases bit2 ha with rfl | rfl
  · rw [if_pos rfl, part_add f r h]; rfl
  · rw [if_neg (by decide), part_sub f r h k]
theorem prt_free {w : Nat} {f : Nat → Cx} {r s : Row} (hr : r.x < 2 ^ w) (hs : Eig w f 0 s) (hc : s.crosses r = false) (a : Nat) : Eig w (prt f r a) 0 s := fun k hk => by
  have e1 : stk f s k = f k := hs k hk
  have e2 := stk_free hr hs hc k hk
  unfold prt
  split
  · rw [stk_vadd]
    show (stk f s k).add (stk (stk f r) s k) = (f k).add (stk f r k)
    rw [e1, e2]
  · rw [stk_vsub]
    show (stk f s k).sub (stk (stk f r) s k) = (f k).sub (stk f r k)
    rw [e1, e2]
theorem stk_eig {w : Nat} {f : Nat → Cx} {r s : Row} (hr : r.x < 2 ^ w) (hs : Eig w f 0 s) : Eig w (stk f r) (if s.crosses r then 1 else 0) s := fun k hk => by
  cases e : s.crosses r with
  | true => exact stk_cross hr hs e k hk
  | false => exact stk_free hr hs e k hk
theorem chg_eig {w : Nat} {f : Nat → Cx} {r : Row} {m : Mv} (hm : m.On w) (hs : Eig w f 0 r) : Eig w (chg f m) 0 (r.moved m) := fun k hk => by
  rw [chg_struck f r m hm.ok k]
  exact chg_near hm (fun k hk => (hs k hk : stk f r k = f k)) k hk
/-! the bench -/
structure Gb where
  f : Nat → Cx
  as : List Nat
structure GT where
  kd : Nat
  a : Nat
  z : Int
  o : Int
def gz (w : Nat) (f : Nat → Cx) (r : Row) : Int := nf (vadd f (stk f r)) (2 ^ w)
def go (w : Nat) (f : Nat → Cx) (r : Row) : Int := nf (vsub f (stk f r)) (2 ^ w)
def glk (w : Nat) (f : Nat → Cx) (r : Row) (c : Nat) : GT :=
  ⟨if go w f r = 0 then 0 else if gz w f r = 0 then 0 else if gz w f r = go w f r then 1 else 2, if go w f r = 0 then 0 else if gz w f r = 0 then 1 else c, gz w f r, go w f r⟩
def Gb.look (w : Nat) (g : Gb) (r : Row) (c : Nat) : GT × Gb := (glk w g.f r c, ⟨prt g.f r (glk w g.f r c).a, g.as ++ [(glk w g.f r c).a]⟩)
def asm (as : List Nat) : Sm := ⟨fun _ => .one, fun _ => .one, as⟩
def Gb.sgd (g : Gb) (r : Row) (ns : List Nat) : Row := (asm g.as).sgd r ns
def Gb.strike (g : Gb) (n : Nat) (r : Row) : Gb := if g.as.getD n 0 = 1 then ⟨stk g.f r, g.as⟩ else g
def Gb.step (w : Nat) (g : Gb) (c : Nat) : De → Gb
  | .mv m => ⟨chg g.f m, g.as⟩
  | .look k => (g.look w ⟨0, 0, 2 ^ k⟩ c).2
  | .ask r ns => (g.look w (g.sgd r ns) c).2
  | .when n r => g.strike n r
def Gb.tl (w : Nat) (g : Gb) (c : Nat) : De → Option GT
  | .look k => some (g.look w ⟨0, 0, 2 ^ k⟩ c).1
  | .ask r ns => some (g.look w (g.sgd r ns) c).1
  | _ => none
def unit0 : Nat → Cx := fun k => if k = 0 then .one else .zero
def Gb.start : Gb := ⟨unit0, []⟩
theorem gsgd_eq (g : Gb) (s : Sm) (h : g.as = s.as) (r : Row) (ns : List Nat) : g.sgd r ns = s.sgd r ns := by
  show (asm g.as).sgd r ns = _
  exact sgd_as ns r fun n _ => by show g.as.getD n 0 = _; rw [h]
theorem glk_a {w : Nat} {f : Nat → Cx} {r : Row} {c : Nat} (hc : c < 2) : (glk w f r c).a < 2 := by
  unfold glk; simp only; split; decide; split; decide; exact hc
theorem Gb.step_len (w : Nat) (g : Gb) (c : Nat) (d : De) : (g.step w c d).as.length = g.as.length + if d.isL then 1 else 0 := by
  cases d with
  | mv m => rfl
  | look k => show (g.as ++ [_]).length = _; simp [De.isL]
  | ask r ns => show (g.as ++ [_]).length = _; simp [De.isL]
  | when n r => show (g.strike n r).as.length = _; unfold Gb.strike; split <;> rfl
theorem Gb.step_as {w : Nat} {g : Gb} {c : Nat} (hc : c < 2) {d : De} (h : ∀ a ∈ g.as, a < 2) : ∀ a ∈ (g.step w c d).as, a < 2 := by
  have snoc : ∀ r, ∀ a ∈ g.as ++ [(glk w g.f r c).a], a < 2 := fun r a ha => by
    rcases List.mem_append.mp ha with q | q
    · exact h a q
    · rw [List.mem_singleton.mp q]; exact glk_a hc
  cases d with
  | mv m => exact h
  | look k => exact snoc _
  | ask r ns => exact snoc _
  | when n r => show ∀ a ∈ (g.strike n r).as, a < 2; unfold Gb.strike; split <;> exact h
theorem Gb.tl_some {w : Nat} {g : Gb} {c : Nat} {d : De} : (g.tl w c d).isSome = d.isL := by cases d <;> rfl
/-- sizes -/
theorem prt_bd {f : Nat → Cx} {e w : Nat} {r : Row} (hx : r.x < 2 ^ w) (h : ∀ k, k < 2 ^ w → (f k).Bd e) (a : Nat) : ∀ k, k < 2 ^ w → (prt f r a k).Bd (e + 1) := fun k hk => by
  have hs := Cx.Bd.stk h hx k hk
  unfold prt
  split
  · exact (h k hk).add hs
  · exact (h k hk).sub hs
theorem step_bd {w : Nat} {g : Gb} {c e : Nat} {d : De} (hd : d.On w g.as.length) (h : ∀ k, k < 2 ^ w → (g.f k).Bd e) : ∀ k, k < 2 ^ w → ((g.step w c d).f k).Bd (e + 1) := by
  cases d with
  | mv m => exact chg_bd hd h
  | look k => exact prt_bd (pow_on hd).x h _
  | ask r ns => exact prt_bd (sgd_on ns hd.1).x h _
  | when n r =>
    intro k hk
    show ((g.strike n r).f k).Bd (e + 1)
    unfold Gb.strike
    split
    · exact (Cx.Bd.stk h hd.2.x k hk).mono (Nat.le_succ e)
    · exact (h k hk).mono (Nat.le_succ e)
/-! a small bench's rows keep the vector of the great one -/
structure GK (w : Nat) (f : Nat → Cx) (s : Sm) : Prop where
  ok : SmOk w s
  kp : ∀ k, k < w → Eig w f 0 (s.R k)
  nz : nf f (2 ^ w) ≠ 0
theorem GK.look {w : Nat} {f : Nat → Cx} {s : Sm} (h : GK w f s) {r : Row} (hr : r.On w) (hst : r.straight = true) {c : Nat} (hc : c < 2) :
    (glk w f r c).kd = (if (s.look w r c).1.even then 1 else 0) ∧ (glk w f r c).a = (s.look w r c).1.a ∧ (glk w f r c).z + (glk w f r c).o = 4 * nf f (2 ^ w) ∧
    ((s.look w r c).1.even = true → (glk w f r c).z = (glk w f r c).o) ∧ ((s.look w r c).1.even = false → (if (glk w f r c).a = 0 then (glk w f r c).o else (glk w f r c).z) = 0) ∧ GK w (prt f r (glk w f r c).a) (s.look w r c).2 := by
  have ok2 := h.ok.look hr hst hc
  have hsum : gz w f r + go w f r = 4 * nf f (2 ^ w) := w_sum hr.x
  have nn := nf_nn f (2 ^ w)
  have nz := h.nz
  have n1 : 0 ≤ gz w f r := nf_nn _ _
  have n2 : 0 ≤ go w f r := nf_nn _ _
  cases e : fstc w s.R r with
  | some a =>
    have e1 : s.look w r c = (⟨true, c, [s.R a]⟩, s.even a r c) := by unfold Sm.look; rw [e]
    obtain ⟨ha, hx⟩ := fstc_some e
    have hev : gz w f r = go w f r := w_even hr.x (h.ok.tab.on a ha).1.x (h.kp a ha) hx
    rw [e1] at ok2 ⊢
    have g0 : ¬ go w f r = 0 := by omega
    have z0 : ¬ gz w f r = 0 := by omega
    have ea : (glk w f r c).a = c := by unfold glk; simp only; rw [if_neg g0, if_neg z0]
    refine ⟨?_, ea, hsum, fun _ => hev, fun q => (by cases q), ok2, fun k hk => ?_, ?_⟩
    · unfold glk; simp only; rw [if_neg g0, if_neg z0, if_pos hev]; rfl
    · rw [ea]
      show Eig w (prt f r c) 0 (if k = a then r.mul (DL.sgn c) else if (s.R k).crosses r then (s.R k).mul (s.R a) else s.R k)
      split
      · exact (Eig.msgn hr.x (prt_self f hst hc) c).par (by omega)
      · split
        · rename_i q
          refine prt_free hr.x (Eig.mul (h.ok.tab.on k hk).1.x (h.kp a ha) (h.kp k hk)) ?_ c
          rw [Row.crosses_mul2, q, hx]; rfl
        · rename_i q
          exact prt_free hr.x (h.kp k hk) (Bool.eq_false_iff.mpr q) c
    · rw [ea]
      unfold prt
      split
      · exact z0
      · exact g0
  | none =>
    have hx := fstc_none.mp e
    obtain ⟨a, ha, q, kn⟩ := h.ok.tab.knows hr hst hx
    have hl := knows_look h.ok ha kn c
    have hE := eig_knows h.ok.tab h.kp kn
    have hw := w_sure hr.x hE ha
    rw [hl] at ok2 ⊢
    have ea : (glk w f r c).a = a := by
      unfold glk; simp only
      rcases bit2 ha with rfl | rfl
      · rw [if_pos rfl] at hw
        rw [if_pos (show go w f r = 0 from hw)]
      · rw [if_neg (by decide)] at hw
        have : gz w f r = 0 := hw
        rw [if_neg (by omega), if_pos this]
    refine ⟨?_, ea, hsum, fun q => (by cases q), fun _ => by rw [ea]; exact hw, ok2, fun k hk => ?_, ?_⟩
    · unfold glk; simp only
      rcases bit2 ha with rfl | rfl
      · rw [if_pos rfl] at hw
        rw [if_pos (show go w f r = 0 from hw)]; rfl
      · rw [if_neg (by decide)] at hw
        have : gz w f r = 0 := hw
        rw [if_neg (by omega), if_pos this]; rfl
    · rw [ea]
      exact prt_free hr.x (h.kp k hk) (hx k hk) a
    · rw [ea]
      unfold prt
      rcases bit2 ha with rfl | rfl
      · rw [if_pos rfl] at hw ⊢
        have : go w f r = 0 := hw
        show gz w f r ≠ 0
        omega
      · rw [if_neg (by decide)] at hw ⊢
        have : gz w f r = 0 := hw
        show go w f r ≠ 0
        omega
theorem Eig.sgn0 {w : Nat} {f : Nat → Cx} {r : Row} (ht : r.t < 4) (h : Eig w f 0 r) : Eig w f 0 (r.mul (DL.sgn 0)) := by
  rw [mul_sgn, Nat.mul_zero, Nat.add_zero, Nat.mod_eq_of_lt ht]; exact h
/-- a deed on both benches -/
theorem GK.step {w : Nat} {g : Gb} {s : Sm} (h : GK w g.f s) (has : g.as = s.as) {d : De} (hd : d.On w s.as.length) {c : Nat} (hc : c < 2) :
    GK w (g.step w c d).f (s.step w c d) ∧ (g.step w c d).as = (s.step w c d).as := by
  cases d with
  | mv m =>
    refine ⟨⟨h.ok.step hd hc, fun k hk => chg_eig hd (h.kp k hk), ?_⟩, has⟩
    show nf (chg g.f m) (2 ^ w) ≠ 0
    rw [nf_chg _ _ _ hd]
    have := h.nz
    intro q
    rcases Int.mul_eq_zero.mp q with q | q
    · revert q; cases m with
      | one n w => cases n <;> simp [Mv.many]
      | two n a b => simp [Mv.many]
    · exact this q
  | look k =>
    have := h.look (pow_on hd) (pow_st k) hc
    refine ⟨this.2.2.2.2.2, ?_⟩
    show g.as ++ [_] = (s.look w _ c).2.as
    rw [Sm.look_as, has, this.2.1]
  | ask r ns =>
    have e := gsgd_eq g s has r ns
    have := h.look (sgd_on (s := s) ns hd.1) (by rw [sgd_st]; exact hd.2.1) hc
    refine ⟨?_, ?_⟩
    · show GK w (prt g.f (g.sgd r ns) (glk w g.f (g.sgd r ns) c).a) _
      rw [e]; exact this.2.2.2.2.2
    · show g.as ++ [(glk w g.f (g.sgd r ns) c).a] = (s.look w _ c).2.as
      rw [e, Sm.look_as, has, this.2.1]
  | when n r =>
    have ok2 := h.ok.step (d := .when n r) hd hc
    show GK w (g.strike n r).f _ ∧ (g.strike n r).as = s.as
    have ea : g.as.getD n 0 = s.as.getD n 0 := by rw [has]
    have h2 : s.as.getD n 0 < 2 := by
      have hn : n < s.as.length := hd.1
      have : s.as.getD n 0 = s.as[n] := by simp [List.getD, hn]
      rw [this]; exact h.ok.as _ (List.getElem_mem _)
    unfold Gb.strike
    rw [ea]
    split
    · rename_i q
      refine ⟨⟨ok2, fun k hk => ?_, ?_⟩, has⟩
      · show Eig w (stk g.f r) 0 (if (s.R k).crosses r then (s.R k).mul (DL.sgn (s.as.getD n 0)) else s.R k)
        have := stk_eig hd.2.x (h.kp k hk)
        rw [q]
        split
        · rename_i e
          rw [if_pos e] at this
          exact (Eig.msgn (h.ok.tab.on k hk).1.x this 1).par (by omega)
        · rename_i e
          rw [if_neg e] at this
          exact this
      · show nf (stk g.f r) (2 ^ w) ≠ 0
        rw [nf_stk _ _ _ hd.2.x]; exact h.nz
    · rename_i q
      have q0 : s.as.getD n 0 = 0 := by omega
      refine ⟨⟨ok2, fun k hk => ?_, h.nz⟩, has⟩
      show Eig w g.f 0 (if (s.R k).crosses r then (s.R k).mul (DL.sgn (s.as.getD n 0)) else s.R k)
      rw [q0]
      split
      · exact (h.kp k hk).sgn0 (h.ok.tab.on k hk).1.t
      · exact h.kp k hk
theorem GK.start (w : Nat) : GK w Gb.start.f Sm.start := by
  refine ⟨SmOk.start w, fun k hk j hj => ?_, ?_⟩
  · show (unit0 (j ^^^ 0)).spin (0 + 2 * pop (2 ^ k &&& (j ^^^ 0))) = unit0 j
    rw [Nat.xor_zero]
    unfold unit0
    split
    · rename_i e; rw [e]; simp [pop_zero, Cx.spin]
    · exact zero_spin _
  · intro q
    have := (nf_zero _ _).mp q 0 (Nat.pow_pos (by decide))
    cases this
/-! rows between places -/
def xsp (X : Nat → Nat) (S : Nat → Bool) : Nat → Nat
  | 0 => 0
  | n + 1 => if S n then xsp X S n ^^^ X n else xsp X S n
theorem xsp_congr {X : Nat → Nat} {S T : Nat → Bool} : ∀ {n : Nat}, (∀ k, k < n → S k = T k) → xsp X S n = xsp X T n
  | 0, _ => rfl
  | n + 1, h => by unfold xsp; rw [h n (by omega), xsp_congr fun k hk => h k (by omega)]
/-- a number is a sum of some, or told from them all -/
theorem sep (X : Nat → Nat) (w : Nat) : ∀ (n d : Nat), d < 2 ^ w → (∀ k, k < n → X k < 2 ^ w) → (∃ S, xsp X S n = d) ∨ ∃ z, z < 2 ^ w ∧ pop (z &&& d) % 2 = 1 ∧ ∀ k, k < n → pop (z &&& X k) % 2 = 0
  | 0, d, hd, _ => by
    by_cases e : d = 0
    · exact .inl ⟨fun _ => false, e.symm⟩
    · have : ∃ i, i < w ∧ bt d i ≠ 0 := Classical.byContradiction fun q => e (zero_of hd fun k hk => Classical.byContradiction fun z => q ⟨k, hk, z⟩)
      obtain ⟨i, hi, hb⟩ := this
      have hl := bt_lt d i
      refine .inr ⟨2 ^ i, pow_lt hi, ?_, fun k hk => absurd hk (Nat.not_lt_zero k)⟩
      have h1 := and_unit (d := 1) (by decide) i d
      rw [Nat.one_mul, Nat.one_mul] at h1
      rw [h1, pop_unit hl]; omega
  | n + 1, d, hd, hX => by
    have hX' : ∀ k, k < n → X k < 2 ^ w := fun k hk => hX k (by omega)
    have hn := hX n (Nat.lt_succ_self n)
    rcases sep X w n d hd hX' with ⟨S, hS⟩ | ⟨z1, l1, o1, h1⟩
    · refine .inl ⟨fun k => if k = n then false else S k, ?_⟩
      unfold xsp
      rw [if_neg (by simp), xsp_congr (T := S) fun k hk => if_neg (by omega), hS]
    rcases sep X w n (d ^^^ X n) (Nat.xor_lt_two_pow hd hn) hX' with ⟨S, hS⟩ | ⟨z2, l2, o2, h2⟩
    · refine .inl ⟨fun k => if k = n then true else S k, ?_⟩
      unfold xsp
      rw [if_pos (by simp), xsp_congr (T := S) fun k hk => if_neg (by omega), hS, Nat.xor_assoc, Nat.xor_self, Nat.xor_zero]
    rw [pop_xor_r] at o2
    by_cases e1 : pop (z1 &&& X n) % 2 = 0
    · refine .inr ⟨z1, l1, o1, fun k hk => ?_⟩
      by_cases q : k = n
      · rw [q]; exact e1
      · exact h1 k (by omega)
    by_cases e2 : pop (z2 &&& X n) % 2 = 0
    · refine .inr ⟨z2, l2, by omega, fun k hk => ?_⟩
      by_cases q : k = n
      · rw [q]; exact e2
      · exact h2 k (by omega)
    refine .inr ⟨z1 ^^^ z2, Nat.xor_lt_two_pow l1 l2, ?_, fun k hk => ?_⟩
    · rw [pop_xor_l]; omega
    · rw [pop_xor_l]
      by_cases q : k = n
      · rw [q]; omega
      · have := h1 k (by omega)
        have := h2 k (by omega)
        omega
/-! how many -/
def cb (b : Nat → Bool) (n : Nat) : Int := sm (fun k => if b k = true then 1 else 0) n
end DL
namespace DL
open PySem
/-! great benches on the heap, class number cl -/
structure GtP (cl : Nat) (b pa ps : Addr) (w : Nat) (g : Gb) (G : Gp) : Prop where
  ne : pa ≠ ps
  gb : G b = some (.ins cl [(.wires, .int (w : Int)), (.answers, .ref pa), (.state, .ref ps)])
  ga : G pa = some (.lst (g.as.map fun n => D.int ((n : Nat) : Int)))
  gs : G ps = some (.lst (vl (2 ^ w) g.f))
def GtS (cl : Nat) (b : Addr) (w : Nat) (g : Gb) (G : Gp) : Prop := ∃ pa ps, GtP cl b pa ps w g G
section
variable {cl : Nat} {b pa ps : Addr} {w : Nat} {g : Gb} {G G' : Gp}
theorem GtP.ow (h : GtP cl b pa ps w g G) (a : Addr) : Ow G b a ↔ a = b ∨ a = pa ∨ a = ps := by
  unfold Ow
  rw [h.gb]
  constructor
  · rintro (e | ⟨c, fs, f, e, m⟩)
    · exact .inl e
    · cases e
      simp only [List.mem_cons, Prod.mk.injEq, reduceCtorEq, and_false, false_or, List.not_mem_nil, or_false, D.ref.injEq] at m
      rcases m with ⟨_, e⟩ | ⟨_, e⟩
      · exact .inr (.inl e)
      · exact .inr (.inr e)
  · rintro (e | e | e)
    · exact .inl e
    · exact .inr ⟨_, _, .answers, rfl, by rw [e]; simp⟩
    · exact .inr ⟨_, _, .state, rfl, by rw [e]; simp⟩
theorem GtP.oa (h : GtP cl b pa ps w g G) : Ow G b pa := (h.ow _).mpr (.inr (.inl rfl))
theorem GtP.os (h : GtP cl b pa ps w g G) : Ow G b ps := (h.ow _).mpr (.inr (.inr rfl))
theorem GtP.ext (h : GtP cl b pa ps w g G) (k : Ext G G') : GtP cl b pa ps w g G' := ⟨h.ne, k _ _ h.gb, k _ _ h.ga, k _ _ h.gs⟩
theorem GtS.ext (h : GtS cl b w g G) (k : Ext G G') : GtS cl b w g G' := by
  obtain ⟨pa, ps, h⟩ := h
  exact ⟨pa, ps, h.ext k⟩
theorem GtS.frx (h : GtS cl b w g G) (k : Ext G G') : Fr b G G' := by
  obtain ⟨pa, ps, h⟩ := h
  exact Fr.ext h.gb k
theorem GtP.free (h : GtP cl b pa ps w g G) {a : Addr} (ha : G a = none) : ¬ Ow G b a := fun q => by
  rcases (h.ow a).mp q with rfl | rfl | rfl
  · rw [h.gb] at ha; cases ha
  · rw [h.ga] at ha; cases ha
  · rw [h.gs] at ha; cases ha
theorem GtS.free (h : GtS cl b w g G) {a : Addr} (ha : G a = none) : ¬ Ow G b a := by
  obtain ⟨pa, ps, h⟩ := h
  exact h.free ha
theorem GtS.new (h : GtS cl b w g G) {a : Addr} (ha : G a = none) (o : GO) : Out b a o (gup G a o) := by
  refine ⟨gup_same, fun q => h.free ha ?_⟩
  obtain ⟨pa, ps, h⟩ := h
  exact (Ow.ext h.gb (Ext.rfl.new ha o)).mp q
theorem GtS.new' (h : GtS cl b w g G) (k : Ext G G') {a : Addr} (ha : G a = none) {o : GO} (e : G' a = some o) : Out b a o G' := by
  refine ⟨e, fun q => h.free ha ?_⟩
  obtain ⟨pa, ps, h⟩ := h
  exact (Ow.ext h.gb k).mp q
theorem GtS.gb (h : GtS cl b w g G) : ∃ fs, G b = some (.ins cl fs) := by
  obtain ⟨pa, ps, h⟩ := h
  exact ⟨_, h.gb⟩
theorem GtS.some (h : GtS cl b w g G) : ∃ o, G b = some o := by
  obtain ⟨pa, ps, h⟩ := h
  exact ⟨_, h.gb⟩
/-- a bench stays while another one works -/
theorem GtS.keep {c : Addr} (h : GtS cl c w g G) (d : Sep G b c) (f : Fr b G G') : GtS cl c w g G' ∧ Sep G' b c ∧ ∀ a, Ow G' c a ↔ Ow G c a := by
  have kp : ∀ (a : Addr) (o : GO), Ow G c a → G a = Option.some o → G' a = Option.some o := fun a o q e => f.keep a o (d a q) e
  obtain ⟨o, ho⟩ := h.some
  have hb : G' c = G c := by rw [ho]; exact kp c o (.inl rfl) ho
  have iff : ∀ a, Ow G' c a ↔ Ow G c a := fun a => by unfold Ow; rw [hb]
  refine ⟨?_, fun a q z => ?_, iff⟩
  · obtain ⟨pa, ps, h⟩ := h
    exact ⟨pa, ps, h.ne, kp _ _ (.inl rfl) h.gb, kp _ _ h.oa h.ga, kp _ _ h.os h.gs⟩
  · have q' := (iff a).mp q
    rcases f.own a z with y | y
    · exact d a q' y
    · exact h.free y q'
theorem GtS.iff (h : GtS cl b w g G) (e : Ext G G') (a : Addr) : Ow G' b a ↔ Ow G b a := by
  obtain ⟨o, ho⟩ := h.some
  exact Ow.ext ho e
end
/-! what is told -/
def GT.l (t : GT) : List D := [.int t.z, .int t.o]
structure GTls (b : Addr) (G0 : Gp) (ts : List GT) (qs : List Addr) (G : Gp) : Prop where
  len : qs.length = ts.length
  nd : qs.Nodup
  out : ∀ (i : Nat) (t : GT) (q : Addr), ts[i]? = some t → qs[i]? = some q → Out b q (.lst t.l) G
  new : ∀ q ∈ qs, G0 q = none
theorem GTls.nil (b : Addr) (G0 G : Gp) : GTls b G0 [] [] G := ⟨rfl, List.nodup_nil, fun i t q h => by simp at h, fun q h => by simp at h⟩
theorem GTls.fr {b : Addr} {G0 G G' : Gp} {ts : List GT} {qs : List Addr} (h : GTls b G0 ts qs G) (f : Fr b G G') : GTls b G0 ts qs G' :=
  ⟨h.len, h.nd, fun i t q a c => (h.out i t q a c).fr f, h.new⟩
theorem GTls.snoc {b : Addr} {G0 G : Gp} {ts : List GT} {qs : List Addr} {t : GT} {q : Addr} (h : GTls b G0 ts qs G) (o : Out b q (.lst t.l) G) (hn : G0 q = none) (hq : q ∉ qs) : GTls b G0 (ts ++ [t]) (qs ++ [q]) G := by
  refine ⟨by simp [h.len], ?_, fun i u p a c => ?_, fun p hp => ?_⟩
  · rw [List.nodup_append]
    exact ⟨h.nd, by simp, fun x hx y hy e => hq (by rw [← List.mem_singleton.mp hy, ← e]; exact hx)⟩
  · by_cases hi : i < ts.length
    · rw [List.getElem?_append_left hi] at a
      rw [List.getElem?_append_left (by rw [h.len]; exact hi)] at c
      exact h.out i u p a c
    · rw [List.getElem?_append_right (by omega)] at a
      rw [List.getElem?_append_right (by rw [h.len]; omega), h.len] at c
      have : i - ts.length = 0 := by
        have := (List.getElem?_eq_some_iff.mp a).1; simp at this; omega
      rw [this] at a c
      cases a; cases c
      exact o
  · rcases List.mem_append.mp hp with z | z
    · exact h.new p z
    · rw [List.mem_singleton.mp z]; exact hn
theorem GTls.mem {b : Addr} {G0 G : Gp} {ts : List GT} {qs : List Addr} (h : GTls b G0 ts qs G) {q : Addr} (hq : q ∈ qs) : ∃ xs, G q = some (.lst xs) := by
  obtain ⟨i, hi⟩ := List.mem_iff_getElem?.mp hq
  have hl : i < ts.length := by rw [← h.len]; exact (List.getElem?_eq_some_iff.mp hi).1
  exact ⟨_, (h.out i _ q (List.getElem?_eq_getElem hl) hi).1⟩
theorem GTls.base {b : Addr} {G0 G1 G : Gp} {ts : List GT} {qs : List Addr} (h : GTls b G1 ts qs G) (e : Ext G0 G1) : GTls b G0 ts qs G := ⟨h.len, h.nd, h.out, fun q z => e.none (h.new q z)⟩
/-! words done -/
def Gb.rn (w : Nat) (ch : Nat → Nat) (st : List GT × Gb) (d : De) : List GT × Gb :=
  (st.1 ++ (st.2.tl w (ch st.1.length) d).toList, st.2.step w (ch st.1.length) d)
theorem gran_len (w : Nat) (ch : Nat → Nat) : ∀ (ds : List De) (st : List GT × Gb), (ds.foldl (Gb.rn w ch) st).1.length = st.1.length + lks ds ∧ (ds.foldl (Gb.rn w ch) st).2.as.length = st.2.as.length + lks ds
  | [], st => ⟨rfl, rfl⟩
  | d :: ds, st => by
    obtain ⟨a, b⟩ := gran_len w ch ds (Gb.rn w ch st d)
    have h1 : (Gb.rn w ch st d).1.length = st.1.length + if d.isL then 1 else 0 := by
      unfold Gb.rn
      rw [List.length_append]
      have := Gb.tl_some (w := w) (g := st.2) (c := ch st.1.length) (d := d)
      cases e : st.2.tl w (ch st.1.length) d with
      | none => rw [e] at this; rw [← this]; rfl
      | some t => rw [e] at this; rw [← this]; rfl
    have h2 := Gb.step_len w st.2 (ch st.1.length) d
    refine ⟨?_, ?_⟩
    · rw [List.foldl_cons, a, h1, lks]; omega
    · rw [List.foldl_cons, b, show (Gb.rn w ch st d).2 = st.2.step w (ch st.1.length) d from rfl, h2, lks]; omega
/-- in order: answers 0 or 1, and numbers of few bits -/
structure GOk (w e : Nat) (g : Gb) : Prop where
  as : ∀ a ∈ g.as, a < 2
  bd : ∀ k, k < 2 ^ w → (g.f k).Bd e
theorem GOk.step {w e c : Nat} {g : Gb} (h : GOk w e g) (hc : c < 2) {d : De} (hd : d.On w g.as.length) : GOk w (e + 1) (g.step w c d) := ⟨Gb.step_as hc h.as, step_bd hd h.bd⟩
theorem GOk.mono {w e e' : Nat} {g : Gb} (h : GOk w e g) (l : e ≤ e') : GOk w e' g := ⟨h.as, fun k hk => (h.bd k hk).mono l⟩
theorem GOk.start (w : Nat) : GOk w 1 Gb.start := ⟨fun a h => by simp [Gb.start] at h, fun k _ => by
  show Cx.Bd 1 (if k = 0 then Cx.one else Cx.zero)
  split <;> simp [Cx.Bd, Cx.one, Cx.zero]⟩
end DL
namespace DL
open PySem
/-! more of data: pairs, names of deeds -/
/-! names of deeds -/
def dnm : De → Str
  | .mv (.one n _) => n.s
  | .mv (.two n _ _) => n.s
  | .look _ => "look"
  | .ask _ _ => "ask"
  | .when _ _ => "when"
theorem de_0 (d : De) (G : Gp) (Q : K1) : wpIx d.d (.int 0) G Q = Q (.str (dnm d)) G := by
  cases d with
  | mv m =>
    cases m with
    | one n k => show (∃ d, L2.atI _ 0 = some d ∧ Q d G) = _; rw [at_0]; simp [dnm]
    | two n k j => show (∃ d, L2.atI _ 0 = some d ∧ Q d G) = _; rw [at_0]; simp [dnm]
  | look k => show (∃ d, L2.atI _ 0 = some d ∧ Q d G) = _; rw [at_0]; simp [dnm]
  | ask r ns => show (∃ d, L2.atI _ 0 = some d ∧ Q d G) = _; rw [at_0]; simp [dnm]
  | when n r => show (∃ d, L2.atI _ 0 = some d ∧ Q d G) = _; rw [at_0]; simp [dnm]
theorem dnm_is (d : De) : d.isL = true ∧ (dnm d = "look" ∨ dnm d = "ask") ∨ d.isL = false ∧ (dnm d = "look") = False ∧ (dnm d = "ask") = False := by
  cases d with
  | mv m =>
    refine .inr ⟨rfl, ?_, ?_⟩
    · cases m with
      | one n k => cases n <;> simp [dnm, N1.s, s_lit]
      | two n k j => cases n <;> simp [dnm, N2.s, s_lit]
    · cases m with
      | one n k => cases n <;> simp [dnm, N1.s, s_lit]
      | two n k j => cases n <;> simp [dnm, N2.s, s_lit]
  | look k => exact .inl ⟨rfl, .inl rfl⟩
  | ask r ns => exact .inl ⟨rfl, .inr rfl⟩
  | when n r => exact .inr ⟨rfl, by simp [dnm, s_lit], by simp [dnm, s_lit]⟩
end DL
namespace DL
open PySem
/-! moves on other wires -/
def Mv.wl : Mv → List Nat
  | .one _ a => [a]
  | .two _ a b => [a, b]
def Clear (r : Row) (m : Mv) : Prop := ∀ a ∈ m.wl, bt r.x a = 0 ∧ bt r.z a = 0
theorem Clear.moved {r : Row} {m : Mv} (ht : r.t < 4) (h : Clear r m) : r.moved m = r := by
  cases m with
  | one n a => exact out1 ht (h a (by simp [Mv.wl])).1 (h a (by simp [Mv.wl])).2
  | two n a b => exact out2 ht (h a (by simp [Mv.wl])).1 (h a (by simp [Mv.wl])).2 (h b (by simp [Mv.wl])).1 (h b (by simp [Mv.wl])).2
theorem flip_else {n d a c : Nat} (hd : d < 2) (h : c ≠ a) : bt (n ^^^ d * 2 ^ a) c = bt n c := by
  rw [bt_flip hd, if_neg h]
  have := bt_lt n c
  omega
theorem moved_else {r : Row} {m : Mv} {c : Nat} (h : c ∉ m.wl) : bt (r.moved m).x c = bt r.x c ∧ bt (r.moved m).z c = bt r.z c := by
  cases m with
  | one n a =>
    have e := n.e_lt (bt_lt r.x a) (bt_lt r.z a)
    have hc : c ≠ a := by simpa [Mv.wl] using h
    exact ⟨flip_else e.1 hc, flip_else e.2 hc⟩
  | two n a b =>
    have e := n.e_lt (bt_lt r.x a) (bt_lt r.z a) (bt_lt r.x b) (bt_lt r.z b)
    have hc : c ≠ a ∧ c ≠ b := by simpa [Mv.wl] using h
    refine ⟨?_, ?_⟩
    · show bt ((r.x ^^^ _ * 2 ^ a) ^^^ _ * 2 ^ b) c = _
      rw [flip_else e.2.1 hc.2, flip_else e.1 hc.1]
    · show bt ((r.z ^^^ _ * 2 ^ a) ^^^ _ * 2 ^ b) c = _
      rw [flip_else e.2.2.2 hc.2, flip_else e.2.2.1 hc.1]
theorem bas_at {k a : Nat} (h : a ≠ k / 2) : bt (bas k).x a = 0 ∧ bt (bas k).z a = 0 := by
  unfold bas
  split
  · exact ⟨by show bt (2 ^ (k / 2)) a = 0; rw [bt_pow, if_neg h], bt_zero a⟩
  · exact ⟨bt_zero a, by show bt (2 ^ (k / 2)) a = 0; rw [bt_pow, if_neg h]⟩
theorem comm_act {w : Nat} {m n : Mv} (hm : m.On w) (hn : n.On w) (hd : ∀ a ∈ m.wl, a ∉ n.wl) {r : Row} (hr : r.On w) : act [m, n] r = act [n, m] r := by
  refine act_all (w := w) (by simp [hm, hn]) (by simp [hm, hn]) (fun k hk => ?_) hr
  show ((bas k).moved m).moved n = ((bas k).moved n).moved m
  by_cases q : k / 2 ∈ n.wl
  · have c1 : Clear (bas k) m := fun a ha => bas_at fun e => hd a ha (e ▸ q)
    have c2 : Clear ((bas k).moved n) m := fun a ha => by
      have := moved_else (r := bas k) (hd a ha)
      rw [this.1, this.2]; exact c1 a ha
    rw [c1.moved (bas_t k), c2.moved ((bas_on hk).moved hn).t]
  · have c1 : Clear (bas k) n := fun a ha => bas_at fun e => q (e ▸ ha)
    have c2 : Clear ((bas k).moved m) n := fun a ha => by
      have := moved_else (r := bas k) (m := m) (c := a) fun z => hd a z ha
      rw [this.1, this.2]; exact c1 a ha
    rw [c1.moved (bas_t k), c2.moved ((bas_on hk).moved hm).t]
/-! vectors but for a factor -/
def Par (w : Nat) (f g : Nat → Cx) : Prop := ∃ u v : Cx, u ≠ .zero ∧ v ≠ .zero ∧ ∀ k, k < 2 ^ w → mulc f u k = mulc g v k
theorem Cx.mul_nz {u v : Cx} (h : u ≠ .zero) (k : v ≠ .zero) : u.mul v ≠ .zero := fun q => by
  rcases Cx.mul_zero_or q with e | e
  · exact h e
  · exact k e
theorem Par.near {w : Nat} {f g : Nat → Cx} (h : ∀ k, k < 2 ^ w → f k = g k) : Par w f g := ⟨.one, .one, by decide, by decide, fun k hk => by unfold mulc; rw [h k hk]⟩
theorem Par.rfl (w : Nat) (f : Nat → Cx) : Par w f f := Par.near fun _ _ => _root_.rfl
theorem Par.symm {w : Nat} {f g : Nat → Cx} (h : Par w f g) : Par w g f := by
  obtain ⟨u, v, hu, hv, e⟩ := h
  exact ⟨v, u, hv, hu, fun k hk => (e k hk).symm⟩
theorem Par.trans {w : Nat} {f g h : Nat → Cx} (a : Par w f g) (b : Par w g h) : Par w f h := by
  obtain ⟨u, v, hu, hv, e⟩ := a
  obtain ⟨u', v', hu', hv', e'⟩ := b
  refine ⟨u.mul u', v'.mul v, Cx.mul_nz hu hu', Cx.mul_nz hv' hv, fun k hk => ?_⟩
  have e := e k hk
  have e' := e' k hk
  unfold mulc at *
  rw [← Cx.mul_assoc, e, ← Cx.mul_assoc, ← e', Cx.mul_assoc, Cx.mul_assoc, Cx.mul_comm v]
theorem Par.chg {w : Nat} {f g : Nat → Cx} (h : Par w f g) {m : Mv} (hm : m.On w) : Par w (chg f m) (chg g m) := by
  obtain ⟨u, v, hu, hv, e⟩ := h
  exact ⟨u, v, hu, hv, fun k hk => by rw [← chg_mulc, ← chg_mulc]; exact chg_near hm e k hk⟩
theorem Par.stk {w : Nat} {f g : Nat → Cx} (h : Par w f g) {r : Row} (hr : r.x < 2 ^ w) : Par w (stk f r) (stk g r) := by
  obtain ⟨u, v, hu, hv, e⟩ := h
  exact ⟨u, v, hu, hv, fun k hk => by rw [← stk_mulc, ← stk_mulc]; exact stk_near hr e k hk⟩
theorem mulc_vadd (f g : Nat → Cx) (u : Cx) : mulc (vadd f g) u = vadd (mulc f u) (mulc g u) := by
  funext k; simp only [mulc, vadd, Cx.mul, Cx.add, Cx.mk.injEq]; constructor <;> grind
theorem mulc_vsub (f g : Nat → Cx) (u : Cx) : mulc (vsub f g) u = vsub (mulc f u) (mulc g u) := by
  funext k; simp only [mulc, vsub, Cx.mul, Cx.sub, Cx.mk.injEq]; constructor <;> grind
theorem prt_mulc (f : Nat → Cx) (u : Cx) (r : Row) (a : Nat) : prt (mulc f u) r a = mulc (prt f r a) u := by
  unfold prt
  split
  · rw [mulc_vadd, stk_mulc]
  · rw [mulc_vsub, stk_mulc]
theorem prt_near {w : Nat} {r : Row} (hx : r.x < 2 ^ w) {f g : Nat → Cx} (h : ∀ k, k < 2 ^ w → f k = g k) (a : Nat) : ∀ k, k < 2 ^ w → prt f r a k = prt g r a k := fun k hk => by
  have e := stk_near hx h k hk
  unfold prt
  split
  · show (f k).add _ = (g k).add _; rw [h k hk, e]
  · show (f k).sub _ = (g k).sub _; rw [h k hk, e]
theorem Par.prt {w : Nat} {f g : Nat → Cx} (h : Par w f g) {r : Row} (hr : r.x < 2 ^ w) (a : Nat) : Par w (prt f r a) (prt g r a) := by
  obtain ⟨u, v, hu, hv, e⟩ := h
  exact ⟨u, v, hu, hv, fun k hk => by rw [← prt_mulc, ← prt_mulc]; exact prt_near hr e a k hk⟩
theorem Cx.norm_mul (c u : Cx) : (c.mul u).norm = c.norm * u.norm := by simp only [Cx.norm, Cx.mul]; grind
theorem nf_mulc (f : Nat → Cx) (u : Cx) : ∀ n, nf (mulc f u) n = nf f n * u.norm
  | 0 => (Int.zero_mul _).symm
  | n + 1 => by
    show nf (mulc f u) n + ((f n).mul u).norm = (nf f n + (f n).norm) * u.norm
    rw [nf_mulc f u n, Cx.norm_mul, Int.add_mul]
theorem norm_pos {u : Cx} (h : u ≠ .zero) : 0 < u.norm := by
  have h1 := Cx.norm_nn u
  have h2 : u.norm ≠ 0 := fun q => h (Cx.norm_zero q)
  omega
theorem gzo {w : Nat} {f : Nat → Cx} {r : Row} : gz w f r = DL.nf (DL.prt f r 0) (2 ^ w) ∧ go w f r = DL.nf (DL.prt f r 1) (2 ^ w) := ⟨_root_.rfl, _root_.rfl⟩
theorem scale_0 {a b p q : Int} (hp : 0 < p) (hq : 0 < q) (h : a * p = b * q) : a = 0 ↔ b = 0 := by
  constructor
  · intro e; rw [e, Int.zero_mul] at h
    rcases Int.mul_eq_zero.mp h.symm with z | z
    · exact z
    · omega
  · intro e; rw [e, Int.zero_mul] at h
    rcases Int.mul_eq_zero.mp h with z | z
    · exact z
    · omega
theorem glk_scale {w : Nat} {f g : Nat → Cx} {r s : Row} {p q : Int} (hp : 0 < p) (hq : 0 < q) (h0 : gz w f r * p = gz w g s * q) (h1 : go w f r * p = go w g s * q) (c : Nat) :
    (glk w f r c).kd = (glk w g s c).kd ∧ (glk w f r c).a = (glk w g s c).a := by
  have e1 := scale_0 hp hq h1
  have e0 := scale_0 hp hq h0
  have e2 : gz w f r = go w f r ↔ gz w g s = go w g s := by
    have := scale_0 (a := gz w f r - go w f r) (b := gz w g s - go w g s) hp hq (by rw [Int.sub_mul, Int.sub_mul, h0, h1])
    omega
  unfold glk
  simp only [e1, e0, e2]
  first | exact ⟨_root_.rfl, _root_.rfl⟩ | trivial
theorem Par.glk {w : Nat} {f g : Nat → Cx} (h : Par w f g) {r : Row} (hr : r.x < 2 ^ w) (c : Nat) : (glk w f r c).kd = (glk w g r c).kd ∧ (glk w f r c).a = (glk w g r c).a := by
  obtain ⟨u, v, hu, hv, e⟩ := h
  refine glk_scale (norm_pos hu) (norm_pos hv) ?_ ?_ c
  · rw [gzo.1, gzo.1, ← nf_mulc, ← nf_mulc]
    exact nf_congr _ fun k hk => by rw [← prt_mulc, ← prt_mulc, prt_near hr e 0 k hk]
  · rw [gzo.2, gzo.2, ← nf_mulc, ← nf_mulc]
    exact nf_congr _ fun k hk => by rw [← prt_mulc, ← prt_mulc, prt_near hr e 1 k hk]
/-! what is alike on unit vectors is alike on all -/
theorem run_lin (f g : Nat → Cx) (u v : Cx) : ∀ ms : List Mv, run ms (lin f u g v) = lin (run ms f) u (run ms g) v
  | [] => _root_.rfl
  | m :: ms => by
    show run ms (DL.chg (lin f u g v) m) = _
    have e : DL.chg (lin f u g v) m = lin (DL.chg f m) u (DL.chg g m) v := funext fun k => chg_lin f g u v m k
    rw [e]
    have : ∀ (f g : Nat → Cx), run ms (lin f u g v) = lin (run ms f) u (run ms g) v := fun f g => run_lin f g u v ms
    exact this _ _
def cutv (f : Nat → Cx) (n : Nat) : Nat → Cx := fun k => if k < n then f k else .zero
theorem cutv_succ (f : Nat → Cx) (n : Nat) : cutv f (n + 1) = lin (cutv f n) .one (un n) (f n) := by
  funext k
  unfold cutv lin un
  show (if k < n + 1 then f k else Cx.zero) = (Cx.mul (if k < n then f k else Cx.zero) .one).add (Cx.mul (if k = n then Cx.one else .zero) (f n))
  by_cases h : k < n
  · rw [if_pos (by omega), if_pos h, if_neg (by omega), Cx.mul_one, Cx.z_mul]
    cases f k; simp [Cx.add, Cx.zero]
  · by_cases e : k = n
    · subst e
      rw [if_pos (by omega), if_neg h, if_pos _root_.rfl, Cx.one_mul, Cx.z_mul]
      cases f k; simp [Cx.add, Cx.zero]
    · rw [if_neg (by omega), if_neg h, if_neg e, Cx.z_mul, Cx.z_mul]; rfl
theorem lin_mulc (f g : Nat → Cx) (u v c : Cx) : mulc (lin f u g v) c = lin (mulc f c) u (mulc g c) v := by
  funext k; simp only [mulc, lin, Cx.mul, Cx.add, Cx.mk.injEq]; constructor <;> grind
theorem lines_all {w : Nat} {U V : List Mv} (hU : ∀ m ∈ U, m.On w) (hV : ∀ m ∈ V, m.On w) {c d : Cx} (h : ∀ j, j < 2 ^ w → ∀ k, k < 2 ^ w → mulc (run V (un j)) c k = mulc (run U (un j)) d k) (f : Nat → Cx) :
    ∀ k, k < 2 ^ w → mulc (run V f) c k = mulc (run U f) d k := by
  have key : ∀ n, n ≤ 2 ^ w → ∀ k, k < 2 ^ w → mulc (run V (cutv f n)) c k = mulc (run U (cutv f n)) d k := by
    intro n
    induction n with
    | zero =>
      intro _ k _
      have z : cutv f 0 = mulc f .zero := by funext k; unfold cutv mulc; rw [if_neg (by omega), Cx.mul_z]
      rw [z, run_mulc, run_mulc]
      unfold mulc
      rw [Cx.mul_z, Cx.mul_z, Cx.z_mul, Cx.z_mul]
    | succ n ih =>
      intro hn k hk
      rw [cutv_succ, run_lin, run_lin, lin_mulc, lin_mulc]
      show ((mulc (run V (cutv f n)) c k).mul _).add ((mulc (run V (un n)) c k).mul _) = _
      rw [ih (by omega) k hk, h n (by omega) k hk]; rfl
  intro k hk
  have near : ∀ k, k < 2 ^ w → f k = cutv f (2 ^ w) k := fun k hk => (if_pos hk).symm
  have e1 := run_near V hV near k hk
  have e2 := run_near U hU near k hk
  have := key _ (Nat.le_refl _) k hk
  unfold mulc at *
  rw [e1, e2]; exact this
theorem sca_mulc (n : Nat) (f : Nat → Cx) : sca n f = mulc f ⟨n, 0⟩ := by
  funext k; simp only [sca, mulc, Cx.mul, Cx.mk.injEq]; constructor <;> grind
theorem nf_un {w j : Nat} (hj : j < 2 ^ w) : DL.nf (un j) (2 ^ w) ≠ 0 := fun q => by
  have := (nf_zero _ _).mp q j hj
  unfold un at this
  rw [if_pos _root_.rfl] at this
  exact absurd this (by decide)
theorem run_nf {w : Nat} : ∀ (ms : List Mv) (f : Nat → Cx), (∀ m ∈ ms, m.On w) → DL.nf f (2 ^ w) ≠ 0 → DL.nf (run ms f) (2 ^ w) ≠ 0
  | [], _, _, h => h
  | m :: ms, f, hm, h => by
    refine run_nf ms _ (fun m' h' => hm m' (List.mem_cons_of_mem _ h')) fun q => ?_
    rw [nf_chg _ _ _ (hm m (List.mem_cons_self ..))] at q
    rcases Int.mul_eq_zero.mp q with z | z
    · revert z; cases m with
      | one n w => cases n <;> simp [Mv.many]
      | two n a b => simp [Mv.many]
    · exact h z
/-- words that do alike to rows do alike to vectors, but for a factor -/
theorem act_par {w : Nat} {U V : List Mv} (hU : ∀ m ∈ U, m.On w) (hV : ∀ m ∈ V, m.On w) (h : ∀ r : Row, r.On w → act U r = act V r) (f : Nat → Cx) : Par w (run V f) (run U f) := by
  obtain ⟨n, c, hn, e⟩ := all_line hU hV h
  have hn0 : (Cx.mk (n : Int) 0) ≠ .zero := fun q => by
    have := congrArg Cx.a q
    simp only [Cx.zero] at this
    omega
  refine ⟨⟨n, 0⟩, c, hn0, fun q => ?_, lines_all hU hV (fun j hj k hk => by rw [← sca_mulc]; exact e j hj k hk) f⟩
  have h0 : 0 < 2 ^ w := Nat.pow_pos (by decide)
  refine run_nf V (un 0) hV (nf_un h0) ((nf_zero _ _).mpr fun k hk => ?_)
  have := e 0 h0 k hk
  rw [sca_mulc, q] at this
  unfold mulc at this
  rw [Cx.mul_z] at this
  rcases Cx.mul_zero_or this with z | z
  · exact z
  · exact absurd z hn0
theorem comm_par {w : Nat} {m n : Mv} (hm : m.On w) (hn : n.On w) (hd : ∀ a ∈ m.wl, a ∉ n.wl) (f : Nat → Cx) : Par w (chg (chg f m) n) (chg (chg f n) m) :=
  act_par (U := [n, m]) (V := [m, n]) (by simp [hm, hn]) (by simp [hm, hn]) (fun r hr => (comm_act hm hn hd hr).symm) f
/-! a move and a part -/
theorem chg_vadd (f g : Nat → Cx) (m : Mv) : chg (vadd f g) m = vadd (chg f m) (chg g m) := by
  have e : ∀ f g : Nat → Cx, vadd f g = lin f .one g .one := fun f g => by funext k; unfold vadd lin; rw [Cx.mul_one, Cx.mul_one]
  rw [e, e]; exact funext fun k => chg_lin ..
theorem chg_vsub (f g : Nat → Cx) (m : Mv) : chg (vsub f g) m = vsub (chg f m) (chg g m) := by
  have e : ∀ f g : Nat → Cx, vsub f g = lin f .one g ⟨-1, 0⟩ := fun f g => by funext k; unfold vsub lin; rw [Cx.mul_one]; simp only [Cx.sub, Cx.add, Cx.mul, Cx.mk.injEq]; constructor <;> omega
  rw [e, e]; exact funext fun k => chg_lin ..
theorem chg_stk_clear (f : Nat → Cx) {r : Row} {m : Mv} (ht : r.t < 4) (hm : m.Ok) (h : Clear r m) : chg (stk f r) m = stk (chg f m) r := by
  funext k
  rw [← chg_struck f r m hm k, h.moved ht]
theorem chg_prt_clear (f : Nat → Cx) {r : Row} {m : Mv} (ht : r.t < 4) (hm : m.Ok) (h : Clear r m) (a : Nat) : chg (prt f r a) m = prt (chg f m) r a := by
  unfold prt
  split
  · rw [chg_vadd, chg_stk_clear f ht hm h]
  · rw [chg_vsub, chg_stk_clear f ht hm h]
theorem many_pos1 (m : Mv) : 0 < m.many := by
  cases m with
  | one n w => cases n <;> simp [Mv.many]
  | two n a b => simp [Mv.many]
theorem glk_clear {w : Nat} (f : Nat → Cx) {r : Row} {m : Mv} (ht : r.t < 4) (hm : m.On w) (h : Clear r m) (c : Nat) : (glk w (chg f m) r c).kd = (glk w f r c).kd ∧ (glk w (chg f m) r c).a = (glk w f r c).a := by
  refine glk_scale (p := 1) (q := m.many) (by decide) (many_pos1 m) ?_ ?_ c
  · rw [gzo.1, gzo.1, ← chg_prt_clear f ht hm.ok h, nf_chg _ _ _ hm, Int.mul_one, Int.mul_comm]
  · rw [gzo.2, gzo.2, ← chg_prt_clear f ht hm.ok h, nf_chg _ _ _ hm, Int.mul_one, Int.mul_comm]
/-! words on great benches -/
structure GSim (w : Nat) (S T : List GT × Gb) : Prop where
  tl : S.1.map (fun t => (t.kd, t.a)) = T.1.map fun t => (t.kd, t.a)
  as : S.2.as = T.2.as
  fs : Par w S.2.f T.2.f
section
variable {w : Nat} {ch : Nat → Nat} {S T U : List GT × Gb}
theorem GSim.rfl : GSim w S S := ⟨_root_.rfl, _root_.rfl, Par.rfl _ _⟩
theorem GSim.symm (h : GSim w S T) : GSim w T S := ⟨h.tl.symm, h.as.symm, h.fs.symm⟩
theorem GSim.trans (h : GSim w S T) (k : GSim w T U) : GSim w S U := ⟨h.tl.trans k.tl, h.as.trans k.as, h.fs.trans k.fs⟩
theorem GSim.len (h : GSim w S T) : S.1.length = T.1.length := by
  have := congrArg List.length h.tl
  simpa using this
theorem gb_sgd_as {g g' : Gb} (h : g.as = g'.as) (r : Row) (ns : List Nat) : g.sgd r ns = g'.sgd r ns := by unfold Gb.sgd; rw [h]
theorem gsgd_on {g : Gb} {r : Row} (hr : r.On w) (ns : List Nat) : (g.sgd r ns).On w := sgd_on (s := asm g.as) ns hr
theorem GSim.look (h : GSim w S T) {r : Row} (hr : r.x < 2 ^ w) (c : Nat) : GSim w (S.1 ++ [(S.2.look w r c).1], (S.2.look w r c).2) (T.1 ++ [(T.2.look w r c).1], (T.2.look w r c).2) := by
  have e := h.fs.glk hr c
  refine ⟨?_, ?_, ?_⟩
  · show (S.1 ++ [glk w S.2.f r c]).map _ = (T.1 ++ [glk w T.2.f r c]).map _
    rw [List.map_append, List.map_append, h.tl]
    simp [e.1, e.2]
  · show S.2.as ++ [(glk w S.2.f r c).a] = T.2.as ++ [(glk w T.2.f r c).a]
    rw [h.as, e.2]
  · show Par w (prt S.2.f r (glk w S.2.f r c).a) (prt T.2.f r (glk w T.2.f r c).a)
    rw [e.2]; exact h.fs.prt hr _
theorem GSim.rn (h : GSim w S T) {d : De} (hd : d.On w S.2.as.length) : GSim w (Gb.rn w ch S d) (Gb.rn w ch T d) := by
  unfold Gb.rn
  rw [← h.len]
  cases d with
  | mv m => exact ⟨by simpa [Gb.tl] using h.tl, h.as, h.fs.chg hd⟩
  | look k => exact h.look (pow_on hd).x _
  | ask r ns =>
    have := h.look (gsgd_on (g := S.2) hd.1 ns).x (ch S.1.length)
    show GSim w (S.1 ++ [(S.2.look w (S.2.sgd r ns) _).1], (S.2.look w (S.2.sgd r ns) _).2) (T.1 ++ [(T.2.look w (T.2.sgd r ns) _).1], (T.2.look w (T.2.sgd r ns) _).2)
    rw [← gb_sgd_as h.as]; exact this
  | when n r =>
    show GSim w (S.1 ++ [], S.2.strike n r) (T.1 ++ [], T.2.strike n r)
    unfold Gb.strike
    rw [← h.as]
    split
    · exact ⟨by simpa using h.tl, _root_.rfl, h.fs.stk hd.2.x⟩
    · exact ⟨by simpa using h.tl, h.as, h.fs⟩
theorem rn_as (S : List GT × Gb) (d : De) : (Gb.rn w ch S d).2.as.length = S.2.as.length + if d.isL then 1 else 0 := Gb.step_len w S.2 _ d
theorem GSim.fold : ∀ (ds : List De) {S T : List GT × Gb}, GSim w S T → WdOn w S.2.as.length ds → GSim w (ds.foldl (Gb.rn w ch) S) (ds.foldl (Gb.rn w ch) T)
  | [], _, _, h, _ => h
  | d :: ds, S, T, h, q => GSim.fold ds (h.rn q.1) (by rw [rn_as]; exact q.2)
/-- a deed without wires of a move -/
def De.Clr (m : Mv) : De → Prop
  | .mv n => ∀ a ∈ m.wl, a ∉ n.wl
  | .look k => k ∉ m.wl
  | .ask r _ => Clear r m
  | .when _ r => Clear r m
theorem sgd_clear {s : Sm} {m : Mv} : ∀ (ns : List Nat) {r : Row}, Clear r m → Clear (s.sgd r ns) m
  | [], _, h => h
  | n :: ns, r, h => sgd_clear ns (r := r.mul (sgn (s.as.getD n 0))) (by rw [mul_sgn]; exact h)
theorem look_swap {f : Nat → Cx} {as : List Nat} {ts : List GT} {m : Mv} (hm : m.On w) {r : Row} (hr : r.On w) (hc : Clear r m) (c : Nat) :
    GSim w (ts ++ [glk w (chg f m) r c], ⟨prt (chg f m) r (glk w (chg f m) r c).a, as ++ [(glk w (chg f m) r c).a]⟩) (ts ++ [glk w f r c], ⟨chg (prt f r (glk w f r c).a) m, as ++ [(glk w f r c).a]⟩) := by
  have e := glk_clear f hr.t hm hc c
  refine ⟨?_, ?_, ?_⟩
  · simp [e.1, e.2]
  · show as ++ _ = as ++ _; rw [e.2]
  · show Par w (prt _ _ _) (chg _ _)
    rw [e.2, chg_prt_clear f hr.t hm.ok hc]; exact Par.rfl _ _
theorem rn_mv (S : List GT × Gb) (m : Mv) : Gb.rn w ch S (.mv m) = (S.1, ⟨chg S.2.f m, S.2.as⟩) := by
  show (S.1 ++ [], _) = _
  rw [List.append_nil]; rfl
theorem swap_sim {d : De} {m : Mv} (hm : m.On w) (hd : d.On w S.2.as.length) (hc : d.Clr m) : GSim w (Gb.rn w ch (Gb.rn w ch S (.mv m)) d) (Gb.rn w ch (Gb.rn w ch S d) (.mv m)) := by
  rw [rn_mv, rn_mv]
  obtain ⟨ts, f, as⟩ := S
  cases d with
  | mv n =>
    show GSim w (ts ++ [], ⟨chg (chg f m) n, as⟩) (ts ++ [], ⟨chg (chg f n) m, as⟩)
    exact ⟨_root_.rfl, _root_.rfl, comm_par hm hd hc f⟩
  | look k =>
    refine look_swap hm (pow_on hd) (fun a ha => ⟨bt_zero a, ?_⟩) _
    show bt (2 ^ k) a = 0
    rw [bt_pow, if_neg]
    exact fun e => hc (e ▸ ha)
  | ask r ns => exact look_swap hm (gsgd_on (g := ⟨f, as⟩) hd.1 ns) (sgd_clear ns hc) _
  | when n r =>
    show GSim w (ts ++ [], Gb.strike ⟨chg f m, as⟩ n r) (ts ++ [], ⟨chg (Gb.strike ⟨f, as⟩ n r).f m, (Gb.strike ⟨f, as⟩ n r).as⟩)
    unfold Gb.strike
    simp only
    split
    · refine ⟨_root_.rfl, _root_.rfl, ?_⟩
      show Par w (stk (chg f m) r) (chg (stk f r) m)
      rw [chg_stk_clear f hd.2.t hm.ok hc]; exact Par.rfl _ _
    · exact ⟨_root_.rfl, _root_.rfl, Par.rfl _ _⟩
theorem push_sim {m : Mv} (hm : m.On w) : ∀ (ds : List De) {S : List GT × Gb}, WdOn w S.2.as.length ds → (∀ d ∈ ds, d.Clr m) → GSim w (Gb.rn w ch (ds.foldl (Gb.rn w ch) S) (.mv m)) (ds.foldl (Gb.rn w ch) (Gb.rn w ch S (.mv m)))
  | [], _, _, _ => GSim.rfl
  | d :: ds, S, q, h => by
    have ih := push_sim hm ds (S := Gb.rn w ch S d) (by rw [rn_as]; exact q.2) fun e he => h e (List.mem_cons_of_mem _ he)
    refine ih.trans (GSim.fold ds (swap_sim hm q.1 (h d (List.mem_cons_self ..))).symm ?_)
    rw [rn_as, rn_as]; simpa [De.isL] using q.2
/-- two moves that are one -/
def Mv.same : Mv → Mv → Bool
  | .one a i, .one b j => decide (a = b) && decide (i = j)
  | .two a i j, .two b k l => decide (a = b) && (if a = .both ∨ a = .swap then decide (min i j = min k l ∧ max i j = max k l) else decide (i = k ∧ j = l))
  | _, _ => false
theorem chg_same (f : Nat → Cx) {m n : Mv} (h : m.same n = true) : chg f m = chg f n := by
  cases m with
  | one a i =>
    cases n with
    | one b j => simp only [Mv.same, Bool.and_eq_true, decide_eq_true_eq] at h; rw [h.1, h.2]
    | two b k l => cases h
  | two a i j =>
    cases n with
    | one b j => cases h
    | two b k l =>
      simp only [Mv.same, Bool.and_eq_true, decide_eq_true_eq] at h
      obtain ⟨rfl, h⟩ := h
      by_cases q : a = .both ∨ a = .swap
      · rw [if_pos q] at h
        have h := of_decide_eq_true h
        have : (i = k ∧ j = l) ∨ (i = l ∧ j = k) := by omega
        rcases this with ⟨rfl, rfl⟩ | ⟨rfl, rfl⟩
        · rfl
        · funext x
          rcases q with rfl | rfl
          · simp only [chg, and_comm]
          · simp only [chg]
            rw [xor_mid x (2 ^ j) (2 ^ i)]
            by_cases e : bt x i = bt x j
            · rw [if_pos e, if_pos e.symm]
            · rw [if_neg e, if_neg fun z => e z.symm]
      · rw [if_neg q] at h
        obtain ⟨rfl, rfl⟩ := of_decide_eq_true h
        rfl
/-- a move undone with nothing of it between -/
theorem cut_sim {m m' : Mv} (hm : m.On w) (hm' : m'.On w) (hs : m'.undo.same m = true) {K1 K2 : List De} {S : List GT × Gb} (hW : WdOn w S.2.as.length (K1 ++ .mv m' :: K2)) (hc : ∀ d ∈ K2, d.Clr m) :
    GSim w (Gb.rn w ch ((K1 ++ .mv m' :: K2).foldl (Gb.rn w ch) S) (.mv m)) ((K1 ++ K2).foldl (Gb.rn w ch) S) := by
  rw [List.foldl_append, List.foldl_append, List.foldl_cons]
  rw [WdOn.app] at hW
  obtain ⟨_, _, hW⟩ := hW
  generalize hT : K1.foldl (Gb.rn w ch) S = T
  have hl : T.2.as.length = S.2.as.length + lks K1 := by rw [← hT]; exact (gran_len w ch K1 S).2
  have hW2 : WdOn w T.2.as.length K2 := by rw [hl]; simpa [De.isL] using hW
  refine (push_sim hm K2 (by rw [rn_as]; simpa [De.isL] using hW2) hc).trans (GSim.fold K2 ?_ ?_)
  · rw [rn_mv, rn_mv]
    refine ⟨_root_.rfl, _root_.rfl, ?_⟩
    show Par w (chg (chg T.2.f m') m) T.2.f
    rw [← chg_same _ hs, chg_undo _ _ hm'.ok, sca_mulc]
    refine ⟨.one, ⟨m'.two?, 0⟩, by decide, fun q => ?_, fun k hk => ?_⟩
    · cases m' with
      | one a i => cases a <;> cases q
      | two a i j => cases q
    · unfold mulc; rw [Cx.mul_one]
  · rw [rn_as, rn_as]; simpa [De.isL] using hW2
end
/-! trimming -/
/-- the wires of a deed, in order -/
def bl1 (n i : Nat) : List Int := ((List.range i).filter fun j => bt n j = 1).map fun (j : Nat) => (j : Int)
def De.ws (w : Nat) : De → List Int
  | .mv (.one _ a) => [(a : Int)]
  | .mv (.two _ a b) => [((min a b : Nat) : Int), ((max a b : Nat) : Int)]
  | .look a => [(a : Int)]
  | .ask r _ => bl1 (r.x ||| r.z) w
  | .when _ r => bl1 (r.x ||| r.z) w
def De.meets (w : Nat) (d : De) (m : Mv) : Bool := (d.ws w).any fun x => decide (x ∈ (De.mv m).ws w)
def De.undoes (m : Mv) : De → Bool
  | .mv n => n.undo.same m
  | _ => false
def plcN (w : Nat) (K : List De) (m : Mv) : Nat → Int
  | 0 => -1
  | n + 1 => match K[n]? with
    | some d => if d.meets w m then (if d.undoes m then (n : Int) else -1) else plcN w K m n
    | none => -1
def trimS (w : Nat) (K : List De) : De → List De
  | .mv m => if plcN w K m K.length < 0 then K ++ [.mv m] else K.eraseIdx (plcN w K m K.length).toNat
  | d => K ++ [d]
def trimW (w : Nat) (ds : List De) : List De := ds.foldl (trimS w) []
theorem mem_mws {w a : Nat} {m : Mv} (h : a ∈ m.wl) : (a : Int) ∈ (De.mv m).ws w := by
  cases m with
  | one n i => simp only [Mv.wl, List.mem_singleton] at h; subst h; simp [De.ws]
  | two n i j =>
    simp only [Mv.wl, List.mem_cons, List.not_mem_nil, or_false] at h
    simp only [De.ws, List.mem_cons, List.not_mem_nil, or_false]
    omega
theorem mem_bl1 {n i j : Nat} (hj : j < i) (h : bt n j = 1) : (j : Int) ∈ bl1 n i := by
  unfold bl1
  rw [List.mem_map]
  exact ⟨j, by rw [List.mem_filter]; exact ⟨List.mem_range.mpr hj, by simp [h]⟩, rfl⟩
theorem or_bt (a b i : Nat) (h : ¬ bt (a ||| b) i = 1) : bt a i = 0 ∧ bt b i = 0 := by
  have e : bt (a ||| b) i = bt a i ||| bt b i := by
    unfold bt
    have := Nat.testBit_or a b i
    simp only [Nat.testBit_eq_decide_div_mod_eq] at this
    have h1 := Nat.mod_lt ((a ||| b) / 2 ^ i) (show 0 < 2 by decide)
    rcases Nat.mod_two_eq_zero_or_one (a / 2 ^ i) with p | p <;> rcases Nat.mod_two_eq_zero_or_one (b / 2 ^ i) with q | q <;> rw [p, q] at this ⊢ <;> simp at this ⊢ <;> omega
  rw [e] at h
  have h1 := bt_lt a i
  have h2 := bt_lt b i
  rcases bit2 h1 with p | p <;> rcases bit2 h2 with q | q <;> rw [p, q] at h ⊢ <;> first | exact ⟨rfl, rfl⟩ | exact absurd rfl h
theorem clr_of {w n : Nat} {d : De} {m : Mv} (hm : m.On w) (hd : d.On w n) (h : d.meets w m = false) : d.Clr m := by
  have no : ∀ a ∈ m.wl, (a : Int) ∉ d.ws w := fun a ha q => by
    have : d.meets w m = true := List.any_eq_true.mpr ⟨a, q, decide_eq_true (mem_mws ha)⟩
    rw [h] at this; cases this
  have lt : ∀ a ∈ m.wl, a < w := fun a ha => by
    cases m with
    | one n i => simp only [Mv.wl, List.mem_singleton] at ha; subst ha; exact hm
    | two n i j =>
      simp only [Mv.wl, List.mem_cons, List.not_mem_nil, or_false] at ha
      rcases ha with rfl | rfl
      · exact hm.1
      · exact hm.2.1
  cases d with
  | mv n => exact fun a ha q => no a ha (mem_mws q)
  | look k => exact fun q => no k q (by simp [De.ws])
  | ask r ns => exact fun a ha => or_bt _ _ _ fun q => no a ha (mem_bl1 (lt a ha) q)
  | when n r => exact fun a ha => or_bt _ _ _ fun q => no a ha (mem_bl1 (lt a ha) q)
theorem plc_ok {w : Nat} {K : List De} {m : Mv} : ∀ n, n ≤ K.length → ¬ plcN w K m n < 0 → ∃ (i : Nat) (m' : Mv), i < n ∧ plcN w K m n = (i : Int) ∧ K[i]? = some (.mv m') ∧ m'.undo.same m = true ∧ ∀ j d, i < j → j < n → K[j]? = some d → d.meets w m = false
  | 0, _, h => absurd (show ((-1 : Int) < 0) by decide) h
  | n + 1, hn, h => by
    have hg := List.getElem?_eq_getElem (l := K) (i := n) (by omega)
    unfold plcN at h ⊢
    rw [hg] at h ⊢
    simp only at h ⊢
    split at h
    · rename_i q
      rw [if_pos q]
      split at h
      · rename_i q2
        rw [if_pos q2]
        cases e : K[n] with
        | mv m' => exact ⟨n, m', Nat.lt_succ_self n, rfl, by rw [hg, e], by rw [e] at q2; exact q2, fun j d a b => by omega⟩
        | look k => rw [e] at q2; cases q2
        | ask r ns => rw [e] at q2; cases q2
        | when k r => rw [e] at q2; cases q2
      · exact absurd (by decide) h
    · rename_i q
      rw [if_neg q]
      obtain ⟨i, m', a, b, c, d, e⟩ := plc_ok n (by omega) h
      refine ⟨i, m', by omega, b, c, d, fun j d' x y z => ?_⟩
      by_cases z' : j = n
      · subst z'
        rw [hg] at z
        cases z
        exact Bool.eq_false_iff.mpr q
      · exact e j d' x (by omega) z
theorem erase_mid {α : Type} (K : List α) {i : Nat} {d : α} (h : K[i]? = some d) : K = K.take i ++ d :: K.drop (i + 1) ∧ K.eraseIdx i = K.take i ++ K.drop (i + 1) := by
  have hi := (List.getElem?_eq_some_iff.mp h)
  refine ⟨?_, by rw [List.eraseIdx_eq_take_drop_succ]⟩
  obtain ⟨h1, h2⟩ := hi
  rw [← h2, ← List.drop_eq_getElem_cons, List.take_append_drop]
/-- trimmed words do the same on great benches, but for a factor -/
theorem trim_step {w : Nat} {ch : Nat → Nat} {S : List GT × Gb} {K : List De} {d : De} (hK : WdOn w S.2.as.length K) (hd : d.On w (S.2.as.length + lks K)) :
    GSim w (Gb.rn w ch (K.foldl (Gb.rn w ch) S) d) ((trimS w K d).foldl (Gb.rn w ch) S) ∧ WdOn w S.2.as.length (trimS w K d) ∧ lks (trimS w K d) = lks K + if d.isL then 1 else 0 := by
  have app : GSim w (Gb.rn w ch (K.foldl (Gb.rn w ch) S) d) ((K ++ [d]).foldl (Gb.rn w ch) S) ∧ WdOn w S.2.as.length (K ++ [d]) ∧ lks (K ++ [d]) = lks K + if d.isL then 1 else 0 := by
    refine ⟨by rw [List.foldl_append]; exact GSim.rfl, ?_, by rw [lks_app]; simp [lks]⟩
    rw [WdOn.app]; exact ⟨hK, hd, trivial⟩
  cases d with
  | look k => exact app
  | ask r ns => exact app
  | when n r => exact app
  | mv m =>
    have e0 : trimS w K (.mv m) = if plcN w K m K.length < 0 then K ++ [.mv m] else K.eraseIdx (plcN w K m K.length).toNat := rfl
    rw [e0]
    by_cases h : plcN w K m K.length < 0
    · rw [if_pos h]; exact app
    · rw [if_neg h]
      obtain ⟨i, m', hi, e, hg, hs, hc⟩ := plc_ok K.length (Nat.le_refl _) h
      rw [e, Int.toNat_natCast]
      obtain ⟨e1, e2⟩ := erase_mid K hg
      rw [e2]
      have hK' := hK
      rw [e1, WdOn.app] at hK'
      obtain ⟨k1, k2, k3⟩ := hK'
      have k3 : WdOn w (S.2.as.length + lks (K.take i)) (K.drop (i + 1)) := by simpa [De.isL] using k3
      refine ⟨?_, ?_, ?_⟩
      · have := cut_sim (ch := ch) (S := S) (K1 := K.take i) (K2 := K.drop (i + 1)) (m := m) (m' := m') hd k2 hs (by rw [← e1]; exact hK) ?_
        · rwa [← e1] at this
        · intro d hd'
          obtain ⟨j, hj⟩ := List.mem_iff_getElem?.mp hd'
          rw [List.getElem?_drop] at hj
          have hl := (List.getElem?_eq_some_iff.mp hj).1
          have hon := hK.get hj
          exact clr_of hd hon (hc _ _ (by omega) hl hj)
      · rw [WdOn.app]; exact ⟨k1, k3⟩
      · have := congrArg lks e1
        rw [lks_app] at this
        rw [lks_app, this]
        simp [lks, De.isL]
theorem trim_sim {w : Nat} {ch : Nat → Nat} {S : List GT × Gb} : ∀ (ds : List De), WdOn w S.2.as.length ds →
    GSim w (ds.foldl (Gb.rn w ch) S) ((trimW w ds).foldl (Gb.rn w ch) S) ∧ WdOn w S.2.as.length (trimW w ds) ∧ lks (trimW w ds) = lks ds := by
  intro ds h
  have key : ∀ (n : Nat), n ≤ ds.length → GSim w ((ds.take n).foldl (Gb.rn w ch) S) ((trimW w (ds.take n)).foldl (Gb.rn w ch) S) ∧ WdOn w S.2.as.length (trimW w (ds.take n)) ∧ lks (trimW w (ds.take n)) = lks (ds.take n) := by
    intro n
    induction n with
    | zero => intro _; exact ⟨GSim.rfl, trivial, rfl⟩
    | succ n ih =>
      intro hn
      obtain ⟨a, b, c⟩ := ih (by omega)
      have hg := List.getElem?_eq_getElem (l := ds) (i := n) (by omega)
      have e : ds.take (n + 1) = ds.take n ++ [ds[n]] := by rw [List.take_add_one, hg]; rfl
      have hon := h.get hg
      have et : trimW w (ds.take (n + 1)) = trimS w (trimW w (ds.take n)) ds[n] := by rw [e]; unfold trimW; rw [List.foldl_append]; rfl
      have st := trim_step (ch := ch) b (d := ds[n]) (by rw [c]; exact hon)
      rw [et]
      refine ⟨?_, st.2.1, ?_⟩
      · rw [e, List.foldl_append]
        refine GSim.trans (GSim.rn a ?_) st.1
        have := (gran_len w ch (ds.take n) S).2
        rw [this]; exact hon
      · rw [st.2.2, c, e, lks_app]; simp [lks]
  have := key ds.length (Nat.le_refl _)
  rwa [List.take_length] at this
end DL
namespace DL
open PySem
/-! two great benches -/
structure Two (cl : Nat) (b c : Addr) (w : Nat) (g1 g2 : Gb) (G : Gp) : Prop where
  s1 : GtS cl b w g1 G
  s2 : GtS cl c w g2 G
  sep : Sep G b c
structure Free2 (b c p : Addr) (o : GO) (G : Gp) : Prop where
  o1 : Out b p o G
  o2 : Out c p o G
section
variable {cl : Nat} {b c p : Addr} {w : Nat} {g1 g2 g' : Gb} {G G' : Gp} {o : GO}
theorem Two.ext (h : Two cl b c w g1 g2 G) (k : Ext G G') : Two cl b c w g1 g2 G' := ⟨h.s1.ext k, h.s2.ext k, h.sep.same (h.s1.iff k) (h.s2.iff k)⟩
theorem Free2.ext (h : Free2 b c p o G) (t : Two cl b c w g1 g2 G) (k : Ext G G') : Free2 b c p o G' := ⟨h.o1.fr (t.s1.frx k), h.o2.fr (t.s2.frx k)⟩
theorem Two.new (t : Two cl b c w g1 g2 G) (k : Ext G G') (ha : G p = none) (e : G' p = some o) : Free2 b c p o G' := ⟨t.s1.new' k ha e, t.s2.new' k ha e⟩
end
/-! weights and answers leave a vector -/
theorem Par.line {w : Nat} {f g : Nat → Cx} (h : Par w f g) {j k : Nat} (hj : j < 2 ^ w) (hk : k < 2 ^ w) : (f j).mul (g k) = (g j).mul (f k) := by
  obtain ⟨u, v, hu, hv, e⟩ := h
  have a : (f j).mul u = (g j).mul v := e j hj
  have b : (f k).mul u = (g k).mul v := e k hk
  have key : (u.mul v).mul ((f j).mul (g k)) = (u.mul v).mul ((g j).mul (f k)) := by
    have e1 : (u.mul v).mul ((f j).mul (g k)) = ((f j).mul u).mul ((g k).mul v) := by
      simp only [Cx.mul, Cx.mk.injEq]; constructor <;> grind
    have e2 : (u.mul v).mul ((g j).mul (f k)) = ((g j).mul v).mul ((f k).mul u) := by
      simp only [Cx.mul, Cx.mk.injEq]; constructor <;> grind
    rw [e1, e2, a, b]
  exact Cx.cancel (Cx.mul_nz hu hv) key
end DL
local macro_rules | `(tactic| walk_at "sm") => `(tactic| simp (config := { failIfUnchanged := false }) only [↓DL.look_0, ↓DL.look_s, ↓DL.nth_0, ↓DL.nth_s, ↓DL.nth_x0, ↓DL.nth_xs, ↓DL.nth_m0, ↓DL.nth_ms, ↓DL.nthD_0, ↓DL.nthD_s, ↓DL.put_0, ↓DL.put_s, ↓DL.puts_c, ↓DL.puts_n, ↓DL.e_v, ↓DL.e_i, ↓DL.e_b, ↓DL.e_s, ↓DL.e_non, ↓DL.e_con, ↓DL.e_mrk, ↓DL.e_bin, ↓DL.e_neg, ↓DL.e_cmp, ↓DL.e_cmp2, ↓DL.e_and1, ↓DL.e_and, ↓DL.e_or, ↓DL.e_not, ↓DL.e_ite, ↓DL.e_tup, ↓DL.e_lst, ↓DL.e_ix, ↓DL.e_sl, ↓DL.e_dgt, ↓DL.e_nn, ↓DL.e_ng, ↓DL.e_nx, ↓DL.un_N, ↓DL.e_ddn, ↓DL.e_ddg, ↓DL.e_ddx, ↓DL.e_dds, ↓DL.un_K, ↓DL.e_fmt, ↓DL.e_fst, ↓DL.es_fn, ↓DL.es_fc, ↓DL.e_rv, ↓DL.e_call, ↓DL.e_callx, ↓DL.e_mkx, ↓DL.e_isx, ↓DL.e_ist, ↓DL.s_rai, ↓DL.s_tri, ↓DL.b_hd0, ↓DL.b_hd1, ↓DL.wi_on0, ↓DL.wi_on1, ↓DL.wi_of0, ↓DL.wi_of1, ↓DL.wi_fn, ↓DL.wi_con, ↓DL.wi_mth, ↓DL.wi_mks, ↓DL.wi_ncl, ↓DL.wi_isc, ↓DL.wi_dic, ↓DL.wi_xfn, ↓DL.wi_xmk, ↓DL.wi_xc, ↓DL.wi_wx, ↓DL.e_bi, ↓DL.e_isi, ↓DL.e_bm, ↓DL.e_dat, ↓DL.t_nne, ↓DL.t_dic, ↓DL.e_lc, ↓DL.es_nil, ↓DL.es_cons, ↓DL.eo_none, ↓DL.eo_some, ↓DL.t_e, ↓DL.t_cmp, ↓DL.t_cmp2, ↓DL.t_not, ↓DL.t_and1, ↓DL.t_and, ↓DL.t_or, ↓DL.to_none, ↓DL.to_some, ↓DL.i_seq, ↓DL.i_rng1, ↓DL.i_rng2, ↓DL.i_rng3, ↓DL.i_enum, ↓DL.i_zip, ↓DL.i_rev, ↓DL.s_asg, ↓DL.s_asgT, ↓DL.s_unl, ↓DL.s_par, ↓DL.s_aug, ↓DL.s_nst, ↓DL.s_dst, ↓DL.s_set, ↓DL.s_ex, ↓DL.s_ret, ↓DL.s_retN, ↓DL.s_ite, ↓DL.s_cont, ↓DL.b_nil, ↓DL.s_loop, ↓DL.s_loopU, ↓DL.s_whl, ↓DL.v_add, ↓DL.v_addS, ↓DL.v_addL, ↓DL.v_sub, ↓DL.v_mul, ↓DL.v_rep, ↓DL.v_repS, ↓DL.v_div, ↓DL.v_mod, ↓DL.v_pow, ↓DL.v_addT, ↓DL.v_shl, ↓DL.v_shr, ↓DL.v_and, ↓DL.v_or, ↓DL.v_xor, ↓DL.u_add, ↓DL.u_sub, ↓DL.c_eqI, ↓DL.c_neI, ↓DL.c_eqS, ↓DL.c_neS, ↓DL.c_eqB, ↓DL.c_neB, ↓DL.c_lt, ↓DL.c_le, ↓DL.c_gt, ↓DL.c_ge, ↓DL.c_is, ↓DL.c_isnot, ↓DL.a_I, ↓DL.a_B, ↓DL.a_R, ↓DL.tr_B, ↓DL.it_tup, ↓DL.it_ro, ↓DL.it_ref, ↓DL.sq_tup, ↓DL.sq_ro, ↓DL.sq_ref, ↓DL.x_tup, ↓DL.x_ro, ↓DL.x_ref, ↓DL.ty_i, ↓DL.ty_ib, ↓DL.ty_b, ↓DL.ty_bi, ↓DL.ty_it, ↓DL.ty_t, ↓DL.ty_l, ↓DL.ty_lr, ↓DL.ty_s, ↓DL.b_lenT, ↓DL.b_lenR, ↓DL.b_lenL, ↓DL.un_nL, ↓DL.un_nK, ↓DL.a_K1, ↓DL.a_K2, ↓DL.un_x0, ↓DL.un_x1, ↓DL.un_x2, ↓DL.b_lenS, ↓DL.b_strI, ↓DL.x_str, ↓DL.c_inC, ↓DL.c_ninC, ↓DL.b_intB, ↓DL.b_intI, ↓DL.b_max, ↓DL.b_min, ↓DL.b_listL, ↓DL.b_listT, ↓DL.b_tupleL, ↓DL.m_app, ↓DL.m_r1, ↓DL.m_r2, ↓DL.m_r3, ↓DL.m_r4, ↓DL.m_r5, ↓DL.m_r6, ↓DL.m_s1, ↓DL.m_s2, ↓DL.m_s3, ↓DL.m_s4, ↓DL.m_r7, ↓DL.m_bit, ↓DL.m_fnd, ↓DL.m_sta, ↓DL.m_spl, ↓DL.m_joi, ↓DL.st_nm, ↓DL.st_tup, ↓DL.sl_str', ↓DL.v_fmS, ↓DL.v_fmI, ↓DL.v_intS, ↓DL.sl_ro', ↓DL.sl_ref', ↓DL.it_L, ↓DL.has_s, ↓DL.has_n, ↓DL.has_e, ↓DL.fill_s, ↓DL.fill_n, ↓DL.fill_e, ↓DL.ck_r, ↓DL.ck_t, ↓DL.ck_o, ↓DL.clr_0, ↓DL.clr_s, ↓DL.wi_n, ↓DL.wi_c, ↓DL.un_fc, ↓DL.un_fn, ↓DL.un_lc, ↓DL.un_ln, ↓DL.un_cm, ↓DL.un_ct, ↓DL.un_cd, ↓DL.un_slT, ↓DL.un_rt, ↓DL.un_bn, ↓DL.un_bc, ↓DL.un_any, ↓DL.un_all, ↓DL.un_inT, ↓DL.un_ninT, ↓DL.un_inS, ↓DL.un_inI, ↓DL.un_inN, ↓DL.un_fS, ↓DL.un_fI, ↓DL.un_at, ↓DL.un_clr, ↓DL.un_asS, ↓DL.un_onDs, ↓DL.un_onDn, ↓DL.un_onS, ↓DL.un_onN, ↓DL.un_t0, ↓DL.un_tS, ↓DL.un_d0, ↓DL.un_dc, ↓DL.un_ins, ↓DL.un_inL, ↓DL.un_newL, ↓DL.un_sm, ↓DL.un_sm', ↓DL.un_rvr, ↓DL.un_setU, ↓DL.un_ge2, ↓DL.un_in0, ↓DL.un_inC, ↓DL.un_srt, ↓DL.un_srl, ↓DL.e_fld, ↓DL.e_om, ↓DL.e_mk, ↓DL.e_ini, ↓DL.s_fset, ↓DL.un_lmc, ↓DL.un_mm0, ↓DL.un_mms, ↓DL.un_k0, ↓DL.un_ks, ↓DL.it_I, ↓DL.un_lk, ↓DL.un_pd0, ↓DL.un_pdc, ↓DL.e_isc, ↓DL.un_nn0, ↓DL.un_nns, ↓DL.un_memn, ↓DL.q_eqM, ↓DL.q_neM, ↓DL.q_eq2, ↓DL.q_ne2, ↓DL.q_eq3, ↓DL.q_ne3, ↓DL.s_lit, ↓DL.q_rr, ↓DL.q_nrr, ↓DL.q_rt, ↓DL.q_nrt, ↓DL.q_tr, ↓DL.q_ntr, ↓DL.q_r0, ↓DL.q_r1, ↓DL.q_r2, ↓DL.q_rs, ↓DL.q_rl, ↓DL.q_rT, ↓DL.q_ru, ↓DL.q_r1n, ↓DL.q_mT, ↓DL.q_m1n, ↓DL.q_c0, ↓DL.q_c1, ↓DL.q_cT, ↓DL.q_cl, ↓DL.q_cu, ↓DL.q_cc, ↓DL.q_ncc, ↓DL.sq_nn, ↓DL.sq_zero, DL.at_0, DL.at_1, DL.at_2, DL.at_3, DL.at_nat, DL.ex_some, DL.bAnd_nat, DL.bXor_nat, DL.bOr_nat, DL.gup_same, DL.gup_gup, DL.s_lit, String.reduceEq, decide_true, decide_false, List.getElem?_cons_zero, List.getElem?_cons_succ, decide_eq_true_eq, Bool.not_eq_true', decide_eq_false_iff_not, Bool.not_true, Bool.not_false, not_true_eq_false, not_false_eq_true, if_true, if_false, Bool.false_eq_true, Nat.reduceAdd, Nat.reduceSub, Int.reduceToNat, List.map_cons, List.map_nil, List.length_cons, List.length_nil, List.cons_append, List.drop_succ_cons, List.drop_zero, List.take_succ_cons, List.take_zero, List.any_cons, List.any_nil, List.all_cons, List.all_nil, id_eq, Option.isSome_some, Option.isSome_none, Bool.or_false, Bool.false_or, Bool.or_true, Bool.true_or, Bool.and_true, Bool.true_and, Bool.and_false, Bool.false_and, true_or, or_true, false_or, or_false, and_false, false_and, and_self, or_self, Decidable.not_not, List.nil_append, List.replicate_zero, List.replicate_succ, List.replicate, L2.CPow, DL.CShl, Int.reduceLT, Int.reduceLE, Nat.reduceLT, Nat.reduceLeDiff, Int.natAbs_one, Int.natAbs_zero, DL.log_ok, Bool.true_eq_false, reduceCtorEq, Nat.reducePow, Int.reducePow, Int.natCast_nonneg, true_and, and_true, Int.toNat_natCast, Int.one_mul, DL.sz, Int.reduceEq, Int.reduceDiv, Int.reduceMul, Int.reduceAdd, Int.reduceSub, Int.reduceMod, Nat.reduceAnd, Nat.reduceXor, Option.some.injEq, exists_eq_left', exists_eq_left, DL.D.int.injEq, DL.D.bl.injEq, eq_self, Int.cast_ofNat_Int]) | `(tactic| walk_at "st") => `(tactic| simp (config := { failIfUnchanged := false }) only [↓DL.look_0, ↓DL.look_s, ↓DL.nth_0, ↓DL.nth_s, ↓DL.nth_x0, ↓DL.nth_xs, ↓DL.nth_m0, ↓DL.nth_ms, ↓DL.nthD_0, ↓DL.nthD_s, ↓DL.put_0, ↓DL.put_s, ↓DL.puts_c, ↓DL.puts_n, ↓DL.e_v, ↓DL.e_i, ↓DL.e_b, ↓DL.e_s, ↓DL.e_non, ↓DL.e_con, ↓DL.e_mrk, ↓DL.e_bin, ↓DL.e_neg, ↓DL.e_cmp, ↓DL.e_cmp2, ↓DL.e_and1, ↓DL.e_and, ↓DL.e_or, ↓DL.e_not, ↓DL.e_ite, ↓DL.e_tup, ↓DL.e_lst, ↓DL.e_ix, ↓DL.e_sl, ↓DL.e_dgt, ↓DL.e_nn, ↓DL.e_ng, ↓DL.e_nx, ↓DL.un_N, ↓DL.e_ddn, ↓DL.e_ddg, ↓DL.e_ddx, ↓DL.e_dds, ↓DL.un_K, ↓DL.e_fmt, ↓DL.e_fst, ↓DL.es_fn, ↓DL.es_fc, ↓DL.e_rv, ↓DL.e_call, ↓DL.e_callx, ↓DL.e_mkx, ↓DL.e_isx, ↓DL.e_ist, ↓DL.s_rai, ↓DL.s_tri, ↓DL.b_hd0, ↓DL.b_hd1, ↓DL.wi_on0, ↓DL.wi_on1, ↓DL.wi_of0, ↓DL.wi_of1, ↓DL.wi_fn, ↓DL.wi_con, ↓DL.wi_mth, ↓DL.wi_mks, ↓DL.wi_ncl, ↓DL.wi_isc, ↓DL.wi_dic, ↓DL.wi_xfn, ↓DL.wi_xmk, ↓DL.wi_xc, ↓DL.wi_wx, ↓DL.e_bi, ↓DL.e_isi, ↓DL.e_bm, ↓DL.e_dat, ↓DL.t_nne, ↓DL.t_dic, ↓DL.e_lc, ↓DL.es_nil, ↓DL.es_cons, ↓DL.eo_none, ↓DL.eo_some, ↓DL.t_e, ↓DL.t_cmp, ↓DL.t_cmp2, ↓DL.t_not, ↓DL.t_and1, ↓DL.t_and, ↓DL.t_or, ↓DL.to_none, ↓DL.to_some, ↓DL.i_seq, ↓DL.i_rng1, ↓DL.i_rng2, ↓DL.i_rng3, ↓DL.i_enum, ↓DL.i_zip, ↓DL.i_rev, ↓DL.s_asg, ↓DL.s_asgT, ↓DL.s_unl, ↓DL.s_par, ↓DL.s_aug, ↓DL.s_nst, ↓DL.s_dst, ↓DL.s_set, ↓DL.s_ex, ↓DL.s_ret, ↓DL.s_retN, ↓DL.s_ite, ↓DL.s_cont, ↓DL.b_nil, ↓DL.s_loop, ↓DL.s_loopU, ↓DL.s_whl, ↓DL.v_add, ↓DL.v_addS, ↓DL.v_addL, ↓DL.v_sub, ↓DL.v_mul, ↓DL.v_rep, ↓DL.v_repS, ↓DL.v_div, ↓DL.v_mod, ↓DL.v_pow, ↓DL.v_addT, ↓DL.v_shl, ↓DL.v_shr, ↓DL.v_and, ↓DL.v_or, ↓DL.v_xor, ↓DL.u_add, ↓DL.u_sub, ↓DL.c_eqI, ↓DL.c_neI, ↓DL.c_eqS, ↓DL.c_neS, ↓DL.c_eqB, ↓DL.c_neB, ↓DL.c_lt, ↓DL.c_le, ↓DL.c_gt, ↓DL.c_ge, ↓DL.c_is, ↓DL.c_isnot, ↓DL.a_I, ↓DL.a_B, ↓DL.a_R, ↓DL.tr_B, ↓DL.it_tup, ↓DL.it_ro, ↓DL.it_ref, ↓DL.sq_tup, ↓DL.sq_ro, ↓DL.sq_ref, ↓DL.x_tup, ↓DL.x_ro, ↓DL.x_ref, ↓DL.ty_i, ↓DL.ty_ib, ↓DL.ty_b, ↓DL.ty_bi, ↓DL.ty_it, ↓DL.ty_t, ↓DL.ty_l, ↓DL.ty_lr, ↓DL.ty_s, ↓DL.b_lenT, ↓DL.b_lenR, ↓DL.b_lenL, ↓DL.un_nL, ↓DL.un_nK, ↓DL.a_K1, ↓DL.a_K2, ↓DL.un_x0, ↓DL.un_x1, ↓DL.un_x2, ↓DL.b_lenS, ↓DL.b_strI, ↓DL.x_str, ↓DL.c_inC, ↓DL.c_ninC, ↓DL.b_intB, ↓DL.b_intI, ↓DL.b_max, ↓DL.b_min, ↓DL.b_listL, ↓DL.b_listT, ↓DL.b_tupleL, ↓DL.m_app, ↓DL.m_r1, ↓DL.m_r2, ↓DL.m_r3, ↓DL.m_r4, ↓DL.m_r5, ↓DL.m_r6, ↓DL.m_s1, ↓DL.m_s2, ↓DL.m_s3, ↓DL.m_s4, ↓DL.m_r7, ↓DL.m_bit, ↓DL.m_fnd, ↓DL.m_sta, ↓DL.m_spl, ↓DL.m_joi, ↓DL.st_nm, ↓DL.st_tup, ↓DL.sl_str', ↓DL.v_fmS, ↓DL.v_fmI, ↓DL.v_intS, ↓DL.sl_ro', ↓DL.sl_ref', ↓DL.it_L, ↓DL.has_s, ↓DL.has_n, ↓DL.has_e, ↓DL.fill_s, ↓DL.fill_n, ↓DL.fill_e, ↓DL.ck_r, ↓DL.ck_t, ↓DL.ck_o, ↓DL.clr_0, ↓DL.clr_s, ↓DL.wi_n, ↓DL.wi_c, ↓DL.un_fc, ↓DL.un_fn, ↓DL.un_lc, ↓DL.un_ln, ↓DL.un_cm, ↓DL.un_ct, ↓DL.un_cd, ↓DL.un_slT, ↓DL.un_rt, ↓DL.un_bn, ↓DL.un_bc, ↓DL.un_any, ↓DL.un_all, ↓DL.un_inT, ↓DL.un_ninT, ↓DL.un_inS, ↓DL.un_inI, ↓DL.un_inN, ↓DL.un_fS, ↓DL.un_fI, ↓DL.un_at, ↓DL.un_clr, ↓DL.un_asS, ↓DL.un_onDs, ↓DL.un_onDn, ↓DL.un_onS, ↓DL.un_onN, ↓DL.un_t0, ↓DL.un_tS, ↓DL.un_d0, ↓DL.un_dc, ↓DL.un_ins, ↓DL.un_inL, ↓DL.un_newL, ↓DL.un_sm, ↓DL.un_sm', ↓DL.un_rvr, ↓DL.un_setU, ↓DL.un_ge2, ↓DL.un_in0, ↓DL.un_inC, ↓DL.un_srt, ↓DL.un_srl, ↓DL.e_fld, ↓DL.e_om, ↓DL.e_mk, ↓DL.e_ini, ↓DL.s_fset, ↓DL.un_lmc, ↓DL.un_mm0, ↓DL.un_mms, ↓DL.un_k0, ↓DL.un_ks, ↓DL.it_I, ↓DL.un_lk, ↓DL.un_pd0, ↓DL.un_pdc, ↓DL.e_isc, ↓DL.un_nn0, ↓DL.un_nns, ↓DL.un_memn, ↓DL.q_eqM, ↓DL.q_neM, ↓DL.q_eq2, ↓DL.q_ne2, ↓DL.q_eq3, ↓DL.q_ne3, ↓DL.s_lit, ↓DL.q_rr, ↓DL.q_nrr, ↓DL.q_rt, ↓DL.q_nrt, ↓DL.q_tr, ↓DL.q_ntr, ↓DL.q_r0, ↓DL.q_r1, ↓DL.q_r2, ↓DL.q_rs, ↓DL.q_rl, ↓DL.q_rT, ↓DL.q_ru, ↓DL.q_r1n, ↓DL.q_mT, ↓DL.q_m1n, ↓DL.q_c0, ↓DL.q_c1, ↓DL.q_cT, ↓DL.q_cl, ↓DL.q_cu, ↓DL.q_cc, ↓DL.q_ncc, ↓DL.sq_nn, ↓DL.sq_zero, DL.at_0, DL.at_1, DL.at_2, DL.at_3, DL.at_nat, DL.ex_some, DL.bAnd_nat, DL.bXor_nat, DL.bOr_nat, DL.gup_same, DL.gup_gup, DL.s_lit, String.reduceEq, decide_true, decide_false, List.getElem?_cons_zero, List.getElem?_cons_succ, decide_eq_true_eq, Bool.not_eq_true', decide_eq_false_iff_not, Bool.not_true, Bool.not_false, not_true_eq_false, not_false_eq_true, if_true, if_false, Bool.false_eq_true, Nat.reduceAdd, Nat.reduceSub, Int.reduceToNat, List.map_cons, List.map_nil, List.length_cons, List.length_nil, List.cons_append, List.drop_succ_cons, List.drop_zero, List.take_succ_cons, List.take_zero, List.any_cons, List.any_nil, List.all_cons, List.all_nil, id_eq, Option.isSome_some, Option.isSome_none, Bool.or_false, Bool.false_or, Bool.or_true, Bool.true_or, Bool.and_true, Bool.true_and, Bool.and_false, Bool.false_and, true_or, or_true, false_or, or_false, and_false, false_and, and_self, or_self, Decidable.not_not, List.nil_append, List.replicate_zero, List.replicate_succ, List.replicate, L2.CPow, DL.CShl, Int.reduceLT, Int.reduceLE, Nat.reduceLT, Nat.reduceLeDiff, DL.nabs, Int.natAbs_one, Int.natAbs_zero, DL.log_ok, Bool.true_eq_false, reduceCtorEq, Nat.reducePow, Int.reducePow, Int.natCast_nonneg, true_and, and_true, Int.toNat_natCast, Int.one_mul, DL.sz, DL.mul_r, DL.mul_l, Int.reduceEq, Int.reduceDiv, Int.reduceMul, Int.reduceAdd, Int.reduceSub, Int.reduceMod, Nat.reduceAnd, Nat.reduceXor, Option.some.injEq, exists_eq_left', exists_eq_left, DL.D.int.injEq, DL.D.bl.injEq, eq_self, Int.cast_ofNat_Int]) | `(tactic| walk_at "ev") => `(tactic| simp (config := { failIfUnchanged := false }) only [↓DL.look_0, ↓DL.look_s, ↓DL.nth_0, ↓DL.nth_s, ↓DL.nth_x0, ↓DL.nth_xs, ↓DL.nth_m0, ↓DL.nth_ms, ↓DL.nthD_0, ↓DL.nthD_s, ↓DL.put_0, ↓DL.put_s, ↓DL.puts_c, ↓DL.puts_n, ↓DL.e_v, ↓DL.e_i, ↓DL.e_b, ↓DL.e_s, ↓DL.e_non, ↓DL.e_con, ↓DL.e_mrk, ↓DL.e_bin, ↓DL.e_neg, ↓DL.e_cmp, ↓DL.e_cmp2, ↓DL.e_and1, ↓DL.e_and, ↓DL.e_or, ↓DL.e_not, ↓DL.e_ite, ↓DL.e_tup, ↓DL.e_lst, ↓DL.e_ix, ↓DL.e_sl, ↓DL.e_dgt, ↓DL.e_nn, ↓DL.e_ng, ↓DL.e_nx, ↓DL.un_N, ↓DL.e_ddn, ↓DL.e_ddg, ↓DL.e_ddx, ↓DL.e_dds, ↓DL.un_K, ↓DL.e_fmt, ↓DL.e_fst, ↓DL.es_fn, ↓DL.es_fc, ↓DL.e_rv, ↓DL.e_call, ↓DL.e_callx, ↓DL.e_mkx, ↓DL.e_isx, ↓DL.e_ist, ↓DL.s_rai, ↓DL.s_tri, ↓DL.b_hd0, ↓DL.b_hd1, ↓DL.wi_on0, ↓DL.wi_on1, ↓DL.wi_of0, ↓DL.wi_of1, ↓DL.wi_fn, ↓DL.wi_con, ↓DL.wi_mth, ↓DL.wi_mks, ↓DL.wi_ncl, ↓DL.wi_isc, ↓DL.wi_dic, ↓DL.wi_xfn, ↓DL.wi_xmk, ↓DL.wi_xc, ↓DL.wi_wx, ↓DL.e_bi, ↓DL.e_isi, ↓DL.e_bm, ↓DL.e_dat, ↓DL.t_nne, ↓DL.t_dic, ↓DL.e_lc, ↓DL.es_nil, ↓DL.es_cons, ↓DL.eo_none, ↓DL.eo_some, ↓DL.t_e, ↓DL.t_cmp, ↓DL.t_cmp2, ↓DL.t_not, ↓DL.t_and1, ↓DL.t_and, ↓DL.t_or, ↓DL.to_none, ↓DL.to_some, ↓DL.i_seq, ↓DL.i_rng1, ↓DL.i_rng2, ↓DL.i_rng3, ↓DL.i_enum, ↓DL.i_zip, ↓DL.i_rev, ↓DL.s_asg, ↓DL.s_asgT, ↓DL.s_unl, ↓DL.s_par, ↓DL.s_aug, ↓DL.s_nst, ↓DL.s_dst, ↓DL.s_set, ↓DL.s_ex, ↓DL.s_ret, ↓DL.s_retN, ↓DL.s_ite, ↓DL.s_cont, ↓DL.b_nil, ↓DL.b_cons, ↓DL.s_loop, ↓DL.s_loopU, ↓DL.s_whl, ↓DL.v_add, ↓DL.v_addS, ↓DL.v_addL, ↓DL.v_sub, ↓DL.v_mul, ↓DL.v_rep, ↓DL.v_repS, ↓DL.v_div, ↓DL.v_mod, ↓DL.v_pow, ↓DL.v_addT, ↓DL.v_shl, ↓DL.v_shr, ↓DL.v_and, ↓DL.v_or, ↓DL.v_xor, ↓DL.u_add, ↓DL.u_sub, ↓DL.c_eqI, ↓DL.c_neI, ↓DL.c_eqS, ↓DL.c_neS, ↓DL.c_eqB, ↓DL.c_neB, ↓DL.c_lt, ↓DL.c_le, ↓DL.c_gt, ↓DL.c_ge, ↓DL.c_is, ↓DL.c_isnot, ↓DL.a_I, ↓DL.a_B, ↓DL.a_R, ↓DL.tr_B, ↓DL.it_tup, ↓DL.it_ro, ↓DL.it_ref, ↓DL.sq_tup, ↓DL.sq_ro, ↓DL.sq_ref, ↓DL.x_tup, ↓DL.x_ro, ↓DL.x_ref, ↓DL.ty_i, ↓DL.ty_ib, ↓DL.ty_b, ↓DL.ty_bi, ↓DL.ty_it, ↓DL.ty_t, ↓DL.ty_l, ↓DL.ty_lr, ↓DL.ty_s, ↓DL.b_lenT, ↓DL.b_lenR, ↓DL.b_lenL, ↓DL.un_nL, ↓DL.un_nK, ↓DL.a_K1, ↓DL.a_K2, ↓DL.un_x0, ↓DL.un_x1, ↓DL.un_x2, ↓DL.b_lenS, ↓DL.b_strI, ↓DL.x_str, ↓DL.c_inC, ↓DL.c_ninC, ↓DL.b_intB, ↓DL.b_intI, ↓DL.b_max, ↓DL.b_min, ↓DL.b_listL, ↓DL.b_listT, ↓DL.b_tupleL, ↓DL.m_app, ↓DL.m_r1, ↓DL.m_r2, ↓DL.m_r3, ↓DL.m_r4, ↓DL.m_r5, ↓DL.m_r6, ↓DL.m_s1, ↓DL.m_s2, ↓DL.m_s3, ↓DL.m_s4, ↓DL.m_r7, ↓DL.m_bit, ↓DL.m_fnd, ↓DL.m_sta, ↓DL.m_spl, ↓DL.m_joi, ↓DL.st_nm, ↓DL.st_tup, ↓DL.sl_str', ↓DL.v_fmS, ↓DL.v_fmI, ↓DL.v_intS, ↓DL.sl_ro', ↓DL.sl_ref', ↓DL.it_L, ↓DL.has_s, ↓DL.has_n, ↓DL.has_e, ↓DL.fill_s, ↓DL.fill_n, ↓DL.fill_e, ↓DL.ck_r, ↓DL.ck_t, ↓DL.ck_o, ↓DL.clr_0, ↓DL.clr_s, ↓DL.wi_n, ↓DL.wi_c, ↓DL.un_fc, ↓DL.un_fn, ↓DL.un_lc, ↓DL.un_ln, ↓DL.un_cm, ↓DL.un_ct, ↓DL.un_cd, ↓DL.un_slT, ↓DL.un_rt, ↓DL.un_bn, ↓DL.un_bc, ↓DL.un_any, ↓DL.un_all, ↓DL.un_inT, ↓DL.un_ninT, ↓DL.un_inS, ↓DL.un_inI, ↓DL.un_inN, ↓DL.un_fS, ↓DL.un_fI, ↓DL.un_at, ↓DL.un_clr, ↓DL.un_asS, ↓DL.un_onDs, ↓DL.un_onDn, ↓DL.un_onS, ↓DL.un_onN, ↓DL.un_t0, ↓DL.un_tS, ↓DL.un_d0, ↓DL.un_dc, ↓DL.un_ins, ↓DL.un_inL, ↓DL.un_newL, ↓DL.un_sm, ↓DL.un_sm', ↓DL.un_rvr, ↓DL.un_setU, ↓DL.un_ge2, ↓DL.un_in0, ↓DL.un_inC, ↓DL.un_srt, ↓DL.un_srl, ↓DL.e_fld, ↓DL.e_om, ↓DL.e_mk, ↓DL.e_ini, ↓DL.s_fset, ↓DL.un_lmc, ↓DL.un_mm0, ↓DL.un_mms, ↓DL.un_k0, ↓DL.un_ks, ↓DL.it_I, ↓DL.un_lk, ↓DL.un_pd0, ↓DL.un_pdc, ↓DL.e_isc, ↓DL.un_nn0, ↓DL.un_nns, ↓DL.un_memn, ↓DL.q_eqM, ↓DL.q_neM, ↓DL.q_eq2, ↓DL.q_ne2, ↓DL.q_eq3, ↓DL.q_ne3, ↓DL.s_lit, ↓DL.q_rr, ↓DL.q_nrr, ↓DL.q_rt, ↓DL.q_nrt, ↓DL.q_tr, ↓DL.q_ntr, ↓DL.q_r0, ↓DL.q_r1, ↓DL.q_r2, ↓DL.q_rs, ↓DL.q_rl, ↓DL.q_rT, ↓DL.q_ru, ↓DL.q_r1n, ↓DL.q_mT, ↓DL.q_m1n, ↓DL.q_c0, ↓DL.q_c1, ↓DL.q_cT, ↓DL.q_cl, ↓DL.q_cu, ↓DL.q_cc, ↓DL.q_ncc, ↓DL.sq_nn, ↓DL.sq_zero, DL.at_0, DL.at_1, DL.at_2, DL.at_3, DL.at_nat, DL.ex_some, DL.bAnd_nat, DL.bXor_nat, DL.bOr_nat, DL.gup_same, DL.gup_gup, DL.s_lit, String.reduceEq, decide_true, decide_false, List.getElem?_cons_zero, List.getElem?_cons_succ, decide_eq_true_eq, Bool.not_eq_true', decide_eq_false_iff_not, Bool.not_true, Bool.not_false, not_true_eq_false, not_false_eq_true, if_true, if_false, Bool.false_eq_true, Nat.reduceAdd, Nat.reduceSub, Int.reduceToNat, List.map_cons, List.map_nil, List.length_cons, List.length_nil, List.cons_append, List.drop_succ_cons, List.drop_zero, List.take_succ_cons, List.take_zero, List.any_cons, List.any_nil, List.all_cons, List.all_nil, id_eq, Option.isSome_some, Option.isSome_none, Bool.or_false, Bool.false_or, Bool.or_true, Bool.true_or, Bool.and_true, Bool.true_and, Bool.and_false, Bool.false_and, true_or, or_true, false_or, or_false, and_false, false_and, and_self, or_self, Decidable.not_not, List.nil_append, List.replicate_zero, List.replicate_succ, List.replicate, L2.CPow, DL.CShl, Int.reduceLT, Int.reduceLE, Nat.reduceLT, Nat.reduceLeDiff, DL.nabs, Int.natAbs_one, Int.natAbs_zero, DL.log_ok, Bool.true_eq_false, reduceCtorEq, Nat.reducePow, Int.reducePow, Int.natCast_nonneg, true_and, and_true, Int.toNat_natCast, Int.one_mul, DL.sz, DL.mul_r, DL.mul_l, Int.reduceEq, Int.reduceDiv, Int.reduceMul, Int.reduceAdd, Int.reduceSub, Int.reduceMod, Nat.reduceAnd, Nat.reduceXor, Option.some.injEq, exists_eq_left', exists_eq_left, DL.D.int.injEq, DL.D.bl.injEq, eq_self, Int.cast_ofNat_Int]) | `(tactic| row_walk with ($t1, $ts,*)) => `(tactic| simp (config := { failIfUnchanged := false }) only [↓DL.look_0, ↓DL.look_s, ↓DL.nth_0, ↓DL.nth_s, ↓DL.nth_x0, ↓DL.nth_xs, ↓DL.nth_m0, ↓DL.nth_ms, ↓DL.nthD_0, ↓DL.nthD_s, ↓DL.put_0, ↓DL.put_s, ↓DL.puts_c, ↓DL.puts_n, ↓DL.e_v, ↓DL.e_i, ↓DL.e_b, ↓DL.e_s, ↓DL.e_non, ↓DL.e_con, ↓DL.e_mrk, ↓DL.e_bin, ↓DL.e_neg, ↓DL.e_cmp, ↓DL.e_cmp2, ↓DL.e_and1, ↓DL.e_and, ↓DL.e_or, ↓DL.e_not, ↓DL.e_ite, ↓DL.e_tup, ↓DL.e_lst, ↓DL.e_ix, ↓DL.e_sl, ↓DL.e_dgt, ↓DL.e_nn, ↓DL.e_ng, ↓DL.e_nx, ↓DL.un_N, ↓DL.e_ddn, ↓DL.e_ddg, ↓DL.e_ddx, ↓DL.e_dds, ↓DL.un_K, ↓DL.e_fmt, ↓DL.e_fst, ↓DL.es_fn, ↓DL.es_fc, ↓DL.e_rv, ↓DL.e_call, ↓DL.e_callx, ↓DL.e_mkx, ↓DL.e_isx, ↓DL.e_ist, ↓DL.s_rai, ↓DL.s_tri, ↓DL.b_hd0, ↓DL.b_hd1, ↓DL.wi_on0, ↓DL.wi_on1, ↓DL.wi_of0, ↓DL.wi_of1, ↓DL.wi_fn, ↓DL.wi_con, ↓DL.wi_mth, ↓DL.wi_mks, ↓DL.wi_ncl, ↓DL.wi_isc, ↓DL.wi_dic, ↓DL.wi_xfn, ↓DL.wi_xmk, ↓DL.wi_xc, ↓DL.wi_wx, ↓DL.e_bi, ↓DL.e_isi, ↓DL.e_bm, ↓DL.e_dat, ↓DL.t_nne, ↓DL.t_dic, ↓DL.e_lc, ↓DL.es_nil, ↓DL.es_cons, ↓DL.eo_none, ↓DL.eo_some, ↓DL.t_e, ↓DL.t_cmp, ↓DL.t_cmp2, ↓DL.t_not, ↓DL.t_and1, ↓DL.t_and, ↓DL.t_or, ↓DL.to_none, ↓DL.to_some, ↓DL.i_seq, ↓DL.i_rng1, ↓DL.i_rng2, ↓DL.i_rng3, ↓DL.i_enum, ↓DL.i_zip, ↓DL.i_rev, ↓DL.s_asg, ↓DL.s_asgT, ↓DL.s_unl, ↓DL.s_par, ↓DL.s_aug, ↓DL.s_nst, ↓DL.s_dst, ↓DL.s_set, ↓DL.s_ex, ↓DL.s_ret, ↓DL.s_retN, ↓DL.s_ite, ↓DL.s_cont, ↓DL.b_nil, ↓DL.s_loop, ↓DL.s_loopU, ↓DL.s_whl, ↓DL.v_add, ↓DL.v_addS, ↓DL.v_addL, ↓DL.v_sub, ↓DL.v_mul, ↓DL.v_rep, ↓DL.v_repS, ↓DL.v_div, ↓DL.v_mod, ↓DL.v_pow, ↓DL.v_addT, ↓DL.v_shl, ↓DL.v_shr, ↓DL.v_and, ↓DL.v_or, ↓DL.v_xor, ↓DL.u_add, ↓DL.u_sub, ↓DL.c_eqI, ↓DL.c_neI, ↓DL.c_eqS, ↓DL.c_neS, ↓DL.c_eqB, ↓DL.c_neB, ↓DL.c_lt, ↓DL.c_le, ↓DL.c_gt, ↓DL.c_ge, ↓DL.c_is, ↓DL.c_isnot, ↓DL.a_I, ↓DL.a_B, ↓DL.a_R, ↓DL.tr_B, ↓DL.it_tup, ↓DL.it_ro, ↓DL.it_ref, ↓DL.sq_tup, ↓DL.sq_ro, ↓DL.sq_ref, ↓DL.x_tup, ↓DL.x_ro, ↓DL.x_ref, ↓DL.ty_i, ↓DL.ty_ib, ↓DL.ty_b, ↓DL.ty_bi, ↓DL.ty_it, ↓DL.ty_t, ↓DL.ty_l, ↓DL.ty_lr, ↓DL.ty_s, ↓DL.b_lenT, ↓DL.b_lenR, ↓DL.b_lenL, ↓DL.un_nL, ↓DL.un_nK, ↓DL.a_K1, ↓DL.a_K2, ↓DL.un_x0, ↓DL.un_x1, ↓DL.un_x2, ↓DL.b_lenS, ↓DL.b_strI, ↓DL.x_str, ↓DL.c_inC, ↓DL.c_ninC, ↓DL.b_intB, ↓DL.b_intI, ↓DL.b_max, ↓DL.b_min, ↓DL.b_listL, ↓DL.b_listT, ↓DL.b_tupleL, ↓DL.m_app, ↓DL.m_r1, ↓DL.m_r2, ↓DL.m_r3, ↓DL.m_r4, ↓DL.m_r5, ↓DL.m_r6, ↓DL.m_s1, ↓DL.m_s2, ↓DL.m_s3, ↓DL.m_s4, ↓DL.m_r7, ↓DL.m_bit, ↓DL.m_fnd, ↓DL.m_sta, ↓DL.m_spl, ↓DL.m_joi, ↓DL.st_nm, ↓DL.st_tup, ↓DL.sl_str', ↓DL.v_fmS, ↓DL.v_fmI, ↓DL.v_intS, ↓DL.sl_ro', ↓DL.sl_ref', ↓DL.it_L, ↓DL.has_s, ↓DL.has_n, ↓DL.has_e, ↓DL.fill_s, ↓DL.fill_n, ↓DL.fill_e, ↓DL.ck_r, ↓DL.ck_t, ↓DL.ck_o, ↓DL.clr_0, ↓DL.clr_s, ↓DL.wi_n, ↓DL.wi_c, ↓DL.un_fc, ↓DL.un_fn, ↓DL.un_lc, ↓DL.un_ln, ↓DL.un_cm, ↓DL.un_ct, ↓DL.un_cd, ↓DL.un_slT, ↓DL.un_rt, ↓DL.un_bn, ↓DL.un_bc, ↓DL.un_any, ↓DL.un_all, ↓DL.un_inT, ↓DL.un_ninT, ↓DL.un_inS, ↓DL.un_inI, ↓DL.un_inN, ↓DL.un_fS, ↓DL.un_fI, ↓DL.un_at, ↓DL.un_clr, ↓DL.un_asS, ↓DL.un_onDs, ↓DL.un_onDn, ↓DL.un_onS, ↓DL.un_onN, ↓DL.un_t0, ↓DL.un_tS, ↓DL.un_d0, ↓DL.un_dc, ↓DL.un_ins, ↓DL.un_inL, ↓DL.un_newL, ↓DL.un_sm, ↓DL.un_sm', ↓DL.un_rvr, ↓DL.un_setU, ↓DL.un_ge2, ↓DL.un_in0, ↓DL.un_inC, ↓DL.un_srt, ↓DL.un_srl, ↓DL.e_fld, ↓DL.e_om, ↓DL.e_mk, ↓DL.e_ini, ↓DL.s_fset, ↓DL.un_lmc, ↓DL.un_mm0, ↓DL.un_mms, ↓DL.un_k0, ↓DL.un_ks, ↓DL.it_I, ↓DL.un_lk, ↓DL.un_pd0, ↓DL.un_pdc, ↓DL.e_isc, ↓DL.un_nn0, ↓DL.un_nns, ↓DL.un_memn, ↓DL.q_eqM, ↓DL.q_neM, ↓DL.q_eq2, ↓DL.q_ne2, ↓DL.q_eq3, ↓DL.q_ne3, ↓DL.s_lit, ↓DL.q_rr, ↓DL.q_nrr, ↓DL.q_rt, ↓DL.q_nrt, ↓DL.q_tr, ↓DL.q_ntr, ↓DL.q_r0, ↓DL.q_r1, ↓DL.q_r2, ↓DL.q_rs, ↓DL.q_rl, ↓DL.q_rT, ↓DL.q_ru, ↓DL.q_r1n, ↓DL.q_mT, ↓DL.q_m1n, ↓DL.q_c0, ↓DL.q_c1, ↓DL.q_cT, ↓DL.q_cl, ↓DL.q_cu, ↓DL.q_cc, ↓DL.q_ncc, ↓DL.sq_nn, ↓DL.sq_zero, DL.at_0, DL.at_1, DL.at_2, DL.at_3, DL.at_nat, DL.ex_some, DL.bAnd_nat, DL.bXor_nat, DL.bOr_nat, DL.gup_same, DL.gup_gup, DL.s_lit, String.reduceEq, decide_true, decide_false, List.getElem?_cons_zero, List.getElem?_cons_succ, decide_eq_true_eq, Bool.not_eq_true', decide_eq_false_iff_not, Bool.not_true, Bool.not_false, not_true_eq_false, not_false_eq_true, if_true, if_false, Bool.false_eq_true, Nat.reduceAdd, Nat.reduceSub, Int.reduceToNat, List.map_cons, List.map_nil, List.length_cons, List.length_nil, List.cons_append, List.drop_succ_cons, List.drop_zero, List.take_succ_cons, List.take_zero, List.any_cons, List.any_nil, List.all_cons, List.all_nil, id_eq, Option.isSome_some, Option.isSome_none, Bool.or_false, Bool.false_or, Bool.or_true, Bool.true_or, Bool.and_true, Bool.true_and, Bool.and_false, Bool.false_and, true_or, or_true, false_or, or_false, and_false, false_and, and_self, or_self, Decidable.not_not, List.nil_append, List.replicate_zero, List.replicate_succ, List.replicate, L2.CPow, DL.CShl, Int.reduceLT, Int.reduceLE, Nat.reduceLT, Nat.reduceLeDiff, DL.nabs, Int.natAbs_one, Int.natAbs_zero, DL.log_ok, Bool.true_eq_false, reduceCtorEq, Nat.reducePow, Int.reducePow, Int.natCast_nonneg, true_and, and_true, Int.toNat_natCast, Int.one_mul, DL.sz, DL.mul_r, DL.mul_l, Int.reduceEq, Int.reduceDiv, Int.reduceMul, Int.reduceAdd, Int.reduceSub, Int.reduceMod, Nat.reduceAnd, Nat.reduceXor, Option.some.injEq, exists_eq_left', exists_eq_left, DL.D.int.injEq, DL.D.bl.injEq, eq_self, Int.cast_ofNat_Int, $t1:term, $[$ts:term],*]) | `(tactic| row_walk with ⟨$ts,*⟩) => `(tactic| simp (config := { failIfUnchanged := false }) only [↓DL.look_0, ↓DL.look_s, ↓DL.nth_0, ↓DL.nth_s, ↓DL.nth_x0, ↓DL.nth_xs, ↓DL.nth_m0, ↓DL.nth_ms, ↓DL.nthD_0, ↓DL.nthD_s, ↓DL.put_0, ↓DL.put_s, ↓DL.puts_c, ↓DL.puts_n, ↓DL.e_v, ↓DL.e_i, ↓DL.e_b, ↓DL.e_s, ↓DL.e_non, ↓DL.e_con, ↓DL.e_mrk, ↓DL.e_bin, ↓DL.e_neg, ↓DL.e_cmp, ↓DL.e_cmp2, ↓DL.e_and1, ↓DL.e_and, ↓DL.e_or, ↓DL.e_not, ↓DL.e_ite, ↓DL.e_tup, ↓DL.e_lst, ↓DL.e_ix, ↓DL.e_sl, ↓DL.e_dgt, ↓DL.e_nn, ↓DL.e_ng, ↓DL.e_nx, ↓DL.un_N, ↓DL.e_ddn, ↓DL.e_ddg, ↓DL.e_ddx, ↓DL.e_dds, ↓DL.un_K, ↓DL.e_fmt, ↓DL.e_fst, ↓DL.es_fn, ↓DL.es_fc, ↓DL.e_rv, ↓DL.e_call, ↓DL.e_callx, ↓DL.e_mkx, ↓DL.e_isx, ↓DL.e_ist, ↓DL.s_rai, ↓DL.s_tri, ↓DL.b_hd0, ↓DL.b_hd1, ↓DL.wi_on0, ↓DL.wi_on1, ↓DL.wi_of0, ↓DL.wi_of1, ↓DL.wi_fn, ↓DL.wi_con, ↓DL.wi_mth, ↓DL.wi_mks, ↓DL.wi_ncl, ↓DL.wi_isc, ↓DL.wi_dic, ↓DL.wi_xfn, ↓DL.wi_xmk, ↓DL.wi_xc, ↓DL.wi_wx, ↓DL.e_bi, ↓DL.e_isi, ↓DL.e_bm, ↓DL.e_dat, ↓DL.t_nne, ↓DL.t_dic, ↓DL.e_lc, ↓DL.es_nil, ↓DL.es_cons, ↓DL.eo_none, ↓DL.eo_some, ↓DL.t_e, ↓DL.t_cmp, ↓DL.t_cmp2, ↓DL.t_not, ↓DL.t_and1, ↓DL.t_and, ↓DL.t_or, ↓DL.to_none, ↓DL.to_some, ↓DL.i_seq, ↓DL.i_rng1, ↓DL.i_rng2, ↓DL.i_rng3, ↓DL.i_enum, ↓DL.i_zip, ↓DL.i_rev, ↓DL.s_asg, ↓DL.s_asgT, ↓DL.s_unl, ↓DL.s_par, ↓DL.s_aug, ↓DL.s_nst, ↓DL.s_dst, ↓DL.s_set, ↓DL.s_ex, ↓DL.s_ret, ↓DL.s_retN, ↓DL.s_ite, ↓DL.s_cont, ↓DL.b_nil, ↓DL.b_cons, ↓DL.s_loop, ↓DL.s_loopU, ↓DL.s_whl, ↓DL.v_add, ↓DL.v_addS, ↓DL.v_addL, ↓DL.v_sub, ↓DL.v_mul, ↓DL.v_rep, ↓DL.v_repS, ↓DL.v_div, ↓DL.v_mod, ↓DL.v_pow, ↓DL.v_addT, ↓DL.v_shl, ↓DL.v_shr, ↓DL.v_and, ↓DL.v_or, ↓DL.v_xor, ↓DL.u_add, ↓DL.u_sub, ↓DL.c_eqI, ↓DL.c_neI, ↓DL.c_eqS, ↓DL.c_neS, ↓DL.c_eqB, ↓DL.c_neB, ↓DL.c_lt, ↓DL.c_le, ↓DL.c_gt, ↓DL.c_ge, ↓DL.c_is, ↓DL.c_isnot, ↓DL.a_I, ↓DL.a_B, ↓DL.a_R, ↓DL.tr_B, ↓DL.it_tup, ↓DL.it_ro, ↓DL.it_ref, ↓DL.sq_tup, ↓DL.sq_ro, ↓DL.sq_ref, ↓DL.x_tup, ↓DL.x_ro, ↓DL.x_ref, ↓DL.ty_i, ↓DL.ty_ib, ↓DL.ty_b, ↓DL.ty_bi, ↓DL.ty_it, ↓DL.ty_t, ↓DL.ty_l, ↓DL.ty_lr, ↓DL.ty_s, ↓DL.b_lenT, ↓DL.b_lenR, ↓DL.b_lenL, ↓DL.un_nL, ↓DL.un_nK, ↓DL.a_K1, ↓DL.a_K2, ↓DL.un_x0, ↓DL.un_x1, ↓DL.un_x2, ↓DL.b_lenS, ↓DL.b_strI, ↓DL.x_str, ↓DL.c_inC, ↓DL.c_ninC, ↓DL.b_intB, ↓DL.b_intI, ↓DL.b_max, ↓DL.b_min, ↓DL.b_listL, ↓DL.b_listT, ↓DL.b_tupleL, ↓DL.m_app, ↓DL.m_r1, ↓DL.m_r2, ↓DL.m_r3, ↓DL.m_r4, ↓DL.m_r5, ↓DL.m_r6, ↓DL.m_s1, ↓DL.m_s2, ↓DL.m_s3, ↓DL.m_s4, ↓DL.m_r7, ↓DL.m_bit, ↓DL.m_fnd, ↓DL.m_sta, ↓DL.m_spl, ↓DL.m_joi, ↓DL.st_nm, ↓DL.st_tup, ↓DL.sl_str', ↓DL.v_fmS, ↓DL.v_fmI, ↓DL.v_intS, ↓DL.sl_ro', ↓DL.sl_ref', ↓DL.it_L, ↓DL.has_s, ↓DL.has_n, ↓DL.has_e, ↓DL.fill_s, ↓DL.fill_n, ↓DL.fill_e, ↓DL.ck_r, ↓DL.ck_t, ↓DL.ck_o, ↓DL.clr_0, ↓DL.clr_s, ↓DL.wi_n, ↓DL.wi_c, ↓DL.un_fc, ↓DL.un_fn, ↓DL.un_lc, ↓DL.un_ln, ↓DL.un_cm, ↓DL.un_ct, ↓DL.un_cd, ↓DL.un_slT, ↓DL.un_rt, ↓DL.un_bn, ↓DL.un_bc, ↓DL.un_any, ↓DL.un_all, ↓DL.un_inT, ↓DL.un_ninT, ↓DL.un_inS, ↓DL.un_inI, ↓DL.un_inN, ↓DL.un_fS, ↓DL.un_fI, ↓DL.un_at, ↓DL.un_clr, ↓DL.un_asS, ↓DL.un_onDs, ↓DL.un_onDn, ↓DL.un_onS, ↓DL.un_onN, ↓DL.un_t0, ↓DL.un_tS, ↓DL.un_d0, ↓DL.un_dc, ↓DL.un_ins, ↓DL.un_inL, ↓DL.un_newL, ↓DL.un_sm, ↓DL.un_sm', ↓DL.un_rvr, ↓DL.un_setU, ↓DL.un_ge2, ↓DL.un_in0, ↓DL.un_inC, ↓DL.un_srt, ↓DL.un_srl, ↓DL.e_fld, ↓DL.e_om, ↓DL.e_mk, ↓DL.e_ini, ↓DL.s_fset, ↓DL.un_lmc, ↓DL.un_mm0, ↓DL.un_mms, ↓DL.un_k0, ↓DL.un_ks, ↓DL.it_I, ↓DL.un_lk, ↓DL.un_pd0, ↓DL.un_pdc, ↓DL.e_isc, ↓DL.un_nn0, ↓DL.un_nns, ↓DL.un_memn, ↓DL.q_eqM, ↓DL.q_neM, ↓DL.q_eq2, ↓DL.q_ne2, ↓DL.q_eq3, ↓DL.q_ne3, ↓DL.s_lit, ↓DL.q_rr, ↓DL.q_nrr, ↓DL.q_rt, ↓DL.q_nrt, ↓DL.q_tr, ↓DL.q_ntr, ↓DL.q_r0, ↓DL.q_r1, ↓DL.q_r2, ↓DL.q_rs, ↓DL.q_rl, ↓DL.q_rT, ↓DL.q_ru, ↓DL.q_r1n, ↓DL.q_mT, ↓DL.q_m1n, ↓DL.q_c0, ↓DL.q_c1, ↓DL.q_cT, ↓DL.q_cl, ↓DL.q_cu, ↓DL.q_cc, ↓DL.q_ncc, ↓DL.sq_nn, ↓DL.sq_zero, DL.at_0, DL.at_1, DL.at_2, DL.at_3, DL.at_nat, DL.ex_some, DL.bAnd_nat, DL.bXor_nat, DL.bOr_nat, DL.gup_same, DL.gup_gup, DL.s_lit, String.reduceEq, decide_true, decide_false, List.getElem?_cons_zero, List.getElem?_cons_succ, decide_eq_true_eq, Bool.not_eq_true', decide_eq_false_iff_not, Bool.not_true, Bool.not_false, not_true_eq_false, not_false_eq_true, if_true, if_false, Bool.false_eq_true, Nat.reduceAdd, Nat.reduceSub, Int.reduceToNat, List.map_cons, List.map_nil, List.length_cons, List.length_nil, List.cons_append, List.drop_succ_cons, List.drop_zero, List.take_succ_cons, List.take_zero, List.any_cons, List.any_nil, List.all_cons, List.all_nil, id_eq, Option.isSome_some, Option.isSome_none, Bool.or_false, Bool.false_or, Bool.or_true, Bool.true_or, Bool.and_true, Bool.true_and, Bool.and_false, Bool.false_and, true_or, or_true, false_or, or_false, and_false, false_and, and_self, or_self, Decidable.not_not, List.nil_append, List.replicate_zero, List.replicate_succ, List.replicate, L2.CPow, DL.CShl, Int.reduceLT, Int.reduceLE, Nat.reduceLT, Nat.reduceLeDiff, DL.nabs, Int.natAbs_one, Int.natAbs_zero, DL.log_ok, Bool.true_eq_false, reduceCtorEq, Nat.reducePow, Int.reducePow, Int.natCast_nonneg, true_and, and_true, Int.toNat_natCast, Int.one_mul, DL.sz, DL.mul_r, DL.mul_l, Int.reduceEq, Int.reduceDiv, Int.reduceMul, Int.reduceAdd, Int.reduceSub, Int.reduceMod, Nat.reduceAnd, Nat.reduceXor, Option.some.injEq, exists_eq_left', exists_eq_left, DL.D.int.injEq, DL.D.bl.injEq, eq_self, Int.cast_ofNat_Int, $[$ts:term],*])
namespace DP
open PySem DL
/-! the program's rows -/
def d_law_cell_at : B := .cons (.ite (.cmp .Lt (.v 1) (.bi .len (.cons (.v 0) .nil))) (.cons (.ret (.ix (.v 0) (.v 1))) .nil) (.nil)) (.cons (.ret (.i 0)) .nil)
def m_law_cell_at : SpD := den { fn := [], con := [] } 2 2 d_law_cell_at
theorem M_law_cell_at : Gam.Mono { fn := [], con := [] } := (mono_fn fun _ h => by simp at h)
theorem mo_law_cell_at : MonoS m_law_cell_at := den_mono M_law_cell_at _ _ _
/-! helpers of many laws -/
theorem cell_ok (ns : List Int) (i : Int) (h0 : 0 ≤ i) (G : Gp) (Q : K1) (h : ∀ z, Q (.int z) G) : m_law_cell_at [.ro (ns.map D.int), .int i] G Q := by
  obtain ⟨k, rfl⟩ := Int.eq_ofNat_of_zero_le h0
  refine ⟨rfl, ?_⟩
  unfold d_law_cell_at
  walk_at "ev"
  split
  · rename_i hk
    rw [List.length_map] at hk
    refine ⟨.int (ns[k]'(by omega)), ?_, h _⟩
    rw [List.getElem?_map, List.getElem?_eq_getElem (by omega)]; rfl
  · exact h 0
end DP
namespace DP
open PySem DL
def d_undone : B := .cons (.ite (.cmp .Eq (.ix (.v 0) (.i 0)) (.s "quarter")) (.cons (.ret (.tup (.cons (.s "back") (.cons (.ix (.v 0) (.i 1)) .nil)))) .nil) (.nil)) (.cons (.ite (.cmp .Eq (.ix (.v 0) (.i 0)) (.s "back")) (.cons (.ret (.tup (.cons (.s "quarter") (.cons (.ix (.v 0) (.i 1)) .nil)))) .nil) (.nil)) (.cons (.ret (.v 0)) .nil))
def m_undone : SpD := den { fn := [], con := [] } 1 1 d_undone
theorem M_undone : Gam.Mono { fn := [], con := [] } := (mono_fn fun _ h => by simp at h)
theorem mo_undone : MonoS m_undone := den_mono M_undone _ _ _
theorem undone_ok (m : Mv) (G : Gp) (Q : K1) (h : Q m.undo.d G) : m_undone [m.d] G Q := by
  refine ⟨rfl, ?_⟩
  unfold d_undone
  cases m with
  | one n a =>
    cases n <;> simp only [Mv.d, Mv.undo, N1.s] at h ⊢ <;> walk_at "ev" <;> exact h
  | two n a b =>
    cases n <;> simp only [Mv.d, Mv.undo, N2.s] at h ⊢ <;> walk_at "ev" <;> exact h
end DP
namespace DP
open PySem DL
def c_MOVES : D := .tup [.str "mix", .str "quarter", .str "back", .str "flip", .str "sign", .str "join", .str "both", .str "swap"]
def d_is_move : B := .cons (.ret (.cmp .In (.ix (.v 0) (.i 0)) (.con 0))) .nil
def m_is_move : SpD := den { fn := [], con := [c_MOVES] } 1 1 d_is_move
def d_law_row : B := .cons (.asg (.nm 2) (.bin .Mod (.v 0) (.bin .Pow (.i 10) (.i 30)))) (.cons (.asg (.nm 3) (.bin .LShift (.i 1) (.v 1))) (.cons (.asg (.nm 4) (.bin .Mod (.bin .Mod (.bin .Mult (.bin .Add (.v 2) (.i 1)) (.i 1442695040888963407)) (.i 2305843009213693951)) (.v 3))) (.cons (.asg (.nm 5) (.bin .Mod (.bin .Mod (.bin .Mult (.bin .Add (.v 2) (.i 1)) (.i 1181783497276652981)) (.i 2305843009213693921)) (.v 3))) (.cons (.ret (.tup (.cons (.bin .Mod (.bin .Mod (.bin .Mult (.v 2) (.i 69621)) (.i 2147483647)) (.i 4)) (.cons (.v 4) (.cons (.v 5) .nil))))) .nil))))
def m_law_row : SpD := den { fn := [], con := [] } 6 2 d_law_row
theorem M_is_move : Gam.Mono { fn := [], con := [c_MOVES] } := (mono_fn fun _ h => by simp at h)
theorem mo_is_move : MonoS m_is_move := den_mono M_is_move _ _ _
theorem M_law_row : Gam.Mono { fn := [], con := [] } := (mono_fn fun _ h => by simp at h)
theorem mo_law_row : MonoS m_law_row := den_mono M_law_row _ _ _
theorem is_move_ok (m : Mv) (G : Gp) (Q : K1) (h : Q (.bl true) G) : m_is_move [m.d] G Q := by
  refine ⟨rfl, ?_⟩
  unfold d_is_move
  cases m with
  | one n w => cases n <;> simp only [Mv.d, N1.s] <;> row_walk with ⟨c_MOVES⟩ <;> exact h
  | two n a b => cases n <;> simp only [Mv.d, N2.s] <;> row_walk with ⟨c_MOVES⟩ <;> exact h
end DP
namespace DP
open PySem DL
def d_row_of : B := .cons (.ite (.cmp .Eq (.ix (.v 0) (.i 0)) (.s "ask")) (.cons (.ret (.ix (.v 0) (.i 1))) .nil) (.nil)) (.cons (.ret (.ix (.v 0) (.i 2))) .nil)
def m_row_of : SpD := den { fn := [], con := [] } 1 1 d_row_of
def d_wires_of : B := .cons (.ite (.bop .Or (.cons (.e (.call 0 (.cons (.v 0) .nil))) (.cons (.cmp .Eq (.ix (.v 0) (.i 0)) (.s "look")) .nil))) (.cons (.ret (.bi .sorted (.cons (.sl (.v 0) (.some (.i 1)) .none) .nil))) .nil) (.nil)) (.cons (.asg (.nm 1) (.call 1 (.cons (.v 0) .nil))) (.cons (.asg (.nm 2) (.bin .BitOr (.ix (.v 1) (.i 1)) (.ix (.v 1) (.i 2)))) (.cons (.asg (.nm 3) (.lst (.nil))) (.cons (.asg (.nm 4) (.i 0)) (.cons (.whl (.cmp .Gt (.v 2) (.i 0)) (.cons (.ite (.cmp .Eq (.bin .BitAnd (.v 2) (.i 1)) (.i 1)) (.cons (.ex (.bm .append (.v 3) (.cons (.v 4) .nil))) .nil) (.nil)) (.cons (.asg (.nm 2) (.bin .RShift (.v 2) (.i 1))) (.cons (.aug 4 .Add (.i 1)) .nil)))) (.cons (.ret (.v 3)) .nil))))))
def m_wires_of : SpD := den { fn := [m_is_move, m_row_of], con := [] } 5 1 d_wires_of
def d_same_move : B := .cons (.ite (.cmp .NotEq (.ix (.v 0) (.i 0)) (.ix (.v 1) (.i 0))) (.cons (.ret (.b false)) .nil) (.nil)) (.cons (.ite (.bop .Or (.cons (.cmp .Eq (.ix (.v 0) (.i 0)) (.s "both")) (.cons (.cmp .Eq (.ix (.v 0) (.i 0)) (.s "swap")) .nil))) (.cons (.ret (.cmp .Eq (.call 0 (.cons (.v 0) .nil)) (.call 0 (.cons (.v 1) .nil)))) .nil) (.nil)) (.cons (.ret (.cmp .Eq (.v 0) (.v 1))) .nil))
def m_same_move : SpD := den { fn := [m_wires_of], con := [] } 2 2 d_same_move
def d_meets : B := .cons (.asg (.nm 2) (.call 0 (.cons (.v 1) .nil))) (.cons (.ret (.bi .any (.cons (.lc (.seq (.call 0 (.cons (.v 0) .nil))) (.nm 3) .none (.cmp .In (.v 3) (.v 2)) [("wire", 3)]) .nil))) .nil)
def m_meets : SpD := den { fn := [m_wires_of], con := [] } 4 2 d_meets
def d_place_undone : B := .cons (.loop (.nm 2) (.rng3 (.bin .Sub (.bi .len (.cons (.v 0) .nil)) (.i 1)) (.neg (.i 1)) (.neg (.i 1))) (.cons (.ite (.e (.call 0 (.cons (.ix (.v 0) (.v 2)) (.cons (.v 1) .nil)))) (.cons (.ite (.bop .And (.cons (.e (.call 1 (.cons (.ix (.v 0) (.v 2)) .nil))) (.cons (.e (.call 2 (.cons (.call 3 (.cons (.ix (.v 0) (.v 2)) .nil)) (.cons (.v 1) .nil)))) .nil))) (.cons (.ret (.v 2)) .nil) (.nil)) (.cons (.ret (.neg (.i 1))) .nil)) (.nil)) .nil)) (.cons (.ret (.neg (.i 1))) .nil)
def m_place_undone : SpD := den { fn := [m_meets, m_is_move, m_same_move, m_undone], con := [] } 3 2 d_place_undone
def d_trimmed : B := .cons (.asg (.nm 1) (.lst (.nil))) (.cons (.loop (.nm 2) (.seq (.v 0)) (.cons (.asg (.nm 3) (.neg (.i 1))) (.cons (.ite (.e (.call 0 (.cons (.v 2) .nil))) (.cons (.asg (.nm 3) (.call 1 (.cons (.v 1) (.cons (.v 2) .nil)))) .nil) (.nil)) (.cons (.ite (.cmp .Lt (.v 3) (.i 0)) (.cons (.ex (.bm .append (.v 1) (.cons (.v 2) .nil))) .nil) (.cons (.ex (.bm .popAt (.v 1) (.cons (.v 3) .nil))) .nil)) .nil)))) (.cons (.ret (.v 1)) .nil))
def m_trimmed : SpD := den { fn := [m_is_move, m_place_undone], con := [] } 4 1 d_trimmed
theorem M_row_of : Gam.Mono { fn := [], con := [] } := (mono_fn fun _ h => by simp at h)
theorem mo_row_of : MonoS m_row_of := den_mono M_row_of _ _ _
theorem M_wires_of : Gam.Mono { fn := [m_is_move, m_row_of], con := [] } := (mono_fn fun m hm => by simp only [List.mem_cons, List.not_mem_nil, or_false] at hm; rcases hm with rfl | rfl <;> first | exact mo_is_move | exact mo_row_of)
theorem mo_wires_of : MonoS m_wires_of := den_mono M_wires_of _ _ _
theorem M_same_move : Gam.Mono { fn := [m_wires_of], con := [] } := (mono_fn fun m hm => by simp only [List.mem_cons, List.not_mem_nil, or_false] at hm; subst hm; first | exact mo_wires_of)
theorem mo_same_move : MonoS m_same_move := den_mono M_same_move _ _ _
theorem M_meets : Gam.Mono { fn := [m_wires_of], con := [] } := (mono_fn fun m hm => by simp only [List.mem_cons, List.not_mem_nil, or_false] at hm; subst hm; first | exact mo_wires_of)
theorem mo_meets : MonoS m_meets := den_mono M_meets _ _ _
theorem M_place_undone : Gam.Mono { fn := [m_meets, m_is_move, m_same_move, m_undone], con := [] } := (mono_fn fun m hm => by simp only [List.mem_cons, List.not_mem_nil, or_false] at hm; rcases hm with rfl | rfl | rfl | rfl <;> first | exact mo_meets | exact mo_is_move | exact mo_same_move | exact mo_undone)
theorem mo_place_undone : MonoS m_place_undone := den_mono M_place_undone _ _ _
theorem M_trimmed : Gam.Mono { fn := [m_is_move, m_place_undone], con := [] } := (mono_fn fun m hm => by simp only [List.mem_cons, List.not_mem_nil, or_false] at hm; rcases hm with rfl | rfl <;> first | exact mo_is_move | exact mo_place_undone)
theorem mo_trimmed : MonoS m_trimmed := den_mono M_trimmed _ _ _
theorem bl1_s (n i : Nat) : bl1 n (i + 1) = bl1 n i ++ (if bt n i = 1 then [(i : Int)] else []) := by
  unfold bl1
  rw [List.range_succ, List.filter_append, List.map_append]
  congr 1
  by_cases h : bt n i = 1 <;> simp [h]
theorem bl1_up (n i : Nat) (h : n < 2 ^ i) : ∀ k, bl1 n (i + k) = bl1 n i
  | 0 => rfl
  | k + 1 => by
    rw [← Nat.add_assoc, bl1_s, bl1_up n i h k]
    have : bt n (i + k) = 0 := by
      unfold bt
      rw [Nat.div_eq_of_lt (Nat.lt_of_lt_of_le h (Nat.pow_le_pow_right (by decide) (by omega)))]
    simp [this]
theorem bl1_eq {n i j : Nat} (h : n < 2 ^ i) (h' : n < 2 ^ j) : bl1 n i = bl1 n j := by
  rcases Nat.le_total i j with q | q
  · obtain ⟨k, rfl⟩ := Nat.exists_eq_add_of_le q
    exact (bl1_up n i h k).symm
  · obtain ⟨k, rfl⟩ := Nat.exists_eq_add_of_le q
    exact bl1_up n j h' k
theorem bl1_len (n : Nat) : ∀ i, (bl1 n i).length ≤ i
  | 0 => by simp [bl1]
  | i + 1 => by
    rw [bl1_s, List.length_append]
    have := bl1_len n i
    split <;> simp <;> omega
theorem srt1 {a : Int} {ns : List Int} (h : ns.Perm [a]) : ns = [a] := List.perm_singleton.mp h
theorem srt2 {a b : Int} {ns : List Int} (h : ns.Perm [a, b]) (hs : ns.Pairwise (· ≤ ·)) : ns = if a ≤ b then [a, b] else [b, a] := by
  have hl := h.length_eq
  match ns, hl with
  | [x, y], _ =>
    have hxy : x ≤ y := by simpa using hs
    have m1 : x ∈ [a, b] := h.mem_iff.mp (by simp)
    have m2 : a ∈ [x, y] := h.mem_iff.mpr (by simp)
    have m3 : b ∈ [x, y] := h.mem_iff.mpr (by simp)
    have m4 : y ∈ [a, b] := h.mem_iff.mp (by simp)
    simp at m1 m2 m3 m4
    split
    · have : x = a ∧ y = b := by omega
      rw [this.1, this.2]
    · have : x = b ∧ y = a := by omega
      rw [this.1, this.2]
theorem is_move_no (d : De) (h : ∀ m, d ≠ .mv m) (G : Gp) (Q : K1) (q : Q (.bl false) G) : m_is_move [d.d] G Q := by
  refine ⟨rfl, ?_⟩
  unfold d_is_move
  cases d with
  | mv m => exact absurd rfl (h m)
  | _ => simp only [De.d, Row.d] <;> row_walk with ⟨c_MOVES⟩ <;> exact q
theorem row_of_ok (d : De) (r : Row) (hr : (∃ ns, d = .ask r ns) ∨ ∃ k, d = .when k r) (G : Gp) (Q : K1) (q : Q r.d G) : m_row_of [d.d] G Q := by
  refine ⟨rfl, ?_⟩
  unfold d_row_of
  rcases hr with ⟨ns, rfl⟩ | ⟨k, rfl⟩ <;> simp only [De.d] <;> walk_at "ev" <;> exact q
theorem and1 (n : Nat) : Builtin.bitAnd (n : Int) 1 = ((n % 2 : Nat) : Int) := by rw [show (1 : Int) = ((1 : Nat) : Int) from rfl, bAnd_nat, Nat.and_one_is_mod]
theorem bits_of (w : Nat) (hw : w ≤ 100) (d : De) (r : Row) (hr : (∃ ns, d = .ask r ns) ∨ ∃ k, d = .when k r) (hx : r.x < 2 ^ w) (hz : r.z < 2 ^ w) (G : Gp) (Q : K1)
    (q : ∀ p G', Ext G G' → G' p = some (.lst ((bl1 (r.x ||| r.z) w).map D.int)) → Q (.ref p) G') : m_wires_of [d.d] G Q := by
  refine ⟨rfl, ?_⟩
  have hlt : (r.x ||| r.z) < 2 ^ w := Nat.or_lt_two_pow hx hz
  have hno : ∀ m, d ≠ .mv m := by rcases hr with ⟨ns, rfl⟩ | ⟨k, rfl⟩ <;> exact fun m e => by cases e
  unfold d_wires_of
  rw [b_cons]
  walk_at "st"
  refine is_move_no d hno _ _ ?_
  have h0 : ∃ s r', d.d = .tup (.str s :: r') ∧ s ≠ "look" := by
    rcases hr with ⟨ns, rfl⟩ | ⟨k, rfl⟩ <;> exact ⟨_, _, rfl, by decide⟩
  obtain ⟨s, r', e, hs⟩ := h0
  have key : m_row_of [d.d] G fun d' G' => d' = r.d ∧ G' = G := row_of_ok d r hr _ _ ⟨rfl, rfl⟩
  rw [e]
  rw [e] at key
  row_walk with ⟨hs⟩
  refine mo_row_of _ _ _ _ ?_ key
  rintro _ G0 ⟨rfl, hG0⟩
  rw [hG0]
  clear hG0 key
  generalize hn : r.x ||| r.z = n at *
  simp only [Row.d]
  row_walk with ⟨hn⟩
  intro p hp
  refine whl_by M_wires_of (fun m env G' => ∃ i : Nat, m = w - i ∧ i ≤ w ∧ Ext G G' ∧ G' p = some (.lst ((bl1 n i).map D.int)) ∧ Has env [none, none, some (.int ((n / 2 ^ i : Nat) : Int)), some (.ref p), some (.int i)]) (m := w) ?_ ?_
  · exact ⟨0, rfl, Nat.zero_le _, Ext.rfl.new hp _, gup_same, by walk_at "ev"; simp⟩
  rintro m env G' ⟨i, rfl, hi, hE, hG, he⟩
  obtain ⟨os, rfl⟩ := he.inv
  walk_at "ev"
  split
  · rename_i hpos
    have hpos' : n / 2 ^ i ≠ 0 := by omega
    have hiw : i < w := by
      refine Nat.lt_of_not_le fun hge => hpos' (Nat.div_eq_of_lt (Nat.lt_of_lt_of_le hlt (Nat.pow_le_pow_right (by decide) hge)))
    have hb : (n / 2 ^ i) % 2 = bt n i := rfl
    row_walk with ⟨and1, hG⟩
    have hdiv : ((n / 2 ^ i : Nat) : Int) / 2 = ((n / 2 ^ (i + 1) : Nat) : Int) := by
      rw [Nat.pow_succ, ← Nat.div_div_eq_div_mul]; rfl
    have hle := bl1_len n i
    split
    · rename_i h1
      have h1' : bt n i = 1 := by rw [← hb]; omega
      refine ⟨by rw [List.length_map]; omega, w - (i + 1), by omega, i + 1, rfl, hiw, ?_, ?_, hdiv, rfl⟩
      · intro a o ha
        rw [gup_ne (ne_of ha hp)]; exact hE a o ha
      · rw [bl1_s, if_pos h1', List.map_append]; rfl
    · rename_i h1
      have h1' : ¬ bt n i = 1 := by rw [← hb]; omega
      refine ⟨w - (i + 1), by omega, i + 1, rfl, hiw, hE, ?_, hdiv, rfl⟩
      rw [bl1_s, if_neg h1', List.append_nil]
  · rename_i hpos
    have hz' : n / 2 ^ i = 0 := Nat.eq_zero_of_not_pos fun z => hpos (by have : (0 : Int) < ((n / 2 ^ i : Nat) : Int) := by omega
                                                                         simpa using this)
    have : n < 2 ^ i := by
      have := Nat.div_add_mod n (2 ^ i); rw [hz'] at this
      have h2 := Nat.mod_lt n (Nat.two_pow_pos i); omega
    refine q _ _ hE ?_
    rw [hG, bl1_eq this hlt]
theorem wires_ok (w : Nat) (hw : w ≤ 100) (n : Nat) (d : De) (hd : d.On w n) (G : Gp) (Q : K1) (q : ∀ p G', Ext G G' → G' p = some (.lst ((d.ws w).map D.int)) → Q (.ref p) G') : m_wires_of [d.d] G Q := by
  cases d with
  | ask r ns => exact bits_of w hw _ r (.inl ⟨ns, rfl⟩) hd.1.x hd.1.z G Q q
  | «when» k r => exact bits_of w hw _ r (.inr ⟨k, rfl⟩) hd.2.x hd.2.z G Q q
  | look a =>
    refine ⟨rfl, ?_⟩
    unfold d_wires_of
    walk_at "ev"
    refine is_move_no (.look a) (fun m e => by cases e) _ _ ?_
    simp only [De.d]
    walk_at "ev"
    intro ns hp hs p hpn
    rw [srt1 hp]
    exact q p _ (Ext.rfl.new hpn _) gup_same
  | mv m =>
    refine ⟨rfl, ?_⟩
    unfold d_wires_of
    walk_at "ev"
    refine is_move_ok m _ _ ?_
    cases m with
    | one n a =>
      simp only [De.d, Mv.d]
      walk_at "ev"
      intro ns hp hs p hpn
      rw [srt1 hp]
      exact q p _ (Ext.rfl.new hpn _) gup_same
    | two n a b =>
      simp only [De.d, Mv.d]
      walk_at "ev"
      intro ns hp hs p hpn
      rw [srt2 hp hs]
      refine q p _ (Ext.rfl.new hpn _) ?_
      rw [gup_same]
      simp only [De.ws]
      rcases Nat.le_total a b with h | h
      · rw [if_pos (by omega), Nat.min_eq_left h, Nat.max_eq_right h]
      · by_cases e : a = b
        · subst e; simp
        · rw [if_neg (by omega), Nat.min_eq_right h, Nat.max_eq_left h]
theorem inF_int (c : Int) : ∀ zs : List Int, inF (.int c) (zs.map D.int) = decide (c ∈ zs)
  | [] => by simp [inF]
  | z :: zs => by
    have ih := inF_int c zs
    unfold inF at ih ⊢
    rw [List.map_cons, List.any_cons, ih]
    have e : eqF (.int z) (.int c) = decide (c = z) := by
      show (z == c) = _
      by_cases h : c = z
      · subst h; simp
      · have : ¬ z = c := fun q => h q.symm
        simp [h, this]
    rw [e]
    simp [List.mem_cons]
theorem flat_ints (zs : List Int) : (zs.map D.int).all flatD = true := by
  rw [List.all_eq_true]
  intro x hx
  obtain ⟨z, _, rfl⟩ := List.mem_map.mp hx
  rfl
theorem meets_ok (w : Nat) (hw : w ≤ 100) (n : Nat) (d : De) (hd : d.On w n) (m : Mv) (hm : m.On w) (G : Gp) (Q : K1) (h : ∀ G', Ext G G' → Q (.bl (d.meets w m)) G') : m_meets [d.d, m.d] G Q := by
  refine ⟨rfl, ?_⟩
  unfold d_meets
  walk_at "ev"
  refine wires_ok w hw n (.mv m) hm _ _ fun p G1 hE1 hp => ?_
  walk_at "ev"
  refine wires_ok w hw n d hd _ _ fun q G2 hE2 hq => ?_
  have hp2 := hE2 _ _ hp
  row_walk with ⟨hq⟩
  intro p3 hp3
  refine lc_ext M_meets hp3 (fun i y => ∃ z, (d.ws w)[i]? = some z ∧ y = .bl (decide (z ∈ (De.mv m).ws w))) (fun G' hE => hE _ _ hq) ?_ (by
    rw [List.length_map]
    cases d with
    | mv m => cases m <;> simp [De.ws]
    | look k => simp [De.ws]
    | ask r ns => have := bl1_len (r.x ||| r.z) w; show (bl1 _ _).length ≤ _; omega
    | «when» k r => have := bl1_len (r.x ||| r.z) w; show (bl1 _ _).length ≤ _; omega) ?_
  · rintro i d' G' hi hE
    obtain ⟨z, hz, rfl⟩ := map_get hi
    walk_at "ev"
    refine onL_some (hE _ _ hp2) ⟨rfl, flat_ints _, ?_⟩
    rw [inF_int]
    exact ⟨Ext.rfl, z, hz, rfl⟩
  · intro ys G3 hy hR hE3 b3
    have hys : ys = (((d.ws w).map fun x => decide (x ∈ (De.mv m).ws w)).map D.bl) := by
      apply List.ext_getElem?
      intro j
      by_cases hj : j < ys.length
      · have h0 := List.getElem?_eq_getElem (l := ys) (i := j) hj
        obtain ⟨z, hz, e⟩ := hR j _ h0
        rw [h0, e, List.getElem?_map, List.getElem?_map, hz]; rfl
      · rw [List.getElem?_eq_none (by omega), List.getElem?_eq_none (by simp at hy ⊢; omega)]
    subst hys
    row_walk with ⟨b3, boolsK_map⟩
    have e : (((d.ws w).map fun x => decide (x ∈ (De.mv m).ws w)).any id) = d.meets w m := by
      unfold De.meets; rw [List.any_map]; rfl
    rw [e]
    exact h _ (hE1.trans (hE2.trans hE3))
theorem mv_eq (m n : Mv) (G : Gp) (k : Bool → Prop) (q : k (decide (m = n))) : wpCmp .Eq m.d n.d G k := by
  have key : ∃ d e, Pd G m.d d ∧ Pd G n.d e ∧ SeqAt.shaped d = true ∧ SeqAt.shaped e = true ∧ k (PyData.eqv d e) := by
    have a := Mv.dep m
    have b := Mv.dep n
    refine ⟨m.pd, n.pd, Mv.hpd G m, Mv.hpd G n, ?_, ?_, by rw [Mv.eqv]; exact q⟩
    · unfold SeqAt.shaped; simp [Mv.lay]; omega
    · unfold SeqAt.shaped; simp [Mv.lay]; omega
  cases m with
  | one a i => cases n <;> exact key
  | two a i j => cases n <;> exact key
theorem l2_eq (a b c d : Nat) (p q : Addr) (G : Gp) (hp : G p = some (.lst ([((min a b : Nat) : Int), ((max a b : Nat) : Int)].map D.int))) (hq : G q = some (.lst ([((min c d : Nat) : Int), ((max c d : Nat) : Int)].map D.int))) (k : Bool → Prop)
    (h : k (decide (min a b = min c d ∧ max a b = max c d))) : wpCmp .Eq (.ref p) (.ref q) G k := by
  have hd : ∀ x y : Int, PyData.depthAll [PyData.int x, PyData.int y] ≤ 60 := fun x y => by simp [PyData.depthAll, PyData.depth]
  refine eq_lists hp hq (ds := [.int _, .int _]) (es := [.int _, .int _]) (.cons (.int _) (.cons (.int _) .nil)) (.cons (.int _) (.cons (.int _) .nil)) rfl rfl (hd _ _) (hd _ _) k ?_
  have := eqv_ints [((min a b : Nat) : Int), ((max a b : Nat) : Int)] [((min c d : Nat) : Int), ((max c d : Nat) : Int)]
  simp only [List.map_cons, List.map_nil] at this
  rw [this]
  have e : decide ([((min a b : Nat) : Int), ((max a b : Nat) : Int)] = [((min c d : Nat) : Int), ((max c d : Nat) : Int)]) = decide (min a b = min c d ∧ max a b = max c d) := by
    apply decide_eq_decide.mpr
    simp only [List.cons.injEq, and_true]
    omega
  rw [e]; exact h
theorem same_one (a b : N1) (i j : Nat) : (Mv.one a i).same (.one b j) = decide ((Mv.one a i) = .one b j) := by
  simp only [Mv.same, Mv.one.injEq]
  by_cases h1 : a = b <;> by_cases h2 : i = j <;> simp [h1, h2]
theorem same_ok (w : Nat) (hw : w ≤ 100) (m n : Mv) (hm : m.On w) (hn : n.On w) (G : Gp) (Q : K1) (h : ∀ G', Ext G G' → Q (.bl (m.same n)) G') : m_same_move [m.d, n.d] G Q := by
  refine ⟨rfl, ?_⟩
  unfold d_same_move
  have ss : ∀ (a b : N2) (i j k l : Nat), (a = .both ∨ a = .swap) → a = b → m = .two a i j → n = .two b k l → ∀ G' (Q' : Bool → Gp → Prop), Ext G G' → (∀ G', Ext G G' → Q' (m.same n) G') →
      m_wires_of [m.d] G' fun x G1 => m_wires_of [n.d] G1 fun y G2 => wpCmp .Eq x y G2 fun z => Q' z G2 := by
    rintro a b i j k l hab rfl rfl rfl G' Q' hE hQ
    refine wires_ok w hw 0 (.mv (.two a i j)) hm _ _ fun p G1 hE1 hp => ?_
    refine wires_ok w hw 0 (.mv (.two a k l)) hn _ _ fun q G2 hE2 hq => ?_
    refine l2_eq i j k l p q G2 (hE2 _ _ hp) hq _ ?_
    have := hQ G2 (hE.trans (hE1.trans hE2))
    simp only [Mv.same, if_pos hab, decide_true, Bool.true_and] at this
    exact this
  have s2 : ∀ (f : ∀ (i j k l : Nat), m = .two .both i j → n = .two .both k l → True), True := fun _ => trivial
  cases m with
  | one a i =>
    cases n with
    | one b j =>
      have key := mv_eq (.one a i) (.one b j) G fun z => Q (.bl z) G
      rw [← same_one] at key
      have key := key (h G Ext.rfl)
      cases a <;> cases b <;> simp only [Mv.d, N1.s] at key ⊢ <;> row_walk with ⟨Mv.d⟩ <;> first | exact key | exact h G Ext.rfl
    | two b k l => cases a <;> cases b <;> simp only [Mv.d, N1.s, N2.s] <;> walk_at "ev" <;> exact h G Ext.rfl
  | two a i j =>
    cases n with
    | one b j' => cases a <;> cases b <;> simp only [Mv.d, N1.s, N2.s] <;> walk_at "ev" <;> exact h G Ext.rfl
    | two b k l =>
      cases a with
      | join =>
        have key := mv_eq (.two .join i j) (.two b k l) G fun z => Q (.bl z) G
        cases b with
        | join =>
          have e : (Mv.two .join i j).same (.two .join k l) = decide ((Mv.two .join i j) = .two .join k l) := by simp [Mv.same]
          rw [← e] at key
          have key := key (h G Ext.rfl)
          simp only [Mv.d, N2.s] at key ⊢
          walk_at "ev"
          exact key
        | both => simp only [Mv.d, N2.s]; walk_at "ev"; exact h G Ext.rfl
        | swap => simp only [Mv.d, N2.s]; walk_at "ev"; exact h G Ext.rfl
      | both =>
        cases b with
        | join => simp only [Mv.d, N2.s]; walk_at "ev"; exact h G Ext.rfl
        | swap => simp only [Mv.d, N2.s]; walk_at "ev"; exact h G Ext.rfl
        | both =>
          have key := ss .both .both i j k l (.inl rfl) rfl rfl rfl G (fun z G' => Q (.bl z) G') Ext.rfl h
          simp only [Mv.d, N2.s] at key ⊢
          walk_at "ev"
          exact key
      | swap =>
        cases b with
        | join => simp only [Mv.d, N2.s]; walk_at "ev"; exact h G Ext.rfl
        | both => simp only [Mv.d, N2.s]; walk_at "ev"; exact h G Ext.rfl
        | swap =>
          have key := ss .swap .swap i j k l (.inr rfl) rfl rfl rfl G (fun z G' => Q (.bl z) G') Ext.rfl h
          simp only [Mv.d, N2.s] at key ⊢
          walk_at "ev"
          exact key
theorem WdOn_any {w n : Nat} {K : List De} (h : WdOn w n K) {i : Nat} {d : De} (e : K[i]? = some d) : d.On w (n + K.length) := by
  have := h.get e
  have l := lks_le (K.take i)
  rw [List.length_take] at l
  exact this.mono (by omega)
theorem plcN_succ {w : Nat} {K : List De} {m : Mv} {n : Nat} {d : De} (h : K[n]? = some d) : plcN w K m (n + 1) = if d.meets w m then (if d.undoes m then (n : Int) else -1) else plcN w K m n := by
  have e : plcN w K m (n + 1) = match K[n]? with
    | some d => if d.meets w m then (if d.undoes m then (n : Int) else -1) else plcN w K m n
    | none => -1 := rfl
  rw [e, h]
theorem place_ok (p : Addr) (w : Nat) (hw : w ≤ 100) (N : Nat) (K : List De) (hN : K.length ≤ 100000) (hK : ∀ (i : Nat) d, K[i]? = some d → d.On w N) (m : Mv) (hm : m.On w) (G : Gp) (Q : K1) (hp : G p = some (.lst (K.map De.d)))
    (h : ∀ G', Ext G G' → Q (.int (plcN w K m K.length)) G') : m_place_undone [.ref p, m.d] G Q := by
  refine ⟨rfl, ?_⟩
  unfold d_place_undone
  row_walk with ⟨hp, List.length_map⟩
  refine ⟨_, L2.RgC.neg (by omega) (by omega) (by omega) (by omega), ?_⟩
  rw [show ((K.length : Int) - 1 - -1).toNat = K.length by omega]
  refine for_by M_place_undone (fun i env G' => Ext G G' ∧ i ≤ K.length ∧ plcN w K m K.length = plcN w K m (K.length - i) ∧ Has env [some (.ref p), some m.d, none]) ?_ (fun _ _ _ _ => trivial) ?_ ?_
  · exact ⟨Ext.rfl, Nat.zero_le _, rfl, by walk_at "ev"; try rfl⟩
  · rintro i d env G' hd ⟨hE, hi, e, he⟩
    obtain ⟨os, rfl⟩ := he.inv
    unfold rngD at hd
    rw [List.getElem?_map] at hd
    have hi2 : i < K.length := by
      rcases Nat.lt_or_ge i K.length with q | q
      · exact q
      · rw [List.getElem?_eq_none (by simpa using q)] at hd; cases hd
    rw [List.getElem?_range hi2] at hd
    cases hd
    obtain ⟨j, hj⟩ : ∃ j, K.length - i = j + 1 := ⟨K.length - i - 1, by omega⟩
    have ej : (K.length : Int) - 1 + (i : Int) * -1 = (j : Int) := by omega
    have hjl : j < K.length := by omega
    have hg := List.getElem?_eq_getElem hjl
    have hgd : (K.map De.d)[j]? = some K[j].d := by rw [List.getElem?_map, hg]; rfl
    have hon := hK j _ hg
    rw [hj, plcN_succ hg] at e
    generalize K[j] = dj at *
    have hpp := hE _ _ hp
    row_walk with ⟨ej, hpp, hgd⟩
    refine meets_ok w hw N dj hon m hm _ _ fun G1 hE1 => ?_
    have hE' := hE.trans hE1
    have hp1 := hE1 _ _ hpp
    by_cases q : dj.meets w m = true
    · rw [if_pos q] at e
      row_walk with ⟨q, hp1, hgd⟩
      cases dj with
      | mv m' =>
        refine is_move_ok m' _ _ ?_
        row_walk with ⟨hp1, hgd, show (De.mv m').d = m'.d from rfl⟩
        refine undone_ok m' _ _ ?_
        walk_at "ev"
        refine same_ok w hw m'.undo m (Mv.undo_on hon) hm _ _ fun G2 hE2 => ?_
        have e : plcN w K m K.length = if m'.undo.same m = true then (j : Int) else -1 := e
        by_cases q2 : m'.undo.same m = true
        · rw [if_pos q2] at e
          row_walk with ⟨q2, ej⟩
          have := h G2 (hE'.trans hE2)
          rw [e] at this; exact this
        · rw [if_neg q2] at e
          have q2' := Bool.eq_false_iff.mpr q2
          row_walk with ⟨q2'⟩
          have := h G2 (hE'.trans hE2)
          rw [e] at this; exact this
      | look k =>
        refine is_move_no (.look k) (fun m e => by cases e) _ _ ?_
        walk_at "ev"
        have := h G1 hE'
        rw [e] at this; exact this
      | ask r ns =>
        refine is_move_no (.ask r ns) (fun m e => by cases e) _ _ ?_
        walk_at "ev"
        have := h G1 hE'
        rw [e] at this; exact this
      | «when» k r =>
        refine is_move_no (.when k r) (fun m e => by cases e) _ _ ?_
        walk_at "ev"
        have := h G1 hE'
        rw [e] at this; exact this
    · rw [if_neg q] at e
      have q' := Bool.eq_false_iff.mpr q
      row_walk with ⟨q'⟩
      refine ⟨hE', by omega, ?_⟩
      rw [e, show K.length - (i + 1) = j by omega]
  · rintro env G' ⟨hE, _, e, he⟩
    obtain ⟨os, rfl⟩ := he.inv
    walk_at "ev"
    have := h G' hE
    unfold rngD at e
    rw [List.length_map, List.length_range, Nat.sub_self] at e
    rw [e] at this; exact this
theorem trim_len (w : Nat) (K : List De) (d : De) : (trimS w K d).length ≤ K.length + 1 := by
  cases d with
  | mv m =>
    show (if plcN w K m K.length < 0 then K ++ [.mv m] else K.eraseIdx (plcN w K m K.length).toNat).length ≤ _
    split
    · simp
    · rw [List.length_eraseIdx]; split <;> omega
  | look k => show (K ++ [_]).length ≤ _; simp
  | ask r ns => show (K ++ [_]).length ≤ _; simp
  | «when» k r => show (K ++ [_]).length ≤ _; simp
theorem trimW_len (w : Nat) : ∀ (ds K : List De), (ds.foldl (trimS w) K).length ≤ K.length + ds.length
  | [], K => by simp
  | d :: ds, K => by
    have := trimW_len w ds (trimS w K d)
    have := trim_len w K d
    rw [List.foldl_cons, List.length_cons]; omega
theorem trimmed_ok (p : Addr) (w : Nat) (hw : w ≤ 100) (n : Nat) (ds : List De) (hl : ds.length ≤ 1000) (hds : WdOn w n ds) (G : Gp) (Q : K1) (hp : G p = some (.lst (ds.map De.d)))
    (h : ∀ q G', Ext G G' → G q = none → G' q = some (.lst ((trimW w ds).map De.d)) → Q (.ref q) G') : m_trimmed [.ref p] G Q := by
  refine ⟨rfl, ?_⟩
  unfold d_trimmed
  walk_at "ev"
  intro q hq
  have npq : p ≠ q := fun z => by rw [z, hq] at hp; cases hp
  row_walk with ⟨gup_ne npq, hp⟩
  have mem : ∀ (i : Nat), i ≤ ds.length → ∀ (k : Nat) d, (trimW w (ds.take i))[k]? = some d → d.On w (n + ds.length) := by
    intro i hi
    have t := (trim_sim (w := w) (ch := fun _ => 0) (S := ([], ⟨unit0, List.replicate n 0⟩)) (ds.take i) (by
      have := hds
      rw [← List.take_append_drop i ds, WdOn.app] at this
      simpa using this.1)).2.1
    intro k d hk
    have h1 := t.get hk
    have h2 := lks_le ((trimW w (ds.take i)).take k)
    have h3 := (List.getElem?_eq_some_iff.mp hk).1
    have h4 := trimW_len w (ds.take i) []
    rw [List.length_take] at h2
    change (trimW w (ds.take i)).length ≤ _ at h4
    rw [List.length_take] at h4
    refine h1.mono ?_
    simp at h4 ⊢
    omega
  refine for_by M_trimmed (fun i env G' => i ≤ ds.length ∧ Ext G G' ∧ G' q = some (.lst ((trimW w (ds.take i)).map De.d)) ∧ Has env [some (.ref p), some (.ref q), none, none]) ?_ ?_ ?_ ?_
  · exact ⟨Nat.zero_le _, Ext.rfl.new hq _, gup_same, by walk_at "ev"; try rfl⟩
  · rintro i env G' ⟨_, hE, _, _⟩
    exact hE _ _ hp
  · rintro i d0 env G' hd ⟨hi, hE, hq', he⟩
    obtain ⟨os, rfl⟩ := he.inv
    obtain ⟨d, hdi, rfl⟩ := map_get hd
    have hi2 : i < ds.length := (List.getElem?_eq_some_iff.mp hdi).1
    have et : trimW w (ds.take (i + 1)) = trimS w (trimW w (ds.take i)) d := by
      rw [List.take_add_one, hdi]
      unfold trimW
      rw [List.foldl_append]; rfl
    have hon : d.On w (n + ds.length) := WdOn_any hds hdi
    have hmem := mem i (by omega)
    have hlen := trimW_len w (ds.take i) []
    change (trimW w (ds.take i)).length ≤ _ at hlen
    rw [List.length_take] at hlen
    rw [et]
    generalize trimW w (ds.take i) = K at *
    have hkl : K.length ≤ 1000 := by simp at hlen; omega
    have app : trimS w K d = K ++ [d] → ∀ G1, Ext G' G1 → G1 q = some (.lst (K.map De.d)) → (K.map De.d).length < sizeLine ∧ (i + 1 ≤ ds.length ∧ Ext G (gup G1 q (.lst (K.map De.d ++ [d.d]))) ∧ gup G1 q (.lst (K.map De.d ++ [d.d])) q = some (.lst ((trimS w K d).map De.d))) := by
      intro e G1 hE1 h1
      refine ⟨len_lt (by rw [List.length_map]; omega), hi2, ?_, ?_⟩
      · intro a o ha
        rw [gup_ne (ne_of ha hq)]; exact hE1 _ _ (hE _ _ ha)
      · rw [gup_same, e, List.map_append]; rfl
    cases d with
    | look k =>
      walk_at "ev"
      refine is_move_no (.look k) (fun m e => by cases e) _ _ ?_
      row_walk with ⟨hq'⟩
      obtain ⟨_, a1, a2, a3⟩ := app rfl G' Ext.rfl hq'
      exact ⟨by (try simp only [List.length_map]); omega, a1, a2, by rw [gup_same] at a3; exact Option.some.inj a3⟩
    | ask r ns =>
      walk_at "ev"
      refine is_move_no (.ask r ns) (fun m e => by cases e) _ _ ?_
      row_walk with ⟨hq'⟩
      obtain ⟨_, a1, a2, a3⟩ := app rfl G' Ext.rfl hq'
      exact ⟨by (try simp only [List.length_map]); omega, a1, a2, by rw [gup_same] at a3; exact Option.some.inj a3⟩
    | «when» k r =>
      walk_at "ev"
      refine is_move_no (.when k r) (fun m e => by cases e) _ _ ?_
      row_walk with ⟨hq'⟩
      obtain ⟨_, a1, a2, a3⟩ := app rfl G' Ext.rfl hq'
      exact ⟨by (try simp only [List.length_map]); omega, a1, a2, by rw [gup_same] at a3; exact Option.some.inj a3⟩
    | mv m =>
      walk_at "ev"
      refine is_move_ok m _ _ ?_
      walk_at "ev"
      refine place_ok q w hw (n + ds.length) K (by omega) hmem m hon _ _ hq' fun G1 hE1 => ?_
      have h1 := hE1 _ _ hq'
      have e0 : trimS w K (.mv m) = if plcN w K m K.length < 0 then K ++ [.mv m] else K.eraseIdx (plcN w K m K.length).toNat := rfl
      by_cases c : plcN w K m K.length < 0
      · have e1 : trimS w K (.mv m) = K ++ [.mv m] := by rw [e0, if_pos c]
        row_walk with ⟨c, h1⟩
        obtain ⟨_, a1, a2, a3⟩ := app e1 G1 hE1 h1
        exact ⟨by (try simp only [List.length_map]); omega, a1, a2, by rw [gup_same] at a3; exact Option.some.inj a3⟩
      · have e1 : trimS w K (.mv m) = K.eraseIdx (plcN w K m K.length).toNat := by rw [e0, if_neg c]
        obtain ⟨j, m', hj, ej, hg, _, _⟩ := plc_ok K.length (Nat.le_refl _) c
        rw [ej] at c e1 ⊢
        rw [Int.toNat_natCast] at e1
        row_walk with ⟨c, h1⟩
        have hjl : (j : Int) < 2 ^ 63 := by omega
        refine onL_some h1 ⟨⟨by omega, hjl⟩, j, _, ?_, map_get' hg, ?_⟩
        · unfold seqIndex?
          rw [List.length_map]
          first | (rw [if_pos (by omega), if_pos (by omega)]; simp; done) | (simp; omega)
        refine ⟨hi2, ?_, ?_⟩
        · intro a o ha
          rw [gup_ne (ne_of ha hq)]; exact hE1 _ _ (hE _ _ ha)
        · rw [gup_same, e1]; simp only [List.eraseIdx_eq_take_drop_succ, List.map_append, List.map_take, List.map_drop]
  · rintro env G' ⟨_, hE, hq', he⟩
    obtain ⟨os, rfl⟩ := he.inv
    rw [List.length_map, List.take_length] at hq'
    walk_at "ev"
    exact h q G' hE hq hq'
end DP
namespace Llaw_k60_trimmed_words
open PySem DL DP
def d_law_wires : B := .cons (.asg (.nm 1) (.bin .Mod (.v 0) (.bin .Pow (.i 10) (.i 30)))) (.cons (.ret (.ix (.lst (.cons (.bin .Add (.i 1) (.bin .Mod (.v 1) (.i 4))) (.cons (.bin .Add (.i 2) (.bin .Mod (.v 1) (.i 3))) (.cons (.bin .Add (.i 1) (.bin .Mod (.v 1) (.i 3))) (.cons (.i 2) (.cons (.bin .Add (.i 1) (.bin .Mod (.v 1) (.i 40))) .nil)))))) (.bin .Mod (.bin .Mod (.bin .Mult (.v 1) (.i 31)) (.i 97)) (.i 5)))) .nil)
def m_law_wires : SpD := den { fn := [], con := [] } 2 1 d_law_wires
def d_law_row : B := .cons (.asg (.nm 2) (.bin .Mod (.v 0) (.bin .Pow (.i 10) (.i 30)))) (.cons (.asg (.nm 3) (.bin .Mod (.bin .Mult (.bin .Mod (.bin .Add (.bin .Add (.bin .Mult (.v 2) (.v 2)) (.bin .Mult (.i 48271) (.v 2))) (.i 7)) (.i 2147483647)) (.ix (.lst (.cons (.i 1) (.cons (.i 1) (.cons (.i 0) (.cons (.i 512) .nil))))) (.bin .Mod (.v 2) (.i 4)))) (.bin .LShift (.i 1) (.v 1)))) (.cons (.asg (.nm 4) (.bin .Mod (.bin .Mult (.bin .Mod (.bin .Add (.bin .Add (.bin .Mult (.v 2) (.i 69621)) (.bin .Mult (.bin .FloorDiv (.v 2) (.i 1009)) (.i 31))) (.i 11)) (.i 2147483629)) (.ix (.lst (.cons (.i 1) (.cons (.i 0) (.cons (.i 1) (.cons (.i 512) .nil))))) (.bin .Mod (.v 2) (.i 4)))) (.bin .LShift (.i 1) (.v 1)))) (.cons (.asg (.nm 5) (.bi .len (.cons (.lc (.rng1 (.v 1)) (.nm 6) (.some (.cmp .Eq (.bin .BitAnd (.bin .RShift (.bin .BitAnd (.v 3) (.v 4)) (.v 6)) (.i 1)) (.i 1))) (.v 6) [("_law_w", 6)]) .nil))) (.cons (.ret (.tup (.cons (.bin .Mod (.bin .Add (.v 5) (.bin .Mult (.i 2) (.bin .Mod (.bin .FloorDiv (.v 2) (.i 4)) (.i 2)))) (.i 4)) (.cons (.v 3) (.cons (.v 4) .nil))))) .nil))))
def m_law_row : SpD := den { fn := [], con := [] } 7 2 d_law_row
def d_law_back : B := .cons (.ite (.cmp .Eq (.ix (.v 0) (.i 0)) (.s "quarter")) (.cons (.ret (.tup (.cons (.s "back") (.cons (.ix (.v 0) (.i 1)) .nil)))) .nil) (.nil)) (.cons (.ite (.cmp .Eq (.ix (.v 0) (.i 0)) (.s "back")) (.cons (.ret (.tup (.cons (.s "quarter") (.cons (.ix (.v 0) (.i 1)) .nil)))) .nil) (.nil)) (.cons (.ite (.bop .And (.cons (.cmp .In (.ix (.v 0) (.i 0)) (.tup (.cons (.s "both") (.cons (.s "swap") .nil)))) (.cons (.e (.v 1)) .nil))) (.cons (.ret (.tup (.cons (.ix (.v 0) (.i 0)) (.cons (.ix (.v 0) (.i 2)) (.cons (.ix (.v 0) (.i 1)) .nil))))) .nil) (.nil)) (.cons (.ret (.v 0)) .nil)))
def m_law_back : SpD := den { fn := [], con := [] } 2 2 d_law_back
def d_law_deed : B := .cons (.asg (.nm 3) (.bin .Mod (.v 0) (.bin .Pow (.i 10) (.i 30)))) (.cons (.asg (.nm 4) (.lst (.cons (.s "mix") (.cons (.s "quarter") (.cons (.s "back") (.cons (.s "flip") (.cons (.s "sign") (.cons (.s "look") (.cons (.s "ask") (.cons (.s "when") (.cons (.s "join") (.cons (.s "both") (.cons (.s "swap") .nil))))))))))))) (.cons (.asg (.nm 5) (.ix (.v 4) (.bin .Mod (.v 3) (.i 11)))) (.cons (.ite (.cmp .Eq (.v 1) (.i 1)) (.cons (.asg (.nm 5) (.ix (.v 4) (.bin .Mod (.v 3) (.i 8)))) .nil) (.nil)) (.cons (.ite (.bop .And (.cons (.cmp .Eq (.v 5) (.s "when")) (.cons (.cmp .Eq (.v 2) (.i 0)) .nil))) (.cons (.asg (.nm 5) (.s "mix")) .nil) (.nil)) (.cons (.asg (.nm 6) (.bin .Mod (.bin .Mod (.bin .Mult (.v 3) (.i 7919)) (.i 10007)) (.v 1))) (.cons (.ite (.cmp .Eq (.v 5) (.s "ask")) (.cons (.asg (.nm 7) (.lc (.rng1 (.v 2)) (.nm 8) (.some (.cmp .Eq (.bin .BitAnd (.bin .RShift (.bin .Mod (.bin .Mult (.bin .FloorDiv (.v 3) (.i 11)) (.i 48271)) (.i 2147483647)) (.bin .Mod (.v 8) (.i 30))) (.i 1)) (.i 1))) (.v 8) [("_law_j", 8)])) (.cons (.ret (.tup (.cons (.s "ask") (.cons (.call 0 (.cons (.bin .FloorDiv (.v 3) (.i 11)) (.cons (.v 1) .nil))) (.cons (.bi .tuple (.cons (.v 7) .nil)) .nil))))) .nil)) (.nil)) (.cons (.ite (.cmp .Eq (.v 5) (.s "when")) (.cons (.ret (.tup (.cons (.s "when") (.cons (.bin .Mod (.bin .Mod (.bin .Mult (.v 3) (.i 7919)) (.i 10009)) (.v 2)) (.cons (.call 0 (.cons (.bin .FloorDiv (.v 3) (.i 11)) (.cons (.v 1) .nil))) .nil))))) .nil) (.nil)) (.cons (.ite (.cmp .In (.v 5) (.tup (.cons (.s "join") (.cons (.s "both") (.cons (.s "swap") .nil))))) (.cons (.ret (.tup (.cons (.v 5) (.cons (.v 6) (.cons (.bin .Mod (.bin .Add (.bin .Add (.v 6) (.i 1)) (.bin .Mod (.bin .Mod (.bin .Mult (.v 3) (.i 104729)) (.i 99991)) (.bin .Sub (.v 1) (.i 1)))) (.v 1)) .nil))))) .nil) (.nil)) (.cons (.ret (.tup (.cons (.v 5) (.cons (.v 6) .nil)))) .nil)))))))))
def m_law_deed : SpD := den { fn := [m_law_row], con := [] } 9 3 d_law_deed
def d_law_word : B := .cons (.asg (.nm 2) (.lst (.nil))) (.cons (.asg (.nm 3) (.i 0)) (.cons (.loop (.nm 4) (.seq (.v 0)) (.cons (.asg (.nm 5) (.bin .Mod (.v 4) (.bin .Pow (.i 10) (.i 30)))) (.cons (.asg (.nm 6) (.call 0 (.cons (.bin .FloorDiv (.v 5) (.i 2)) (.cons (.v 1) (.cons (.v 3) .nil))))) (.cons (.ite (.bop .And (.cons (.cmp .Eq (.bin .Mod (.v 5) (.i 2)) (.i 1)) (.cons (.cmp .Gt (.bi .len (.cons (.v 2) .nil)) (.i 0)) .nil))) (.cons (.asg (.nm 7) (.ix (.v 2) (.bin .Sub (.i 0) (.bi .min (.cons (.bi .len (.cons (.v 2) .nil)) (.cons (.bin .Add (.i 1) (.bin .Mod (.bin .FloorDiv (.v 5) (.i 2)) (.i 4))) .nil)))))) (.cons (.ite (.cmp .NotIn (.ix (.v 7) (.i 0)) (.tup (.cons (.s "look") (.cons (.s "ask") (.cons (.s "when") .nil))))) (.cons (.asg (.nm 6) (.call 1 (.cons (.v 7) (.cons (.cmp .Eq (.bin .Mod (.bin .FloorDiv (.v 5) (.i 8)) (.i 2)) (.i 1)) .nil)))) .nil) (.nil)) .nil)) (.nil)) (.cons (.ite (.cmp .In (.ix (.v 6) (.i 0)) (.tup (.cons (.s "look") (.cons (.s "ask") .nil)))) (.cons (.asg (.nm 3) (.bin .Add (.v 3) (.i 1))) .nil) (.nil)) (.cons (.ex (.bm .append (.v 2) (.cons (.v 6) .nil))) .nil)))))) (.cons (.ret (.v 2)) .nil)))
def m_law_word : SpD := den { fn := [m_law_deed, m_law_back], con := [] } 8 2 d_law_word
def d_law_mask : B := .cons (.ite (.cmp .Eq (.ix (.v 0) (.i 0)) (.s "ask")) (.cons (.ret (.bin .BitOr (.ix (.ix (.v 0) (.i 1)) (.i 1)) (.ix (.ix (.v 0) (.i 1)) (.i 2)))) .nil) (.nil)) (.cons (.ite (.cmp .Eq (.ix (.v 0) (.i 0)) (.s "when")) (.cons (.ret (.bin .BitOr (.ix (.ix (.v 0) (.i 2)) (.i 1)) (.ix (.ix (.v 0) (.i 2)) (.i 2)))) .nil) (.nil)) (.cons (.asg (.nm 1) (.i 0)) (.cons (.loop (.nm 2) (.seq (.sl (.v 0) (.some (.i 1)) .none)) (.cons (.asg (.nm 1) (.bin .BitOr (.v 1) (.bin .LShift (.i 1) (.v 2)))) .nil)) (.cons (.ret (.v 1)) .nil))))
def m_law_mask : SpD := den { fn := [], con := [] } 3 1 d_law_mask
def d_law_is_move : B := .cons (.ret (.cmp .NotIn (.ix (.v 0) (.i 0)) (.tup (.cons (.s "look") (.cons (.s "ask") (.cons (.s "when") .nil)))))) .nil
def m_law_is_move : SpD := den { fn := [], con := [] } 1 1 d_law_is_move
def d_law_pair_left : B := .cons (.loop (.nm 1) (.rng1 (.bi .len (.cons (.v 0) .nil))) (.cons (.ite (.e (.call 0 (.cons (.ix (.v 0) (.v 1)) .nil))) (.cons (.asg (.nm 2) (.call 1 (.cons (.ix (.v 0) (.v 1)) .nil))) (.cons (.asg (.nm 3) (.bin .Add (.v 1) (.i 1))) (.cons (.whl (.bop .And (.cons (.cmp .Lt (.v 3) (.bi .len (.cons (.v 0) .nil))) (.cons (.cmp .Eq (.bin .BitAnd (.call 1 (.cons (.ix (.v 0) (.v 3)) .nil)) (.v 2)) (.i 0)) .nil))) (.cons (.asg (.nm 3) (.bin .Add (.v 3) (.i 1))) .nil)) (.cons (.loop (.nm 4) (.seq (.tup (.cons (.b false) (.cons (.b true) .nil)))) (.cons (.ite (.bop .And (.cons (.cmp .Lt (.v 3) (.bi .len (.cons (.v 0) .nil))) (.cons (.cmp .Eq (.ix (.v 0) (.v 3)) (.call 2 (.cons (.ix (.v 0) (.v 1)) (.cons (.v 4) .nil)))) .nil))) (.cons (.ret (.b true)) .nil) (.nil)) .nil)) .nil)))) (.nil)) .nil)) (.cons (.ret (.b false)) .nil)
def m_law_pair_left : SpD := den { fn := [m_law_is_move, m_law_mask, m_law_back], con := [] } 5 1 d_law_pair_left
def d_law_part_in_order : B := .cons (.asg (.nm 2) (.i 0)) (.cons (.loop (.nm 3) (.seq (.v 1)) (.cons (.ite (.bop .And (.cons (.cmp .Lt (.v 2) (.bi .len (.cons (.v 0) .nil))) (.cons (.cmp .Eq (.ix (.v 0) (.v 2)) (.v 3)) .nil))) (.cons (.asg (.nm 2) (.bin .Add (.v 2) (.i 1))) .nil) (.cons (.ite (.not (.e (.call 0 (.cons (.v 3) .nil)))) (.cons (.ret (.b false)) .nil) (.nil)) .nil)) .nil)) (.cons (.ret (.cmp .Eq (.v 2) (.bi .len (.cons (.v 0) .nil)))) .nil))
def m_law_part_in_order : SpD := den { fn := [m_law_is_move], con := [] } 4 2 d_law_part_in_order
def d_law_key : B := .cons (.ite (.cmp .Eq (.ix (.v 0) (.i 0)) (.s "join")) (.cons (.ret (.v 0)) .nil) (.nil)) (.cons (.ite (.cmp .Eq (.ix (.v 0) (.i 0)) (.s "back")) (.cons (.ret (.tup (.cons (.s "quarter") (.cons (.call 0 (.cons (.v 0) .nil)) .nil)))) .nil) (.nil)) (.cons (.ret (.tup (.cons (.ix (.v 0) (.i 0)) (.cons (.call 0 (.cons (.v 0) .nil)) .nil)))) .nil))
def m_law_key : SpD := den { fn := [m_law_mask], con := [] } 1 1 d_law_key
def d_law_counts : B := .cons (.asg (.nm 1) (.nn)) (.cons (.asg (.nm 2) (.lst (.nil))) (.cons (.loop (.nm 3) (.seq (.v 0)) (.cons (.asg (.nm 6) (.call 0 (.cons (.v 3) .nil))) (.cons (.ite (.e (.call 1 (.cons (.v 3) .nil))) (.cons (.asg (.nm 8) (.bi .len (.cons (.lc (.seq (.v 2)) (.nm 9) (.some (.cmp .NotEq (.bin .BitAnd (.v 9) (.v 6)) (.i 0))) (.v 9) [("_law_stop", 9)]) .nil))) (.cons (.asg (.nm 5) (.tup (.cons (.call 2 (.cons (.v 3) .nil)) (.cons (.v 8) .nil)))) (.cons (.nst (.v 1) (.v 5) (.bin .Sub (.bin .Add (.ng (.v 1) (.v 5) (.i 0)) (.i 1)) (.bin .Mult (.i 2) (.bi .int (.cons (.cmp .Eq (.ix (.v 3) (.i 0)) (.s "back")) .nil))))) .nil))) (.cons (.ex (.bm .append (.v 2) (.cons (.v 6) .nil))) .nil)) .nil))) (.cons (.asg (.nm 4) (.nn)) (.cons (.loop (.nm 5) (.nk (.v 1)) (.cons (.asg (.nm 7) (.nx (.v 1) (.v 5))) (.cons (.ite (.cmp .NotEq (.ix (.ix (.v 5) (.i 0)) (.i 0)) (.s "quarter")) (.cons (.asg (.nm 7) (.bin .Mod (.v 7) (.i 2))) .nil) (.nil)) (.cons (.ite (.cmp .NotEq (.v 7) (.i 0)) (.cons (.nst (.v 4) (.v 5) (.v 7)) .nil) (.nil)) .nil)))) (.cons (.ret (.v 4)) .nil)))))
def m_law_counts : SpD := den { fn := [m_law_mask, m_law_is_move, m_law_key], con := [] } 10 1 d_law_counts
def d_law : B := .cons (.asg (.nm 1) (.call 0 (.cons (.call 1 (.cons (.v 0) (.cons (.i 0) .nil))) .nil))) (.cons (.asg (.nm 2) (.call 2 (.cons (.sl (.v 0) (.some (.i 1)) (.some (.i 61))) (.cons (.v 1) .nil)))) (.cons (.asg (.nm 3) (.bi .list (.cons (.v 2) .nil))) (.cons (.asg (.nm 4) (.call 3 (.cons (.v 3) .nil))) (.cons (.ite (.not (.e (.isi (.v 4) .list))) (.cons (.ret (.b false)) .nil) (.nil)) (.cons (.asg (.nm 5) (.bi .list (.cons (.v 4) .nil))) (.cons (.ite (.bop .Or (.cons (.not (.e (.call 4 (.cons (.v 5) (.cons (.v 2) .nil))))) (.cons (.nne (.call 5 (.cons (.v 5) .nil)) (.call 5 (.cons (.v 2) .nil))) .nil))) (.cons (.ret (.b false)) .nil) (.nil)) (.cons (.ite (.bop .Or (.cons (.e (.call 6 (.cons (.v 5) .nil))) (.cons (.cmp .NotEq (.call 3 (.cons (.bi .list (.cons (.v 5) .nil)) .nil)) (.v 5)) .nil))) (.cons (.ret (.b false)) .nil) (.nil)) (.cons (.ex (.bm .append (.v 4) (.cons (.tup (.cons (.s "mix") (.cons (.i 0) .nil))) .nil))) (.cons (.ret (.bop .And (.cons (.cmp .Eq (.v 3) (.v 2)) (.cons (.cmp .Eq (.call 3 (.cons (.v 3) .nil)) (.v 5)) .nil)))) .nil)))))))))
def m_law : SpD := den { fn := [m_law_wires, m_law_cell_at, m_law_word, m_trimmed, m_law_part_in_order, m_law_counts, m_law_pair_left], con := [] } 6 1 d_law
theorem M_law_wires : Gam.Mono { fn := [], con := [] } := (mono_fn fun _ h => by simp at h)
theorem mo_law_wires : MonoS m_law_wires := den_mono M_law_wires _ _ _
theorem M_law_row : Gam.Mono { fn := [], con := [] } := (mono_fn fun _ h => by simp at h)
theorem mo_law_row : MonoS m_law_row := den_mono M_law_row _ _ _
theorem M_law_back : Gam.Mono { fn := [], con := [] } := (mono_fn fun _ h => by simp at h)
theorem mo_law_back : MonoS m_law_back := den_mono M_law_back _ _ _
theorem M_law_deed : Gam.Mono { fn := [m_law_row], con := [] } := (mono_fn fun m hm => by simp only [List.mem_cons, List.not_mem_nil, or_false] at hm; subst hm; first | exact mo_law_row)
theorem mo_law_deed : MonoS m_law_deed := den_mono M_law_deed _ _ _
theorem M_law_word : Gam.Mono { fn := [m_law_deed, m_law_back], con := [] } := (mono_fn fun m hm => by simp only [List.mem_cons, List.not_mem_nil, or_false] at hm; rcases hm with rfl | rfl <;> first | exact mo_law_deed | exact mo_law_back)
theorem mo_law_word : MonoS m_law_word := den_mono M_law_word _ _ _
theorem M_law_mask : Gam.Mono { fn := [], con := [] } := (mono_fn fun _ h => by simp at h)
theorem mo_law_mask : MonoS m_law_mask := den_mono M_law_mask _ _ _
theorem M_law_is_move : Gam.Mono { fn := [], con := [] } := (mono_fn fun _ h => by simp at h)
theorem mo_law_is_move : MonoS m_law_is_move := den_mono M_law_is_move _ _ _
theorem M_law_pair_left : Gam.Mono { fn := [m_law_is_move, m_law_mask, m_law_back], con := [] } := (mono_fn fun m hm => by simp only [List.mem_cons, List.not_mem_nil, or_false] at hm; rcases hm with rfl | rfl | rfl <;> first | exact mo_law_is_move | exact mo_law_mask | exact mo_law_back)
theorem mo_law_pair_left : MonoS m_law_pair_left := den_mono M_law_pair_left _ _ _
theorem M_law_part_in_order : Gam.Mono { fn := [m_law_is_move], con := [] } := (mono_fn fun m hm => by simp only [List.mem_cons, List.not_mem_nil, or_false] at hm; subst hm; first | exact mo_law_is_move)
theorem mo_law_part_in_order : MonoS m_law_part_in_order := den_mono M_law_part_in_order _ _ _
theorem M_law_key : Gam.Mono { fn := [m_law_mask], con := [] } := (mono_fn fun m hm => by simp only [List.mem_cons, List.not_mem_nil, or_false] at hm; subst hm; first | exact mo_law_mask)
theorem mo_law_key : MonoS m_law_key := den_mono M_law_key _ _ _
theorem M_law_counts : Gam.Mono { fn := [m_law_mask, m_law_is_move, m_law_key], con := [] } := (mono_fn fun m hm => by simp only [List.mem_cons, List.not_mem_nil, or_false] at hm; rcases hm with rfl | rfl | rfl <;> first | exact mo_law_mask | exact mo_law_is_move | exact mo_law_key)
theorem mo_law_counts : MonoS m_law_counts := den_mono M_law_counts _ _ _
theorem M_law : Gam.Mono { fn := [m_law_wires, m_law_cell_at, m_law_word, m_trimmed, m_law_part_in_order, m_law_counts, m_law_pair_left], con := [] } := (mono_fn fun m hm => by simp only [List.mem_cons, List.not_mem_nil, or_false] at hm; rcases hm with rfl | rfl | rfl | rfl | rfl | rfl | rfl <;> first | exact mo_law_wires | exact mo_law_cell_at | exact mo_law_word | exact mo_trimmed | exact mo_law_part_in_order | exact mo_law_counts | exact mo_law_pair_left)
theorem mo_law : MonoS m_law := den_mono M_law _ _ _
theorem pw2 (k : Nat) : (2 : Int) ^ k = ((2 ^ k : Nat) : Int) := (Int.natCast_pow 2 k).symm
def dePd : De → PyData
  | .mv m => m.pd
  | .look k => .tuple [.str "look", .int k]
  | .ask r ns => .tuple [.str "ask", r.pd, .tuple ((ns.map fun n => ((n : Nat) : Int)).map PyData.int)]
  | .when n r => .tuple [.str "when", .int n, r.pd]
theorem dePd_ok (G : Gp) (d : De) : Pd G d.d (dePd d) := by
  cases d with
  | mv m => exact Mv.hpd G m
  | look k => exact .tup (.cons (.str _) (.cons (.int _) .nil))
  | ask r ns =>
    refine .tup (.cons (.str _) (.cons (Row.hpd G r) (.cons (.tup ?_) .nil)))
    have := pds_ints G (ns.map fun n => ((n : Nat) : Int))
    rw [List.map_map] at this; exact this
  | when n r => exact .tup (.cons (.str _) (.cons (.int _) (.cons (Row.hpd G r) .nil)))
theorem lookS : PyData.canLay0 (.str "look") = true := by simp [PyData.canLay0] <;> decide +kernel
theorem askS : PyData.canLay0 (.str "ask") = true := by simp [PyData.canLay0] <;> decide +kernel
theorem whenS : PyData.canLay0 (.str "when") = true := by simp [PyData.canLay0] <;> decide +kernel
theorem dePd_lay (d : De) : PyData.canLay0 (dePd d) = true := by
  cases d with
  | mv m => exact Mv.lay m
  | look k => have := lookS; simp [dePd, PyData.canLay0, PyData.canLayAll0] at *; exact this
  | ask r ns =>
    have := askS
    have h2 := lay_ints (ns.map fun n => ((n : Nat) : Int))
    simp only [dePd, Row.pd, PyData.canLay0, PyData.canLayAll0, h2, Bool.and_true, Bool.and_self] at *; exact this
  | when n r => have := whenS; simp [dePd, Row.pd, PyData.canLay0, PyData.canLayAll0] at *; exact this
theorem dePd_depth (d : De) : (dePd d).depth ≤ 3 := by
  cases d with
  | mv m => exact Nat.le_trans (Mv.dep m) (by decide)
  | look k => simp [dePd, PyData.depth, PyData.depthAll]
  | ask r ns =>
    have := depth_ints (ns.map fun n => ((n : Nat) : Int))
    simp only [dePd, Row.pd, PyData.depth, PyData.depthAll]; omega
  | when n r => simp [dePd, Row.pd, PyData.depth, PyData.depthAll]
def deq (d e : De) : Bool := PyData.eqv (dePd d) (dePd e)
theorem row_eqv (r s : Row) : PyData.eqv r.pd s.pd = decide (r = s) := by
  have h := eqv_ints [(r.t : Int), (r.x : Int), (r.z : Int)] [(s.t : Int), (s.x : Int), (s.z : Int)]
  have e : PyData.eqv r.pd s.pd = PyData.eqvAll ([(r.t : Int), (r.x : Int), (r.z : Int)].map PyData.int) ([(s.t : Int), (s.x : Int), (s.z : Int)].map PyData.int) := by
    show PyData.eqv (.tuple _) (.tuple _) = _
    rw [PyData.eqv]; rfl
  rw [e, h]
  apply decide_eq_decide.mpr
  obtain ⟨a, b, c⟩ := r
  obtain ⟨a', b', c'⟩ := s
  simp
  omega
theorem nats_inj : ∀ {a b : List Nat}, (a.map fun n => ((n : Nat) : Int)) = (b.map fun n => ((n : Nat) : Int)) → a = b
  | [], [], _ => rfl
  | [], _ :: _, h => by simp at h
  | _ :: _, [], h => by simp at h
  | x :: a, y :: b, h => by
    simp only [List.map_cons, List.cons.injEq] at h
    rw [nats_inj h.2, show x = y by omega]
theorem deq_refl (d : De) : deq d d = true := by
  unfold deq
  cases d with
  | mv m => show PyData.eqv m.pd m.pd = true; rw [Mv.eqv]; simp
  | look k => simp [dePd, PyData.eqv, PyData.eqvAll]
  | ask r ns =>
    have := eqv_ints (ns.map fun n => ((n : Nat) : Int)) (ns.map fun n => ((n : Nat) : Int))
    simp only [dePd, PyData.eqv, PyData.eqvAll, row_eqv, this]
    simp
  | when n r => simp [dePd, PyData.eqv, PyData.eqvAll, row_eqv]
theorem deq_eq {d e : De} (h : deq d e = true) : d = e := by
  unfold deq at h
  have n1 : ∀ n : N1, (n.s == Str.ofString "look") = false ∧ (n.s == Str.ofString "ask") = false ∧ (n.s == Str.ofString "when") = false ∧ (Str.ofString "look" == n.s) = false ∧ (Str.ofString "ask" == n.s) = false ∧ (Str.ofString "when" == n.s) = false := fun n => by cases n <;> decide +kernel
  have n2 : ∀ n : N2, (n.s == Str.ofString "look") = false ∧ (n.s == Str.ofString "ask") = false ∧ (n.s == Str.ofString "when") = false ∧ (Str.ofString "look" == n.s) = false ∧ (Str.ofString "ask" == n.s) = false ∧ (Str.ofString "when" == n.s) = false := fun n => by cases n <;> decide +kernel
  have l1 : (Str.ofString "look" == Str.ofString "ask") = false ∧ (Str.ofString "ask" == Str.ofString "look") = false ∧ (Str.ofString "look" == Str.ofString "when") = false ∧ (Str.ofString "when" == Str.ofString "look") = false ∧ (Str.ofString "ask" == Str.ofString "when") = false ∧ (Str.ofString "when" == Str.ofString "ask") = false := by decide +kernel
  cases d with
  | mv m =>
    cases e with
    | mv n =>
      have h' : PyData.eqv m.pd n.pd = true := h
      rw [Mv.eqv] at h'
      rw [of_decide_eq_true h']
    | look k => cases m <;> simp [dePd, Mv.pd, PyData.eqv, PyData.eqvAll, n1, n2] at h
    | ask r ns => cases m <;> simp [dePd, Mv.pd, PyData.eqv, PyData.eqvAll, n1, n2] at h
    | when n r => cases m <;> simp [dePd, Mv.pd, PyData.eqv, PyData.eqvAll, n1, n2] at h
  | look k =>
    cases e with
    | mv n => cases n <;> simp [dePd, Mv.pd, PyData.eqv, PyData.eqvAll, n1, n2] at h
    | look j => simp [dePd, PyData.eqv, PyData.eqvAll] at h; rw [show k = j by omega]
    | ask r ns => simp [dePd, PyData.eqv, PyData.eqvAll, l1] at h
    | when n r => simp [dePd, PyData.eqv, PyData.eqvAll, l1] at h
  | ask r ns =>
    cases e with
    | mv n => cases n <;> simp [dePd, Mv.pd, PyData.eqv, PyData.eqvAll, n1, n2] at h
    | look j => simp [dePd, PyData.eqv, PyData.eqvAll, l1] at h
    | ask s ms =>
      have := eqv_ints (ns.map fun n => ((n : Nat) : Int)) (ms.map fun n => ((n : Nat) : Int))
      simp only [dePd, PyData.eqv, PyData.eqvAll, row_eqv, this, Bool.and_eq_true, decide_eq_true_eq] at h
      rw [h.2.1, nats_inj h.2.2.1]
    | when n r => simp [dePd, PyData.eqv, PyData.eqvAll, l1] at h
  | when n r =>
    cases e with
    | mv n => cases n <;> simp [dePd, Mv.pd, PyData.eqv, PyData.eqvAll, n1, n2] at h
    | look j => simp [dePd, PyData.eqv, PyData.eqvAll, l1] at h
    | ask s ms => simp [dePd, PyData.eqv, PyData.eqvAll, l1] at h
    | when j s =>
      simp only [dePd, PyData.eqv, PyData.eqvAll, row_eqv, Bool.and_eq_true, decide_eq_true_eq, beq_iff_eq] at h
      rw [h.2.2.1, show n = j by omega]
theorem de_wp (d e : De) (G : Gp) (k : Bool → Prop) (q : k (deq d e)) : wpCmp .Eq d.d e.d G k := by
  have key : ∃ x y, Pd G d.d x ∧ Pd G e.d y ∧ SeqAt.shaped x = true ∧ SeqAt.shaped y = true ∧ k (PyData.eqv x y) := by
    have a := dePd_depth d
    have b := dePd_depth e
    refine ⟨dePd d, dePd e, dePd_ok G d, dePd_ok G e, ?_, ?_, q⟩
    · unfold SeqAt.shaped; simp [dePd_lay]; omega
    · unfold SeqAt.shaped; simp [dePd_lay]; omega
  have hd : ∀ d : De, ∃ xs, d.d = .tup xs := fun d => by
    cases d with
    | mv m => cases m <;> exact ⟨_, rfl⟩
    | look k => exact ⟨_, rfl⟩
    | ask r ns => exact ⟨_, rfl⟩
    | when n r => exact ⟨_, rfl⟩
  obtain ⟨xs, e1⟩ := hd d
  obtain ⟨ys, e2⟩ := hd e
  rw [e1, e2] at key ⊢
  exact key
/-! masks -/
def msk : De → Nat
  | .mv (.one _ a) => 2 ^ a
  | .mv (.two _ a b) => 2 ^ a ||| 2 ^ b
  | .look a => 2 ^ a
  | .ask r _ => r.x ||| r.z
  | .when _ r => r.x ||| r.z
def mts (d : De) (m : Mv) : Bool := decide (msk d &&& msk (.mv m) ≠ 0)
theorem bt_p (a i : Nat) : bt (2 ^ a) i = if i = a then 1 else 0 := by
  have := bt_unit (d := 1) (by decide) a i
  rw [Nat.one_mul] at this; exact this
theorem and_ne (a b : Nat) : a &&& b ≠ 0 ↔ ∃ i, bt a i = 1 ∧ bt b i = 1 := by
  constructor
  · intro h
    apply Classical.byContradiction
    intro q
    refine h (bt_eq fun i => ?_)
    rw [bt_and, bt_zero]
    have h1 := bt_lt a i
    have h2 := bt_lt b i
    rcases (show bt a i = 0 ∨ bt a i = 1 by omega) with e | e
    · rw [e, Nat.zero_mul]
    · rcases (show bt b i = 0 ∨ bt b i = 1 by omega) with e2 | e2
      · rw [e2, Nat.mul_zero]
      · exact absurd ⟨i, e, e2⟩ q
  · rintro ⟨i, e1, e2⟩ h
    have : bt (a &&& b) i = 0 := by rw [h, bt_zero]
    rw [bt_and, e1, e2] at this
    cases this
theorem mem_ws {w n : Nat} {d : De} (hd : d.On w n) (x : Int) : x ∈ d.ws w ↔ ∃ a : Nat, x = a ∧ bt (msk d) a = 1 := by
  have lt : ∀ (r : Row), r.On w → ∀ a, bt (r.x ||| r.z) a = 1 → a < w := fun r hr a h => by
    apply Classical.byContradiction
    intro q
    have hx : bt r.x a = 0 := by
      unfold bt
      rw [Nat.div_eq_of_lt (Nat.lt_of_lt_of_le hr.x (Nat.pow_le_pow_right (by decide) (by omega)))]
    have hz : bt r.z a = 0 := by
      unfold bt
      rw [Nat.div_eq_of_lt (Nat.lt_of_lt_of_le hr.z (Nat.pow_le_pow_right (by decide) (by omega)))]
    rw [bt_or, hx, hz] at h
    cases h
  have bl : ∀ r : Row, r.On w → (x ∈ bl1 (r.x ||| r.z) w ↔ ∃ a : Nat, x = a ∧ bt (r.x ||| r.z) a = 1) := fun r hr => by
    unfold bl1
    simp only [List.mem_map, List.mem_filter, List.mem_range, decide_eq_true_eq]
    exact ⟨fun ⟨a, ⟨_, h⟩, e⟩ => ⟨a, e.symm, h⟩, fun ⟨a, e, h⟩ => ⟨a, ⟨lt r hr a h, h⟩, e.symm⟩⟩
  cases d with
  | mv m =>
    cases m with
    | one nm a =>
      simp only [De.ws, msk, bt_p, List.mem_singleton]
      exact ⟨fun h => ⟨a, h, by simp⟩, fun ⟨b, e, h⟩ => by split at h <;> simp_all⟩
    | two nm a b =>
      simp only [De.ws, msk, bt_or, bt_p, List.mem_cons, List.not_mem_nil, or_false]
      constructor
      · rintro (h | h)
        · exact ⟨min a b, h, by
            rcases (show min a b = a ∨ min a b = b by omega) with e | e <;> rw [e] <;> (repeat' split) <;> first | rfl | omega | simp_all⟩
        · exact ⟨max a b, h, by
            rcases (show max a b = a ∨ max a b = b by omega) with e | e <;> rw [e] <;> (repeat' split) <;> first | rfl | omega | simp_all⟩
      · rintro ⟨c, rfl, h⟩
        have : c = a ∨ c = b := by
          apply Classical.byContradiction
          intro q
          rw [if_neg (fun e => q (.inl e)), if_neg (fun e => q (.inr e))] at h
          cases h
        omega
  | look a =>
    simp only [De.ws, msk, bt_p, List.mem_singleton]
    exact ⟨fun h => ⟨a, h, by simp⟩, fun ⟨b, e, h⟩ => by split at h <;> simp_all⟩
  | ask r ns => exact bl r hd.1
  | when k r => exact bl r hd.2
theorem meets_mts {w n : Nat} {d : De} {m : Mv} (hd : d.On w n) (hm : m.On w) : d.meets w m = mts d m := by
  have hm' : (De.mv m).On w n := hm
  unfold De.meets mts
  apply Bool.eq_iff_iff.mpr
  rw [List.any_eq_true, decide_eq_true_eq, and_ne]
  simp only [decide_eq_true_eq]
  constructor
  · rintro ⟨x, h1, h2⟩
    obtain ⟨a, rfl, e1⟩ := (mem_ws hd x).mp h1
    obtain ⟨b, e, e2⟩ := (mem_ws hm' _).mp h2
    have : a = b := by omega
    subst this
    exact ⟨a, e1, e2⟩
  · rintro ⟨a, e1, e2⟩
    exact ⟨a, (mem_ws hd _).mpr ⟨a, rfl, e1⟩, (mem_ws hm' _).mpr ⟨a, rfl, e2⟩⟩
theorem msk_pos (m : Mv) : msk (.mv m) ≠ 0 := by
  have h : ∃ i, bt (msk (.mv m)) i = 1 := by
    cases m with
    | one n a => exact ⟨a, by simp [msk, bt_p]⟩
    | two n a b => exact ⟨a, by simp only [msk, bt_or, bt_p]; (repeat' split) <;> first | rfl | omega | simp_all⟩
  intro q
  obtain ⟨i, h⟩ := h
  rw [q, bt_zero] at h
  cases h
/-! a word without some of its moves -/
inductive Emb : List De → List De → Prop
  | nil : Emb [] []
  | keep {K ds : List De} (d : De) : Emb K ds → Emb (d :: K) (d :: ds)
  | drop {K ds : List De} (m : Mv) : Emb K ds → Emb K (.mv m :: ds)
theorem Emb.tail {K : List De} {m : Mv} : ∀ {ds : List De}, Emb (.mv m :: K) ds → Emb K ds
  | _, .keep _ h => .drop m h
  | _, .drop m' h => .drop m' h.tail
theorem Emb.snoc {K ds : List De} (h : Emb K ds) (d : De) : Emb (K ++ [d]) (ds ++ [d]) := by
  induction h with
  | nil => exact .keep d .nil
  | keep e _ ih => exact .keep e ih
  | drop m _ ih => exact .drop m ih
theorem Emb.snocM {K ds : List De} (h : Emb K ds) (m : Mv) : Emb K (ds ++ [.mv m]) := by
  induction h with
  | nil => exact .drop m .nil
  | keep e _ ih => exact .keep e ih
  | drop m _ ih => exact .drop m ih
theorem Emb.erase {K1 K2 ds : List De} {m : Mv} (h : Emb (K1 ++ .mv m :: K2) ds) : Emb (K1 ++ K2) ds := by
  generalize e : K1 ++ .mv m :: K2 = K at h
  induction h generalizing K1 with
  | nil => cases K1 <;> cases e
  | keep d h ih =>
    cases K1 with
    | nil => cases e; exact .drop m h
    | cons a K1 => cases e; exact .keep _ (ih rfl)
  | drop m' h ih => exact .drop m' (ih e)
/-- the greedy walk: what is still to be found -/
def grd : List De → List De → Option (List De)
  | K, [] => some K
  | [], d :: ds => if isMv d then grd [] ds else none
  | k :: K, d :: ds => if deq k d then grd K ds else if isMv d then grd (k :: K) ds else none
where isMv : De → Bool
  | .mv _ => true
  | _ => false
theorem Emb.grd : ∀ {ds K : List De}, Emb K ds → grd K ds = some []
  | [], _, .nil => rfl
  | d :: ds, [], h => by
    cases h with
    | drop m h =>
      show (if _ then _ else _) = _
      rw [if_pos (show grd.isMv (.mv m) = true from rfl)]
      exact h.grd
  | d :: ds, k :: K, h => by
    show (if deq k d = true then _ else _) = _
    by_cases q : deq k d = true
    · rw [if_pos q]
      have e := deq_eq q
      subst e
      cases h with
      | keep _ h => exact h.grd
      | drop m h => exact h.tail.grd
    · rw [if_neg q]
      cases h with
      | keep _ h => exact absurd (deq_refl d) q
      | drop m h => rw [if_pos (show grd.isMv (.mv m) = true from rfl)]; exact h.grd
/-! no pair is left -/
def Tight (K : List De) : Prop := ∀ (i j : Nat) (m' m : Mv), i < j → K[i]? = some (.mv m') → K[j]? = some (.mv m) → m'.undo.same m = true → ∃ (l : Nat) (d : De), i < l ∧ l < j ∧ K[l]? = some d ∧ mts d m = true
theorem same_msk {m' m : Mv} (h : m'.undo.same m = true) : msk (.mv m') = msk (.mv m) := by
  cases m' with
  | one n a =>
    cases m with
    | one k b =>
      have : a = b := by cases n <;> (simp only [Mv.undo, Mv.same, Bool.and_eq_true, decide_eq_true_eq] at h; exact h.2)
      rw [this]; rfl
    | two k b c => cases n <;> cases h
  | two n a b =>
    cases m with
    | one k c => cases h
    | two k c d =>
      simp only [Mv.undo, Mv.same, Bool.and_eq_true, decide_eq_true_eq] at h
      obtain ⟨rfl, h⟩ := h
      show 2 ^ a ||| 2 ^ b = 2 ^ c ||| 2 ^ d
      split at h
      · have h := of_decide_eq_true h
        rcases (show (a = c ∧ b = d) ∨ (a = d ∧ b = c) by omega) with ⟨rfl, rfl⟩ | ⟨rfl, rfl⟩
        · rfl
        · exact Nat.or_comm _ _
      · obtain ⟨rfl, rfl⟩ := of_decide_eq_true h
        rfl
theorem mts_same {m' m : Mv} (h : m'.undo.same m = true) (d : De) : mts d m' = mts d m := by unfold mts; rw [same_msk h]
theorem mts_symm (m n : Mv) : mts (.mv m) n = mts (.mv n) m := by unfold mts; rw [Nat.and_comm]
theorem plc_no {w : Nat} {K : List De} {m : Mv} {N : Nat} (hK : ∀ (i : Nat) d, K[i]? = some d → d.On w N) (hm : m.On w) : ∀ n, n ≤ K.length → plcN w K m n < 0 → ∀ (i : Nat) (m' : Mv), i < n → K[i]? = some (.mv m') → m'.undo.same m = true → ∃ (l : Nat) (d : De), i < l ∧ l < n ∧ K[l]? = some d ∧ mts d m = true
  | 0, _, _, i, _, hi, _, _ => absurd hi (Nat.not_lt_zero i)
  | n + 1, hn, h, i, m', hi, hg, hs => by
    have hgn := List.getElem?_eq_getElem (l := K) (i := n) (by omega)
    rw [plcN_succ hgn] at h
    have hon := hK n _ hgn
    by_cases q : (K[n]).meets w m = true
    · rw [if_pos q] at h
      by_cases q2 : (K[n]).undoes m = true
      · rw [if_pos q2] at h; omega
      · by_cases e : i = n
        · subst e
          rw [hgn] at hg
          cases hg' : K[i] with
          | mv k => rw [hg'] at hg q2; cases hg; exact absurd hs q2
          | look k => rw [hg'] at hg; cases hg
          | ask r ns => rw [hg'] at hg; cases hg
          | when k r => rw [hg'] at hg; cases hg
        · rw [meets_mts hon hm] at q
          exact ⟨n, K[n], by omega, Nat.lt_succ_self n, hgn, q⟩
    · rw [if_neg q] at h
      by_cases e : i = n
      · subst e
        rw [hgn] at hg
        have e2 : K[i] = .mv m' := Option.some.inj hg
        rw [meets_mts hon hm, e2] at q
        refine absurd ?_ q
        unfold mts
        rw [same_msk hs, Nat.and_self]
        exact decide_eq_true (msk_pos m)
      · obtain ⟨l, d, a, b, c, e3⟩ := plc_no hK hm n (by omega) h i m' (by omega) hg hs
        exact ⟨l, d, a, by omega, c, e3⟩
theorem get_erase {K1 K2 : List De} (x : De) (i : Nat) : (K1 ++ K2)[i]? = (K1 ++ x :: K2)[if i < K1.length then i else i + 1]? := by
  by_cases h : i < K1.length
  · rw [if_pos h, List.getElem?_append_left h, List.getElem?_append_left h]
  · rw [if_neg h, List.getElem?_append_right (by omega), List.getElem?_append_right (by omega), show i + 1 - K1.length = (i - K1.length) + 1 by omega, List.getElem?_cons_succ]
theorem trim_tight {w N : Nat} {K : List De} (hK : ∀ (i : Nat) d, K[i]? = some d → d.On w N) (hT : Tight K) {d : De} (hd : d.On w N) : Tight (trimS w K d) := by
  have app : ∀ d : De, (∀ m, d = .mv m → ∀ (i : Nat) (m' : Mv), i < K.length → K[i]? = some (.mv m') → m'.undo.same m = true → ∃ (l : Nat) (d : De), i < l ∧ l < K.length ∧ K[l]? = some d ∧ mts d m = true) → Tight (K ++ [d]) := by
    intro d hd i j m' m hij hi hj hs
    have hjl := (List.getElem?_eq_some_iff.mp hj).1
    rw [List.length_append] at hjl
    simp at hjl
    rw [List.getElem?_append_left (by omega)] at hi
    by_cases hjK : j < K.length
    · rw [List.getElem?_append_left hjK] at hj
      obtain ⟨l, e, a, b, c, f⟩ := hT i j m' m hij hi hj hs
      exact ⟨l, e, a, b, by rw [List.getElem?_append_left (by omega)]; exact c, f⟩
    · have : j = K.length := by omega
      subst this
      rw [List.getElem?_append_right (Nat.le_refl _), Nat.sub_self] at hj
      have hj' : d = .mv m := by simpa using hj
      obtain ⟨l, e, a, b, c, f⟩ := hd m hj' i m' hij hi hs
      exact ⟨l, e, a, b, by rw [List.getElem?_append_left b]; exact c, f⟩
  cases d with
  | look k => exact app _ fun m h => by cases h
  | ask r ns => exact app _ fun m h => by cases h
  | when k r => exact app _ fun m h => by cases h
  | mv m =>
    show Tight (if plcN w K m K.length < 0 then K ++ [.mv m] else K.eraseIdx (plcN w K m K.length).toNat)
    by_cases h : plcN w K m K.length < 0
    · rw [if_pos h]
      refine app _ fun m2 e i m' hi hg hs => ?_
      cases e
      exact plc_no hK hd K.length (Nat.le_refl _) h i m' hi hg hs
    · rw [if_neg h]
      obtain ⟨i0, m0, hi0, e0, hg0, hs0, hc0⟩ := plc_ok K.length (Nat.le_refl _) h
      rw [e0, Int.toNat_natCast]
      obtain ⟨e1, e2⟩ := erase_mid K hg0
      rw [e2]
      have tl : (K.take i0).length = i0 := by rw [List.length_take]; omega
      intro i j m' n hij hi hj hs
      rw [get_erase (.mv m0), ← e1, tl] at hi hj
      obtain ⟨l, d, a, b, c, f⟩ := hT _ _ m' n (by split <;> split <;> omega) hi hj hs
      by_cases hl : l = i0
      · exfalso
        subst hl
        rw [hg0] at c
        cases c
        have hj2 : ¬ j < l := by intro q; rw [if_pos q] at b; omega
        rw [if_neg hj2] at hj
        have hjl := (List.getElem?_eq_some_iff.mp hj).1
        have h1 := hc0 (j + 1) _ (by omega) hjl hj
        rw [meets_mts (hK _ _ hj) hd] at h1
        rw [mts_symm, mts_same hs0] at f
        rw [h1] at f
        cases f
      · refine ⟨if l < i0 then l else l - 1, d, ?_, ?_, ?_, f⟩
        · split at a <;> split <;> omega
        · split at b <;> split <;> omega
        · rw [get_erase (.mv m0), ← e1, tl, ← c]
          congr 1
          (repeat' split) <;> omega
/-- trimmed again it stays -/
theorem tight_step {w N : Nat} {K : List De} (hK : ∀ (i : Nat) d, K[i]? = some d → d.On w N) {d : De} (hd : d.On w N) (hT : Tight (K ++ [d])) : trimS w K d = K ++ [d] := by
  cases d with
  | look k => rfl
  | ask r ns => rfl
  | when k r => rfl
  | mv m =>
    show (if plcN w K m K.length < 0 then _ else _) = _
    by_cases h : plcN w K m K.length < 0
    · rw [if_pos h]
    · exfalso
      obtain ⟨i0, m0, hi0, e0, hg0, hs0, hc0⟩ := plc_ok K.length (Nat.le_refl _) h
      obtain ⟨l, d, a, b, c, f⟩ := hT i0 K.length m0 m hi0 (by rw [List.getElem?_append_left hi0]; exact hg0) (by rw [List.getElem?_append_right (Nat.le_refl _), Nat.sub_self]; rfl) hs0
      rw [List.getElem?_append_left b] at c
      have h1 := hc0 l d a b c
      rw [meets_mts (hK _ _ c) hd] at h1
      rw [h1] at f
      cases f
theorem Tight.take {K : List De} (h : Tight K) (n : Nat) : Tight (K.take n) := by
  intro i j m' m hij hi hj hs
  rw [List.getElem?_take] at hi hj
  split at hj
  · rw [if_pos (by omega)] at hi
    obtain ⟨l, d, a, b, c, f⟩ := h i j m' m hij hi hj hs
    exact ⟨l, d, a, b, by rw [List.getElem?_take, if_pos (by omega)]; exact c, f⟩
  · cases hj
theorem trim_again {w N : Nat} {K : List De} (hK : ∀ (i : Nat) d, K[i]? = some d → d.On w N) (hT : Tight K) : trimW w K = K := by
  have key : ∀ n, n ≤ K.length → trimW w (K.take n) = K.take n := by
    intro n
    induction n with
    | zero => intro _; rfl
    | succ n ih =>
      intro hn
      have hg := List.getElem?_eq_getElem (l := K) (i := n) (by omega)
      have et : K.take (n + 1) = K.take n ++ [K[n]] := by rw [List.take_add_one, hg]; rfl
      have e2 : trimW w (K.take (n + 1)) = trimS w (trimW w (K.take n)) K[n] := by unfold trimW; rw [et, List.foldl_append]; rfl
      rw [e2, ih (by omega), et]
      refine tight_step (N := N) (fun i d h => ?_) (hK n _ hg) (by rw [← et]; exact hT.take _)
      rw [List.getElem?_take] at h
      split at h
      · exact hK i d h
      · cases h
  have := key K.length (Nat.le_refl _)
  rwa [List.take_length] at this
/-! what is counted -/
def kyM : Mv → List L2.Key
  | .one .back a => [.inr "quarter", .inl ((2 ^ a : Nat) : Int)]
  | .one n a => [.inr n.s, .inl ((2 ^ a : Nat) : Int)]
  | .two .join a b => [.inr "join", .inl (a : Int), .inl (b : Int)]
  | .two n a b => [.inr n.s, .inl ((2 ^ a ||| 2 ^ b : Nat) : Int)]
def sgM : Mv → Int
  | .one .back _ => -1
  | _ => 1
def ahd (ss : List Nat) (mk : Nat) : Nat := (ss.filter fun s => decide (s &&& mk ≠ 0)).length
def ctM (ss : List Nat) (m : Mv) (k : NK) : Int := if (kyM m, (ahd ss (msk (.mv m)) : Int)) = k then sgM m else 0
def cws : List Nat → List De → NK → Int
  | _, [], _ => 0
  | ss, .mv m :: ds, k => ctM ss m k + cws ss ds k
  | ss, .look a :: ds, k => cws (ss ++ [msk (.look a)]) ds k
  | ss, .ask r ns :: ds, k => cws (ss ++ [msk (.ask r ns)]) ds k
  | ss, .when n r :: ds, k => cws (ss ++ [msk (.when n r)]) ds k
def sts : List De → List Nat
  | [] => []
  | .mv _ :: ds => sts ds
  | .look a :: ds => msk (.look a) :: sts ds
  | .ask r ns :: ds => msk (.ask r ns) :: sts ds
  | .when n r :: ds => msk (.when n r) :: sts ds
theorem sts_app : ∀ a b : List De, sts (a ++ b) = sts a ++ sts b
  | [], b => rfl
  | d :: a, b => by
    have := sts_app a b
    cases d <;> simp [sts, this]
theorem cws_app (k : NK) : ∀ (a b : List De) (ss : List Nat), cws ss (a ++ b) k = cws ss a k + cws (ss ++ sts a) b k
  | [], b, ss => by simp [cws, sts]
  | d :: a, b, ss => by
    cases d with
    | mv m =>
      show ctM ss m k + cws ss (a ++ b) k = ctM ss m k + cws ss a k + _
      rw [cws_app k a b ss, Int.add_assoc]; rfl
    | look x =>
      show cws (ss ++ [msk (.look x)]) (a ++ b) k = cws (ss ++ [msk (.look x)]) a k + cws (ss ++ msk (.look x) :: sts a) b k
      rw [cws_app k a b, List.append_assoc]; rfl
    | ask r ns =>
      show cws (ss ++ [msk (.ask r ns)]) (a ++ b) k = cws (ss ++ [msk (.ask r ns)]) a k + cws (ss ++ msk (.ask r ns) :: sts a) b k
      rw [cws_app k a b, List.append_assoc]; rfl
    | when n r =>
      show cws (ss ++ [msk (.when n r)]) (a ++ b) k = cws (ss ++ [msk (.when n r)]) a k + cws (ss ++ msk (.when n r) :: sts a) b k
      rw [cws_app k a b, List.append_assoc]; rfl
def qrt (k : NK) : Bool := decide (k.1.head? = some (.inr "quarter"))
def val (k : NK) (v : Int) : Int := if qrt k then v else v % 2
theorem val_add {k : NK} {a b : Int} (h : val k a = val k b) (c : Int) : val k (a + c) = val k (b + c) := by
  unfold val at h ⊢
  split
  · rename_i q; rw [if_pos q, if_pos q] at h; rw [h]
  · rename_i q; rw [if_neg q, if_neg q] at h; omega
theorem same_key {m' m : Mv} (h : m'.undo.same m = true) : kyM m' = kyM m ∧ ∀ n v, val (kyM m, n) (v + sgM m' + sgM m) = val (kyM m, n) v := by
  have hm := same_msk h
  cases m' with
  | one n a =>
    cases m with
    | two k b c => cases n <;> cases h
    | one k b =>
      have hab : a = b := by cases n <;> (simp only [Mv.undo, Mv.same, Bool.and_eq_true, decide_eq_true_eq] at h; exact h.2)
      subst hab
      have q1 : ∀ (n : N1) (x : Int) (j : Int), n ≠ .quarter → n ≠ .back → qrt ([.inr n.s, .inl x], j) = false := fun n x j a b => by
        cases n <;> first | exact absurd rfl a | exact absurd rfl b | (unfold qrt; exact decide_eq_false (by simp only [List.head?_cons]; decide +kernel))
      have q2 : ∀ (x : Int) (j : Int), qrt ([.inr "quarter", .inl x], j) = true := fun x j => by unfold qrt; exact decide_eq_true rfl
      cases n with
      | quarter =>
        have hk : k = .back := by simp only [Mv.undo, Mv.same, Bool.and_eq_true, decide_eq_true_eq] at h; exact h.1.symm
        subst hk
        exact ⟨rfl, fun j v => by
          have : qrt (kyM (.one .back a), j) = true := q2 _ j
          unfold val; rw [this, if_pos rfl, if_pos rfl]; show v + 1 + -1 = v; omega⟩
      | back =>
        have hk : k = .quarter := by simp only [Mv.undo, Mv.same, Bool.and_eq_true, decide_eq_true_eq] at h; exact h.1.symm
        subst hk
        exact ⟨rfl, fun j v => by
          have : qrt (kyM (.one .quarter a), j) = true := q2 _ j
          unfold val; rw [this, if_pos rfl, if_pos rfl]; show v + -1 + 1 = v; omega⟩
      | mix =>
        have hk : k = .mix := by simp only [Mv.undo, Mv.same, Bool.and_eq_true, decide_eq_true_eq] at h; exact h.1.symm
        subst hk
        exact ⟨rfl, fun j v => by
          have : qrt (kyM (.one .mix a), j) = false := q1 .mix _ j (by decide) (by decide)
          unfold val; rw [this, if_neg (by decide), if_neg (by decide)]; show (v + 1 + 1) % 2 = v % 2; omega⟩
      | flip =>
        have hk : k = .flip := by simp only [Mv.undo, Mv.same, Bool.and_eq_true, decide_eq_true_eq] at h; exact h.1.symm
        subst hk
        exact ⟨rfl, fun j v => by
          have : qrt (kyM (.one .flip a), j) = false := q1 .flip _ j (by decide) (by decide)
          unfold val; rw [this, if_neg (by decide), if_neg (by decide)]; show (v + 1 + 1) % 2 = v % 2; omega⟩
      | sign =>
        have hk : k = .sign := by simp only [Mv.undo, Mv.same, Bool.and_eq_true, decide_eq_true_eq] at h; exact h.1.symm
        subst hk
        exact ⟨rfl, fun j v => by
          have : qrt (kyM (.one .sign a), j) = false := q1 .sign _ j (by decide) (by decide)
          unfold val; rw [this, if_neg (by decide), if_neg (by decide)]; show (v + 1 + 1) % 2 = v % 2; omega⟩
  | two n a b =>
    cases m with
    | one k c => cases h
    | two k c d =>
      simp only [Mv.undo, Mv.same, Bool.and_eq_true, decide_eq_true_eq] at h
      obtain ⟨rfl, h⟩ := h
      have hm' : 2 ^ a ||| 2 ^ b = 2 ^ c ||| 2 ^ d := hm
      have q3 : ∀ (l : List L2.Key) (j : Int), qrt (.inr "join" :: l, j) = false ∧ qrt (.inr "both" :: l, j) = false ∧ qrt (.inr "swap" :: l, j) = false := fun l j => by
        refine ⟨?_, ?_, ?_⟩ <;> (unfold qrt; exact decide_eq_false (by simp only [List.head?_cons]; decide +kernel))
      cases n with
      | join =>
        rw [if_neg (by decide)] at h
        obtain ⟨rfl, rfl⟩ := of_decide_eq_true h
        exact ⟨rfl, fun j v => by
          have : qrt (kyM (.two .join a b), j) = false := (q3 _ j).1
          unfold val; rw [this, if_neg (by decide), if_neg (by decide)]; show (v + 1 + 1) % 2 = v % 2; omega⟩
      | both => exact ⟨by show [_, Sum.inl ((2 ^ a ||| 2 ^ b : Nat) : Int)] = [_, Sum.inl ((2 ^ c ||| 2 ^ d : Nat) : Int)]; rw [hm'], fun j v => by
          have : qrt (kyM (.two .both c d), j) = false := (q3 _ j).2.1
          unfold val; rw [this, if_neg (by decide), if_neg (by decide)]; show (v + 1 + 1) % 2 = v % 2; omega⟩
      | swap => exact ⟨by show [_, Sum.inl ((2 ^ a ||| 2 ^ b : Nat) : Int)] = [_, Sum.inl ((2 ^ c ||| 2 ^ d : Nat) : Int)]; rw [hm'], fun j v => by
          have : qrt (kyM (.two .swap c d), j) = false := (q3 _ j).2.2
          unfold val; rw [this, if_neg (by decide), if_neg (by decide)]; show (v + 1 + 1) % 2 = v % 2; omega⟩
theorem ahd_app (a b : List Nat) (mk : Nat) (h : ∀ s ∈ b, s &&& mk = 0) : ahd (a ++ b) mk = ahd a mk := by
  unfold ahd
  rw [List.filter_append, List.length_append]
  have : b.filter (fun s => decide (s &&& mk ≠ 0)) = [] := by
    rw [List.filter_eq_nil_iff]
    intro s hs
    rw [decide_eq_false (fun q => q (h s hs))]
    decide
  rw [this]; rfl
theorem mem_sts {s : Nat} : ∀ {K : List De}, s ∈ sts K → ∃ d ∈ K, s = msk d
  | [], h => by cases h
  | d :: K, h => by
    cases d with
    | mv m => obtain ⟨e, a, b⟩ := mem_sts (K := K) h; exact ⟨e, List.mem_cons_of_mem _ a, b⟩
    | look x =>
      rcases List.mem_cons.mp h with e | h
      · exact ⟨_, List.mem_cons_self, e⟩
      · obtain ⟨e, a, b⟩ := mem_sts (K := K) h; exact ⟨e, List.mem_cons_of_mem _ a, b⟩
    | ask r ns =>
      rcases List.mem_cons.mp h with e | h
      · exact ⟨_, List.mem_cons_self, e⟩
      · obtain ⟨e, a, b⟩ := mem_sts (K := K) h; exact ⟨e, List.mem_cons_of_mem _ a, b⟩
    | when n r =>
      rcases List.mem_cons.mp h with e | h
      · exact ⟨_, List.mem_cons_self, e⟩
      · obtain ⟨e, a, b⟩ := mem_sts (K := K) h; exact ⟨e, List.mem_cons_of_mem _ a, b⟩
/-- a step of trimming keeps the stops and the counts -/
theorem trim_counts {w N : Nat} {K : List De} (hK : ∀ (i : Nat) d, K[i]? = some d → d.On w N) {d : De} (hd : d.On w N) : sts (trimS w K d) = sts (K ++ [d]) ∧ ∀ k, val k (cws [] (trimS w K d) k) = val k (cws [] (K ++ [d]) k) := by
  cases d with
  | look k => exact ⟨rfl, fun k => rfl⟩
  | ask r ns => exact ⟨rfl, fun k => rfl⟩
  | when k r => exact ⟨rfl, fun k => rfl⟩
  | mv m =>
    have e0 : trimS w K (.mv m) = if plcN w K m K.length < 0 then K ++ [.mv m] else K.eraseIdx (plcN w K m K.length).toNat := rfl
    rw [e0]
    by_cases h : plcN w K m K.length < 0
    · rw [if_pos h]; exact ⟨rfl, fun k => rfl⟩
    · rw [if_neg h]
      obtain ⟨i0, m0, hi0, e0, hg0, hs0, hc0⟩ := plc_ok K.length (Nat.le_refl _) h
      rw [e0, Int.toNat_natCast]
      obtain ⟨e1, e2⟩ := erase_mid K hg0
      have hno : ∀ s ∈ sts (K.drop (i0 + 1)), s &&& msk (.mv m) = 0 := fun s hs => by
        obtain ⟨d, hd1, rfl⟩ := mem_sts hs
        obtain ⟨j, hj⟩ := List.mem_iff_getElem?.mp hd1
        rw [List.getElem?_drop] at hj
        have h1 := hc0 _ d (by omega) (List.getElem?_eq_some_iff.mp hj).1 hj
        rw [meets_mts (hK _ _ hj) hd] at h1
        unfold mts at h1
        simpa using h1
      rw [e2]
      generalize K.take i0 = K1 at *
      generalize K.drop (i0 + 1) = K2 at *
      rw [e1]
      refine ⟨by rw [sts_app, sts_app, sts_app]; simp [sts], fun k => ?_⟩
      rw [cws_app, cws_app, cws_app, sts_app]
      show val k (cws [] K1 k + cws (sts K1) K2 k) = val k (cws [] K1 k + (ctM (sts K1) m0 k + cws (sts K1) K2 k) + (ctM (sts K1 ++ sts K2) m k + 0))
      obtain ⟨kk, kv⟩ := same_key hs0
      have ea : ctM (sts K1 ++ sts K2) m k = if (kyM m, (ahd (sts K1) (msk (.mv m)) : Int)) = k then sgM m else 0 := by
        unfold ctM; rw [ahd_app _ _ _ hno]
      have eb : ctM (sts K1) m0 k = if (kyM m, (ahd (sts K1) (msk (.mv m)) : Int)) = k then sgM m0 else 0 := by
        unfold ctM; rw [kk, same_msk hs0]
      rw [ea, eb]
      by_cases q : (kyM m, (ahd (sts K1) (msk (.mv m)) : Int)) = k
      · rw [if_pos q, if_pos q, ← q]
        have := kv (ahd (sts K1) (msk (.mv m)) : Int) (cws [] K1 (kyM m, (ahd (sts K1) (msk (.mv m)) : Int)) + cws (sts K1) K2 (kyM m, (ahd (sts K1) (msk (.mv m)) : Int)))
        rw [← this]
        congr 1
        omega
      · rw [if_neg q, if_neg q]
        congr 1
        omega
theorem trim_all {w N : Nat} {ds : List De} (hK : ∀ (i : Nat) d, ds[i]? = some d → d.On w N) :
    ∀ n, n ≤ ds.length → (∀ (i : Nat) d, (trimW w (ds.take n))[i]? = some d → d.On w N) ∧ Tight (trimW w (ds.take n)) ∧ Emb (trimW w (ds.take n)) (ds.take n) ∧ sts (trimW w (ds.take n)) = sts (ds.take n) ∧ ∀ k, val k (cws [] (trimW w (ds.take n)) k) = val k (cws [] (ds.take n) k) := by
  intro n
  induction n with
  | zero =>
    intro _
    exact ⟨fun i d h => by simp [trimW] at h, fun i j m' m _ h => by simp [trimW] at h, .nil, rfl, fun k => rfl⟩
  | succ n ih =>
    intro hn
    obtain ⟨a, b, c, d, e⟩ := ih (by omega)
    have hg := List.getElem?_eq_getElem (l := ds) (i := n) (by omega)
    have et : ds.take (n + 1) = ds.take n ++ [ds[n]] := by rw [List.take_add_one, hg]; rfl
    have e2 : trimW w (ds.take (n + 1)) = trimS w (trimW w (ds.take n)) ds[n] := by unfold trimW; rw [et, List.foldl_append]; rfl
    have hon := hK n _ hg
    rw [e2, et]
    generalize trimW w (ds.take n) = K at *
    generalize ds.take n = D0 at *
    generalize ds[n] = x at *
    obtain ⟨t1, t2⟩ := trim_counts a hon
    refine ⟨?_, trim_tight a b hon, ?_, by rw [t1, sts_app, sts_app, d], fun k => ?_⟩
    · intro i y hy
      have app : (K ++ [x])[i]? = some y → y.On w N := fun h => by
        by_cases q : i < K.length
        · rw [List.getElem?_append_left q] at h; exact a i y h
        · rw [List.getElem?_append_right (by omega)] at h
          have : i - K.length = 0 := by
            apply Classical.byContradiction
            intro z
            obtain ⟨j, hj⟩ : ∃ j, i - K.length = j + 1 := ⟨i - K.length - 1, by omega⟩
            rw [hj] at h; simp at h
          rw [this] at h
          cases h; exact hon
      cases x with
      | look k => exact app hy
      | ask r ns => exact app hy
      | when k r => exact app hy
      | mv m =>
        have hy' : (if plcN w K m K.length < 0 then K ++ [.mv m] else K.eraseIdx (plcN w K m K.length).toNat)[i]? = some y := hy
        split at hy'
        · exact app hy'
        · have := List.mem_of_mem_eraseIdx (List.mem_of_getElem? hy')
          obtain ⟨j, hj⟩ := List.mem_iff_getElem?.mp this
          exact a j y hj
    · cases x with
      | look k => exact c.snoc _
      | ask r ns => exact c.snoc _
      | when k r => exact c.snoc _
      | mv m =>
        show Emb (if plcN w K m K.length < 0 then K ++ [.mv m] else K.eraseIdx (plcN w K m K.length).toNat) _
        split
        · exact c.snoc _
        · rename_i h
          obtain ⟨i0, m0, hi0, e0, hg0, hs0, hc0⟩ := plc_ok K.length (Nat.le_refl _) h
          rw [e0, Int.toNat_natCast]
          obtain ⟨e1, e2⟩ := erase_mid K hg0
          rw [e2]
          rw [e1] at c
          exact c.erase.snocM m
    · rw [t2 k, cws_app, cws_app, List.nil_append, List.nil_append, d]
      exact val_add (e k) _
/-! tables with keys of two levels -/
theorem getN_mem {kvs : List (NK × Int)} (h : (kvs.map (·.1)).Nodup) (k : NK) (v : Int) : getN kvs k = some v ↔ (k, v) ∈ kvs := by
  induction kvs with
  | nil => simp [getN]
  | cons p r ih =>
    rw [List.map_cons, List.nodup_cons] at h
    by_cases e : p.1 = k
    · have a1 : getN (p :: r) k = some p.2 := by simp [getN, List.find?_cons, e]
      rw [a1]
      constructor
      · intro q; cases q; rw [← e]; exact List.mem_cons_self
      · intro q
        rcases List.mem_cons.mp q with q | q
        · rw [← q]
        · exact absurd (List.mem_map.mpr ⟨_, q, rfl⟩) (by rw [← e]; exact h.1)
    · have a1 : getN (p :: r) k = getN r k := by simp [getN, List.find?_cons, e]
      rw [a1, ih h.2, List.mem_cons]
      exact ⟨.inr, fun q => q.elim (fun q => absurd (by rw [← q]) e) id⟩
theorem getN_none {kvs : List (NK × Int)} (k : NK) : getN kvs k = none ↔ k ∉ kvs.map (·.1) := by
  induction kvs with
  | nil => simp [getN]
  | cons p r ih =>
    by_cases e : p.1 = k
    · have a1 : getN (p :: r) k = some p.2 := by simp [getN, List.find?_cons, e]
      rw [a1]; simp [e]
    · have a1 : getN (p :: r) k = getN r k := by simp [getN, List.find?_cons, e]
      rw [a1, ih, List.map_cons, List.mem_cons]
      exact ⟨fun q z => z.elim (fun z => e z.symm) q, fun q z => q (.inr z)⟩
theorem sameN_of {kvs lvs : List (NK × Int)} (h1 : (kvs.map (·.1)).Nodup) (h2 : (lvs.map (·.1)).Nodup) (h : ∀ k, getN kvs k = getN lvs k) : sameN kvs lvs := by
  have nd : ∀ {l : List (NK × Int)}, (l.map (·.1)).Nodup → l.Nodup := fun {l} h => by
    unfold List.Nodup at h ⊢
    rw [List.pairwise_map] at h
    exact h.imp fun q e => q (by rw [e])
  have pm : kvs.Perm lvs := (List.perm_ext_iff_of_nodup (nd h1) (nd h2)).mpr fun p => by
    obtain ⟨k, v⟩ := p
    rw [← getN_mem h1, ← getN_mem h2, h]
  exact ⟨pm.length_eq, fun p hp => by rw [← h]; exact (getN_mem h1 p.1 p.2).mpr hp⟩
theorem setN_get (kvs : List (NK × Int)) (k j : NK) (v : Int) : getN (setN kvs k v) j = if j = k then some v else getN kvs j := by
  unfold setN
  have rep : ∀ l : List (NK × Int), getN (l.map fun kv => if kv.1 = k then (kv.1, v) else kv) j = if j = k then (getN l j).map (fun _ => v) else getN l j := fun l => by
    induction l with
    | nil => simp [getN]
    | cons p r ih =>
      rw [List.map_cons]
      by_cases e : p.1 = k
      · rw [if_pos e]
        by_cases q : p.1 = j
        · have qj : j = k := q.symm.trans e
          simp [getN, List.find?_cons, q, qj]
        · have a1 : ∀ x, getN ((p.1, x) :: r) j = getN r j := fun x => by simp [getN, List.find?_cons, q]
          have a2 : ∀ r' : List (NK × Int), getN ((p.1, v) :: r') j = getN r' j := fun r' => by simp [getN, List.find?_cons, q]
          have a3 : getN (p :: r) j = getN r j := by simp [getN, List.find?_cons, q]
          rw [a2, a3, ih]
      · rw [if_neg e]
        by_cases q : p.1 = j
        · have qj : ¬ j = k := fun z => e (q.trans z)
          have a2 : ∀ r' : List (NK × Int), getN (p :: r') j = some p.2 := fun r' => by simp [getN, List.find?_cons, q]
          rw [a2, a2, if_neg qj]
        · have a2 : ∀ r' : List (NK × Int), getN (p :: r') j = getN r' j := fun r' => by simp [getN, List.find?_cons, q]
          rw [a2, a2, ih]
  by_cases h : (kvs.any fun kv => decide (kv.1 = k)) = true
  · rw [if_pos h, rep]
    by_cases e : j = k
    · rw [if_pos e, if_pos e]
      rw [getN_any] at h
      subst e
      obtain ⟨x, hx⟩ := Option.isSome_iff_exists.mp h
      rw [hx]; rfl
    · rw [if_neg e, if_neg e]
  · rw [if_neg h]
    rw [getN_any] at h
    have hn : getN kvs k = none := by cases q : getN kvs k with
      | none => rfl
      | some x => rw [q] at h; exact absurd rfl h
    have app : ∀ l : List (NK × Int), getN (l ++ [(k, v)]) j = (getN l j).or (if j = k then some v else none) := fun l => by
      induction l with
      | nil =>
        by_cases e : k = j
        · simp [getN, List.find?_cons, e]
        · have : ¬ j = k := fun z => e z.symm
          simp [getN, List.find?_cons, e, this]
      | cons p r ih =>
        by_cases q : p.1 = j
        · simp [getN, List.find?_cons, q]
        · have a2 : ∀ r' : List (NK × Int), getN (p :: r') j = getN r' j := fun r' => by simp [getN, List.find?_cons, q]
          rw [List.cons_append, a2, a2, ih]
    rw [app]
    by_cases e : j = k
    · subst e; rw [hn, if_pos rfl]; rfl
    · rw [if_neg e, if_neg e]; cases getN kvs j <;> rfl
theorem setN_nodup {kvs : List (NK × Int)} (h : (kvs.map (·.1)).Nodup) (k : NK) (v : Int) : ((setN kvs k v).map (·.1)).Nodup := by
  unfold setN
  by_cases q : (kvs.any fun kv => decide (kv.1 = k)) = true
  · rw [if_pos q, List.map_map]
    have e : ((fun x : NK × Int => x.1) ∘ fun kv => if kv.1 = k then (kv.1, v) else kv) = fun x : NK × Int => x.1 := by
      funext x; simp only [Function.comp]; split <;> rfl
    rw [e]; exact h
  · rw [if_neg q, List.map_append]
    rw [getN_any] at q
    have hn : getN kvs k = none := by cases z : getN kvs k with
      | none => rfl
      | some x => rw [z] at q; exact absurd rfl q
    rw [List.nodup_append]
    refine ⟨h, by simp, fun a ha b hb => ?_⟩
    have hb' : b = k := by simpa using hb
    intro e
    exact (getN_none k).mp hn (by rw [← hb', ← e]; exact ha)
theorem setN_keys {kvs : List (NK × Int)} {P : NK → Prop} (h : ∀ p ∈ kvs, P p.1) {k : NK} (hk : P k) (v : Int) : ∀ p ∈ setN kvs k v, P p.1 := by
  unfold setN
  intro p hp
  split at hp
  · obtain ⟨x, hx, rfl⟩ := List.mem_map.mp hp
    split
    · exact h x hx
    · exact h x hx
  · rcases List.mem_append.mp hp with q | q
    · exact h p q
    · rw [List.mem_singleton.mp q]; exact hk
theorem idx4 (m : Nat) (a b c d : D) (Q : D → Prop) (h : ∀ x, x = a ∨ x = b ∨ x = c ∨ x = d → Q x) : ∃ y, L2.atI [a, b, c, d] ((m : Int) % 4) = some y ∧ Q y := by
  have e : (m : Int) % 4 = ((m % 4 : Nat) : Int) := by omega
  rw [e, at_nat]
  rcases (show m % 4 = 0 ∨ m % 4 = 1 ∨ m % 4 = 2 ∨ m % 4 = 3 by omega) with z | z | z | z <;> rw [z]
  · exact ⟨_, rfl, h _ (.inl rfl)⟩
  · exact ⟨_, rfl, h _ (.inr (.inl rfl))⟩
  · exact ⟨_, rfl, h _ (.inr (.inr (.inl rfl)))⟩
  · exact ⟨_, rfl, h _ (.inr (.inr (.inr rfl)))⟩
theorem lrow_ok (c : Int) (w : Nat) (hw : w ≤ 40) (G : Gp) (Q : K1) (h : ∀ (r : Row) G', r.On w → r.straight = true → Ext G G' → Q r.d G') : m_law_row [.int c, .int w] G Q := by
  refine ⟨rfl, ?_⟩
  unfold d_law_row
  have hb0 : 0 < 2 ^ w := Nat.pow_pos (by decide)
  have i0 : (0 : Int) < ((2 ^ w : Nat) : Int) := by omega
  have m0 : 0 ≤ c % 1000000000000000000000000000000 := Int.emod_nonneg _ (by decide)
  have m1 : c % 1000000000000000000000000000000 < 1000000000000000000000000000000 := Int.emod_lt_of_pos _ (by decide)
  obtain ⟨m, hm⟩ := Int.eq_ofNat_of_zero_le m0
  have hml : m < 1000000000000000000000000000000 := by omega
  have q1 : IntMulOk (m : Int) (m : Int) := mul_ok (a := 100) (b := 100) (by omega) (by omega) (by decide)
  have q2 : IntMulOk (48271 : Int) (m : Int) := mul_l (by decide)
  have q3 : IntMulOk (m : Int) (69621 : Int) := mul_r (by decide)
  have q4 : IntMulOk ((m : Int) / 1009) (31 : Int) := mul_r (by decide)
  refine cut_at M_law_row (fun e g => g = G ∧ e = [some (.int c), some (.int w), some (.int m), none, none, none, none]) ?_ ?_
  · row_walk with ⟨hm⟩
  rintro e g ⟨rfl, rfl⟩
  have bnd : ∀ (A : Int) (x : D) (k : Nat → Prop), 0 ≤ A → (x = .int 1 ∨ x = .int 0 ∨ x = .int 512) → (∀ n, n < 2 ^ w → k n) → ∃ v : Int, x = .int v ∧ IntMulOk A v ∧ ∃ n, A * v % ((2 ^ w : Nat) : Int) = ((n : Nat) : Int) ∧ k n := by
    intro A x k hA hx hk
    have hx : ∃ v : Int, x = .int v ∧ (v = 1 ∨ v = 0 ∨ v = 512) := by
      rcases hx with rfl | rfl | rfl
      · exact ⟨1, rfl, .inl rfl⟩
      · exact ⟨0, rfl, .inr (.inl rfl)⟩
      · exact ⟨512, rfl, .inr (.inr rfl)⟩
    obtain ⟨v, rfl, hv⟩ := hx
    have p1 := Int.emod_nonneg (A * v) (show ((2 ^ w : Nat) : Int) ≠ 0 by omega)
    have p2 := Int.emod_lt_of_pos (A * v) i0
    refine ⟨v, rfl, mul_r (by omega), (A * v % ((2 ^ w : Nat) : Int)).toNat, by omega, hk _ (by omega)⟩
  refine cut_at M_law_row (fun e g' => ∃ x : Nat, x < 2 ^ w ∧ Ext g g' ∧ e = [some (.int c), some (.int w), some (.int m), some (.int x), none, none, none]) ?_ ?_
  · row_walk with ⟨q1, q2⟩
    intro p hp
    obtain ⟨G1, e1, hE1, b1⟩ := new_heap g p (.lst [D.int 1, D.int 1, D.int 0, D.int 512]) hp
    rw [e1]
    row_walk with ⟨b1⟩
    refine idx4 m _ _ _ _ _ fun x hx => ?_
    obtain ⟨v, rfl, hmul, n, hn, hk⟩ := bnd (((m : Int) * m + 48271 * m + 7) % 2147483647) x (fun n => n < 2 ^ w) (Int.emod_nonneg _ (by decide)) (by rcases hx with z | z | z | z <;> simp [z]) fun n hn => hn
    row_walk with ⟨hmul, pw2, hn⟩
    exact ⟨by omega, by omega, n, hk, hE1, rfl⟩
  rintro e G1 ⟨x, hx, hE1, rfl⟩
  refine cut_at M_law_row (fun e g' => ∃ z : Nat, z < 2 ^ w ∧ Ext g g' ∧ e = [some (.int c), some (.int w), some (.int m), some (.int x), some (.int z), none, none]) ?_ ?_
  · row_walk with ⟨q3, q4⟩
    intro p hp
    obtain ⟨G2, e2, hE2, b2⟩ := new_heap G1 p (.lst [D.int 1, D.int 0, D.int 1, D.int 512]) hp
    rw [e2]
    row_walk with ⟨b2⟩
    refine idx4 m _ _ _ _ _ fun y hy => ?_
    obtain ⟨v, rfl, hmul, n, hn, hk⟩ := bnd (((m : Int) * 69621 + (m : Int) / 1009 * 31 + 11) % 2147483629) y (fun n => n < 2 ^ w) (Int.emod_nonneg _ (by decide)) (by rcases hy with z | z | z | z <;> simp [z]) fun n hn => hn
    row_walk with ⟨hmul, pw2, hn⟩
    exact ⟨by omega, by omega, n, hk, hE1.trans hE2, rfl⟩
  rintro e G2 ⟨z, hz, hE2, rfl⟩
  have hxz : x &&& z < 2 ^ w := and_small hx
  walk_at "ev"
  refine ⟨small_nat (by omega), fun p hp => ?_⟩
  refine lc_extT M_law_row hp (fun i ys => ys.length = cnt (x &&& z) i) (fun _ _ => trivial) rfl ?_ (by rw [rngD_len]; omega) ?_
  · rintro i d ys G' hd hE hy
    obtain ⟨rfl, hi⟩ := rng_get hd
    row_walk with ⟨bit_and⟩
    have hb := bt_lt (x &&& z) i
    refine ⟨Ext.rfl, ?_⟩
    rw [cnt_bt]
    by_cases h1 : bt (x &&& z) i = 1
    · row_walk with ⟨h1⟩
      exact ⟨Ext.rfl, by simp [hy]⟩
    · rw [if_neg (by omega), hy]; omega
  · rintro ys G3 hy hyl hE3 b3
    rw [rngD_len] at hy
    rw [pop_small hxz] at hy
    have q5 : IntMulOk (2 : Int) ((m : Int) / 4 % 2) := mul_l (by decide)
    row_walk with ⟨b3, hy, q5⟩
    exact h ⟨(pop (x &&& z) + 2 * (m / 4 % 2)) % 4, x, z⟩ G3 ⟨Nat.mod_lt _ (by decide), hx, hz⟩ (by unfold Row.straight; simp only [decide_eq_true_eq]; omega) (hE2.trans hE3)
theorem names_at (L : List Str) (i : Int) (n : Nat) (hn : n = L.length) (h0 : 0 ≤ i) (h1 : i < n) (Q : D → Prop) (h : ∀ s ∈ L, Q (.str s)) : ∃ y, L2.atI (L.map D.str) i = some y ∧ Q y := by
  obtain ⟨k, rfl⟩ := Int.eq_ofNat_of_zero_le h0
  have hk : k < L.length := by omega
  rw [at_nat, List.getElem?_map, List.getElem?_eq_getElem hk]
  exact ⟨_, rfl, h _ (List.getElem_mem hk)⟩
theorem ldeed_ok (c : Int) (w L : Nat) (h1 : 1 ≤ w) (hw : w ≤ 40) (hL : L ≤ 1000) (G : Gp) (Q : K1) (h : ∀ (d : De) (G' : Gp), d.On w L → Ext G G' → Q d.d G') : m_law_deed [.int c, .int w, .int L] G Q := by
  refine ⟨rfl, ?_⟩
  unfold d_law_deed
  have w0 : (0 : Int) < w := by omega
  have m0 : 0 ≤ c % 1000000000000000000000000000000 := Int.emod_nonneg _ (by decide)
  have m1 : c % 1000000000000000000000000000000 < 1000000000000000000000000000000 := Int.emod_lt_of_pos _ (by decide)
  obtain ⟨m, hm⟩ := Int.eq_ofNat_of_zero_le m0
  have hml : m < 1000000000000000000000000000000 := by omega
  let ALL : List Str := ["mix", "quarter", "back", "flip", "sign", "look", "ask", "when", "join", "both", "swap"]
  refine cut_at M_law_deed (fun e g => g = G ∧ e = [some (.int c), some (.int w), some (.int L), some (.int m), none, none, none, none, none]) ?_ ?_
  · row_walk with ⟨hm⟩
  rintro e g ⟨rfl, rfl⟩
  refine cut_at M_law_deed (fun e g' => ∃ p, Ext g g' ∧ g' p = some (.lst (ALL.map D.str)) ∧ e = [some (.int c), some (.int w), some (.int L), some (.int m), some (.ref p), none, none, none, none]) ?_ ?_
  · walk_at "ev"
    exact fun p hp => ⟨p, Ext.rfl.new hp _, gup_same, rfl⟩
  rintro e G1 ⟨p, hE1, hp, rfl⟩
  have nm8 : ∀ s ∈ ALL.take 8, s ∈ ALL := fun s hs => List.mem_of_mem_take hs
  refine cut_at M_law_deed (fun e g' => ∃ s, s ∈ ALL ∧ g' = G1 ∧ e = [some (.int c), some (.int w), some (.int L), some (.int m), some (.ref p), some (.str s), none, none, none]) ?_ ?_
  · row_walk with ⟨hp⟩
    refine names_at ALL _ 11 rfl (by omega) (by omega) _ fun s hs => ?_
    walk_at "ev"
    exact ⟨s, hs, rfl⟩
  rintro e g2 ⟨s0, hs0, rfl, rfl⟩
  refine cut_at M_law_deed (fun e g' => ∃ s, s ∈ ALL ∧ ((w : Int) = 1 → s ∈ ALL.take 8) ∧ g' = g2 ∧ e = [some (.int c), some (.int w), some (.int L), some (.int m), some (.ref p), some (.str s), none, none, none]) ?_ ?_
  · walk_at "ev"
    split
    · row_walk with ⟨hp⟩
      have e8 : ∀ i : Int, 0 ≤ i → i < 8 → L2.atI (ALL.map D.str) i = L2.atI ((ALL.take 8).map D.str) i := fun i a b => by
        obtain ⟨k, rfl⟩ := Int.eq_ofNat_of_zero_le a
        rw [at_nat, at_nat]
        rcases (show k = 0 ∨ k = 1 ∨ k = 2 ∨ k = 3 ∨ k = 4 ∨ k = 5 ∨ k = 6 ∨ k = 7 by omega) with rfl | rfl | rfl | rfl | rfl | rfl | rfl | rfl <;> rfl
      rw [e8 _ (by omega) (by omega)]
      refine names_at (ALL.take 8) _ 8 rfl (by omega) (by omega) _ fun s hs => ?_
      walk_at "ev"
      exact ⟨s, nm8 s hs, fun _ => hs, rfl⟩
    · rename_i q
      exact ⟨s0, hs0, fun e => absurd e q, rfl⟩
  rintro e g3 ⟨s1, hs1, hw1, rfl, rfl⟩
  refine cut_at M_law_deed (fun e g' => ∃ s, s ∈ ALL ∧ ((w : Int) = 1 → s ∈ ALL.take 8) ∧ (s = "when" → 0 < L) ∧ g' = g3 ∧ e = [some (.int c), some (.int w), some (.int L), some (.int m), some (.ref p), some (.str s), none, none, none]) ?_ ?_
  · walk_at "ev"
    by_cases q1 : s1 = "when"
    · by_cases q2 : (L : Int) = 0
      · row_walk with ⟨q1, q2⟩
        exact ⟨"mix", by decide, fun _ => by decide, fun z => absurd z (by decide), rfl⟩
      · row_walk with ⟨q1, q2⟩
        exact ⟨s1, hs1, hw1, fun _ => by omega, by rw [q1]⟩
    · row_walk with ⟨q1⟩
      exact ⟨_, hs1, hw1, fun z => absurd z q1, rfl⟩
  rintro e g4 ⟨s, hs, hw1, hwh, rfl, rfl⟩
  have q1 : IntMulOk (m : Int) 7919 := mul_r (by decide)
  have o1 := Int.emod_nonneg ((m : Int) * 7919 % 10007) (Int.ne_of_gt w0)
  have o2 := Int.emod_lt_of_pos ((m : Int) * 7919 % 10007) w0
  obtain ⟨one, ho⟩ := Int.eq_ofNat_of_zero_le o1
  have hol : one < w := by omega
  refine cut_at M_law_deed (fun e g' => g' = g4 ∧ e = [some (.int c), some (.int w), some (.int L), some (.int m), some (.ref p), some (.str s), some (.int one), none, none]) ?_ ?_
  · row_walk with ⟨q1, ho⟩
    omega
  rintro e g5 ⟨rfl, rfl⟩
  have hE := hE1
  have f1 : ∀ (n : N1), s = n.s → Q (.tup [.str s, .int one]) g5 := fun n e => by rw [e]; exact h (.mv (.one n one)) g5 hol hE
  have f2 : ∀ (n : N2) (x : Nat), s = n.s → x < w → one ≠ x → Q (.tup [.str s, .int one, .int x]) g5 := fun n x e a b => by rw [e]; exact h (.mv (.two n one x)) g5 ⟨hol, a, b⟩ hE
  have q6 : IntMulOk (m : Int) 104729 := mul_r (by decide)
  have two : ∀ n : N2, s = n.s → (w : Int) ≠ 1 → 0 < (w : Int) - 1 ∧ 0 < (w : Int) ∧ Q (.tup [.str s, .int one, .int (((one : Int) + 1 + (m : Int) * 104729 % 99991 % ((w : Int) - 1)) % (w : Int))]) g5 := by
    intro n e hne
    have l3 := Int.emod_lt_of_pos ((m : Int) * 104729 % 99991) (show (0 : Int) < w - 1 by omega)
    have l4 := Int.emod_nonneg ((m : Int) * 104729 % 99991) (show (w : Int) - 1 ≠ 0 by omega)
    obtain ⟨y, hy⟩ := Int.eq_ofNat_of_zero_le l4
    obtain ⟨a1, a2, a3⟩ := oth (a := (one : Int)) (r := (y : Int)) (w := (w : Int)) (by omega) (by omega) (by omega) (by omega)
    refine ⟨by omega, by omega, ?_⟩
    rw [hy]
    obtain ⟨x, hx⟩ := Int.eq_ofNat_of_zero_le a1
    rw [hx]
    exact f2 n x e (by omega) (by omega)
  have big : ∀ t : Str, t ∈ ALL → t ∉ ALL.take 8 → s = t → (w : Int) ≠ 1 := fun t _ ht e z => ht (e ▸ hw1 z)
  simp only [ALL, List.mem_cons, List.not_mem_nil, or_false] at hs
  rcases hs with z | z | z | z | z | z | z | z | z | z | z
  · row_walk with ⟨z⟩; have := f1 .mix z; rwa [z] at this
  · row_walk with ⟨z⟩; have := f1 .quarter z; rwa [z] at this
  · row_walk with ⟨z⟩; have := f1 .back z; rwa [z] at this
  · row_walk with ⟨z⟩; have := f1 .flip z; rwa [z] at this
  · row_walk with ⟨z⟩; have := f1 .sign z; rwa [z] at this
  · row_walk with ⟨z⟩; exact h (.look one) g5 hol hE
  · have q2 : IntMulOk ((m : Int) / 11) 48271 := mul_r (by decide)
    row_walk with ⟨z, q2⟩
    refine ⟨small_nat (by omega), fun p' hp' => ?_⟩
    have b0 : 0 ≤ (m : Int) / 11 * 48271 % 2147483647 := Int.emod_nonneg _ (by decide)
    obtain ⟨B, hB⟩ := Int.eq_ofNat_of_zero_le b0
    refine lc_extT M_law_deed hp' (fun i ys => ∃ ns : List Nat, ys = ns.map (fun n => D.int ((n : Nat) : Int)) ∧ ∀ j ∈ ns, j < i) (fun _ _ => trivial) ⟨[], rfl, by simp⟩ ?_ (by rw [rngD_len]; omega) ?_
    · rintro i d ys G' hi hE' ⟨ns, rfl, hns⟩
      obtain ⟨rfl, hj⟩ := rng_get hi
      have ei : (i : Int) % 30 = ((i % 30 : Nat) : Int) := by omega
      row_walk with ⟨q2, hB, ei, bit_and⟩
      refine ⟨Ext.rfl, ?_⟩
      split
      · refine ⟨Ext.rfl, ns ++ [i], by simp, fun j hj => ?_⟩
        rcases List.mem_append.mp hj with z | z
        · have := hns j z; omega
        · rw [List.mem_singleton.mp z]; omega
      · exact ⟨ns, rfl, fun j hj => by have := hns j hj; omega⟩
    · rintro ys G2 ⟨ns, rfl, hns⟩ _ hE2 b
      rw [rngD_len] at hns
      row_walk with ⟨z⟩
      refine lrow_ok _ w hw _ _ fun r G3 hr hst hE3 => ?_
      row_walk with ⟨hE3 _ _ b⟩
      exact h (.ask r ns) G3 ⟨hr, hst, hns⟩ (hE.trans (hE2.trans hE3))
  · have l0 := hwh z
    have i0 : (0 : Int) < L := by omega
    have p1 := Int.emod_nonneg ((m : Int) * 7919 % 10009) (Int.ne_of_gt i0)
    have p2 := Int.emod_lt_of_pos ((m : Int) * 7919 % 10009) i0
    obtain ⟨n, hn⟩ := Int.eq_ofNat_of_zero_le p1
    row_walk with ⟨z, q1, hn⟩
    refine ⟨by omega, ?_⟩
    refine lrow_ok _ w hw _ _ fun r G3 hr hst hE3 => ?_
    walk_at "ev"
    exact h (.when n r) G3 ⟨by omega, hr⟩ (hE.trans hE3)
  · obtain ⟨a1, a2, a3⟩ := two .join z (big "join" (by decide) (by decide) z)
    rw [z] at a3
    row_walk with ⟨z, q6⟩
    exact ⟨a1, a2, a3⟩
  · obtain ⟨a1, a2, a3⟩ := two .both z (big "both" (by decide) (by decide) z)
    rw [z] at a3
    row_walk with ⟨z, q6⟩
    exact ⟨a1, a2, a3⟩
  · obtain ⟨a1, a2, a3⟩ := two .swap z (big "swap" (by decide) (by decide) z)
    rw [z] at a3
    row_walk with ⟨z, q6⟩
    exact ⟨a1, a2, a3⟩
/-- what undoes a move, perhaps told the other way round -/
def bkM : Mv → Bool → Mv
  | .one .quarter a, _ => .one .back a
  | .one .back a, _ => .one .quarter a
  | .one n a, _ => .one n a
  | .two .join a b, _ => .two .join a b
  | .two n a b, true => .two n b a
  | .two n a b, false => .two n a b
theorem bkM_on {m : Mv} {w : Nat} (h : m.On w) (b : Bool) : (bkM m b).On w := by
  cases m with
  | one n a => cases n <;> exact h
  | two n a c =>
    have h' : c < w ∧ a < w ∧ c ≠ a := ⟨h.2.1, h.1, Ne.symm h.2.2⟩
    cases n <;> cases b <;> first | exact h | exact h'
theorem lback_ok (m : Mv) (b : Bool) (G : Gp) (Q : K1) (h : Q (bkM m b).d G) : m_law_back [m.d, .bl b] G Q := by
  refine ⟨rfl, ?_⟩
  unfold d_law_back
  cases m with
  | one n a => cases n <;> simp only [Mv.d, N1.s] <;> walk_at "ev" <;> exact h
  | two n a c => cases n <;> cases b <;> simp only [Mv.d, N2.s] <;> walk_at "ev" <;> exact h
theorem at_back {xs : List D} {k : Nat} (h1 : 1 ≤ k) (h2 : k ≤ xs.length) : ∃ i : Nat, i < xs.length ∧ L2.atI xs (0 - (k : Int)) = xs[i]? := by
  refine ⟨xs.length - k, by omega, ?_⟩
  unfold L2.atI L2.ixN
  rw [if_neg (by omega), if_pos (by omega)]
  have : (0 - (k : Int) + xs.length).toNat = xs.length - k := by omega
  rw [this]; rfl
theorem lword_ok (pc : Addr) (w : Nat) (h1 : 1 ≤ w) (hw : w ≤ 40) (cs : List D) (hcs : ∀ (i : Nat) d, cs[i]? = some d → ∃ z, d = .int z) (hl : cs.length ≤ 64) (G : Gp) (Q : K1) (hp : G pc = some (.lst cs))
    (h : ∀ p ds G', ds.length = cs.length → WdOn w 0 ds → Ext G G' → G' p = some (.lst (ds.map De.d)) → Q (.ref p) G') : m_law_word [.ref pc, .int w] G Q := by
  refine ⟨rfl, ?_⟩
  unfold d_law_word
  walk_at "ev"
  intro p hpn
  have npc : pc ≠ p := fun z => by rw [z, hpn] at hp; cases hp
  row_walk with ⟨gup_ne npc, hp⟩
  refine for_by M_law_word (fun i env G' => ∃ ds : List De, ds.length = i ∧ WdOn w 0 ds ∧ Ext G G' ∧ G' p = some (.lst (ds.map De.d)) ∧ Has env [some (.ref pc), some (.int w), some (.ref p), some (.int (lks ds)), none, none, none, none]) ?_ ?_ ?_ ?_
  · exact ⟨[], rfl, trivial, Ext.rfl.new hpn _, gup_same, by walk_at "ev"; try rfl⟩
  · rintro i env G' ⟨ds, _, _, hE, _, _⟩
    exact hE _ _ hp
  · rintro i d0 env G' hd ⟨ds, hlen, hW, hE, hq, he⟩
    obtain ⟨os, rfl⟩ := he.inv
    obtain ⟨z, rfl⟩ := hcs i d0 hd
    have hi : i < cs.length := (List.getElem?_eq_some_iff.mp hd).1
    have hlk := lks_le ds
    show setT _ _ _ _
    walk_at "st"
    obtain ⟨m, hm⟩ : ∃ m : Int, z % 1000000000000000000000000000000 = m := ⟨_, rfl⟩
    refine cut_at M_law_word (fun e g => g = G' ∧ e = [some (.ref pc), some (.int w), some (.ref p), some (.int (lks ds)), some (.int z), some (.int m), os 2, os 3]) ?_ ?_
    · row_walk with ⟨hm⟩
    rintro e g ⟨rfl, rfl⟩
    refine cut_at M_law_word (fun e g' => ∃ d : De, d.On w (lks ds) ∧ Ext g g' ∧ e = [some (.ref pc), some (.int w), some (.ref p), some (.int (lks ds)), some (.int z), some (.int m), some d.d, os 3]) ?_ ?_
    · walk_at "ev"
      refine ldeed_ok _ w (lks ds) h1 hw (by omega) _ _ fun d G1 hon hE1 => ?_
      walk_at "ev"
      exact ⟨d, hon, hE1, rfl⟩
    rintro e G1 ⟨d, hon, hE1, rfl⟩
    have hq1 := hE1 _ _ hq
    refine cut_at M_law_word (fun e g' => ∃ (d : De) (o : Option DL.D), d.On w (lks ds) ∧ g' = G1 ∧ e = [some (.ref pc), some (.int w), some (.ref p), some (.int (lks ds)), some (.int z), some (.int m), some d.d, o]) ?_ ?_
    · by_cases qa : m % 2 = 1
      case neg =>
        row_walk with ⟨qa⟩
        exact ⟨d, _, hon, rfl⟩
      by_cases qb : 0 < ds.length
      case neg =>
        have qb' : ¬ (0 : Int) < (ds.length : Int) := by omega
        row_walk with ⟨hq1, List.length_map, qa, qb'⟩
        exact ⟨d, _, hon, rfl⟩
      · have qb' : (0 : Int) < (ds.length : Int) := by omega
        row_walk with ⟨hq1, List.length_map, qa, qb'⟩
        obtain ⟨k, hk, hk2, hk3⟩ : ∃ k : Nat, (if 1 + m / 2 % 4 < (ds.length : Int) then 1 + m / 2 % 4 else (ds.length : Int)) = (k : Int) ∧ 1 ≤ k ∧ k ≤ ds.length := by
          have a := Int.emod_nonneg (m / 2) (show (4 : Int) ≠ 0 by decide)
          split
          · exact ⟨(1 + m / 2 % 4).toNat, by omega, by omega, by omega⟩
          · exact ⟨ds.length, rfl, by omega, Nat.le_refl _⟩
        obtain ⟨j, hj, ej⟩ := at_back (xs := ds.map De.d) (k := k) hk2 (by rw [List.length_map]; exact hk3)
        rw [List.length_map] at hj
        have hg := List.getElem?_eq_getElem hj
        have hgo := hW.get hg
        rw [hk, ej, List.getElem?_map, hg]
        refine ⟨_, rfl, ?_⟩
        generalize ds[j] = old at *
        cases old with
        | look a => simp only [De.d]; walk_at "ev"; exact ⟨d, _, hon, rfl⟩
        | ask r ns => simp only [De.d]; walk_at "ev"; exact ⟨d, _, hon, rfl⟩
        | «when» n r => simp only [De.d]; walk_at "ev"; exact ⟨d, _, hon, rfl⟩
        | mv mo =>
          have key : ∀ (b : Bool) (Q : K1), (∀ m' : Mv, m'.On w → Q m'.d G1) → m_law_back [mo.d, .bl b] G1 Q := fun b Q h => lback_ok mo b G1 Q (h _ (bkM_on hgo b))
          have fin : ∀ m' : Mv, m'.On w → ∃ (d : De) (o : Option DL.D), d.On w (lks ds) ∧ G1 = G1 ∧ [some (D.ref pc), some (.int w), some (.ref p), some (.int (lks ds)), some (.int z), some (.int m), some m'.d, some mo.d] = [some (.ref pc), some (.int w), some (.ref p), some (.int (lks ds)), some (.int z), some (.int m), some d.d, o] :=
            fun m' hm' => ⟨.mv m', _, hm', rfl, rfl⟩
          cases mo with
          | one n a => cases n <;> simp only [De.d, Mv.d, N1.s] at key fin ⊢ <;> walk_at "ev" <;> refine key _ _ fun m' hm' => ?_ <;> walk_at "ev" <;> exact ⟨.mv m', _, hm', rfl⟩
          | two n a b => cases n <;> simp only [De.d, Mv.d, N2.s] at key fin ⊢ <;> walk_at "ev" <;> refine key _ _ fun m' hm' => ?_ <;> walk_at "ev" <;> exact ⟨.mv m', _, hm', rfl⟩
    rintro e g1 ⟨d, o, hon, rfl, rfl⟩
    refine cut_at M_law_word (fun e g' => g' = g1 ∧ e = [some (.ref pc), some (.int w), some (.ref p), some (.int (lks (ds ++ [d]))), some (.int z), some (.int m), some d.d, o]) ?_ ?_
    · have el : ((lks (ds ++ [d]) : Nat) : Int) = (lks ds : Nat) + (if d.isL then 1 else 0) := by rw [lks_app]; simp only [lks]; split <;> omega
      rw [el]
      rcases dnm_is d with ⟨e1, n1 | n1⟩ | ⟨e1, n1, n2⟩
      · row_walk with ⟨de_0, n1, e1⟩
      · row_walk with ⟨de_0, n1, e1⟩
      · row_walk with ⟨de_0, n1, n2, e1, un_inT⟩
        rw [Int.add_zero]
    rintro e g2 ⟨rfl, rfl⟩
    row_walk with ⟨hq1, List.length_map⟩
    refine ⟨by omega, ds ++ [d], by rw [List.length_append, hlen]; rfl, ?_, ?_, ?_⟩
    · rw [WdOn.app]; exact ⟨hW, by simpa using hon, trivial⟩
    · intro a u ha
      rw [gup_ne (ne_of ha hpn)]; exact hE1 _ _ (hE _ _ ha)
    · exact ⟨by rw [List.map_append]; rfl, rfl⟩
  · rintro env G' ⟨ds, hlen, hW, hE, hq, he⟩
    obtain ⟨os, rfl⟩ := he.inv
    walk_at "ev"
    exact h p ds G' hlen hW hE hq
theorem word_eq {G : Gp} {p q : Addr} {ds : List De} (hp : G p = some (.lst (ds.map De.d))) (hq : G q = some (.lst (ds.map De.d))) (k : Bool → Prop) (q' : k false) : wpCmp .NotEq (.ref p) (.ref q) G k :=
  eq_refs hp hq (pds_map (dePd_ok G) ds) (lay_map dePd_lay ds) (Nat.le_trans (depth_map (n := 3) dePd_depth ds) (by decide)) (fun b => k (!b)) q'
theorem word_eqE {G : Gp} {p q : Addr} {ds : List De} (hp : G p = some (.lst (ds.map De.d))) (hq : G q = some (.lst (ds.map De.d))) (k : Bool → Prop) (q' : k true) : wpCmp .Eq (.ref p) (.ref q) G k :=
  eq_refs hp hq (pds_map (dePd_ok G) ds) (lay_map dePd_lay ds) (Nat.le_trans (depth_map (n := 3) dePd_depth ds) (by decide)) k q'
theorem i_nkK {Γ : Gam} (x : E) (env : Ev) (G : Gp) (R : KI) : wpIt Γ (.nk x) env G R = wpE Γ x env G fun d G1 => asR d fun a => onN (G1 a) fun kvs o => R (kvs.map fun p => keyD p.1) (fun G' => G' a = some (.dnt kvs o)) G1 := by simp only [wpIt]
theorem kD_inj : ∀ {a b : List L2.Key}, a.map kD = b.map kD → a = b
  | [], [], _ => rfl
  | [], _ :: _, h => by simp at h
  | _ :: _, [], h => by simp at h
  | x :: a, y :: b, h => by
    simp only [List.map_cons, List.cons.injEq] at h
    rw [kD_inj h.2]
    have : x = y := by
      cases x <;> cases y <;> simp [kD] at h <;> simp [h]
    rw [this]
theorem un_asN (ks : List L2.Key) (i : Int) (k : NK → Prop) : asN (.tup [.tup (ks.map kD), .int i]) k = k (ks, i) := by
  apply propext
  constructor
  · rintro ⟨ks', e, h⟩
    rw [kD_inj e]; exact h
  · intro h; exact ⟨ks, rfl, h⟩
theorem at_mem (L : List D) (i : Int) (h0 : 0 ≤ i) (h1 : i < L.length) (Q : D → Prop) (h : ∀ x ∈ L, Q x) : ∃ y, L2.atI L i = some y ∧ Q y := by
  obtain ⟨k, rfl⟩ := Int.eq_ofNat_of_zero_le h0
  have hk : k < L.length := by omega
  rw [at_nat, List.getElem?_eq_getElem hk]
  exact ⟨_, rfl, h _ (List.getElem_mem hk)⟩
theorem lwires_ok (z : Int) (G : Gp) (Q : K1) (h : ∀ (w : Nat) G', 1 ≤ w → w ≤ 40 → Ext G G' → Q (.int w) G') : m_law_wires [.int z] G Q := by
  refine ⟨rfl, ?_⟩
  unfold d_law_wires
  have m0 : 0 ≤ z % 1000000000000000000000000000000 := Int.emod_nonneg _ (by decide)
  obtain ⟨m, hm⟩ := Int.eq_ofNat_of_zero_le m0
  have q1 : IntMulOk (m : Int) 31 := mul_r (by decide)
  refine cut_at M_law_wires (fun e g => g = G ∧ e = [some (.int z), some (.int m)]) ?_ ?_
  · row_walk with ⟨hm⟩
  rintro e g ⟨rfl, rfl⟩
  row_walk with ⟨q1⟩
  intro p hp
  obtain ⟨G1, e1, hE1, b1⟩ := new_heap g p (.lst [D.int (1 + (m : Int) % 4), D.int (2 + (m : Int) % 3), D.int (1 + (m : Int) % 3), D.int 2, D.int (1 + (m : Int) % 40)]) hp
  rw [e1]
  row_walk with ⟨b1, q1⟩
  refine at_mem _ _ (by omega) (by simp only [List.length_cons, List.length_nil]; omega) _ fun x hx => ?_
  have key : ∀ i : Int, 1 ≤ i → i ≤ 40 → Q (.int i) G1 := fun i a b => by
    obtain ⟨w, rfl⟩ := Int.eq_ofNat_of_zero_le (show 0 ≤ i by omega)
    exact h w G1 (by omega) (by omega) hE1
  simp only [List.mem_cons, List.not_mem_nil, or_false] at hx
  rcases hx with rfl | rfl | rfl | rfl | rfl <;> exact key _ (by omega) (by omega)
theorem lmask_ok (d : De) (G : Gp) (Q : K1) (h : Q (.int ((msk d : Nat) : Int)) G) (w n : Nat) (hd : d.On w n) (hw : w ≤ 1000) : m_law_mask [d.d] G Q := by
  refine ⟨rfl, ?_⟩
  unfold d_law_mask
  have o1 : ∀ a : Nat, Builtin.bitOr 0 (2 ^ a) = ((2 ^ a : Nat) : Int) := fun a => by
    rw [pw2, show (0 : Int) = ((0 : Nat) : Int) from rfl, bOr_nat, Nat.zero_or]
  have o2 : ∀ a b : Nat, Builtin.bitOr (Builtin.bitOr 0 (2 ^ a)) (2 ^ b) = ((2 ^ a ||| 2 ^ b : Nat) : Int) := fun a b => by
    rw [o1, pw2, bOr_nat]
  cases d with
  | ask r ns => simp only [De.d, Row.d]; walk_at "ev"; exact h
  | when j r => simp only [De.d, Row.d]; walk_at "ev"; exact h
  | look a =>
    have ha : a < w := hd
    simp only [De.d]
    walk_at "ev"
    rw [o1]
    exact ⟨by omega, h⟩
  | mv m =>
    cases m with
    | one nm a =>
      have ha : a < w := hd
      cases nm <;> simp only [De.d, Mv.d, N1.s] <;> walk_at "ev" <;> rw [o1] <;> exact ⟨by omega, h⟩
    | two nm a b =>
      have ha : a < w ∧ b < w ∧ a ≠ b := hd
      cases nm <;> simp only [De.d, Mv.d, N2.s] <;> walk_at "ev" <;> rw [o2] <;> exact ⟨by omega, by omega, h⟩
theorem lismove_ok (d : De) (G : Gp) (Q : K1) (h : Q (.bl (grd.isMv d)) G) : m_law_is_move [d.d] G Q := by
  refine ⟨rfl, ?_⟩
  unfold d_law_is_move
  cases d with
  | look k => simp only [De.d]; walk_at "ev"; exact h
  | ask r ns => simp only [De.d]; walk_at "ev"; exact h
  | when k r => simp only [De.d]; walk_at "ev"; exact h
  | mv m =>
    cases m with
    | one n a => cases n <;> simp only [De.d, Mv.d, N1.s] <;> walk_at "ev" <;> exact h
    | two n a b => cases n <;> simp only [De.d, Mv.d, N2.s] <;> walk_at "ev" <;> exact h
theorem lkey_ok (m : Mv) (G : Gp) (Q : K1) (h : Q (.tup ((kyM m).map kD)) G) (w : Nat) (hm : m.On w) (hw : w ≤ 1000) : m_law_key [m.d] G Q := by
  refine ⟨rfl, ?_⟩
  unfold d_law_key
  cases m with
  | one n a =>
    cases n with
    | mix => simp only [Mv.d, N1.s]; walk_at "ev"; refine lmask_ok (.mv (.one .mix a)) _ _ ?_ w 0 hm hw; walk_at "ev"; exact h
    | quarter => simp only [Mv.d, N1.s]; walk_at "ev"; refine lmask_ok (.mv (.one .quarter a)) _ _ ?_ w 0 hm hw; walk_at "ev"; exact h
    | back => simp only [Mv.d, N1.s]; walk_at "ev"; refine lmask_ok (.mv (.one .back a)) _ _ ?_ w 0 hm hw; walk_at "ev"; exact h
    | flip => simp only [Mv.d, N1.s]; walk_at "ev"; refine lmask_ok (.mv (.one .flip a)) _ _ ?_ w 0 hm hw; walk_at "ev"; exact h
    | sign => simp only [Mv.d, N1.s]; walk_at "ev"; refine lmask_ok (.mv (.one .sign a)) _ _ ?_ w 0 hm hw; walk_at "ev"; exact h
  | two n a b =>
    cases n with
    | join => simp only [Mv.d, N2.s]; walk_at "ev"; exact h
    | both => simp only [Mv.d, N2.s]; walk_at "ev"; refine lmask_ok (.mv (.two .both a b)) _ _ ?_ w 0 hm hw; walk_at "ev"; exact h
    | swap => simp only [Mv.d, N2.s]; walk_at "ev"; refine lmask_ok (.mv (.two .swap a b)) _ _ ?_ w 0 hm hw; walk_at "ev"; exact h
theorem bkM_same (m : Mv) (b : Bool) : m.undo.same (bkM m b) = true := by
  cases m with
  | one n a => cases n <;> simp [bkM, Mv.undo, Mv.same]
  | two n a c => cases n <;> cases b <;> simp [bkM, Mv.undo, Mv.same] <;> omega
theorem lorder_ok (pk pd : Addr) (K ds : List De) (hK : K.length ≤ 1000) (hg : grd K ds = some []) (G : Gp) (Q : K1) (hk : G pk = some (.lst (K.map De.d))) (hd : G pd = some (.lst (ds.map De.d))) (h : Q (.bl true) G) : m_law_part_in_order [.ref pk, .ref pd] G Q := by
  refine ⟨rfl, ?_⟩
  unfold d_law_part_in_order
  row_walk with ⟨hd⟩
  refine for_by M_law_part_in_order (fun i env G' => G' = G ∧ ∃ n : Nat, n ≤ K.length ∧ grd (K.drop n) (ds.drop i) = some [] ∧ Has env [some (.ref pk), some (.ref pd), some (.int n), none]) ?_ ?_ ?_ ?_
  · exact ⟨rfl, 0, by omega, hg, by walk_at "ev"; try rfl⟩
  · rintro i env G' ⟨rfl, _⟩
    exact hd
  · rintro i d0 env G' hi ⟨rfl, n, hn, hgi, he⟩
    obtain ⟨os, rfl⟩ := he.inv
    obtain ⟨d, hdi, rfl⟩ := map_get hi
    have hil := (List.getElem?_eq_some_iff.mp hdi).1
    have ed : ds.drop i = d :: ds.drop (i + 1) := by
      rw [List.drop_eq_getElem_cons hil]
      rw [List.getElem?_eq_getElem hil] at hdi
      rw [Option.some.inj hdi]
    rw [ed] at hgi
    show setT _ _ _ _
    by_cases q : n < K.length
    · have ek := List.drop_eq_getElem_cons q
      have hKn : (K.map De.d)[n]? = some (K[n]).d := by rw [List.getElem?_map, List.getElem?_eq_getElem q]; rfl
      rw [ek] at hgi
      have q' : (n : Int) < (K.length : Int) := by omega
      row_walk with ⟨hk, List.length_map, q', hKn⟩
      refine de_wp _ _ _ _ ?_
      by_cases e : deq K[n] d = true
      · have hgi' : grd (K.drop (n + 1)) (ds.drop (i + 1)) = some [] := by rw [← hgi]; show _ = if _ then _ else _; rw [if_pos e]
        row_walk with ⟨e⟩
        exact ⟨n + 1, by omega, hgi', by walk_at "ev"; try rfl⟩
      · have hgi' : grd.isMv d = true ∧ grd (K[n] :: K.drop (n + 1)) (ds.drop (i + 1)) = some [] := by
          have h2 : (if deq K[n] d = true then grd (K.drop (n + 1)) (ds.drop (i + 1)) else if grd.isMv d = true then grd (K[n] :: K.drop (n + 1)) (ds.drop (i + 1)) else none) = some [] := hgi
          rw [if_neg e] at h2
          split at h2
          · exact ⟨by assumption, h2⟩
          · cases h2
        have e' : deq K[n] d = false := by simpa using e
        row_walk with ⟨e'⟩
        refine lismove_ok d _ _ ?_
        row_walk with ⟨hgi'.1⟩
        exact ⟨n, hn, by rw [ek]; exact hgi'.2, by walk_at "ev"; try rfl⟩
    · have q' : ¬ (n : Int) < (K.length : Int) := by omega
      have ek : K.drop n = [] := List.drop_eq_nil_of_le (by omega)
      rw [ek] at hgi
      have hgi' : grd.isMv d = true ∧ grd [] (ds.drop (i + 1)) = some [] := by
        have h2 : (if grd.isMv d = true then grd [] (ds.drop (i + 1)) else none) = some [] := hgi
        split at h2
        · exact ⟨by assumption, h2⟩
        · cases h2
      row_walk with ⟨hk, List.length_map, q'⟩
      refine lismove_ok d _ _ ?_
      row_walk with ⟨hgi'.1⟩
      exact ⟨n, hn, by rw [ek]; exact hgi'.2, by walk_at "ev"; try rfl⟩
  · rintro env G' ⟨rfl, n, hn, hgi, he⟩
    obtain ⟨os, rfl⟩ := he.inv
    rw [List.length_map, List.drop_eq_nil_of_le (Nat.le_refl _)] at hgi
    have e0 : K.drop n = [] := by
      cases z : K.drop n with
      | nil => rfl
      | cons a b => rw [z] at hgi; cases hgi
    have : n = K.length := by
      have := congrArg List.length e0
      rw [List.length_drop] at this; simp at this; omega
    subst this
    row_walk with ⟨hk, List.length_map⟩
    exact h
theorem isMv_mv {d : De} (h : grd.isMv d = true) : ∃ m, d = .mv m := by
  cases d <;> first | exact ⟨_, rfl⟩ | cases h
theorem mts_no {d : De} {m : Mv} (h : mts d m = false) : msk d &&& msk (.mv m) = 0 := by
  unfold mts at h; simpa using h
theorem mts_yes {d : De} {m : Mv} (h : mts d m = true) : ¬ ((msk d &&& msk (.mv m) : Nat) : Int) = 0 := by
  unfold mts at h
  have := of_decide_eq_true h
  omega
theorem lpair_ok (pk : Addr) (K : List De) (hl : K.length ≤ 1000) (w N : Nat) (hw : w ≤ 1000) (hK : ∀ (i : Nat) d, K[i]? = some d → d.On w N) (hT : Tight K) (G : Gp) (Q : K1) (hk : G pk = some (.lst (K.map De.d))) (h : Q (.bl false) G) : m_law_pair_left [.ref pk] G Q := by
  refine ⟨rfl, ?_⟩
  unfold d_law_pair_left
  row_walk with ⟨hk, List.length_map⟩
  refine ⟨small_nat (by omega), ?_⟩
  refine for_by M_law_pair_left (fun i env G' => G' = G ∧ Has env [some (.ref pk), none, none, none, none]) ?_ ?_ ?_ ?_
  · exact ⟨rfl, by walk_at "ev"; try rfl⟩
  · exact fun _ _ _ _ => trivial
  · rintro i d0 env G' hi ⟨rfl, he⟩
    obtain ⟨os, rfl⟩ := he.inv
    obtain ⟨rfl, hil⟩ := rng_get hi
    have hKi : (K.map De.d)[i]? = some (K[i]).d := by rw [List.getElem?_map, List.getElem?_eq_getElem hil]; rfl
    have hgi := List.getElem?_eq_getElem hil
    generalize K[i] = d at *
    show setT _ _ _ _
    row_walk with ⟨hk, hKi⟩
    refine lismove_ok d _ _ ?_
    cases hm : grd.isMv d with
    | false =>
      walk_at "ev"
    | true =>
      obtain ⟨m, rfl⟩ := isMv_mv hm
      row_walk with ⟨hk, hKi⟩
      refine lmask_ok (.mv m) _ _ ?_ w N (hK _ _ hgi) hw
      walk_at "ev"
      refine whl_by M_law_pair_left (m := K.length - (i + 1)) (fun mm env g => g = G' ∧ ∃ j : Nat, i < j ∧ j ≤ K.length ∧ mm = K.length - j ∧ (∀ (l : Nat) d, i < l → l < j → K[l]? = some d → mts d m = false) ∧ Has env [some (.ref pk), some (.int i), some (.int ((msk (.mv m) : Nat) : Int)), some (.int j), none]) ?_ ?_
      · exact ⟨rfl, i + 1, by omega, by omega, rfl, fun l d a b => by omega, by walk_at "ev"; try rfl⟩
      · rintro mm env g ⟨rfl, j, hij, hj, rfl, hno, he⟩
        obtain ⟨os, rfl⟩ := he.inv
        by_cases q : j < K.length
        · have q' : (j : Int) < (K.length : Int) := by omega
          have hKj : (K.map De.d)[j]? = some (K[j]).d := by rw [List.getElem?_map, List.getElem?_eq_getElem q]; rfl
          have hgj := List.getElem?_eq_getElem q
          generalize K[j] = dj at *
          row_walk with ⟨hk, List.length_map, q', hKj⟩
          refine lmask_ok dj _ _ ?_ w N (hK _ _ hgj) hw
          cases hmt : mts dj m with
          | false =>
            have e0 := mts_no hmt
            row_walk with ⟨e0, Int.natCast_zero⟩
            refine ⟨K.length - (j + 1), by omega, j + 1, by omega, by omega, rfl, fun l d a b c => ?_, by walk_at "ev"; try rfl⟩
            by_cases e : l = j
            · subst e; rw [hgj] at c; cases c; exact hmt
            · exact hno l d a (by omega) c
          | true =>
            have e0 := mts_yes hmt
            have key : ∀ b, deq dj (.mv (bkM m b)) = false := fun b => by
              cases z : deq dj (.mv (bkM m b)) with
              | false => rfl
              | true =>
                have e := deq_eq z
                subst e
                obtain ⟨l, d, a, b', c, f⟩ := hT i j m (bkM m b) hij hgi hgj (bkM_same m b)
                have h1 := hno l d a b' c
                rw [mts_same (bkM_same m b) d] at h1
                rw [h1] at f; cases f
            row_walk with ⟨e0, hk, List.length_map, q', hKj, hKi⟩
            refine lback_ok m false _ _ ?_
            refine de_wp dj (.mv (bkM m false)) _ _ ?_
            row_walk with ⟨key, hk, List.length_map, q', hKj, hKi⟩
            refine lback_ok m true _ _ ?_
            refine de_wp dj (.mv (bkM m true)) _ _ ?_
            row_walk with ⟨key⟩
        · have q' : ¬ (j : Int) < (K.length : Int) := by omega
          row_walk with ⟨hk, List.length_map, q'⟩
  · rintro env G' ⟨rfl, he⟩
    obtain ⟨os, rfl⟩ := he.inv
    walk_at "ev"
    exact h
def kyN : Mv → Str
  | .one .back _ => "quarter"
  | .one n _ => n.s
  | .two n _ _ => n.s
theorem ky_get (m : Mv) : ((kyM m).map kD)[0]? = some (.str (kyN m)) := by
  cases m with
  | one n a => cases n <;> rfl
  | two n a b => cases n <;> rfl
theorem qrt_ky (m : Mv) (n : Int) : qrt (kyM m, n) = decide (kyN m = Str.ofString "quarter") := by
  have : ∃ r, kyM m = .inr (kyN m) :: r := by
    cases m with
    | one n a => cases n <;> exact ⟨_, rfl⟩
    | two n a b => cases n <;> exact ⟨_, rfl⟩
  obtain ⟨r, e⟩ := this
  unfold qrt
  rw [e]
  apply decide_eq_decide.mpr
  simp
theorem sg_back (m : Mv) : (dnm (.mv m) = Str.ofString "back" ∧ sgM m = -1) ∨ ((dnm (.mv m) = Str.ofString "back") = False ∧ sgM m = 1) := by
  cases m with
  | one n a =>
    cases n with
    | back => exact .inl ⟨rfl, rfl⟩
    | mix => exact .inr ⟨by simp [dnm, N1.s, s_lit], rfl⟩
    | quarter => exact .inr ⟨by simp [dnm, N1.s, s_lit], rfl⟩
    | flip => exact .inr ⟨by simp [dnm, N1.s, s_lit], rfl⟩
    | sign => exact .inr ⟨by simp [dnm, N1.s, s_lit], rfl⟩
  | two n a b => exact .inr ⟨by cases n <;> simp [dnm, N2.s, s_lit], rfl⟩
theorem setN_len (kvs : List (NK × Int)) (k : NK) (v : Int) : (setN kvs k v).length ≤ kvs.length + 1 := by
  unfold setN
  split <;> simp
theorem stop_one {d : De} (h : grd.isMv d = false) : sts [d] = [msk d] ∧ ∀ ss k, cws ss [d] k = 0 := by
  cases d <;> first | exact ⟨rfl, fun _ _ => rfl⟩ | cases h
theorem ext_gup {G G' : Gp} (hE : Ext G G') {q : Addr} (h : G q = none) (o : GO) : Ext G (gup G' q o) := fun a u ha => by rw [gup_ne (DL.ne_of ha h)]; exact hE _ _ ha
theorem lcounts_ok (pw : Addr) (w N : Nat) (hw : w ≤ 1000) (ds : List De) (hon : ∀ (i : Nat) d, ds[i]? = some d → d.On w N) (hl : ds.length ≤ 1000) (G : Gp) (Q : K1) (hpw : G pw = some (.lst (ds.map De.d)))
    (h : ∀ q lvs o G', Ext G G' → (lvs.map fun x : NK × Int => x.1).Nodup → (∀ k v, getN lvs k = some v ↔ v = val k (cws [] ds k) ∧ v ≠ 0) → G' q = some (.dnt lvs o) → Q (.ref q) G') : m_law_counts [.ref pw] G Q := by
  refine ⟨rfl, ?_⟩
  unfold d_law_counts
  refine cut_at M_law_counts (fun e g => ∃ p o, Ext G g ∧ G p = none ∧ g p = some (.dnt [] o) ∧ e = [some (.ref pw), some (.ref p), none, none, none, none, none, none, none, none]) ?_ ?_
  · walk_at "ev"
    intro p o hp
    exact ⟨p, o, Ext.rfl.new hp _, hp, gup_same, rfl⟩
  rintro e G1 ⟨p, o, hE1, hGp, hp, rfl⟩
  refine cut_at M_law_counts (fun e g => ∃ q, Ext G g ∧ g p = some (.dnt [] o) ∧ q ≠ p ∧ g q = some (.lst []) ∧ G q = none ∧ e = [some (.ref pw), some (.ref p), some (.ref q), none, none, none, none, none, none, none]) ?_ ?_
  · walk_at "ev"
    intro q hq
    have npq : p ≠ q := fun z => by rw [z, hq] at hp; cases hp
    exact ⟨q, hE1.new hq _, by rw [gup_ne npq]; exact hp, npq.symm, gup_same, hE1.none hq, rfl⟩
  rintro e G2 ⟨q, hE2, hp2, nqp, hq, hGq, rfl⟩
  have npw : pw ≠ p := fun z => by rw [z, hGp] at hpw; cases hpw
  have nqw : pw ≠ q := fun z => by rw [z, hGq] at hpw; cases hpw
  refine cut_at M_law_counts (fun e g => ∃ kvs o', Ext G g ∧ g p = some (.dnt kvs o') ∧ (kvs.map fun x : NK × Int => x.1).Nodup ∧ kvs.length ≤ 1000 ∧ (∀ k, (getN kvs k).getD 0 = cws [] ds k) ∧ (∀ x ∈ kvs, ∃ m n, x.1 = (kyM m, n)) ∧ Has e [some (.ref pw), some (.ref p), some (.ref q), none, none, none, none, none, none, none]) ?_ ?_
  · row_walk with ⟨hE2 _ _ hpw⟩
    refine for_by M_law_counts (fun i env G' => ∃ kvs o', Ext G G' ∧ G' p = some (.dnt kvs o') ∧ G' q = some (.lst ((sts (ds.take i)).map fun n => D.int ((n : Nat) : Int))) ∧ (kvs.map fun x : NK × Int => x.1).Nodup ∧ kvs.length ≤ i ∧ (∀ k, (getN kvs k).getD 0 = cws [] (ds.take i) k) ∧ (∀ x ∈ kvs, ∃ m n, x.1 = (kyM m, n)) ∧ Has env [some (.ref pw), some (.ref p), some (.ref q), none, none, none, none, none, none, none]) ?_ ?_ ?_ ?_
    · exact ⟨[], o, hE2, hp2, hq, by simp, by simp, fun k => rfl, by simp, by walk_at "ev"; try simp⟩
    · rintro i env G' ⟨kvs, o', hE, _⟩
      exact hE _ _ hpw
    · rintro i d0 env G' hi ⟨kvs, o', hE, hpp, hqq, hnd, hkl, hval, hks, he⟩
      obtain ⟨os, rfl⟩ := he.inv
      obtain ⟨d, hdi, rfl⟩ := map_get hi
      have hil := (List.getElem?_eq_some_iff.mp hdi).1
      have et : ds.take (i + 1) = ds.take i ++ [d] := by rw [List.take_add_one, hdi]; rfl
      rw [et, sts_app]
      have ec : ∀ k, cws [] (ds.take i ++ [d]) k = cws [] (ds.take i) k + cws (sts (ds.take i)) [d] k := fun k => by rw [cws_app, List.nil_append]
      have hsl : (sts (ds.take i)).length ≤ 1000 := by
        have : ∀ l : List De, (sts l).length ≤ l.length := fun l => by
          induction l with
          | nil => simp [sts]
          | cons x r ih => cases x <;> simp [sts] <;> omega
        have := this (ds.take i)
        rw [List.length_take] at this; omega
      generalize sts (ds.take i) = ss at *
      show setT _ _ _ _
      walk_at "ev"
      refine lmask_ok d _ _ ?_ w N (hon _ _ hdi) hw
      walk_at "ev"
      refine lismove_ok d _ _ ?_
      cases hm : grd.isMv d with
      | false =>
        obtain ⟨s1, s2⟩ := stop_one hm
        row_walk with ⟨hqq⟩
        refine ⟨by rw [List.length_map]; show _ < 16777216; omega, kvs, o', ext_gup hE hGq _, by rw [gup_ne nqp.symm]; exact hpp, by rw [s1, List.map_append]; rfl, hnd, by omega, fun k => by rw [hval, ec, s2, Int.add_zero], hks⟩
      | true =>
        obtain ⟨m, rfl⟩ := isMv_mv hm
        row_walk with ⟨hqq⟩
        intro r hr
        refine lc_extT M_law_counts hr (fun j ys => ys.length = ahd (ss.take j) (msk (.mv m))) (fun G'' hE'' => hE'' _ _ hqq) rfl ?_ (by rw [List.length_map]; omega) ?_
        · rintro j d ys G'' hj hE'' hy
          obtain ⟨s, hs, rfl⟩ := map_get hj
          have ej : ss.take (j + 1) = ss.take j ++ [s] := by rw [List.take_add_one, hs]; rfl
          have ea : ahd (ss.take j ++ [s]) (msk (.mv m)) = ahd (ss.take j) (msk (.mv m)) + if s &&& msk (.mv m) ≠ 0 then 1 else 0 := by
            unfold ahd
            rw [List.filter_append, List.length_append]
            congr 1
            by_cases z : s &&& msk (.mv m) = 0 <;> simp [z]
          rw [ej, ea]
          by_cases z : s &&& msk (.mv m) = 0
          · row_walk with ⟨z, Int.natCast_zero⟩
            exact ⟨Ext.rfl, hy⟩
          · have z' : ¬ ((s &&& msk (.mv m) : Nat) : Int) = 0 := by omega
            row_walk with ⟨z'⟩
            exact ⟨Ext.rfl, Ext.rfl, by rw [List.length_append, hy, if_pos z]; rfl⟩
        · rintro ys G5 hy _ hE5 b5
          rw [List.length_map, List.take_length] at hy
          have p5 := hE5 _ _ hpp
          row_walk with ⟨b5, hy⟩
          refine lkey_ok m _ _ ?_ w (hon _ _ hdi) hw
          have q5 : G5 q = some (.lst ((ss ++ sts [De.mv m]).map fun n => D.int ((n : Nat) : Int))) := by
            rw [hE5 _ _ hqq]; simp [sts]
          have gk : ∀ x : Int, x = (getN kvs (kyM m, (ahd ss (msk (.mv m)) : Int))).getD 0 + sgM m → ∀ k, (getN (setN kvs (kyM m, (ahd ss (msk (.mv m)) : Int)) x) k).getD 0 = cws [] (ds.take i ++ [De.mv m]) k := fun x hx k => by
            rw [setN_get, ec]
            show _ = _ + (ctM ss m k + 0)
            unfold ctM
            by_cases e : k = (kyM m, (ahd ss (msk (.mv m)) : Int))
            · rw [if_pos e, if_pos e.symm, Option.getD_some, hx, hval, e]; omega
            · rw [if_neg e, if_neg (fun z => e z.symm), hval]; omega
          have kk : ∀ x : Int, ∀ y ∈ setN kvs (kyM m, (ahd ss (msk (.mv m)) : Int)) x, ∃ m n, y.1 = (kyM m, n) := fun x => setN_keys (P := fun k => ∃ m n, k = (kyM m, n)) hks ⟨m, _, rfl⟩ x
          rcases sg_back m with ⟨sb, sg⟩ | ⟨sb, sg⟩
          · row_walk with ⟨un_asN, p5, de_0, sb⟩
            refine ⟨by omega, fun o2 => ⟨_, o2, ext_gup (hE.trans hE5) hGp _, rfl, by rw [gup_ne nqp]; exact q5, setN_nodup hnd _ _, by have := setN_len kvs (kyM m, (ahd ss (msk (.mv m)) : Int)) ((getN kvs (kyM m, (ahd ss (msk (.mv m)) : Int))).getD 0 + 1 - 2); omega, gk _ (by omega), kk _⟩⟩
          · row_walk with ⟨un_asN, p5, de_0, sb⟩
            refine ⟨by omega, fun o2 => ⟨_, o2, ext_gup (hE.trans hE5) hGp _, rfl, by rw [gup_ne nqp]; exact q5, setN_nodup hnd _ _, by have := setN_len kvs (kyM m, (ahd ss (msk (.mv m)) : Int)) ((getN kvs (kyM m, (ahd ss (msk (.mv m)) : Int))).getD 0 + 1 - 0); omega, gk _ (by omega), kk _⟩⟩
    · rintro env G' ⟨kvs, o', hE, hpp, hqq, hnd, hkl, hval, hks, he⟩
      rw [List.length_map] at hkl hval
      rw [List.take_length] at hval
      exact ⟨kvs, o', hE, hpp, hnd, by omega, hval, hks, he⟩
  rintro e G3 ⟨kvs, o', hE3, hp3, hnd, hkl, hval, hks, he⟩
  obtain ⟨os, rfl⟩ := he.inv
  refine cut_at M_law_counts (fun e g => ∃ p2 o2, Ext G g ∧ g p = some (.dnt kvs o') ∧ p2 ≠ p ∧ g p2 = some (.dnt [] o2) ∧ G p2 = none ∧ Has e [some (.ref pw), some (.ref p), some (.ref q), none, some (.ref p2), none, none, none, none, none]) ?_ ?_
  · walk_at "ev"
    intro p2 o2 hp2
    have npq : p ≠ p2 := fun z => by rw [z, hp2] at hp3; cases hp3
    exact ⟨p2, o2, hE3.new hp2 _, by rw [gup_ne npq]; exact hp3, npq.symm, gup_same, hE3.none hp2, by walk_at "ev"; try simp⟩
  rintro e G4 ⟨p2, o2, hE4, hp4, np2, hp2, hG2, he⟩
  obtain ⟨os, rfl⟩ := he.inv
  row_walk with ⟨i_nkK, hp4⟩
  refine for_by M_law_counts (fun i env G' => ∃ lvs o3, Ext G G' ∧ G' p = some (.dnt kvs o') ∧ G' p2 = some (.dnt lvs o3) ∧ (lvs.map fun x : NK × Int => x.1).Nodup ∧ lvs.length ≤ i ∧ (∀ k v, getN lvs k = some v ↔ k ∈ (kvs.take i).map (fun x : NK × Int => x.1) ∧ v = val k (cws [] ds k) ∧ v ≠ 0) ∧ Has env [some (.ref pw), some (.ref p), some (.ref q), none, some (.ref p2), none, none, none, none, none]) ?_ ?_ ?_ ?_
  · exact ⟨[], o2, hE4, hp4, hp2, by simp, by simp, fun k v => by simp [getN], by walk_at "ev"; try simp⟩
  · rintro i env G' ⟨lvs, o3, hE, hpp, _⟩
    exact hpp
  · rintro i d0 env G' hi ⟨lvs, o3, hE, hpp, hp2', nd, ll, hv, he⟩
    obtain ⟨os, rfl⟩ := he.inv
    obtain ⟨⟨k, v⟩, hki, rfl⟩ := map_get hi
    have hil := (List.getElem?_eq_some_iff.mp hki).1
    have hmem := List.mem_of_getElem? hki
    obtain ⟨m, n, e⟩ := hks _ hmem
    have e : k = (kyM m, n) := e
    subst e
    have hget := (getN_mem hnd (kyM m, n) v).mpr hmem
    have hc : cws [] ds (kyM m, n) = v := by rw [← hval, hget]; rfl
    have et : kvs.take (i + 1) = kvs.take i ++ [((kyM m, n), v)] := by rw [List.take_add_one, hki]; rfl
    have hv2 : val (kyM m, n) v = if kyN m = Str.ofString "quarter" then v else v % 2 := by
      unfold val
      rw [qrt_ky]
      by_cases q : kyN m = Str.ofString "quarter" <;> simp [q]
    show setT _ (.tup [.tup ((kyM m).map kD), .int n]) _ _
    walk_at "st"
    refine cut_at M_law_counts (fun e g => g = G' ∧ Has e [some (.ref pw), some (.ref p), some (.ref q), none, some (.ref p2), some (.tup [.tup ((kyM m).map kD), .int n]), none, some (.int v), none, none]) ?_ ?_
    · row_walk with ⟨un_asN, hpp, hget⟩
    rintro e g ⟨rfl, he⟩
    obtain ⟨os, rfl⟩ := he.inv
    refine cut_at M_law_counts (fun e g' => g' = g ∧ Has e [some (.ref pw), some (.ref p), some (.ref q), none, some (.ref p2), some (.tup [.tup ((kyM m).map kD), .int n]), none, some (.int (val (kyM m, n) v)), none, none]) ?_ ?_
    · rw [hv2]
      by_cases q : kyN m = Str.ofString "quarter"
      · row_walk with ⟨ky_get, q⟩
      · row_walk with ⟨ky_get, q⟩
    rintro e g ⟨rfl, he⟩
    obtain ⟨os, rfl⟩ := he.inv
    by_cases q : val (kyM m, n) v = 0
    · row_walk with ⟨q⟩
      refine ⟨lvs, o3, hE, hpp, hp2', nd, by omega, fun k x => ?_⟩
      rw [hv, et, List.map_append, List.mem_append]
      constructor
      · rintro ⟨a, b⟩; exact ⟨.inl a, b⟩
      · rintro ⟨a | a, b, c⟩
        · exact ⟨a, b, c⟩
        · have a : k = (kyM m, n) := by simpa using a
          rw [a, hc, q] at b
          exact absurd b c
    · row_walk with ⟨q, un_asN, hp2'⟩
      refine ⟨by omega, fun o4 => ⟨_, o4, ext_gup hE hG2 _, by rw [gup_ne np2.symm]; exact hpp, rfl, setN_nodup nd _ _, by have := setN_len lvs (kyM m, n) (val (kyM m, n) v); omega, fun k x => ?_⟩⟩
      rw [setN_get, et, List.map_append, List.mem_append]
      by_cases e : k = (kyM m, n)
      · rw [if_pos e, e, hc]
        constructor
        · intro z; cases z; exact ⟨.inr (by simp), rfl, q⟩
        · rintro ⟨_, b, _⟩; rw [b]
      · rw [if_neg e, hv]
        constructor
        · rintro ⟨a, b⟩; exact ⟨.inl a, b⟩
        · rintro ⟨a | a, b, c⟩
          · exact ⟨a, b, c⟩
          · exact absurd (by simpa using a) e
  · rintro env G' ⟨lvs, o3, hE, hpp, hp2', nd, ll, hv, he⟩
    obtain ⟨os, rfl⟩ := he.inv
    rw [List.length_map, List.take_length] at hv
    walk_at "ev"
    refine h p2 lvs o3 G' hE nd (fun k v => ?_) hp2'
    rw [hv]
    refine ⟨fun z => z.2, fun z => ⟨?_, z⟩⟩
    apply Classical.byContradiction
    intro y
    have e0 := (getN_none k).mpr y
    have e1 := hval k
    rw [e0] at e1
    have e2 : cws [] ds k = 0 := e1.symm
    rw [e2] at z
    refine z.2 (z.1.trans ?_)
    unfold val
    split <;> rfl
theorem WdOn_all {w N : Nat} : ∀ {K : List De} {n : Nat}, (∀ (i : Nat) d, K[i]? = some d → d.On w N) → N ≤ n → WdOn w n K
  | [], _, _, _ => trivial
  | d :: K, n, h, hn => ⟨(h 0 d rfl).mono hn, WdOn_all (fun i e he => h (i + 1) e (by simpa using he)) (by omega)⟩
theorem law_holds : LawD m_law := by
  intro ns hl hb
  refine ⟨rfl, ?_⟩
  unfold d_law
  refine cut_at M_law (fun e g => ∃ w : Nat, 1 ≤ w ∧ w ≤ 40 ∧ e = [some (.ro (ns.map D.int)), some (.int w), none, none, none, none]) ?_ ?_
  · walk_at "ev"
    refine cell_ok ns 0 (by decide) _ _ fun z => ?_
    refine lwires_ok z _ _ fun w G' h1 h2 _ => ?_
    walk_at "ev"
    exact ⟨w, h1, h2, rfl⟩
  rintro e G0 ⟨w, h1, hw, rfl⟩
  refine cut_at M_law (fun e g => ∃ p ds, ds.length ≤ 64 ∧ WdOn w 0 ds ∧ g p = some (.lst (ds.map De.d)) ∧ e = [some (.ro (ns.map D.int)), some (.int w), some (.ref p), none, none, none]) ?_ ?_
  · walk_at "ev"
    intro q hq
    have hgq : gup G0 q (.lst (((ns.map D.int).take 61).drop 1)) q = some (.lst (((ns.take 61).drop 1).map D.int)) := by
      rw [List.map_drop, List.map_take]; exact gup_same
    refine lword_ok q w h1 hw (((ns.take 61).drop 1).map D.int) (fun i d h => ints_get (fun x hx => hx) h) (by rw [List.length_map, List.length_drop, List.length_take]; omega) _ _ hgq fun p ds G3 hdl hd hE3 hp => ?_
    walk_at "ev"
    refine ⟨p, ds, ?_, hd, hp, rfl⟩
    rw [hdl, List.length_map, List.length_drop, List.length_take]; omega
  rintro e G1 ⟨p, ds, hdl, hd, hp1, rfl⟩
  refine cut_at M_law (fun e g => ∃ p3, Ext G1 g ∧ p3 ≠ p ∧ g p = some (.lst (ds.map De.d)) ∧ g p3 = some (.lst (ds.map De.d)) ∧ e = [some (.ro (ns.map D.int)), some (.int w), some (.ref p), some (.ref p3), none, none]) ?_ ?_
  · row_walk with ⟨hp1⟩
    intro q hq
    have npq : p ≠ q := fun z => by rw [z, hq] at hp1; cases hp1
    exact ⟨q, Ext.rfl.new hq _, npq.symm, by rw [gup_ne npq]; exact hp1, gup_same, rfl⟩
  rintro e G2 ⟨p3, hE2, n3, hp2, hp3, rfl⟩
  have hon : ∀ (i : Nat) d, ds[i]? = some d → d.On w (0 + ds.length) := fun i d h => WdOn_any hd h
  have htl : (trimW w ds).length ≤ ds.length := by
    have := trimW_len w ds []
    rw [List.length_nil, Nat.zero_add] at this
    exact this
  obtain ⟨kOn, kT, kE, kS, kV⟩ := trim_all hon ds.length (Nat.le_refl _)
  rw [List.take_length] at kOn kT kE kS kV
  have kA := trim_again kOn kT
  have kG := kE.grd
  refine cut_at M_law (fun e g => ∃ p4, Ext G2 g ∧ G2 p4 = none ∧ g p4 = some (.lst ((trimW w ds).map De.d)) ∧ e = [some (.ro (ns.map D.int)), some (.int w), some (.ref p), some (.ref p3), some (.ref p4), none]) ?_ ?_
  · walk_at "ev"
    refine trimmed_ok p3 w (by omega) 0 ds (by omega) hd _ _ hp3 fun q G' hE hq hq' => ?_
    walk_at "ev"
    exact ⟨q, hE, hq, hq', rfl⟩
  rintro e G3 ⟨p4, hE3, hn4, hp4, rfl⟩
  generalize hKK : trimW w ds = K at *
  have hKW : WdOn w (0 + ds.length) K := WdOn_all kOn (Nat.le_refl _)
  refine cut_at M_law (fun e g => g = G3 ∧ e = [some (.ro (ns.map D.int)), some (.int w), some (.ref p), some (.ref p3), some (.ref p4), none]) ?_ ?_
  · row_walk with ⟨hp4⟩
  rintro e g ⟨rfl, rfl⟩
  refine cut_at M_law (fun e g' => ∃ p5, Ext g g' ∧ g p5 = none ∧ g' p5 = some (.lst (K.map De.d)) ∧ e = [some (.ro (ns.map D.int)), some (.int w), some (.ref p), some (.ref p3), some (.ref p4), some (.ref p5)]) ?_ ?_
  · row_walk with ⟨hp4⟩
    intro q hq
    exact ⟨q, Ext.rfl.new hq _, hq, gup_same, rfl⟩
  rintro e G5 ⟨p5, hE5, hn5, hp5, rfl⟩
  refine cut_at M_law (fun e g' => Ext G5 g' ∧ e = [some (.ro (ns.map D.int)), some (.int w), some (.ref p), some (.ref p3), some (.ref p4), some (.ref p5)]) ?_ ?_
  · walk_at "ev"
    refine lorder_ok p5 p K ds (by omega) kG _ _ hp5 (hE5 _ _ (hE3 _ _ hp2)) ?_
    walk_at "ev"
    refine lcounts_ok p5 w (0 + ds.length) (by omega) K kOn (by omega) _ _ hp5 fun q1 lvs o1 G6 hE6 nd1 hv1 hq1 => ?_
    walk_at "ev"
    refine lcounts_ok p w (0 + ds.length) (by omega) ds hon (by omega) _ _ (hE6 _ _ (hE5 _ _ (hE3 _ _ hp2))) fun q2 kvs o2 G7 hE7 nd2 hv2 hq2 => ?_
    have sm : sameN lvs kvs := sameN_of nd1 nd2 fun k => by
      apply Option.ext
      intro v
      rw [hv1, hv2, kV]
    row_walk with ⟨hE7 _ _ hq1, hq2⟩
    exact ⟨sm, hE6.trans hE7⟩
  rintro e G6 ⟨hE6, rfl⟩
  have q5 := hE6 _ _ hp5
  refine cut_at M_law (fun e g' => Ext G6 g' ∧ e = [some (.ro (ns.map D.int)), some (.int w), some (.ref p), some (.ref p3), some (.ref p4), some (.ref p5)]) ?_ ?_
  · walk_at "ev"
    refine lpair_ok p5 K (by omega) w (0 + ds.length) (by omega) kOn kT _ _ q5 ?_
    row_walk with ⟨q5⟩
    intro q hq
    obtain ⟨G7, e7, hE7, b7⟩ := new_heap G6 q (.lst (K.map De.d)) hq
    rw [e7]
    refine trimmed_ok q w (by omega) (0 + ds.length) K (by omega) hKW _ _ b7 fun q' G' hE hq2 hq' => ?_
    rw [kA] at hq'
    walk_at "ev"
    refine word_eq hq' (hE _ _ (hE7 _ _ q5)) _ ?_
    walk_at "ev"
    exact hE7.trans hE
  rintro e G7 ⟨hE7, rfl⟩
  have r4 := hE7 _ _ (hE6 _ _ (hE5 _ _ hp4))
  have r5 := hE7 _ _ q5
  have rp := hE7 _ _ (hE6 _ _ (hE5 _ _ (hE3 _ _ hp2)))
  have r3 := hE7 _ _ (hE6 _ _ (hE5 _ _ (hE3 _ _ hp3)))
  have n45 : p5 ≠ p4 := fun z => by rw [z, hp4] at hn5; cases hn5
  have n4p : p ≠ p4 := fun z => by rw [z, hn4] at hp2; cases hp2
  have n43 : p3 ≠ p4 := fun z => by rw [z, hn4] at hp3; cases hp3
  refine cut_at M_law (fun e g' => g' p5 = some (.lst (K.map De.d)) ∧ g' p = some (.lst (ds.map De.d)) ∧ g' p3 = some (.lst (ds.map De.d)) ∧ e = [some (.ro (ns.map D.int)), some (.int w), some (.ref p), some (.ref p3), some (.ref p4), some (.ref p5)]) ?_ ?_
  · row_walk with ⟨r4⟩
    refine ⟨by rw [List.length_map]; omega, ?_, ?_, ?_⟩
    · rw [gup_ne n45]; exact r5
    · rw [gup_ne n4p]; exact rp
    · rw [gup_ne n43]; exact r3
  rintro e G8 ⟨s5, sp, s3, rfl⟩
  walk_at "ev"
  refine word_eqE s3 sp _ ?_
  walk_at "ev"
  refine trimmed_ok p3 w (by omega) 0 ds (by omega) hd _ _ s3 fun q' G' hE hq2 hq' => ?_
  rw [hKK] at hq'
  walk_at "ev"
  refine word_eqE hq' (hE _ _ s5) _ ?_
  walk_at "ev"
end Llaw_k60_trimmed_words
namespace Llaw_k60_trimmed_words
open PySem PySem.Spec PyProof.Rows L2 DL DP
def top (i : Nat) : Stmt := PySem.Challenge.pw_signtable_k60_trimmed_words.main.body.getD i (.Pass ⟨0, 0, 0, 0⟩)
def C_is_move : Ck := { N := ["deed"], fn := [], con := ["MOVES"], dic := [], bn := [] }
theorem s_is_move : FnScope ["deed"] ["deed"] (defScope (top 2)) := ⟨rfl, rfl, rfl, by decide +kernel, rfl, by decide +kernel, by decide +kernel⟩
theorem k_is_move : chkB C_is_move (defScope (top 2)) d_is_move (defBody (top 2)) = true := by decide +kernel
def C_row_of : Ck := { N := ["deed"], fn := [], con := [], dic := [], bn := [] }
theorem s_row_of : FnScope ["deed"] ["deed"] (defScope (top 3)) := ⟨rfl, rfl, rfl, by decide +kernel, rfl, by decide +kernel, by decide +kernel⟩
theorem k_row_of : chkB C_row_of (defScope (top 3)) d_row_of (defBody (top 3)) = true := by decide +kernel
def C_wires_of : Ck := { N := ["deed", "row", "rest", "wires", "at"], fn := ["is_move", "row_of"], con := [], dic := [], bn := ["sorted"] }
theorem s_wires_of : FnScope ["deed", "row", "rest", "wires", "at"] ["deed"] (defScope (top 4)) := ⟨rfl, rfl, rfl, by decide +kernel, rfl, by decide +kernel, by decide +kernel⟩
theorem k_wires_of : chkB C_wires_of (defScope (top 4)) d_wires_of (defBody (top 4)) = true := by decide +kernel
def C_undone : Ck := { N := ["move"], fn := [], con := [], dic := [], bn := [] }
theorem s_undone : FnScope ["move"] ["move"] (defScope (top 5)) := ⟨rfl, rfl, rfl, by decide +kernel, rfl, by decide +kernel, by decide +kernel⟩
theorem k_undone : chkB C_undone (defScope (top 5)) d_undone (defBody (top 5)) = true := by decide +kernel
def C_same_move : Ck := { N := ["one", "other"], fn := ["wires_of"], con := [], dic := [], bn := [] }
theorem s_same_move : FnScope ["one", "other"] ["one", "other"] (defScope (top 7)) := ⟨rfl, rfl, rfl, by decide +kernel, rfl, by decide +kernel, by decide +kernel⟩
theorem k_same_move : chkB C_same_move (defScope (top 7)) d_same_move (defBody (top 7)) = true := by decide +kernel
def C_meets : Ck := { N := ["one", "other", "wires", "wire"], fn := ["wires_of"], con := [], dic := [], bn := ["any"] }
theorem s_meets : FnScope ["one", "other", "wires", "wire"] ["one", "other"] (defScope (top 8)) := ⟨rfl, rfl, rfl, by decide +kernel, rfl, by decide +kernel, by decide +kernel⟩
theorem k_meets : chkB C_meets (defScope (top 8)) d_meets (defBody (top 8)) = true := by decide +kernel
def C_place_undone : Ck := { N := ["kept", "move", "at"], fn := ["meets", "is_move", "same_move", "undone"], con := [], dic := [], bn := ["range", "len"] }
theorem s_place_undone : FnScope ["kept", "move", "at"] ["kept", "move"] (defScope (top 9)) := ⟨rfl, rfl, rfl, by decide +kernel, rfl, by decide +kernel, by decide +kernel⟩
theorem k_place_undone : chkB C_place_undone (defScope (top 9)) d_place_undone (defBody (top 9)) = true := by decide +kernel
def C_trimmed : Ck := { N := ["word", "kept", "deed", "at"], fn := ["is_move", "place_undone"], con := [], dic := [], bn := [] }
theorem s_trimmed : FnScope ["word", "kept", "deed", "at"] ["word"] (defScope (top 10)) := ⟨rfl, rfl, rfl, by decide +kernel, rfl, by decide +kernel, by decide +kernel⟩
theorem k_trimmed : chkB C_trimmed (defScope (top 10)) d_trimmed (defBody (top 10)) = true := by decide +kernel
def C_law_cell_at : Ck := { N := ["_law_script", "_law_k"], fn := [], con := [], dic := [], bn := ["len"] }
theorem s_law_cell_at : FnScope ["_law_script", "_law_k"] ["_law_script", "_law_k"] (defScope (top 12)) := ⟨rfl, rfl, rfl, by decide +kernel, rfl, by decide +kernel, by decide +kernel⟩
theorem k_law_cell_at : chkB C_law_cell_at (defScope (top 12)) d_law_cell_at (defBody (top 12)) = true := by decide +kernel
def C_law_wires : Ck := { N := ["_law_cell", "_law_m"], fn := [], con := [], dic := [], bn := [] }
theorem s_law_wires : FnScope ["_law_cell", "_law_m"] ["_law_cell"] (defScope (top 13)) := ⟨rfl, rfl, rfl, by decide +kernel, rfl, by decide +kernel, by decide +kernel⟩
theorem k_law_wires : chkB C_law_wires (defScope (top 13)) d_law_wires (defBody (top 13)) = true := by decide +kernel
def C_law_row : Ck := { N := ["_law_cell", "_law_wires_here", "_law_m", "_law_xs", "_law_zs", "_law_count", "_law_w"], fn := [], con := [], dic := [], bn := ["len", "range"] }
theorem s_law_row : FnScope ["_law_cell", "_law_wires_here", "_law_m", "_law_xs", "_law_zs", "_law_count", "_law_w"] ["_law_cell", "_law_wires_here"] (defScope (top 14)) := ⟨rfl, rfl, rfl, by decide +kernel, rfl, by decide +kernel, by decide +kernel⟩
theorem k_law_row : chkB C_law_row (defScope (top 14)) d_law_row (defBody (top 14)) = true := by decide +kernel
def C_law_back : Ck := { N := ["_law_deed_here", "_law_other_way"], fn := [], con := [], dic := [], bn := [] }
theorem s_law_back : FnScope ["_law_deed_here", "_law_other_way"] ["_law_deed_here", "_law_other_way"] (defScope (top 15)) := ⟨rfl, rfl, rfl, by decide +kernel, rfl, by decide +kernel, by decide +kernel⟩
theorem k_law_back : chkB C_law_back (defScope (top 15)) d_law_back (defBody (top 15)) = true := by decide +kernel
def C_law_deed : Ck := { N := ["_law_cell", "_law_wires_here", "_law_looks", "_law_m", "_law_names", "_law_name", "_law_one", "_law_numbers", "_law_j"], fn := ["_law_row"], con := [], dic := [], bn := ["range", "tuple"] }
theorem s_law_deed : FnScope ["_law_cell", "_law_wires_here", "_law_looks", "_law_m", "_law_names", "_law_name", "_law_one", "_law_numbers", "_law_j"] ["_law_cell", "_law_wires_here", "_law_looks"] (defScope (top 16)) := ⟨rfl, rfl, rfl, by decide +kernel, rfl, by decide +kernel, by decide +kernel⟩
theorem k_law_deed : chkB C_law_deed (defScope (top 16)) d_law_deed (defBody (top 16)) = true := by decide +kernel
def C_law_word : Ck := { N := ["_law_cells", "_law_wires_here", "_law_word_here", "_law_looks", "_law_cell", "_law_m", "_law_deed_here", "_law_old"], fn := ["_law_deed", "_law_back"], con := [], dic := [], bn := ["len", "min"] }
theorem s_law_word : FnScope ["_law_cells", "_law_wires_here", "_law_word_here", "_law_looks", "_law_cell", "_law_m", "_law_deed_here", "_law_old"] ["_law_cells", "_law_wires_here"] (defScope (top 17)) := ⟨rfl, rfl, rfl, by decide +kernel, rfl, by decide +kernel, by decide +kernel⟩
theorem k_law_word : chkB C_law_word (defScope (top 17)) d_law_word (defBody (top 17)) = true := by decide +kernel
def C_law_mask : Ck := { N := ["_law_deed_here", "_law_mask_here", "_law_wire"], fn := [], con := [], dic := [], bn := [] }
theorem s_law_mask : FnScope ["_law_deed_here", "_law_mask_here", "_law_wire"] ["_law_deed_here"] (defScope (top 18)) := ⟨rfl, rfl, rfl, by decide +kernel, rfl, by decide +kernel, by decide +kernel⟩
theorem k_law_mask : chkB C_law_mask (defScope (top 18)) d_law_mask (defBody (top 18)) = true := by decide +kernel
def C_law_is_move : Ck := { N := ["_law_deed_here"], fn := [], con := [], dic := [], bn := [] }
theorem s_law_is_move : FnScope ["_law_deed_here"] ["_law_deed_here"] (defScope (top 19)) := ⟨rfl, rfl, rfl, by decide +kernel, rfl, by decide +kernel, by decide +kernel⟩
theorem k_law_is_move : chkB C_law_is_move (defScope (top 19)) d_law_is_move (defBody (top 19)) = true := by decide +kernel
def C_law_pair_left : Ck := { N := ["_law_word_here", "_law_k", "_law_mask_here", "_law_j", "_law_other_way"], fn := ["_law_is_move", "_law_mask", "_law_back"], con := [], dic := [], bn := ["range", "len"] }
theorem s_law_pair_left : FnScope ["_law_word_here", "_law_k", "_law_mask_here", "_law_j", "_law_other_way"] ["_law_word_here"] (defScope (top 20)) := ⟨rfl, rfl, rfl, by decide +kernel, rfl, by decide +kernel, by decide +kernel⟩
theorem k_law_pair_left : chkB C_law_pair_left (defScope (top 20)) d_law_pair_left (defBody (top 20)) = true := by decide +kernel
def C_law_part_in_order : Ck := { N := ["_law_found", "_law_word_here", "_law_at", "_law_deed_here"], fn := ["_law_is_move"], con := [], dic := [], bn := ["len"] }
theorem s_law_part_in_order : FnScope ["_law_found", "_law_word_here", "_law_at", "_law_deed_here"] ["_law_found", "_law_word_here"] (defScope (top 21)) := ⟨rfl, rfl, rfl, by decide +kernel, rfl, by decide +kernel, by decide +kernel⟩
theorem k_law_part_in_order : chkB C_law_part_in_order (defScope (top 21)) d_law_part_in_order (defBody (top 21)) = true := by decide +kernel
def C_law_key : Ck := { N := ["_law_deed_here"], fn := ["_law_mask"], con := [], dic := [], bn := [] }
theorem s_law_key : FnScope ["_law_deed_here"] ["_law_deed_here"] (defScope (top 22)) := ⟨rfl, rfl, rfl, by decide +kernel, rfl, by decide +kernel, by decide +kernel⟩
theorem k_law_key : chkB C_law_key (defScope (top 22)) d_law_key (defBody (top 22)) = true := by decide +kernel
def C_law_counts : Ck := { N := ["_law_word_here", "_law_counts_here", "_law_stops", "_law_deed_here", "_law_left", "_law_key_here", "_law_mask_here", "_law_count", "_law_ahead", "_law_stop"], fn := ["_law_mask", "_law_is_move", "_law_key"], con := [], dic := [], bn := ["len", "int"], nst := true }
theorem s_law_counts : FnScope ["_law_word_here", "_law_counts_here", "_law_stops", "_law_deed_here", "_law_left", "_law_key_here", "_law_mask_here", "_law_count", "_law_ahead", "_law_stop"] ["_law_word_here"] (defScope (top 23)) := ⟨rfl, rfl, rfl, by decide +kernel, rfl, by decide +kernel, by decide +kernel⟩
theorem k_law_counts : chkB C_law_counts (defScope (top 23)) d_law_counts (defBody (top 23)) = true := by decide +kernel
def C_law : Ck := { N := ["_law_script", "_law_wires_here", "_law_word_here", "_law_handed", "_law_found", "_law_kept"], fn := ["_law_wires", "_law_cell_at", "_law_word", "trimmed", "_law_part_in_order", "_law_counts", "_law_pair_left"], con := [], dic := [], bn := ["list", "isinstance"], nst := true }
theorem s_law : FnScope ["_law_script", "_law_wires_here", "_law_word_here", "_law_handed", "_law_found", "_law_kept"] ["_law_script"] (defScope (top 24)) := ⟨rfl, rfl, rfl, by decide +kernel, rfl, by decide +kernel, by decide +kernel⟩
theorem k_law : chkB C_law (defScope (top 24)) d_law (defBody (top 24)) = true := by decide +kernel
theorem all_mk {P : Program} {w : World} {K : PySem.W.Frag} {mg : Str → Option Value} {fa : Addr} (hfa : mg "law" = some (.ref fa)) (D_is_move : DefAt K mg "is_move" (top 2) ["deed"]) (D_row_of : DefAt K mg "row_of" (top 3) ["deed"]) (D_wires_of : DefAt K mg "wires_of" (top 4) ["deed"]) (D_undone : DefAt K mg "undone" (top 5) ["move"]) (D_same_move : DefAt K mg "same_move" (top 7) ["one", "other"]) (D_meets : DefAt K mg "meets" (top 8) ["one", "other"]) (D_place_undone : DefAt K mg "place_undone" (top 9) ["kept", "move"]) (D_trimmed : DefAt K mg "trimmed" (top 10) ["word"]) (D_law_cell_at : DefAt K mg "_law_cell_at" (top 12) ["_law_script", "_law_k"]) (D_law_wires : DefAt K mg "_law_wires" (top 13) ["_law_cell"]) (D_law_row : DefAt K mg "_law_row" (top 14) ["_law_cell", "_law_wires_here"]) (D_law_back : DefAt K mg "_law_back" (top 15) ["_law_deed_here", "_law_other_way"]) (D_law_deed : DefAt K mg "_law_deed" (top 16) ["_law_cell", "_law_wires_here", "_law_looks"]) (D_law_word : DefAt K mg "_law_word" (top 17) ["_law_cells", "_law_wires_here"]) (D_law_mask : DefAt K mg "_law_mask" (top 18) ["_law_deed_here"]) (D_law_is_move : DefAt K mg "_law_is_move" (top 19) ["_law_deed_here"]) (D_law_pair_left : DefAt K mg "_law_pair_left" (top 20) ["_law_word_here"]) (D_law_part_in_order : DefAt K mg "_law_part_in_order" (top 21) ["_law_found", "_law_word_here"]) (D_law_key : DefAt K mg "_law_key" (top 22) ["_law_deed_here"]) (D_law_counts : DefAt K mg "_law_counts" (top 23) ["_law_word_here"]) (D_law : DefAt K mg "law" (top 24) ["_law_script"]) (b_sorted : mg "sorted" = none) (b_any : mg "any" = none) (b_range : mg "range" = none) (b_len : mg "len" = none) (b_tuple : mg "tuple" = none) (b_min : mg "min" = none) (b_int : mg "int" = none) (b_list : mg "list" = none) (b_isinstance : mg "isinstance" = none) (z_MOVES : ConG K mg "MOVES" c_MOVES) (L : LawD m_law) :
    ∃ fd : FuncData, (∀ (s : Shared) (u : Value), BindsTo s fd ⟨[u], []⟩ [("_law_script", u)]) ∧ ∀ base : Heap, K.In base → base.Ns mainGlobals mg → FnOk P w K mg base CX0 6 fa fd ["_law_script"] (spL K) := by
  refine law_end (W := { K := K, cls := fun _ => 0, hsh := nkHash P w }) (m := m_law) rfl D_law hfa L mo_law fun base h1 h2 => ?_
  have g_is_move : FnG P w K mg base 1 { K := K, cls := fun _ => 0, hsh := nkHash P w } m_is_move "is_move" := def_ok D_is_move s_is_move rfl rfl M_is_move k_is_move bn_nil fn_nil (con_consG z_MOVES con_nil) dic_nil
  have g_row_of : FnG P w K mg base 1 { K := K, cls := fun _ => 0, hsh := nkHash P w } m_row_of "row_of" := def_ok D_row_of s_row_of rfl rfl M_row_of k_row_of bn_nil fn_nil con_nil dic_nil
  have g_wires_of : FnG P w K mg base 2 { K := K, cls := fun _ => 0, hsh := nkHash P w } m_wires_of "wires_of" := def_ok D_wires_of s_wires_of rfl rfl M_wires_of k_wires_of (bn_cons b_sorted bn_nil) (fn_cons g_is_move (by decide) (fn_cons g_row_of (by decide) fn_nil)) con_nil dic_nil
  have g_undone : FnG P w K mg base 1 { K := K, cls := fun _ => 0, hsh := nkHash P w } m_undone "undone" := def_ok D_undone s_undone rfl rfl M_undone k_undone bn_nil fn_nil con_nil dic_nil
  have g_same_move : FnG P w K mg base 3 { K := K, cls := fun _ => 0, hsh := nkHash P w } m_same_move "same_move" := def_ok D_same_move s_same_move rfl rfl M_same_move k_same_move bn_nil (fn_cons g_wires_of (by decide) fn_nil) con_nil dic_nil
  have g_meets : FnG P w K mg base 3 { K := K, cls := fun _ => 0, hsh := nkHash P w } m_meets "meets" := def_ok D_meets s_meets rfl rfl M_meets k_meets (bn_cons b_any bn_nil) (fn_cons g_wires_of (by decide) fn_nil) con_nil dic_nil
  have g_place_undone : FnG P w K mg base 4 { K := K, cls := fun _ => 0, hsh := nkHash P w } m_place_undone "place_undone" := def_ok D_place_undone s_place_undone rfl rfl M_place_undone k_place_undone (bn_cons b_range (bn_cons b_len bn_nil)) (fn_cons g_meets (by decide) (fn_cons g_is_move (by decide) (fn_cons g_same_move (by decide) (fn_cons g_undone (by decide) fn_nil)))) con_nil dic_nil
  have g_trimmed : FnG P w K mg base 5 { K := K, cls := fun _ => 0, hsh := nkHash P w } m_trimmed "trimmed" := def_ok D_trimmed s_trimmed rfl rfl M_trimmed k_trimmed bn_nil (fn_cons g_is_move (by decide) (fn_cons g_place_undone (by decide) fn_nil)) con_nil dic_nil
  have g_law_cell_at : FnG P w K mg base 1 { K := K, cls := fun _ => 0, hsh := nkHash P w } m_law_cell_at "_law_cell_at" := def_ok D_law_cell_at s_law_cell_at rfl rfl M_law_cell_at k_law_cell_at (bn_cons b_len bn_nil) fn_nil con_nil dic_nil
  have g_law_wires : FnG P w K mg base 1 { K := K, cls := fun _ => 0, hsh := nkHash P w } m_law_wires "_law_wires" := def_ok D_law_wires s_law_wires rfl rfl M_law_wires k_law_wires bn_nil fn_nil con_nil dic_nil
  have g_law_row : FnG P w K mg base 1 { K := K, cls := fun _ => 0, hsh := nkHash P w } m_law_row "_law_row" := def_ok D_law_row s_law_row rfl rfl M_law_row k_law_row (bn_cons b_len (bn_cons b_range bn_nil)) fn_nil con_nil dic_nil
  have g_law_back : FnG P w K mg base 1 { K := K, cls := fun _ => 0, hsh := nkHash P w } m_law_back "_law_back" := def_ok D_law_back s_law_back rfl rfl M_law_back k_law_back bn_nil fn_nil con_nil dic_nil
  have g_law_deed : FnG P w K mg base 2 { K := K, cls := fun _ => 0, hsh := nkHash P w } m_law_deed "_law_deed" := def_ok D_law_deed s_law_deed rfl rfl M_law_deed k_law_deed (bn_cons b_range (bn_cons b_tuple bn_nil)) (fn_cons g_law_row (by decide) fn_nil) con_nil dic_nil
  have g_law_word : FnG P w K mg base 3 { K := K, cls := fun _ => 0, hsh := nkHash P w } m_law_word "_law_word" := def_ok D_law_word s_law_word rfl rfl M_law_word k_law_word (bn_cons b_len (bn_cons b_min bn_nil)) (fn_cons g_law_deed (by decide) (fn_cons g_law_back (by decide) fn_nil)) con_nil dic_nil
  have g_law_mask : FnG P w K mg base 1 { K := K, cls := fun _ => 0, hsh := nkHash P w } m_law_mask "_law_mask" := def_ok D_law_mask s_law_mask rfl rfl M_law_mask k_law_mask bn_nil fn_nil con_nil dic_nil
  have g_law_is_move : FnG P w K mg base 1 { K := K, cls := fun _ => 0, hsh := nkHash P w } m_law_is_move "_law_is_move" := def_ok D_law_is_move s_law_is_move rfl rfl M_law_is_move k_law_is_move bn_nil fn_nil con_nil dic_nil
  have g_law_pair_left : FnG P w K mg base 2 { K := K, cls := fun _ => 0, hsh := nkHash P w } m_law_pair_left "_law_pair_left" := def_ok D_law_pair_left s_law_pair_left rfl rfl M_law_pair_left k_law_pair_left (bn_cons b_range (bn_cons b_len bn_nil)) (fn_cons g_law_is_move (by decide) (fn_cons g_law_mask (by decide) (fn_cons g_law_back (by decide) fn_nil))) con_nil dic_nil
  have g_law_part_in_order : FnG P w K mg base 2 { K := K, cls := fun _ => 0, hsh := nkHash P w } m_law_part_in_order "_law_part_in_order" := def_ok D_law_part_in_order s_law_part_in_order rfl rfl M_law_part_in_order k_law_part_in_order (bn_cons b_len bn_nil) (fn_cons g_law_is_move (by decide) fn_nil) con_nil dic_nil
  have g_law_key : FnG P w K mg base 2 { K := K, cls := fun _ => 0, hsh := nkHash P w } m_law_key "_law_key" := def_ok D_law_key s_law_key rfl rfl M_law_key k_law_key bn_nil (fn_cons g_law_mask (by decide) fn_nil) con_nil dic_nil
  have g_law_counts : FnG P w K mg base 3 { K := K, cls := fun _ => 0, hsh := nkHash P w } m_law_counts "_law_counts" := def_okO D_law_counts s_law_counts rfl rfl M_law_counts k_law_counts (bn_cons b_len (bn_cons b_int bn_nil)) (fn_cons g_law_mask (by decide) (fn_cons g_law_is_move (by decide) (fn_cons g_law_key (by decide) fn_nil))) con_nil dic_nil (ClsG.noN mrk_nil (fun _ => rfl))
  intro f fd F
  exact def_bodyO F s_law rfl rfl M_law k_law (bn_cons b_list (bn_cons b_isinstance bn_nil)) (fn_cons g_law_wires (by decide) (fn_cons g_law_cell_at (by decide) (fn_cons g_law_word (by decide) (fn_cons g_trimmed (by decide) (fn_cons g_law_part_in_order (by decide) (fn_cons g_law_counts (by decide) (fn_cons g_law_pair_left (by decide) fn_nil))))))) con_nil dic_nil (ClsG.noN mrk_nil (fun _ => rfl))
abbrev R3 : PySem.W.OpenRow := PySem.W.OpenLaw.row PySem.Challenge.rw_signtable_k60_trimmed_words
abbrev qv3 : Program := PySem.W.view R3.prog [24]
def nm3_0 : List PySem.Str := ["__name__", "MOVES", "is_move", "row_of", "wires_of", "undone", "same_move", "meets", "place_undone", "trimmed", "_law_cell_at", "_law_wires", "_law_row", "_law_back", "_law_deed", "_law_word", "_law_mask", "_law_is_move", "_law_pair_left", "_law_part_in_order"]
def nm3_1 : List PySem.Str := ["_law_key", "_law_counts"]
def names3 : List PySem.Str := nm3_0 ++ nm3_1
def fs3_0 (K : PySem.W.Frag) : List Bool := [gloB K "is_move", gloB K "row_of", gloB K "wires_of", gloB K "undone", gloB K "same_move", gloB K "meets", gloB K "place_undone", gloB K "trimmed", gloB K "_law_cell_at", gloB K "_law_wires", gloB K "_law_row", gloB K "_law_back", gloB K "_law_deed", gloB K "_law_word", gloB K "_law_mask", gloB K "_law_is_move", gloB K "_law_pair_left", gloB K "_law_part_in_order", gloB K "_law_key", gloB K "_law_counts"]
def fs3_1 (K : PySem.W.Frag) : List Bool := [gloB K "law", freeB K "sorted", freeB K "any", freeB K "range", freeB K "len", freeB K "tuple", freeB K "min", freeB K "int", freeB K "list", freeB K "isinstance", tupSB K "MOVES" ["mix", "quarter", "back", "flip", "sign", "join", "both", "swap"]]
def fs3 (K : PySem.W.Frag) : List (List Bool) := [fs3_0 K, fs3_1 K]
def fn3_0 : List He.DefD := [dD "is_move" (top 2) [], dD "row_of" (top 3) [], dD "wires_of" (top 4) [], dD "undone" (top 5) [], dD "same_move" (top 7) [], dD "meets" (top 8) [], dD "place_undone" (top 9) [], dD "trimmed" (top 10) [], dD "_law_cell_at" (top 12) [], dD "_law_wires" (top 13) [], dD "_law_row" (top 14) [], dD "_law_back" (top 15) [], dD "_law_deed" (top 16) [], dD "_law_word" (top 17) [], dD "_law_mask" (top 18) [], dD "_law_is_move" (top 19) [], dD "_law_pair_left" (top 20) [], dD "_law_part_in_order" (top 21) [], dD "_law_key" (top 22) [], dD "_law_counts" (top 23) []]
def fn3_1 : List He.DefD := [dD "law" (top 24) []]
def fn3 : List He.DefD := fn3_0 ++ fn3_1
def tb3 : List (Str × List (Str × Int)) := []
abbrev hk3 : PySem.W.Hook := hookL 6 fs3 fn3 tb3
def ob3 (s : PySem.W.SharedT) : AlL := obsLG 6 fs3 fn3 tb3 (HandSHeadRun.getT s)
theorem ob3_eq (s : PySem.W.SharedT) : ob3 s = hk3.obs s.abs := obsLG_eq (HandSHeadRun.getT_eq s)
theorem run3F (w : World) : HandSHeadRun.RunEq R3 qv3 hk3 ob3 20000 names3 (w.withFollow "special-get-raises" false) := by
  intro os
  kernel_rfl
theorem run3T (w : World) : HandSHeadRun.RunEq R3 qv3 hk3 ob3 20000 names3 (w.withFollow "special-get-raises" true) := by
  intro os
  kernel_rfl
theorem run3 (w : World) : HandSHeadRun.RunEq R3 qv3 hk3 ob3 20000 names3 w := PySem.W.byRow2 "special-get-raises" (P := fun w => HandSHeadRun.RunEq R3 qv3 hk3 ob3 20000 names3 w) run3F run3T w
theorem facts3 {P : Program} {w : World} {K : PySem.W.Frag} {h : Heap} {mg : Str → Option Value} {f : Addr} (X : K.In h) (G : h.Ns mainGlobals mg) (hfa : mg "law" = some (.ref f)) (c : obsL fs3 fn3 tb3 K = valL fn3 tb3 w) :
    ∃ fd : FuncData, (∀ (s : Shared) (u : Value), BindsTo s fd ⟨[u], []⟩ [("_law_script", u)]) ∧ ∀ base : Heap, K.In base → base.Ns mainGlobals mg → FnOk P w K mg base CX0 6 f fd ["_law_script"] (spL K) :=
  all_mk hfa (defAtH (hk_dD c 0 rfl rfl) X G (hk_fact c 0 0 rfl rfl) fun _ _ _ _ _ _ us hl => match us, hl with | [_], _ => rfl)
    (defAtH (hk_dD c 1 rfl rfl) X G (hk_fact c 0 1 rfl rfl) fun _ _ _ _ _ _ us hl => match us, hl with | [_], _ => rfl)
    (defAtH (hk_dD c 2 rfl rfl) X G (hk_fact c 0 2 rfl rfl) fun _ _ _ _ _ _ us hl => match us, hl with | [_], _ => rfl)
    (defAtH (hk_dD c 3 rfl rfl) X G (hk_fact c 0 3 rfl rfl) fun _ _ _ _ _ _ us hl => match us, hl with | [_], _ => rfl)
    (defAtH (hk_dD c 4 rfl rfl) X G (hk_fact c 0 4 rfl rfl) fun _ _ _ _ _ _ us hl => match us, hl with | [_, _], _ => rfl)
    (defAtH (hk_dD c 5 rfl rfl) X G (hk_fact c 0 5 rfl rfl) fun _ _ _ _ _ _ us hl => match us, hl with | [_, _], _ => rfl)
    (defAtH (hk_dD c 6 rfl rfl) X G (hk_fact c 0 6 rfl rfl) fun _ _ _ _ _ _ us hl => match us, hl with | [_, _], _ => rfl)
    (defAtH (hk_dD c 7 rfl rfl) X G (hk_fact c 0 7 rfl rfl) fun _ _ _ _ _ _ us hl => match us, hl with | [_], _ => rfl)
    (defAtH (hk_dD c 8 rfl rfl) X G (hk_fact c 0 8 rfl rfl) fun _ _ _ _ _ _ us hl => match us, hl with | [_, _], _ => rfl)
    (defAtH (hk_dD c 9 rfl rfl) X G (hk_fact c 0 9 rfl rfl) fun _ _ _ _ _ _ us hl => match us, hl with | [_], _ => rfl)
    (defAtH (hk_dD c 10 rfl rfl) X G (hk_fact c 0 10 rfl rfl) fun _ _ _ _ _ _ us hl => match us, hl with | [_, _], _ => rfl)
    (defAtH (hk_dD c 11 rfl rfl) X G (hk_fact c 0 11 rfl rfl) fun _ _ _ _ _ _ us hl => match us, hl with | [_, _], _ => rfl)
    (defAtH (hk_dD c 12 rfl rfl) X G (hk_fact c 0 12 rfl rfl) fun _ _ _ _ _ _ us hl => match us, hl with | [_, _, _], _ => rfl)
    (defAtH (hk_dD c 13 rfl rfl) X G (hk_fact c 0 13 rfl rfl) fun _ _ _ _ _ _ us hl => match us, hl with | [_, _], _ => rfl)
    (defAtH (hk_dD c 14 rfl rfl) X G (hk_fact c 0 14 rfl rfl) fun _ _ _ _ _ _ us hl => match us, hl with | [_], _ => rfl)
    (defAtH (hk_dD c 15 rfl rfl) X G (hk_fact c 0 15 rfl rfl) fun _ _ _ _ _ _ us hl => match us, hl with | [_], _ => rfl)
    (defAtH (hk_dD c 16 rfl rfl) X G (hk_fact c 0 16 rfl rfl) fun _ _ _ _ _ _ us hl => match us, hl with | [_], _ => rfl)
    (defAtH (hk_dD c 17 rfl rfl) X G (hk_fact c 0 17 rfl rfl) fun _ _ _ _ _ _ us hl => match us, hl with | [_, _], _ => rfl)
    (defAtH (hk_dD c 18 rfl rfl) X G (hk_fact c 0 18 rfl rfl) fun _ _ _ _ _ _ us hl => match us, hl with | [_], _ => rfl)
    (defAtH (hk_dD c 19 rfl rfl) X G (hk_fact c 0 19 rfl rfl) fun _ _ _ _ _ _ us hl => match us, hl with | [_], _ => rfl)
    (defAtH (hk_dD c 20 rfl rfl) X G (hk_fact c 1 0 rfl rfl) fun _ _ _ _ _ _ us hl => match us, hl with | [_], _ => rfl)
    (freeB_ok X G (hk_fact c 1 1 rfl rfl))
    (freeB_ok X G (hk_fact c 1 2 rfl rfl))
    (freeB_ok X G (hk_fact c 1 3 rfl rfl))
    (freeB_ok X G (hk_fact c 1 4 rfl rfl))
    (freeB_ok X G (hk_fact c 1 5 rfl rfl))
    (freeB_ok X G (hk_fact c 1 6 rfl rfl))
    (freeB_ok X G (hk_fact c 1 7 rfl rfl))
    (freeB_ok X G (hk_fact c 1 8 rfl rfl))
    (freeB_ok X G (hk_fact c 1 9 rfl rfl))
    (tupSB_ok (zs := ["mix", "quarter", "back", "flip", "sign", "join", "both", "swap"]) X G (hk_fact c 1 10 rfl rfl)) law_holds
end Llaw_k60_trimmed_words
open PySem PySem.W PySem.Calls PyProof.Rows
set_option maxRecDepth 100000 in
set_option maxHeartbeats 0 in
theorem PySem.Challenge.cw_signtable_k60_trimmed_words_holds : PySem.Challenge.rw_signtable_k60_trimmed_words.Holds := by
  w_on; o_law
  refine HandSHeadRun.head_any (r := OpenLaw.row PySem.Challenge.rw_signtable_k60_trimmed_words) (q := Llaw_k60_trimmed_words.qv3) (H := Llaw_k60_trimmed_words.hk3) (ob := Llaw_k60_trimmed_words.ob3) (M := 20000) (loose := Llaw_k60_trimmed_words.names3) (d := HandSHeadRun.topDef (OpenLaw.row PySem.Challenge.rw_signtable_k60_trimmed_words).prog 24) (kwd := []) Llaw_k60_trimmed_words.ob3_eq
    (by kernel_rfl) (fun s => by kernel_rfl) Llaw_k60_trimmed_words.run3 (by kernel_rfl) (by kernel_rfl) (by kernel_rfl) (by rfl) (by first | assumption | decide +kernel) (by decide +kernel) ⟨rfl, rfl, rfl, rfl, rfl, by decide +kernel⟩ ?hw ?hc
  case hw => w_witness2
  case hc =>
    refine DL.walk_ofEB (l := PySem.Challenge.rw_signtable_k60_trimmed_words) (n := 63) (k := 6) (x := "_law_script") rfl (by decide) (by kernel_rfl) ⟨rfl, by decide, by decide⟩ ?F
    intro w mg fa h Y G hmg0
    obtain ⟨K, KX, c⟩ := Y
    have hmg : mg ("law" : PySem.Str) = some (.ref fa) := by
      have e : (HandSHeadRun.topDef (OpenLaw.row PySem.Challenge.rw_signtable_k60_trimmed_words).prog 24).name = ("law" : PySem.Str) := by kernel_rfl
      rw [← e]; exact hmg0
    obtain ⟨fd, hb, hF⟩ := Llaw_k60_trimmed_words.facts3 (P := (PySem.Challenge.rw_signtable_k60_trimmed_words).prog) (w := w) KX G hmg c
    exact ⟨K, fd, DL.spL K, KX, hb, fun H a ns hl hb hO hS => ⟨a, ns, rfl, hl, hb, hO, hS, fun _ => rfl⟩, hF⟩
