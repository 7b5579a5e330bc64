import PyProof.Rows.All
import Wide.All
import OpenK.AllK
import Wide.FinOn
import HandS.Base
import HandS.Call
import HandS.Words
import HandS.List
import HandS.Wide
import HandS.Comp
import HandS.Iter
import HandS.Zip
import HandS.IsInst
import HandS.Style
import HandS.Ends
import HandS.Defaults
import PyProof.EqAt
import PyProof.EqKinds
import PyProof.TupleCall
import HandS.Exc
import HandS.TryOnly
import HandS.TryMany
import HandS.WordsExc
import HandS.ExcOwn
import HandS.ExcInit
import KE.KExcIs
import KE.RegKTryMore
import HandS.Dict
import PySem.Challenge.RW_ohmyard_k01_a_fraction
set_option Elab.async false
set_option linter.all false
set_option maxRecDepth 100000
set_option maxHeartbeats 4000000
set_option autoImplicit false
/-! A try whose caught exception stays as a thing of the heap. -/
namespace DL
open PySem L2 PySem.Spec PyProof.Rows
/-- an exception that was caught: its class, its dict -/
def KEx (cls : Value) (d : Option Addr) (a : Addr) : HO := .ext fun h => ∃ (oe : Obj) (vs : Array Value), h.get? a = some oe ∧ Zc cls d oe ∧ oe.data = .fields vs
theorem kex_ok {P : Program} {w : World} {H : Hp} {h : Heap} {a : Addr} {cls : Value} {d : Option Addr} {oe : Obj} {vs : Array Value} (e : h.get? a = some oe) (z : Zc cls d oe) (dd : oe.data = .fields vs) : ObjOk P w H h a (KEx cls d a) :=
  ⟨⟨oe, vs, e, z, dd⟩, ⟨oe, e⟩, fun _ _ ⟨o, v, q, r, t⟩ k => ⟨o, v, k o q, r, t⟩⟩
section
variable {X : Cx} {pins : List (Addr × Obj)} {σ : L2.St} {H : Hp} {s : Shared}
theorem inv_track {a : Addr} {cls : Value} {d : Option Addr} {oe : Obj} {vs : Array Value} (I : Inv X pins σ H s) (ha : s.heap.get? a = some oe) (hz : Zc cls d oe) (hd : oe.data = .fields vs) (na : H a = none) (n0 : X.s_0.heap.get? a = none)
    (nL : a ≠ X.env.locals) (nc : ∀ x c, X.env.cells.lookup x = some c → c ≠ a) (np : ∀ p ∈ X.pn ++ pins, p.1 ≠ a) : Inv X pins σ (upd H a (KEx cls d a)) s := by
  refine ⟨I.ok, I.os, I.bare, ⟨I.base.keep, I.base.slot, fun b o e n hx => ?_, I.base.there, fun b xs q => ?_, fun b o u q => ?_, fun b ps q => ?_⟩, I.loc, I.cell, ?_, fun x c e => ?_, fun p hp => ?_, fun b o e => ?_, I.len⟩
  · rw [upd_ne fun z => by rw [z, n0] at e; cases e]
    exact I.base.free b o e n hx
  · have := I.base.tups b xs q
    rw [upd_ne (ne_of_none this na)]
    exact this
  · have := I.base.frzs b o u q
    rw [upd_ne (ne_of_none this na)]
    exact this
  · obtain ⟨more, this⟩ := I.base.tbls b ps q
    exact ⟨more, by rw [upd_ne (ne_of_none this na)]; exact this⟩
  · rw [upd_ne (Ne.symm nL)]
    exact I.free
  · rw [upd_ne (nc x c e)]
    exact I.freeC x c e
  · obtain ⟨q1, q2, q3⟩ := I.pin p hp
    exact ⟨q1, by rw [upd_ne (np p hp)]; exact q2, q3⟩
  · by_cases hb : b = a
    · subst hb
      rw [upd_same] at e
      cases e
      exact kex_ok ha hz hd
    · rw [upd_ne hb] at e
      exact (I.hok b o e).stay (fun c v _ q => q) (fun c q => by rw [upd_ne (ne_of_none q na)]; exact q) fun c xs q => by rw [upd_ne (ne_of_none q na)]; exact q
theorem inv_suite (I : Inv X pins σ H s) (a : Addr) : Inv (X.suite a (X.pn ++ pins)) [] σ H s :=
  ⟨I.ok.suite _ _, I.os, I.bare, I.base, I.loc, I.cell, I.free, I.freeC, fun p hp => I.pin p (by rw [List.append_nil] at hp; exact hp), I.hok, I.len⟩
theorem inv_unsuite {a : Addr} {pn' : List (Addr × Obj)} (I : Inv (X.suite a (X.pn ++ pins)) pn' σ H s) (ok : X.Ok) : Inv X pins σ H s :=
  ⟨ok, I.os, I.bare, I.base, I.loc, I.cell, I.free, I.freeC, fun p hp => I.pin p (List.mem_append_left _ hp), I.hok, I.len⟩
end
/-- what the clauses wish of an exception of the body, one after the other: the class, the slot of its name, the suite -/
def wK (K : PySem.W.Frag) (Wout : WX) (D : Ends) : List (Value × Option Nat × TS) → WX
  | [] => Wout
  | (c, none, ts) :: r => fun cls d σ H => ∃ b, PySem.W.exmOne K cls c = some b ∧ (b = true → ∀ a, H a = none → ts D σ (upd H a (KEx cls d a))) ∧ (b = false → wK K Wout D r cls d σ H)
  | (c, some i, ts) :: r => fun cls d σ H => ∃ b, PySem.W.exmOne K cls c = some b ∧
    (b = true → ∀ a, H a = none → ts { nx := fun σ' H' => D.nx (σ'.set i none) H', rt := D.rt, bk := fun σ' H' => D.bk (σ'.set i none) H', ct := fun σ' H' => D.ct (σ'.set i none) H' } (σ.set i (some (.ref a))) (upd H a (KEx cls d a))) ∧ (b = false → wK K Wout D r cls d σ H)
inductive HdsK (X : Cx) : List ExceptHandler → List (Value × Option Nat × TS) → Prop
  | nil : HdsK X [] []
  | bare {x : Str} {c : Value} {ts : TS} {b₀ : Stmt} {suite : List Stmt} {np pos' : Pos} {hds : List ExceptHandler} {l : List (Value × Option Nat × TS)} (hc : Names X x c)
      (hsu : ∀ (a : Addr) (pn : List (Addr × Obj)), PSs (X.suite a pn) (b₀ :: suite) ts) (r : HdsK X hds l) : HdsK X (.ExceptHandler (some (.Name x np)) none (b₀ :: suite) pos' :: hds) ((c, none, ts) :: l)
  | named {x n : Str} {i : Nat} {c : Value} {ts : TS} {b₀ : Stmt} {suite : List Stmt} {np pos' : Pos} {hds : List ExceptHandler} {l : List (Value × Option Nat × TS)} (hN : X.N.Nodup) (hi : X.N[i]? = some n) (hln : X.env.kindOf n = some .local) (hc : Names X x c)
      (hsu : ∀ (a : Addr) (pn : List (Addr × Obj)), PSs (X.suite a pn) (b₀ :: suite) ts) (r : HdsK X hds l) : HdsK X (.ExceptHandler (some (.Name x np)) (some n) (b₀ :: suite) pos' :: hds) ((c, some i, ts) :: l)
section
variable {X : Cx} {body : List Stmt} {h₀ : ExceptHandler} {hds : List ExceptHandler} {l : List (Value × Option Nat × TS)} {pos : Pos} {tb : WX → TS} {Wout : WX}
theorem ps_tryK (hs : X.stack = X.env :: X.outer) (hf : X.env.frame = some X.env.locals) (hex : X.ex = []) (tk : Takes X Wout)
    (hb : ∀ (W : WX) (pn : List (Addr × Obj)) (xe : Value → Shared → Prop), Takes (X.tr pn xe) W → PassesOwn (model X.prog X.w) X.A X.env xe → PSs (X.tr pn xe) body (tb W))
    (hh : HdsK X (h₀ :: hds) l) : PS X (.Try body (h₀ :: hds) [] [] pos) (fun D σ H => tb (wK X.K Wout D l) D σ H) := by
  refine ⟨fun pins s σ H D I h => ?_⟩
  have ok := I.ok
  have hfr : X.A.frames = some (X.env :: X.outer) := by rw [ok.frames, hs]
  refine wpAny_Try_except ?_
  refine wpAny_mono ((hb (wK X.K Wout D l) (X.pn ++ pins) (fun e s₁ => wpAny (model X.prog X.w) X.A (noteFrame e X.env) (fun _ s₂ => wpAny (model X.prog X.w) X.A (setFlight e none) (fun _ s₃ =>
    wpAny (model X.prog X.w) X.A (handleBy e X.env (h₀ :: hds)) (SP X pins D) X.xe s₃) X.xe s₂) X.xe s₁) (fun u s' xx => ?_) PassesOwn.looking).run [] s σ H D (I.toTry _) h) (fun f s1 hsp => ?_) (fun e s1 he => he)
  · obtain ⟨a, B, sI, pins', σ', H', cls, d, rfl, J', nb, up, sky, na, os, ag, w⟩ := xx
    have J : Inv X pins σ' H' sI := J'.ofTry ok
    have sky' : Sky B (X.env :: X.outer) a (Zc cls d) X.env.locals s'.heap := by rw [← hs]; exact sky
    show wpAny (model X.prog X.w) X.A (noteFrame (.ref a) X.env) _ _ _
    refine Sky.land Zc.steady hfr hf sky' fun h3 fl3 up3 => ?_
    have J3 : Inv X pins σ' H' { s' with heap := h3 } := J.landed nb fl3.1 (up.trans up3) os ag
    obtain ⟨oe3, vs3, he3, hz3, hd3⟩ := fl3.there
    have notFr : ∀ {h : Heap} {o : Obj} {vs : Array Value}, h.FunFrames B (X.env :: X.outer) → h.get? a = some o → o.data = .fields vs → a ∉ frs (X.env :: X.outer) := fun {h o vs} ff e dd hm => by
      obtain ⟨_, o', e', hnf⟩ := ff.mem hm
      rw [e] at e'; cases e'
      exact hnf _ dd
    have nfr := notFr fl3.2.2.1 he3 hd3
    have nL : a ≠ X.env.locals := fun z => nfr (List.mem_filterMap.mpr ⟨X.env, List.mem_cons_self, by rw [hf, z]⟩)
    have nF : a ∉ X.fs := fun hm => by
      obtain ⟨e, he, q⟩ := List.mem_filterMap.mp hm
      exact nfr (List.mem_filterMap.mpr ⟨e, List.mem_cons_of_mem _ he, q⟩)
    have nI : sI.heap.get? a = none := by
      cases e : sI.heap.get? a with
      | none => rfl
      | some o =>
        have z := nb a o e (by rw [hs]; exact nfr)
        rw [fl3.2.1] at z
        cases z
    have n0 : X.s_0.heap.get? a = none := by
      cases e : X.s_0.heap.get? a with
      | none => rfl
      | some o =>
        obtain ⟨o', z⟩ := J.base.there a o e (by rw [hex]; exact fun q => nomatch q)
        rw [nI] at z
        cases z
    have nc : ∀ x c, X.env.cells.lookup x = some c → c ≠ a := fun x c e z => by
      obtain ⟨v, o, ho, _⟩ := J.cell x c e
      rw [z, nI] at ho
      cases ho
    have npin : ∀ p ∈ X.pn ++ pins, p.1 ≠ a := fun p hp z => by
      have q := (J.pin p hp).1
      rw [z, nI] at q
      cases q
    have S3 := J3.suite he3 hd3 na nL nF
    have go : ∀ {hds' : List ExceptHandler} {l' : List (Value × Option Nat × TS)}, HdsK X hds' l' → wK X.K Wout D l' cls d σ' H' →
        wpAny (model X.prog X.w) X.A (handleBy (.ref a) X.env hds') (SP X pins D) X.xe { s' with heap := h3 } := by
      intro hds' l' hk
      have test : ∀ {x : Str} {c : Value} {np : Pos} {Q : Value → Shared → Prop} {E : Value → Shared → Prop}, Names X x c → Q c { s' with heap := h3 } → wpAny (model X.prog X.w) (X.A.mark (some (.ref a))) (eval (.Name x np) X.env) Q E { s' with heap := h3 } := fun {x c np Q E} hc q => by
        obtain ⟨hg, hdbg, hm | ⟨hm, hv, hnn⟩⟩ := hc
        · exact ld_glob (X := X.suite a ((a, oe3) :: (X.pn ++ pins))) S3 hg hm q hdbg
        · exact ld_blt (X := X.suite a ((a, oe3) :: (X.pn ++ pins))) S3 hg hm hv q hnn hdbg
      have LT : PySem.W.Looks (model X.prog X.w) h3 (typeOf (.ref a)) cls := fun A Q E s k q => wpAny_typeOf_ref (k _ _ he3) (by rw [hz3.1]; exact q)
      induction hk with
      | nil =>
        intro w
        refine wpAny_handleBy_nil ?_
        obtain ⟨k1, k2, k3, oe, vs, T, oT, ts', he, hz, hd, h1, hr⟩ := id fl3
        unfold PySem.passOn
        refine wpAny_bind (wpAny_field he hd h1 ?_)
        rw [if_neg (show ¬ ((Value.ref T == Value.none) = true) from by simp)]
        have fin : wpAny (model X.prog X.w) X.A (setFlight (.ref a) X.env.frame) (fun _ s4 => wpAny (model X.prog X.w) X.A (throw (.ref a) : Sem Flow) (SP X pins D) X.xe s4) X.xe { s' with heap := h3 } := by
          rw [hf]
          refine HandSPX.setFlight_upZ fl3 fun h4 hh4 up4 => wpAny_throw (tk _ _ ?_)
          exact ⟨a, B, sI, pins, σ', H', cls, d, rfl, J, nb, (up.trans up3).trans up4, .inr (.inr (by rw [hs]; exact hh4)), na, os, ag, w⟩
        first
          | exact wpAny_bind (wpAny_pure (wpAny_bind fin))
          | exact wpAny_bind fin
      | @bare x c ts b₀ suite np pos' hds2 l2 hc hsu r ih =>
        intro w
        obtain ⟨b, hb1, hyes, hno⟩ := w
        refine wpAny_handleBy_cons (codeAny_handlers_test ?_) (by intro q; cases q)
        have LM := PySem.W.exm_one (M := model X.prog X.w) (J3.kIn) LT hb1
        refine test hc (LM.here ?_)
        cases b with
        | true =>
          refine codeAny_handlers_suite ?_
          refine HandSPX.lands_againZ fl3 fun h4 fl4 up4 => ?_
          have J4 : Inv X pins σ' H' { s' with heap := h4 } := J.landed nb fl4.1 ((up.trans up3).trans up4) os ag
          obtain ⟨oe4, vs4, he4, hz4, hd4⟩ := fl4.there
          have S4 := inv_suite (inv_track J4 he4 hz4 hd4 na n0 nL nc npin) a
          refine wpAny_mono ((hsu a (X.pn ++ pins)).run [] _ _ _ _ S4 (hyes rfl a na)) (fun f s6 hsp => ?_) (fun _ _ z => False.elim z)
          cases f with
          | next =>
            obtain ⟨σ6, H6, S6, q6⟩ := hsp
            exact ⟨_, _, inv_unsuite S6 ok, q6⟩
          | brk =>
            obtain ⟨σ6, H6, S6, q6⟩ := hsp
            exact ⟨_, _, inv_unsuite S6 ok, q6⟩
          | cont =>
            obtain ⟨σ6, H6, S6, q6⟩ := hsp
            exact ⟨_, _, inv_unsuite S6 ok, q6⟩
          | ret u =>
            obtain ⟨v6, σ6, H6, S6, r6, q6⟩ := hsp
            exact ⟨_, _, _, inv_unsuite S6 ok, r6, q6⟩
        | false =>
          show wpAny _ X.A (handleBy (.ref a) X.env hds2) _ _ _
          exact ih (hno rfl)
      | @named x n i c ts b₀ suite np pos' hds2 l2 hN hi hln hc hsu r ih =>
        intro w
        obtain ⟨b, hb1, hyes, hno⟩ := w
        refine wpAny_handleBy_cons (codeAny_handlers_test ?_) (by intro q; cases q)
        have LM := PySem.W.exm_one (M := model X.prog X.w) (J3.kIn) LT hb1
        refine test hc (LM.here ?_)
        cases b with
        | true =>
          refine codeAny_handlers_suite_as ?_
          refine HandSPX.lands_againZ fl3 fun h4 fl4 up4 => ?_
          have J4 : Inv X pins σ' H' { s' with heap := h4 } := J.landed nb fl4.1 ((up.trans up3).trans up4) os ag
          obtain ⟨oe4, vs4, he4, hz4, hd4⟩ := fl4.there
          have S4 := inv_suite (inv_track J4 he4 hz4 hd4 na n0 nL nc npin) a
          refine store_ok (X := X.suite a (X.pn ++ pins)) (v := .ref a) S4 hN hi (.inl hln) rfl (fun s5 S5 => ?_) (.inr hln)
          refine wpAny_mono ((hsu a (X.pn ++ pins)).run [] s5 _ _ _ S5 (hyes rfl a na)) (fun f s6 hsp => ?_) (fun _ _ z => False.elim z)
          have end_ : ∀ {σ6 : L2.St} {H6 : Hp} {Q : Shared → Prop}, Inv (X.suite a (X.pn ++ pins)) [] σ6 H6 s6 → (∀ s7, Inv X pins (σ6.set i none) H6 s7 → Q s7) →
              wpAny (model X.prog X.w) X.A (do bindName X.env n .none; unbindBehindTheSuite X.env n pos') (fun _ s7 => Q s7) X.xe s6 := fun {σ6 H6 Q} S6 hq => gone_ok (inv_unsuite S6 ok) hN hi hln hq
          cases f with
          | next =>
            obtain ⟨σ6, H6, S6, q6⟩ := hsp
            exact end_ S6 fun s7 J7 => ⟨_, _, J7, q6⟩
          | brk =>
            obtain ⟨σ6, H6, S6, q6⟩ := hsp
            exact end_ S6 fun s7 J7 => ⟨_, _, J7, q6⟩
          | cont =>
            obtain ⟨σ6, H6, S6, q6⟩ := hsp
            exact end_ S6 fun s7 J7 => ⟨_, _, J7, q6⟩
          | ret u =>
            obtain ⟨v6, σ6, H6, S6, r6, q6⟩ := hsp
            exact end_ S6 fun s7 J7 => ⟨_, _, _, J7, r6, q6⟩
        | false =>
          show wpAny _ X.A (handleBy (.ref a) X.env hds2) _ _ _
          exact ih (hno rfl)
    exact go hh w
  · cases f with
    | next =>
      obtain ⟨σ', H', J', q⟩ := hsp
      exact wpAny_execs_nil ⟨σ', H', J'.ofTry ok, q⟩
    | brk =>
      obtain ⟨σ', H', J', q⟩ := hsp
      exact ⟨σ', H', J'.ofTry ok, q⟩
    | cont =>
      obtain ⟨σ', H', J', q⟩ := hsp
      exact ⟨σ', H', J'.ofTry ok, q⟩
    | ret u =>
      obtain ⟨v, σ', H', J', r, q⟩ := hsp
      exact ⟨v, σ', H', J'.ofTry ok, r, q⟩
end
end DL
/-! Data by value over the hand layer: Dat (shared data), OT (a tree of objects of one's own), their standing in an abstract heap. -/
namespace DL
open PySem L2

inductive Dat where
  | non | bl (b : Bool) | int (i : Int) | str (x : Str)
  | tup (xs : List Dat) | lst (xs : List Dat)
  | obj (c : String) (ns : List Str) (xs : List Dat)
  | dct (ks : List Key) (xs : List Dat)
  /-- an exception that was caught -/
  | exn (c : String) (ns : List Str) (xs : List Dat)
  deriving Inhabited

inductive OT where
  | un
  | sh (d : Dat)
  | tup (xs : List OT) | lst (xs : List OT)
  | obj (c : String) (ns : List Str) (xs : List OT)
  | dct (ks : List Key) (xs : List OT)
  deriving Inhabited

/-- what is known of the written part, and where the classes stand -/
structure KC where
  K : PySem.W.Frag
  cl : String → Addr

/-- the dict of an exception -/
def XD (B : Hp) : Option Addr → List (Str × V) → Prop
  | none, fs => fs = []
  | some dd, fs => B dd = some (.xd fs)
theorem XD.mono {B B' : Hp} (e : Same B B') : ∀ {d : Option Addr} {fs : List (Str × V)}, XD B d fs → XD B' d fs
  | none, _, h => h
  | some _, _, h => e _ _ h
mutual
def Rep (k : KC) (B : Hp) : Dat → V → Prop
  | .non, v => v = .non
  | .bl b, v => v = .bl b
  | .int i, v => v = .int i
  | .str x, v => v = .str x
  | .tup ds, v => ∃ p vs, v = .ref p ∧ SqT k.K B p vs ∧ Reps k B ds vs
  | .lst ds, v => ∃ p vs, v = .ref p ∧ SqL k.K B p vs ∧ Reps k B ds vs
  | .obj c ns ds, v => ∃ p dx vs, v = .ref p ∧ B p = some (.ins (k.cl c) dx (ns.zip vs)) ∧ ns.length = vs.length ∧ Reps k B ds vs
  | .dct ks ds, v => ∃ p vs, v = .ref p ∧ Rd B p (.dK (ks.zip vs)) ∧ ks.length = vs.length ∧ Reps k B ds vs
  | .exn c ns ds, v => ∃ p d vs, v = .ref p ∧ B p = some (KEx (.ref (k.cl c)) d p) ∧ XD B d (ns.zip vs) ∧ ns.length = vs.length ∧ Reps k B ds vs
def Reps (k : KC) (B : Hp) : List Dat → List V → Prop
  | [], vs => vs = []
  | d :: ds, vs => ∃ v r, vs = v :: r ∧ Rep k B d v ∧ Reps k B ds r
end

mutual
/-- π: the way to the node, the last step first; w: whose node an address is -/
def ORep (k : KC) (B H : Hp) (w : Addr → Option (List Nat)) : List Nat → OT → V → Prop
  | _, .un, _ => True
  | _, .sh d, v => Rep k B d v
  | π, .tup xs, v => ∃ p vs, v = .ref p ∧ H p = some (.tup vs) ∧ w p = some π ∧ OReps k B H w π 0 xs vs
  | π, .lst xs, v => ∃ p vs, v = .ref p ∧ H p = some (.lst vs) ∧ w p = some π ∧ OReps k B H w π 0 xs vs
  | π, .obj c ns xs, v => ∃ p dx vs, v = .ref p ∧ H p = some (.ins (k.cl c) dx (ns.zip vs)) ∧ ns.length = vs.length ∧ w p = some π ∧ OReps k B H w π 0 xs vs
  | π, .dct ks xs, v => ∃ p vs, v = .ref p ∧ H p = some (.dK (ks.zip vs)) ∧ ks.length = vs.length ∧ w p = some π ∧ OReps k B H w π 0 xs vs
def OReps (k : KC) (B H : Hp) (w : Addr → Option (List Nat)) : List Nat → Nat → List OT → List V → Prop
  | _, _, [], vs => vs = []
  | π, n, o :: os, vs => ∃ v r, vs = v :: r ∧ ORep k B H w (n :: π) o v ∧ OReps k B H w π (n + 1) os r
end

mutual
def OT.dat : OT → Dat
  | .un => .non
  | .sh d => d
  | .tup xs => .tup (OT.dats xs)
  | .lst xs => .lst (OT.dats xs)
  | .obj c ns xs => .obj c ns (OT.dats xs)
  | .dct ks xs => .dct ks (OT.dats xs)
def OT.dats : List OT → List Dat
  | [] => []
  | o :: os => o.dat :: OT.dats os
end
mutual
/-- nothing in it is undefined -/
def OT.ok : OT → Bool
  | .un => false
  | .sh _ => true
  | .tup xs => OT.oks xs
  | .lst xs => OT.oks xs
  | .obj _ _ xs => OT.oks xs
  | .dct _ xs => OT.oks xs
def OT.oks : List OT → Bool
  | [] => true
  | o :: os => o.ok && OT.oks os
end

theorem rd_mono {B B' : Hp} (e : Same B B') {a : Addr} {u : HO} (h : Rd B a u) : Rd B' a u := by
  rcases h with h | ⟨o, h⟩
  · exact .inl (e _ _ h)
  · exact .inr ⟨o, e _ _ h⟩
theorem sqL_mono {K : PySem.W.Frag} {B B' : Hp} (e : Same B B') {a : Addr} {xs : List V} (h : SqL K B a xs) : SqL K B' a xs := by
  rcases h with h | h
  · exact .inl (rd_mono e h)
  · exact .inr h
theorem sqR {K : PySem.W.Frag} {B B' : Hp} (e : Same B B') {a : Addr} {xs : List V} (h : SqL K B a xs) : SqL K B' a xs := sqL_mono e h
theorem sqT_mono {K : PySem.W.Frag} {B B' : Hp} (e : Same B B') {a : Addr} {xs : List V} (h : SqT K B a xs) : SqT K B' a xs := by
  rcases h with h | h
  · exact .inl (rd_mono e h)
  · exact .inr h

mutual
theorem Rep.mono {k : KC} {B B' : Hp} (e : Same B B') : ∀ {d : Dat} {v : V}, Rep k B d v → Rep k B' d v
  | .non, v, h => by simpa only [Rep] using h
  | .bl b, v, h => by simpa only [Rep] using h
  | .int i, v, h => by simpa only [Rep] using h
  | .str x, v, h => by simpa only [Rep] using h
  | .tup ds, v, h => by
    simp only [Rep] at h ⊢
    obtain ⟨p, vs, rfl, hs, hr⟩ := h
    exact ⟨p, vs, rfl, sqT_mono e hs, Reps.mono e hr⟩
  | .lst ds, v, h => by
    simp only [Rep] at h ⊢
    obtain ⟨p, vs, rfl, hs, hr⟩ := h
    exact ⟨p, vs, rfl, sqL_mono e hs, Reps.mono e hr⟩
  | .obj c ns ds, v, h => by
    simp only [Rep] at h ⊢
    obtain ⟨p, dx, vs, rfl, hs, hl, hr⟩ := h
    exact ⟨p, dx, vs, rfl, e _ _ hs, hl, Reps.mono e hr⟩
  | .dct ks ds, v, h => by
    simp only [Rep] at h ⊢
    obtain ⟨p, vs, rfl, hs, hl, hr⟩ := h
    exact ⟨p, vs, rfl, rd_mono e hs, hl, Reps.mono e hr⟩
  | .exn c ns ds, v, h => by
    simp only [Rep] at h ⊢
    obtain ⟨p, d, vs, rfl, hs, hx, hl, hr⟩ := h
    exact ⟨p, d, vs, rfl, e _ _ hs, hx.mono e, hl, Reps.mono e hr⟩
theorem Reps.mono {k : KC} {B B' : Hp} (e : Same B B') : ∀ {ds : List Dat} {vs : List V}, Reps k B ds vs → Reps k B' ds vs
  | [], vs, h => by simpa only [Reps] using h
  | d :: ds, vs, h => by
    simp only [Reps] at h ⊢
    obtain ⟨v, r, rfl, h1, h2⟩ := h
    exact ⟨v, r, rfl, Rep.mono e h1, Reps.mono e h2⟩
end

theorem Reps.length {k : KC} {B : Hp} : ∀ {ds : List Dat} {vs : List V}, Reps k B ds vs → ds.length = vs.length
  | [], vs, h => by
    simp only [Reps] at h
    subst h
    rfl
  | d :: ds, vs, h => by
    simp only [Reps] at h
    obtain ⟨v, r, rfl, h1, h2⟩ := h
    simp [Reps.length h2]
theorem Reps.get {k : KC} {B : Hp} : ∀ {ds : List Dat} {vs : List V} {i : Nat} {d : Dat}, Reps k B ds vs → ds[i]? = some d → ∃ v, vs[i]? = some v ∧ Rep k B d v
  | [], vs, i, d, h, e => by simp at e
  | d0 :: ds, vs, 0, d, h, e => by
    simp only [Reps] at h
    obtain ⟨v, r, rfl, h1, h2⟩ := h
    simp at e
    subst e
    exact ⟨v, rfl, h1⟩
  | d0 :: ds, vs, i + 1, d, h, e => by
    simp only [Reps] at h
    obtain ⟨v, r, rfl, h1, h2⟩ := h
    simp at e
    obtain ⟨u, h3, h4⟩ := Reps.get h2 e
    exact ⟨u, by simpa using h3, h4⟩
theorem Reps.append {k : KC} {B : Hp} : ∀ {ds es : List Dat} {vs us : List V}, Reps k B ds vs → Reps k B es us → Reps k B (ds ++ es) (vs ++ us)
  | [], es, vs, us, h, h' => by
    simp only [Reps] at h
    subst h
    exact h'
  | d :: ds, es, vs, us, h, h' => by
    simp only [Reps] at h
    obtain ⟨v, r, rfl, h1, h2⟩ := h
    simp only [List.cons_append, Reps]
    exact ⟨v, r ++ us, rfl, h1, Reps.append h2 h'⟩
theorem Reps.one {k : KC} {B : Hp} {d : Dat} {v : V} (h : Rep k B d v) : Reps k B [d] [v] := by
  simp only [Reps]
  exact ⟨v, [], rfl, h, rfl⟩
theorem Reps.nil {k : KC} {B : Hp} : Reps k B [] [] := by simp only [Reps]
theorem Reps.cons {k : KC} {B : Hp} {d : Dat} {ds : List Dat} {v : V} {vs : List V} (h : Rep k B d v) (r : Reps k B ds vs) : Reps k B (d :: ds) (v :: vs) := by
  simp only [Reps]
  exact ⟨v, vs, rfl, h, r⟩
theorem Reps.take {k : KC} {B : Hp} : ∀ (n : Nat) {ds : List Dat} {vs : List V}, Reps k B ds vs → Reps k B (ds.take n) (vs.take n)
  | 0, ds, vs, h => by simp [Reps]
  | n + 1, [], vs, h => by
    simp only [Reps] at h
    subst h
    simp [Reps]
  | n + 1, d :: ds, vs, h => by
    simp only [Reps] at h
    obtain ⟨v, r, rfl, h1, h2⟩ := h
    simp only [List.take_succ_cons]
    exact .cons h1 (Reps.take n h2)
theorem Reps.drop {k : KC} {B : Hp} : ∀ (n : Nat) {ds : List Dat} {vs : List V}, Reps k B ds vs → Reps k B (ds.drop n) (vs.drop n)
  | 0, ds, vs, h => by simpa using h
  | n + 1, [], vs, h => by
    simp only [Reps] at h
    subst h
    simp [Reps]
  | n + 1, d :: ds, vs, h => by
    simp only [Reps] at h
    obtain ⟨v, r, rfl, h1, h2⟩ := h
    simp only [List.drop_succ_cons]
    exact Reps.drop n h2
theorem Reps.set {k : KC} {B : Hp} {d : Dat} {v : V} (hd : Rep k B d v) : ∀ (n : Nat) {ds : List Dat} {vs : List V}, Reps k B ds vs → Reps k B (ds.set n d) (vs.set n v)
  | n, [], vs, h => by
    simp only [Reps] at h
    subst h
    simp [Reps]
  | 0, d0 :: ds, vs, h => by
    simp only [Reps] at h
    obtain ⟨v0, r, rfl, h1, h2⟩ := h
    exact .cons hd h2
  | n + 1, d0 :: ds, vs, h => by
    simp only [Reps] at h
    obtain ⟨v0, r, rfl, h1, h2⟩ := h
    exact .cons h1 (Reps.set hd n h2)

/-! ### the tree's frame -/
/-- the addresses of the tree at π stand as they stood -/
def Keeps (π : List Nat) (w w' : Addr → Option (List Nat)) (H H' : Hp) : Prop :=
  ∀ p ρ, w p = some (ρ ++ π) → w' p = some (ρ ++ π) ∧ H' p = H p
theorem Keeps.sub {π : List Nat} {n : Nat} {w w' : Addr → Option (List Nat)} {H H' : Hp} (h : Keeps π w w' H H') : Keeps (n :: π) w w' H H' := fun p ρ e => by
  have q := h p (ρ ++ [n]) (by simpa using e)
  simpa using q
mutual
theorem ORep.frame {k : KC} {B B' H H' : Hp} {w w' : Addr → Option (List Nat)} (e : Same B B') : ∀ {π : List Nat} {o : OT} {v : V}, Keeps π w w' H H' → ORep k B H w π o v → ORep k B' H' w' π o v
  | π, .un, v, hk, h => by simp only [ORep]
  | π, .sh d, v, hk, h => by
    simp only [ORep] at h ⊢
    exact h.mono e
  | π, .tup xs, v, hk, h => by
    simp only [ORep] at h ⊢
    obtain ⟨p, vs, rfl, hp, hw, hr⟩ := h
    have q := hk p [] (by simpa using hw)
    exact ⟨p, vs, rfl, q.2.trans hp, by simpa using q.1, OReps.frame e hk hr⟩
  | π, .lst xs, v, hk, h => by
    simp only [ORep] at h ⊢
    obtain ⟨p, vs, rfl, hp, hw, hr⟩ := h
    have q := hk p [] (by simpa using hw)
    exact ⟨p, vs, rfl, q.2.trans hp, by simpa using q.1, OReps.frame e hk hr⟩
  | π, .obj c ns xs, v, hk, h => by
    simp only [ORep] at h ⊢
    obtain ⟨p, dx, vs, rfl, hp, hl, hw, hr⟩ := h
    have q := hk p [] (by simpa using hw)
    exact ⟨p, dx, vs, rfl, q.2.trans hp, hl, by simpa using q.1, OReps.frame e hk hr⟩
  | π, .dct ks xs, v, hk, h => by
    simp only [ORep] at h ⊢
    obtain ⟨p, vs, rfl, hp, hl, hw, hr⟩ := h
    have q := hk p [] (by simpa using hw)
    exact ⟨p, vs, rfl, q.2.trans hp, hl, by simpa using q.1, OReps.frame e hk hr⟩
theorem OReps.frame {k : KC} {B B' H H' : Hp} {w w' : Addr → Option (List Nat)} (e : Same B B') : ∀ {π : List Nat} {n : Nat} {os : List OT} {vs : List V}, Keeps π w w' H H' → OReps k B H w π n os vs → OReps k B' H' w' π n os vs
  | π, n, [], vs, hk, h => by simpa only [OReps] using h
  | π, n, o :: os, vs, hk, h => by
    simp only [OReps] at h ⊢
    obtain ⟨v, r, rfl, h1, h2⟩ := h
    exact ⟨v, r, rfl, ORep.frame e hk.sub h1, OReps.frame e hk h2⟩
end
/-- a tree is hung elsewhere -/
def Moves (π π' : List Nat) (w w' : Addr → Option (List Nat)) (H H' : Hp) : Prop :=
  ∀ p ρ, w p = some (ρ ++ π) → w' p = some (ρ ++ π') ∧ H' p = H p
theorem Moves.sub {π π' : List Nat} {n : Nat} {w w' : Addr → Option (List Nat)} {H H' : Hp} (h : Moves π π' w w' H H') : Moves (n :: π) (n :: π') w w' H H' := fun p ρ e => by
  have q := h p (ρ ++ [n]) (by simpa using e)
  simpa using q
mutual
theorem ORep.move {k : KC} {B B' H H' : Hp} {w w' : Addr → Option (List Nat)} (e : Same B B') : ∀ {π π' : List Nat} {o : OT} {v : V}, Moves π π' w w' H H' → ORep k B H w π o v → ORep k B' H' w' π' o v
  | π, π', .un, v, hk, h => by simp only [ORep]
  | π, π', .sh d, v, hk, h => by
    simp only [ORep] at h ⊢
    exact h.mono e
  | π, π', .tup xs, v, hk, h => by
    simp only [ORep] at h ⊢
    obtain ⟨p, vs, rfl, hp, hw, hr⟩ := h
    have q := hk p [] (by simpa using hw)
    exact ⟨p, vs, rfl, q.2.trans hp, by simpa using q.1, OReps.move e hk hr⟩
  | π, π', .lst xs, v, hk, h => by
    simp only [ORep] at h ⊢
    obtain ⟨p, vs, rfl, hp, hw, hr⟩ := h
    have q := hk p [] (by simpa using hw)
    exact ⟨p, vs, rfl, q.2.trans hp, by simpa using q.1, OReps.move e hk hr⟩
  | π, π', .obj c ns xs, v, hk, h => by
    simp only [ORep] at h ⊢
    obtain ⟨p, dx, vs, rfl, hp, hl, hw, hr⟩ := h
    have q := hk p [] (by simpa using hw)
    exact ⟨p, dx, vs, rfl, q.2.trans hp, hl, by simpa using q.1, OReps.move e hk hr⟩
  | π, π', .dct ks xs, v, hk, h => by
    simp only [ORep] at h ⊢
    obtain ⟨p, vs, rfl, hp, hl, hw, hr⟩ := h
    have q := hk p [] (by simpa using hw)
    exact ⟨p, vs, rfl, q.2.trans hp, hl, by simpa using q.1, OReps.move e hk hr⟩
theorem OReps.move {k : KC} {B B' H H' : Hp} {w w' : Addr → Option (List Nat)} (e : Same B B') : ∀ {π π' : List Nat} {n : Nat} {os : List OT} {vs : List V}, Moves π π' w w' H H' → OReps k B H w π n os vs → OReps k B' H' w' π' n os vs
  | π, π', n, [], vs, hk, h => by simpa only [OReps] using h
  | π, π', n, o :: os, vs, hk, h => by
    simp only [OReps] at h ⊢
    obtain ⟨v, r, rfl, h1, h2⟩ := h
    exact ⟨v, r, rfl, ORep.move e hk.sub h1, OReps.move e hk h2⟩
end
/-- a tree becomes shared -/
def Melts (π : List Nat) (w : Addr → Option (List Nat)) (H B' : Hp) : Prop := ∀ p ρ, w p = some (ρ ++ π) → B' p = H p
theorem Melts.sub {π : List Nat} {n : Nat} {w : Addr → Option (List Nat)} {H B' : Hp} (h : Melts π w H B') : Melts (n :: π) w H B' := fun p ρ e => h p (ρ ++ [n]) (by simpa using e)
mutual
theorem ORep.melt {k : KC} {B B' H : Hp} {w : Addr → Option (List Nat)} (e : Same B B') : ∀ {π : List Nat} {o : OT} {v : V}, Melts π w H B' → o.ok = true → ORep k B H w π o v → Rep k B' o.dat v
  | π, .un, v, hk, z, h => by simp [OT.ok] at z
  | π, .sh d, v, hk, z, h => by
    simp only [ORep, OT.dat] at h ⊢
    exact h.mono e
  | π, .tup xs, v, hk, z, h => by
    simp only [ORep, OT.dat, Rep] at h ⊢
    obtain ⟨p, vs, rfl, hp, hw, hr⟩ := h
    exact ⟨p, vs, rfl, .of ((hk p [] (by simpa using hw)).trans hp), OReps.melt e hk (by simpa only [OT.ok] using z) hr⟩
  | π, .lst xs, v, hk, z, h => by
    simp only [ORep, OT.dat, Rep] at h ⊢
    obtain ⟨p, vs, rfl, hp, hw, hr⟩ := h
    exact ⟨p, vs, rfl, .of ((hk p [] (by simpa using hw)).trans hp), OReps.melt e hk (by simpa only [OT.ok] using z) hr⟩
  | π, .obj c ns xs, v, hk, z, h => by
    simp only [ORep, OT.dat, Rep] at h ⊢
    obtain ⟨p, dx, vs, rfl, hp, hl, hw, hr⟩ := h
    exact ⟨p, dx, vs, rfl, (hk p [] (by simpa using hw)).trans hp, hl, OReps.melt e hk (by simpa only [OT.ok] using z) hr⟩
  | π, .dct ks xs, v, hk, z, h => by
    simp only [ORep, OT.dat, Rep] at h ⊢
    obtain ⟨p, vs, rfl, hp, hl, hw, hr⟩ := h
    exact ⟨p, vs, rfl, .of ((hk p [] (by simpa using hw)).trans hp), hl, OReps.melt e hk (by simpa only [OT.ok] using z) hr⟩
theorem OReps.melt {k : KC} {B B' H : Hp} {w : Addr → Option (List Nat)} (e : Same B B') : ∀ {π : List Nat} {n : Nat} {os : List OT} {vs : List V}, Melts π w H B' → OT.oks os = true → OReps k B H w π n os vs → Reps k B' (OT.dats os) vs
  | π, n, [], vs, hk, z, h => by simpa only [OReps, OT.dats, Reps] using h
  | π, n, o :: os, vs, hk, z, h => by
    simp only [OReps, OT.dats, Reps] at h ⊢
    simp only [OT.oks, Bool.and_eq_true] at z
    obtain ⟨v, r, rfl, h1, h2⟩ := h
    exact ⟨v, r, rfl, ORep.melt e hk.sub z.1 h1, OReps.melt e hk z.2 h2⟩
end
end DL
namespace DL
open PySem L2

abbrev WM := Addr → Option (List Nat)
/-- what stood when the def was entered: the heap, its shared part, the arguments' own trees -/
structure Gh where
  H0 : Hp
  B0 : Hp
  A0 : Addr → Prop
structure Sta (k : KC) (G : Gh) (B H : Hp) (w : WM) (σ : L2.St) (env : List OT) : Prop where
  bh : Same B H
  b0 : Same G.B0 B
  fr : ∀ a, G.B0 a = none → G.H0 a ≠ none → ¬ G.A0 a → B a = none ∧ H a = G.H0 a ∧ w a = none
  wb : ∀ a, w a ≠ none → B a = none
  wh : ∀ a, w a ≠ none → H a ≠ none
  len : env.length = σ.length
  sl : ∀ (i : Nat) o, env[i]? = some o → o = .un ∨ ∃ v, σ[i]? = some (some v) ∧ ORep k B H w [i] o v

/-- new objects alone have come -/
inductive Grow : Hp → Hp → Hp → Hp → Prop
  | refl {B H : Hp} : Grow B H B H
  | new {B H B1 H1 : Hp} {p : Addr} {o : HO} (g : Grow B H B1 H1) (hp : H1 p = none) : Grow B H (upd B1 p o) (upd H1 p o)
theorem Grow.trans {B H B1 H1 B2 H2 : Hp} (a : Grow B H B1 H1) (b : Grow B1 H1 B2 H2) : Grow B H B2 H2 := by
  induction b with
  | refl => exact a
  | new g hp ih => exact .new ih hp
theorem same_new {B H : Hp} {p : Addr} {o : HO} (h : Same B H) (hp : H p = none) : Same B (upd B p o) := fun a u e => by
  rw [upd_ne (ne_of_none e (h.free hp))]
  exact e
theorem same_newH {H : Hp} {p : Addr} {o : HO} (hp : H p = none) : Same H (upd H p o) := fun a u e => by
  rw [upd_ne (ne_of_none e hp)]
  exact e
theorem same_both {B H : Hp} {p : Addr} {o : HO} (h : Same B H) : Same (upd B p o) (upd H p o) := fun a u e => by
  by_cases z : a = p
  · subst z
    rw [upd_same] at e ⊢
    exact e
  · rw [upd_ne z] at e ⊢
    exact h a u e
theorem Grow.all {B H B1 H1 : Hp} (g : Grow B H B1 H1) (h : Same B H) : Same B1 H1 ∧ Same B B1 ∧ Same H H1 := by
  induction g with
  | refl => exact ⟨h, .refl _, .refl _⟩
  | new g hp ih =>
    obtain ⟨a, b, c⟩ := ih
    exact ⟨same_both a, b.trans (same_new a hp), c.trans (same_newH hp)⟩

section
variable {k : KC} {G : Gh} {B H B' H' : Hp} {w : WM} {σ : L2.St} {env : List OT}
theorem Sta.new {p : Addr} {o : HO} (S : Sta k G B H w σ env) (hp : H p = none) : Sta k G (upd B p o) (upd H p o) w σ env where
  bh := same_both S.bh
  b0 := S.b0.trans (same_new S.bh hp)
  fr := fun a h1 h2 h3 => by
    obtain ⟨x, y, z⟩ := S.fr a h1 h2 h3
    have ne : a ≠ p := fun e => by
      subst e
      rw [y] at hp
      exact h2 hp
    rw [upd_ne ne, upd_ne ne]
    exact ⟨x, y, z⟩
  wb := fun a h => by
    have ne : a ≠ p := fun e => by
      subst e
      exact S.wh _ h hp
    rw [upd_ne ne]
    exact S.wb a h
  wh := fun a h => by
    have ne : a ≠ p := fun e => by
      subst e
      exact S.wh _ h hp
    rw [upd_ne ne]
    exact S.wh a h
  len := S.len
  sl := fun i o h => by
    rcases S.sl i o h with e | ⟨v, hv, r⟩
    · exact .inl e
    · refine .inr ⟨v, hv, r.frame (same_new S.bh hp) fun q ρ e => ⟨e, ?_⟩⟩
      have ne : q ≠ p := fun z => by
        subst z
        exact S.wh q (by rw [e]; exact fun z => nomatch z) hp
      rw [upd_ne ne]
theorem Sta.grow {B1 H1 : Hp} (S : Sta k G B H w σ env) (g : Grow B H B1 H1) : Sta k G B1 H1 w σ env := by
  induction g with
  | refl => exact S
  | new g hp ih => exact ih.new hp
/-- a slot's shared value -/
theorem Sta.shd {i : Nat} {d : Dat} (S : Sta k G B H w σ env) (h : env[i]? = some (.sh d)) : ∃ v, σ[i]? = some (some v) ∧ Rep k B d v := by
  rcases S.sl i _ h with e | ⟨v, hv, r⟩
  · exact nomatch e
  · exact ⟨v, hv, by simpa only [ORep] using r⟩
/-- the ways that begin at slot i -/
theorem ends_ne {ρ ρ' : List Nat} {i j : Nat} (h : i ≠ j) : ρ ++ [i] ≠ ρ' ++ [j] := fun e => by
  have := congrArg (·.getLast?) e
  simp at this
  exact h this
/-- slot i takes a shared value -/
theorem Sta.set {i : Nat} {d : Dat} {v : V} (S : Sta k G B H w σ env) (r : Rep k B d v) : Sta k G B H w (σ.set i (some v)) (env.set i (.sh d)) where
  bh := S.bh
  b0 := S.b0
  fr := S.fr
  wb := S.wb
  wh := S.wh
  len := by simpa using S.len
  sl := fun j o h => by
    by_cases hj : i = j
    · subst hj
      rw [List.getElem?_set] at h
      rw [if_pos rfl] at h
      split at h
      · rename_i hl
        cases h
        refine .inr ⟨v, ?_, by simpa only [ORep] using r⟩
        rw [List.getElem?_set, if_pos rfl, if_pos (by rw [← S.len]; exact hl)]
      · cases h
    · rw [List.getElem?_set_ne hj] at h ⊢
      exact S.sl j o h
/-- a value of one's own: its tree's ways w1, apart from the slots' -/
structure Vt (k : KC) (G : Gh) (B H : Hp) (w w1 : WM) (o : OT) (v : V) : Prop where
  dis : ∀ a, w1 a ≠ none → w a = none ∧ B a = none ∧ H a ≠ none ∧ (G.B0 a = none → G.H0 a ≠ none → G.A0 a)
  rep : ORep k B H w1 [] o v
theorem Vt.shd {d : Dat} {v : V} (r : Rep k B d v) : Vt k G B H w (fun _ => none) (.sh d) v := ⟨fun a h => absurd rfl h, by simpa only [ORep] using r⟩
/-- it comes to slot i -/
def wHang (w w1 : WM) (i : Nat) : WM := fun a => match w1 a with
  | some ρ => some (ρ ++ [i])
  | none => match w a with
    | none => none
    | some π => if π.getLast? = some i then none else some π
theorem Sta.setO {i : Nat} {o : OT} {v : V} {w1 : WM} (S : Sta k G B H w σ env) (T : Vt k G B H w w1 o v) (hi : i < env.length) : Sta k G B H (wHang w w1 i) (σ.set i (some v)) (env.set i o) where
  bh := S.bh
  b0 := S.b0
  fr := fun a h1 h2 h3 => by
    obtain ⟨x, y, z⟩ := S.fr a h1 h2 h3
    refine ⟨x, y, ?_⟩
    unfold wHang
    cases e : w1 a with
    | none => simp [z]
    | some ρ => exact absurd ((T.dis a (by rw [e]; exact fun z => nomatch z)).2.2.2 h1 h2) h3
  wb := fun a h => by
    cases e : w1 a with
    | some ρ => exact (T.dis a (by rw [e]; exact fun z => nomatch z)).2.1
    | none => exact S.wb a fun z => h (by unfold wHang; rw [e]; simp [z])
  wh := fun a h => by
    cases e : w1 a with
    | some ρ => exact (T.dis a (by rw [e]; exact fun z => nomatch z)).2.2.1
    | none => exact S.wh a fun z => h (by unfold wHang; rw [e]; simp [z])
  len := by simpa using S.len
  sl := fun j o' h => by
    by_cases hj : i = j
    · subst hj
      rw [List.getElem?_set, if_pos rfl, if_pos hi] at h
      cases h
      refine .inr ⟨v, ?_, T.rep.move (.refl _) fun p ρ e => ⟨?_, rfl⟩⟩
      · rw [List.getElem?_set, if_pos rfl, if_pos (by rw [← S.len]; exact hi)]
      · unfold wHang
        rw [e]
        simp
    · rw [List.getElem?_set_ne hj] at h ⊢
      rcases S.sl j o' h with e | ⟨u, hu, q⟩
      · exact .inl e
      · refine .inr ⟨u, hu, q.frame (.refl _) fun p ρ e => ⟨?_, rfl⟩⟩
        have n1 : w1 p = none := by
          cases z : w1 p with
          | none => rfl
          | some ρ' =>
            have := (T.dis p (by rw [z]; exact fun z => nomatch z)).1
            rw [e] at this
            exact nomatch this
        have n2 : ¬ j = i := fun z => hj z.symm
        unfold wHang
        rw [n1, e]
        simp [n2]
/-- it melts into the shared part -/
def bPut (w1 : WM) (B H : Hp) : Hp := fun a => if (w1 a).isSome = true then H a else B a
theorem same_put {w1 : WM} (S : Same B H) : Same B (bPut w1 B H) := fun a u e => by
  unfold bPut
  split
  · exact S a u e
  · exact e
theorem Vt.melt {o : OT} {v : V} {w1 : WM} (S : Sta k G B H w σ env) (T : Vt k G B H w w1 o v) (z : o.ok = true) : Sta k G (bPut w1 B H) H w σ env ∧ Rep k (bPut w1 B H) o.dat v := by
  refine ⟨⟨fun a u e => ?_, S.b0.trans (same_put S.bh), fun a h1 h2 h3 => ?_, fun a h => ?_, S.wh, S.len, fun i o h => ?_⟩, T.rep.melt (same_put S.bh) (fun p ρ e => ?_) z⟩
  · unfold bPut at e
    split at e
    · exact e
    · exact S.bh a u e
  · obtain ⟨x, y, z⟩ := S.fr a h1 h2 h3
    refine ⟨?_, y, z⟩
    cases e : w1 a with
    | none => simp [bPut, e, x]
    | some ρ => exact absurd ((T.dis a (by rw [e]; exact fun z => nomatch z)).2.2.2 h1 h2) h3
  · cases e : w1 a with
    | none => simp [bPut, e, S.wb a h]
    | some ρ => exact absurd (T.dis a (by rw [e]; exact fun z => nomatch z)).1 h
  · rcases S.sl i o h with e | ⟨v, hv, r⟩
    · exact .inl e
    · exact .inr ⟨v, hv, r.frame (same_put S.bh) fun p ρ e => ⟨e, rfl⟩⟩
  · simp [bPut, e]
/-- a new object of nobody's -/
theorem Sta.ext {p : Addr} {o : HO} (S : Sta k G B H w σ env) (hp : H p = none) : Sta k G B (upd H p o) w σ env where
  bh := S.bh.trans (same_newH hp)
  b0 := S.b0
  fr := fun a h1 h2 h3 => by
    obtain ⟨x, y, z⟩ := S.fr a h1 h2 h3
    have ne : a ≠ p := fun e => by
      subst e
      rw [y] at hp
      exact h2 hp
    exact ⟨x, by rw [upd_ne ne]; exact y, z⟩
  wb := S.wb
  wh := fun a h => by
    have ne : a ≠ p := fun e => by
      subst e
      exact S.wh _ h hp
    rw [upd_ne ne]
    exact S.wh a h
  len := S.len
  sl := fun i o h => by
    rcases S.sl i o h with e | ⟨v, hv, r⟩
    · exact .inl e
    · refine .inr ⟨v, hv, r.frame (.refl _) fun q ρ e => ⟨e, ?_⟩⟩
      have ne : q ≠ p := fun z => by
        subst z
        exact S.wh q (by rw [e]; exact fun z => nomatch z) hp
      rw [upd_ne ne]
/-- a fresh place was nobody's -/
theorem Sta.nob {p : Addr} (S : Sta k G B H w σ env) (hp : H p = none) : w p = none ∧ B p = none ∧ (G.B0 p = none → G.H0 p ≠ none → G.A0 p) := by
  refine ⟨?_, S.bh.free hp, fun h1 h2 => ?_⟩
  · cases e : w p with
    | none => rfl
    | some ρ => exact absurd hp (S.wh p (by rw [e]; exact fun z => nomatch z))
  · apply Classical.byContradiction
    intro h3
    obtain ⟨x, y, z⟩ := S.fr p h1 h2 h3
    rw [hp] at y
    exact h2 y.symm
/-- the tree at n melts into the shared part -/
def bMelt (w : WM) (n : Nat) (B H : Hp) : Hp := fun a => match w a with
  | some ρ => if ρ.getLast? = some n then H a else B a
  | none => B a
def wMelt (w : WM) (n : Nat) : WM := fun a => match w a with
  | some ρ => if ρ.getLast? = some n then none else some ρ
  | none => none
theorem same_melt {n : Nat} (S : Same B H) : Same B (bMelt w n B H) := fun a u e => by
  unfold bMelt
  split
  · split
    · exact S a u e
    · exact e
  · exact e
theorem melts {n : Nat} : Melts [n] w H (bMelt w n B H) := fun p ρ e => by
  unfold bMelt
  rw [e]
  simp
theorem Sta.melt {n : Nat} (S : Sta k G B H w σ env) (hn : ∀ o, env[n]? = some o → o = .un) : Sta k G (bMelt w n B H) H (wMelt w n) σ env where
  bh := fun a u e => by
    unfold bMelt at e
    split at e
    · split at e
      · exact e
      · exact S.bh a u e
    · exact S.bh a u e
  b0 := S.b0.trans (same_melt S.bh)
  fr := fun a h1 h2 h3 => by
    obtain ⟨x, y, z⟩ := S.fr a h1 h2 h3
    refine ⟨?_, y, ?_⟩
    · unfold bMelt
      rw [z]
      exact x
    · unfold wMelt
      rw [z]
  wb := fun a h => by
    unfold wMelt at h
    unfold bMelt
    split at h
    · rename_i ρ e
      skip
      split at h
      · exact absurd rfl h
      · rename_i c
        simp only [if_neg c]
        exact S.wb a (by rw [e]; exact fun z => nomatch z)
    · exact absurd rfl h
  wh := fun a h => S.wh a fun z => h (by unfold wMelt; rw [z])
  len := S.len
  sl := fun j o h => by
    rcases S.sl j o h with e | ⟨v, hv, r⟩
    · exact .inl e
    · by_cases hj : j = n
      · subst hj
        exact .inl (hn o h)
      · refine .inr ⟨v, hv, r.frame (same_melt S.bh) fun p ρ e => ⟨?_, rfl⟩⟩
        unfold wMelt
        rw [e]
        simp [hj]
/-- slot i's own tree becomes shared -/
theorem Sta.frz {i : Nat} {o : OT} (S : Sta k G B H w σ env) (h : env[i]? = some o) (z : o.ok = true) : Sta k G (bMelt w i B H) H (wMelt w i) σ (env.set i (.sh o.dat)) := by
  have hi : i < env.length := (List.getElem?_eq_some_iff.mp h).1
  have S1 : Sta k G B H w σ (env.set i .un) := ⟨S.bh, S.b0, S.fr, S.wb, S.wh, by simpa using S.len, fun j o' h' => by
    by_cases hj : i = j
    · subst hj
      rw [List.getElem?_set, if_pos rfl, if_pos hi] at h'
      cases h'
      exact .inl rfl
    · rw [List.getElem?_set_ne hj] at h'
      exact S.sl j o' h'⟩
  have S2 := S1.melt (n := i) fun o' h' => by
    rw [List.getElem?_set, if_pos rfl, if_pos hi] at h'
    cases h'
    rfl
  rcases S.sl i o h with e | ⟨v, hv, r⟩
  · subst e
    simp [OT.ok] at z
  · refine ⟨S2.bh, S2.b0, S2.fr, S2.wb, S2.wh, by simpa using S.len, fun j o' h' => ?_⟩
    by_cases hj : i = j
    · subst hj
      rw [List.getElem?_set, if_pos rfl, if_pos hi] at h'
      cases h'
      exact .inr ⟨v, hv, by simpa only [ORep] using r.melt (same_melt S.bh) melts z⟩
    · rw [List.getElem?_set_ne hj] at h'
      exact S2.sl j o' (by rw [List.getElem?_set_ne hj]; exact h')
end

/-- all that was stands -/
def Mv (B H B' H' : Hp) : Prop := Same B B' ∧ Same H H'
theorem Mv.refl {B H : Hp} : Mv B H B H := ⟨.refl _, .refl _⟩
theorem Mv.trans {B H B1 H1 B2 H2 : Hp} (a : Mv B H B1 H1) (b : Mv B1 H1 B2 H2) : Mv B H B2 H2 := ⟨a.1.trans b.1, a.2.trans b.2⟩
/-! ### readings over data -/
section
variable (k : KC)
def tD (f : List OT → Option Dat) : TE := fun σ H Q => ∃ G B w env d, Sta k G B H w σ env ∧ f env = some d ∧ ∀ v B' H', Sta k G B' H' w σ env → Mv B H B' H' → Rep k B' d v → Q v H'
def tT (f : List OT → Option Bool) : TT := fun σ H Q => ∃ G B w env d, Sta k G B H w σ env ∧ f env = some d ∧ ∀ B' H', Sta k G B' H' w σ env → Mv B H B' H' → Q d H'
def tA (f : List OT → Option (List Dat)) : TA := fun σ H Q => ∃ G B w env d, Sta k G B H w σ env ∧ f env = some d ∧ ∀ v B' H', Sta k G B' H' w σ env → Mv B H B' H' → Reps k B' d v → Q v H'
/-- a value of one's own, the slots as they were -/
def tF (f : List OT → Option OT) : TE := fun σ H Q => ∃ G B w env o, Sta k G B H w σ env ∧ f env = some o ∧ ∀ v B' H' w1, Sta k G B' H' w σ env → Vt k G B' H' w w1 o v → Mv B H B' H' → Q v H'
/-- .. the slots' trees changed -/
def tG (f : List OT → Option (OT × List OT)) : TE := fun σ H Q => ∃ G B w env o env', Sta k G B H w σ env ∧ f env = some (o, env') ∧ ∀ v B' H' w' w1, Sta k G B' H' w' σ env' → Vt k G B' H' w' w1 o v → Same B B' → Q v H'
inductive Out where
  | nx (e : List OT) | bk (e : List OT) | ct (e : List OT) | rt (o : OT) (e : List OT)
  | ex (c : String) (ns : List Str) (xs : List Dat) (e : List OT)
/-- an exception in flight: its class, its dict -/
def XRep (B : Hp) (c : String) (ns : List Str) (xs : List Dat) (cls : Value) (d : Option Addr) : Prop := cls = .ref (k.cl c) ∧ ∃ vs, XD B d (ns.zip vs) ∧ ns.length = vs.length ∧ Reps k B xs vs
def OutK (W : WX) (G : Gh) (B : Hp) (D : Ends) : Out → Prop
  | .nx env => ∀ σ' B' H' w', Sta k G B' H' w' σ' env → Same B B' → D.nx σ' H'
  | .bk env => ∀ σ' B' H' w', Sta k G B' H' w' σ' env → Same B B' → D.bk σ' H'
  | .ct env => ∀ σ' B' H' w', Sta k G B' H' w' σ' env → Same B B' → D.ct σ' H'
  | .rt o env => ∀ v σ' B' H' w' w1, Sta k G B' H' w' σ' env → Vt k G B' H' w' w1 o v → Same B B' → D.rt v H'
  | .ex c ns xs env => ∀ cls d σ' B' H' w', Sta k G B' H' w' σ' env → Same B B' → XRep k B' c ns xs cls d → W cls d σ' H'
def tS (W : WX) (g : List OT → Option Out) : TS := fun D σ H => ∃ G B w env o, Sta k G B H w σ env ∧ g env = some o ∧ OutK k W G B D o
/-- no exception is let out -/
abbrev nW : WX := fun _ _ _ _ => False
end
theorem OutK.mono {k : KC} {W : WX} {G : Gh} {B B1 : Hp} {D : Ends} {o : Out} (e : Same B B1) (h : OutK k W G B D o) : OutK k W G B1 D o := by
  cases o with
  | nx env => exact fun σ' B' H' w' S m => h σ' B' H' w' S (e.trans m)
  | bk env => exact fun σ' B' H' w' S m => h σ' B' H' w' S (e.trans m)
  | ct env => exact fun σ' B' H' w' S m => h σ' B' H' w' S (e.trans m)
  | rt o env => exact fun v σ' B' H' w' w1 S r m => h v σ' B' H' w' w1 S r (e.trans m)
  | ex c ns xs env => exact fun cls d σ' B' H' w' S m x => h cls d σ' B' H' w' S (e.trans m) x

theorem pe_imp {X : Cx} {e : Expr} {t t' : TE} (h : PE X e t) (i : ∀ σ H Q, t' σ H Q → t σ H Q) : PE X e t' := ⟨fun pins s σ H Q I q => h.run pins s σ H Q I (i σ H Q q)⟩
theorem pt_imp {X : Cx} {e : Expr} {t t' : TT} (h : PT X e t) (i : ∀ σ H Q, t' σ H Q → t σ H Q) : PT X e t' := ⟨fun pins s σ H Q I q => h.run pins s σ H Q I (i σ H Q q)⟩
theorem pw_imp {X : Cx} {e : Expr} {t t' : TT} (h : PW X e t) (i : ∀ σ H Q, t' σ H Q → t σ H Q) : PW X e t' := ⟨fun wh pins s σ H Q I q => h.run wh pins s σ H Q I (i σ H Q q)⟩
theorem pa_imp {X : Cx} {e : List Expr} {t t' : TA} (h : PA X e t) (i : ∀ σ H Q, t' σ H Q → t σ H Q) : PA X e t' := ⟨fun pos pins s σ H Q I q => h.run pos pins s σ H Q I (i σ H Q q)⟩
theorem ps_imp {X : Cx} {e : Stmt} {t t' : TS} (h : PS X e t) (i : ∀ D σ H, t' D σ H → t D σ H) : PS X e t' := ⟨fun pins s σ H D I q => h.run pins s σ H D I (i D σ H q)⟩
theorem pss_imp {X : Cx} {e : List Stmt} {t t' : TS} (h : PSs X e t) (i : ∀ D σ H, t' D σ H → t D σ H) : PSs X e t' := ⟨fun pins s σ H D I q => h.run pins s σ H D I (i D σ H q)⟩

/-! ### names, constants -/
@[simp] def vr (i : Nat) : List OT → Option Dat := fun e => match e[i]? with
  | some (.sh d) => some d
  | _ => none
@[simp] def cn (d : Dat) : List OT → Option Dat := fun _ => some d
section
variable {k : KC} {X : Cx} {pos : Pos} {a b c : Expr} {fa fb fc : List OT → Option Dat}
theorem vr_some {i : Nat} {env : List OT} {d : Dat} (h : vr i env = some d) : env[i]? = some (.sh d) := by
  unfold vr at h
  split at h
  · rename_i e
    cases h
    exact e
  · cases h
theorem dv (i : Nat) {x : Str} (hN : X.N[i]? = some x := by rfl) (hv : Vis X.env.scope x := by first | exact Or.inl rfl | exact Or.inr (Or.inl rfl) | exact Or.inr (Or.inr rfl)) (hd : (x == ("__debug__" : Str)) = false := by decide)
    (hcd : (x == ("__classdict__" : Str)) = false := by decide) : PE X (.Name x pos) (tD k (vr i)) :=
  pe_imp (pe_var hN hv hd hcd) fun σ H Q ⟨G, B, w, env, d, S, h, q⟩ => by
    obtain ⟨v, hv, r⟩ := S.shd (vr_some h)
    exact ⟨v, hv, q v B H S .refl r⟩
theorem d_cn {d : Dat} {v : V} {e : Expr} (h : PE X e (tC v)) (r : ∀ B, Rep k B d v) : PE X e (tD k (cn d)) :=
  pe_imp h fun σ H Q ⟨G, B, w, env, d', S, h, q⟩ => by
    cases h
    exact q v B H S .refl (r B)
theorem di {i : Int} {j} : PE X (.Constant (.int i) j pos) (tD k (cn (.int i))) := d_cn pe_int fun _ => by simp only [Rep]
theorem dbl {i : Bool} {j} : PE X (.Constant (.bool i) j pos) (tD k (cn (.bl i))) := d_cn pe_bl fun _ => by simp only [Rep]
theorem dn {j} : PE X (.Constant .none j pos) (tD k (cn .non)) := d_cn pe_non fun _ => by simp only [Rep]
theorem ds {i : Str} {j} : PE X (.Constant (.str i) j pos) (tD k (cn (.str i))) := d_cn pe_str fun _ => by simp only [Rep]
/-- a constant of the module, by what the written part says -/
theorem dg {x : Str} {v : V} {u : Value} {d : Dat} (hm : X.mg x = some u) (r : RelV v u) (hr : ∀ B, Rep k B d v) (hg : Gl X x := by rfl) (hd : (x == ("__debug__" : Str)) = false := by decide) : PE X (.Name x pos) (tD k (cn d)) := d_cn (pe_glob hg hm r hd) hr

/-! ### operators -/
@[simp] def bin (g : Dat → Dat → Option Dat) (fa fb : List OT → Option Dat) : List OT → Option Dat := fun e => match fa e with
  | none => none
  | some x => match fb e with
    | none => none
    | some y => g x y
theorem bin_some {g : Dat → Dat → Option Dat} {e : List OT} {d : Dat} (h : bin g fa fb e = some d) : ∃ x y, fa e = some x ∧ fb e = some y ∧ g x y = some d := by
  unfold bin at h
  split at h
  · cases h
  · rename_i x hx
    split at h
    · cases h
    · rename_i y hy
      exact ⟨x, y, hx, hy, h⟩
/-- a rule by values speaks of data -/
def RD (k : KC) (r : R2) (g : Dat → Dat → Option Dat) : Prop := ∀ (B H : Hp) (x y d : Dat) (v u : V) (Q : VK), Same B H → Rep k B x v → Rep k B y u → g x y = some d →
  (∀ v' B' H', Grow B H B' H' → Rep k B' d v' → Q v' H') → r v u H Q
theorem op_read {r : R2} {g : Dat → Dat → Option Dat} (hr : RD k r g) {σ : L2.St} {H : Hp} {Q : VK} (h : tD k (bin g fa fb) σ H Q) : tOp r (tD k fa) (tD k fb) σ H Q := by
  obtain ⟨G, B, w, env, d, S, h, q⟩ := h
  obtain ⟨x, y, hx, hy, hg⟩ := bin_some h
  refine ⟨G, B, w, env, x, S, hx, fun v B1 H1 S1 m1 r1 => ⟨G, B1, w, env, y, S1, hy, fun u B2 H2 S2 m2 r2 => ?_⟩⟩
  exact hr B2 H2 x y d v u Q S2.bh (r1.mono m2.1) r2 hg fun v' B' H' gr r3 => q v' B' H' (S2.grow gr) ((m1.trans m2).trans (gr.all S2.bh).2) r3
theorem d_op {op : Operator} {r : R2} {g : Dat → Dat → Option Dat} (ho : OpR X (binaryOp op) r) (hr : RD k r g) (ha : PE X a (tD k fa)) (hb : PE X b (tD k fb)) : PE X (.BinOp a op b pos) (tD k (bin g fa fb)) :=
  pe_imp (pe_op ho ha hb) fun _ _ _ h => op_read hr h
theorem d_cmp {op : CmpOp} {r : R2} {g : Dat → Dat → Option Dat} (ho : OpR X (compareOp op) r) (hr : RD k r g) (ha : PE X a (tD k fa)) (hb : PE X b (tD k fb)) (hm : behindInMarks op b = false) : PE X (.Compare a [op] [b] pos) (tD k (bin g fa fb)) :=
  pe_imp (pe_cmpR ho ha hb hm) fun _ _ _ h => op_read hr h
/-- .. as a test -/
@[simp] def tst (f : List OT → Option Dat) : List OT → Option Bool := fun e => match f e with
  | some (.bl b) => some b
  | _ => none
theorem tst_some {f : List OT → Option Dat} {e : List OT} {b : Bool} (h : tst f e = some b) : f e = some (.bl b) := by
  unfold tst at h
  split at h
  · rename_i e
    cases h
    exact e
  · cases h
theorem t_cmp {op : CmpOp} {r : R2} {g : Dat → Dat → Option Dat} (ho : OpR X (compareOp op) r) (hr : RD k r g) (ha : PE X a (tD k fa)) (hb : PE X b (tD k fb)) (hm : behindInMarks op b = false) : PT X (.Compare a [op] [b] pos) (tT k (tst (bin g fa fb))) :=
  pt_imp (pt_cmpR ho ha hb hm) fun σ H Q ⟨G, B, w, env, d, S, h, q⟩ => by
    refine op_read hr ⟨G, B, w, env, _, S, tst_some h, fun v B' H' S' m r => ?_⟩
    simp only [Rep] at r
    exact ⟨d, r, q B' H' S' m⟩
/-- an expression that is a bool -/
theorem t_val {e : Expr} {f : List OT → Option Dat} (h : PE X e (tD k f)) (he : ∀ whole, isTrue e X.env whole = (do let v ← whole; standAt e.pos; holding [v] (truthy v)) := by intro _; rfl) : PT X e (tT k (tst f)) :=
  pt_imp (pt_val h he) fun σ H Q ⟨G, B, w, env, d, S, h, q⟩ => by
    refine ⟨G, B, w, env, _, S, tst_some h, fun v B' H' S' m r => ?_⟩
    simp only [Rep] at r
    exact ⟨d, r, q B' H' S' m⟩
/-- one factor of 64 bits, or both together of a million -/
def CMulA (i j : Int) : Prop := i.natAbs < 2 ^ 64 ∨ j.natAbs < 2 ^ 64 ∨ i.natAbs.log2 + j.natAbs.log2 < 1000000
instance {i j : Int} : Decidable (CMulA i j) := inferInstanceAs (Decidable (_ ∨ _ ∨ _))
theorem CMulA.fits {i j : Int} (h : CMulA i j) : IntMulOk i j := by
  rcases h with h | h | h
  · exact .of_left (intBits_le_64 (by omega) (by omega))
  · exact .of_right (intBits_le_64 (by omega) (by omega))
  · exact CMulW.ok h
theorem op_mulA {X : Cx} : OpR X (binaryOp .Mult) (rI CMulA fun i j => .int (i * j)) := opI fun _ _ _ _ _ _ _ hc q => PyProof.Rows.mul_int q hc.fits
def mulD : Dat → Dat → Option Dat
  | .int i, .int j => if CMulA i j then some (.int (i * j)) else none
  | _, _ => none
def addD : Dat → Dat → Option Dat
  | .int i, .int j => some (.int (i + j))
  | .str i, .str j => if i.length + j.length ≤ 16000000 then some (.str (i ++ j)) else none
  | _, _ => none
@[simp] def subD : Dat → Dat → Option Dat
  | .int i, .int j => some (.int (i - j))
  | _, _ => none
/-- % by what isn't nought -/
def modD : Dat → Dat → Option Dat
  | .int i, .int j => if j ≠ 0 then some (.int (i.fmod j)) else none
  | _, _ => none
def fdvD : Dat → Dat → Option Dat
  | .int i, .int j => if j ≠ 0 ∧ Builtin.divisionGoesByPylong i j = false then some (.int (i.fdiv j)) else none
  | _, _ => none
def powD : Dat → Dat → Option Dat
  | .int i, .int j => if 0 ≤ j ∧ j ≤ 1000000 ∧ i.natAbs < 2 ^ 64 then some (.int (i ^ j.toNat)) else none
  | _, _ => none
theorem sl16 {n : Nat} (h : n ≤ 16000000) : n ≤ sizeLine := Nat.le_trans h (by rw [sizeLine_eq]; decide)
theorem sl16' {n : Nat} (h : n < 16000000) : n < sizeLine := Nat.lt_of_lt_of_le h (by rw [sizeLine_eq]; decide)
theorem rd_I0 {g : Int → Int → V} {G : Dat → Dat → Option Dat} (h : ∀ x y d, G x y = some d → ∃ i j, x = .int i ∧ y = .int j ∧ ∀ B, Rep k B d (g i j)) : RD k (rI0 g) G := by
  intro B H x y d v u Q hs rx ry e q
  obtain ⟨i, j, rfl, rfl, hd⟩ := h x y d e
  simp only [Rep] at rx ry
  subst rx ry
  exact ⟨i, j, rfl, rfl, q _ B H .refl (hd B)⟩
theorem rd_I {C : Int → Int → Prop} {g : Int → Int → V} {G : Dat → Dat → Option Dat} (h : ∀ x y d, G x y = some d → ∃ i j, x = .int i ∧ y = .int j ∧ C i j ∧ ∀ B, Rep k B d (g i j)) : RD k (rI C g) G := by
  intro B H x y d v u Q hs rx ry e q
  obtain ⟨i, j, rfl, rfl, hc, hd⟩ := h x y d e
  simp only [Rep] at rx ry
  subst rx ry
  exact ⟨i, j, rfl, rfl, hc, q _ B H .refl (hd B)⟩
theorem d_mul (ha : PE X a (tD k fa)) (hb : PE X b (tD k fb)) : PE X (.BinOp a .Mult b pos) (tD k (bin mulD fa fb)) := d_op op_mulA (rd_I fun x y d e => by
  unfold mulD at e
  split at e
  · split at e
    · rename_i i j hc
      cases e
      exact ⟨i, j, rfl, rfl, hc, fun _ => by simp only [Rep]⟩
    · cases e
  · cases e) ha hb
theorem d_sub (ha : PE X a (tD k fa)) (hb : PE X b (tD k fb)) : PE X (.BinOp a .Sub b pos) (tD k (bin subD fa fb)) := d_op op_sub (rd_I0 fun x y d e => by
  unfold subD at e
  split at e
  · rename_i i j
    cases e
    exact ⟨i, j, rfl, rfl, fun _ => by simp only [Rep]⟩
  · cases e) ha hb
theorem d_mod (ha : PE X a (tD k fa)) (hb : PE X b (tD k fb)) : PE X (.BinOp a .Mod b pos) (tD k (bin modD fa fb)) := d_op op_modN (rd_I fun x y d e => by
  unfold modD at e
  split at e
  · split at e
    · rename_i i j hc
      cases e
      exact ⟨i, j, rfl, rfl, hc, fun _ => by simp only [Rep]⟩
    · cases e
  · cases e) ha hb
def CDivA (i j : Int) : Prop := j ≠ 0 ∧ Builtin.divisionGoesByPylong i j = false
theorem op_fdivA : OpR X (binaryOp .FloorDiv) (rI CDivA fun i j => .int (i.fdiv j)) := opI fun i j _ _ _ _ _ hc q => PyProof.Rows.floordiv_int hc.1 q (.inl hc.2)
theorem d_fdv (ha : PE X a (tD k fa)) (hb : PE X b (tD k fb)) : PE X (.BinOp a .FloorDiv b pos) (tD k (bin fdvD fa fb)) := d_op op_fdivA (rd_I fun x y d e => by
  unfold fdvD at e
  split at e
  · split at e
    · rename_i i j hc
      cases e
      exact ⟨i, j, rfl, rfl, hc, fun _ => by simp only [Rep]⟩
    · cases e
  · cases e) ha hb
theorem d_pow (ha : PE X a (tD k fa)) (hb : PE X b (tD k fb)) : PE X (.BinOp a .Pow b pos) (tD k (bin powD fa fb)) := d_op op_pow (rd_I fun x y d e => by
  unfold powD at e
  split at e
  · split at e
    · rename_i i j hc
      cases e
      exact ⟨i, j, rfl, rfl, hc, fun _ => by simp only [Rep]⟩
    · cases e
  · cases e) ha hb
theorem d_add (ha : PE X a (tD k fa)) (hb : PE X b (tD k fb)) : PE X (.BinOp a .Add b pos) (tD k (bin addD fa fb)) := d_op (op_add.or op_add_str) (fun B H x y d v u Q hs rx ry e q => by
  unfold addD at e
  split at e
  · rename_i i j
    cases e
    simp only [Rep] at rx ry
    subst rx ry
    exact .inl ⟨i, j, rfl, rfl, q _ B H .refl (by simp only [Rep])⟩
  · rename_i i j
    split at e
    · rename_i hl
      cases e
      simp only [Rep] at rx ry
      subst rx ry
      exact .inr ⟨i, j, rfl, rfl, sl16 hl, q _ B H .refl (by simp only [Rep])⟩
    · cases e
  · cases e) ha hb
@[simp] def cmpD (p : Int → Int → Bool) : Dat → Dat → Option Dat
  | .int i, .int j => some (.bl (p i j))
  | _, _ => none
theorem rd_cmp {p : Int → Int → Bool} : RD k (rI0 fun i j => .bl (p i j)) (cmpD p) := rd_I0 fun x y d e => by
  unfold cmpD at e
  split at e
  · rename_i i j
    cases e
    exact ⟨i, j, rfl, rfl, fun _ => by simp only [Rep]⟩
  · cases e
abbrev ltD := cmpD fun i j => decide (i < j)
abbrev leD := cmpD fun i j => decide (i ≤ j)
abbrev gtD := cmpD fun i j => decide (j < i)
abbrev geD := cmpD fun i j => decide (j ≤ i)
theorem d_lt (ha : PE X a (tD k fa)) (hb : PE X b (tD k fb)) : PE X (.Compare a [.Lt] [b] pos) (tD k (bin ltD fa fb)) := d_cmp op_lt rd_cmp ha hb (nomark _)
theorem d_le (ha : PE X a (tD k fa)) (hb : PE X b (tD k fb)) : PE X (.Compare a [.LtE] [b] pos) (tD k (bin leD fa fb)) := d_cmp op_le rd_cmp ha hb (nomark _)
theorem d_gt (ha : PE X a (tD k fa)) (hb : PE X b (tD k fb)) : PE X (.Compare a [.Gt] [b] pos) (tD k (bin gtD fa fb)) := d_cmp op_gt rd_cmp ha hb (nomark _)
theorem d_ge (ha : PE X a (tD k fa)) (hb : PE X b (tD k fb)) : PE X (.Compare a [.GtE] [b] pos) (tD k (bin geD fa fb)) := d_cmp op_ge rd_cmp ha hb (nomark _)
theorem t_lt (ha : PE X a (tD k fa)) (hb : PE X b (tD k fb)) : PT X (.Compare a [.Lt] [b] pos) (tT k (tst (bin ltD fa fb))) := t_cmp op_lt rd_cmp ha hb (nomark _)
theorem t_le (ha : PE X a (tD k fa)) (hb : PE X b (tD k fb)) : PT X (.Compare a [.LtE] [b] pos) (tT k (tst (bin leD fa fb))) := t_cmp op_le rd_cmp ha hb (nomark _)
theorem t_gt (ha : PE X a (tD k fa)) (hb : PE X b (tD k fb)) : PT X (.Compare a [.Gt] [b] pos) (tT k (tst (bin gtD fa fb))) := t_cmp op_gt rd_cmp ha hb (nomark _)
theorem t_ge (ha : PE X a (tD k fa)) (hb : PE X b (tD k fb)) : PT X (.Compare a [.GtE] [b] pos) (tT k (tst (bin geD fa fb))) := t_cmp op_ge rd_cmp ha hb (nomark _)
end
end DL
namespace DL
open PySem L2

/-! ### == of data -/
mutual
def Dat.py : Dat → PyData
  | .non => .none
  | .bl b => .bool b
  | .int i => .int i
  | .str x => .str x
  | .tup xs => .tuple (Dat.pys xs)
  | .lst xs => .list (Dat.pys xs)
  | .obj _ _ _ => .none
  | .dct _ _ => .none
  | .exn _ _ _ => .none
def Dat.pys : List Dat → List PyData
  | [] => []
  | x :: xs => x.py :: Dat.pys xs
end
mutual
/-- no objects, no dicts -/
def Dat.noobj : Dat → Bool
  | .tup xs => Dat.noobjs xs
  | .lst xs => Dat.noobjs xs
  | .obj _ _ _ => false
  | .dct _ _ => false
  | .exn _ _ _ => false
  | _ => true
def Dat.noobjs : List Dat → Bool
  | [] => true
  | x :: xs => x.noobj && Dat.noobjs xs
end
mutual
theorem Rep.dp {k : KC} {B : Hp} : ∀ {d : Dat} {v : V}, d.noobj = true → Rep k B d v → Dp k.K B v d.py
  | .non, v, z, h => by simp only [Rep] at h; subst h; simp only [Dat.py]; exact .non
  | .bl b, v, z, h => by simp only [Rep] at h; subst h; simp only [Dat.py]; exact .bl b
  | .int i, v, z, h => by simp only [Rep] at h; subst h; simp only [Dat.py]; exact .int i
  | .str i, v, z, h => by simp only [Rep] at h; subst h; simp only [Dat.py]; exact .str i
  | .tup xs, v, z, h => by
    simp only [Rep] at h
    obtain ⟨p, vs, rfl, hs, hr⟩ := h
    simp only [Dat.py]
    exact .tup hs (Reps.dp (by simpa only [Dat.noobj] using z) hr)
  | .lst xs, v, z, h => by
    simp only [Rep] at h
    obtain ⟨p, vs, rfl, hs, hr⟩ := h
    simp only [Dat.py]
    exact .lst hs (Reps.dp (by simpa only [Dat.noobj] using z) hr)
  | .obj _ _ _, v, z, h => by simp [Dat.noobj] at z
  | .dct _ _, v, z, h => by simp [Dat.noobj] at z
  | .exn _ _ _, v, z, h => by simp [Dat.noobj] at z
theorem Reps.dp {k : KC} {B : Hp} : ∀ {ds : List Dat} {vs : List V}, Dat.noobjs ds = true → Reps k B ds vs → DpAll k.K B vs (Dat.pys ds)
  | [], vs, z, h => by simp only [Reps] at h; subst h; simp only [Dat.pys]; exact .nil
  | d :: ds, vs, z, h => by
    simp only [Reps] at h
    obtain ⟨v, r, rfl, h1, h2⟩ := h
    simp only [Dat.noobjs, Bool.and_eq_true] at z
    simp only [Dat.pys]
    exact .cons (Rep.dp z.1 h1) (Reps.dp z.2 h2)
end
mutual
theorem dp_mono {K : PySem.W.Frag} {H H' : Hp} (e : Same H H') : ∀ {v : V} {d : PyData}, Dp K H v d → Dp K H' v d
  | _, _, .non => .non
  | _, _, .bl b => .bl b
  | _, _, .int b => .int b
  | _, _, .str b => .str b
  | _, _, .lst h r => .lst (sqL_mono e h) (dps_mono e r)
  | _, _, .tup h r => .tup (sqT_mono e h) (dps_mono e r)
theorem dps_mono {K : PySem.W.Frag} {H H' : Hp} (e : Same H H') : ∀ {v : List V} {d : List PyData}, DpAll K H v d → DpAll K H' v d
  | _, _, .nil => .nil
  | _, _, .cons h r => .cons (dp_mono e h) (dps_mono e r)
end
def okEq (x : Dat) : Bool := x.noobj && SeqAt.shaped x.py
/-- two scalars, told apart without a look at their kinds' depths -/
def scEq : Dat → Dat → Option Bool
  | .int i, .int j => some (decide (i = j))
  | .str i, .str j => some (decide (i = j))
  | .bl i, .bl j => some (decide (i = j))
  | .non, .non => some true
  | .non, .int _ => some false
  | .int _, .non => some false
  | .non, .bl _ => some false
  | .bl _, .non => some false
  | .non, .str _ => some false
  | .str _, .non => some false
  | .int _, .str _ => some false
  | .str _, .int _ => some false
  | .bl _, .str _ => some false
  | .str _, .bl _ => some false
  | _, _ => none
def eqB (x y : Dat) : Option Bool := match scEq x y with
  | some b => some b
  | none => if okEq x && okEq y then some (PyData.eqv x.py y.py) else none
@[simp] def eqD (x y : Dat) : Option Dat := (eqB x y).map .bl
@[simp] def neD (x y : Dat) : Option Dat := (eqB x y).map fun b => .bl (!b)
theorem scEq_some {k : KC} {B : Hp} {x y : Dat} {v u : V} {b : Bool} (h : scEq x y = some b) (rx : Rep k B x v) (ry : Rep k B y u) : scal v u = true ∧ decide (v = u) = b := by
  cases x <;> cases y <;> simp only [scEq] at h <;> first
    | (cases h; done)
    | (simp only [Rep] at rx ry
       subst rx ry
       cases h
       refine ⟨rfl, ?_⟩
       simp)
section
variable {k : KC} {X : Cx} {pos : Pos} {a b c : Expr} {fa fb fc : List OT → Option Dat}
theorem rd_eq : RD k (fun x y H Q => rEq x y H Q ∨ rEqD k.K x y H Q) eqD := by
  intro B H x y d v u Q hs rx ry e q
  unfold eqD eqB at e
  split at e
  · rename_i b hb
    simp only [Option.map_some] at e
    cases e
    obtain ⟨h1, h2⟩ := scEq_some hb rx ry
    refine .inl ⟨h1, ?_⟩
    rw [h2]
    exact q _ B H .refl (by simp only [Rep])
  · split at e
    · rename_i z
      simp only [Option.map_some] at e
      cases e
      rw [Bool.and_eq_true, okEq, okEq, Bool.and_eq_true, Bool.and_eq_true] at z
      exact .inr ⟨x.py, y.py, dp_mono hs (rx.dp z.1.1), dp_mono hs (ry.dp z.2.1), z.1.2, z.2.2, q _ B H .refl (by simp only [Rep])⟩
    · cases e
theorem rd_ne : RD k (fun x y H Q => rNe x y H Q ∨ rNeD k.K x y H Q) neD := by
  intro B H x y d v u Q hs rx ry e q
  unfold neD eqB at e
  split at e
  · rename_i b hb
    simp only [Option.map_some] at e
    cases e
    obtain ⟨h1, h2⟩ := scEq_some hb rx ry
    refine .inl ⟨h1, ?_⟩
    rw [h2]
    exact q _ B H .refl (by simp only [Rep])
  · split at e
    · rename_i z
      simp only [Option.map_some] at e
      cases e
      rw [Bool.and_eq_true, okEq, okEq, Bool.and_eq_true, Bool.and_eq_true] at z
      exact .inr ⟨x.py, y.py, dp_mono hs (rx.dp z.1.1), dp_mono hs (ry.dp z.2.1), z.1.2, z.2.2, q _ B H .refl (by simp only [Rep])⟩
    · cases e
theorem d_eq (hk : X.K = k.K) (hu : X.A.units + 64 < cLine) (ha : PE X a (tD k fa)) (hb : PE X b (tD k fb)) : PE X (.Compare a [.Eq] [b] pos) (tD k (bin eqD fa fb)) := d_cmp (op_eq.or (hk ▸ op_eqD hu)) rd_eq ha hb (nomark _)
theorem d_ne (hk : X.K = k.K) (hu : X.A.units + 64 < cLine) (ha : PE X a (tD k fa)) (hb : PE X b (tD k fb)) : PE X (.Compare a [.NotEq] [b] pos) (tD k (bin neD fa fb)) := d_cmp (op_ne.or (hk ▸ op_neD hu)) rd_ne ha hb (nomark _)
theorem t_eq (hk : X.K = k.K) (hu : X.A.units + 64 < cLine) (ha : PE X a (tD k fa)) (hb : PE X b (tD k fb)) : PT X (.Compare a [.Eq] [b] pos) (tT k (tst (bin eqD fa fb))) := t_cmp (op_eq.or (hk ▸ op_eqD hu)) rd_eq ha hb (nomark _)
theorem t_ne (hk : X.K = k.K) (hu : X.A.units + 64 < cLine) (ha : PE X a (tD k fa)) (hb : PE X b (tD k fb)) : PT X (.Compare a [.NotEq] [b] pos) (tT k (tst (bin neD fa fb))) := t_cmp (op_ne.or (hk ▸ op_neD hu)) rd_ne ha hb (nomark _)
/-! ### is None -/
@[simp] def isN (f : List OT → Option Dat) : List OT → Option Dat := fun e => match f e with
  | none => none
  | some .non => some (.bl true)
  | some _ => some (.bl false)
@[simp] def isNN (f : List OT → Option Dat) : List OT → Option Dat := fun e => match f e with
  | none => none
  | some .non => some (.bl false)
  | some _ => some (.bl true)
theorem rep_non {B : Hp} {d : Dat} {v : V} (r : Rep k B d v) : (v = .non ↔ d = .non) := by
  cases d <;> simp only [Rep] at r <;> first
    | (subst r; simp; done)
    | (obtain ⟨_, _, _, rfl, _⟩ := r; simp; done)
    | (obtain ⟨_, _, rfl, _⟩ := r; simp; done)
theorem isN_read {σ : L2.St} {H : Hp} {Q : VK} (h : tD k (isN fa) σ H Q) : tD k fa σ H fun x H1 => Q (.bl (decide (x = .non))) H1 := by
  obtain ⟨G, B, w, env, d, S, h, q⟩ := h
  cases e : fa env with
  | none => simp [isN, e] at h
  | some x =>
    refine ⟨G, B, w, env, x, S, e, fun v B' H' S' m r => q _ B' H' S' m ?_⟩
    have z := rep_non r
    cases x <;> simp [isN, e] at h <;> subst h <;> simp only [Rep] <;> simp [z]
theorem isNN_read {σ : L2.St} {H : Hp} {Q : VK} (h : tD k (isNN fa) σ H Q) : tD k fa σ H fun x H1 => Q (.bl (!decide (x = .non))) H1 := by
  obtain ⟨G, B, w, env, d, S, h, q⟩ := h
  cases e : fa env with
  | none => simp [isNN, e] at h
  | some x =>
    refine ⟨G, B, w, env, x, S, e, fun v B' H' S' m r => q _ B' H' S' m ?_⟩
    have z := rep_non r
    cases x <;> simp [isNN, e] at h <;> subst h <;> simp only [Rep] <;> simp [z]
theorem d_isN {j pos'} (ha : PE X a (tD k fa)) : PE X (.Compare a [.Is] [.Constant .none j pos'] pos) (tD k (isN fa)) := pe_imp (pe_cmp (pc_isN ha)) fun _ _ _ h => isN_read h
theorem d_isNN {j pos'} (ha : PE X a (tD k fa)) : PE X (.Compare a [.IsNot] [.Constant .none j pos'] pos) (tD k (isNN fa)) := pe_imp (pe_cmp (pc_notN ha)) fun _ _ _ h => isNN_read h
theorem t_of {f : List OT → Option Dat} {σ : L2.St} {H : Hp} {Q : Bool → Hp → Prop} (h : tT k (tst f) σ H Q) : tD k f σ H fun x H1 => ∃ c, x = .bl c ∧ Q c H1 := by
  obtain ⟨G, B, w, env, d, S, h, q⟩ := h
  refine ⟨G, B, w, env, _, S, tst_some h, fun v B' H' S' m r => ?_⟩
  simp only [Rep] at r
  exact ⟨d, r, q B' H' S' m⟩
theorem t_isN {j pos'} (ha : PE X a (tD k fa)) : PT X (.Compare a [.Is] [.Constant .none j pos'] pos) (tT k (tst (isN fa))) := pt_imp (pt_cmp (pc_isN ha)) fun _ _ _ h => isN_read (t_of h)
theorem t_isNN {j pos'} (ha : PE X a (tD k fa)) : PT X (.Compare a [.IsNot] [.Constant .none j pos'] pos) (tT k (tst (isNN fa))) := pt_imp (pt_cmp (pc_notN ha)) fun _ _ _ h => isNN_read (t_of h)

/-! ### not, and, or, if -/
@[simp] def notB (f : List OT → Option Bool) : List OT → Option Bool := fun e => (f e).map (!·)
@[simp] def andB (f g : List OT → Option Bool) : List OT → Option Bool := fun e => match f e with
  | none => none
  | some true => g e
  | some false => some false
@[simp] def orB (f g : List OT → Option Bool) : List OT → Option Bool := fun e => match f e with
  | none => none
  | some true => some true
  | some false => g e
/-- a test's value -/
@[simp] def bv (f : List OT → Option Bool) : List OT → Option Dat := fun e => (f e).map .bl
variable {ga gb : List OT → Option Bool} {rest : List Expr}
theorem t_not (ha : PT X a (tT k ga)) : PT X (.UnaryOp .Not a pos) (tT k (notB ga)) := pt_imp (pt_not ha) fun σ H Q ⟨G, B, w, env, d, S, h, q⟩ => by
  cases e : ga env with
  | none => simp [notB, e] at h
  | some x =>
    have h' : (!x) = d := by simpa [notB, e] using h
    subst h'
    exact ⟨G, B, w, env, x, S, e, q⟩
theorem and_read {σ : L2.St} {H : Hp} {Q : Bool → Hp → Prop} (h : tT k (andB ga gb) σ H Q) : tT k ga σ H fun c H1 => if c = true then tT k gb σ H1 Q else Q false H1 := by
  obtain ⟨G, B, w, env, d, S, h, q⟩ := h
  cases e : ga env with
  | none => simp [andB, e] at h
  | some x =>
    refine ⟨G, B, w, env, x, S, e, fun B' H' S' m => ?_⟩
    cases x with
    | true =>
      simp [andB, e] at h
      exact iteT ⟨G, B', w, env, d, S', h, fun B2 H2 S2 m2 => q B2 H2 S2 (m.trans m2)⟩
    | false =>
      simp [andB, e] at h
      subst h
      exact iteF (q B' H' S' m)
theorem or_read {σ : L2.St} {H : Hp} {Q : Bool → Hp → Prop} (h : tT k (orB ga gb) σ H Q) : tT k ga σ H fun c H1 => if c = true then Q true H1 else tT k gb σ H1 Q := by
  obtain ⟨G, B, w, env, d, S, h, q⟩ := h
  cases e : ga env with
  | none => simp [orB, e] at h
  | some x =>
    refine ⟨G, B, w, env, x, S, e, fun B' H' S' m => ?_⟩
    cases x with
    | false =>
      simp [orB, e] at h
      exact iteF ⟨G, B', w, env, d, S', h, fun B2 H2 S2 m2 => q B2 H2 S2 (m.trans m2)⟩
    | true =>
      simp [orB, e] at h
      subst h
      exact iteT (q B' H' S' m)
theorem w_and1 (ha : PT X a (tT k ga)) : PW X (.BoolOp .And [a] pos) (tT k ga) := pw_and1 ha
theorem w_or1 (ha : PT X a (tT k ga)) : PW X (.BoolOp .Or [a] pos) (tT k ga) := pw_or1 ha
theorem w_and (ha : PT X a (tT k ga)) (hb : PW X (.BoolOp .And (b :: rest) pos) (tT k gb)) : PW X (.BoolOp .And (a :: b :: rest) pos) (tT k (andB ga gb)) := pw_imp (pw_and ha hb) fun _ _ _ h => and_read h
theorem w_or (ha : PT X a (tT k ga)) (hb : PW X (.BoolOp .Or (b :: rest) pos) (tT k gb)) : PW X (.BoolOp .Or (a :: b :: rest) pos) (tT k (orB ga gb)) := pw_imp (pw_or ha hb) fun _ _ _ h => or_read h
/-- as values: each part a bool -/
theorem v_one {op} (h : PE X a (tD k (bv ga))) : PE X (.BoolOp op [a] pos) (tD k (bv ga)) := pe_one h
theorem bv_read {f : List OT → Option Bool} {σ : L2.St} {H : Hp} {Q : VK} (h : tD k (bv f) σ H Q) : tT k f σ H fun b H1 => Q (.bl b) H1 := by
  obtain ⟨G, B, w, env, d, S, h, q⟩ := h
  cases e : f env with
  | none => simp [bv, e] at h
  | some x =>
    simp [bv, e] at h
    subst h
    exact ⟨G, B, w, env, x, S, e, fun B' H' S' m => q _ B' H' S' m (by simp only [Rep])⟩
theorem bv_of {f : List OT → Option Bool} {σ : L2.St} {H : Hp} {Q : VK} (h : tT k f σ H fun b H1 => Q (.bl b) H1) : tD k (bv f) σ H Q := by
  obtain ⟨G, B, w, env, d, S, h, q⟩ := h
  refine ⟨G, B, w, env, .bl d, S, by simp [bv, h], fun v B' H' S' m r => ?_⟩
  simp only [Rep] at r
  subst r
  exact q B' H' S' m
theorem v_and (ha : PE X a (tD k (bv ga))) (hb : PE X (.BoolOp .And (b :: rest) pos) (tD k (bv gb))) : PE X (.BoolOp .And (a :: b :: rest) pos) (tD k (bv (andB ga gb))) :=
  pe_imp (pe_and ha hb) fun σ H Q h => by
    have q := and_read (bv_read h)
    obtain ⟨G, B, w, env, d, S, h, q⟩ := q
    refine ⟨G, B, w, env, .bl d, S, by simp [bv, h], fun v B' H' S' m r => ?_⟩
    simp only [Rep] at r
    refine ⟨d, r, ?_⟩
    have z := q B' H' S' m
    cases d with
    | true => exact iteT (bv_of (by simpa using z))
    | false => exact iteF (by simpa using z)
theorem v_or (ha : PE X a (tD k (bv ga))) (hb : PE X (.BoolOp .Or (b :: rest) pos) (tD k (bv gb))) : PE X (.BoolOp .Or (a :: b :: rest) pos) (tD k (bv (orB ga gb))) :=
  pe_imp (pe_or ha hb) fun σ H Q h => by
    have q := or_read (bv_read h)
    obtain ⟨G, B, w, env, d, S, h, q⟩ := q
    refine ⟨G, B, w, env, .bl d, S, by simp [bv, h], fun v B' H' S' m r => ?_⟩
    simp only [Rep] at r
    refine ⟨d, r, ?_⟩
    have z := q B' H' S' m
    cases d with
    | true => exact iteT (by simpa using z)
    | false => exact iteF (bv_of (by simpa using z))
theorem v_not (ha : PE X a (tD k (bv ga))) : PE X (.UnaryOp .Not a pos) (tD k (bv (notB ga))) :=
  pe_imp (pe_not ha) fun σ H Q h => by
    obtain ⟨G, B, w, env, d, S, h, q⟩ := bv_read h
    cases e : ga env with
    | none => simp [notB, e] at h
    | some x =>
      have h' : (!x) = d := by simpa [notB, e] using h
      subst h'
      refine ⟨G, B, w, env, .bl x, S, by simp [bv, e], fun v B' H' S' m r => ?_⟩
      simp only [Rep] at r
      exact ⟨x, r, q B' H' S' m⟩
/-- any expression that comes to a bool, as a value among and, or -/
theorem v_val (h : PE X a (tD k fa)) : PE X a (tD k (bv (tst fa))) := pe_imp h fun σ H Q ⟨G, B, w, env, d, S, h, q⟩ => by
  cases e : fa env with
  | none => simp [bv, tst, e] at h
  | some x =>
    cases x <;> simp [bv, tst, e] at h
    subst h
    exact ⟨G, B, w, env, _, S, e, q⟩
@[simp] def ifD (g : List OT → Option Bool) (fa fb : List OT → Option Dat) : List OT → Option Dat := fun e => match g e with
  | none => none
  | some true => fa e
  | some false => fb e
theorem d_if (hc : PT X c (tT k ga)) (ha : PE X a (tD k fa)) (hb : PE X b (tD k fb)) : PE X (.IfExp c a b pos) (tD k (ifD ga fa fb)) := pe_imp (pe_ifExp hc ha hb) fun σ H Q ⟨G, B, w, env, d, S, h, q⟩ => by
  cases e : ga env with
  | none => simp [ifD, e] at h
  | some x =>
    refine ⟨G, B, w, env, x, S, e, fun B' H' S' m => ?_⟩
    cases x with
    | true =>
      simp [ifD, e] at h
      exact iteT ⟨G, B', w, env, d, S', h, fun v B2 H2 S2 m2 => q v B2 H2 S2 (m.trans m2)⟩
    | false =>
      simp [ifD, e] at h
      exact iteF ⟨G, B', w, env, d, S', h, fun v B2 H2 S2 m2 => q v B2 H2 S2 (m.trans m2)⟩

/-! ### items -/
def ixD : Dat → Dat → Option Dat
  | .lst xs, .int i => atI xs i
  | .tup xs, .int i => atI xs i
  | .str x, .int i => if x.length ≤ 16000000 then (atI x.cps.toList i).map fun c => .str ⟨#[c]⟩ else none
  | _, _ => none
theorem atI_rep {B : Hp} {xs : List Dat} {vs : List V} {i : Int} {d : Dat} (r : Reps k B xs vs) (h : atI xs i = some d) : ∃ v, atI vs i = some v ∧ Rep k B d v := by
  unfold atI at h ⊢
  rw [← r.length]
  cases e : ixN xs.length i with
  | none => simp [e] at h
  | some j =>
    simp [e] at h
    obtain ⟨v, hv, q⟩ := r.get h
    exact ⟨v, by simpa using hv, q⟩
theorem rd_ix : RD k (rIx k.K) ixD := by
  intro B H x y d v u Q hs rx ry e q
  cases x <;> cases y <;> simp only [ixD] at e <;> first
    | (cases e; done)
    | skip
  · rename_i x i
    split at e
    · rename_i hl
      cases h : atI x.cps.toList i with
      | none => simp [h] at e
      | some c =>
        simp [h] at e
        subst e
        simp only [Rep] at rx ry
        subst rx ry
        exact .inr (.inr ⟨x, i, c, rfl, rfl, sl16 hl, h, q _ B H .refl (by simp only [Rep])⟩)
    · cases e
  · rename_i xs i
    simp only [Rep] at rx ry
    obtain ⟨p, vs, rfl, hq, hr⟩ := rx
    subst ry
    obtain ⟨w, hw, r⟩ := atI_rep hr e
    exact .inr (.inl ⟨p, vs, i, w, rfl, rfl, sqT_mono hs hq, hw, q _ B H .refl r⟩)
  · rename_i xs i
    simp only [Rep] at rx ry
    obtain ⟨p, vs, rfl, hq, hr⟩ := rx
    subst ry
    obtain ⟨w, hw, r⟩ := atI_rep hr e
    exact .inl ⟨p, vs, i, w, rfl, rfl, sqR hs hq, hw, q _ B H .refl r⟩
theorem d_ix (hk : X.K = k.K) (ha : PE X a (tD k fa)) (hb : PE X b (tD k fb)) (hs : PlainIx b := by exact fun _ _ => rfl) : PE X (.Subscript a b pos) (tD k (bin ixD fa fb)) :=
  pe_imp (pe_ix (hk ▸ ix_seq) ha hb hs) fun _ _ _ h => op_read rd_ix h

/-! ### arguments, displays -/
@[simp] def nilA : List OT → Option (List Dat) := fun _ => some []
@[simp] def consA (f : List OT → Option Dat) (g : List OT → Option (List Dat)) : List OT → Option (List Dat) := fun e => match f e with
  | none => none
  | some d => match g e with
    | none => none
    | some ds => some (d :: ds)
variable {es : List Expr} {fs : List OT → Option (List Dat)}
theorem a_nil : PA X [] (tA k nilA) := pa_imp pa_nil fun σ H Q ⟨G, B, w, env, d, S, h, q⟩ => by
  cases h
  exact q [] B H S .refl .nil
theorem consA_some {f : List OT → Option Dat} {g : List OT → Option (List Dat)} {e : List OT} {r : List Dat} (h : consA f g e = some r) : ∃ d ds, f e = some d ∧ g e = some ds ∧ r = d :: ds := by
  unfold consA at h
  split at h
  · cases h
  · rename_i x hx
    split at h
    · cases h
    · rename_i y hy
      cases h
      exact ⟨x, y, hx, hy, rfl⟩
theorem cons_read {σ : L2.St} {H : Hp} {Q : List V → Hp → Prop} (h : tA k (consA fa fs) σ H Q) : tCons (tD k fa) (tA k fs) σ H Q := by
  obtain ⟨G, B, w, env, d, S, h, q⟩ := h
  obtain ⟨x, xs, hx, hxs, rfl⟩ := consA_some h
  exact ⟨G, B, w, env, x, S, hx, fun v B1 H1 S1 m1 r1 => ⟨G, B1, w, env, xs, S1, hxs, fun vs B2 H2 S2 m2 r2 => q _ B2 H2 S2 (m1.trans m2) (.cons (r1.mono m2.1) r2)⟩⟩
theorem a_cons {e : Expr} (ha : PE X e (tD k fa)) (hr : PA X es (tA k fs)) (hs : starEach (e :: es) X.env = (false, eval e X.env) :: starEach es X.env := by rfl) : PA X (e :: es) (tA k (consA fa fs)) :=
  pa_imp (pa_cons ha hr hs) fun σ H Q h => cons_read h
@[simp] def tupD (fs : List OT → Option (List Dat)) : List OT → Option Dat := fun e => match fs e with
  | none => none
  | some ds => if ds.length ≤ 16000000 then some (.tup ds) else none
@[simp] def lstD (fs : List OT → Option (List Dat)) : List OT → Option OT := fun e => match fs e with
  | none => none
  | some ds => if ds.length ≤ 16000000 then some (.lst (ds.map .sh)) else none
theorem d_tup {x1} (h : PA X es (tA k fs)) : PE X (.Tuple es x1 pos) (tD k (tupD fs)) := pe_imp (pe_tup h) fun σ H Q ⟨G, B, w, env, d, S, h, q⟩ => by
  cases e : fs env with
  | none => simp [tupD, e] at h
  | some ds =>
    simp only [tupD, e] at h
    split at h
    · rename_i hl
      cases h
      refine ⟨G, B, w, env, ds, S, e, fun vs B1 H1 S1 m r => ⟨by rw [← r.length]; exact sl16 hl, fun p hp => ?_⟩⟩
      refine q _ _ _ (S1.new hp) (m.trans ⟨same_new S1.bh hp, same_newH hp⟩) ?_
      simp only [Rep]
      exact ⟨p, vs, rfl, .of upd_same, r.mono (same_new S1.bh hp)⟩
    · cases h
theorem OReps_sh {B H : Hp} {w : WM} {π : List Nat} : ∀ {n : Nat} {ds : List Dat} {vs : List V}, Reps k B ds vs → OReps k B H w π n (ds.map .sh) vs
  | n, [], vs, h => by
    simp only [Reps] at h
    simpa only [List.map_nil, OReps] using h
  | n, d :: ds, vs, h => by
    simp only [Reps] at h
    obtain ⟨v, r, rfl, h1, h2⟩ := h
    simp only [List.map_cons, OReps, ORep]
    exact ⟨v, r, rfl, h1, OReps_sh h2⟩
theorem lst_new {G : Gh} {B H : Hp} {w : WM} {σ : L2.St} {env : List OT} {p : Addr} {ds : List Dat} {vs : List V} (S : Sta k G B H w σ env) (hp : H p = none) (r : Reps k B ds vs) :
    Sta k G B (upd H p (.lst vs)) w σ env ∧ Vt k G B (upd H p (.lst vs)) w (fun a => if a = p then some [] else none) (.lst (ds.map .sh)) (.ref p) := by
  refine ⟨S.ext hp, fun a h => ?_, ?_⟩
  · have e : a = p := by
      by_cases z : a = p
      · exact z
      · simp [z] at h
    subst e
    obtain ⟨x, y, z⟩ := S.nob hp
    exact ⟨x, y, (by rw [upd_same]; exact fun z => by cases z), z⟩
  · simp only [ORep]
    exact ⟨p, vs, rfl, upd_same, by simp, OReps_sh r⟩
theorem f_lst (h : PA X es (tA k fs)) : PE X (.List es pos) (tF k (lstD fs)) := pe_imp (pe_lst h) fun σ H Q ⟨G, B, w, env, d, S, h, q⟩ => by
  cases e : fs env with
  | none => simp [lstD, e] at h
  | some ds =>
    simp only [lstD, e] at h
    split at h
    · rename_i hl
      cases h
      refine ⟨G, B, w, env, ds, S, e, fun vs B1 H1 S1 m r => ⟨by rw [← r.length]; exact sl16 hl, fun p hp => ?_⟩⟩
      obtain ⟨S2, r2⟩ := lst_new S1 hp r
      exact q _ _ _ _ S2 r2 (m.trans ⟨.refl _, same_newH hp⟩)
    · cases h
/-- what is one's own, as shared -/
@[simp] def mlt (f : List OT → Option OT) : List OT → Option Dat := fun e => match f e with
  | none => none
  | some o => if o.ok then some o.dat else none
theorem d_mlt {f : List OT → Option OT} (h : PE X a (tF k f)) : PE X a (tD k (mlt f)) := pe_imp h fun σ H Q ⟨G, B, w, env, d, S, h, q⟩ => by
  cases e : f env with
  | none => simp [mlt, e] at h
  | some o =>
    simp only [mlt, e] at h
    split at h
    · rename_i z
      cases h
      refine ⟨G, B, w, env, o, S, e, fun v B' H' w1 S' T m => ?_⟩
      obtain ⟨S2, r2⟩ := T.melt S' z
      exact q v _ H' S2 ⟨m.1.trans (same_put S'.bh), m.2⟩ r2
    · cases h
end
end DL
namespace DL
open PySem L2
section
variable {k : KC} {X : Cx} {pos p0 : Pos} {a b c : Expr} {fa fb fc : List OT → Option Dat} {es : List Expr} {fs : List OT → Option (List Dat)}
/-! ### built-ins by name -/
@[simp] def cal (g : List Dat → Option Dat) (fs : List OT → Option (List Dat)) : List OT → Option Dat := fun e => match fs e with
  | none => none
  | some ds => g ds
@[simp] def calF (g : List Dat → Option (List Dat)) (fs : List OT → Option (List Dat)) : List OT → Option OT := fun e => match fs e with
  | none => none
  | some ds => match g ds with
    | none => none
    | some r => some (.lst (r.map .sh))
def RC (k : KC) (r : List V → Hp → VK → Prop) (g : List Dat → Option Dat) : Prop := ∀ (B H : Hp) (ds : List Dat) (d : Dat) (vs : List V) (Q : VK), Same B H → Reps k B ds vs → g ds = some d →
  (∀ v' B' H', Grow B H B' H' → Rep k B' d v' → Q v' H') → r vs H Q
def RCF (k : KC) (r : List V → Hp → VK → Prop) (g : List Dat → Option (List Dat)) : Prop := ∀ (B H : Hp) (ds rs : List Dat) (vs : List V) (Q : VK), Same B H → Reps k B ds vs → g ds = some rs →
  (∀ p us, H p = none → Reps k B rs us → Q (.ref p) (upd H p (.lst us))) → r vs H Q
theorem cal_read {r : List V → Hp → VK → Prop} {g : List Dat → Option Dat} (hr : RC k r g) {σ : L2.St} {H : Hp} {Q : VK} (h : tD k (cal g fs) σ H Q) : tCB r (tA k fs) σ H Q := by
  obtain ⟨G, B, w, env, d, S, h, q⟩ := h
  cases e : fs env with
  | none => simp [cal, e] at h
  | some ds =>
    simp only [cal, e] at h
    exact ⟨G, B, w, env, ds, S, e, fun vs B1 H1 S1 m r1 => hr B1 H1 ds d vs Q S1.bh r1 h fun v' B' H' gr r3 => q v' B' H' (S1.grow gr) (m.trans (gr.all S1.bh).2) r3⟩
theorem calF_read {r : List V → Hp → VK → Prop} {g : List Dat → Option (List Dat)} (hr : RCF k r g) {σ : L2.St} {H : Hp} {Q : VK} (h : tF k (calF g fs) σ H Q) : tCB r (tA k fs) σ H Q := by
  obtain ⟨G, B, w, env, d, S, h, q⟩ := h
  cases e : fs env with
  | none => simp [calF, e] at h
  | some ds =>
    simp only [calF, e] at h
    cases e2 : g ds with
    | none => simp [e2] at h
    | some rs =>
      simp only [e2] at h
      cases h
      refine ⟨G, B, w, env, ds, S, e, fun vs B1 H1 S1 m r1 => hr B1 H1 ds rs vs Q S1.bh r1 e2 fun p us hp r3 => ?_⟩
      obtain ⟨S2, T2⟩ := lst_new S1 hp r3
      exact q _ _ _ _ S2 T2 (m.trans ⟨.refl _, same_newH hp⟩)
theorem d_cb {id : String} {x : Str} {e : Expr} {r : List V → Hp → VK → Prop} {g : List Dat → Option Dat} (hc : CallR X (.builtin id) r) (hr : RC k r g) (hm : X.mg x = none) (hv : bootBuiltins x = some (.builtin id)) (ha : PA X (e :: es) (tA k fs)) (hg : Gl X x := by rfl) (hn : x ≠ "__name__" := by decide) (hdb : (x == ("__debug__" : Str)) = false := by decide)
    (he : starEach (e :: es) X.env = (false, eval e X.env) :: starEach es X.env := by rfl) (hpl : (backTo pos (starEach es X.env)).any (·.1) = false := by rfl) : PE X (.Call (.Name x p0) (e :: es) [] pos) (tD k (cal g fs)) :=
  pe_imp (pe_callB hc hg hm hv ha hn hdb he hpl) fun _ _ _ h => cal_read hr h
theorem d_ct {T : String} {x : Str} {e : Expr} {r : List V → Hp → VK → Prop} {g : List Dat → Option Dat} (hc : CallR X (.type T) r) (hr : RC k r g) (hm : X.mg x = none) (hv : bootBuiltins x = some (.type T)) (ha : PA X (e :: es) (tA k fs)) (hg : Gl X x := by rfl) (hn : x ≠ "__name__" := by decide) (hdb : (x == ("__debug__" : Str)) = false := by decide)
    (he : starEach (e :: es) X.env = (false, eval e X.env) :: starEach es X.env := by rfl) (hpl : (backTo pos (starEach es X.env)).any (·.1) = false := by rfl) : PE X (.Call (.Name x p0) (e :: es) [] pos) (tD k (cal g fs)) :=
  pe_imp (pe_callTy hc hg hm hv ha hn hdb he hpl) fun _ _ _ h => cal_read hr h
theorem f_ct {T : String} {x : Str} {e : Expr} {r : List V → Hp → VK → Prop} {g : List Dat → Option (List Dat)} (hc : CallR X (.type T) r) (hr : RCF k r g) (hm : X.mg x = none) (hv : bootBuiltins x = some (.type T)) (ha : PA X (e :: es) (tA k fs)) (hg : Gl X x := by rfl) (hn : x ≠ "__name__" := by decide) (hdb : (x == ("__debug__" : Str)) = false := by decide)
    (he : starEach (e :: es) X.env = (false, eval e X.env) :: starEach es X.env := by rfl) (hpl : (backTo pos (starEach es X.env)).any (·.1) = false := by rfl) : PE X (.Call (.Name x p0) (e :: es) [] pos) (tF k (calF g fs)) :=
  pe_imp (pe_callTy hc hg hm hv ha hn hdb he hpl) fun _ _ _ h => calF_read hr h
theorem f_cb {id : String} {x : Str} {e : Expr} {r : List V → Hp → VK → Prop} {g : List Dat → Option (List Dat)} (hc : CallR X (.builtin id) r) (hr : RCF k r g) (hm : X.mg x = none) (hv : bootBuiltins x = some (.builtin id)) (ha : PA X (e :: es) (tA k fs)) (hg : Gl X x := by rfl) (hn : x ≠ "__name__" := by decide) (hdb : (x == ("__debug__" : Str)) = false := by decide)
    (he : starEach (e :: es) X.env = (false, eval e X.env) :: starEach es X.env := by rfl) (hpl : (backTo pos (starEach es X.env)).any (·.1) = false := by rfl) : PE X (.Call (.Name x p0) (e :: es) [] pos) (tF k (calF g fs)) :=
  pe_imp (pe_callB hc hg hm hv ha hn hdb he hpl) fun _ _ _ h => calF_read hr h

def lenD : List Dat → Option Dat
  | [.lst xs] => some (.int xs.length)
  | [.tup xs] => some (.int xs.length)
  | [.str x] => if x.length ≤ 16000000 then some (.int x.length) else none
  | _ => none
theorem reps1 {B : Hp} {d : Dat} {vs : List V} (h : Reps k B [d] vs) : ∃ v, vs = [v] ∧ Rep k B d v := by
  simp only [Reps] at h
  obtain ⟨v, r, rfl, h1, rfl⟩ := h
  exact ⟨v, rfl, h1⟩
theorem reps2 {B : Hp} {d e : Dat} {vs : List V} (h : Reps k B [d, e] vs) : ∃ v u, vs = [v, u] ∧ Rep k B d v ∧ Rep k B e u := by
  simp only [Reps] at h
  obtain ⟨v, r, rfl, h1, u, r', rfl, h2, rfl⟩ := h
  exact ⟨v, u, rfl, h1, h2⟩
theorem rc_len : RC k (fun xs H Q => ∃ x n, xs = [x] ∧ LenV k.K x H n ∧ Q (.int n) H) lenD := by
  intro B H ds d vs Q hs r e q
  unfold lenD at e
  split at e
  · rename_i xs
    cases e
    obtain ⟨v, rfl, rv⟩ := reps1 r
    simp only [Rep] at rv
    obtain ⟨p, vs, rfl, h1, h2⟩ := rv
    exact ⟨_, _, rfl, .inl ⟨vs, sqR hs h1, rfl⟩, q _ B H .refl (by simp only [Rep]; rw [h2.length])⟩
  · rename_i xs
    cases e
    obtain ⟨v, rfl, rv⟩ := reps1 r
    simp only [Rep] at rv
    obtain ⟨p, vs, rfl, h1, h2⟩ := rv
    exact ⟨_, _, rfl, .inr ⟨vs, sqT_mono hs h1, rfl⟩, q _ B H .refl (by simp only [Rep]; rw [h2.length])⟩
  · split at e
    · rename_i hl
      cases e
      obtain ⟨v, rfl, rv⟩ := reps1 r
      simp only [Rep] at rv
      subst rv
      exact ⟨_, _, rfl, ⟨sl16 hl, rfl⟩, q _ B H .refl (by simp only [Rep])⟩
    · cases e
  · cases e
theorem d_len {e : Expr} (hk : X.K = k.K) (hm : X.mg "len" = none) (ha : PA X [e] (tA k fs)) (hg : Gl X "len" := by rfl) (he : starEach [e] X.env = (false, eval e X.env) :: starEach [] X.env := by rfl) (hpl : (backTo pos (starEach [] X.env)).any (·.1) = false := by rfl) : PE X (.Call (.Name "len" p0) [e] [] pos) (tD k (cal lenD fs)) :=
  d_cb (hk ▸ call_len) rc_len hm boot_len ha hg (by decide) (by decide) he hpl
@[simp] def absD : List Dat → Option Dat
  | [.int i] => some (.int (if i < 0 then -i else i))
  | _ => none
theorem rc_abs : RC k (fun xs H Q => ∃ i, xs = [.int i] ∧ Q (.int (if i < 0 then -i else i)) H) absD := by
  intro B H ds d vs Q hs r e q
  unfold absD at e
  split at e
  · cases e
    obtain ⟨v, rfl, rv⟩ := reps1 r
    simp only [Rep] at rv
    subst rv
    exact ⟨_, rfl, q _ B H .refl (by simp only [Rep])⟩
  · cases e
theorem d_abs {e : Expr} (hm : X.mg "abs" = none) (ha : PA X [e] (tA k fs)) (hg : Gl X "abs" := by rfl) (he : starEach [e] X.env = (false, eval e X.env) :: starEach [] X.env := by rfl) (hpl : (backTo pos (starEach [] X.env)).any (·.1) = false := by rfl) : PE X (.Call (.Name "abs" p0) [e] [] pos) (tD k (cal absD fs)) :=
  d_cb call_abs rc_abs hm (by decide +kernel) ha hg (by decide) (by decide) he hpl
@[simp] def max2D : List Dat → Option Dat
  | [.int i, .int j] => some (.int (if j > i then j else i))
  | _ => none
@[simp] def min2D : List Dat → Option Dat
  | [.int i, .int j] => some (.int (if j < i then j else i))
  | _ => none
theorem rc_max2 : RC k (fun xs H Q => ∃ i j, xs = [.int i, .int j] ∧ Q (.int (if j > i then j else i)) H) max2D := by
  intro B H ds d vs Q hs r e q
  unfold max2D at e
  split at e
  · cases e
    obtain ⟨v, u, rfl, rv, ru⟩ := reps2 r
    simp only [Rep] at rv ru
    subst rv ru
    exact ⟨_, _, rfl, q _ B H .refl (by simp only [Rep])⟩
  · cases e
theorem rc_min2 : RC k (fun xs H Q => ∃ i j, xs = [.int i, .int j] ∧ Q (.int (if j < i then j else i)) H) min2D := by
  intro B H ds d vs Q hs r e q
  unfold min2D at e
  split at e
  · cases e
    obtain ⟨v, u, rfl, rv, ru⟩ := reps2 r
    simp only [Rep] at rv ru
    subst rv ru
    exact ⟨_, _, rfl, q _ B H .refl (by simp only [Rep])⟩
  · cases e
theorem d_max2 {e e2 : Expr} (hc : X.calm = true) (hm : X.mg "max" = none) (ha : PA X [e, e2] (tA k fs)) (hg : Gl X "max" := by rfl) (he : starEach [e, e2] X.env = (false, eval e X.env) :: starEach [e2] X.env := by rfl) (hpl : (backTo pos (starEach [e2] X.env)).any (·.1) = false := by rfl) : PE X (.Call (.Name "max" p0) [e, e2] [] pos) (tD k (cal max2D fs)) :=
  d_cb (call_max2 hc) rc_max2 hm (by decide +kernel) ha hg (by decide) (by decide) he hpl
theorem d_min2 {e e2 : Expr} (hc : X.calm = true) (hm : X.mg "min" = none) (ha : PA X [e, e2] (tA k fs)) (hg : Gl X "min" := by rfl) (he : starEach [e, e2] X.env = (false, eval e X.env) :: starEach [e2] X.env := by rfl) (hpl : (backTo pos (starEach [e2] X.env)).any (·.1) = false := by rfl) : PE X (.Call (.Name "min" p0) [e, e2] [] pos) (tD k (cal min2D fs)) :=
  d_cb (call_min2 hc) rc_min2 hm (by decide +kernel) ha hg (by decide) (by decide) he hpl
@[simp] def intD : List Dat → Option Dat
  | [.int i] => some (.int i)
  | [.bl b] => some (.int (if b then 1 else 0))
  | _ => none
theorem rc_int : RC k (fun xs H Q => (∃ i, xs = [.int i] ∧ Q (.int i) H) ∨ ∃ k, xs = [.bl k] ∧ Q (.int (if k then 1 else 0)) H) intD := by
  intro B H ds d vs Q hs r e q
  unfold intD at e
  split at e
  · cases e
    obtain ⟨v, rfl, rv⟩ := reps1 r
    simp only [Rep] at rv
    subst rv
    exact .inl ⟨_, rfl, q _ B H .refl (by simp only [Rep])⟩
  · cases e
    obtain ⟨v, rfl, rv⟩ := reps1 r
    simp only [Rep] at rv
    subst rv
    exact .inr ⟨_, rfl, q _ B H .refl (by simp only [Rep])⟩
  · cases e
theorem d_int {e : Expr} (hm : X.mg "int" = none) (ha : PA X [e] (tA k fs)) (hg : Gl X "int" := by rfl) (he : starEach [e] X.env = (false, eval e X.env) :: starEach [] X.env := by rfl) (hpl : (backTo pos (starEach [] X.env)).any (·.1) = false := by rfl) : PE X (.Call (.Name "int" p0) [e] [] pos) (tD k (cal intD fs)) :=
  d_ct call_int1 rc_int hm (by decide +kernel) ha hg (by decide) (by decide) he hpl
/-- list(x): a new list -/
@[simp] def listL : List Dat → Option (List Dat)
  | [.lst xs] => some xs
  | [.tup xs] => some xs
  | _ => none
theorem rcf_list : RCF k (fun xs H Q => ∃ p ys, xs = [.ref p] ∧ (SqL k.K H p ys ∨ SqT k.K H p ys) ∧ ∀ l, H l = none → Q (.ref l) (upd H l (.lst ys))) listL := by
  intro B H ds rs vs Q hs r e q
  unfold listL at e
  split at e
  · cases e
    obtain ⟨v, rfl, rv⟩ := reps1 r
    simp only [Rep] at rv
    obtain ⟨p, us, rfl, h1, h2⟩ := rv
    exact ⟨p, us, rfl, .inl (sqR hs h1), fun l hl => q l us hl h2⟩
  · cases e
    obtain ⟨v, rfl, rv⟩ := reps1 r
    simp only [Rep] at rv
    obtain ⟨p, us, rfl, h1, h2⟩ := rv
    exact ⟨p, us, rfl, .inr (sqT_mono hs h1), fun l hl => q l us hl h2⟩
  · cases e
theorem f_list {e : Expr} (hk : X.K = k.K) (hm : X.mg "list" = none) (ha : PA X [e] (tA k fs)) (hg : Gl X "list" := by rfl) (he : starEach [e] X.env = (false, eval e X.env) :: starEach [] X.env := by rfl) (hpl : (backTo pos (starEach [] X.env)).any (·.1) = false := by rfl) : PE X (.Call (.Name "list" p0) [e] [] pos) (tF k (calF listL fs)) :=
  f_ct (hk ▸ call_list_of) rcf_list hm (by decide +kernel) ha hg (by decide) (by decide) he hpl
/-- all, any of a list of bools -/
def boolsOf : List Dat → Option (List Bool)
  | [] => some []
  | .bl b :: r => (boolsOf r).map (b :: ·)
  | _ => none
theorem bools_rep {B : Hp} : ∀ {xs : List Dat} {bs : List Bool} {vs : List V}, boolsOf xs = some bs → Reps k B xs vs → vs = bs.map V.bl
  | [], bs, vs, h, r => by
    simp only [Reps] at r
    simp only [boolsOf, Option.some.injEq] at h
    subst h r
    rfl
  | x :: xs, bs, vs, h, r => by
    simp only [Reps] at r
    obtain ⟨v, r', rfl, h1, h2⟩ := r
    cases x <;> simp only [boolsOf] at h <;> first
      | (cases h; done)
      | skip
    rename_i b
    cases e : boolsOf xs with
    | none => simp [e] at h
    | some cs =>
      simp [e] at h
      subst h
      simp only [Rep] at h1
      subst h1
      rw [bools_rep e h2]
      rfl
def allD : List Dat → Option Dat
  | [.lst xs] => (boolsOf xs).map fun bs => .bl (bs.all id)
  | _ => none
def anyD : List Dat → Option Dat
  | [.lst xs] => (boolsOf xs).map fun bs => .bl (bs.any id)
  | _ => none
theorem rc_all : RC k (rAll k.K) allD := by
  intro B H ds d vs Q hs r e q
  unfold allD at e
  split at e
  · rename_i xs
    cases h : boolsOf xs with
    | none => simp [h] at e
    | some bs =>
      simp [h] at e
      subst e
      obtain ⟨v, rfl, rv⟩ := reps1 r
      simp only [Rep] at rv
      obtain ⟨p, us, rfl, h1, h2⟩ := rv
      have z := bools_rep h h2
      subst z
      exact ⟨p, bs, rfl, sqR hs h1, q _ B H .refl (by simp [Rep])⟩
  · cases e
theorem rc_any : RC k (rAny k.K) anyD := by
  intro B H ds d vs Q hs r e q
  unfold anyD at e
  split at e
  · rename_i xs
    cases h : boolsOf xs with
    | none => simp [h] at e
    | some bs =>
      simp [h] at e
      subst e
      obtain ⟨v, rfl, rv⟩ := reps1 r
      simp only [Rep] at rv
      obtain ⟨p, us, rfl, h1, h2⟩ := rv
      have z := bools_rep h h2
      subst z
      exact ⟨p, bs, rfl, sqR hs h1, q _ B H .refl (by simp [Rep])⟩
  · cases e
theorem d_all {e : Expr} (hk : X.K = k.K) (hc : X.calm = true) (hm : X.mg "all" = none) (ha : PA X [e] (tA k fs)) (hg : Gl X "all" := by rfl) (he : starEach [e] X.env = (false, eval e X.env) :: starEach [] X.env := by rfl) (hpl : (backTo pos (starEach [] X.env)).any (·.1) = false := by rfl) : PE X (.Call (.Name "all" p0) [e] [] pos) (tD k (cal allD fs)) :=
  d_cb (hk ▸ cr_all hc) rc_all hm (by decide +kernel) ha hg (by decide) (by decide) he hpl
theorem d_any {e : Expr} (hk : X.K = k.K) (hc : X.calm = true) (hm : X.mg "any" = none) (ha : PA X [e] (tA k fs)) (hg : Gl X "any" := by rfl) (he : starEach [e] X.env = (false, eval e X.env) :: starEach [] X.env := by rfl) (hpl : (backTo pos (starEach [] X.env)).any (·.1) = false := by rfl) : PE X (.Call (.Name "any" p0) [e] [] pos) (tD k (cal anyD fs)) :=
  d_cb (hk ▸ cr_any hc) rc_any hm (by decide +kernel) ha hg (by decide) (by decide) he hpl

/-! ### isinstance by a built-in class -/
def Dat.ty : Dat → Option String
  | .non => some "NoneType"
  | .bl _ => some "bool"
  | .int _ => some "int"
  | .str _ => some "str"
  | .tup _ => some "tuple"
  | .lst _ => some "list"
  | .dct _ _ => some "dict"
  | .obj _ _ _ => none
  | .exn _ _ _ => none
def isiD (T : String) (f : List OT → Option Dat) : List OT → Option Dat := fun e => match f e with
  | none => none
  | some d => match d.ty with
    | none => none
    | some t => (kitB t T).map .bl
theorem sqL_ty {K : PySem.W.Frag} {H : Hp} {p : Addr} {vs : List V} (h : SqL K H p vs) : TyX K H (.ref p) (.type "list") := by
  rcases h with (h | ⟨o, h⟩) | ⟨o, its, n, e, c, _⟩
  · exact .base (.lst h)
  · exact .base (.frz h)
  · exact .kList e c
theorem sqT_ty {K : PySem.W.Frag} {H : Hp} {p : Addr} {vs : List V} (h : SqT K H p vs) : TyX K H (.ref p) (.type "tuple") := by
  rcases h with (h | ⟨o, h⟩) | ⟨o, its, n, e, c, _⟩
  · exact .base (.tup h)
  · exact .fTuple h
  · exact .kTuple e c
theorem rep_ty {B H : Hp} {d : Dat} {v : V} {t : String} (hs : Same B H) (r : Rep k B d v) (h : d.ty = some t) : TyX k.K H v (.type t) := by
  cases d <;> simp only [Dat.ty] at h <;> first
    | (cases h; done)
    | (cases h; simp only [Rep] at r)
  · subst r; exact .base .non
  · subst r; exact .base (.bl _)
  · subst r; exact .base (.int _)
  · subst r; exact .base (.str _)
  · obtain ⟨p, vs, rfl, h1, _⟩ := r
    exact sqT_ty (sqT_mono hs h1)
  · obtain ⟨p, vs, rfl, h1, _⟩ := r
    exact sqL_ty (sqR hs h1)
  · obtain ⟨p, vs, rfl, h1, _⟩ := r
    rcases rd_mono hs h1 with h | ⟨o, h⟩
    · exact .base (.dK h)
    · exact .fDict h
theorem d_isi (T : Str) {t : String} {p1 : Pos} (hk : X.K = k.K) (hm : X.mg "isinstance" = none) (hmT : X.mg T = none) (ht : bootBuiltins T = some (.type t)) (ha : PE X a (tD k fa)) (hg : Gl X "isinstance" := by rfl) (hgT : Gl X T := by rfl) (hn : T ≠ "__name__" := by decide) (hd : (T == ("__debug__" : Str)) = false := by decide)
    (h1 : starEach [a, .Name T p1] X.env = (false, eval a X.env) :: starEach [.Name T p1] X.env := by rfl) (hpl : (backTo pos (starEach [.Name T p1] X.env)).any (·.1) = false := by rfl) :
    PE X (.Call (.Name "isinstance" p0) [a, .Name T p1] [] pos) (tD k (isiD t fa)) :=
  pe_imp (pe_callB call_isi hg hm (by decide +kernel) (pa_cons ha (pa_cons (pe_bltn (v := .ty t) hgT hmT ht rfl hn hd) pa_nil) h1) (by decide) (by decide) h1 hpl) fun σ H Q ⟨G, B, w, env, d, S, h, q⟩ => by
    cases e : fa env with
    | none => simp [isiD, e] at h
    | some x =>
      simp only [isiD, e] at h
      cases e2 : x.ty with
      | none => simp [e2] at h
      | some y =>
        simp only [e2] at h
        cases e3 : kitB y t with
        | none => simp [e3] at h
        | some bb =>
          simp [e3] at h
          subst h
          refine ⟨G, B, w, env, x, S, e, fun v B1 H1 S1 m r => ?_⟩
          refine ⟨v, .ty t, _, _, bb, rfl, .ty t, hk ▸ rep_ty S1.bh r e2, kit_ty e3, q _ B1 H1 S1 m (by simp only [Rep])⟩

/-! ### slices -/
@[simp] def partN : List OT → Option (Option Int) := fun _ => some none
@[simp] def partS (f : List OT → Option Dat) : List OT → Option (Option Int) := fun e => match f e with
  | some (.int i) => some (some i)
  | _ => none
def tO (k : KC) (f : List OT → Option (Option Int)) : TO := fun σ H Q => ∃ G B w env o, Sta k G B H w σ env ∧ f env = some o ∧ ∀ B' H', Sta k G B' H' w σ env → Mv B H B' H' → Q o H'
theorem o_no : PO X none (tO k partN) := ⟨fun pins s σ H Q I h => (po_none (X := X)).run pins s σ H Q I (by
  obtain ⟨G, B, w, env, o, S, h, q⟩ := h
  cases h
  exact q B H S .refl)⟩
theorem o_so (ha : PE X a (tD k fa)) : PO X (some a) (tO k (partS fa)) := ⟨fun pins s σ H Q I h => (po_some ha).run pins s σ H Q I (by
  obtain ⟨G, B, w, env, o, S, h, q⟩ := h
  unfold partS at h
  split at h
  · rename_i i e
    cases h
    refine ⟨G, B, w, env, _, S, e, fun v B' H' S' m r => ?_⟩
    simp only [Rep] at r
    exact ⟨i, r, q B' H' S' m⟩
  · cases h)⟩
def cutD {α : Type} (xs : List α) (lo hi : Option Int) : List α := (xs.drop (HT.sIx xs.length 0 lo)).take (HT.sIx xs.length xs.length hi - HT.sIx xs.length 0 lo)
theorem cut_rep {B : Hp} {xs : List Dat} {vs : List V} {lo hi : Option Int} (r : Reps k B xs vs) : Reps k B (cutD xs lo hi) (cutV vs lo hi) := by
  unfold cutD cutV
  rw [r.length]
  exact (r.drop _).take _
/-- of a list: a new list -/
def sliF (fa : List OT → Option Dat) (l h : List OT → Option (Option Int)) : List OT → Option OT := fun e => match fa e with
  | some (.lst xs) => match l e with
    | none => none
    | some lo => match h e with
      | none => none
      | some hi => some (.lst ((cutD xs lo hi).map .sh))
  | _ => none
theorem f_sli {lo hi : Option Expr} {p2 : Pos} {fl fh : List OT → Option (Option Int)} (hk : X.K = k.K) (ha : PE X a (tD k fa)) (hl : PO X lo (tO k fl)) (hh : PO X hi (tO k fh)) : PE X (.Subscript a (.Slice lo hi none p2) pos) (tF k (sliF fa fl fh)) :=
  pe_imp (pe_slice (hk ▸ sl_list) ha hl hh) fun σ H Q ⟨G, B, w, env, d, S, h, q⟩ => by
    unfold sliF at h
    split at h
    · rename_i xs e
      split at h
      · cases h
      · rename_i l e2
        split at h
        · cases h
        · rename_i u e3
          cases h
          refine ⟨G, B, w, env, _, S, e, fun v B1 H1 S1 m1 r1 => ⟨G, B1, w, env, l, S1, e2, fun B2 H2 S2 m2 => ⟨G, B2, w, env, u, S2, e3, fun B3 H3 S3 m3 => ?_⟩⟩⟩
          simp only [Rep] at r1
          obtain ⟨p, vs, rfl, h1, h2⟩ := r1
          refine ⟨p, vs, rfl, sqR (((m2.trans m3).1).trans S3.bh) h1, fun p hp => ?_⟩
          obtain ⟨S4, T4⟩ := lst_new S3 hp ((cut_rep (lo := l) (hi := u) h2).mono (m2.trans m3).1)
          exact q _ _ _ _ S4 T4 ((m1.trans (m2.trans m3)).trans ⟨.refl _, same_newH hp⟩)
    · cases h
/-- xs + ys: a new list -/
def catF (fa fb : List OT → Option Dat) : List OT → Option OT := fun e => match fa e with
  | some (.lst xs) => match fb e with
    | some (.lst ys) => if xs.length + ys.length ≤ 16000000 then some (.lst ((xs ++ ys).map .sh)) else none
    | _ => none
  | _ => none
end
end DL
namespace DL
open PySem L2 PyProof.Rows PySem.Spec
/-! ### lists glued, repeated: any lists that are read -/
/-- what a list that is read is in the heap -/
theorem lst_obj {X : Cx} {pins : List (Addr × Obj)} {σ : L2.St} {H : Hp} {s : Shared} {l : Addr} {xs : List V} (I : Inv X pins σ H s) (hl : SqL X.K H l xs) :
    ∃ its n sl, Vals xs its ∧ xs.length = its.length ∧ its.toArray.size = its.length ∧ s.heap.get? l = some { cls := .type "list", dict := none, data := .seq its.toArray n, slots := sl } := by
  obtain ⟨its, r, ⟨⟨c, d, dt, sl⟩, n, e, rfl, rfl, rfl⟩, _⟩ := I.list hl
  exact ⟨its, n, sl, r, r.length, by simp, e⟩
def rCatR (K : PySem.W.Frag) : R2 := fun x y H Q => ∃ l m xs zs, x = .ref l ∧ y = .ref m ∧ SqL K H l xs ∧ SqL K H m zs ∧ xs.length + zs.length ≤ sizeLine ∧ ∀ p, H p = none → Q (.ref p) (upd H p (.lst (xs ++ zs)))
theorem op_catR {X : Cx} : OpR X (binaryOp .Add) (rCatR X.K) := by
  intro pins s σ H x y v u Q I rx ry h
  obtain ⟨l, m, xs, zs, rfl, rfl, hl, hm, hz, q⟩ := h
  obtain ⟨i1, n1, s1, r1, z1, y1, o1⟩ := lst_obj I hl
  obtain ⟨i2, n2, s2, r2, z2, y2, o2⟩ := lst_obj I hm
  cases rx
  cases ry
  have sz : i1.toArray.size + i2.toArray.size ≤ sizeLine := by omega
  have fin : EP X pins σ Q (.ref s.heap.objs.size) { s with heap := s.heap.push { cls := .type "list", data := .seq (i1.toArray ++ i2.toArray) } } := by
    have ap : i1.toArray ++ i2.toArray = (i1 ++ i2).toArray := List.append_toArray i1 i2
    rw [ap]
    exact ⟨.ref _, _, I.lnew (t' := s.toks) (r1.append r2) (List.length_append ▸ hz), rfl, q _ I.fresh⟩
  exact concat_meets ⟨_, o1, rfl⟩ ⟨_, o2, rfl⟩ noFill_list_add seq_list_add F.slot_list_add F.entry_list_add (F.args_list_add_2 _ _) (list_addW l m _ _ n1 n2 none none s1 s2 sz) ⟨o1, o2, fin⟩
/-- the same of list * int and int's own refusal, whatever the slots -/
theorem lst_mul (l : Addr) (it : Array Value) (n : Nat) (sl : Array (Option Value)) (x : Int) (u : Tok) (h0 : ¬(!Builtin.List.listFitsIndex x) = true) (h1 : ¬it.size * x.toNat > (2 ^ 63 - 1) / 8) (h2 : ¬Builtin.List.listTooLong (it.size * x.toNat) = true) :
    Meets (Builtin.«list.__mul__» ⟨[.ref l, .int x u], []⟩) (fun _ R s => s.heap.get? l = some { cls := .type "list", dict := none, data := .seq it n, slots := sl } ∧
      R (.ok (.ret (Value.ref s.heap.objs.size))) { s with heap := s.heap.push { cls := .type "list", data := .seq (List.foldl (fun a b => a ++ b) #[] (List.replicate (if it.isEmpty = true then 0 else x.toNat) it)) } }) := .of_wp fun prog w A R s h => by
  obtain ⟨hp, g, d, tk, os⟩ := s
  obtain ⟨hl, h⟩ := h
  have hsz := AutoListH.joined_fits h2
  wp_walk
  refine wpAny_ite_false (decide_eq_false (Nat.not_lt.mpr hsz)) ?_
  wp_walk
  exact ⟨_, rfl, h⟩
theorem int_rmul (a : Int) (t : Tok) (l : Addr) (it : Array Value) (n : Nat) (sl : Array (Option Value)) :
    Meets (Builtin.«int.__rmul__» ⟨[.int a t, .ref l], []⟩) (fun _ R s => s.heap.get? l = some { cls := .type "list", dict := none, data := .seq it n, slots := sl } ∧ R (.ok (.ret Value.notImplemented)) s) := .of_wp fun prog w A R s h => by
  obtain ⟨hp, g, d, tk, os⟩ := s
  obtain ⟨hl, h⟩ := h
  wp_walk
  exact ⟨_, rfl, h⟩
def rRepR (K : PySem.W.Frag) : R2 := fun x y H Q => ∃ l n xs, x = .ref l ∧ y = .int n ∧ SqL K H l xs ∧ -(2 ^ 63) ≤ n ∧ n < 2 ^ 63 ∧ xs.length * n.toNat ≤ sizeLine ∧ ∀ p, H p = none → Q (.ref p) (upd H p (.lst (List.replicate n.toNat xs).flatten))
theorem rep_fold (its : List Value) (m : Nat) : List.foldl (fun a b => a ++ b) #[] (List.replicate (if its.toArray.isEmpty = true then 0 else m) its.toArray) = (List.replicate m its).flatten.toArray := by
  cases its with
  | nil =>
    have z : ∀ k : Nat, (List.replicate k ([] : List Value)).flatten = [] := fun k => by simp
    simp [z]
  | cons a r =>
    rw [if_neg (by simp)]
    exact (foldl_rep (a :: r) m []).trans (by rw [List.nil_append])
theorem op_repR {X : Cx} : OpR X (binaryOp .Mult) (rRepR X.K) := by
  intro pins s σ H x y v u Q I rx ry h
  obtain ⟨l, m, xs, rfl, rfl, hl, b1, b2, hz, q⟩ := h
  obtain ⟨i1, n1, s1, r1, z1, y1, o1⟩ := lst_obj I hl
  cases rx
  obtain ⟨t, rfl⟩ := ry
  have sz : i1.toArray.size * m.toNat ≤ sizeLine := by rw [y1, ← z1]; exact hz
  have cap : (sizeLine : Nat) ≤ (2 ^ 63 - 1) / 8 := by decide
  refine wpAny_binaryOp_repeat_ref (T := "list") (U := "int") (by decide) ⟨_, o1, rfl⟩ (fun s' => typeIs_int s' m t) noFill_list_mul F.fills_int_mul F.slot_int_rmul repeat_list F.slot_int_index.lookup ?_
  refine call_meets F.slot_int_rmul (typeIs_int s m t) F.entry_int_rmul (F.args_int_rmul_2 _ _) (int_rmul m t l _ n1 s1) ⟨o1, rfl, ⟨_, o1, rfl⟩, ?_⟩
  refine call_meets F.slot_list_mul ⟨_, o1, rfl⟩ F.entry_list_mul (F.args_list_mul_2 _ _) (lst_mul l _ n1 s1 m t ?_ (by omega) ?_) ⟨o1, ?_⟩
  · rw [fitsIndex_both b1 b2]
    decide
  · rw [notLongL sz]
    decide
  · rw [rep_fold]
    exact ⟨.ref _, _, I.lnew (t' := s.toks) (r1.rep m.toNat) (by rw [lm_len_rep_flat, Nat.mul_comm]; exact hz), rfl, q _ I.fresh⟩
theorem Reps.rep {k : KC} {B : Hp} {xs : List Dat} {vs : List V} (r : Reps k B xs vs) : ∀ n : Nat, Reps k B (List.replicate n xs).flatten (List.replicate n vs).flatten
  | 0 => .nil
  | n + 1 => by
    rw [List.replicate_succ, List.replicate_succ, List.flatten_cons, List.flatten_cons]
    exact r.append (Reps.rep r n)
section
variable {k : KC} {X : Cx} {pos p0 : Pos} {a b c : Expr} {fa fb fc : List OT → Option Dat} {es : List Expr} {fs : List OT → Option (List Dat)}
theorem f_cat (hk : X.K = k.K) (ha : PE X a (tD k fa)) (hb : PE X b (tD k fb)) : PE X (.BinOp a .Add b pos) (tF k (catF fa fb)) := pe_imp (pe_op (hk ▸ op_catR) ha hb) fun σ H Q ⟨G, B, w, env, d, S, h, q⟩ => by
  unfold catF at h
  split at h
  · rename_i xs e
    split at h
    · rename_i ys e2
      split at h
      · rename_i hl
        cases h
        refine ⟨G, B, w, env, _, S, e, fun v B1 H1 S1 m1 r1 => ⟨G, B1, w, env, _, S1, e2, fun u B2 H2 S2 m2 r2 => ?_⟩⟩
        simp only [Rep] at r1 r2
        obtain ⟨p, vs, rfl, h1, h2⟩ := r1
        obtain ⟨p', us, rfl, h3, h4⟩ := r2
        refine ⟨p, p', vs, us, rfl, rfl, sqR (m2.1.trans S2.bh) h1, sqR S2.bh h3, by rw [← h2.length, ← h4.length]; exact sl16 hl, fun p hp => ?_⟩
        obtain ⟨S4, T4⟩ := lst_new S2 hp ((h2.mono m2.1).append h4)
        exact q _ _ _ _ S4 T4 ((m1.trans m2).trans ⟨.refl _, same_newH hp⟩)
      · cases h
    · cases h
  · cases h
def repF (fa fb : List OT → Option Dat) : List OT → Option OT := fun e => match fa e with
  | some (.lst xs) => match fb e with
    | some (.int n) => if -(2 ^ 63) ≤ n ∧ n < 2 ^ 63 ∧ xs.length * n.toNat ≤ 16000000 then some (.lst ((List.replicate n.toNat xs).flatten.map .sh)) else none
    | _ => none
  | _ => none
theorem f_rep (hk : X.K = k.K) (ha : PE X a (tD k fa)) (hb : PE X b (tD k fb)) : PE X (.BinOp a .Mult b pos) (tF k (repF fa fb)) := pe_imp (pe_op (hk ▸ op_repR) ha hb) fun σ H Q ⟨G, B, w, env, d, S, h, q⟩ => by
  unfold repF at h
  split at h
  · rename_i xs e
    split at h
    · rename_i n e2
      split at h
      · rename_i hl
        cases h
        refine ⟨G, B, w, env, _, S, e, fun v B1 H1 S1 m1 r1 => ⟨G, B1, w, env, _, S1, e2, fun u B2 H2 S2 m2 r2 => ?_⟩⟩
        simp only [Rep] at r1 r2
        obtain ⟨p, vs, rfl, h1, h2⟩ := r1
        subst r2
        refine ⟨p, n, vs, rfl, rfl, sqR (m2.1.trans S2.bh) h1, hl.1, hl.2.1, by rw [← h2.length]; exact sl16 hl.2.2, fun p hp => ?_⟩
        obtain ⟨S4, T4⟩ := lst_new S2 hp ((h2.rep n.toNat).mono m2.1)
        exact q _ _ _ _ S4 T4 ((m1.trans m2).trans ⟨.refl _, same_newH hp⟩)
      · cases h
    · cases h
  · cases h

/-! ### what is walked -/
structure Wk (k : KC) (J : It) (B : Hp) (ds : List Dat) : Prop where
  go : ∀ (i : Nat) d B' H', Same B B' → Same B' H' → ds[i]? = some d → J.go i H'
  yld : ∀ (i : Nat) d B' H' x H'', Same B B' → Same B' H' → ds[i]? = some d → J.yld i H' x H'' → ∃ B'', Grow B' H' B'' H'' ∧ Rep k B'' d x
  stop : ∀ B' H', Same B B' → Same B' H' → J.stop ds.length H'
def tI (k : KC) (f : List OT → Option (List Dat)) : TI := fun σ H R => ∃ G B w env ds, Sta k G B H w σ env ∧ f env = some ds ∧ ∀ J B' H', Sta k G B' H' w σ env → Mv B H B' H' → Wk k J B' ds → R J H'
theorem pi_imp {tg iter : Expr} {t t' : TI} (h : PI X tg iter t) (i : ∀ σ H R, t' σ H R → t σ H R) : PI X tg iter t' := ⟨fun pins s σ H Q I q => h.run pins s σ H Q I (i σ H Q q)⟩
variable {tg : Expr}
@[simp] def lstOf (f : List OT → Option Dat) : List OT → Option (List Dat) := fun e => match f e with
  | some (.lst xs) => some xs
  | _ => none
@[simp] def tupOf (f : List OT → Option Dat) : List OT → Option (List Dat) := fun e => match f e with
  | some (.tup xs) => some xs
  | _ => none
theorem Reps.none {B : Hp} {ds : List Dat} {vs : List V} (r : Reps k B ds vs) : vs.length = ds.length := r.length.symm
theorem wk_list {B : Hp} {p : Addr} {ds : List Dat} {vs : List V} (h : SqL k.K B p vs) (r : Reps k B ds vs) : Wk k (Itl k.K p) B ds where
  go := fun i d B' H' m s e => by
    obtain ⟨v, hv, _⟩ := r.get e
    exact ⟨vs, v, sqR (m.trans s) h, hv⟩
  yld := fun i d B' H' x H'' m s e y => by
    obtain ⟨rfl, y⟩ := y
    obtain ⟨v, hv, q⟩ := r.get e
    have z := y vs (sqR (m.trans s) h)
    rw [hv] at z
    cases z
    exact ⟨B', .refl, q.mono m⟩
  stop := fun B' H' m s => ⟨vs, sqR (m.trans s) h, by rw [r.length]; exact Nat.le_refl _⟩
theorem wk_tup {B : Hp} {p : Addr} {ds : List Dat} {vs : List V} (h : SqT k.K B p vs) (r : Reps k B ds vs) : Wk k (Itt k.K p) B ds where
  go := fun i d B' H' m s e => by
    obtain ⟨v, hv, _⟩ := r.get e
    exact ⟨vs, v, sqT_mono (m.trans s) h, hv⟩
  yld := fun i d B' H' x H'' m s e y => by
    obtain ⟨rfl, y⟩ := y
    obtain ⟨v, hv, q⟩ := r.get e
    have z := y vs (sqT_mono (m.trans s) h)
    rw [hv] at z
    cases z
    exact ⟨B', .refl, q.mono m⟩
  stop := fun B' H' m s => ⟨vs, sqT_mono (m.trans s) h, by rw [r.length]; exact Nat.le_refl _⟩
theorem i_list (hk : X.K = k.K) (ha : PE X a (tD k fa)) : PI X tg a (tI k (lstOf fa)) := pi_imp (pi_list ha) fun σ H R ⟨G, B, w, env, ds, S, h, q⟩ => by
  unfold lstOf at h
  split at h
  · rename_i xs e
    cases h
    refine ⟨G, B, w, env, _, S, e, fun v B1 H1 S1 m1 r1 => ?_⟩
    simp only [Rep] at r1
    obtain ⟨p, vs, rfl, h1, h2⟩ := r1
    exact ⟨p, rfl, ⟨vs, hk ▸ sqR S1.bh h1⟩, q _ B1 H1 S1 m1 (hk ▸ wk_list h1 h2)⟩
  · cases h
theorem i_tup (hk : X.K = k.K) (ha : PE X a (tD k fa)) : PI X tg a (tI k (tupOf fa)) := pi_imp (pi_tup ha) fun σ H R ⟨G, B, w, env, ds, S, h, q⟩ => by
  unfold tupOf at h
  split at h
  · rename_i xs e
    cases h
    refine ⟨G, B, w, env, _, S, e, fun v B1 H1 S1 m1 r1 => ?_⟩
    simp only [Rep] at r1
    obtain ⟨p, vs, rfl, h1, h2⟩ := r1
    exact ⟨p, rfl, ⟨vs, hk ▸ sqT_mono S1.bh h1⟩, q _ B1 H1 S1 m1 (hk ▸ wk_tup h1 h2)⟩
  · cases h
def rngFrom (lo : Int) (n : Nat) : List Dat := (List.range n).map fun i => .int (lo + (i : Nat))
def rng1 (fs : List OT → Option (List Dat)) : List OT → Option (List Dat) := fun e => match fs e with
  | some [.int j] => if -(2 ^ 62) ≤ j ∧ j < 2 ^ 62 then some (rngFrom 0 j.toNat) else none
  | _ => none
def rng2 (fs : List OT → Option (List Dat)) : List OT → Option (List Dat) := fun e => match fs e with
  | some [.int i, .int j] => if -(2 ^ 62) ≤ i ∧ i < 2 ^ 62 ∧ -(2 ^ 62) ≤ j ∧ j < 2 ^ 62 then some (rngFrom i (j - i).toNat) else none
  | _ => none
theorem wk_rng {B : Hp} {lo : Int} {n : Nat} : Wk k (Itr lo n) B (rngFrom lo n) where
  go := fun i d B' H' m s e => by
    have : i < (rngFrom lo n).length := (List.getElem?_eq_some_iff.mp e).1
    show i < n
    simpa [rngFrom] using this
  yld := fun i d B' H' x H'' m s e y => by
    obtain ⟨rfl, rfl⟩ := y
    refine ⟨B', .refl, ?_⟩
    simp only [rngFrom, List.getElem?_map] at e
    cases z : (List.range n)[i]? with
    | none => simp [z] at e
    | some j =>
      have hj : j = i := by
        obtain ⟨h1, h2⟩ := List.getElem?_eq_some_iff.mp z
        simpa using h2.symm
      subst hj
      simp [z] at e
      subst e
      simp only [Rep]
  stop := fun B' H' m s => by
    show n ≤ (rngFrom lo n).length
    simp [rngFrom]
theorem i_rng1 {p : Pos} (hm : X.mg "range" = none) (ha : PA X [a] (tA k fs)) (hg : Gl X "range" := by rfl) (hs : starEach [a] X.env = [(false, eval a X.env)] := by rfl) : PI X tg (.Call (.Name "range" p) [a] [] pos) (tI k (rng1 fs)) :=
  pi_imp (pi_range1 hg hm ha hs) fun σ H R ⟨G, B, w, env, ds, S, h, q⟩ => by
    unfold rng1 at h
    split at h
    · rename_i j e
      split at h
      · rename_i hj
        cases h
        refine ⟨G, B, w, env, _, S, e, fun vs B1 H1 S1 m1 r1 => ?_⟩
        obtain ⟨v, rfl, rv⟩ := reps1 r1
        simp only [Rep] at rv
        subst rv
        exact ⟨j, rfl, hj.1, hj.2, q _ B1 H1 S1 m1 wk_rng⟩
      · cases h
    · cases h
theorem i_rng2 {p : Pos} (hm : X.mg "range" = none) (ha : PA X [a, b] (tA k fs)) (hg : Gl X "range" := by rfl) (hs : starEach [a, b] X.env = [(false, eval a X.env), (false, eval b X.env)] := by rfl) (hs2 : starEach [b] X.env = [(false, eval b X.env)] := by rfl) : PI X tg (.Call (.Name "range" p) [a, b] [] pos) (tI k (rng2 fs)) :=
  pi_imp (pi_range2 hg hm ha hs hs2) fun σ H R ⟨G, B, w, env, ds, S, h, q⟩ => by
    unfold rng2 at h
    split at h
    · rename_i i j e
      split at h
      · rename_i hj
        cases h
        refine ⟨G, B, w, env, _, S, e, fun vs B1 H1 S1 m1 r1 => ?_⟩
        obtain ⟨v, u, rfl, rv, ru⟩ := reps2 r1
        simp only [Rep] at rv ru
        subst rv ru
        exact ⟨i, j, rfl, hj, q _ B1 H1 S1 m1 wk_rng⟩
      · cases h
    · cases h
def zipD (fs : List OT → Option (List Dat)) : List OT → Option (List Dat) := fun e => match fs e with
  | some [.lst xs, .lst ys] => some (xs.zipWith (fun x y => .tup [x, y]) ys)
  | _ => none
theorem wk_zip {B : Hp} {p p' : Addr} {ds es : List Dat} {vs us : List V} (h : SqL k.K B p vs) (r : Reps k B ds vs) (h' : SqL k.K B p' us) (r' : Reps k B es us) : Wk k (Itz k.K p p') B (ds.zipWith (fun x y => .tup [x, y]) es) where
  go := fun i d B' H' m s e => by
    rw [List.getElem?_zipWith] at e
    cases e1 : ds[i]? with
    | none => simp [e1] at e
    | some x =>
      cases e2 : es[i]? with
      | none => simp [e1, e2] at e
      | some y =>
        obtain ⟨v, hv, _⟩ := r.get e1
        obtain ⟨u, hu, _⟩ := r'.get e2
        exact ⟨vs, us, v, u, sqR (m.trans s) h, sqR (m.trans s) h', hv, hu⟩
  yld := fun i d B' H' x H'' m s e y => by
    rw [List.getElem?_zipWith] at e
    cases e1 : ds[i]? with
    | none => simp [e1] at e
    | some x1 =>
      cases e2 : es[i]? with
      | none => simp [e1, e2] at e
      | some y1 =>
        simp [e1, e2] at e
        subst e
        obtain ⟨v, hv, q1⟩ := r.get e1
        obtain ⟨u, hu, q2⟩ := r'.get e2
        obtain ⟨T, xv, yv, rfl, hT, rfl, z1, z2⟩ := y
        have a1 := z1 vs (sqR (m.trans s) h)
        have a2 := z2 us (sqR (m.trans s) h')
        rw [hv] at a1
        rw [hu] at a2
        cases a1
        cases a2
        refine ⟨_, .new .refl hT, ?_⟩
        simp only [Rep]
        have mm := m.trans (same_new (o := .tup [v, u]) s hT)
        exact ⟨T, _, rfl, .of upd_same, .cons (q1.mono mm) (.cons (q2.mono mm) .nil)⟩
  stop := fun B' H' m s => by
    refine ⟨vs, us, sqR (m.trans s) h, sqR (m.trans s) h', ?_⟩
    rw [List.length_zipWith, r.length, r'.length]
    omega
theorem i_zip {p tpos : Pos} {elts : List Expr} {kk : Nat} (hk : X.K = k.K) (hm : X.mg "zip" = none) (ha : PA X [a, b] (tA k fs)) (hg : Gl X "zip" := by rfl)
    (hs : starEach [a, b] X.env = (false, eval a X.env) :: starEach [b] X.env := by rfl) (hpl : (backTo pos (starEach [b] X.env)).any (·.1) = false := by rfl) : PI X (.Tuple elts kk tpos) (.Call (.Name "zip" p) [a, b] [] pos) (tI k (zipD fs)) :=
  pi_imp (pi_zip hg hm ha hs hpl) fun σ H R ⟨G, B, w, env, ds, S, h, q⟩ => by
    unfold zipD at h
    split at h
    · rename_i xs ys e
      cases h
      refine ⟨G, B, w, env, _, S, e, fun vs B1 H1 S1 m1 r1 => ?_⟩
      obtain ⟨v, u, rfl, rv, ru⟩ := reps2 r1
      simp only [Rep] at rv ru
      obtain ⟨p, vs, rfl, h1, h2⟩ := rv
      obtain ⟨p', us, rfl, h3, h4⟩ := ru
      exact ⟨p, p', vs, us, rfl, hk ▸ sqR S1.bh h1, hk ▸ sqR S1.bh h3, q _ B1 H1 S1 m1 (hk ▸ wk_zip h1 h2 h3 h4)⟩
    · cases h
/-- a text, sign by sign -/
@[simp] def strOf (f : List OT → Option Dat) : List OT → Option (List Dat) := fun e => match f e with
  | some (.str x) => some (x.cps.toList.map fun c => .str ⟨#[c]⟩)
  | _ => none
theorem wk_str {B : Hp} {x : Str} : Wk k (Its x) B (x.cps.toList.map fun c => .str ⟨#[c]⟩) where
  go := fun i d B' H' m s e => by
    have : i < (x.cps.toList.map fun c => Dat.str ⟨#[c]⟩).length := (List.getElem?_eq_some_iff.mp e).1
    show i < x.cps.size
    simpa using this
  yld := fun i d B' H' v H'' m s e y => by
    obtain ⟨rfl, c, hc, rfl⟩ := y
    refine ⟨B', .refl, ?_⟩
    rw [List.getElem?_map, Array.getElem?_toList, hc] at e
    simp at e
    subst e
    simp only [Rep]
  stop := fun B' H' m s => by
    show x.cps.size ≤ _
    simp
theorem i_str (ha : PE X a (tD k fa)) : PI X tg a (tI k (strOf fa)) := pi_imp (pi_str ha) fun σ H R ⟨G, B, w, env, ds, S, h, q⟩ => by
  unfold strOf at h
  split at h
  · rename_i xs e
    cases h
    refine ⟨G, B, w, env, _, S, e, fun v B1 H1 S1 m1 r1 => ?_⟩
    simp only [Rep] at r1
    exact ⟨_, r1, q _ B1 H1 S1 m1 wk_str⟩
  · cases h

/-! ### targets -/
def gD (k : KC) (st : Dat → List OT → Option (List OT)) : TG := fun v σ H Q => ∃ G B w env d env', Sta k G B H w σ env ∧ Rep k B d v ∧ st d env = some env' ∧ ∀ σ', Sta k G B H w σ' env' → Q σ' H
theorem pg_imp {t t' : TG} (h : PG X tg t) (i : ∀ v σ H Q, t' v σ H Q → t v σ H Q) : PG X tg t' := ⟨fun pins s σ H v u Q I r q => h.run pins s σ H v u Q I r (i v σ H Q q)⟩
@[simp] def toN (i : Nat) : Dat → List OT → Option (List OT) := fun d e => some (e.set i (.sh d))
theorem g_name {i : Nat} {x : Str} (hN : X.N.Nodup) (hi : X.N[i]? = some x := by rfl) (hx : Loc X.env.scope x := by first | exact .inl rfl | exact .inr rfl) (hf : X.fn x = true ∨ X.env.scope.names.lookup x = some .local := by first | exact .inl rfl | exact .inr rfl | assumption) : PG X (.Name x pos) (gD k (toN i)) :=
  pg_imp (pg_name hN hi hx hf) fun v σ H Q ⟨G, B, w, env, d, env', S, r, h, q⟩ => by
    cases h
    exact q _ (S.set r)
/-- several targets, one after another -/
def gDs (k : KC) (st : List Dat → List OT → Option (List OT)) : TGs := fun vs σ H Q => ∃ G B w env ds env', Sta k G B H w σ env ∧ Reps k B ds vs ∧ st ds env = some env' ∧ ∀ σ', Sta k G B H w σ' env' → Q σ' H
theorem pgs_imp {ts : List Expr} {t t' : TGs} (h : PGs X ts t) (i : ∀ v σ H Q, t' v σ H Q → t v σ H Q) : PGs X ts t' := ⟨fun pins s σ H v u Q I r q => h.run pins s σ H v u Q I r (i v σ H Q q)⟩
@[simp] def toNil : List Dat → List OT → Option (List OT) := fun ds e => match ds with
  | [] => some e
  | _ => none
@[simp] def toCons (st : Dat → List OT → Option (List OT)) (sts : List Dat → List OT → Option (List OT)) : List Dat → List OT → Option (List OT) := fun ds e => match ds with
  | [] => none
  | d :: ds => match st d e with
    | none => none
    | some e' => sts ds e'
theorem g_nil : PGs X [] (gDs k toNil) := pgs_imp pgs_nil fun v σ H Q ⟨G, B, w, env, ds, env', S, r, h, q⟩ => by
  unfold toNil at h
  split at h
  · cases h
    simp only [Reps] at r
    exact ⟨r, q _ S⟩
  · cases h
theorem g_cons {e : Expr} {st : Dat → List OT → Option (List OT)} {sts : List Dat → List OT → Option (List OT)} (h1 : PG X e (gD k st)) (h2 : PGs X es (gDs k sts))
    (hs : (assignEach (e :: es) X.env).map (·.2) = assign e X.env :: (assignEach es X.env).map (·.2) := by rfl) : PGs X (e :: es) (gDs k (toCons st sts)) := pgs_imp (pgs_cons h1 h2 hs) fun v σ H Q ⟨G, B, w, env, ds, env', S, r, h, q⟩ => by
  cases ds with
  | nil => simp [toCons] at h
  | cons d ds =>
    simp only [Reps] at r
    obtain ⟨v0, r0, rfl, h3, h4⟩ := r
    simp only [toCons] at h
    cases e : st d env with
    | none => simp [e] at h
    | some e1 =>
      simp only [e] at h
      exact ⟨v0, r0, rfl, G, B, w, env, d, e1, S, h3, e, fun σ1 S1 => ⟨G, B, w, e1, ds, env', S1, h4, h, q⟩⟩
@[simp] def toTup (n : Nat) (sts : List Dat → List OT → Option (List OT)) : Dat → List OT → Option (List OT) := fun d e => match d with
  | .tup ds => if ds.length = n then sts ds e else none
  | _ => none
theorem g_tup {kk n : Nat} {sts : List Dat → List OT → Option (List OT)} (hk : X.K = k.K) (hc : X.calm = true) (h : PGs X es (gDs k sts)) (hn : (assignEach es X.env).length = n := by rfl) (hst : (assignEach es X.env).findIdx? (·.1) = none := by rfl) : PG X (.Tuple es kk pos) (gD k (toTup n sts)) :=
  pg_imp (pg_tup hc h hn hst) fun v σ H Q ⟨G, B, w, env, d, env', S, r, h, q⟩ => by
    unfold toTup at h
    split at h
    · split at h
      · rename_i ds hl
        simp only [Rep] at r
        obtain ⟨p, vs, rfl, h1, h2⟩ := r
        exact ⟨p, vs, rfl, hk ▸ sqT_mono S.bh h1, by rw [← h2.length]; exact hl, G, B, w, env, ds, env', S, h2, h, q⟩
      · cases h
    · cases h
end
end DL
namespace DL
open PySem L2 PyProof.Rows PySem.Spec
theorem OReps.frame2 {k : KC} {B B' H H' : Hp} {w w' : WM} (e : Same B B') : ∀ {π : List Nat} {n : Nat} {os : List OT} {vs : List V}, (∀ m, Keeps (m :: π) w w' H H') → OReps k B H w π n os vs → OReps k B' H' w' π n os vs
  | π, n, [], vs, hk, h => by simpa only [OReps] using h
  | π, n, o :: os, vs, hk, h => by
    simp only [OReps] at h ⊢
    obtain ⟨v, r, rfl, h1, h2⟩ := h
    exact ⟨v, r, rfl, ORep.frame e (hk n) h1, OReps.frame2 e hk h2⟩
theorem OReps.snoc {k : KC} {B H : Hp} {w : WM} {π : List Nat} {d : Dat} {v : V} (hd : Rep k B d v) : ∀ {n : Nat} {os : List OT} {vs : List V}, OReps k B H w π n os vs → OReps k B H w π n (os ++ [.sh d]) (vs ++ [v])
  | n, [], vs, h => by
    simp only [OReps] at h
    subst h
    simp only [List.nil_append, OReps, ORep]
    exact ⟨v, [], rfl, hd, rfl⟩
  | n, o :: os, vs, h => by
    simp only [OReps] at h
    obtain ⟨u, r, rfl, h1, h2⟩ := h
    simp only [List.cons_append, OReps]
    exact ⟨u, r ++ [v], rfl, h1, OReps.snoc hd h2⟩
theorem OReps.length {k : KC} {B H : Hp} {w : WM} {π : List Nat} : ∀ {n : Nat} {os : List OT} {vs : List V}, OReps k B H w π n os vs → os.length = vs.length
  | n, [], vs, h => by
    simp only [OReps] at h
    subst h
    rfl
  | n, o :: os, vs, h => by
    simp only [OReps] at h
    obtain ⟨u, r, rfl, h1, h2⟩ := h
    simp [OReps.length h2]
theorem OReps.set {k : KC} {B H : Hp} {w : WM} {π : List Nat} {d : Dat} {v : V} (hd : Rep k B d v) : ∀ {n : Nat} {os : List OT} {vs : List V} (j : Nat), OReps k B H w π n os vs → OReps k B H w π n (os.set j (.sh d)) (vs.set j v)
  | n, [], vs, j, h => by
    simp only [OReps] at h
    subst h
    simp [OReps]
  | n, o :: os, vs, 0, h => by
    simp only [OReps] at h
    obtain ⟨u, r, rfl, h1, h2⟩ := h
    simp only [List.set_cons_zero, OReps, ORep]
    exact ⟨v, r, rfl, hd, h2⟩
  | n, o :: os, vs, j + 1, h => by
    simp only [OReps] at h
    obtain ⟨u, r, rfl, h1, h2⟩ := h
    simp only [List.set_cons_succ, OReps]
    exact ⟨u, r.set j v, rfl, h1, OReps.set hd j h2⟩
section
variable {k : KC} {W : WX} {G : Gh} {B H B' H' : Hp} {w : WM} {σ : L2.St} {env : List OT}
/-- slot i's own list -/
theorem Sta.lst {i : Nat} {xs : List OT} (S : Sta k G B H w σ env) (h : env[i]? = some (.lst xs)) : ∃ p vs, σ[i]? = some (some (.ref p)) ∧ H p = some (.lst vs) ∧ w p = some [i] ∧ OReps k B H w [i] 0 xs vs := by
  rcases S.sl i _ h with e | ⟨v, hv, r⟩
  · exact nomatch e
  · simp only [ORep] at r
    obtain ⟨p, vs, rfl, h1, h2, h3⟩ := r
    exact ⟨p, vs, hv, h1, h2, h3⟩
/-- slot i's own root changes -/
theorem Sta.root {i : Nat} {o : HO} {t : OT} {p : Addr} (S : Sta k G B H w σ env) (hv : σ[i]? = some (some (.ref p))) (hw : w p = some [i]) (hi : i < env.length)
    (r : ORep k B (upd H p o) w [i] t (.ref p)) : Sta k G B (upd H p o) w σ (env.set i t) where
  bh := fun a u e => by
    have ne : a ≠ p := fun z => by
      subst z
      rw [S.wb a (by rw [hw]; exact fun z => nomatch z)] at e
      exact nomatch e
    rw [upd_ne ne]
    exact S.bh a u e
  b0 := S.b0
  fr := fun a h1 h2 h3 => by
    obtain ⟨x, y, z⟩ := S.fr a h1 h2 h3
    have ne : a ≠ p := fun e => by
      subst e
      rw [hw] at z
      exact nomatch z
    exact ⟨x, by rw [upd_ne ne]; exact y, z⟩
  wb := S.wb
  wh := fun a h => by
    by_cases ne : a = p
    · subst ne
      rw [upd_same]
      exact fun z => nomatch z
    · rw [upd_ne ne]
      exact S.wh a h
  len := by simpa using S.len
  sl := fun j o' h => by
    by_cases hj : i = j
    · subst hj
      rw [List.getElem?_set, if_pos rfl, if_pos hi] at h
      cases h
      exact .inr ⟨_, hv, r⟩
    · rw [List.getElem?_set_ne hj] at h
      rcases S.sl j o' h with e | ⟨v, hv', r'⟩
      · exact .inl e
      · refine .inr ⟨v, hv', r'.frame (.refl _) fun q ρ e => ⟨e, ?_⟩⟩
        have ne : q ≠ p := fun z => by
          subst z
          rw [hw] at e
          exact ends_ne (ρ := []) (ρ' := ρ) hj (by simpa using e)
        rw [upd_ne ne]
theorem Sta.lset {i : Nat} {xs' : List OT} {vs' : List V} {p : Addr} (S : Sta k G B H w σ env) (hv : σ[i]? = some (some (.ref p))) (hw : w p = some [i]) (hi : i < env.length)
    (r : OReps k B H w [i] 0 xs' vs') : Sta k G B (upd H p (.lst vs')) w σ (env.set i (.lst xs')) := by
  refine S.root hv hw hi ?_
  simp only [ORep]
  refine ⟨p, vs', rfl, upd_same, hw, r.frame2 (.refl _) fun m q ρ e => ⟨e, ?_⟩⟩
  have ne : q ≠ p := fun z => by
    subst z
    rw [hw] at e
    have := congrArg (Option.map List.length) e
    simp at this
  rw [upd_ne ne]
end

section
variable {k : KC} {W : WX} {X : Cx} {pos p0 : Pos} {a b c : Expr} {fa fb fc : List OT → Option Dat} {es : List Expr} {fs : List OT → Option (List Dat)} {st : Stmt} {rest : List Stmt}
/-! ### statements -/
@[simp] def seqO (g h : List OT → Option Out) : List OT → Option Out := fun e => match g e with
  | some (.nx e1) => h e1
  | o => o
@[simp] def skipO : List OT → Option Out := fun e => some (.nx e)
theorem s_nil : PSs X [] (tS k W skipO) := pss_imp pss_nil fun D σ H ⟨G, B, w, env, o, S, h, q⟩ => by
  cases h
  exact q σ B H w S (.refl _)
theorem s_cons {g h : List OT → Option Out} (h1 : PS X st (tS k W g)) (h2 : PSs X rest (tS k W h)) : PSs X (st :: rest) (tS k W (seqO g h)) := pss_imp (pss_cons h1 h2) fun D σ H ⟨G, B, w, env, o, S, hh, q⟩ => by
  unfold seqO at hh
  split at hh
  · rename_i e1 hg
    exact ⟨G, B, w, env, _, S, hg, fun σ' B' H' w' S' m => ⟨G, B', w', e1, o, S', hh, q.mono m⟩⟩
  · rename_i hn
    refine ⟨G, B, w, env, o, S, hh, ?_⟩
    cases o with
    | nx e1 => exact absurd hh (hn e1)
    | bk e1 => exact q
    | ct e1 => exact q
    | rt o1 e1 => exact q
    | ex c ns xs e1 => exact q
theorem s_one {g : List OT → Option Out} (h1 : PS X st (tS k W g)) : PSs X [st] (tS k W g) := pss_one h1
@[simp] def setS (i : Nat) (f : List OT → Option Dat) : List OT → Option Out := fun e => match f e with
  | none => none
  | some d => some (.nx (e.set i (.sh d)))
theorem set_read {i : Nat} {D : Ends} {σ : L2.St} {H : Hp} (h : tS k W (setS i fa) D σ H) : tD k fa σ H fun x H1 => gName i x σ H1 D.nx := by
  obtain ⟨G, B, w, env, o, S, h, q⟩ := h
  cases e : fa env with
  | none => simp [setS, e] at h
  | some d =>
    simp only [setS, e] at h
    cases h
    exact ⟨G, B, w, env, d, S, e, fun v B1 H1 S1 m r => q _ _ _ _ (S1.set r) m.1⟩
theorem s_set (i : Nat) {x : Str} {e : Expr} {pos' : Pos} (hN : X.N.Nodup) (he : PE X e (tD k fa)) (hi : X.N[i]? = some x := by rfl) (hx : Loc X.env.scope x := by first | exact .inl rfl | exact .inr rfl) (hs : swapsWith e (some (.Name x pos')) pos.line X.env = pure false := by rfl) (hf : X.fn x = true ∨ X.env.scope.names.lookup x = some .local := by first | exact .inl rfl | exact .inr rfl | assumption) :
    PS X (.Assign [.Name x pos'] e pos) (tS k W (setS i fa)) := ps_imp (ps_set hN hi hx he hs hf) fun _ _ _ h => set_read h
/-- a value of one's own to a slot -/
@[simp] def setO (i : Nat) (f : List OT → Option OT) : List OT → Option Out := fun e => match f e with
  | none => none
  | some o => if i < e.length then some (.nx (e.set i o)) else none
theorem setO_read {i : Nat} {f : List OT → Option OT} {D : Ends} {σ : L2.St} {H : Hp} (h : tS k W (setO i f) D σ H) : tF k f σ H fun x H1 => gName i x σ H1 D.nx := by
  obtain ⟨G, B, w, env, o, S, h, q⟩ := h
  cases e : f env with
  | none => simp [setO, e] at h
  | some d =>
    simp only [setO, e] at h
    split at h
    · rename_i hi
      cases h
      exact ⟨G, B, w, env, d, S, e, fun v B1 H1 w1 S1 T m => q _ _ _ _ (S1.setO T hi) m.1⟩
    · cases h
theorem s_setO (i : Nat) {x : Str} {e : Expr} {f : List OT → Option OT} {pos' : Pos} (hN : X.N.Nodup) (he : PE X e (tF k f)) (hi : X.N[i]? = some x := by rfl) (hx : Loc X.env.scope x := by first | exact .inl rfl | exact .inr rfl) (hs : swapsWith e (some (.Name x pos')) pos.line X.env = pure false := by rfl) (hf : X.fn x = true ∨ X.env.scope.names.lookup x = some .local := by first | exact .inl rfl | exact .inr rfl | assumption) :
    PS X (.Assign [.Name x pos'] e pos) (tS k W (setO i f)) := ps_imp (ps_set hN hi hx he hs hf) fun _ _ _ h => setO_read h
/-- any target -/
@[simp] def asgS (f : List OT → Option Dat) (st : Dat → List OT → Option (List OT)) : List OT → Option Out := fun e => match f e with
  | none => none
  | some d => (st d e).map .nx
theorem s_asg {tg e : Expr} {st : Dat → List OT → Option (List OT)} (he : PE X e (tD k fa)) (hg : PG X tg (gD k st)) (hs : swapsWithSole [tg] e pos.line X.env = pure false := by rfl) (hw : swappedStores [tg] e X.env = pure none := by rfl)
    (h1 : (assignEach [tg] X.env).map (·.2) = [assign tg X.env] := by rfl) : PS X (.Assign [tg] e pos) (tS k W (asgS fa st)) := ps_imp (ps_asg he hg hs hw h1) fun D σ H ⟨G, B, w, env, o, S, h, q⟩ => by
  cases e : fa env with
  | none => simp [asgS, e] at h
  | some d =>
    simp only [asgS, e] at h
    cases e2 : st d env with
    | none => simp [e2] at h
    | some env' =>
      simp [e2] at h
      subst h
      exact ⟨G, B, w, env, d, S, e, fun v B1 H1 S1 m r => ⟨G, B1, w, env, d, env', S1, r, e2, fun σ' S2 => q _ _ _ _ S2 m.1⟩⟩
/-- a, b = x, y of plain names -/
@[simp] def parS (i j : Nat) (fs : List OT → Option (List Dat)) : List OT → Option Out := fun e => match fs e with
  | some [d, d'] => some (.nx ((e.set i (.sh d)).set j (.sh d')))
  | _ => none
theorem s_par {i j : Nat} {x y : Str} {px py pt : Pos} {kt k2 pt2} (hc : X.calm = true) (hN : X.N.Nodup) (ha : PA X [a, b] (tA k fs)) (hi : X.N[i]? = some x := by rfl) (hj : X.N[j]? = some y := by rfl) (hij : i ≠ j := by decide)
    (hx : X.env.scope.names.lookup x = some .local := by rfl) (hy : X.env.scope.names.lookup y = some .local := by rfl)
    (hw : swappedStores [.Tuple [.Name x px, .Name y py] kt pt] (.Tuple [a, b] k2 pt2) X.env = pure (some [x, y]) := by rfl)
    (hs : swapsWithSole [.Tuple [.Name x px, .Name y py] kt pt] (.Tuple [a, b] k2 pt2) pos.line X.env = pure false := by rfl) :
    PS X (.Assign [.Tuple [.Name x px, .Name y py] kt pt] (.Tuple [a, b] k2 pt2) pos) (tS k W (parS i j fs)) := ps_imp (ps_par hc hN hi hj hij hx hy ha hw hs) fun D σ H ⟨G, B, w, env, o, S, h, q⟩ => by
  unfold parS at h
  split at h
  · rename_i d d' e
    cases h
    refine ⟨G, B, w, env, _, S, e, fun vs B1 H1 S1 m r => ?_⟩
    obtain ⟨v, u, rfl, rv, ru⟩ := reps2 r
    exact ⟨v, u, rfl, q _ _ _ _ ((S1.set rv).set ru) m.1⟩
  · cases h
@[simp] def dropS (f : List OT → Option Dat) : List OT → Option Out := fun e => match f e with
  | none => none
  | some _ => some (.nx e)
theorem s_expr {e : Expr} (he : PE X e (tD k fa)) (hs : swapsWith e none pos.line X.env = pure false := by rfl) : PS X (.Expr e pos) (tS k W (dropS fa)) := ps_imp (ps_expr he hs) fun D σ H ⟨G, B, w, env, o, S, h, q⟩ => by
  cases e : fa env with
  | none => simp [dropS, e] at h
  | some d =>
    simp only [dropS, e] at h
    cases h
    exact ⟨G, B, w, env, d, S, e, fun v B1 H1 S1 m r => q _ _ _ _ S1 m.1⟩
@[simp] def retS (f : List OT → Option Dat) : List OT → Option Out := fun e => match f e with
  | none => none
  | some d => some (.rt (.sh d) e)
theorem s_ret {e : Expr} (he : PE X e (tD k fa)) : PS X (.Return (some e) pos) (tS k W (retS fa)) := ps_imp (ps_ret he) fun D σ H ⟨G, B, w, env, o, S, h, q⟩ => by
  cases e : fa env with
  | none => simp [retS, e] at h
  | some d =>
    simp only [retS, e] at h
    cases h
    exact ⟨G, B, w, env, d, S, e, fun v B1 H1 S1 m r => q _ _ _ _ _ _ S1 (.shd r) m.1⟩
@[simp] def retO (f : List OT → Option OT) : List OT → Option Out := fun e => match f e with
  | none => none
  | some o => some (.rt o e)
theorem s_retO {e : Expr} {f : List OT → Option OT} (he : PE X e (tF k f)) : PS X (.Return (some e) pos) (tS k W (retO f)) := ps_imp (ps_ret he) fun D σ H ⟨G, B, w, env, o, S, h, q⟩ => by
  cases e : f env with
  | none => simp [retO, e] at h
  | some d =>
    simp only [retO, e] at h
    cases h
    exact ⟨G, B, w, env, d, S, e, fun v B1 H1 w1 S1 T m => q _ _ _ _ _ _ S1 T m.1⟩
@[simp] def retN : List OT → Option Out := fun e => some (.rt (.sh .non) e)
theorem s_retN : PS X (.Return none pos) (tS k W retN) := ps_imp ps_retN fun D σ H ⟨G, B, w, env, o, S, h, q⟩ => by
  cases h
  exact q .non σ B H w _ S (.shd (by simp only [Rep])) (.refl _)
/-- the own tree of slot i is handed out -/
def wOff (w : WM) (i : Nat) : WM := fun a => match w a with
  | some π => if π.getLast? = some i then none else some π
  | none => none
def wOf (w : WM) (i : Nat) : WM := fun a => match w a with
  | some π => if π.getLast? = some i then some π.dropLast else none
  | none => none
theorem Sta.take {k : KC} {G : Gh} {B H : Hp} {w : WM} {σ : L2.St} {env : List OT} {i : Nat} {o : OT} (S : Sta k G B H w σ env) (h : env[i]? = some o) (z : o.ok = true) :
    ∃ v, σ[i]? = some (some v) ∧ Sta k G B H (wOff w i) σ (env.set i .un) ∧ Vt k G B H (wOff w i) (wOf w i) o v := by
  have hi : i < env.length := (List.getElem?_eq_some_iff.mp h).1
  rcases S.sl i o h with e | ⟨v, hv, r⟩
  · subst e
    simp [OT.ok] at z
  · refine ⟨v, hv, ⟨S.bh, S.b0, fun a h1 h2 h3 => ?_, fun a h => S.wb a fun z => h (by unfold wOff; rw [z]), fun a h => S.wh a fun z => h (by unfold wOff; rw [z]), by simpa using S.len, fun j o' h' => ?_⟩, fun a h => ?_, r.move (.refl _) fun p ρ e => ⟨?_, rfl⟩⟩
    · obtain ⟨x, y, z⟩ := S.fr a h1 h2 h3
      exact ⟨x, y, by unfold wOff; rw [z]⟩
    · by_cases hj : i = j
      · subst hj
        rw [List.getElem?_set, if_pos rfl, if_pos hi] at h'
        cases h'
        exact .inl rfl
      · rw [List.getElem?_set_ne hj] at h'
        rcases S.sl j o' h' with e | ⟨u, hu, r'⟩
        · exact .inl e
        · refine .inr ⟨u, hu, r'.frame (.refl _) fun p ρ e => ⟨?_, rfl⟩⟩
          unfold wOff
          rw [e]
          have n2 : ¬ j = i := fun z => hj z.symm
          simp [n2]
    · unfold wOf at h
      cases e : w a with
      | none => simp [e] at h
      | some π =>
        have hw : w a ≠ none := by rw [e]; exact fun z => nomatch z
        by_cases hl : π.getLast? = some i
        · refine ⟨by simp [wOff, e, hl], S.wb a hw, S.wh a hw, fun h1 h2 => ?_⟩
          apply Classical.byContradiction
          intro h3
          exact hw (S.fr a h1 h2 h3).2.2
        · simp [e, hl] at h
    · unfold wOf
      rw [e]
      simp
@[simp] def retV (i : Nat) : List OT → Option Out := fun e => match e[i]? with
  | some o => if o.ok then some (.rt o (e.set i .un)) else none
  | none => none
theorem s_retV (i : Nat) {x : Str} {pn : Pos} (hN : X.N[i]? = some x := by rfl) (hv : Vis X.env.scope x := by first | exact Or.inl rfl | exact Or.inr (Or.inl rfl) | exact Or.inr (Or.inr rfl)) (hd : (x == ("__debug__" : Str)) = false := by decide)
    (hcd : (x == ("__classdict__" : Str)) = false := by decide) : PS X (.Return (some (.Name x pn)) pos) (tS k W (retV i)) := ps_imp (ps_ret (pe_var hN hv hd hcd)) fun D σ H ⟨G, B, w, env, o, S, h, q⟩ => by
  unfold retV at h
  split at h
  · rename_i o' e
    split at h
    · rename_i z
      cases h
      obtain ⟨v, hv, S1, T1⟩ := S.take e z
      exact ⟨v, hv, q _ _ _ _ _ _ S1 T1 (.refl _)⟩
    · cases h
  · cases h
@[simp] def ifS (c : List OT → Option Bool) (g h : List OT → Option Out) : List OT → Option Out := fun e => match c e with
  | none => none
  | some true => g e
  | some false => h e
theorem s_if {c : Expr} {s1 s2 : List Stmt} {fc : List OT → Option Bool} {g h : List OT → Option Out} (hc : PT X c (tT k fc)) (h1 : PSs X s1 (tS k W g)) (h2 : PSs X s2 (tS k W h)) : PS X (.If c s1 s2 pos) (tS k W (ifS fc g h)) :=
  ps_imp (ps_if hc h1 h2) fun D σ H ⟨G, B, w, env, o, S, hh, q⟩ => by
    cases e : fc env with
    | none => simp [ifS, e] at hh
    | some t =>
      refine ⟨G, B, w, env, t, S, e, fun B1 H1 S1 m => ?_⟩
      cases t with
      | true =>
        simp [ifS, e] at hh
        exact iteT ⟨G, B1, w, env, o, S1, hh, q.mono m.1⟩
      | false =>
        simp [ifS, e] at hh
        exact iteF ⟨G, B1, w, env, o, S1, hh, q.mono m.1⟩
@[simp] def brkO : List OT → Option Out := fun e => some (.bk e)
@[simp] def cntO : List OT → Option Out := fun e => some (.ct e)
theorem s_break : PS X (.Break pos) (tS k W brkO) := ps_imp ps_break fun D σ H ⟨G, B, w, env, o, S, h, q⟩ => by
  cases h
  exact q σ B H w S (.refl _)
theorem s_continue : PS X (.Continue pos) (tS k W cntO) := ps_imp ps_continue fun D σ H ⟨G, B, w, env, o, S, h, q⟩ => by
  cases h
  exact q σ B H w S (.refl _)
theorem s_pass : PS X (.Pass pos) (tS k W skipO) := ps_imp ps_pass fun D σ H ⟨G, B, w, env, o, S, h, q⟩ => by
  cases h
  exact q σ B H w S (.refl _)
/-- what the proof never comes to -/
@[simp] def nevO : List OT → Option Out := fun _ => none
theorem s_never : PS X st (tS k W nevO) := ps_imp ps_never fun D σ H ⟨G, B, w, env, o, S, h, q⟩ => by cases h
theorem ss_never {sts : List Stmt} : PSs X sts (tS k W nevO) := pss_imp pss_never fun D σ H ⟨G, B, w, env, o, S, h, q⟩ => by cases h

/-! ### loops -/
def loopS (st : Dat → List OT → Option (List OT)) (body : List OT → Option Out) : List Dat → List OT → Option Out
  | [], e => some (.nx e)
  | d :: ds, e => match st d e with
    | none => none
    | some e1 => match body e1 with
      | some (.nx e2) => loopS st body ds e2
      | some (.ct e2) => loopS st body ds e2
      | some (.bk e2) => some (.nx e2)
      | some (.rt o e2) => some (.rt o e2)
      | some (.ex c ns xs e2) => some (.ex c ns xs e2)
      | none => none
def forS (src : List OT → Option (List Dat)) (st : Dat → List OT → Option (List OT)) (body : List OT → Option Out) : List OT → Option Out := fun e => match src e with
  | none => none
  | some ds => loopS st body ds e
theorem s_for {iter tg : Expr} {body : List Stmt} {src : List OT → Option (List Dat)} {st : Dat → List OT → Option (List OT)} {g : List OT → Option Out} (hp : PassesOwn (model X.prog X.w) X.A X.env X.xe) (hc : X.calm = true) (hi : PI X tg iter (tI k src)) (hg : PG X tg (gD k st)) (hb : PSs X body (tS k W g))
    (hs : ∀ x, foldedSetIterable iter X.env x = pure x := by intro _; rfl) : PS X (.For tg iter body [] pos) (tS k W (forS src st g)) :=
  ps_imp (ps_for hp hc hi hg hb hs) fun D σ H ⟨G, B, w, env, o, S, h, q⟩ => by
    cases e : src env with
    | none => simp [forS, e] at h
    | some ds =>
      simp only [forS, e] at h
      refine ⟨G, B, w, env, ds, S, e, fun J B1 H1 S1 m W => ?_⟩
      refine ⟨fun i n σ' H' => n = ds.length - i ∧ i ≤ ds.length ∧ ∃ B' w' env', Sta k G B' H' w' σ' env' ∧ Same B1 B' ∧ loopS st g (ds.drop i) env' = some o, ⟨ds.length, by simp, Nat.zero_le _, B1, w, env, S1, .refl _, h⟩, ?_⟩
      rintro i n σ' H' ⟨rfl, hi, B', w', env', S', m', hl⟩
      by_cases hlt : i < ds.length
      · have hd : ds[i]? = some ds[i] := by simp [hlt]
        rw [List.drop_eq_getElem_cons hlt] at hl
        simp only [loopS] at hl
        cases e1 : st ds[i] env' with
        | none => simp [e1] at hl
        | some env1 =>
          simp only [e1] at hl
          refine .inr ⟨W.go i _ B' H' m' S'.bh hd, fun σ2 H2 => ∃ B2 w2 env2, Sta k G B2 H2 w2 σ2 env2 ∧ Same B1 B2 ∧ loopS st g (ds.drop (i + 1)) env2 = some o, fun σ2 H2 z => ⟨ds.length - (i + 1), by omega, rfl, by omega, z⟩, fun x H2 y => ?_⟩
          obtain ⟨B2, gr, r⟩ := W.yld i _ B' H' x H2 m' S'.bh hd y
          have S2 := S'.grow gr
          have m2 := (gr.all S'.bh).2.1
          refine ⟨G, B2, w', env', ds[i], env1, S2, r, e1, fun σ3 S3 => ?_⟩
          cases e2 : g env1 with
          | none => simp [e2] at hl
          | some out =>
            refine ⟨G, B2, w', env1, out, S3, e2, ?_⟩
            simp only [e2] at hl
            cases out with
            | nx e3 => exact fun σ4 B4 H4 w4 S4 m4 => ⟨B4, w4, e3, S4, (m'.trans m2).trans m4, hl⟩
            | ct e3 => exact fun σ4 B4 H4 w4 S4 m4 => ⟨B4, w4, e3, S4, (m'.trans m2).trans m4, hl⟩
            | bk e3 =>
              cases hl
              exact fun σ4 B4 H4 w4 S4 m4 => q σ4 B4 H4 w4 S4 (m.1.trans ((m'.trans m2).trans m4))
            | rt o3 e3 =>
              cases hl
              exact fun v σ4 B4 H4 w4 w5 S4 T4 m4 => q v σ4 B4 H4 w4 w5 S4 T4 (m.1.trans ((m'.trans m2).trans m4))
            | ex c3 n3 x3 e3 =>
              cases hl
              exact fun cls d σ4 B4 H4 w4 S4 m4 r4 => q cls d σ4 B4 H4 w4 S4 (m.1.trans ((m'.trans m2).trans m4)) r4
      · have ei : i = ds.length := by omega
        subst ei
        rw [List.drop_length] at hl
        simp only [loopS] at hl
        cases hl
        exact .inl ⟨W.stop B' H' m' S'.bh, q σ' B' H' w' S' (m.1.trans m')⟩
def whileF (c : List OT → Option Bool) (g : List OT → Option Out) : Nat → List OT → Option Out
  | 0, _ => none
  | n + 1, e => match c e with
    | none => none
    | some false => some (.nx e)
    | some true => match g e with
      | some (.nx e1) => whileF c g n e1
      | some (.ct e1) => whileF c g n e1
      | some (.bk e1) => some (.nx e1)
      | some (.rt o e1) => some (.rt o e1)
      | some (.ex c ns xs e1) => some (.ex c ns xs e1)
      | none => none
theorem whileF_more {c : List OT → Option Bool} {g : List OT → Option Out} : ∀ {n : Nat} {e : List OT} {o : Out}, whileF c g n e = some o → ∀ m, n ≤ m → whileF c g m e = some o
  | 0, e, o, h, m, hm => by simp [whileF] at h
  | n + 1, e, o, h, 0, hm => by omega
  | n + 1, e, o, h, m + 1, hm => by
    simp only [whileF] at h ⊢
    cases e1 : c e with
    | none => simp [e1] at h
    | some t =>
      cases t with
      | false => simpa [e1] using h
      | true =>
        simp only [e1] at h ⊢
        cases e2 : g e with
        | none => simp [e2] at h
        | some out =>
          cases out with
          | nx e3 =>
            simp only [e2] at h ⊢
            exact whileF_more h m (by omega)
          | ct e3 =>
            simp only [e2] at h ⊢
            exact whileF_more h m (by omega)
          | bk e3 => simpa [e2] using h
          | rt o3 e3 => simpa [e2] using h
          | ex c3 n3 x3 e3 => simpa [e2] using h
open Classical in
noncomputable def whileS (c : List OT → Option Bool) (g : List OT → Option Out) : List OT → Option Out := fun e =>
  if h : ∃ n o, whileF c g n e = some o then some (Classical.choose (Classical.choose_spec h)) else none
theorem while_of {c : List OT → Option Bool} {g : List OT → Option Out} {n : Nat} {e : List OT} {o : Out} (h : whileF c g n e = some o) : whileS c g e = some o := by
  have hh : ∃ n o, whileF c g n e = some o := ⟨n, o, h⟩
  unfold whileS
  rw [dif_pos hh]
  have z := Classical.choose_spec (Classical.choose_spec hh)
  have a := whileF_more h (max n (Classical.choose hh)) (Nat.le_max_left _ _)
  have b := whileF_more z (max n (Classical.choose hh)) (Nat.le_max_right _ _)
  rw [a] at b
  exact b.symm
theorem of_while {c : List OT → Option Bool} {g : List OT → Option Out} {e : List OT} {o : Out} (h : whileS c g e = some o) : ∃ n, whileF c g n e = some o := by
  unfold whileS at h
  split at h
  · rename_i hh
    cases h
    exact ⟨_, Classical.choose_spec (Classical.choose_spec hh)⟩
  · cases h
theorem while_stop {c : List OT → Option Bool} {g : List OT → Option Out} {e : List OT} (h : c e = some false) : whileS c g e = some (.nx e) := while_of (n := 1) (by simp [whileF, h])
theorem while_step {c : List OT → Option Bool} {g : List OT → Option Out} {e e1 : List OT} {o : Out} (h : c e = some true) (h1 : g e = some (.nx e1)) (h2 : whileS c g e1 = some o) : whileS c g e = some o := by
  obtain ⟨n, hn⟩ := of_while h2
  exact while_of (n := n + 1) (by simp [whileF, h, h1, hn])
theorem while_stepc {c : List OT → Option Bool} {g : List OT → Option Out} {e e1 : List OT} {o : Out} (h : c e = some true) (h1 : g e = some (.ct e1)) (h2 : whileS c g e1 = some o) : whileS c g e = some o := by
  obtain ⟨n, hn⟩ := of_while h2
  exact while_of (n := n + 1) (by simp [whileF, h, h1, hn])
theorem while_ret {c : List OT → Option Bool} {g : List OT → Option Out} {e e1 : List OT} {o : OT} (h : c e = some true) (h1 : g e = some (.rt o e1)) : whileS c g e = some (.rt o e1) := while_of (n := 1) (by simp [whileF, h, h1])
theorem while_brk {c : List OT → Option Bool} {g : List OT → Option Out} {e e1 : List OT} (h : c e = some true) (h1 : g e = some (.bk e1)) : whileS c g e = some (.nx e1) := while_of (n := 1) (by simp [whileF, h, h1])
theorem s_while {c : Expr} {body : List Stmt} {fc : List OT → Option Bool} {g : List OT → Option Out} (hp : PassesOwn (model X.prog X.w) X.A X.env X.xe) (hc : PT X c (tT k fc)) (hb : PSs X body (tS k W g)) : PS X (.While c body [] pos) (tS k W (whileS fc g)) :=
  ps_imp (ps_while hp hc hb) fun D σ H ⟨G, B, w, env, o, S, h, q⟩ => by
    obtain ⟨n, hn⟩ := of_while h
    refine ⟨fun m σ' H' => ∃ B' w' env', Sta k G B' H' w' σ' env' ∧ Same B B' ∧ whileF fc g m env' = some o, ⟨n, B, w, env, S, .refl _, hn⟩, ?_⟩
    rintro m σ' H' ⟨B', w', env', S', m', hl⟩
    cases m with
    | zero => simp [whileF] at hl
    | succ m =>
      simp only [whileF] at hl
      cases e1 : fc env' with
      | none => simp [e1] at hl
      | some t =>
        refine ⟨G, B', w', env', t, S', e1, fun B1 H1 S1 m1 => ?_⟩
        cases t with
        | false =>
          simp [e1] at hl
          subst hl
          exact iteF (q σ' B1 H1 w' S1 (m'.trans m1.1))
        | true =>
          simp only [e1] at hl
          refine iteT ⟨fun σ2 H2 => ∃ B2 w2 env2, Sta k G B2 H2 w2 σ2 env2 ∧ Same B B2 ∧ whileF fc g m env2 = some o, fun σ2 H2 z => ⟨m, by omega, z⟩, ?_⟩
          cases e2 : g env' with
          | none => simp [e2] at hl
          | some out =>
            refine ⟨G, B1, w', env', out, S1, e2, ?_⟩
            simp only [e2] at hl
            cases out with
            | nx e3 => exact fun σ4 B4 H4 w4 S4 m4 => ⟨B4, w4, e3, S4, (m'.trans m1.1).trans m4, hl⟩
            | ct e3 => exact fun σ4 B4 H4 w4 S4 m4 => ⟨B4, w4, e3, S4, (m'.trans m1.1).trans m4, hl⟩
            | bk e3 =>
              cases hl
              exact fun σ4 B4 H4 w4 S4 m4 => q σ4 B4 H4 w4 S4 ((m'.trans m1.1).trans m4)
            | rt o3 e3 =>
              cases hl
              exact fun v σ4 B4 H4 w4 w5 S4 T4 m4 => q v σ4 B4 H4 w4 w5 S4 T4 ((m'.trans m1.1).trans m4)
            | ex c3 n3 x3 e3 =>
              cases hl
              exact fun cls d σ4 B4 H4 w4 S4 m4 r4 => q cls d σ4 B4 H4 w4 S4 ((m'.trans m1.1).trans m4) r4
end
end DL
namespace DL
open PySem L2 PyProof.Rows PySem.Spec
/-! ### comprehensions -/
def wipeE (e : List OT) : List Nat → List OT
  | [] => e
  | v :: vs => (wipeE e vs).set v .un
section
variable {k : KC} {G : Gh} {B H B' H' : Hp} {w : WM} {σ σ' : L2.St} {env env' : List OT}
theorem Sta.unset (S : Sta k G B H w σ env) (i : Nat) (u : Option V) : Sta k G B H w (σ.set i u) (env.set i .un) := ⟨S.bh, S.b0, S.fr, S.wb, S.wh, by simpa using S.len, fun j o h => by
  by_cases hj : i = j
  · subst hj
    rw [List.getElem?_set, if_pos rfl] at h
    split at h
    · cases h
      exact .inl rfl
    · cases h
  · rw [List.getElem?_set_ne hj] at h ⊢
    exact S.sl j o h⟩
theorem Sta.wipe (S : Sta k G B H w σ env) : ∀ vs : List Nat, Sta k G B H w (wipe σ vs) (wipeE env vs)
  | [] => S
  | v :: vs => (Sta.wipe S vs).unset v none
/-- back to the slots of before: the ways are the same, all stands -/
theorem Sta.back (S : Sta k G B H w σ env) (S' : Sta k G B' H' w σ' env') (m : Mv B H B' H') : Sta k G B' H' w σ env where
  bh := S'.bh
  b0 := S'.b0
  fr := S'.fr
  wb := S'.wb
  wh := S'.wh
  len := S.len
  sl := fun i o h => by
    rcases S.sl i o h with e | ⟨v, hv, r⟩
    · exact .inl e
    · refine .inr ⟨v, hv, r.frame m.1 fun p ρ e => ⟨e, ?_⟩⟩
      have z := S.wh p (by rw [e]; exact fun z => nomatch z)
      cases q : H p with
      | none => exact absurd q z
      | some u => exact m.2 p u q
/-- an object that is being made: nobody's, kept out of the shared part -/
def wPh (w : WM) (D : Addr) : WM := fun a => if a = D then some [] else w a
theorem Sta.phan {D : Addr} {o : HO} (S : Sta k G B H w σ env) (hD : H D = none) : Sta k G B (upd H D o) (wPh w D) σ env where
  bh := S.bh.trans (same_newH hD)
  b0 := S.b0
  fr := fun a h1 h2 h3 => by
    obtain ⟨x, y, z⟩ := S.fr a h1 h2 h3
    have ne : a ≠ D := fun e => by
      subst e
      rw [y] at hD
      exact h2 hD
    exact ⟨x, by rw [upd_ne ne]; exact y, by unfold wPh; rw [if_neg ne]; exact z⟩
  wb := fun a h => by
    by_cases ne : a = D
    · subst ne
      exact S.bh.free hD
    · exact S.wb a fun z => h (by unfold wPh; rw [if_neg ne]; exact z)
  wh := fun a h => by
    by_cases ne : a = D
    · subst ne
      rw [upd_same]
      exact fun z => nomatch z
    · rw [upd_ne ne]
      exact S.wh a fun z => h (by unfold wPh; rw [if_neg ne]; exact z)
  len := S.len
  sl := fun i o h => by
    rcases S.sl i o h with e | ⟨v, hv, r⟩
    · exact .inl e
    · refine .inr ⟨v, hv, r.frame (.refl _) fun q ρ e => ?_⟩
      have ne : q ≠ D := fun z => by
        subst z
        exact S.wh q (by rw [e]; exact fun z => nomatch z) hD
      exact ⟨by unfold wPh; rw [if_neg ne]; exact e, by rw [upd_ne ne]⟩
theorem Sta.phUp {D : Addr} {o : HO} (S : Sta k G B H (wPh w D) σ env) : Sta k G B (upd H D o) (wPh w D) σ env where
  bh := fun a u e => by
    have ne : a ≠ D := fun z => by
      subst z
      rw [S.wb a (by simp [wPh])] at e
      cases e
    rw [upd_ne ne]
    exact S.bh a u e
  b0 := S.b0
  fr := fun a h1 h2 h3 => by
    obtain ⟨x, y, z⟩ := S.fr a h1 h2 h3
    have ne : a ≠ D := fun e => by
      subst e
      simp [wPh] at z
    exact ⟨x, by rw [upd_ne ne]; exact y, z⟩
  wb := S.wb
  wh := fun a h => by
    by_cases ne : a = D
    · subst ne
      rw [upd_same]
      exact fun z => nomatch z
    · rw [upd_ne ne]
      exact S.wh a h
  len := S.len
  sl := fun i o h => by
    rcases S.sl i o h with e | ⟨v, hv, r⟩
    · exact .inl e
    · refine .inr ⟨v, hv, r.frame (.refl _) fun q ρ e => ⟨e, ?_⟩⟩
      have ne : q ≠ D := fun z => by
        subst z
        simp [wPh] at e
      rw [upd_ne ne]
theorem Sta.unph {D : Addr} (S : Sta k G B H (wPh w D) σ env) (hw : w D = none) : Sta k G B H w σ env where
  bh := S.bh
  b0 := S.b0
  fr := fun a h1 h2 h3 => by
    obtain ⟨x, y, z⟩ := S.fr a h1 h2 h3
    refine ⟨x, y, ?_⟩
    by_cases ne : a = D
    · subst ne
      exact hw
    · unfold wPh at z
      rw [if_neg ne] at z
      exact z
  wb := fun a h => S.wb a (by
    unfold wPh
    split
    · exact fun z => nomatch z
    · exact h)
  wh := fun a h => S.wh a (by
    unfold wPh
    split
    · exact fun z => nomatch z
    · exact h)
  len := S.len
  sl := fun i o h => by
    rcases S.sl i o h with e | ⟨v, hv, r⟩
    · exact .inl e
    · refine .inr ⟨v, hv, r.frame (.refl _) fun q ρ e => ⟨?_, rfl⟩⟩
      have ne : q ≠ D := fun z => by
        subst z
        simp [wPh] at e
      unfold wPh at e
      rw [if_neg ne] at e
      exact e
theorem wipe_get (τ : L2.St) (j : Nat) : ∀ (ws : List Nat), j ∈ ws → (wipe τ ws)[j]? = if j < τ.length then some none else none
  | [], z => by simp at z
  | x :: xs, z => by
    unfold wipe
    by_cases e : x = j
    · subst e
      rw [List.getElem?_set, if_pos rfl, wipe_length]
    · rw [List.getElem?_set_ne e]
      exact wipe_get τ j xs (by simpa [Ne.symm e] using z)
theorem wipe_wipe (τ : L2.St) (ws : List Nat) : wipe (wipe τ ws) ws = wipe τ ws := by
  apply List.ext_getElem?
  intro j
  by_cases hj : j ∈ ws
  · rw [wipe_get _ _ _ hj, wipe_get _ _ _ hj, wipe_length]
  · rw [wipe_out hj]
end
def lcGo (st : Dat → List OT → Option (List OT)) (test : List OT → Option Bool) (elt : List OT → Option Dat) (e0 : List OT) : List Dat → Option (List Dat)
  | [] => some []
  | d :: ds => match st d e0 with
    | none => none
    | some e1 => match test e1 with
      | none => none
      | some false => lcGo st test elt e0 ds
      | some true => match elt e1 with
        | none => none
        | some y => match lcGo st test elt e0 ds with
          | none => none
          | some ys => some (y :: ys)
def lcF (src : List OT → Option (List Dat)) (own : List Nat) (st : Dat → List OT → Option (List OT)) (test : List OT → Option Bool) (elt : List OT → Option Dat) : List OT → Option OT := fun e => match src e with
  | none => none
  | some ds => if ds.length < 16000000 then match lcGo st test elt (wipeE e own) ds with
    | none => none
    | some ys => some (.lst (ys.map .sh))
    else none
@[simp] def yesB : List OT → Option Bool := fun _ => some true
section
variable {k : KC} {X : Cx} {pos p0 : Pos} {a b c : Expr} {fa fb fc : List OT → Option Dat} {es : List Expr} {fs : List OT → Option (List Dat)}
theorem pts_imp {ifs : List Expr} {t t' : TT} (h : PTs X ifs t) (i : ∀ σ H Q, t' σ H Q → t σ H Q) : PTs X ifs t' := ⟨fun pins s σ H Q I q => h.run pins s σ H Q I (i σ H Q q)⟩
theorem c_yes : PTs X [] (tT k yesB) := pts_imp pts_nil fun σ H Q ⟨G, B, w, env, d, S, h, q⟩ => by
  cases h
  exact q B H S .refl
theorem c_one {f : List OT → Option Bool} (h : PT X c (tT k f)) : PTs X [c] (tT k f) := pts_one h
theorem set_set {σ σ2 : L2.St} {vs : List Nat} {i : Nat} {v : Option V} (hi : i ∈ vs) : ∀ (h : wipe (σ.set i v) vs = wipe σ2 vs), wipe σ vs = wipe σ2 vs := fun h => by
  rw [← h]
  clear h
  apply List.ext_getElem?
  intro j
  have gen : ∀ (τ : L2.St) (ws : List Nat), j ∈ ws → (wipe τ ws)[j]? = if j < τ.length then some none else none := by
    intro τ ws
    induction ws with
    | nil => intro z; simp at z
    | cons x xs ih =>
      intro z
      unfold wipe
      by_cases e : x = j
      · subst e
        rw [List.getElem?_set, if_pos rfl, wipe_length]
      · rw [List.getElem?_set_ne e]
        exact ih (by simpa [Ne.symm e] using z)
  have out : ∀ (τ : L2.St) (ws : List Nat), j ∉ ws → (wipe τ ws)[j]? = τ[j]? := fun τ ws z => wipe_out z
  by_cases hj : j ∈ vs
  · rw [gen _ _ hj, gen _ _ hj, List.length_set]
  · rw [out _ _ hj, out _ _ hj, List.getElem?_set_ne]
    exact fun e => hj (e ▸ hi)
/-- a target whose stores lie in the slots vs -/
def Within (k : KC) (g : TG) (st : Dat → List OT → Option (List OT)) (vs : List Nat) : Prop := ∀ (v : V) (τ : L2.St) (H : Hp) (Q : L2.St → Hp → Prop) (G : Gh) (B : Hp) (w : WM) (env : List OT) (d : Dat) (env' : List OT), Sta k G B H w τ env → Rep k B d v → st d env = some env' →
  (∀ τ', Sta k G B H w τ' env' → wipe τ' vs = wipe τ vs → Q τ' H) → g v τ H Q
theorem wipe_set {τ : L2.St} {i : Nat} {v : Option V} {vs : List Nat} (hi : i ∈ vs) : wipe (τ.set i v) vs = wipe τ vs := (set_set hi rfl).symm
theorem in_name {i : Nat} {vs : List Nat} (hi : i ∈ vs) : Within k (gName i) (toN i) vs := fun v τ H Q G B w env d env' S r h q => by
  cases h
  exact q _ (S.set r) (wipe_set hi)
def WithinS (k : KC) (g : TGs) (st : List Dat → List OT → Option (List OT)) (vs : List Nat) : Prop := ∀ (us : List V) (τ : L2.St) (H : Hp) (Q : L2.St → Hp → Prop) (G : Gh) (B : Hp) (w : WM) (env : List OT) (ds : List Dat) (env' : List OT), Sta k G B H w τ env → Reps k B ds us → st ds env = some env' →
  (∀ τ', Sta k G B H w τ' env' → wipe τ' vs = wipe τ vs → Q τ' H) → g us τ H Q
theorem in_nil {vs : List Nat} : WithinS k gNil toNil vs := fun us τ H Q G B w env ds env' S r h q => by
  unfold toNil at h
  split at h
  · cases h
    simp only [Reps] at r
    exact ⟨r, q _ S rfl⟩
  · cases h
theorem in_cons {g : TG} {gs : TGs} {st : Dat → List OT → Option (List OT)} {sts : List Dat → List OT → Option (List OT)} {vs : List Nat} (h1 : Within k g st vs) (h2 : WithinS k gs sts vs) : WithinS k (gCons g gs) (toCons st sts) vs := fun us τ H Q G B w env ds env' S r h q => by
  cases ds with
  | nil => simp [toCons] at h
  | cons d ds =>
    simp only [Reps] at r
    obtain ⟨v0, r0, rfl, h3, h4⟩ := r
    simp only [toCons] at h
    cases e : st d env with
    | none => simp [e] at h
    | some e1 =>
      simp only [e] at h
      exact ⟨v0, r0, rfl, h1 v0 τ H _ G B w env d e1 S h3 e fun τ1 S1 z1 => h2 r0 τ1 H _ G B w e1 ds env' S1 h4 h fun τ2 S2 z2 => q τ2 S2 (z2.trans z1)⟩
theorem in_tup {gs : TGs} {sts : List Dat → List OT → Option (List OT)} {vs : List Nat} {n : Nat} (h2 : WithinS k gs sts vs) : Within k (gTup k.K n gs) (toTup n sts) vs := fun v τ H Q G B w env d env' S r h q => by
  unfold toTup at h
  split at h
  · split at h
    · rename_i ds hl
      simp only [Rep] at r
      obtain ⟨p, us, rfl, h1, h3⟩ := r
      exact ⟨p, us, rfl, sqT_mono S.bh h1, by rw [← h3.length]; exact hl, h2 us τ H Q G B w env ds env' S h3 h q⟩
    · cases h
  · cases h
theorem lc_read {src : List OT → Option (List Dat)} {vs : List Nat} {g : TG} {st : Dat → List OT → Option (List OT)} {test : List OT → Option Bool} {elt : List OT → Option Dat} (hw : Within k g st vs) {σ : L2.St} {H : Hp} {Q : VK}
    (h : tF k (lcF src vs st test elt) σ H Q) : tLc (tI k src) g (tT k test) (tD k elt) vs σ H Q := by
  obtain ⟨G, B, w, env, o, S, h, q⟩ := h
  cases e : src env with
  | none => simp [lcF, e] at h
  | some ds =>
    simp only [lcF, e] at h
    split at h
    · rename_i hsz
      cases e2 : lcGo st test elt (wipeE env vs) ds with
      | none => simp [e2] at h
      | some ys =>
        simp only [e2] at h
        cases h
        refine ⟨G, B, w, env, ds, S, e, fun J B1 H1 S1 m W D hD => ?_⟩
        have nD := S1.nob hD
        have S0 : Sta k G B1 (upd H1 D (.lst [])) (wPh w D) (wipe σ vs) (wipeE env vs) := (S1.wipe vs).phan hD
        -- behind i items: acc is made, ys' is to come
        refine ⟨fun i n H' => n = ds.length - i ∧ i ≤ ds.length ∧ ∃ B' acc us ys', Sta k G B' H' (wPh w D) (wipe σ vs) (wipeE env vs) ∧ Mv B1 H1 B' H' ∧ H' D = some (.lst us) ∧ Reps k B' acc us ∧ acc.length ≤ i ∧ lcGo st test elt (wipeE env vs) (ds.drop i) = some ys' ∧ ys = acc ++ ys',
          ⟨ds.length, by simp, Nat.zero_le _, B1, [], [], ys, S0, ⟨.refl _, same_newH hD⟩, upd_same, .nil, Nat.zero_le _, e2, rfl⟩, ?_⟩
        rintro i n H' ⟨rfl, hi, B', acc, us, ys', S', m', hD', ra, hal, hgo, hys⟩
        by_cases hlt : i < ds.length
        · have hd : ds[i]? = some ds[i] := by simp [hlt]
          rw [List.drop_eq_getElem_cons hlt] at hgo
          simp only [lcGo] at hgo
          cases e3 : st ds[i] (wipeE env vs) with
          | none => simp [e3] at hgo
          | some env1 =>
            simp only [e3] at hgo
            refine .inr ⟨W.go i _ B' _ m'.1 S'.bh hd, fun H2 => ∃ B2 acc us ys', Sta k G B2 H2 (wPh w D) (wipe σ vs) (wipeE env vs) ∧ Mv B1 H1 B2 H2 ∧ H2 D = some (.lst us) ∧ Reps k B2 acc us ∧ acc.length ≤ i + 1 ∧ lcGo st test elt (wipeE env vs) (ds.drop (i + 1)) = some ys' ∧ ys = acc ++ ys', fun H2 z => ⟨ds.length - (i + 1), by omega, rfl, by omega, z⟩, fun x H2 y => ?_⟩
            obtain ⟨B2, gr, rx⟩ := W.yld i _ B' _ x H2 m'.1 S'.bh hd y
            have S2 := S'.grow gr
            have mg : Mv B' H' B2 H2 := (gr.all S'.bh).2
            refine hw x (wipe σ vs) H2 _ G B2 _ (wipeE env vs) ds[i] env1 S2 rx e3 fun τ S3 hτ => ⟨hτ.trans (wipe_wipe σ vs), ?_⟩
            cases e4 : test env1 with
            | none => simp [e4] at hgo
            | some t =>
              refine ⟨G, B2, _, env1, t, S3, e4, fun B4 H4 S4 m4 => ?_⟩
              have m5 : Mv B' H' B4 H4 := mg.trans m4
              have SB := S'.back S4 m5
              cases t with
              | false =>
                simp only [e4] at hgo
                exact iteF ⟨B4, acc, us, ys', SB, m'.trans m5, m5.2 D _ hD', ra.mono m5.1, by omega, hgo, hys⟩
              | true =>
                simp only [e4] at hgo
                cases e5 : elt env1 with
                | none => simp [e5] at hgo
                | some y1 =>
                  simp only [e5] at hgo
                  cases e6 : lcGo st test elt (wipeE env vs) (ds.drop (i + 1)) with
                  | none => simp [e6] at hgo
                  | some ys2 =>
                    simp only [e6] at hgo
                    cases hgo
                    refine iteT ⟨G, B4, _, env1, y1, S4, e5, fun v B6 H6 S6 m6 r6 => ?_⟩
                    have m7 : Mv B' H' B6 H6 := m5.trans m6
                    have SC := S'.back S6 m7
                    refine ⟨us, m7.2 D _ hD', by rw [← ra.length]; exact sl16' (by omega), B6, acc ++ [y1], us ++ [v], ys2, SC.phUp, ?_, upd_same, (ra.mono m7.1).append (.one r6), by simp; omega, rfl, by rw [hys]; simp⟩
                    refine ⟨(m'.trans m7).1, fun x u hx => ?_⟩
                    rw [upd_ne (ne_of_none hx hD)]
                    exact (m'.trans m7).2 x u hx
        · have ei : i = ds.length := by omega
          subst ei
          rw [List.drop_length] at hgo
          simp only [lcGo] at hgo
          cases hgo
          rw [List.append_nil] at hys
          subst hys
          refine .inl ⟨W.stop B' H' m'.1 S'.bh, ?_⟩
          have SE := S1.back (S'.unph nD.1) m'
          refine q (.ref D) B' H' (fun a => if a = D then some [] else none) SE ⟨fun a h => ?_, ?_⟩ (m.trans m')
          · have e : a = D := by
              by_cases z : a = D
              · exact z
              · simp [z] at h
            subst e
            exact ⟨nD.1, S'.wb a (by simp [wPh]), (by rw [hD']; exact fun z => by cases z), nD.2.2⟩
          · simp only [ORep]
            exact ⟨D, us, rfl, hD', by simp, OReps_sh ra⟩
    · cases h
end
end DL
namespace DL
open PySem L2 PyProof.Rows PySem.Spec
section
variable {k : KC} {W : WX} {X : Cx} {pos p0 : Pos} {a b c : Expr} {fa fb fc : List OT → Option Dat} {es : List Expr} {fs : List OT → Option (List Dat)} {src : List OT → Option (List Dat)} {own : List (Str × Nat)} {g : TG} {st : Dat → List OT → Option (List OT)} {test : List OT → Option Bool} {elt : List OT → Option Dat}
theorem f_lc {eltE tg iter : Expr} {ifs : List Expr} {scope : Scope} (own : List (Str × Nat)) (hc : X.calm = true) (hN : X.N.Nodup) (hi : PI X tg iter (tI k src)) (ok : BlkOk X.N X.env.scope scope own)
    (hg : ∀ (s : Shared) (H : Hp) (C : Addr) (cl : List (Str × Addr)) (fp : List Addr), PG (X.blk s H scope (compEnvC scope cl C X.env) fp) tg g) (hw : Within k g st (own.map (·.2))) (ht : ∀ (s : Shared) (H : Hp) (C : Addr) (cl : List (Str × Addr)) (fp : List Addr), PTs (X.blk s H scope (compEnvC scope cl C X.env) fp) ifs (tT k test))
    (he : ∀ (s : Shared) (H : Hp) (C : Addr) (cl : List (Str × Addr)) (fp : List Addr), PE (X.blk s H scope (compEnvC scope cl C X.env) fp) eltE (tD k elt)) (hs : ∀ x, foldedSetIterable iter X.env x = pure x := by intro _; rfl) :
    PE X (.ListComp eltE [⟨tg, iter, ifs, 0⟩] scope pos) (tF k (lcF src (own.map (·.2)) st test elt)) := pe_imp (pe_lc hc hN hi ok hg ht he hs) fun _ _ _ h => lc_read hw h
/-- name = [..]: own, or shared -/
theorem s_setLcO (i : Nat) {y : Str} {py spos : Pos} {eltE tg iter : Expr} {ifs : List Expr} {scope : Scope} (own : List (Str × Nat)) (hc : X.calm = true) (hN : X.N.Nodup)
    (hsw : swapsWith (.ListComp eltE [⟨tg, iter, ifs, 0⟩] scope pos) (some (.Name y py)) spos.line X.env = pure true) (hi : PI X tg iter (tI k src)) (ok : BlkOk X.N X.env.scope scope own)
    (hg : ∀ (s : Shared) (H : Hp) (C : Addr) (cl : List (Str × Addr)) (fp : List Addr), PG (X.blk s H scope (compEnvC scope cl C X.env) fp) tg g) (hw : Within k g st (own.map (·.2))) (ht : ∀ (s : Shared) (H : Hp) (C : Addr) (cl : List (Str × Addr)) (fp : List Addr), PTs (X.blk s H scope (compEnvC scope cl C X.env) fp) ifs (tT k test))
    (he : ∀ (s : Shared) (H : Hp) (C : Addr) (cl : List (Str × Addr)) (fp : List Addr), PE (X.blk s H scope (compEnvC scope cl C X.env) fp) eltE (tD k elt)) (hy : X.N[i]? = some y := by rfl) (hyl : X.env.scope.names.lookup y = some .local := by rfl) (hs : ∀ x, foldedSetIterable iter X.env x = pure x := by intro _; rfl) :
    PS X (.Assign [.Name y py] (.ListComp eltE [⟨tg, iter, ifs, 0⟩] scope pos) spos) (tS k W (setO i (lcF src (own.map (·.2)) st test elt))) := ps_imp (ps_setLc hc hN hy hyl hsw hi ok hg ht he hs) fun D σ H h => by
  have z := setO_read h
  show tLc _ _ _ _ _ σ H _
  exact lc_read hw z
theorem s_setLc (i : Nat) {y : Str} {py spos : Pos} {eltE tg iter : Expr} {ifs : List Expr} {scope : Scope} (own : List (Str × Nat)) (hc : X.calm = true) (hN : X.N.Nodup)
    (hsw : swapsWith (.ListComp eltE [⟨tg, iter, ifs, 0⟩] scope pos) (some (.Name y py)) spos.line X.env = pure true) (hi : PI X tg iter (tI k src)) (ok : BlkOk X.N X.env.scope scope own)
    (hg : ∀ (s : Shared) (H : Hp) (C : Addr) (cl : List (Str × Addr)) (fp : List Addr), PG (X.blk s H scope (compEnvC scope cl C X.env) fp) tg g) (hw : Within k g st (own.map (·.2))) (ht : ∀ (s : Shared) (H : Hp) (C : Addr) (cl : List (Str × Addr)) (fp : List Addr), PTs (X.blk s H scope (compEnvC scope cl C X.env) fp) ifs (tT k test))
    (he : ∀ (s : Shared) (H : Hp) (C : Addr) (cl : List (Str × Addr)) (fp : List Addr), PE (X.blk s H scope (compEnvC scope cl C X.env) fp) eltE (tD k elt)) (hy : X.N[i]? = some y := by rfl) (hyl : X.env.scope.names.lookup y = some .local := by rfl) (hs : ∀ x, foldedSetIterable iter X.env x = pure x := by intro _; rfl) :
    PS X (.Assign [.Name y py] (.ListComp eltE [⟨tg, iter, ifs, 0⟩] scope pos) spos) (tS k W (setS i (mlt (lcF src (own.map (·.2)) st test elt)))) := ps_imp (ps_setLc hc hN hy hyl hsw hi ok hg ht he hs) fun D σ H h => by
  obtain ⟨G, B, w, env, o, S, h, q⟩ := h
  show tLc _ _ _ _ _ σ H _
  refine lc_read hw ?_
  cases e : lcF src (own.map (·.2)) st test elt env with
  | none => simp [setS, mlt, e] at h
  | some o1 =>
    simp only [setS, mlt, e] at h
    split at h
    · cases h
    · rename_i d z
      split at z
      · rename_i zk
        cases z
        cases h
        refine ⟨G, B, w, env, o1, S, e, fun v B' H' w1 S' T m => ?_⟩
        obtain ⟨S2, r2⟩ := T.melt S' zk
        exact q _ _ _ _ (S2.set r2) (m.1.trans (same_put S'.bh))
      · cases z

/-! ### changes in place, at a slot's own list -/
@[simp] def appS (i : Nat) (f : List OT → Option Dat) : List OT → Option Out := fun e => match e[i]? with
  | some (.lst xs) => match f e with
    | none => none
    | some d => if xs.length < 16000000 then some (.nx (e.set i (.lst (xs ++ [.sh d])))) else none
  | _ => none
theorem s_app (i : Nat) {x : Str} {e : Expr} {px apos cpos : Pos} (hk : X.K = k.K) (he : PE X e (tD k fa)) (hN : X.N[i]? = some x := by rfl) (hv : Vis X.env.scope x := by first | exact Or.inl rfl | exact Or.inr (Or.inl rfl) | exact Or.inr (Or.inr rfl)) (hd : (x == ("__debug__" : Str)) = false := by decide)
    (hcd : (x == ("__classdict__" : Str)) = false := by decide) (hbase : attributeBase (.Name x px) "append" X.env (eval (.Name x px) X.env) = eval (.Name x px) X.env := by rfl)
    (hfew : ((backTo cpos (starEach [e] X.env)).all (fun x => !x.1) && (backToKw cpos (keywordEach [] X.env)).all (fun x => x.1.isSome)
      && decide (([e] : List Expr).length + ([] : List Keyword).length + (if ([] : List Keyword).isEmpty then 0 else 1) < 30)) = true := by rfl)
    (hline : (apos.endLine == cpos.line) = true := by rfl) (hs : starEach [e] X.env = (false, eval e X.env) :: starEach [] X.env := by rfl) (hplain : (backTo cpos (starEach [] X.env)).any (·.1) = false := by rfl) (hsw : swapsWith (.Call (.Attribute (.Name x px) "append" apos) [e] [] cpos) none pos.line X.env = pure false := by rfl) :
    PS X (.Expr (.Call (.Attribute (.Name x px) "append" apos) [e] [] cpos) pos) (tS k W (appS i fa)) :=
  ps_imp (ps_expr (pe_bm F.plainAttrs_list F.slot_list_append F.type_list_append mt_append (pe_var hN hv hd hcd) (pa_cons he pa_nil hs) hbase hfew hline hs hplain) hsw) fun D σ H ⟨G, B, w, env, o, S, h, q⟩ => by
    unfold appS at h
    split at h
    · rename_i xs e1
      cases e2 : fa env with
      | none => simp [e2] at h
      | some d =>
        simp only [e2] at h
        split at h
        · rename_i hl
          cases h
          obtain ⟨p, vs, hp, h1, h2, h3⟩ := S.lst e1
          refine ⟨_, hp, .inl ⟨rfl, vs, hk ▸ SqL.of h1⟩, G, B, w, env, d, S, e2, fun v B1 H1 S1 m r => ?_⟩
          obtain ⟨p', vs', hp', h4, h5, h6⟩ := S1.lst e1
          rw [hp] at hp'
          cases hp'
          refine ⟨p, vs', v, rfl, rfl, h4, by rw [← h6.length]; exact sl16' hl, ?_⟩
          exact q _ B1 _ w (S1.lset hp h5 (List.getElem?_eq_some_iff.mp e1).1 (h6.snoc r)) m.1
        · cases h
    · cases h
/-- x[n] = e -/
@[simp] def stiS (i : Nat) (fi fe : List OT → Option Dat) : List OT → Option Out := fun e => match fe e with
  | none => none
  | some d => match e[i]? with
    | some (.lst xs) => match fi e with
      | some (.int n) => match ixN xs.length n with
        | some j => some (.nx (e.set i (.lst (xs.set j (.sh d)))))
        | none => none
      | _ => none
    | _ => none
theorem s_sti (i : Nat) {x : Str} {e ix : Expr} {px spos : Pos} (he : PE X e (tD k fa)) (hix : PE X ix (tD k fb)) (hN : X.N[i]? = some x := by rfl) (hv : Vis X.env.scope x := by first | exact Or.inl rfl | exact Or.inr (Or.inl rfl) | exact Or.inr (Or.inr rfl)) (hd : (x == ("__debug__" : Str)) = false := by decide)
    (hcd : (x == ("__classdict__" : Str)) = false := by decide) (hs : swapsWithSole [.Subscript (.Name x px) ix spos] e pos.line X.env = pure false := by rfl) (hw : swappedStores [.Subscript (.Name x px) ix spos] e X.env = pure none := by rfl)
    (h1 : (assignEach [.Subscript (.Name x px) ix spos] X.env).map (·.2) = [assign (.Subscript (.Name x px) ix spos) X.env] := by rfl)
    (ha : ∀ v, assign (.Subscript (.Name x px) ix spos) X.env v = (do
      let ov ← holding [v] (eval (.Name x px) X.env)
      let iv ← holding [v, ov] (eval ix X.env)
      standAt spos
      holding [v, ov, iv] (setItem ov iv v)
      release [v, ov, iv] []) := by intro _; rfl) : PS X (.Assign [.Subscript (.Name x px) ix spos] e pos) (tS k W (stiS i fb fa)) :=
  ps_imp (ps_asg he (pg_sub (pe_var hN hv hd hcd) hix set_list ha) hs hw h1) fun D σ H ⟨G, B, w, env, o, S, h, q⟩ => by
    unfold stiS at h
    cases e0 : fa env with
    | none => simp [e0] at h
    | some d =>
      simp only [e0] at h
      split at h
      · rename_i xs e1
        split at h
        · rename_i n e2
          split at h
          · rename_i j e3
            cases h
            refine ⟨G, B, w, env, d, S, e0, fun v B1 H1 S1 m1 r1 => ?_⟩
            obtain ⟨p, vs, hp, h1, h2, h3⟩ := S1.lst e1
            refine ⟨_, hp, G, B1, w, env, _, S1, e2, fun u B2 H2 S2 m2 r2 => ?_⟩
            simp only [Rep] at r2
            obtain ⟨p', vs', hp', h4, h5, h6⟩ := S2.lst e1
            rw [hp] at hp'
            cases hp'
            exact ⟨p, vs', n, j, rfl, r2, h4, by rw [← h6.length]; exact e3, q _ B2 _ w (S2.lset hp h5 (List.getElem?_eq_some_iff.mp e1).1 (h6.set (r1.mono m2.1) j)) (m1.1.trans m2.1)⟩
          · cases h
        · cases h
      · cases h
/-- slot i's own tree is from here on shared -/
@[simp] def frzO (i : Nat) : List OT → Option (List OT) := fun e => match e[i]? with
  | some o => if o.ok then some (e.set i (.sh o.dat)) else none
  | none => none
@[simp] def frzS (i : Nat) (g : List OT → Option Out) : List OT → Option Out := fun e => match frzO i e with
  | none => none
  | some e1 => g e1
theorem frz_read {i : Nat} {gg : List OT → Option Out} {D : Ends} {σ : L2.St} {H : Hp} (h : tS k W (frzS i gg) D σ H) : tS k W gg D σ H := by
  obtain ⟨G, B, w, env, o, S, h, q⟩ := h
  unfold frzS frzO at h
  split at h
  · cases h
  · rename_i e1 z
    split at z
    · rename_i o' e2
      split at z
      · rename_i zk
        cases z
        exact ⟨G, _, _, _, o, S.frz e2 zk, h, q.mono (same_melt S.bh)⟩
      · cases z
    · cases z
theorem s_frz (i : Nat) {stt : Stmt} {gg : List OT → Option Out} (h : PS X stt (tS k W gg)) : PS X stt (tS k W (frzS i gg)) := ps_imp h fun _ _ _ h => frz_read h
/-- len(x), x[n], of a slot's own list -/
@[simp] def lenO (i : Nat) : List OT → Option Dat := fun e => match e[i]? with
  | some (.lst xs) => some (.int xs.length)
  | _ => none
theorem d_lenO (i : Nat) {x : Str} {px : Pos} (hk : X.K = k.K) (hm : X.mg "len" = none) (hN : X.N[i]? = some x := by rfl) (hv : Vis X.env.scope x := by first | exact Or.inl rfl | exact Or.inr (Or.inl rfl) | exact Or.inr (Or.inr rfl)) (hd : (x == ("__debug__" : Str)) = false := by decide)
    (hcd : (x == ("__classdict__" : Str)) = false := by decide) (hg : Gl X "len" := by rfl) (he : starEach [.Name x px] X.env = (false, eval (.Name x px) X.env) :: starEach [] X.env := by rfl) (hpl : (backTo pos (starEach [] X.env)).any (·.1) = false := by rfl) :
    PE X (.Call (.Name "len" p0) [.Name x px] [] pos) (tD k (lenO i)) := pe_imp (pe_callB (hk ▸ call_len) hg hm boot_len (pa_cons (pe_var hN hv hd hcd) pa_nil he) (by decide) (by decide) he hpl) fun σ H Q ⟨G, B, w, env, d, S, h, q⟩ => by
  unfold lenO at h
  split at h
  · rename_i xs e1
    cases h
    obtain ⟨p, vs, hp, h1, h2, h3⟩ := S.lst e1
    exact ⟨_, hp, _, vs.length, rfl, .inl ⟨vs, SqL.of h1, rfl⟩, q _ B H S .refl (by simp only [Rep]; rw [h3.length])⟩
  · cases h
@[simp] def ixO (i : Nat) (f : List OT → Option Dat) : List OT → Option Dat := fun e => match e[i]? with
  | some (.lst xs) => match f e with
    | some (.int n) => match atI xs n with
      | some (.sh d) => some d
      | _ => none
    | _ => none
  | _ => none
theorem OReps.get {B H : Hp} {w : WM} {π : List Nat} : ∀ {n : Nat} {os : List OT} {vs : List V} {i : Nat} {o : OT}, OReps k B H w π n os vs → os[i]? = some o → ∃ v, vs[i]? = some v ∧ ORep k B H w ((n + i) :: π) o v
  | n, [], vs, i, o, h, e => by simp at e
  | n, o0 :: os, vs, 0, o, h, e => by
    simp only [OReps] at h
    obtain ⟨v, r, rfl, h1, h2⟩ := h
    simp at e
    subst e
    exact ⟨v, rfl, h1⟩
  | n, o0 :: os, vs, i + 1, o, h, e => by
    simp only [OReps] at h
    obtain ⟨v, r, rfl, h1, h2⟩ := h
    simp at e
    obtain ⟨u, h3, h4⟩ := OReps.get h2 e
    exact ⟨u, by simpa using h3, by rw [show n + (i + 1) = n + 1 + i by omega]; exact h4⟩
theorem d_ixO (i : Nat) {x : Str} {px : Pos} {ix : Expr} (hk : X.K = k.K) (hix : PE X ix (tD k fa)) (hN : X.N[i]? = some x := by rfl) (hv : Vis X.env.scope x := by first | exact Or.inl rfl | exact Or.inr (Or.inl rfl) | exact Or.inr (Or.inr rfl)) (hd : (x == ("__debug__" : Str)) = false := by decide)
    (hcd : (x == ("__classdict__" : Str)) = false := by decide) (hs : PlainIx ix := by exact fun _ _ => rfl) : PE X (.Subscript (.Name x px) ix pos) (tD k (ixO i fa)) := pe_imp (pe_ix (hk ▸ ix_list) (pe_var hN hv hd hcd) hix hs) fun σ H Q ⟨G, B, w, env, d, S, h, q⟩ => by
  unfold ixO at h
  split at h
  · rename_i xs e1
    split at h
    · rename_i n e2
      split at h
      · rename_i d' e3
        cases h
        obtain ⟨p, vs, hp, h1, h2, h3⟩ := S.lst e1
        refine ⟨_, hp, G, B, w, env, _, S, e2, fun u B2 H2 S2 m2 r2 => ?_⟩
        simp only [Rep] at r2
        obtain ⟨p', vs', hp', h4, h5, h6⟩ := S2.lst e1
        rw [hp] at hp'
        cases hp'
        unfold atI at e3
        rw [h6.length] at e3
        cases e4 : ixN vs'.length n with
        | none => simp [e4] at e3
        | some j =>
          simp [e4] at e3
          obtain ⟨v, hv', r⟩ := h6.get e3
          simp only [ORep] at r
          exact ⟨p, vs', n, v, rfl, r2, SqL.of h4, by unfold atI; rw [e4]; exact hv', q v B2 H2 S2 m2 r⟩
      · cases h
    · cases h
  · cases h
end

/-! ### defs -/
def spP (k : KC) (n : Nat) (f : List Dat → Option OT) : Sp := fun vs H Q _ => ∃ B ds o, Same B H ∧ Reps k B ds vs ∧ ds.length = n ∧ f ds = some o ∧
  ∀ v B' H' w, Same B B' → Same B' H' → Same H H' → (∀ a, B a = none → H a ≠ none → B' a = none) → (∀ a, w a ≠ none → B' a = none ∧ H a = none ∧ H' a ≠ none) → ORep k B' H' w [] o v → Q v H'
/-- a def as a function of data: n parameters, N slots -/
def fnD (n N : Nat) (g : List OT → Option Out) : List Dat → Option OT := fun ds => if ds.length = n then
    match g (ds.map .sh ++ List.replicate (N - n) .un) with
    | some (.rt o _) => some o
    | some (.nx _) => some (.sh .non)
    | _ => none
  else none
theorem start_sta {k : KC} {B H : Hp} {N : List Str} {ds : List Dat} {vs : List V} (hs : Same B H) (r : Reps k B ds vs) (hl : ds.length ≤ N.length) :
    Sta k ⟨H, B, fun _ => False⟩ B H (fun _ => none) (L2.start N vs) (ds.map .sh ++ List.replicate (N.length - ds.length) .un) where
  bh := hs
  b0 := .refl _
  fr := fun a h1 h2 h3 => ⟨h1, rfl, rfl⟩
  wb := fun a h => absurd rfl h
  wh := fun a h => absurd rfl h
  len := by
    unfold L2.start
    rw [List.length_append, List.length_append, List.length_map, List.length_map, List.length_replicate, List.length_replicate, r.length]
  sl := fun i o h => by
    unfold L2.start
    by_cases hi : i < ds.length
    · rw [List.getElem?_append_left (by simpa using hi), List.getElem?_map] at h
      cases e : ds[i]? with
      | none => simp [e] at h
      | some d =>
        simp [e] at h
        subst h
        obtain ⟨v, hv, q⟩ := r.get e
        refine .inr ⟨v, ?_, by simpa only [ORep] using q⟩
        rw [List.getElem?_append_left (by rw [List.length_map, ← r.length]; exact hi), List.getElem?_map, hv]
        rfl
    · rw [List.getElem?_append_right (by simpa using hi), List.getElem?_replicate] at h
      split at h
      · cases h
        exact .inl rfl
      · cases h
section
variable {P : Program} {w : World} {K : PySem.W.Frag} {mg : Str → Option Value} {base : Heap} {k : KC}
theorem okD {x qual : Str} {st : Stmt} {f : Addr} {fd : FuncData} {N ps : List Str} {j : Nat} {g : List OT → Option Out} (F : Fun K x qual st f fd) (S : FnScope N ps (defScope st)) (hn : ps.length ≤ N.length)
    (hb : ∀ (cdv : Value) (A : Around) (outer : List Env) (s : Shared) (H : Hp) (E : XK), Room j (A.deeper (envOfC qual (defScope st) s.heap.objs.size f cdv)) → PSs (cxOf CX0 P w K mg base N qual (defScope st) f cdv A outer s H E).nox (defBody st) (tS k nW g)) :
    FnOk P w K mg base CX0 (j + 1) f fd ps (spP k ps.length (fnD ps.length N.length g)) := by
  refine F.ok S (fun vs H Q E h => ?_) (fun cdv A outer s H vs Q E hr h => ?_)
  · obtain ⟨B, ds, o, _, r, hl, _⟩ := h
    rw [← r.length, hl]
  · obtain ⟨B, ds, o, hs, r, hl, hf, q⟩ := h
    refine ⟨_, hb cdv A outer s H E hr, ?_⟩
    unfold fnD at hf
    rw [if_pos hl] at hf
    have S0 := start_sta (N := N) hs r (by omega)
    rw [hl] at S0
    split at hf
    · rename_i o' e' hg
      cases hf
      refine ⟨_, B, _, _, _, S0, hg, fun v σ' B' H' w' w1 S1 T m => ?_⟩
      have hH : Same H H' := fun a u hu => by
        by_cases hB : B a = none
        · have := (S1.fr a hB (show H a ≠ none by rw [hu]; exact fun z => nomatch z) (fun z => z)).2.1
          exact this.trans hu
        · cases hb' : B a with
          | none => exact absurd hb' hB
          | some u' =>
            have z := hs a u' hb'
            rw [hu] at z
            cases z
            exact S1.bh a u (m a u hb')
      refine q v B' H' w1 m S1.bh hH (fun a h1 h2 => (S1.fr a h1 h2 (fun z => z)).1) (fun a ha => ?_) T.rep
      obtain ⟨x1, x2, x3, x4⟩ := T.dis a ha
      refine ⟨x2, ?_, x3⟩
      cases hh : H a with
      | none => rfl
      | some u =>
        by_cases hB : B a = none
        · exact (x4 hB (by show H a ≠ none; rw [hh]; exact fun z => nomatch z)).elim
        · cases hb' : B a with
          | none => exact absurd hb' hB
          | some u' =>
            rw [m a u' hb'] at x2
            cases x2
    · rename_i e' hg
      cases hf
      refine ⟨_, B, _, _, _, S0, hg, fun σ' B' H' w' S1 m => ?_⟩
      have hH : Same H H' := fun a u hu => by
        by_cases hB : B a = none
        · have := (S1.fr a hB (show H a ≠ none by rw [hu]; exact fun z => nomatch z) (fun z => z)).2.1
          exact this.trans hu
        · cases hb' : B a with
          | none => exact absurd hb' hB
          | some u' =>
            have z := hs a u' hb'
            rw [hu] at z
            cases z
            exact S1.bh a u (m a u hb')
      exact q .non B' H' (fun _ => none) m S1.bh hH (fun a h1 h2 => (S1.fr a h1 h2 (fun z => z)).1) (fun a ha => absurd rfl ha) (by simp only [ORep, Rep])
    · cases hf
/-- a def of the text that may be called: at most level j, n arguments handed in -/
structure Fn (P : Program) (w : World) (K : PySem.W.Frag) (mg : Str → Option Value) (base : Heap) (k : KC) (j : Nat) (x : Str) (n : Nat) (f : List Dat → Option OT) : Prop where
  ex : ∃ (fa : Addr) (fd : FuncData) (ps : List Str) (dvs : List V) (dus : List Value) (dds : List Dat) (m : Nat) (f0 : List Dat → Option OT), FnOk P w K mg base CX0 j fa fd ps (spP k m f0) ∧ mg x = some (.ref fa) ∧ PySem.W.keepIn K (.ref fa) = true ∧ Binds K fd ps dus ∧ Vals dvs dus ∧
    (∀ B, Reps k B dds dvs) ∧ n + dds.length = m ∧ ∀ ds, ds.length = n → f ds = f0 (ds ++ dds)
theorem Fn.mk0 {j : Nat} {x : Str} {f : List Dat → Option OT} {fa : Addr} {fd : FuncData} {ps : List Str} (F : FnOk P w K mg base CX0 j fa fd ps (spP k ps.length f)) (hm : mg x = some (.ref fa)) (hk : PySem.W.keepIn K (.ref fa) = true) (hb : Binds K fd ps []) : Fn P w K mg base k j x ps.length f :=
  ⟨fa, fd, ps, [], [], [], ps.length, f, F, hm, hk, hb, .nil, fun _ => .nil, rfl, fun ds _ => by rw [List.append_nil]⟩
theorem Fn.mono {j j' n : Nat} {x : Str} {f : List Dat → Option OT} (F : Fn P w K mg base k j x n f) (h : j ≤ j') : Fn P w K mg base k j' x n f := by
  obtain ⟨fa, fd, ps, dvs, dus, dds, m, f0, F, r⟩ := F.ex
  exact ⟨fa, fd, ps, dvs, dus, dds, m, f0, F.mono h, r⟩
end
section
variable {k : KC} {X : Cx} {pos p0 : Pos} {e : Expr} {es : List Expr} {fs : List OT → Option (List Dat)}
@[simp] def callO (n : Nat) (f : List Dat → Option OT) (fs : List OT → Option (List Dat)) : List OT → Option OT := fun e => match fs e with
  | none => none
  | some ds => if ds.length = n then f ds else none
theorem call_core {n : Nat} {dvs : List V} {dds : List Dat} {m : Nat} {f0 : List Dat → Option OT} {G : Gh} {B1 H1 : Hp} {w : WM} {σ : L2.St} {env : List OT} {ds : List Dat} {vs : List V} {o : OT} {Q : VK} {E : XK}
    (hdd : ∀ B, Reps k B dds dvs) (hm : n + dds.length = m) (hl : ds.length = n) (hf : f0 (ds ++ dds) = some o) (S1 : Sta k G B1 H1 w σ env) (r1 : Reps k B1 ds vs)
    (q : ∀ v B' H' w1, Sta k G B' H' w σ env → Vt k G B' H' w w1 o v → Mv B1 H1 B' H' → Q v H') : spP k m f0 (vs ++ dvs) H1 Q E := by
  refine ⟨B1, ds ++ dds, o, S1.bh, r1.append (hdd B1), by rw [List.length_append, hl, hm], hf, fun v B' H' w1 m1 m2 m3 m4 m5 r => ?_⟩
  have SS : Sta k G B' H' w σ env := ⟨m2, S1.b0.trans m1, fun a h1 h2 h3 => by
      obtain ⟨x, y, z⟩ := S1.fr a h1 h2 h3
      have hh : H1 a ≠ none := by rw [y]; exact h2
      refine ⟨m4 a x hh, ?_, z⟩
      rw [← y]
      cases u : H1 a with
      | none => exact absurd u hh
      | some u' => exact m3 a u' u, fun a h => m4 a (S1.wb a h) (S1.wh a h), (fun a h => by
      cases u : H1 a with
      | none => exact absurd u (S1.wh a h)
      | some u' =>
        rw [m3 a u' u]
        exact fun z => by cases z), S1.len, fun i o h => by
      rcases S1.sl i o h with e | ⟨u, hu, r'⟩
      · exact .inl e
      · refine .inr ⟨u, hu, r'.frame m1 fun p ρ e => ⟨e, ?_⟩⟩
        cases u : H1 p with
        | none => exact absurd u (S1.wh p (by rw [e]; exact fun z => nomatch z))
        | some u' => exact m3 p u' u⟩
  refine q v B' H' w1 SS ⟨fun a ha => ?_, r⟩ ⟨m1, m3⟩
  obtain ⟨x1, x2, x3⟩ := m5 a ha
  have nn := S1.nob x2
  exact ⟨nn.1, x1, x3, nn.2.2⟩
theorem f_call {j n : Nat} {x : Str} {f : List Dat → Option OT} (F : Fn X.prog X.w X.K X.mg X.base k j x n f) (hr : Room j X.A) (ha : PA X (e :: es) (tA k fs)) (hg : Gl X x := by rfl) (hdb : (x == ("__debug__" : Str)) = false := by decide) (he : starEach (e :: es) X.env = (false, eval e X.env) :: starEach es X.env := by rfl) (hpl : (backTo pos (starEach es X.env)).any (·.1) = false := by rfl) :
    PE X (.Call (.Name x p0) (e :: es) [] pos) (tF k (callO n f fs)) := by
  obtain ⟨fa, fd, ps, dvs, dus, dds, m, f0, FF, hm, hk, hb, hv, hdd, hnm, hff⟩ := F.ex
  refine pe_imp (pe_call FF hr hg hm hk hb hv (E := fun _ _ _ => False) pass0 ha hdb he hpl) fun σ H Q ⟨G, B, w, env, o, S, h, q⟩ => ?_
  cases e1 : fs env with
  | none => simp [callO, e1] at h
  | some ds =>
    simp only [callO, e1] at h
    split at h
    · rename_i hl
      refine ⟨G, B, w, env, ds, S, e1, fun vs B1 H1 S1 m1 r1 => ?_⟩
      exact call_core hdd hnm hl (by rw [← hff ds hl]; exact h) S1 r1 fun v B' H' w1 S2 T m2 => q v B' H' w1 S2 T (m1.trans m2)
    · cases h
theorem f_call0 {j : Nat} {x : Str} {f : List Dat → Option OT} (F : Fn X.prog X.w X.K X.mg X.base k j x 0 f) (hr : Room j X.A) (hg : Gl X x := by rfl) (hdb : (x == ("__debug__" : Str)) = false := by decide) :
    PE X (.Call (.Name x p0) [] [] pos) (tF k (callO 0 f nilA)) := by
  obtain ⟨fa, fd, ps, dvs, dus, dds, m, f0, FF, hm, hk, hb, hv, hdd, hnm, hff⟩ := F.ex
  refine pe_imp (pe_call0 FF hr hg hm hk hb hv (E := fun _ _ _ => False) pass0 hdb) fun σ H Q ⟨G, B, w, env, o, S, h, q⟩ => ?_
  simp only [callO, nilA] at h
  rw [if_pos (show ([] : List Dat).length = 0 from rfl)] at h
  exact call_core (E := fun _ _ _ => False) hdd hnm (ds := []) (vs := []) rfl (by rw [← hff [] rfl]; exact h) S .nil fun v B' H' w1 S2 T m2 => q v B' H' w1 S2 T m2
/-- a call whose value is shared data -/
theorem d_call {j n : Nat} {x : Str} {f : List Dat → Option OT} (F : Fn X.prog X.w X.K X.mg X.base k j x n f) (hr : Room j X.A) (ha : PA X (e :: es) (tA k fs)) (hg : Gl X x := by rfl) (hdb : (x == ("__debug__" : Str)) = false := by decide) (he : starEach (e :: es) X.env = (false, eval e X.env) :: starEach es X.env := by rfl) (hpl : (backTo pos (starEach es X.env)).any (·.1) = false := by rfl) :
    PE X (.Call (.Name x p0) (e :: es) [] pos) (tD k (mlt (callO n f fs))) := d_mlt (f_call F hr ha hg hdb he hpl)
end
end DL
namespace DL
open PySem L2 PyProof.Rows PySem.Spec
/-! ### what is only looked at: it may be one's own -/
def tB (k : KC) (f : List OT → Option Dat) : TE := fun σ H Q => ∃ G B w env d, Sta k G B H w σ env ∧ f env = some d ∧ ∀ v B' H', Sta k G B' H' w σ env → Mv B H B' H' → Rep k H' d v → Q v H'
def tAB (k : KC) (f : List OT → Option (List Dat)) : TA := fun σ H Q => ∃ G B w env d, Sta k G B H w σ env ∧ f env = some d ∧ ∀ v B' H', Sta k G B' H' w σ env → Mv B H B' H' → Reps k H' d v → Q v H'
def Dat.sc : Dat → Bool
  | .non => true
  | .bl _ => true
  | .int _ => true
  | .str _ => true
  | _ => false
theorem sc_rep {k : KC} {B B' : Hp} {d : Dat} {v : V} (z : d.sc = true) (r : Rep k B d v) : Rep k B' d v := by
  cases d <;> first
    | (exact absurd z Bool.false_ne_true)
    | (simpa only [Rep] using r)
/-- a scalar alone -/
@[simp] def scO (f : List OT → Option Dat) : List OT → Option Dat := fun e => match f e with
  | some d => if d.sc then some d else none
  | none => none
theorem scO_some {f : List OT → Option Dat} {e : List OT} {d : Dat} (h : scO f e = some d) : f e = some d ∧ d.sc = true := by
  unfold scO at h
  split at h
  · rename_i d' e1
    split at h
    · rename_i z
      cases h
      exact ⟨e1, z⟩
    · cases h
  · cases h
theorem Grow.h {B H B1 H1 : Hp} (g : Grow B H B1 H1) : Same H H1 := by
  induction g with
  | refl => exact .refl _
  | new g hp ih => exact ih.trans (same_newH hp)
section
variable {k : KC} {G : Gh} {B H H' : Hp} {w : WM} {σ : L2.St} {env : List OT}
/-- the heap grew, the shared part is as it was -/
theorem Sta.up (S : Sta k G B H w σ env) (m : Same H H') : Sta k G B H' w σ env where
  bh := S.bh.trans m
  b0 := S.b0
  fr := fun a h1 h2 h3 => by
    obtain ⟨x, y, z⟩ := S.fr a h1 h2 h3
    refine ⟨x, ?_, z⟩
    rw [← y]
    cases u : H a with
    | none => rw [u] at y; exact absurd y.symm h2
    | some o => exact m a o u
  wb := S.wb
  wh := fun a h => by
    cases u : H a with
    | none => exact absurd u (S.wh a h)
    | some o =>
      rw [m a o u]
      exact fun z => by cases z
  len := S.len
  sl := fun i o h => by
    rcases S.sl i o h with e | ⟨v, hv, r⟩
    · exact .inl e
    · refine .inr ⟨v, hv, r.frame (.refl _) fun q ρ e => ⟨e, ?_⟩⟩
      cases u : H q with
      | none => exact absurd u (S.wh q (by rw [e]; exact fun z => nomatch z))
      | some o => exact m q o u
end
section
variable {k : KC} {X : Cx} {pos p0 : Pos} {a b c : Expr} {fa fb fc : List OT → Option Dat} {e : Expr} {es : List Expr} {fs : List OT → Option (List Dat)}
theorem b_of (ha : PE X a (tD k fa)) : PE X a (tB k fa) := pe_imp ha fun σ H Q ⟨G, B, w, env, d, S, h, q⟩ => ⟨G, B, w, env, d, S, h, fun v B' H' S' m r => q v B' H' S' m (r.mono S'.bh)⟩
@[simp] def brw (i : Nat) : List OT → Option Dat := fun e => match e[i]? with
  | some o => if o.ok then some o.dat else none
  | none => none
theorem b_own (i : Nat) {x : Str} (hN : X.N[i]? = some x := by rfl) (hv : Vis X.env.scope x := by first | exact Or.inl rfl | exact Or.inr (Or.inl rfl) | exact Or.inr (Or.inr rfl)) (hd : (x == ("__debug__" : Str)) = false := by decide)
    (hcd : (x == ("__classdict__" : Str)) = false := by decide) : PE X (.Name x pos) (tB k (brw i)) := pe_imp (pe_var hN hv hd hcd) fun σ H Q ⟨G, B, w, env, d, S, h, q⟩ => by
  unfold brw at h
  split at h
  · rename_i o e1
    split at h
    · rename_i z
      cases h
      rcases S.sl i o e1 with e2 | ⟨v, hv, r⟩
      · subst e2
        simp [OT.ok] at z
      · exact ⟨v, hv, q v B H S .refl (r.melt S.bh (fun p ρ _ => rfl) z)⟩
    · cases h
  · cases h
theorem opB_read {r : R2} {g : Dat → Dat → Option Dat} (hr : RD k r g) {σ : L2.St} {H : Hp} {Q : VK} (h : tD k (scO (bin g fa fb)) σ H Q) : tOp r (tB k fa) (tB k fb) σ H Q := by
  obtain ⟨G, B, w, env, d, S, h, q⟩ := h
  obtain ⟨h, z⟩ := scO_some h
  obtain ⟨x, y, hx, hy, hg⟩ := bin_some h
  refine ⟨G, B, w, env, x, S, hx, fun v B1 H1 S1 m1 r1 => ⟨G, B1, w, env, y, S1, hy, fun u B2 H2 S2 m2 r2 => ?_⟩⟩
  exact hr H2 H2 x y d v u Q (.refl _) (r1.mono m2.2) r2 hg fun v' B' H' gr r3 => q v' B2 H' (S2.up gr.h) ((m1.trans m2).trans ⟨.refl _, gr.h⟩) (sc_rep z r3)
theorem d_cmpB {op : CmpOp} {r : R2} {g : Dat → Dat → Option Dat} (ho : OpR X (compareOp op) r) (hr : RD k r g) (ha : PE X a (tB k fa)) (hb : PE X b (tB k fb)) (hm : behindInMarks op b = false) : PE X (.Compare a [op] [b] pos) (tD k (scO (bin g fa fb))) :=
  pe_imp (pe_cmpR ho ha hb hm) fun _ _ _ h => opB_read hr h
theorem t_cmpB {op : CmpOp} {r : R2} {g : Dat → Dat → Option Dat} (ho : OpR X (compareOp op) r) (hr : RD k r g) (ha : PE X a (tB k fa)) (hb : PE X b (tB k fb)) (hm : behindInMarks op b = false) : PT X (.Compare a [op] [b] pos) (tT k (tst (scO (bin g fa fb)))) :=
  pt_imp (pt_cmpR ho ha hb hm) fun σ H Q ⟨G, B, w, env, d, S, h, q⟩ => by
    refine opB_read hr ⟨G, B, w, env, _, S, tst_some h, fun v B' H' S' m r => ?_⟩
    simp only [Rep] at r
    exact ⟨d, r, q B' H' S' m⟩
theorem d_eqB (hk : X.K = k.K) (hu : X.A.units + 64 < cLine) (ha : PE X a (tB k fa)) (hb : PE X b (tB k fb)) : PE X (.Compare a [.Eq] [b] pos) (tD k (scO (bin eqD fa fb))) := d_cmpB (op_eq.or (hk ▸ op_eqD hu)) rd_eq ha hb (nomark _)
theorem d_neB (hk : X.K = k.K) (hu : X.A.units + 64 < cLine) (ha : PE X a (tB k fa)) (hb : PE X b (tB k fb)) : PE X (.Compare a [.NotEq] [b] pos) (tD k (scO (bin neD fa fb))) := d_cmpB (op_ne.or (hk ▸ op_neD hu)) rd_ne ha hb (nomark _)
theorem t_eqB (hk : X.K = k.K) (hu : X.A.units + 64 < cLine) (ha : PE X a (tB k fa)) (hb : PE X b (tB k fb)) : PT X (.Compare a [.Eq] [b] pos) (tT k (tst (scO (bin eqD fa fb)))) := t_cmpB (op_eq.or (hk ▸ op_eqD hu)) rd_eq ha hb (nomark _)
theorem t_neB (hk : X.K = k.K) (hu : X.A.units + 64 < cLine) (ha : PE X a (tB k fa)) (hb : PE X b (tB k fb)) : PT X (.Compare a [.NotEq] [b] pos) (tT k (tst (scO (bin neD fa fb)))) := t_cmpB (op_ne.or (hk ▸ op_neD hu)) rd_ne ha hb (nomark _)
theorem a_nilB : PA X [] (tAB k nilA) := pa_imp pa_nil fun σ H Q ⟨G, B, w, env, d, S, h, q⟩ => by
  cases h
  exact q [] B H S .refl .nil
theorem a_consB (ha : PE X e (tB k fa)) (hr : PA X es (tAB k fs)) (hs : starEach (e :: es) X.env = (false, eval e X.env) :: starEach es X.env := by rfl) : PA X (e :: es) (tAB k (consA fa fs)) :=
  pa_imp (pa_cons ha hr hs) fun σ H Q ⟨G, B, w, env, d, S, h, q⟩ => by
    obtain ⟨x, xs, hx, hxs, rfl⟩ := consA_some h
    exact ⟨G, B, w, env, x, S, hx, fun v B1 H1 S1 m1 r1 => ⟨G, B1, w, env, xs, S1, hxs, fun vs B2 H2 S2 m2 r2 => q _ B2 H2 S2 (m1.trans m2) (.cons (r1.mono m2.2) r2)⟩⟩
theorem d_lenB (hk : X.K = k.K) (hm : X.mg "len" = none) (ha : PA X [e] (tAB k fs)) (hg : Gl X "len" := by rfl) (he : starEach [e] X.env = (false, eval e X.env) :: starEach [] X.env := by rfl) (hpl : (backTo pos (starEach [] X.env)).any (·.1) = false := by rfl) : PE X (.Call (.Name "len" p0) [e] [] pos) (tD k (scO (cal lenD fs))) :=
  pe_imp (pe_callB (hk ▸ call_len) hg hm boot_len ha (by decide) (by decide) he hpl) fun σ H Q ⟨G, B, w, env, d, S, h, q⟩ => by
    obtain ⟨h, z⟩ := scO_some h
    cases e1 : fs env with
    | none => simp [cal, e1] at h
    | some ds =>
      simp only [cal, e1] at h
      exact ⟨G, B, w, env, ds, S, e1, fun vs B1 H1 S1 m r1 => rc_len H1 H1 ds d vs Q (.refl _) r1 h fun v' B' H' gr r3 => q v' B1 H' (S1.up gr.h) (m.trans ⟨.refl _, gr.h⟩) (sc_rep z r3)⟩
/-- a call that looks at one's own things and hands back a scalar -/
@[simp] def callB (n : Nat) (f : List Dat → Option OT) (fs : List OT → Option (List Dat)) : List OT → Option Dat := fun e => match fs e with
  | none => none
  | some ds => if ds.length = n then match f ds with
      | some (.sh d) => if d.sc then some d else none
      | _ => none
    else none
theorem d_callB {j n : Nat} {x : Str} {f : List Dat → Option OT} (F : Fn X.prog X.w X.K X.mg X.base k j x n f) (hr : Room j X.A) (ha : PA X (e :: es) (tAB k fs)) (hg : Gl X x := by rfl) (hdb : (x == ("__debug__" : Str)) = false := by decide) (he : starEach (e :: es) X.env = (false, eval e X.env) :: starEach es X.env := by rfl) (hpl : (backTo pos (starEach es X.env)).any (·.1) = false := by rfl) :
    PE X (.Call (.Name x p0) (e :: es) [] pos) (tD k (callB n f fs)) := by
  obtain ⟨fa, fd, ps, dvs, dus, dds, m, f0, FF, hm, hk, hb, hv, hdd, hnm, hff⟩ := F.ex
  refine pe_imp (pe_call FF hr hg hm hk hb hv (E := fun _ _ _ => False) pass0 ha hdb he hpl) fun σ H Q ⟨G, B, w, env, o, S, h, q⟩ => ?_
  cases e1 : fs env with
  | none => simp [callB, e1] at h
  | some ds =>
    simp only [callB, e1] at h
    split at h
    · rename_i hl
      split at h
      · rename_i d e2
        split at h
        · rename_i z
          cases h
          refine ⟨G, B, w, env, ds, S, e1, fun vs B1 H1 S1 m1 r1 => ?_⟩
          refine ⟨H1, ds ++ dds, _, .refl _, r1.append (hdd H1), by rw [List.length_append, hl, hnm], (hff ds hl).symm.trans e2, fun v B' H' w1 m2 m3 m4 _ _ r => ?_⟩
          simp only [ORep] at r
          exact q v B1 H' (S1.up m4) (m1.trans ⟨.refl _, m4⟩) (sc_rep z r)
        · cases h
      · cases h
    · cases h
end
end DL
namespace DL
open PySem L2 PyProof.Rows PySem.Spec
section
variable {k : KC} {X : Cx} {pos p0 : Pos} {a b c : Expr} {fa fb fc : List OT → Option Dat} {e : Expr} {es : List Expr} {fs : List OT → Option (List Dat)}
/-- + of ints, texts, lists -/
def sumD : Dat → Dat → Option Dat
  | .lst xs, .lst ys => if xs.length + ys.length ≤ 16000000 then some (.lst (xs ++ ys)) else none
  | x, y => addD x y
theorem rd_add : RD k (fun x y H Q => (rI0 fun i j => .int (i + j)) x y H Q ∨ ∃ i j, x = .str i ∧ y = .str j ∧ i.length + j.length ≤ sizeLine ∧ Q (.str (i ++ j)) H) addD := fun B H x y d v u Q hs rx ry e q => by
  unfold addD at e
  split at e
  · rename_i i j
    cases e
    simp only [Rep] at rx ry
    subst rx ry
    exact .inl ⟨i, j, rfl, rfl, q _ B H .refl (by simp only [Rep])⟩
  · rename_i i j
    split at e
    · rename_i hl
      cases e
      simp only [Rep] at rx ry
      subst rx ry
      exact .inr ⟨i, j, rfl, rfl, sl16 hl, q _ B H .refl (by simp only [Rep])⟩
    · cases e
  · cases e
theorem d_sum (hk : X.K = k.K) (ha : PE X a (tD k fa)) (hb : PE X b (tD k fb)) : PE X (.BinOp a .Add b pos) (tD k (bin sumD fa fb)) := d_op ((hk ▸ op_catR : OpR X (binaryOp .Add) (rCatR k.K)).or (op_add.or op_add_str)) (fun B H x y d v u Q hs rx ry e q => by
  unfold sumD at e
  split at e
  · rename_i xs ys
    split at e
    · rename_i hl
      cases e
      simp only [Rep] at rx ry
      obtain ⟨p, vs, rfl, h1, h2⟩ := rx
      obtain ⟨p', us, rfl, h3, h4⟩ := ry
      refine .inl ⟨p, p', vs, us, rfl, rfl, sqR hs h1, sqR hs h3, by rw [← h2.length, ← h4.length]; exact sl16 hl, fun q1 hq => q _ _ _ (.new .refl hq) ?_⟩
      simp only [Rep]
      exact ⟨q1, vs ++ us, rfl, .of upd_same, (h2.append h4).mono (same_new hs hq)⟩
    · cases e
  · exact .inr (rd_add B H x y d v u Q hs rx ry e q)) ha hb
/-- * of ints, a list by an int -/
def prdD : Dat → Dat → Option Dat
  | .lst xs, .int n => if -(2 ^ 63) ≤ n ∧ n < 2 ^ 63 ∧ xs.length * n.toNat ≤ 16000000 then some (.lst (List.replicate n.toNat xs).flatten) else none
  | x, y => mulD x y
theorem d_prd (hk : X.K = k.K) (ha : PE X a (tD k fa)) (hb : PE X b (tD k fb)) : PE X (.BinOp a .Mult b pos) (tD k (bin prdD fa fb)) := d_op ((hk ▸ op_repR : OpR X (binaryOp .Mult) (rRepR k.K)).or op_mulA) (fun B H x y d v u Q hs rx ry e q => by
  unfold prdD at e
  split at e
  · rename_i xs n
    split at e
    · rename_i hl
      cases e
      simp only [Rep] at rx ry
      obtain ⟨p, vs, rfl, h1, h2⟩ := rx
      subst ry
      refine .inl ⟨p, n, vs, rfl, rfl, sqR hs h1, hl.1, hl.2.1, by rw [← h2.length]; exact sl16 hl.2.2, fun q1 hq => q _ _ _ (.new .refl hq) ?_⟩
      simp only [Rep]
      exact ⟨q1, _, rfl, .of upd_same, (h2.rep n.toNat).mono (same_new hs hq)⟩
    · cases e
  · unfold mulD at e
    split at e
    · split at e
      · rename_i hc
        cases e
        simp only [Rep] at rx ry
        subst rx ry
        exact .inr ⟨_, _, rfl, rfl, hc, q _ B H .refl (by simp only [Rep])⟩
      · cases e
    · cases e) ha hb
@[simp] def negD (f : List OT → Option Dat) : List OT → Option Dat := fun e => match f e with
  | some (.int i) => some (.int (-i))
  | _ => none
theorem d_neg (ha : PE X a (tD k fa)) : PE X (.UnaryOp .USub a pos) (tD k (negD fa)) := pe_imp (pe_un un_neg ha) fun σ H Q ⟨G, B, w, env, d, S, h, q⟩ => by
  unfold negD at h
  split at h
  · rename_i i e1
    cases h
    refine ⟨G, B, w, env, _, S, e1, fun v B1 H1 S1 m r => ?_⟩
    simp only [Rep] at r
    exact ⟨i, r, q _ B1 H1 S1 m (by simp only [Rep])⟩
  · cases h
/-- xs[::-1] -/
def revF (f : List OT → Option Dat) : List OT → Option OT := fun e => match f e with
  | some (.lst xs) => some (.lst (xs.reverse.map .sh))
  | _ => none
theorem Reps.rev {B : Hp} : ∀ {ds : List Dat} {vs : List V}, Reps k B ds vs → Reps k B ds.reverse vs.reverse
  | [], vs, h => by
    simp only [Reps] at h
    subst h
    exact .nil
  | d :: ds, vs, h => by
    simp only [Reps] at h
    obtain ⟨v, r, rfl, h1, h2⟩ := h
    rw [List.reverse_cons, List.reverse_cons]
    exact (Reps.rev h2).append (.one h1)
theorem f_rev {kk : Nat} {p1 p2 p3 : Pos} (hk : X.K = k.K) (ha : PE X a (tD k fa)) : PE X (.Subscript a (.Slice none none (some (.UnaryOp .USub (.Constant (.int 1) kk p1) p2)) p3) pos) (tF k (revF fa)) := pe_imp (pe_revL ha) fun σ H Q ⟨G, B, w, env, d, S, h, q⟩ => by
  unfold revF at h
  split at h
  · rename_i xs e1
    cases h
    refine ⟨G, B, w, env, _, S, e1, fun v B1 H1 S1 m r => ?_⟩
    simp only [Rep] at r
    obtain ⟨p, vs, rfl, h1, h2⟩ := r
    refine ⟨p, vs, rfl, hk ▸ sqR S1.bh h1, fun p' hp => ?_⟩
    obtain ⟨S2, T2⟩ := lst_new S1 hp h2.rev
    exact q _ _ _ _ S2 T2 (m.trans ⟨.refl _, same_newH hp⟩)
  · cases h
/-- 0 <= x < n and its kin -/
def chnD (g g' : Dat → Dat → Option Dat) (fa fb fc : List OT → Option Dat) : List OT → Option Dat := fun e => match fa e with
  | none => none
  | some x => match fb e with
    | none => none
    | some y => match g x y with
      | some (.bl false) => some (.bl false)
      | some (.bl true) => match fc e with
        | none => none
        | some z => g' y z
      | _ => none
end
end DL
namespace DL
open PySem L2 PyProof.Rows PySem.Spec
section
variable {P : Program} {w : World} {K : PySem.W.Frag} {mg : Str → Option Value} {base : Heap} {k : KC} {W : WX}
theorem body_end {N ps : List Str} {g : List OT → Option Out} {X : Cx} {body : List Stmt} {H : Hp} {vs : List V} {Q : VK} {E : XK} (hn : ps.length ≤ N.length) (hb : PSs X body (tS k W g)) (h : spP k ps.length (fnD ps.length N.length g) vs H Q E) :
    tS k W g { nx := fun _ H' => Q .non H', rt := Q } (L2.start N vs) H := by
  obtain ⟨B, ds, o, hs, r, hl, hf, q⟩ := h
  unfold fnD at hf
  rw [if_pos hl] at hf
  have S0 := start_sta (N := N) hs r (by omega)
  rw [hl] at S0
  have hH : ∀ {B' H' : Hp} {w' : WM} {σ' : L2.St} {e' : List OT}, Sta k ⟨H, B, fun _ => False⟩ B' H' w' σ' e' → Same B B' → Same H H' := fun {B' H' w' σ' e'} S1 m a u hu => by
    cases hb' : B a with
    | none => exact ((S1.fr a hb' (show H a ≠ none by rw [hu]; exact fun z => nomatch z) (fun z => z)).2.1).trans hu
    | some u' =>
      have z := hs a u' hb'
      rw [hu] at z
      cases z
      exact S1.bh a u (m a u hb')
  split at hf
  · rename_i o' e' hg
    cases hf
    refine ⟨_, B, _, _, _, S0, hg, fun v σ' B' H' w' w1 S1 T m => ?_⟩
    refine q v B' H' w1 m S1.bh (hH S1 m) (fun a h1 h2 => (S1.fr a h1 h2 (fun z => z)).1) (fun a ha => ?_) T.rep
    obtain ⟨x1, x2, x3, x4⟩ := T.dis a ha
    refine ⟨x2, ?_, x3⟩
    cases hh : H a with
    | none => rfl
    | some u =>
      cases hb' : B a with
      | none => exact (x4 hb' (by show H a ≠ none; rw [hh]; exact fun z => nomatch z)).elim
      | some u' =>
        rw [m a u' hb'] at x2
        cases x2
  · rename_i e' hg
    cases hf
    exact ⟨_, B, _, _, _, S0, hg, fun σ' B' H' w' S1 m => q .non B' H' (fun _ => none) m S1.bh (hH S1 m) (fun a h1 h2 => (S1.fr a h1 h2 (fun z => z)).1) (fun a ha => absurd rfl ha) (by simp only [ORep, Rep])⟩
  · cases hf
/-- a def with defaults -/
theorem okDD {x qual : Str} {st : Stmt} {dvs : List V} {f : Addr} {fd : FuncData} {N ps : List Str} {j : Nat} {g : List OT → Option Out} (F : FunD K x qual (defArgs st) (defBody st) (defScope st) dvs [] f fd) (S : FnScope N ps (defScope st)) (hn : ps.length ≤ N.length)
    (hb : ∀ (cdv : Value) (A : Around) (outer : List Env) (s : Shared) (H : Hp) (E : XK), Room j (A.deeper (envOfC qual (defScope st) s.heap.objs.size f cdv)) → PSs (cxOf CX0 P w K mg base N qual (defScope st) f cdv A outer s H E).nox (defBody st) (tS k nW g)) :
    FnOk P w K mg base CX0 (j + 1) f fd ps (spP k ps.length (fnD ps.length N.length g)) := by
  refine F.ok S (fun vs H Q E h => ?_) (fun cdv A outer s H vs Q E hr h => ?_)
  · obtain ⟨B, ds, o, _, r, hl, _⟩ := h
    rw [← r.length, hl]
  · exact ⟨_, (hb cdv A outer s H E hr).nox, body_end hn (hb cdv A outer s H E hr) h⟩

theorem okN {x qual : Str} {st : Stmt} {f : Addr} {fd : FuncData} {N ps : List Str} {j n m : Nat} {g : List OT → Option Out} (F : Fun K x qual st f fd) (S : FnScope N ps (defScope st)) (h1 : ps.length = n) (h2 : N.length = m) (hn : n ≤ m)
    (hb : ∀ (cdv : Value) (A : Around) (outer : List Env) (s : Shared) (H : Hp) (E : XK), Room j (A.deeper (envOfC qual (defScope st) s.heap.objs.size f cdv)) → PSs (cxOf CX0 P w K mg base N qual (defScope st) f cdv A outer s H E).nox (defBody st) (tS k nW g)) :
    FnOk P w K mg base CX0 (j + 1) f fd ps (spP k n (fnD n m g)) := by
  subst h1 h2
  exact okD F S hn hb
theorem okND {x qual : Str} {st : Stmt} {dvs : List V} {f : Addr} {fd : FuncData} {N ps : List Str} {j n m : Nat} {g : List OT → Option Out} (F : FunD K x qual (defArgs st) (defBody st) (defScope st) dvs [] f fd) (S : FnScope N ps (defScope st)) (h1 : ps.length = n) (h2 : N.length = m) (hn : n ≤ m)
    (hb : ∀ (cdv : Value) (A : Around) (outer : List Env) (s : Shared) (H : Hp) (E : XK), Room j (A.deeper (envOfC qual (defScope st) s.heap.objs.size f cdv)) → PSs (cxOf CX0 P w K mg base N qual (defScope st) f cdv A outer s H E).nox (defBody st) (tS k nW g)) :
    FnOk P w K mg base CX0 (j + 1) f fd ps (spP k n (fnD n m g)) := by
  subst h1 h2
  exact okDD F S hn hb
theorem Fn.mkD {j n : Nat} {x : Str} {f f' : List Dat → Option OT} {fa : Addr} {fd : FuncData} {ps : List Str} {dvs : List V} {dds : List Dat} (F : FnOk P w K mg base CX0 j fa fd ps (spP k ps.length f)) (hm : mg x = some (.ref fa)) (hk : PySem.W.keepIn K (.ref fa) = true) (hb : ∃ ds, Vals dvs ds ∧ Binds K fd ps ds)
    (hd : ∀ B, Reps k B dds dvs) (hn : n + dds.length = ps.length) (hf : ∀ ds, f' ds = f (ds ++ dds)) : Fn P w K mg base k j x n f' := by
  obtain ⟨us, hv, hb⟩ := hb
  exact ⟨fa, fd, ps, dvs, us, dds, ps.length, f, F, hm, hk, hb, hv, hd, hn, fun ds _ => hf ds⟩
end
end DL
/-! Exceptions over data: raise, calls that raise, try. -/
namespace DL
open PySem L2 PySem.Spec PyProof.Rows
/-- a def's end -/
inductive Res where
  | ok (o : OT)
  | ex (c : String) (ns : List Str) (xs : List Dat)
def spX (k : KC) (n : Nat) (f : List Dat → Option Res) : Sp := fun vs H Q E => ∃ B ds r, Same B H ∧ Reps k B ds vs ∧ ds.length = n ∧ f ds = some r ∧
  match r with
  | .ok o => ∀ v B' H' w, Same B B' → Same B' H' → Same H H' → (∀ a, B a = none → H a ≠ none → B' a = none) → (∀ a, w a ≠ none → B' a = none ∧ H a = none ∧ H' a ≠ none) → ORep k B' H' w [] o v → Q v H'
  | .ex c ns xs => ∀ cls d B' H', Same B B' → Same B' H' → Same H H' → (∀ a, B a = none → H a ≠ none → B' a = none) → XRep k B' c ns xs cls d → E cls d H'
def fnX (n N : Nat) (g : List OT → Option Out) : List Dat → Option Res := fun ds => if ds.length = n then
    match g (ds.map .sh ++ List.replicate (N - n) .un) with
    | some (.rt o _) => some (.ok o)
    | some (.nx _) => some (.ok (.sh .non))
    | some (.ex c ns xs _) => some (.ex c ns xs)
    | _ => none
  else none
/-- .. where nothing is raised -/
def okOf (f : List Dat → Option Res) : List Dat → Option OT := fun ds => match f ds with
  | some (.ok o) => some o
  | _ => none
section
variable {k : KC} {G : Gh} {B H : Hp} {w : WM} {σ : L2.St} {env : List OT}
theorem sta_after {B' H' : Hp} (S1 : Sta k G B H w σ env) (m1 : Same B B') (m2 : Same B' H') (m3 : Same H H') (m4 : ∀ a, B a = none → H a ≠ none → B' a = none) : Sta k G B' H' w σ env := ⟨m2, S1.b0.trans m1, fun a h1 h2 h3 => by
      obtain ⟨x, y, z⟩ := S1.fr a h1 h2 h3
      have hh : H a ≠ none := by rw [y]; exact h2
      refine ⟨m4 a x hh, ?_, z⟩
      rw [← y]
      cases u : H a with
      | none => exact absurd u hh
      | some u' => exact m3 a u' u, fun a h => m4 a (S1.wb a h) (S1.wh a h), (fun a h => by
      cases u : H a with
      | none => exact absurd u (S1.wh a h)
      | some u' =>
        rw [m3 a u' u]
        exact fun z => by cases z), S1.len, fun i o h => by
      rcases S1.sl i o h with e | ⟨u, hu, r'⟩
      · exact .inl e
      · refine .inr ⟨u, hu, r'.frame m1 fun p ρ e => ⟨e, ?_⟩⟩
        cases u : H p with
        | none => exact absurd u (S1.wh p (by rw [e]; exact fun z => nomatch z))
        | some u' => exact m3 p u' u⟩
theorem callX_core {n : Nat} {dvs : List V} {dds : List Dat} {m : Nat} {f0 : List Dat → Option Res} {ds : List Dat} {vs : List V} {r : Res} {Q : VK} {E : XK}
    (hdd : ∀ B, Reps k B dds dvs) (hm : n + dds.length = m) (hl : ds.length = n) (hf : f0 (ds ++ dds) = some r) (S1 : Sta k G B H w σ env) (r1 : Reps k B ds vs)
    (qo : ∀ o, r = .ok o → ∀ v B' H' w1, Sta k G B' H' w σ env → Vt k G B' H' w w1 o v → Mv B H B' H' → Q v H')
    (qe : ∀ c ns xs, r = .ex c ns xs → ∀ cls d B' H', Sta k G B' H' w σ env → Mv B H B' H' → XRep k B' c ns xs cls d → E cls d H') : spX k m f0 (vs ++ dvs) H Q E := by
  refine ⟨B, ds ++ dds, r, S1.bh, r1.append (hdd B), by rw [List.length_append, hl, hm], hf, ?_⟩
  cases r with
  | ok o =>
    intro v B' H' w1 m1 m2 m3 m4 m5 r
    have SS := sta_after S1 m1 m2 m3 m4
    refine qo o rfl v B' H' w1 SS ⟨fun a ha => ?_, r⟩ ⟨m1, m3⟩
    obtain ⟨x1, x2, x3⟩ := m5 a ha
    have nn := S1.nob x2
    exact ⟨nn.1, x1, x3, nn.2.2⟩
  | ex c ns xs =>
    intro cls d B' H' m1 m2 m3 m4 x
    exact qe c ns xs rfl cls d B' H' (sta_after S1 m1 m2 m3 m4) ⟨m1, m3⟩ x
end
section
variable {P : Program} {w : World} {K : PySem.W.Frag} {mg : Str → Option Value} {base : Heap} {k : KC}
/-- a def that may raise -/
structure FnX (P : Program) (w : World) (K : PySem.W.Frag) (mg : Str → Option Value) (base : Heap) (k : KC) (j : Nat) (x : Str) (n : Nat) (f : List Dat → Option Res) : Prop where
  ex : ∃ (fa : Addr) (fd : FuncData) (ps : List Str) (dvs : List V) (dus : List Value) (dds : List Dat) (m : Nat) (f0 : List Dat → Option Res), FnOk P w K mg base (L2.CX P w) j fa fd ps (spX k m f0) ∧ mg x = some (.ref fa) ∧ PySem.W.keepIn K (.ref fa) = true ∧ Binds K fd ps dus ∧ Vals dvs dus ∧
    (∀ B, Reps k B dds dvs) ∧ n + dds.length = m ∧ ∀ ds, ds.length = n → f ds = f0 (ds ++ dds)
theorem FnX.mono {j j' n : Nat} {x : Str} {f : List Dat → Option Res} (F : FnX P w K mg base k j x n f) (h : j ≤ j') : FnX P w K mg base k j' x n f := by
  obtain ⟨fa, fd, ps, dvs, dus, dds, m, f0, F, r⟩ := F.ex
  exact ⟨fa, fd, ps, dvs, dus, dds, m, f0, F.mono h, r⟩
theorem FnX.mk0 {j : Nat} {x : Str} {f : List Dat → Option Res} {fa : Addr} {fd : FuncData} {ps : List Str} (F : FnOk P w K mg base (L2.CX P w) j fa fd ps (spX k ps.length f)) (hm : mg x = some (.ref fa)) (hk : PySem.W.keepIn K (.ref fa) = true) (hb : Binds K fd ps []) : FnX P w K mg base k j x ps.length f :=
  ⟨fa, fd, ps, [], [], [], ps.length, f, F, hm, hk, hb, .nil, fun _ => .nil, rfl, fun ds _ => by rw [List.append_nil]⟩
theorem FnX.mkD {j n : Nat} {x : Str} {f f' : List Dat → Option Res} {fa : Addr} {fd : FuncData} {ps : List Str} {dvs : List V} {dds : List Dat} (F : FnOk P w K mg base (L2.CX P w) j fa fd ps (spX k ps.length f)) (hm : mg x = some (.ref fa)) (hk : PySem.W.keepIn K (.ref fa) = true) (hb : ∃ ds, Vals dvs ds ∧ Binds K fd ps ds)
    (hd : ∀ B, Reps k B dds dvs) (hn : n + dds.length = ps.length) (hf : ∀ ds, f' ds = f (ds ++ dds)) : FnX P w K mg base k j x n f' := by
  obtain ⟨us, hv, hb⟩ := hb
  exact ⟨fa, fd, ps, dvs, us, dds, ps.length, f, F, hm, hk, hb, hv, hd, hn, fun ds _ => hf ds⟩
/-- .. at arguments at which it raises nothing -/
theorem fnok_ok {j m : Nat} {fa : Addr} {fd : FuncData} {ps : List Str} {f : List Dat → Option Res} (F : FnOk P w K mg base (L2.CX P w) j fa fd ps (spX k m f)) : FnOk P w K mg base CX0 j fa fd ps (spP k m (okOf f)) := by
  have sub : ∀ {vs : List V} {H : Hp} {Q : VK} {E : XK}, spP k m (okOf f) vs H Q E → spX k m f vs H Q fun _ _ _ => False := fun {vs H Q E} ⟨B, ds, o, h1, h2, h3, h4, h5⟩ => by
    unfold okOf at h4
    split at h4
    · rename_i o' e
      cases h4
      exact ⟨B, ds, .ok o, h1, h2, h3, e, h5⟩
    · cases h4
  refine ⟨fun vs H Q E h => F.len vs H Q _ (sub h), fun A outer s H args us vs Q E hr he hb hv hs => ?_⟩
  refine codeAny_mono (F.run A outer s H args us vs Q _ hr he hb hv (sub hs)) fun r s' q => ?_
  cases r with
  | ok fl => cases fl <;> exact q
  | error e =>
    obtain ⟨_, _, _, _, _, _, _, _, _, _, _, _, z⟩ := q
    exact z.elim
theorem FnX.fn {j n : Nat} {x : Str} {f : List Dat → Option Res} (F : FnX P w K mg base k j x n f) : Fn P w K mg base k j x n (okOf f) := by
  obtain ⟨fa, fd, ps, dvs, dus, dds, m, f0, F, r1, r2, r3, r4, r5, r6, r7⟩ := F.ex
  exact ⟨fa, fd, ps, dvs, dus, dds, m, okOf f0, fnok_ok F, r1, r2, r3, r4, r5, r6, fun ds h => by unfold okOf; rw [r7 ds h]⟩
/-- the end of a body -/
theorem bodyX_end {N ps : List Str} {g : List OT → Option Out} {H : Hp} {vs : List V} {Q : VK} {E : XK} (hn : ps.length ≤ N.length) (h : spX k ps.length (fnX ps.length N.length g) vs H Q E) :
    tS k (fun cls d _ H' => E cls d H') g { nx := fun _ H' => Q .non H', rt := Q } (L2.start N vs) H := by
  obtain ⟨B, ds, r, hs, rr, hl, hf, q⟩ := h
  unfold fnX at hf
  rw [if_pos hl] at hf
  have S0 := start_sta (N := N) hs rr (by omega)
  rw [hl] at S0
  have hH : ∀ {B' H' : Hp} {w' : WM} {σ' : L2.St} {e' : List OT}, Sta k ⟨H, B, fun _ => False⟩ B' H' w' σ' e' → Same B B' → Same H H' := fun {B' H' w' σ' e'} S1 m a u hu => by
    cases hb' : B a with
    | none => exact ((S1.fr a hb' (show H a ≠ none by rw [hu]; exact fun z => nomatch z) (fun z => z)).2.1).trans hu
    | some u' =>
      have z := hs a u' hb'
      rw [hu] at z
      cases z
      exact S1.bh a u (m a u hb')
  split at hf
  · rename_i o' e' hg
    cases hf
    refine ⟨_, B, _, _, _, S0, hg, fun v σ' B' H' w' w1 S1 T m => ?_⟩
    refine q v B' H' w1 m S1.bh (hH S1 m) (fun a h1 h2 => (S1.fr a h1 h2 (fun z => z)).1) (fun a ha => ?_) T.rep
    obtain ⟨x1, x2, x3, x4⟩ := T.dis a ha
    refine ⟨x2, ?_, x3⟩
    cases hh : H a with
    | none => rfl
    | some u =>
      cases hb' : B a with
      | none => exact (x4 hb' (by show H a ≠ none; rw [hh]; exact fun z => nomatch z)).elim
      | some u' =>
        rw [m a u' hb'] at x2
        cases x2
  · rename_i e' hg
    cases hf
    exact ⟨_, B, _, _, _, S0, hg, fun σ' B' H' w' S1 m => q .non B' H' (fun _ => none) m S1.bh (hH S1 m) (fun a h1 h2 => (S1.fr a h1 h2 (fun z => z)).1) (fun a ha => absurd rfl ha) (by simp only [ORep, Rep])⟩
  · rename_i c ns xs e' hg
    cases hf
    exact ⟨_, B, _, _, _, S0, hg, fun cls d σ' B' H' w' S1 m x => q cls d B' H' m S1.bh (hH S1 m) (fun a h1 h2 => (S1.fr a h1 h2 (fun z => z)).1) x⟩
  · cases hf
/-- what the body of a def that may raise is derived in -/
def BodyX (P : Program) (w : World) (K : PySem.W.Frag) (mg : Str → Option Value) (base : Heap) (k : KC) (N : List Str) (qual : Str) (scope : Scope) (body : List Stmt) (f : Addr) (j : Nat) (g : List OT → Option Out) : Prop :=
  ∀ (cdv : Value) (A : Around) (outer : List Env) (s : Shared) (H : Hp) (E : XK) (W : WX), Room j (A.deeper (envOfC qual scope s.heap.objs.size f cdv)) →
    Takes (cxOf (L2.CX P w) P w K mg base N qual scope f cdv A outer s H E) W → PassesOwn (model P w) (cxOf (L2.CX P w) P w K mg base N qual scope f cdv A outer s H E).A (cxOf (L2.CX P w) P w K mg base N qual scope f cdv A outer s H E).env (cxOf (L2.CX P w) P w K mg base N qual scope f cdv A outer s H E).xe →
    PSs (cxOf (L2.CX P w) P w K mg base N qual scope f cdv A outer s H E) body (tS k W g)
theorem okX {x qual : Str} {st : Stmt} {f : Addr} {fd : FuncData} {N ps : List Str} {j n m : Nat} {g : List OT → Option Out} (F : Fun K x qual st f fd) (S : FnScope N ps (defScope st)) (h1 : ps.length = n) (h2 : N.length = m) (hn : n ≤ m)
    (hb : BodyX P w K mg base k N qual (defScope st) (defBody st) f j g) : FnOk P w K mg base (L2.CX P w) (j + 1) f fd ps (spX k n (fnX n m g)) := by
  subst h1 h2
  refine F.okX S (fun vs H Q E h => ?_) (fun cdv A outer s H vs Q E hr h => ?_)
  · obtain ⟨B, ds, o, _, r, hl, _⟩ := h
    rw [← r.length, hl]
  · exact ⟨_, hb cdv A outer s H E _ hr (takes_of rfl rfl rfl rfl) (passes_of rfl), bodyX_end hn h⟩
theorem okXD {x qual : Str} {st : Stmt} {dvs : List V} {f : Addr} {fd : FuncData} {N ps : List Str} {j n m : Nat} {g : List OT → Option Out} (F : FunD K x qual (defArgs st) (defBody st) (defScope st) dvs [] f fd) (S : FnScope N ps (defScope st)) (h1 : ps.length = n) (h2 : N.length = m) (hn : n ≤ m)
    (hb : BodyX P w K mg base k N qual (defScope st) (defBody st) f j g) : FnOk P w K mg base (L2.CX P w) (j + 1) f fd ps (spX k n (fnX n m g)) := by
  subst h1 h2
  refine F.ok S (fun vs H Q E h => ?_) (fun cdv A outer s H vs Q E hr h => ?_)
  · obtain ⟨B, ds, o, _, r, hl, _⟩ := h
    rw [← r.length, hl]
  · exact ⟨_, hb cdv A outer s H E _ hr (takes_of rfl rfl rfl rfl) (passes_of rfl), bodyX_end hn h⟩
end
/-! ### calls that may raise, as statements -/
section
variable {X : Cx} {k : KC} {W : WX} {p0 pos : Pos} {e : Expr} {es : List Expr} {fs : List OT → Option (List Dat)}
theorem run_fnSD {kk : Nat} {f : Addr} {fd : FuncData} {ps : List Str} {sp : Sp} {E : L2.St → XK} {ds : List Value} {dvs : List V} {pins : List (Addr × Obj)} {σ : L2.St} {H : Hp} {s : Shared} {Q : VK} {us : List Value} {vs : List V} (F : FnOk X.prog X.w X.K X.mg X.base (L2.CX X.prog X.w) kk f fd ps sp) (hr : Room kk X.A) (hb : Binds X.K fd ps ds) (hd : Vals dvs ds) (hx : PassesAt (L2.CX X.prog X.w) X σ (E σ))
    (I : Inv X pins σ H s) (r : Vals vs us) (h : sp (vs ++ dvs) H Q (E σ)) : wpAny (model X.prog X.w) X.A (call (.ref f) us) (EP X pins σ Q) X.xe s := by
  have r2 : Vals (vs ++ dvs) (us ++ ds) := r.append hd
  have hl : (us ++ ds).length = ps.length := by rw [← r2.length]; exact F.len _ _ _ _ h
  refine wpAny_call (codeAny_mono (F.run X.A X.stack s H ⟨us, []⟩ (us ++ ds) (vs ++ dvs) Q (E σ) hr I.env0 (hb s us I.kIn hl) r2 h) fun r s' hq => ?_)
  cases r with
  | error e => exact hx pins H s e s' I hq
  | ok fl =>
    cases fl with
    | ret u => exact I.after hq
    | next => exact False.elim hq
    | brk => exact False.elim hq
    | cont => exact False.elim hq
/-- what a call that may raise asks for -/
def tCX (k : KC) (W : WX) (n : Nat) (f : List Dat → Option Res) (fs : List OT → Option (List Dat)) : TE := fun σ H Q => ∃ G B w env ds r, Sta k G B H w σ env ∧ fs env = some ds ∧ ds.length = n ∧ f ds = some r ∧
  (∀ o, r = .ok o → ∀ v B' H' w1, Sta k G B' H' w σ env → Vt k G B' H' w w1 o v → Mv B H B' H' → Q v H') ∧
  (∀ c ns xs, r = .ex c ns xs → ∀ cls d B' H', Sta k G B' H' w σ env → Mv B H B' H' → XRep k B' c ns xs cls d → W cls d σ H')
theorem pe_callX {j n : Nat} {x : Str} {f : List Dat → Option Res} (F : FnX X.prog X.w X.K X.mg X.base k j x n f) (hr : Room j X.A) (tk : Takes X W) (ha : PA X (e :: es) (tA k fs)) (hg : Gl X x := by rfl) (hdb : (x == ("__debug__" : Str)) = false := by decide) (he : starEach (e :: es) X.env = (false, eval e X.env) :: starEach es X.env := by rfl) (hpl : (backTo pos (starEach es X.env)).any (·.1) = false := by rfl) :
    PE X (.Call (.Name x p0) (e :: es) [] pos) (tCX k W n f fs) := by
  obtain ⟨fa, fd, ps, dvs, dus, dds, m, f0, FF, hm, hk, hb, hv, hdd, hnm, hff⟩ := F.ex
  refine ⟨fun pins s σ H Q I h => ?_⟩
  obtain ⟨G, B, w, env, ds, r, S, e1, hl, hf, qo, qe⟩ := h
  refine wpAny_Call_Name_kw (ld_glob I hg hm ?_ hdb)
  refine PySem.W.callWith_K (h₀ := X.base) I.ok.mod.kin hk (thn (ha.run pos pins s σ H (fun vs H1 => ∃ B1, Sta k G B1 H1 w σ env ∧ Mv B H B1 H1 ∧ Reps k B1 ds vs) I ⟨G, B, w, env, ds, S, e1, fun vs B1 H1 S1 m1 r1 => ⟨B1, S1, m1, r1⟩⟩) fun us s1 ⟨vs, H1, I1, rr, B1, S1, m1, r1⟩ => ⟨I1.kIn, ?_⟩) he hpl
  refine run_fnSD (E := WE W) FF hr hb hv (passAt tk σ) I1 rr ?_
  exact callX_core hdd hnm hl (by rw [← hff ds hl]; exact hf) S1 r1 (fun o er v B' H' w1 S2 T m2 => qo o er v B' H' w1 S2 T (m1.trans m2)) fun c ns xs er cls d B' H' S2 m2 x => qe c ns xs er cls d B' H' S2 (m1.trans m2) x
/-- x = f(..) -/
@[simp] def setX (i n : Nat) (f : List Dat → Option Res) (fs : List OT → Option (List Dat)) : List OT → Option Out := fun e => match fs e with
  | none => none
  | some ds => if ds.length = n then match f ds with
      | some (.ok o) => if i < e.length then some (.nx (e.set i o)) else none
      | some (.ex c ns xs) => some (.ex c ns xs e)
      | none => none
    else none
theorem s_setX (i : Nat) {j n : Nat} {x y : Str} {f : List Dat → Option Res} {pos' pos2 : Pos} (hN : X.N.Nodup) (F : FnX X.prog X.w X.K X.mg X.base k j x n f) (hr : Room j X.A) (tk : Takes X W) (ha : PA X (e :: es) (tA k fs)) (hi : X.N[i]? = some y := by rfl) (hx : Loc X.env.scope y := by first | exact .inl rfl | exact .inr rfl)
    (hs : swapsWith (.Call (.Name x p0) (e :: es) [] pos) (some (.Name y pos')) pos2.line X.env = pure false := by rfl) (hf : X.fn y = true ∨ X.env.scope.names.lookup y = some .local := by first | exact .inl rfl | exact .inr rfl | assumption)
    (hg : Gl X x := by rfl) (hdb : (x == ("__debug__" : Str)) = false := by decide) (he : starEach (e :: es) X.env = (false, eval e X.env) :: starEach es X.env := by rfl) (hpl : (backTo pos (starEach es X.env)).any (·.1) = false := by rfl) :
    PS X (.Assign [.Name y pos'] (.Call (.Name x p0) (e :: es) [] pos) pos2) (tS k W (setX i n f fs)) := ps_imp (ps_set hN hi hx (pe_callX F hr tk ha hg hdb he hpl) hs hf) fun D σ H ⟨G, B, w, env, o, S, h, q⟩ => by
  unfold setX at h
  split at h
  · cases h
  · rename_i ds e1
    split at h
    · rename_i hl
      split at h
      · rename_i o' e2
        split at h
        · rename_i hlt
          cases h
          refine ⟨G, B, w, env, ds, _, S, e1, hl, e2, fun o er v B' H' w1 S2 T m2 => ?_, fun c ns xs er => by cases er⟩
          cases er
          exact q _ _ _ _ (S2.setO T hlt) m2.1
        · cases h
      · rename_i c ns xs e2
        cases h
        refine ⟨G, B, w, env, ds, _, S, e1, hl, e2, (fun o er => by cases er), fun c' ns' xs' er cls d B' H' S2 m2 x => ?_⟩
        cases er
        exact q cls d σ B' H' w S2 m2.1 x
      · cases h
    · cases h
/-- return f(..) -/
@[simp] def retX (n : Nat) (f : List Dat → Option Res) (fs : List OT → Option (List Dat)) : List OT → Option Out := fun e => match fs e with
  | none => none
  | some ds => if ds.length = n then match f ds with
      | some (.ok o) => some (.rt o e)
      | some (.ex c ns xs) => some (.ex c ns xs e)
      | none => none
    else none
theorem s_retX {j n : Nat} {x : Str} {f : List Dat → Option Res} {pos2 : Pos} (F : FnX X.prog X.w X.K X.mg X.base k j x n f) (hr : Room j X.A) (tk : Takes X W) (ha : PA X (e :: es) (tA k fs))
    (hg : Gl X x := by rfl) (hdb : (x == ("__debug__" : Str)) = false := by decide) (he : starEach (e :: es) X.env = (false, eval e X.env) :: starEach es X.env := by rfl) (hpl : (backTo pos (starEach es X.env)).any (·.1) = false := by rfl) :
    PS X (.Return (some (.Call (.Name x p0) (e :: es) [] pos)) pos2) (tS k W (retX n f fs)) := ps_imp (ps_ret (pe_callX F hr tk ha hg hdb he hpl)) fun D σ H ⟨G, B, w, env, o, S, h, q⟩ => by
  unfold retX at h
  split at h
  · cases h
  · rename_i ds e1
    split at h
    · rename_i hl
      split at h
      · rename_i o' e2
        cases h
        refine ⟨G, B, w, env, ds, _, S, e1, hl, e2, fun o er v B' H' w1 S2 T m2 => ?_, fun c ns xs er => by cases er⟩
        cases er
        exact q _ _ _ _ _ _ S2 T m2.1
      · rename_i c ns xs e2
        cases h
        refine ⟨G, B, w, env, ds, _, S, e1, hl, e2, (fun o er => by cases er), fun c' ns' xs' er cls d B' H' S2 m2 x => ?_⟩
        cases er
        exact q cls d σ B' H' w S2 m2.1 x
      · cases h
    · cases h
/-- f(..) for its own sake -/
@[simp] def dropX (n : Nat) (f : List Dat → Option Res) (fs : List OT → Option (List Dat)) : List OT → Option Out := fun e => match fs e with
  | none => none
  | some ds => if ds.length = n then match f ds with
      | some (.ok _) => some (.nx e)
      | some (.ex c ns xs) => some (.ex c ns xs e)
      | none => none
    else none
theorem s_dropX {j n : Nat} {x : Str} {f : List Dat → Option Res} {pos2 : Pos} (F : FnX X.prog X.w X.K X.mg X.base k j x n f) (hr : Room j X.A) (tk : Takes X W) (ha : PA X (e :: es) (tA k fs)) (hs : swapsWith (.Call (.Name x p0) (e :: es) [] pos) none pos2.line X.env = pure false := by rfl)
    (hg : Gl X x := by rfl) (hdb : (x == ("__debug__" : Str)) = false := by decide) (he : starEach (e :: es) X.env = (false, eval e X.env) :: starEach es X.env := by rfl) (hpl : (backTo pos (starEach es X.env)).any (·.1) = false := by rfl) :
    PS X (.Expr (.Call (.Name x p0) (e :: es) [] pos) pos2) (tS k W (dropX n f fs)) := ps_imp (ps_expr (pe_callX F hr tk ha hg hdb he hpl) hs) fun D σ H ⟨G, B, w, env, o, S, h, q⟩ => by
  unfold dropX at h
  split at h
  · cases h
  · rename_i ds e1
    split at h
    · rename_i hl
      split at h
      · rename_i o' e2
        cases h
        refine ⟨G, B, w, env, ds, _, S, e1, hl, e2, fun o er v B' H' w1 S2 T m2 => ?_, fun c ns xs er => by cases er⟩
        exact q _ _ _ _ S2 m2.1
      · rename_i c ns xs e2
        cases h
        refine ⟨G, B, w, env, ds, _, S, e1, hl, e2, (fun o er => by cases er), fun c' ns' xs' er cls d B' H' S2 m2 x => ?_⟩
        cases er
        exact q cls d σ B' H' w S2 m2.1 x
      · cases h
    · cases h
end
/-! ### raise, try -/
section
variable {X : Cx} {k : KC} {W : WX} {pos : Pos}
/-- a class of exceptions of the text without __init__ -/
structure ExcF (k : KC) (mg : Str → Option Value) (x : Str) (c : String) : Prop where
  g : mg x = some (.ref (k.cl c))
  q : PySem.W.excIn k.K (k.cl c) [Value.type "ValueError", Value.type "Exception", Value.type "BaseException", Value.type "object"] "ValueError.__new__" = true
  kp : PySem.W.keepIn k.K (.ref (k.cl c)) = true
  sb : PySem.W.subIn k.K (.ref (k.cl c)) (.type "BaseException") = some true
  ty : PySem.W.typeIn k.K (.ref (k.cl c)) = some (.type "type")
@[simp] def raiS (c : String) : List OT → Option Out := fun e => some (.ex c [] [] e)
theorem s_raise {x m : Str} {c : String} {j : Nat} {p p2 pos2 : Pos} (hk : X.K = k.K) (hc : X.calm = true) (tk : Takes X W) (F : ExcF k X.mg x c) (hg : Gl X x := by rfl) (hdb : (x == ("__debug__" : Str)) = false := by decide) :
    PS X (.Raise (some (.Call (.Name x p) [.Constant (.str m) j p2] [] pos)) none pos2) (tS k W (raiS c)) :=
  ps_imp (ps_raise hc tk (pmk_own PySem.F.excBase_ValueError (by rw [hk]; exact F.q) F.g (by rw [hk]; exact F.kp) (raises_own (by rw [hk]; exact F.sb) (by rw [hk]; exact F.ty)) hg hdb)) fun D σ H ⟨G, B, w, env, o, S, h, q⟩ => by
    cases h
    exact q _ none σ B H w S (.refl _) ⟨rfl, [], rfl, rfl, .nil⟩
/-- whether an exception of a class is taken by a clause -/
def Subs (k : KC) (cv : Value) (sub : String → Option Bool) : Prop := ∀ c b, sub c = some b → PySem.W.exmOne k.K (.ref (k.cl c)) cv = some b
def unO (i : Nat) : Option Out → Option Out
  | some (.nx e) => some (.nx (e.set i .un))
  | some (.bk e) => some (.bk (e.set i .un))
  | some (.ct e) => some (.ct (e.set i .un))
  | some (.rt o e) => some (.rt o e)
  | _ => none
structure Hand where
  sub : String → Option Bool
  slot : Option Nat
  g : List OT → Option Out
def nexO : Option Out → Option Out
  | some (.ex _ _ _ _) => none
  | o => o
def handS : List Hand → String → List Str → List Dat → List OT → Option Out
  | [], c, ns, xs, e => some (.ex c ns xs e)
  | h :: r, c, ns, xs, e => match h.sub c with
    | none => none
    | some false => handS r c ns xs e
    | some true => match h.slot with
      | none => nexO (h.g e)
      | some i => if i < e.length then unO i (h.g (e.set i (.sh (.exn c ns xs)))) else none
def tryS (g : List OT → Option Out) (hs : List Hand) : List OT → Option Out := fun e => match g e with
  | some (.ex c ns xs e1) => handS hs c ns xs e1
  | o => o
/-- a clause, its class's name and the class -/
inductive HdsD (X : Cx) (k : KC) : List ExceptHandler → List Hand → List (Value × Option Nat × TS) → Prop
  | nil : HdsD X k [] [] []
  | bare {x : Str} {c : Value} {sub : String → Option Bool} {g : List OT → Option Out} {b₀ : Stmt} {suite : List Stmt} {np pos' : Pos} {hds : List ExceptHandler} {hs : List Hand} {l : List (Value × Option Nat × TS)} (hc : Names X x c) (hu : Subs k c sub)
      (hsu : ∀ (a : Addr) (pn : List (Addr × Obj)), PSs (X.suite a pn) (b₀ :: suite) (tS k nW g)) (r : HdsD X k hds hs l) : HdsD X k (.ExceptHandler (some (.Name x np)) none (b₀ :: suite) pos' :: hds) (⟨sub, none, g⟩ :: hs) ((c, none, tS k nW g) :: l)
  | named {x n : Str} {i : Nat} {c : Value} {sub : String → Option Bool} {g : List OT → Option Out} {b₀ : Stmt} {suite : List Stmt} {np pos' : Pos} {hds : List ExceptHandler} {hs : List Hand} {l : List (Value × Option Nat × TS)} (hN : X.N.Nodup) (hi : X.N[i]? = some n) (hln : X.env.kindOf n = some .local) (hc : Names X x c) (hu : Subs k c sub)
      (hsu : ∀ (a : Addr) (pn : List (Addr × Obj)), PSs (X.suite a pn) (b₀ :: suite) (tS k nW g)) (r : HdsD X k hds hs l) : HdsD X k (.ExceptHandler (some (.Name x np)) (some n) (b₀ :: suite) pos' :: hds) (⟨sub, some i, g⟩ :: hs) ((c, some i, tS k nW g) :: l)
theorem HdsD.hdsK {hds : List ExceptHandler} {hs : List Hand} {l : List (Value × Option Nat × TS)} (h : HdsD X k hds hs l) : HdsK X hds l := by
  induction h with
  | nil => exact .nil
  | bare hc hu hsu r ih => exact .bare hc hsu ih
  | named hN hi hln hc hu hsu r ih => exact .named hN hi hln hc hsu ih
/-- the caught exception stays -/
theorem sta_exn {G : Gh} {B H : Hp} {w : WM} {σ : L2.St} {env : List OT} {a : Addr} {c : String} {ns : List Str} {xs : List Dat} {cls : Value} {d : Option Addr} (S : Sta k G B H w σ env) (na : H a = none) (x : XRep k B c ns xs cls d) :
    ∃ B', Sta k G B' (upd H a (KEx cls d a)) w σ env ∧ Same B B' ∧ Rep k B' (.exn c ns xs) (.ref a) := by
  obtain ⟨rfl, vs, hx, hl, hr⟩ := x
  have bn : B a = none := by
    cases e : B a with
    | none => rfl
    | some u =>
      have z := S.bh a u e
      rw [na] at z
      cases z
  have sB : Same B (upd B a (KEx (.ref (k.cl c)) d a)) := fun b u e => by rw [upd_ne fun z => by rw [z, bn] at e; cases e]; exact e
  have sH : Same H (upd H a (KEx (.ref (k.cl c)) d a)) := fun b u e => by rw [upd_ne fun z => by rw [z, na] at e; cases e]; exact e
  refine ⟨upd B a (KEx (.ref (k.cl c)) d a), sta_after S sB (fun b u e => ?_) sH (fun b h1 h2 => ?_), sB, ?_⟩
  · by_cases hb : b = a
    · subst hb
      rw [upd_same] at e ⊢
      exact e
    · rw [upd_ne hb] at e ⊢
      exact S.bh b u e
  · by_cases hb : b = a
    · subst hb
      exact absurd na h2
    · rw [upd_ne hb]
      exact h1
  · simp only [Rep]
    exact ⟨a, d, vs, rfl, upd_same, hx.mono sB, hl, hr.mono sB⟩
theorem sta_un {G : Gh} {B H : Hp} {w : WM} {σ : L2.St} {env : List OT} {i : Nat} (S : Sta k G B H w σ env) : Sta k G B H w (σ.set i none) (env.set i .un) := ⟨S.bh, S.b0, S.fr, S.wb, S.wh, by simpa using S.len, fun j o h => by
    by_cases hj : i = j
    · subst hj
      by_cases hi : i < env.length
      · rw [List.getElem?_set, if_pos rfl, if_pos hi] at h
        cases h
        exact .inl rfl
      · rw [List.getElem?_eq_none (by simpa using hi)] at h
        cases h
    · rw [List.getElem?_set_ne hj] at h
      rcases S.sl j o h with e | ⟨v, hv, r⟩
      · exact .inl e
      · exact .inr ⟨v, by rw [List.getElem?_set_ne hj]; exact hv, r⟩⟩
theorem outK_nex {G : Gh} {B : Hp} {D : Ends} {x : Option Out} {o : Out} (h : nexO x = some o) (q : OutK k W G B D o) : x = some o ∧ OutK k nW G B D o := by
  unfold nexO at h
  split at h
  · cases h
  · rename_i hn
    subst h
    cases o with
    | nx e => exact ⟨rfl, q⟩
    | bk e => exact ⟨rfl, q⟩
    | ct e => exact ⟨rfl, q⟩
    | rt o e => exact ⟨rfl, q⟩
    | ex c ns xs e => exact absurd rfl (hn c ns xs e)
theorem s_try {body : List Stmt} {h₀ : ExceptHandler} {hds : List ExceptHandler} {hs : List Hand} {l : List (Value × Option Nat × TS)} {g : List OT → Option Out} (hk : X.K = k.K) (tk : Takes X W)
    (hb : ∀ (W' : WX) (pn : List (Addr × Obj)) (xe : Value → Shared → Prop), Takes (X.tr pn xe) W' → PassesOwn (model X.prog X.w) X.A X.env xe → PSs (X.tr pn xe) body (tS k W' g))
    (hh : HdsD X k (h₀ :: hds) hs l) (hst : X.stack = X.env :: X.outer := by rfl) (hf : X.env.frame = some X.env.locals := by rfl) (hex : X.ex = [] := by rfl) : PS X (.Try body (h₀ :: hds) [] [] pos) (tS k W (tryS g hs)) :=
  ps_imp (ps_tryK hst hf hex (tb := fun W' => tS k W' g) tk hb hh.hdsK) fun D σ H ⟨G, B, w, env, o, S, h, q⟩ => by
    unfold tryS at h
    split at h
    · rename_i c ns xs e1 hg
      refine ⟨G, B, w, env, _, S, hg, fun cls d σ' B' H' w' S' m x => ?_⟩
      have go : ∀ {hds' : List ExceptHandler} {hs' : List Hand} {l' : List (Value × Option Nat × TS)}, HdsD X k hds' hs' l' → handS hs' c ns xs e1 = some o → wK X.K W D l' cls d σ' H' := by
        intro hds' hs' l' hd
        induction hd with
        | nil =>
          intro h
          cases h
          exact q cls d σ' B' H' w' S' m x
        | @bare xx cv sub g2 b₀ suite np pos' hds2 hs2 l2 hc hu hsu r ih =>
          intro h
          simp only [handS] at h
          cases e : sub c with
          | none => simp [e] at h
          | some b =>
            refine ⟨b, by rw [hk, x.1]; exact hu c b e, fun hb a na => ?_, fun hb => ?_⟩
            · subst hb
              simp only [e] at h
              obtain ⟨B2, S2, m2, _⟩ := sta_exn S' na x
              obtain ⟨h1, q1⟩ := outK_nex h q
              exact ⟨G, B2, w', e1, o, S2, h1, q1.mono (m.trans m2)⟩
            · subst hb
              simp only [e] at h
              exact ih h
        | @named xx n i cv sub g2 b₀ suite np pos' hds2 hs2 l2 hN hi hln hc hu hsu r ih =>
          intro h
          simp only [handS] at h
          cases e : sub c with
          | none => simp [e] at h
          | some b =>
            refine ⟨b, by rw [hk, x.1]; exact hu c b e, fun hb a na => ?_, fun hb => ?_⟩
            · subst hb
              simp only [e] at h
              split at h
              · rename_i hlt
                obtain ⟨B2, S2, m2, r2⟩ := sta_exn S' na x
                have S3 := S2.set (i := i) r2
                cases e3 : g2 (e1.set i (.sh (.exn c ns xs))) with
                | none => simp [e3, unO] at h
                | some o3 =>
                  refine ⟨G, B2, w', _, o3, S3, e3, ?_⟩
                  rw [e3] at h
                  cases o3 with
                  | nx e4 =>
                    cases h
                    exact fun σ4 B4 H4 w4 S4 m4 => q _ B4 H4 w4 (sta_un S4) ((m.trans m2).trans m4)
                  | bk e4 =>
                    cases h
                    exact fun σ4 B4 H4 w4 S4 m4 => q _ B4 H4 w4 (sta_un S4) ((m.trans m2).trans m4)
                  | ct e4 =>
                    cases h
                    exact fun σ4 B4 H4 w4 S4 m4 => q _ B4 H4 w4 (sta_un S4) ((m.trans m2).trans m4)
                  | rt o4 e4 =>
                    cases h
                    exact fun v σ4 B4 H4 w4 w5 S4 T4 m4 => q v σ4 B4 H4 w4 w5 S4 T4 ((m.trans m2).trans m4)
                  | ex c4 n4 x4 e4 => simp [unO] at h
              · cases h
            · subst hb
              simp only [e] at h
              exact ih h
      exact go hh h
    · rename_i hn
      refine ⟨G, B, w, env, o, S, h, ?_⟩
      cases o with
      | nx e => exact q
      | bk e => exact q
      | ct e => exact q
      | rt o e => exact q
      | ex c ns xs e => exact absurd h (hn c ns xs e)
end
end DL
/-! A caught exception as a thing: isinstance, its fields. -/
namespace DL
open PySem L2 PySem.Spec PyProof.Rows
/-- what a class of exceptions must say, that its instances may be asked -/
structure ExcA (K : PySem.W.Frag) (D : Addr) : Prop where
  cl : (PySem.W.clsIn K D).isSome = true
  ga : PySem.W.findIn K (.ref D) "__getattribute__" = some (some (.builtin "BaseException.__getattribute__"))
  gg : PySem.W.findIn K (.ref D) "__getattr__" = some none
  sb : PySem.W.subIn K (.ref D) (.type "BaseException") = some true
  hd : PySem.W.hasDictIn K D = true
  ca : PySem.W.findIn K (.ref D) "__class__" = some (some (.builtin "object.__class__"))
  mo : PySem.W.mroIn K D (.type "object") = some true
structure ExcG (K : PySem.W.Frag) : Prop where
  hn : PySem.W.specialIn K (.builtin "object.__class__") "__get__" = some (some (.builtin "getset_descriptor.__get__"))
  ht : PySem.W.takesIn K (.builtin "object.__class__") = some true
section
variable {X : Cx} {k : KC} {pos p0 : Pos} {a : Expr} {fa : List OT → Option Dat}
theorem kex_inst {pins : List (Addr × Obj)} {σ : L2.St} {H : Hp} {s : Shared} {p C : Addr} {d : Option Addr} {fs : List (Str × V)} (I : Inv X pins σ H s) (hp : H p = some (KEx (.ref C) d p)) (hx : XD H d fs) : ∃ oe od, PySem.W.InstAt s.heap p oe C od ∧ (∀ dd, d = some dd → od = s.heap.get? dd ∧ od ≠ none) := by
  obtain ⟨⟨oe, vs, e, z, hd⟩, _⟩ := (show ObjOk X.prog X.w H s.heap p (KEx (.ref C) d p) from I.hok p _ hp)
  have nc : PySem.W.notCls oe = true := by
    unfold PySem.W.notCls
    rw [hd]
  cases d with
  | none => exact ⟨oe, none, ⟨e, z.1, nc, by rw [z.2]; trivial⟩, fun dd q => nomatch q⟩
  | some dd =>
    obtain ⟨mA, hns, _⟩ := (show ObjOk X.prog X.w H s.heap dd (.xd fs) from I.hok dd _ hx)
    obtain ⟨od, ho, _⟩ := lookIn_ns hns
    exact ⟨oe, some od, ⟨e, z.1, nc, by rw [z.2]; exact ho⟩, fun d' q => by cases q; exact ⟨ho.symm, fun z => nomatch z⟩⟩
/-- isinstance(e, c) -/
def rIsX (k : KC) : List V → Hp → VK → Prop := fun xs H Q => ∃ (p : Addr) (c : String) (d : Option Addr) (fs : List (Str × V)) (cv : V) (u : Value) (b : Bool), xs = [.ref p, cv] ∧ ClsV cv u ∧ H p = some (KEx (.ref (k.cl c)) d p) ∧ XD H d fs ∧ ExcA k.K (k.cl c) ∧ ExcG k.K ∧ PySem.W.kitOne k.K (.ref (k.cl c)) u = some b ∧ Q (.bl b) H
theorem call_isX (hk : X.K = k.K) : CallR X (.builtin "isinstance") (rIsX k) := by
  intro pins s σ H xs us Q I r h
  obtain ⟨p, c, d, fs, cv, u, b, rfl, kv, hp, hx, A, G, e, q⟩ := h
  obtain ⟨u1, u2, rfl, r1, r2⟩ := vals2 r
  cases (show u1 = Value.ref p from r1)
  have e2 := kv.eq r2
  subst e2
  obtain ⟨oe, od, J, _⟩ := kex_inst I hp hx
  exact PySem.W.kia_one (PySem.W.kitx_exc A.cl A.ga A.gg A.sb A.ca G.hn G.ht A.mo) (hk ▸ I.kIn) J e (fun z => nomatch z) fun tk => ⟨.bl b, H, I.tok tk, rfl, q⟩
/-- isinstance(e, (c1, ..)) -/
def rIsXT (k : KC) : List V → Hp → VK → Prop := fun xs H Q => ∃ (p tp : Addr) (c : String) (d : Option Addr) (fs : List (Str × V)) (cs : List V) (ws : List Value) (b : Bool), xs = [.ref p, .ref tp] ∧ H tp = some (.tup cs) ∧ Paired ClsV cs ws ∧ H p = some (KEx (.ref (k.cl c)) d p) ∧ XD H d fs ∧ ExcA k.K (k.cl c) ∧ ExcG k.K ∧ PySem.W.kitAny k.K (.ref (k.cl c)) ws = some b ∧ Q (.bl b) H
theorem call_isXT (hk : X.K = k.K) : CallR X (.builtin "isinstance") (rIsXT k) := by
  intro pins s σ H xs us Q I r h
  obtain ⟨p, tp, c, d, fs, cs, ws, b, rfl, hT, kv, hp, hx, A, G, e, q⟩ := h
  obtain ⟨u1, u2, rfl, r1, r2⟩ := vals2 r
  cases (show u1 = Value.ref p from r1)
  cases (show u2 = Value.ref tp from r2)
  obtain ⟨oe, od, J, _⟩ := kex_inst I hp hx
  obtain ⟨_, its, rv, o, h1, h2, n, h3⟩ := (show ObjOk X.prog X.w H s.heap tp (.tup cs) from I.hok tp _ hT)
  have e3 := ClsV.all kv rv
  subst e3
  obtain ⟨oc, od', dt, sl⟩ := o
  simp only at h2 h3
  subst h2 h3
  exact PySem.W.kia_tup (PySem.W.kitx_exc A.cl A.ga A.gg A.sb A.ca G.hn G.ht A.mo) (hk ▸ I.kIn) J h1 e (fun z => nomatch z) fun tk => ⟨.bl b, H, I.tok tk, rfl, q⟩
/-- whether an exception of a class is one of another class (of the built-in or own class u) -/
structure Kit (k : KC) (u : Value) (tab : String → Option Bool) : Prop where
  kit : ∀ c b, tab c = some b → PySem.W.kitOne k.K (.ref (k.cl c)) u = some b
  at_ : ∀ c b, tab c = some b → ExcA k.K (k.cl c)
  gl : ExcG k.K
structure KitT (k : KC) (us : List Value) (tab : String → Option Bool) : Prop where
  kit : ∀ c b, tab c = some b → PySem.W.kitAny k.K (.ref (k.cl c)) us = some b
  at_ : ∀ c b, tab c = some b → ExcA k.K (k.cl c)
  gl : ExcG k.K
@[simp] def isiE (tab : String → Option Bool) (f : List OT → Option Dat) : List OT → Option Dat := fun e => match f e with
  | some (.exn c _ _) => (tab c).map .bl
  | _ => none
theorem isiE_some {tab : String → Option Bool} {e : List OT} {d : Dat} (h : isiE tab fa e = some d) : ∃ c ns xs b, fa e = some (.exn c ns xs) ∧ tab c = some b ∧ d = .bl b := by
  unfold isiE at h
  split at h
  · rename_i c ns xs e1
    cases e2 : tab c with
    | none => simp [e2] at h
    | some b => exact ⟨c, ns, xs, b, e1, e2, by simpa [e2] using h.symm⟩
  · cases h
theorem d_isE0 {T : Str} {cv : V} {u : Value} {tab : String → Option Bool} {p1 : Pos} (hk : X.K = k.K) (hm : X.mg "isinstance" = none) (hc : PE X (.Name T p1) (tC cv)) (cu : ClsV cv u) (ht : Kit k u tab) (ha : PE X a (tD k fa)) (hg : Gl X "isinstance" := by rfl)
    (h1 : starEach [a, .Name T p1] X.env = (false, eval a X.env) :: starEach [.Name T p1] X.env := by rfl) (hpl : (backTo pos (starEach [.Name T p1] X.env)).any (·.1) = false := by rfl) :
    PE X (.Call (.Name "isinstance" p0) [a, .Name T p1] [] pos) (tD k (isiE tab fa)) :=
  pe_imp (pe_callB (call_isX (k := k) hk) hg hm (by decide +kernel) (pa_cons ha (pa_cons hc pa_nil) h1) (by decide) (by decide) h1 hpl) fun σ H Q ⟨G, B, w, env, d, S, h, q⟩ => by
    obtain ⟨c, ns, xs, b, e1, e2, rfl⟩ := isiE_some h
    refine ⟨G, B, w, env, _, S, e1, fun v B1 H1 S1 m r => ?_⟩
    simp only [Rep] at r
    obtain ⟨p, dd, vs, rfl, hp, hx, hl, hr⟩ := r
    exact ⟨p, c, dd, _, cv, u, b, rfl, cu, S1.bh _ _ hp, hx.mono S1.bh, ht.at_ c b e2, ht.gl, ht.kit c b e2, q _ B1 H1 S1 m (by simp only [Rep])⟩
/-- a class of the text -/
theorem d_isE {T : Str} {C : Addr} {tab : String → Option Bool} {p1 : Pos} (hk : X.K = k.K) (hm : X.mg "isinstance" = none) (hT : X.mg T = some (.ref C)) (ht : Kit k (.ref C) tab) (ha : PE X a (tD k fa)) (hgT : Gl X T := by rfl) (hd : (T == ("__debug__" : Str)) = false := by decide) (hg : Gl X "isinstance" := by rfl)
    (h1 : starEach [a, .Name T p1] X.env = (false, eval a X.env) :: starEach [.Name T p1] X.env := by rfl) (hpl : (backTo pos (starEach [.Name T p1] X.env)).any (·.1) = false := by rfl) :
    PE X (.Call (.Name "isinstance" p0) [a, .Name T p1] [] pos) (tD k (isiE tab fa)) := d_isE0 hk hm (pe_glob (v := .ref C) hgT hT rfl hd) (.own C) ht ha hg h1 hpl
/-- a built-in one -/
theorem d_isB {T : Str} {t : String} {tab : String → Option Bool} {p1 : Pos} (hk : X.K = k.K) (hm : X.mg "isinstance" = none) (hmT : X.mg T = none) (hb : bootBuiltins T = some (.type t)) (ht : Kit k (.type t) tab) (ha : PE X a (tD k fa)) (hgT : Gl X T := by rfl) (hn : T ≠ "__name__" := by decide) (hd : (T == ("__debug__" : Str)) = false := by decide) (hg : Gl X "isinstance" := by rfl)
    (h1 : starEach [a, .Name T p1] X.env = (false, eval a X.env) :: starEach [.Name T p1] X.env := by rfl) (hpl : (backTo pos (starEach [.Name T p1] X.env)).any (·.1) = false := by rfl) :
    PE X (.Call (.Name "isinstance" p0) [a, .Name T p1] [] pos) (tD k (isiE tab fa)) := d_isE0 hk hm (pe_bltn (v := .ty t) hgT hmT hb rfl hn hd) (.ty t) ht ha hg h1 hpl
/-- the classes of a tuple -/
def PCs (X : Cx) (es : List Expr) (cs : List V) (us : List Value) : Prop := PA X es (fun _ H Q => Q cs H) ∧ Paired ClsV cs us
theorem pcs_nil : PCs X [] [] [] := ⟨pa_nil, .nil⟩
theorem pcs_own {T : Str} {C : Addr} {p1 : Pos} {es : List Expr} {cs : List V} {us : List Value} (hT : X.mg T = some (.ref C)) (h : PCs X es cs us) (hgT : Gl X T := by rfl) (hd : (T == ("__debug__" : Str)) = false := by decide)
    (h1 : starEach (.Name T p1 :: es) X.env = (false, eval (.Name T p1) X.env) :: starEach es X.env := by rfl) : PCs X (.Name T p1 :: es) (.ref C :: cs) (.ref C :: us) :=
  ⟨pa_imp (pa_cons (pe_glob (v := .ref C) hgT hT rfl hd) h.1 h1) fun σ H Q q => q, .cons (.own C) h.2⟩
theorem d_isET {es : List Expr} {cs : List V} {us : List Value} {tab : String → Option Bool} {x1} {p1 : Pos} (hk : X.K = k.K) (hm : X.mg "isinstance" = none) (hc : PCs X es cs us) (ht : KitT k us tab) (hsz : cs.length ≤ 1000) (ha : PE X a (tD k fa)) (hg : Gl X "isinstance" := by rfl)
    (h1 : starEach [a, .Tuple es x1 p1] X.env = (false, eval a X.env) :: starEach [.Tuple es x1 p1] X.env := by rfl) (hpl : (backTo pos (starEach [.Tuple es x1 p1] X.env)).any (·.1) = false := by rfl) :
    PE X (.Call (.Name "isinstance" p0) [a, .Tuple es x1 p1] [] pos) (tD k (isiE tab fa)) :=
  pe_imp (pe_callB (call_isXT (k := k) hk) hg hm (by decide +kernel) (pa_cons ha (pa_cons (pe_tup hc.1) pa_nil) h1) (by decide) (by decide) h1 hpl) fun σ H Q ⟨G, B, w, env, d, S, h, q⟩ => by
    obtain ⟨c, ns, xs, b, e1, e2, rfl⟩ := isiE_some h
    refine ⟨G, B, w, env, _, S, e1, fun v B1 H1 S1 m r => ?_⟩
    simp only [Rep] at r
    obtain ⟨p, dd, vs, rfl, hp, hx, hl, hr⟩ := r
    refine ⟨by rw [sizeLine_eq]; omega, fun tp hn => ?_⟩
    have S2 := S1.new (o := .tup cs) hn
    exact ⟨p, tp, c, dd, _, cs, us, b, rfl, upd_same, hc.2, S2.bh _ _ (same_new S1.bh hn _ _ hp), (hx.mono (same_new S1.bh hn)).mono S2.bh, ht.at_ c b e2, ht.gl, ht.kit c b e2, q _ _ _ S2 (m.trans ⟨same_new S1.bh hn, same_newH hn⟩) (by simp only [Rep])⟩
/-- e.f -/
@[simp] def exfD (f : Str) (tab : String → Bool) (fa : List OT → Option Dat) : List OT → Option Dat := fun e => match fa e with
  | some (.exn c ns xs) => if tab c = true then (ns.zip xs).lookup f else none
  | _ => none
theorem zip_look {k : KC} {B : Hp} {f : Str} {d : Dat} : ∀ {ns : List Str} {xs : List Dat} {vs : List V}, (ns.zip xs).lookup f = some d → Reps k B xs vs → ∃ v, (ns.zip vs).lookup f = some v ∧ Rep k B d v
  | [], xs, vs, h, r => by simp at h
  | n :: ns, [], vs, h, r => by simp at h
  | n :: ns, x :: xs, vs, h, r => by
    simp only [Reps] at r
    obtain ⟨v, r', rfl, h1, h2⟩ := r
    simp only [List.zip_cons_cons, List.lookup_cons] at h ⊢
    split at h
    · rename_i e
      cases h
      exact ⟨v, rfl, h1⟩
    · exact zip_look h h2
structure Xf (k : KC) (f : Str) (tab : String → Bool) : Prop where
  at_ : ∀ c, tab c = true → ExcA k.K (k.cl c)
  no : ∀ c, tab c = true → PySem.W.findIn k.K (.ref (k.cl c)) f = some none
theorem d_exf {f : Str} {tab : String → Bool} (hk : X.K = k.K) (T : Xf k f tab) (ha : PE X a (tD k fa)) (hb : attributeBase a f X.env (eval a X.env) = eval a X.env := by rfl) : PE X (.Attribute a f pos) (tD k (exfD f tab fa)) := by
  refine ⟨fun pins s σ H Q I h => ?_⟩
  obtain ⟨G, B, w, env, d, S, h, q⟩ := h
  unfold exfD at h
  split at h
  · rename_i c ns xs e1
    split at h
    · rename_i ht
      refine attr_of hb (thn (ha.run pins s σ H _ I ⟨G, B, w, env, _, S, e1, fun v B1 H1 S1 m r => (⟨B1, S1, m, r⟩ : ∃ B1, Sta k G B1 H1 w σ env ∧ Mv B H B1 H1 ∧ Rep k B1 (.exn c ns xs) v)⟩) fun u s1 hh => ?_)
      obtain ⟨v, H1, I1, rv, B1, S1, m, r⟩ := hh
      simp only [Rep] at r
      obtain ⟨p, dd, vs, rfl, hp, hx, hl, hr⟩ := r
      cases (show u = Value.ref p from rv)
      obtain ⟨v, l, rd⟩ := zip_look h hr
      have hx' := hx.mono S1.bh
      have A := T.at_ c ht
      obtain ⟨oe, od, J, jd⟩ := kex_inst I1 (S1.bh _ _ hp) hx'
      cases dd with
      | none =>
        have z : ns.zip vs = [] := hx
        rw [z] at l
        cases l
      | some dd =>
        obtain ⟨jo, jn⟩ := jd dd rfl
        obtain ⟨mA, hns, hrel⟩ := (show ObjOk X.prog X.w H1 s1.heap dd (.xd (ns.zip vs)) from I1.hok dd _ hx')
        obtain ⟨od', ho, hl'⟩ := lookIn_ns hns
        rw [ho] at jo
        subst jo
        obtain ⟨u, hu, ru⟩ := RelO.some_of (v := v) (o := mA f) (by rw [← l]; exact hrel f)
        exact HandSPX.exc_get I1.kIn J (hk ▸ A.ga) (hk ▸ A.gg) (hk ▸ A.sb) (PySem.W.findObj_own (hk ▸ A.hd) (hk ▸ T.no c ht) rfl (by rw [hl', hu])) (handed_of ru) ⟨v, H1, I1.tok _, ru, q v B1 H1 S1 m rd⟩
    · cases h
  · cases h
end
end DL
/-! is True, {} -/
namespace DL
open PySem L2 PySem.Spec PyProof.Rows
section
variable {k : KC} {X : Cx} {pos : Pos} {a b : Expr} {fa fb : List OT → Option Dat}
@[simp] def isBD : Dat → Dat → Option Dat
  | .bl x, .bl y => some (.bl (x == y))
  | _, _ => none
@[simp] def isnBD : Dat → Dat → Option Dat
  | .bl x, .bl y => some (.bl (x != y))
  | _, _ => none
def rIsB : R2 := fun x y H Q => ∃ c d, x = .bl c ∧ y = .bl d ∧ Q (.bl (c == d)) H
def rIsnB : R2 := fun x y H Q => ∃ c d, x = .bl c ∧ y = .bl d ∧ Q (.bl (c != d)) H
theorem op_isB : OpR X (compareOp .Is) rIsB := by
  intro pins s σ H x y v u Q I r1 r2 h
  obtain ⟨c, d, rfl, rfl, q⟩ := h
  cases (show v = Value.bool c from r1)
  cases (show u = Value.bool d from r2)
  exact is_bool ⟨.bl _, H, I, rfl, q⟩
theorem op_isnB : OpR X (compareOp .IsNot) rIsnB := by
  intro pins s σ H x y v u Q I r1 r2 h
  obtain ⟨c, d, rfl, rfl, q⟩ := h
  cases (show v = Value.bool c from r1)
  cases (show u = Value.bool d from r2)
  exact isnot_bool ⟨.bl _, H, I, rfl, q⟩
theorem rd_isB : RD k rIsB isBD := fun B H x y d v u Q hs rx ry e q => by
  unfold isBD at e
  split at e
  · cases e
    simp only [Rep] at rx ry
    exact ⟨_, _, rx, ry, q _ B H .refl (by simp only [Rep])⟩
  · cases e
theorem rd_isnB : RD k rIsnB isnBD := fun B H x y d v u Q hs rx ry e q => by
  unfold isnBD at e
  split at e
  · cases e
    simp only [Rep] at rx ry
    exact ⟨_, _, rx, ry, q _ B H .refl (by simp only [Rep])⟩
  · cases e
theorem d_isB_ (ha : PE X a (tD k fa)) (hb : PE X b (tD k fb)) : PE X (.Compare a [.Is] [b] pos) (tD k (bin isBD fa fb)) := d_cmp op_isB rd_isB ha hb (nomark _)
theorem d_isnB_ (ha : PE X a (tD k fa)) (hb : PE X b (tD k fb)) : PE X (.Compare a [.IsNot] [b] pos) (tD k (bin isnBD fa fb)) := d_cmp op_isnB rd_isnB ha hb (nomark _)
theorem t_isB_ (ha : PE X a (tD k fa)) (hb : PE X b (tD k fb)) : PT X (.Compare a [.Is] [b] pos) (tT k (tst (bin isBD fa fb))) := t_cmp op_isB rd_isB ha hb (nomark _)
theorem t_isnB_ (ha : PE X a (tD k fa)) (hb : PE X b (tD k fb)) : PT X (.Compare a [.IsNot] [b] pos) (tT k (tst (bin isnBD fa fb))) := t_cmp op_isnB rd_isnB ha hb (nomark _)
/-- {} -/
theorem d_dnew : PE X (.Dict [] [] pos) (tD k (cn (.dct [] []))) := pe_imp pe_dnewK fun σ H Q ⟨G, B, w, env, d, S, h, q⟩ p hp => by
  cases h
  refine q _ _ _ (S.new hp) ⟨same_new S.bh hp, same_newH hp⟩ ?_
  simp only [Rep]
  exact ⟨p, [], rfl, .inl upd_same, rfl, .nil⟩
end
end DL
namespace DL
open PySem
/-! ### which class is which, and the rest of the readings as equations -/
@[simp] theorem isi_eq {T : String} {f : List OT → Option Dat} {e : List OT} : isiD T f e = match f e with
  | none => none
  | some d => match d.ty with
    | none => none
    | some t => (L2.kitB t T).map .bl := rfl
@[simp] theorem ty_n : Dat.ty .non = some "NoneType" := rfl
@[simp] theorem ty_b {b : Bool} : Dat.ty (.bl b) = some "bool" := rfl
@[simp] theorem ty_i {i : Int} : Dat.ty (.int i) = some "int" := rfl
@[simp] theorem ty_s {x : Str} : Dat.ty (.str x) = some "str" := rfl
@[simp] theorem ty_t {xs : List Dat} : Dat.ty (.tup xs) = some "tuple" := rfl
@[simp] theorem ty_l {xs : List Dat} : Dat.ty (.lst xs) = some "list" := rfl
@[simp] theorem ty_d {ks : List L2.Key} {xs : List Dat} : Dat.ty (.dct ks xs) = some "dict" := rfl
@[simp] theorem kit_NoneType_int : L2.kitB "NoneType" "int" = some false := by decide +kernel
@[simp] theorem kit_NoneType_bool : L2.kitB "NoneType" "bool" = some false := by decide +kernel
@[simp] theorem kit_NoneType_tuple : L2.kitB "NoneType" "tuple" = some false := by decide +kernel
@[simp] theorem kit_NoneType_list : L2.kitB "NoneType" "list" = some false := by decide +kernel
@[simp] theorem kit_NoneType_str : L2.kitB "NoneType" "str" = some false := by decide +kernel
@[simp] theorem kit_NoneType_dict : L2.kitB "NoneType" "dict" = some false := by decide +kernel
@[simp] theorem kit_bool_int : L2.kitB "bool" "int" = some true := by decide +kernel
@[simp] theorem kit_bool_bool : L2.kitB "bool" "bool" = some true := by decide +kernel
@[simp] theorem kit_bool_tuple : L2.kitB "bool" "tuple" = some false := by decide +kernel
@[simp] theorem kit_bool_list : L2.kitB "bool" "list" = some false := by decide +kernel
@[simp] theorem kit_bool_str : L2.kitB "bool" "str" = some false := by decide +kernel
@[simp] theorem kit_bool_dict : L2.kitB "bool" "dict" = some false := by decide +kernel
@[simp] theorem kit_int_int : L2.kitB "int" "int" = some true := by decide +kernel
@[simp] theorem kit_int_bool : L2.kitB "int" "bool" = some false := by decide +kernel
@[simp] theorem kit_int_tuple : L2.kitB "int" "tuple" = some false := by decide +kernel
@[simp] theorem kit_int_list : L2.kitB "int" "list" = some false := by decide +kernel
@[simp] theorem kit_int_str : L2.kitB "int" "str" = some false := by decide +kernel
@[simp] theorem kit_int_dict : L2.kitB "int" "dict" = some false := by decide +kernel
@[simp] theorem kit_str_int : L2.kitB "str" "int" = some false := by decide +kernel
@[simp] theorem kit_str_bool : L2.kitB "str" "bool" = some false := by decide +kernel
@[simp] theorem kit_str_tuple : L2.kitB "str" "tuple" = some false := by decide +kernel
@[simp] theorem kit_str_list : L2.kitB "str" "list" = some false := by decide +kernel
@[simp] theorem kit_str_str : L2.kitB "str" "str" = some true := by decide +kernel
@[simp] theorem kit_str_dict : L2.kitB "str" "dict" = some false := by decide +kernel
@[simp] theorem kit_tuple_int : L2.kitB "tuple" "int" = some false := by decide +kernel
@[simp] theorem kit_tuple_bool : L2.kitB "tuple" "bool" = some false := by decide +kernel
@[simp] theorem kit_tuple_tuple : L2.kitB "tuple" "tuple" = some true := by decide +kernel
@[simp] theorem kit_tuple_list : L2.kitB "tuple" "list" = some false := by decide +kernel
@[simp] theorem kit_tuple_str : L2.kitB "tuple" "str" = some false := by decide +kernel
@[simp] theorem kit_tuple_dict : L2.kitB "tuple" "dict" = some false := by decide +kernel
@[simp] theorem kit_list_int : L2.kitB "list" "int" = some false := by decide +kernel
@[simp] theorem kit_list_bool : L2.kitB "list" "bool" = some false := by decide +kernel
@[simp] theorem kit_list_tuple : L2.kitB "list" "tuple" = some false := by decide +kernel
@[simp] theorem kit_list_list : L2.kitB "list" "list" = some true := by decide +kernel
@[simp] theorem kit_list_str : L2.kitB "list" "str" = some false := by decide +kernel
@[simp] theorem kit_list_dict : L2.kitB "list" "dict" = some false := by decide +kernel
@[simp] theorem kit_dict_int : L2.kitB "dict" "int" = some false := by decide +kernel
@[simp] theorem kit_dict_bool : L2.kitB "dict" "bool" = some false := by decide +kernel
@[simp] theorem kit_dict_tuple : L2.kitB "dict" "tuple" = some false := by decide +kernel
@[simp] theorem kit_dict_list : L2.kitB "dict" "list" = some false := by decide +kernel
@[simp] theorem kit_dict_str : L2.kitB "dict" "str" = some false := by decide +kernel
@[simp] theorem kit_dict_dict : L2.kitB "dict" "dict" = some true := by decide +kernel
theorem fn_len {n N : Nat} {g : List OT → Option Out} {ds : List Dat} (h : ds.length = n) : fnD n N g ds = match g (ds.map .sh ++ List.replicate (N - n) .un) with
    | some (.rt o _) => some o
    | some (.nx _) => some (.sh .non)
    | _ => none := if_pos h
theorem fn_rt {n N : Nat} {g : List OT → Option Out} {ds : List Dat} {o : OT} {e : List OT} (h : ds.length = n) (hg : g (ds.map .sh ++ List.replicate (N - n) .un) = some (.rt o e)) : fnD n N g ds = some o := by
  rw [fn_len h, hg]
@[simp] theorem oks_sh : ∀ ds : List Dat, OT.oks (ds.map .sh) = true
  | [] => rfl
  | d :: ds => by simp only [List.map_cons, OT.oks, OT.ok, oks_sh ds, Bool.and_true]
@[simp] theorem dats_sh : ∀ ds : List Dat, OT.dats (ds.map .sh) = ds
  | [] => rfl
  | d :: ds => by simp only [List.map_cons, OT.dats, OT.dat, dats_sh ds]
@[simp] theorem ok_lstU (xs : List OT) : OT.ok (.lst xs) = OT.oks xs := by simp only [OT.ok]
@[simp] theorem dat_lstU (xs : List OT) : OT.dat (.lst xs) = .lst (OT.dats xs) := by simp only [OT.dat]
@[simp] theorem oks_nil : OT.oks [] = true := rfl
@[simp] theorem oks_cons (x : OT) (xs : List OT) : OT.oks (x :: xs) = (x.ok && OT.oks xs) := by simp only [OT.oks]
@[simp] theorem dats_nil : OT.dats [] = [] := rfl
@[simp] theorem dats_cons (x : OT) (xs : List OT) : OT.dats (x :: xs) = x.dat :: OT.dats xs := by simp only [OT.dats]
@[simp] theorem ok_sh (d : Dat) : OT.ok (.sh d) = true := rfl
@[simp] theorem dat_sh (d : Dat) : OT.dat (.sh d) = d := rfl
@[simp] theorem eqB_int (i j : Int) : eqB (.int i) (.int j) = some (decide (i = j)) := rfl
@[simp] theorem eqB_str (i j : Str) : eqB (.str i) (.str j) = some (decide (i = j)) := rfl
@[simp] theorem eqB_bl (i j : Bool) : eqB (.bl i) (.bl j) = some (decide (i = j)) := rfl
@[simp] theorem sum_int (i j : Int) : sumD (.int i) (.int j) = some (.int (i + j)) := rfl
@[simp] theorem ix_lst (xs : List Dat) (i : Int) : ixD (.lst xs) (.int i) = L2.atI xs i := rfl
@[simp] theorem ix_tp (xs : List Dat) (i : Int) : ixD (.tup xs) (.int i) = L2.atI xs i := rfl
@[simp] theorem atI_0 {α : Type} (x : α) (xs : List α) : L2.atI (x :: xs) 0 = some x := by
  simp [L2.atI, L2.ixN]
theorem atI_nn {α : Type} (xs : List α) (j : Nat) : L2.atI xs (j : Int) = xs[j]? := by
  unfold L2.atI L2.ixN
  by_cases h : j < xs.length
  · simp [h]
  · have : xs[j]? = none := List.getElem?_eq_none_iff.mpr (by omega)
    rw [this]
    simp only [Int.natCast_nonneg, if_true]
    rw [if_neg (by omega)]
    rfl
@[simp] theorem atI_1 {α : Type} (x y : α) (xs : List α) : L2.atI (x :: y :: xs) 1 = some y := atI_nn (x :: y :: xs) 1
@[simp] theorem atI_2 {α : Type} (x y z : α) (xs : List α) : L2.atI (x :: y :: z :: xs) 2 = some z := atI_nn (x :: y :: z :: xs) 2
@[simp] theorem atI_3 {α : Type} (x y z u : α) (xs : List α) : L2.atI (x :: y :: z :: u :: xs) 3 = some u := atI_nn (x :: y :: z :: u :: xs) 3
@[simp] theorem len_lst (xs : List Dat) : lenD [.lst xs] = some (.int xs.length) := rfl
@[simp] theorem len_tup (xs : List Dat) : lenD [.tup xs] = some (.int xs.length) := rfl
@[simp] theorem loop_nil {st : Dat → List OT → Option (List OT)} {body : List OT → Option Out} {e : List OT} : loopS st body [] e = some (.nx e) := rfl
theorem loop_cons {st : Dat → List OT → Option (List OT)} {body : List OT → Option Out} {e e1 : List OT} {d : Dat} {ds : List Dat} (h : st d e = some e1) : loopS st body (d :: ds) e = (match body e1 with
      | some (.nx e2) => loopS st body ds e2
      | some (.ct e2) => loopS st body ds e2
      | some (.bk e2) => some (.nx e2)
      | some (.rt o e2) => some (.rt o e2)
      | some (.ex c ns xs e2) => some (.ex c ns xs e2)
      | none => none) := by
  simp only [loopS, h] <;> rcases body e1 with _ | o <;> first | rfl | (cases o <;> rfl)
/-- a comprehension, element by element -/
theorem lcGo_map {st : Dat → List OT → Option (List OT)} {elt : List OT → Option Dat} {e0 : List OT} {f : Dat → Dat} : ∀ {ds : List Dat}, (∀ d ∈ ds, ∃ e1, st d e0 = some e1 ∧ elt e1 = some (f d)) → lcGo st yesB elt e0 ds = some (ds.map f)
  | [], _ => rfl
  | d :: ds, h => by
    obtain ⟨e1, h1, h2⟩ := h d List.mem_cons_self
    have ih := lcGo_map (ds := ds) (fun x hx => h x (List.mem_cons_of_mem _ hx))
    simp [lcGo, h1, h2, ih, yesB]
theorem lcF_map {src : List OT → Option (List Dat)} {own : List Nat} {st : Dat → List OT → Option (List OT)} {elt : List OT → Option Dat} {e : List OT} {ds : List Dat} (f : Dat → Dat) (hs : src e = some ds) (hl : ds.length < 16000000)
    (h : ∀ d ∈ ds, ∃ e1, st d (wipeE e own) = some e1 ∧ elt e1 = some (f d)) : lcF src own st yesB elt e = some (.lst ((ds.map f).map .sh)) := by
  unfold lcF
  rw [hs]
  simp only [if_pos hl, lcGo_map h]
/-- over what some list of one's own stands for -/
theorem lcF_of {α : Type} {src : List OT → Option (List Dat)} {own : List Nat} {st : Dat → List OT → Option (List OT)} {elt : List OT → Option Dat} {e : List OT} {xs : List α} {c : α → Dat} (f : α → Dat) (hs : src e = some (xs.map c)) (hl : xs.length < 16000000)
    (h : ∀ x ∈ xs, ∃ e1, st (c x) (wipeE e own) = some e1 ∧ elt e1 = some (f x)) : lcF src own st yesB elt e = some (.lst ((xs.map f).map .sh)) := by
  have go : ∀ ys : List α, (∀ x ∈ ys, x ∈ xs) → lcGo st yesB elt (wipeE e own) (ys.map c) = some (ys.map f) := by
    intro ys
    induction ys with
    | nil => intro _; rfl
    | cons y ys ih =>
      intro hy
      obtain ⟨e1, h1, h2⟩ := h y (hy y List.mem_cons_self)
      have := ih fun x hx => hy x (List.mem_cons_of_mem _ hx)
      simp [lcGo, h1, h2, this, yesB]
  unfold lcF
  rw [hs]
  simp only [List.length_map, if_pos hl, go xs fun _ h => h]
theorem rng1_eq {fs : List OT → Option (List Dat)} {e : List OT} {n : Nat} (h : fs e = some [.int (n : Int)]) (hn : n < 4000000) : rng1 fs e = some ((List.range n).map fun i => .int (i : Int)) := by
  unfold rng1
  rw [h]
  simp only
  rw [if_pos (by omega)]
  simp [rngFrom]
theorem rng2_eq {fs : List OT → Option (List Dat)} {e : List OT} {a b : Nat} (h : fs e = some [.int (a : Int), .int (b : Int)]) (ha : a < 4000000) (hb : b < 4000000) : rng2 fs e = some ((List.range (b - a)).map fun i => .int ((a : Int) + (i : Int))) := by
  unfold rng2
  rw [h]
  simp only
  rw [if_pos (by omega)]
  have : ((b : Int) - (a : Int)).toNat = b - a := by omega
  rw [this]
  rfl
/-! ### one step of a body at a time -/
theorem retO_of {f : List OT → Option OT} {e : List OT} {o : OT} (h : f e = some o) : retO f e = some (.rt o e) := by simp only [retO, h]
theorem retS_of {f : List OT → Option Dat} {e : List OT} {d : Dat} (h : f e = some d) : retS f e = some (.rt (.sh d) e) := by simp only [retS, h]
theorem seq_nx {g h : List OT → Option Out} {e e1 : List OT} {o : Out} (h1 : g e = some (.nx e1)) (h2 : h e1 = some o) : seqO g h e = some o := by simp only [seqO, h1, h2]
theorem seq_rt {g h : List OT → Option Out} {e e1 : List OT} {o : OT} (h1 : g e = some (.rt o e1)) : seqO g h e = some (.rt o e1) := by simp only [seqO, h1]
theorem seq_ct {g h : List OT → Option Out} {e e1 : List OT} (h1 : g e = some (.ct e1)) : seqO g h e = some (.ct e1) := by simp only [seqO, h1]
theorem set_of {i : Nat} {f : List OT → Option Dat} {e e1 : List OT} {d : Dat} (h : f e = some d) (he : e.set i (.sh d) = e1) : setS i f e = some (.nx e1) := by
  subst he
  simp only [setS, h]
theorem setO_of {i : Nat} {f : List OT → Option OT} {e e1 : List OT} {o : OT} (h : f e = some o) (hi : i < e.length) (he : e.set i o = e1) : setO i f e = some (.nx e1) := by
  subst he
  simp only [setO, h, if_pos hi]
theorem if_t {c : List OT → Option Bool} {g h : List OT → Option Out} {e : List OT} {o : Out} (hc : c e = some true) (hg : g e = some o) : ifS c g h e = some o := by simp only [ifS, hc, hg]
theorem if_f {c : List OT → Option Bool} {g h : List OT → Option Out} {e : List OT} {o : Out} (hc : c e = some false) (hg : h e = some o) : ifS c g h e = some o := by simp only [ifS, hc, hg]
theorem mlt_of {f : List OT → Option OT} {e : List OT} {o : OT} {d : Dat} (h : f e = some o) (z : o.ok = true) (hd : o.dat = d) : mlt f e = some d := by
  subst hd
  simp only [mlt, h, if_pos z]
theorem mlt_lst {f : List OT → Option OT} {e : List OT} {ds : List Dat} (h : f e = some (.lst (ds.map .sh))) : mlt f e = some (.lst ds) := mlt_of h (by simp) (by simp)
theorem mlt_shd {f : List OT → Option OT} {e : List OT} {d : Dat} (h : f e = some (.sh d)) : mlt f e = some d := mlt_of h rfl rfl
theorem call_of {n : Nat} {f : List Dat → Option OT} {fs : List OT → Option (List Dat)} {e : List OT} {ds : List Dat} {o : OT} (h1 : fs e = some ds) (hl : ds.length = n) (h2 : f ds = some o) : callO n f fs e = some o := by simp only [callO, h1, if_pos hl, h2]
theorem callB_of {n : Nat} {f : List Dat → Option OT} {fs : List OT → Option (List Dat)} {e : List OT} {ds : List Dat} {d : Dat} (h1 : fs e = some ds) (hl : ds.length = n) (h2 : f ds = some (.sh d)) (z : d.sc = true) : callB n f fs e = some d := by simp only [callB, h1, if_pos hl, h2, z, if_true]
theorem for_of {src : List OT → Option (List Dat)} {st : Dat → List OT → Option (List OT)} {body : List OT → Option Out} {e : List OT} {ds : List Dat} {o : Out} (h1 : src e = some ds) (h2 : loopS st body ds e = some o) : forS src st body e = some o := by simp only [forS, h1, h2]
theorem cons_of {f : List OT → Option Dat} {g : List OT → Option (List Dat)} {e : List OT} {d : Dat} {ds : List Dat} (h1 : f e = some d) (h2 : g e = some ds) : consA f g e = some (d :: ds) := by simp only [consA, h1, h2]
theorem bin_of {g : Dat → Dat → Option Dat} {fa fb : List OT → Option Dat} {e : List OT} {x y : Dat} {r : Option Dat} (h1 : fa e = some x) (h2 : fb e = some y) (h3 : g x y = r) : DL.bin g fa fb e = r := by simp only [DL.bin, h1, h2, h3]
/-! ### a thing equals itself -/
mutual
theorem eqv_self : ∀ d : Dat, d.noobj = true → PyData.eqv d.py d.py = true
  | .non, _ => by simp [Dat.py, PyData.eqv]
  | .bl b, _ => by simp [Dat.py, PyData.eqv]
  | .int i, _ => by simp [Dat.py, PyData.eqv]
  | .str x, _ => by simp [Dat.py, PyData.eqv]
  | .tup xs, h => by
    simp only [Dat.py, PyData.eqv]
    exact eqvs_self xs (by simpa only [Dat.noobj] using h)
  | .lst xs, h => by
    simp only [Dat.py, PyData.eqv]
    exact eqvs_self xs (by simpa only [Dat.noobj] using h)
  | .obj _ _ _, h => by simp [Dat.noobj] at h
  | .dct _ _, h => by simp [Dat.noobj] at h
  | .exn _ _ _, h => by simp [Dat.noobj] at h
theorem eqvs_self : ∀ ds : List Dat, Dat.noobjs ds = true → PyData.eqvAll (Dat.pys ds) (Dat.pys ds) = true
  | [], _ => by simp [Dat.pys, PyData.eqvAll]
  | d :: ds, h => by
    simp only [Dat.noobjs, Bool.and_eq_true] at h
    simp only [Dat.pys, PyData.eqvAll, eqv_self d h.1, eqvs_self ds h.2, Bool.and_true]
end
/-- what == takes: no objects, texts of plain signs, depth n -/
structure Plain (d : Dat) (n : Nat) : Prop where
  no : d.noobj = true
  lay : d.py.canLay0 = true
  dep : d.py.depth ≤ n
theorem Plain.ok {d : Dat} {n : Nat} (h : Plain d n) (hn : n ≤ 64) : okEq d = true := by
  unfold okEq SeqAt.shaped
  rw [h.no, h.lay, decide_eq_true (Nat.le_trans h.dep hn)]
  rfl
theorem plains : ∀ {ds : List Dat} {n : Nat}, (∀ d ∈ ds, Plain d n) → Dat.noobjs ds = true ∧ PyData.canLayAll0 (Dat.pys ds) = true ∧ PyData.depthAll (Dat.pys ds) ≤ n
  | [], n, _ => ⟨rfl, by simp [Dat.pys, PyData.canLayAll0], by simp [Dat.pys, PyData.depthAll]⟩
  | d :: ds, n, h => by
    have a := h d List.mem_cons_self
    obtain ⟨x, y, z⟩ := plains (ds := ds) fun x hx => h x (List.mem_cons_of_mem _ hx)
    refine ⟨by simp only [Dat.noobjs, a.no, x, Bool.and_true], by simp only [Dat.pys, PyData.canLayAll0, a.lay, y, Bool.and_true], ?_⟩
    simp only [Dat.pys, PyData.depthAll]
    exact Nat.max_le.mpr ⟨a.dep, z⟩
theorem Plain.lst {ds : List Dat} {n : Nat} (h : ∀ d ∈ ds, Plain d n) : Plain (.lst ds) (n + 1) := by
  obtain ⟨x, y, z⟩ := plains h
  refine ⟨by simp only [Dat.noobj, x], by simp only [Dat.py, PyData.canLay0, y], ?_⟩
  simp only [Dat.py, PyData.depth]
  omega
theorem Plain.tup {ds : List Dat} {n : Nat} (h : ∀ d ∈ ds, Plain d n) : Plain (.tup ds) (n + 1) := by
  obtain ⟨x, y, z⟩ := plains h
  refine ⟨by simp only [Dat.noobj, x], by simp only [Dat.py, PyData.canLay0, y], ?_⟩
  simp only [Dat.py, PyData.depth]
  omega
theorem Plain.int (i : Int) : Plain (.int i) 0 := ⟨rfl, by simp [Dat.py, PyData.canLay0], by simp [Dat.py, PyData.depth]⟩
theorem Plain.mono {d : Dat} {n m : Nat} (h : Plain d n) (hm : n ≤ m) : Plain d m := ⟨h.no, h.lay, Nat.le_trans h.dep hm⟩
theorem eqB_self {d : Dat} {n : Nat} (h : Plain d n) (hn : n ≤ 64) : eqB d d = some true := by
  unfold eqB
  cases e : scEq d d with
  | none =>
    simp only [h.ok hn, Bool.and_true, if_true]
    rw [eqv_self d h.no]
  | some b =>
    cases d <;> simp [scEq] at e <;> simp [e]
/-! ### fractions as rationals -/
def enc (q : Rat) : Dat := .tup [.int q.num, .int (q.den : Int)]
theorem plain_enc (q : Rat) : Plain (enc q) 1 := .tup fun d h => by
  simp at h
  rcases h with rfl | rfl <;> exact .int _
/-- top and bottom within n bits -/
def Sz (q : Rat) (n : Nat) : Prop := q.num.natAbs < 2 ^ n ∧ q.den < 2 ^ n
theorem Sz.mono {q : Rat} {n m : Nat} (h : Sz q n) (hm : n ≤ m) : Sz q m := ⟨Nat.lt_of_lt_of_le h.1 (Nat.pow_le_pow_right (by decide) hm), Nat.lt_of_lt_of_le h.2 (Nat.pow_le_pow_right (by decide) hm)⟩
theorem natAbs_div_le (a : Int) (g : Nat) : (a / (g : Int)).natAbs ≤ a.natAbs := by
  cases Nat.eq_zero_or_pos g with
  | inl h => subst h; simp
  | inr h =>
    cases a with
    | ofNat n =>
      have : (Int.ofNat n / (g : Int)) = ((n / g : Nat) : Int) := rfl
      rw [this]
      exact Nat.div_le_self n g
    | negSucc n =>
      obtain ⟨k, rfl⟩ : ∃ k, g = k + 1 := ⟨g - 1, by omega⟩
      have e : (Int.negSucc n / ((k + 1 : Nat) : Int)) = Int.negSucc (n / (k + 1)) := rfl
      rw [e]
      have := Nat.div_le_self n (k + 1)
      show n / (k + 1) + 1 ≤ n + 1
      omega
theorem Sz.pos {q : Rat} {n : Nat} (h : Sz q n) : 0 < n := by
  cases n with
  | zero =>
    have a := h.2
    have b := q.den_nz
    simp at a
    omega
  | succ n => exact Nat.succ_pos n
theorem sz_divInt {a b : Int} {n : Nat} (hn : 0 < n) (ha : a.natAbs < 2 ^ n) (hb : b.natAbs < 2 ^ n) : Sz (Rat.divInt a b) n := by
  refine ⟨?_, ?_⟩
  · rw [Rat.num_divInt]
    refine Nat.lt_of_le_of_lt (natAbs_div_le _ _) ?_
    rw [Int.natAbs_mul]
    have : b.sign.natAbs ≤ 1 := by
      rcases Int.lt_trichotomy b 0 with h | h | h
      · rw [Int.sign_eq_neg_one_of_neg h]; decide
      · subst h; decide
      · rw [Int.sign_eq_one_of_pos h]; decide
    have h2 : b.sign.natAbs * a.natAbs ≤ 1 * a.natAbs := Nat.mul_le_mul_right _ this
    omega
  · rw [Rat.den_divInt]
    split
    · exact Nat.one_lt_two_pow (by omega)
    · exact Nat.lt_of_le_of_lt (Nat.div_le_self _ _) hb
theorem two_le {n m : Nat} : 2 ^ n * 2 ^ m = 2 ^ (n + m) := (Nat.pow_add 2 n m).symm
theorem mul_lt {a b n m : Nat} (ha : a < 2 ^ n) (hb : b < 2 ^ m) : a * b < 2 ^ (n + m) := by
  rw [Nat.pow_add]
  exact Nat.mul_lt_mul'' ha hb
theorem natAbs_add_lt {x y : Int} {k : Nat} (hx : x.natAbs < 2 ^ k) (hy : y.natAbs < 2 ^ k) : (x + y).natAbs < 2 ^ (k + 1) := by
  have h := Int.natAbs_add_le x y
  rw [Nat.pow_succ]
  omega
theorem natAbs_sub_lt {x y : Int} {k : Nat} (hx : x.natAbs < 2 ^ k) (hy : y.natAbs < 2 ^ k) : (x - y).natAbs < 2 ^ (k + 1) := by
  have h := Int.natAbs_add_le x (-y)
  rw [Nat.pow_succ]
  have e : x - y = x + -y := Int.sub_eq_add_neg
  rw [e]
  rw [Int.natAbs_neg] at h
  omega
theorem imul_lt {a b : Int} {n m : Nat} (ha : a.natAbs < 2 ^ n) (hb : b.natAbs < 2 ^ m) : (a * b).natAbs < 2 ^ (n + m) := by
  rw [Int.natAbs_mul]
  exact mul_lt ha hb
theorem divInt_self (q : Rat) : Rat.divInt q.num (q.den : Int) = q := by
  exact Rat.num_divInt_den q
theorem den_ne (q : Rat) : (q.den : Int) ≠ 0 := by
  have := q.den_nz
  omega
theorem add_divInt (p q : Rat) : p + q = Rat.divInt (p.num * q.den + q.num * p.den) (p.den * q.den) := by
  conv => lhs; rw [← divInt_self p, ← divInt_self q]
  exact Rat.divInt_add_divInt _ _ (den_ne p) (den_ne q)
theorem sub_divInt (p q : Rat) : p - q = Rat.divInt (p.num * q.den - q.num * p.den) (p.den * q.den) := by
  conv => lhs; rw [← divInt_self p, ← divInt_self q]
  exact Rat.divInt_sub_divInt _ _ (den_ne p) (den_ne q)
theorem mul_divInt (p q : Rat) : p * q = Rat.divInt (p.num * q.num) (p.den * q.den) := by
  conv => lhs; rw [← divInt_self p, ← divInt_self q]
  exact Rat.divInt_mul_divInt _ _
theorem div_divInt (p q : Rat) (h : q ≠ 0) : p / q = Rat.divInt (p.num * q.den) (p.den * q.num) := by
  have e : q⁻¹ = Rat.divInt q.den q.num := by
    conv => lhs; rw [← divInt_self q]
    exact Rat.inv_divInt _ _
  rw [Rat.div_def, e]
  conv => lhs; rw [← divInt_self p]
  exact Rat.divInt_mul_divInt _ _
theorem Sz.add {p q : Rat} {n m : Nat} (hp : Sz p n) (hq : Sz q m) : Sz (p + q) (n + m + 1) := by
  rw [add_divInt]
  refine sz_divInt (by omega) (natAbs_add_lt (imul_lt (b := (q.den : Int)) hp.1 hq.2) ?_) ?_
  · have := imul_lt (b := (p.den : Int)) hq.1 hp.2
    rw [Nat.add_comm m n] at this
    exact this
  · exact Nat.lt_of_lt_of_le (imul_lt (a := (p.den : Int)) (b := (q.den : Int)) hp.2 hq.2) (Nat.pow_le_pow_right (by decide) (by omega))
theorem Sz.sub {p q : Rat} {n m : Nat} (hp : Sz p n) (hq : Sz q m) : Sz (p - q) (n + m + 1) := by
  rw [sub_divInt]
  refine sz_divInt (by omega) (natAbs_sub_lt (imul_lt (b := (q.den : Int)) hp.1 hq.2) ?_) ?_
  · have := imul_lt (b := (p.den : Int)) hq.1 hp.2
    rw [Nat.add_comm m n] at this
    exact this
  · exact Nat.lt_of_lt_of_le (imul_lt (a := (p.den : Int)) (b := (q.den : Int)) hp.2 hq.2) (Nat.pow_le_pow_right (by decide) (by omega))
theorem Sz.mul {p q : Rat} {n m : Nat} (hp : Sz p n) (hq : Sz q m) : Sz (p * q) (n + m) := by
  rw [mul_divInt]
  exact sz_divInt (by have := hp.pos; omega) (imul_lt hp.1 hq.1) (imul_lt (a := (p.den : Int)) (b := (q.den : Int)) hp.2 hq.2)
theorem Sz.div {p q : Rat} {n m : Nat} (hp : Sz p n) (hq : Sz q m) (h : q ≠ 0) : Sz (p / q) (n + m) := by
  rw [div_divInt p q h]
  exact sz_divInt (by have := hp.pos; omega) (imul_lt (b := (q.den : Int)) hp.1 hq.2) (imul_lt (a := (p.den : Int)) hp.2 hq.1)
theorem Sz.neg {p : Rat} {n : Nat} (hp : Sz p n) : Sz (-p) n := by
  refine ⟨?_, hp.2⟩
  show (-p.num).natAbs < _
  rw [Int.natAbs_neg]
  exact hp.1

/-! ### the log2 of the model -/
theorem log2_lt {a n : Nat} (h : a < 2 ^ n) (hn : 0 < n) : a.log2 < n := PySem.Flt.log2_lt_of hn h
theorem mulOk {i j : Int} {n m : Nat} (hi : i.natAbs < 2 ^ n) (hj : j.natAbs < 2 ^ m) (h : n + m < 999000) : i.natAbs.log2 + j.natAbs.log2 < 1000000 := by
  have a := log2_lt (Nat.lt_of_lt_of_le hi (Nat.pow_le_pow_right (by decide) (Nat.le_succ n))) (Nat.succ_pos n)
  have b := log2_lt (Nat.lt_of_lt_of_le hj (Nat.pow_le_pow_right (by decide) (Nat.le_succ m))) (Nat.succ_pos m)
  omega
theorem divOk {i j : Int} (hj : j.natAbs < 2 ^ 9000) : Builtin.divisionGoesByPylong i j = false := PyProof.noPylong_of_log2 (log2_lt hj (by decide))
theorem mulD_ok {i j : Int} {n m : Nat} (hi : i.natAbs < 2 ^ n) (hj : j.natAbs < 2 ^ m) (h : n + m < 999000) : mulD (.int i) (.int j) = some (.int (i * j)) := by
  unfold mulD
  exact if_pos (.inr (.inr (mulOk hi hj h)))
theorem mulD_r {i j : Int} (h : j.natAbs < 2 ^ 64) : prdD (.int i) (.int j) = some (.int (i * j)) := by
  show mulD (.int i) (.int j) = _
  unfold mulD
  exact if_pos (.inr (.inl h))
theorem mulD_l {i j : Int} (h : i.natAbs < 2 ^ 64) : prdD (.int i) (.int j) = some (.int (i * j)) := by
  show mulD (.int i) (.int j) = _
  unfold mulD
  exact if_pos (.inl h)
theorem prdD_ok {i j : Int} {n m : Nat} (hi : i.natAbs < 2 ^ n) (hj : j.natAbs < 2 ^ m) (h : n + m < 999000) : prdD (.int i) (.int j) = some (.int (i * j)) := by
  show mulD (.int i) (.int j) = _
  exact mulD_ok hi hj h
theorem fdvD_ok {i j : Int} (h : j ≠ 0) (hj : j.natAbs < 2 ^ 9000) : fdvD (.int i) (.int j) = some (.int (i.fdiv j)) := by
  unfold fdvD
  exact if_pos ⟨h, divOk hj⟩
theorem modD_ok {i j : Int} (h : j ≠ 0) : modD (.int i) (.int j) = some (.int (i.fmod j)) := by
  unfold modD
  exact if_pos h
end DL
namespace DL
open PySem L2
theorem okX_fn {n N : Nat} {g : List OT → Option Out} : okOf (fnX n N g) = fnD n N g := by
  funext ds
  unfold okOf fnX fnD
  by_cases h : ds.length = n
  · simp only [if_pos h]
    cases g (ds.map .sh ++ List.replicate (N - n) .un) with
    | none => rfl
    | some o => cases o <;> rfl
  · simp only [if_neg h]
theorem ok_iff {f : List Dat → Option Res} {ds : List Dat} {o : OT} : okOf f ds = some o ↔ f ds = some (.ok o) := by
  unfold okOf
  split
  · rename_i o' e
    rw [e]
    simp
  · rename_i h
    exact ⟨fun z => (nomatch z), fun z => absurd z (h o)⟩
theorem fx_len {n N : Nat} {g : List OT → Option Out} {ds : List Dat} (h : ds.length = n) : fnX n N g ds = match g (ds.map .sh ++ List.replicate (N - n) .un) with
    | some (.rt o _) => some (.ok o)
    | some (.nx _) => some (.ok (.sh .non))
    | some (.ex c ns xs _) => some (.ex c ns xs)
    | _ => none := by
  unfold fnX
  rw [if_pos h]
  all_goals (rcases g (ds.map .sh ++ List.replicate (N - n) .un) with _ | o <;> first | rfl | (cases o <;> rfl))
theorem kit_ref {K : PySem.W.Frag} {C D : Addr} {b : Bool} (self : PySem.W.subIn K (.ref C) (.ref C) = some true) (hs : PySem.W.subIn K (.ref C) (.ref D) = some b) (hi : PySem.W.isClsIn K D = true) (ht : PySem.W.typeIn K (.ref D) = some (.type "type")) : PySem.W.kitOne K (.ref C) (.ref D) = some b := by
  unfold PySem.W.kitOne
  split
  · rename_i e
    have e' : C = D := by simpa using e
    subst e'
    rw [← hs, self]
  · show (if ((PySem.W.clsIn K D).isSome && PySem.W.typeIn K (.ref D) == some (.type "type")) = true then PySem.W.subIn K (.ref C) (.ref D) else none) = some b
    have hi' : (PySem.W.clsIn K D).isSome = true := hi
    rw [hi', ht, if_pos (by decide), hs]
theorem kit_typ {K : PySem.W.Frag} {C : Addr} {T : String} {b : Bool} (hs : PySem.W.subIn K (.ref C) (.type T) = some b) (hm : PySem.W.kitMeta T = true) : PySem.W.kitOne K (.ref C) (.type T) = some b := by
  unfold PySem.W.kitOne
  rw [if_neg (by simp)]
  show (if PySem.W.kitMeta T = true then PySem.W.subIn K (.ref C) (.type T) else none) = some b
  rw [if_pos hm, hs]
end DL
namespace Pf
open PySem DL
def tab_NoNumber (c : String) : Option Bool := if c = "NoNumber" then some true else none
def tab_OhmError (c : String) : Option Bool := if c = "NoNumber" then some true else none
def tab_ValueError (c : String) : Option Bool := if c = "NoNumber" then some true else none
def tab_Floats_Held_Lame_NoName_NoPoint_NoRoad (c : String) : Option Bool := if c = "NoNumber" then some false else none
def tab_NoRow_NoSize_NoStreams_NoWord_Ring_TooMany (c : String) : Option Bool := if c = "NoNumber" then some false else none
noncomputable def g_divisor : List OT → Option Out := (seqO (setS 0 (cal absD (consA (vr 0) nilA)))
    (seqO (setS 1 (cal absD (consA (vr 1) nilA)))
    (seqO (whileS (tst (bin neD (vr 1) (cn (.int 0)))) (parS 0 1 (consA (vr 1) (consA (bin modD (vr 0) (vr 1)) nilA))))
    (retS (vr 0)))))
noncomputable def m_divisor : List Dat → Option OT := fnD 2 2 g_divisor
noncomputable def g_is_whole : List OT → Option Out := (retS (bv (andB (tst (isiD "int" (vr 0))) (notB (tst (isiD "bool" (vr 0)))))))
noncomputable def m_is_whole : List Dat → Option OT := fnD 1 1 g_is_whole
noncomputable def g_fraction : List OT → Option Out := (seqO (ifS (orB (notB (tst (mlt (callO 1 m_is_whole (consA (vr 0) nilA))))) (orB (notB (tst (mlt (callO 1 m_is_whole (consA (vr 1) nilA))))) (tst (bin eqD (vr 1) (cn (.int 0)))))) (raiS "NoNumber") skipO)
    (seqO (setS 2 (mlt (callO 2 m_divisor (consA (vr 0) (consA (vr 1) nilA)))))
    (seqO (ifS (tst (bin ltD (vr 1) (cn (.int 0)))) (setS 2 (bin subD (cn (.int 0)) (vr 2))) skipO)
    (retS (tupD (consA (bin fdvD (vr 0) (vr 2)) (consA (bin fdvD (vr 1) (vr 2)) nilA)))))))
noncomputable def mX_fraction : List Dat → Option Res := fnX 2 3 g_fraction
noncomputable def m_fraction : List Dat → Option OT := okOf mX_fraction
noncomputable def mX_fraction1 : List Dat → Option Res := fun ds => mX_fraction (ds ++ [.int 1])
noncomputable def m_fraction1 : List Dat → Option OT := okOf mX_fraction1
noncomputable def g_law_refused_alone : List OT → Option Out := (seqO (setS 1 (cn (.bl false)))
    (seqO (tryS (dropX 1 mX_fraction1 (consA (vr 0) nilA)) [⟨tab_NoNumber, none, (setS 1 (cn (.bl true)))⟩])
    (retS (vr 1))))
noncomputable def m_law_refused_alone : List Dat → Option OT := fnD 1 2 g_law_refused_alone
noncomputable def g_law_refused : List OT → Option Out := (seqO (setS 2 (cn .non))
    (seqO (tryS (dropX 2 mX_fraction (consA (vr 0) (consA (vr 1) nilA))) [⟨tab_OhmError, some 3, (setS 2 (vr 3))⟩])
    (seqO (ifS (orB (tst (isN (vr 2))) (orB (notB (tst (isiE tab_NoNumber (vr 2)))) (notB (tst (isiE tab_ValueError (vr 2)))))) (retS (cn (.bl false))) skipO)
    (seqO (ifS (tst (isiE tab_Floats_Held_Lame_NoName_NoPoint_NoRoad (vr 2))) (retS (cn (.bl false))) skipO)
    (retS (bv (notB (tst (isiE tab_NoRow_NoSize_NoStreams_NoWord_Ring_TooMany (vr 2))))))))))
noncomputable def m_law_refused : List Dat → Option OT := fnD 2 4 g_law_refused
noncomputable def g_law_number : List OT → Option Out := (seqO (setS 1 (bin modD (vr 0) (bin sumD (bin prdD (cn (.int 2)) (bin powD (cn (.int 10)) (cn (.int 30)))) (cn (.int 1)))))
    (seqO (ifS (tst (bin eqD (bin modD (vr 1) (cn (.int 4))) (cn (.int 1)))) (retS (bin subD (bin modD (bin fdvD (vr 1) (cn (.int 4))) (cn (.int 13))) (cn (.int 6)))) skipO)
    (retS (bin subD (vr 1) (bin powD (cn (.int 10)) (cn (.int 30)))))))
noncomputable def m_law_number : List Dat → Option OT := fnD 1 2 g_law_number
noncomputable def g_law_pick : List OT → Option Out := (retS (bin ixD (bin sumD (mlt (sliF (vr 0) (partS (vr 1)) (partS (bin sumD (vr 1) (cn (.int 1)))))) (mlt (lstD (consA (cn (.int 0)) nilA)))) (cn (.int 0))))
noncomputable def m_law_pick : List Dat → Option OT := fnD 2 2 g_law_pick
noncomputable def g_law_divisor : List OT → Option Out := (seqO (setS 0 (cal absD (consA (vr 0) nilA)))
    (seqO (setS 1 (cal absD (consA (vr 1) nilA)))
    (seqO (whileS (tst (bin neD (vr 1) (cn (.int 0)))) (parS 0 1 (consA (vr 1) (consA (bin modD (vr 0) (vr 1)) nilA))))
    (retS (vr 0)))))
noncomputable def m_law_divisor : List Dat → Option OT := fnD 2 2 g_law_divisor
noncomputable def g_law_plain : List OT → Option Out := (retS (bv (andB (notB (tst (isiD "bool" (vr 0)))) (tst (isiD "int" (vr 0))))))
noncomputable def m_law_plain : List Dat → Option OT := fnD 1 1 g_law_plain
noncomputable def g_law_lowest : List OT → Option Out := (seqO (ifS (orB (notB (tst (isiD "tuple" (vr 0)))) (tst (bin neD (cal lenD (consA (vr 0) nilA)) (cn (.int 2))))) (retS (cn (.bl false))) skipO)
    (seqO (ifS (orB (notB (tst (mlt (callO 1 m_law_plain (consA (bin ixD (vr 0) (cn (.int 0))) nilA))))) (orB (notB (tst (mlt (callO 1 m_law_plain (consA (bin ixD (vr 0) (cn (.int 1))) nilA))))) (tst (bin ltD (bin ixD (vr 0) (cn (.int 1))) (cn (.int 1)))))) (retS (cn (.bl false))) skipO)
    (retS (bin eqD (mlt (callO 2 m_law_divisor (consA (bin ixD (vr 0) (cn (.int 0))) (consA (bin ixD (vr 0) (cn (.int 1))) nilA)))) (cn (.int 1))))))
noncomputable def m_law_lowest : List Dat → Option OT := fnD 1 1 g_law_lowest
noncomputable def g_is_fraction : List OT → Option Out := (seqO (ifS (orB (notB (tst (isiD "tuple" (vr 0)))) (tst (bin neD (cal lenD (consA (vr 0) nilA)) (cn (.int 2))))) (retS (cn (.bl false))) skipO)
    (seqO (ifS (orB (notB (tst (mlt (callO 1 m_is_whole (consA (bin ixD (vr 0) (cn (.int 0))) nilA))))) (orB (notB (tst (mlt (callO 1 m_is_whole (consA (bin ixD (vr 0) (cn (.int 1))) nilA))))) (tst (bin ltD (bin ixD (vr 0) (cn (.int 1))) (cn (.int 1)))))) (retS (cn (.bl false))) skipO)
    (retS (bin eqD (mlt (callO 2 m_divisor (consA (bin ixD (vr 0) (cn (.int 0))) (consA (bin ixD (vr 0) (cn (.int 1))) nilA)))) (cn (.int 1))))))
noncomputable def m_is_fraction : List Dat → Option OT := fnD 1 1 g_is_fraction
noncomputable def g_law_told_apart : List OT → Option Out := (seqO (asgS (vr 0) (toTup 2 (toCons (toN 1) (toCons (toN 2) toNil))))
    (seqO (ifS (orB (tst (bin isnBD (mlt (callO 1 m_is_fraction (consA (vr 0) nilA))) (cn (.bl true)))) (tst (bin isnBD (mlt (callO 1 m_is_fraction (consA (tupD (consA (bin prdD (cn (.int 2)) (vr 1)) (consA (bin prdD (cn (.int 2)) (vr 2)) nilA))) nilA))) (cn (.bl false))))) (retS (cn (.bl false))) skipO)
    (seqO (setS 3 (mlt (lstD (consA (tupD (consA (vr 1) (consA (bin subD (cn (.int 0)) (vr 2)) nilA))) (consA (tupD (consA (vr 1) (consA (cn (.int 0)) nilA))) (consA (mlt (lstD (consA (vr 1) (consA (vr 2) nilA)))) (consA (tupD (consA (vr 1) nilA)) (consA (tupD (consA (vr 1) (consA (vr 2) (consA (cn (.int 1)) nilA)))) (consA (vr 1) (consA (cn .non) (consA (cn (.str "1/2")) nilA)))))))))))
    (seqO (forS (lstOf (bin sumD (vr 3) (mlt (lstD (consA (cn (.dct [] [])) (consA (tupD (consA (mlt (lstD (consA (vr 1) nilA))) (consA (vr 2) nilA))) (consA (tupD (consA (vr 1) (consA (mlt (lstD (consA (vr 2) nilA))) nilA))) (consA (tupD (consA (cn (.dct [] [])) (consA (vr 2) nilA))) nilA)))))))) (toN 4) (ifS (tst (bin isnBD (mlt (callO 1 m_is_fraction (consA (vr 4) nilA))) (cn (.bl false)))) (retS (cn (.bl false))) skipO))
    (retS (bv (andB (tst (bin isBD (mlt (callO 1 m_is_fraction (consA (tupD (consA (cn (.bl true)) (consA (cn (.int 1)) nilA))) nilA))) (cn (.bl false)))) (tst (bin isBD (mlt (callO 1 m_is_fraction (consA (tupD (consA (vr 1) (consA (cn (.bl true)) nilA))) nilA))) (cn (.bl false)))))))))))
noncomputable def m_law_told_apart : List Dat → Option OT := fnD 1 5 g_law_told_apart
noncomputable def g_law : List OT → Option Out := (seqO (forS (rng1 (consA (cal max2D (consA (cn (.int 1)) (consA (bin fdvD (cal min2D (consA (cal lenD (consA (vr 0) nilA)) (consA (cn (.int 40)) nilA))) (cn (.int 2))) nilA))) nilA)) (toN 1) (seqO (setS 2 (bin sumD (cn (.int 1)) (bin modD (bin prdD (bin modD (mlt (callO 2 m_law_pick (consA (vr 0) (consA (vr 1) nilA)))) (cn (.int 1000003))) (cn (.int 48271))) (cn (.int 999983)))))
    (seqO (setS 3 (bin prdD (mlt (callO 1 m_law_number (consA (mlt (callO 2 m_law_pick (consA (vr 0) (consA (bin prdD (cn (.int 2)) (vr 1)) nilA)))) nilA))) (vr 2)))
    (seqO (setS 4 (bin prdD (mlt (callO 1 m_law_number (consA (mlt (callO 2 m_law_pick (consA (vr 0) (consA (bin sumD (bin prdD (cn (.int 2)) (vr 1)) (cn (.int 1))) nilA)))) nilA))) (vr 2)))
    (seqO (ifS (tst (bin eqD (vr 4) (cn (.int 0)))) (seqO (ifS (notB (tst (mlt (callO 2 m_law_refused (consA (vr 3) (consA (vr 4) nilA)))))) (retS (cn (.bl false))) skipO)
    (setS 4 (vr 2))) skipO)
    (seqO (setS 5 (mlt (callO 2 m_fraction (consA (vr 3) (consA (vr 4) nilA)))))
    (seqO (ifS (orB (notB (tst (mlt (callO 1 m_law_lowest (consA (vr 5) nilA))))) (tst (bin neD (bin prdD (bin ixD (vr 5) (cn (.int 0))) (vr 4)) (bin prdD (vr 3) (bin ixD (vr 5) (cn (.int 1))))))) (retS (cn (.bl false))) skipO)
    (seqO (setS 6 (mlt (callO 1 m_fraction1 (consA (vr 3) nilA))))
    (seqO (ifS (orB (notB (tst (mlt (callO 1 m_law_lowest (consA (vr 6) nilA))))) (orB (tst (bin neD (vr 6) (tupD (consA (vr 3) (consA (cn (.int 1)) nilA))))) (notB (tst (mlt (callO 1 m_law_told_apart (consA (vr 5) nilA))))))) (retS (cn (.bl false))) skipO)
    (ifS (orB (tst (bin isnBD (mlt (callO 1 m_is_whole (consA (vr 3) nilA))) (cn (.bl true)))) (tst (bin isnBD (mlt (callO 1 m_is_whole (consA (vr 4) nilA))) (cn (.bl true))))) (retS (cn (.bl false))) skipO))))))))))
    (seqO (setS 7 (bin ixD (mlt (lstD (consA (cn (.bl true)) (consA (cn .non) (consA (cn (.str "3")) (consA (tupD (consA (cn (.int 1)) (consA (cn (.int 2)) nilA))) (consA (mlt (lstD (consA (cn (.int 3)) nilA))) (consA (cn (.dct [] [])) nilA)))))))) (bin modD (mlt (callO 2 m_law_pick (consA (vr 0) (consA (cn (.int 0)) nilA)))) (cn (.int 6)))))
    (seqO (ifS (orB (tst (bin isnBD (mlt (callO 1 m_is_whole (consA (vr 7) nilA))) (cn (.bl false)))) (tst (bin isnBD (mlt (callO 1 m_is_whole (consA (cn (.bl false)) nilA))) (cn (.bl false))))) (retS (cn (.bl false))) skipO)
    (seqO (ifS (notB (tst (mlt (callO 1 m_law_refused_alone (consA (vr 7) nilA))))) (retS (cn (.bl false))) skipO)
    (retS (bv (andB (tst (mlt (callO 2 m_law_refused (consA (vr 7) (consA (cn (.int 1)) nilA))))) (andB (tst (mlt (callO 2 m_law_refused (consA (cn (.int 1)) (consA (vr 7) nilA))))) (tst (mlt (callO 2 m_law_refused (consA (cn (.int 0)) (consA (cn (.int 0)) nilA)))))))))))))
noncomputable def m_law : List Dat → Option OT := fnD 1 8 g_law
end Pf
namespace Pf
open PySem DL L2
/-! ### the program's ratios -/
theorem fmod_lt {a b : Int} (h : b ≠ 0) : (a.fmod b).natAbs < b.natAbs := by
  rcases Int.lt_trichotomy b 0 with hb | hb | hb
  · have h1 := Int.fmod_eq_emod_of_nonneg (-a) (show (0 : Int) ≤ -b by omega)
    have h2 : a.fmod b = -((-a).fmod (-b)) := by
      have := Int.neg_fmod_neg (-a) (-b)
      simp only [Int.neg_neg] at this
      exact this
    rw [h2, h1, Int.natAbs_neg]
    have h3 := Int.emod_nonneg (-a) (show -b ≠ 0 by omega)
    have h4 := Int.emod_lt_of_pos (-a) (show (0 : Int) < -b by omega)
    omega
  · exact absurd hb h
  · rw [Int.fmod_eq_emod_of_nonneg a (by omega)]
    have h3 := Int.emod_nonneg a (show b ≠ 0 by omega)
    have h4 := Int.emod_lt_of_pos a hb
    omega
theorem gcd_fmod (a b : Int) : Int.gcd b (a.fmod b) = Int.gcd a b := by
  have h := Int.fmod_add_mul_fdiv a b
  generalize a.fmod b = r at h
  generalize a.fdiv b = q at h
  subst h
  rw [Int.gcd_comm (r + b * q) b]
  simp
/-- the loop of both divisors -/
theorem gcd_loop : ∀ (n : Nat) (a b : Int), b.natAbs ≤ n → ∃ c : Int, c.natAbs = Int.gcd a b ∧ (0 ≤ a → 0 ≤ b → 0 ≤ c) ∧
    whileS (tst (DL.bin neD (vr 1) (cn (.int 0)))) (parS 0 1 (consA (vr 1) (consA (DL.bin modD (vr 0) (vr 1)) nilA))) [.sh (.int a), .sh (.int b)] = some (.nx [.sh (.int c), .sh (.int 0)])
  | n, a, b, h => by
    by_cases hb : b = 0
    · subst hb
      refine ⟨a, by simp, fun x _ => x, while_stop rfl⟩
    · cases n with
      | zero => omega
      | succ n =>
        have hl := fmod_lt (a := a) hb
        obtain ⟨c, h1, h2, h3⟩ := gcd_loop n b (a.fmod b) (by omega)
        refine ⟨c, by rw [h1, gcd_fmod], fun x y => h2 y (by rw [Int.fmod_eq_emod_of_nonneg a y]; exact Int.emod_nonneg a hb), ?_⟩
        refine while_step (e1 := [.sh (.int b), .sh (.int (a.fmod b))]) ?_ ?_ h3
        · show some (!decide (b = 0)) = some true
          rw [decide_eq_false hb]
          rfl
        · have : modD (.int a) (.int b) = some (.int (a.fmod b)) := modD_ok hb
          simp [this]
theorem divisor_eq (a b : Int) : m_divisor [.int a, .int b] = some (.sh (.int (Int.gcd a b : Nat))) := by
  have habs : ∀ x : Int, (if x < 0 then -x else x) = (x.natAbs : Int) := fun x => by split <;> omega
  obtain ⟨c, h1, h2, h3⟩ := gcd_loop b.natAbs a.natAbs b.natAbs (by simp)
  have hc : c = (Int.gcd a b : Nat) := by
    have := h2 (by omega) (by omega)
    have e : Int.gcd (a.natAbs : Int) (b.natAbs : Int) = Int.gcd a b := by simp [Int.gcd]
    rw [e] at h1
    omega
  subst hc
  first | rw [m_divisor, fn_len (by rfl)] | rw [m_divisor, mX_divisor, okX_fn, fn_len (by rfl)]
  simp [g_divisor, habs, h3]
theorem is_whole_eq (a : Int) : m_is_whole [.int a] = some (.sh (.bl true)) := by
  first | rw [m_is_whole, fn_len (by rfl)] | rw [m_is_whole, mX_is_whole, okX_fn, fn_len (by rfl)]
  simp [g_is_whole]
theorem fdiv_exact {a : Int} {g : Nat} (hg : 0 < g) (h : (g : Int) ∣ a) : a.fdiv (g : Int) = a / (g : Int) := Int.fdiv_eq_ediv_of_nonneg a (by omega)
/-- the fraction of a by b -/
theorem fraction_gcd {a b : Int} (hb : b ≠ 0) (hs : Int.gcd a b < 2 ^ 9000) : m_fraction [.int a, .int b] = some (.sh (enc (Rat.divInt a b))) := by
  have hg : 0 < Int.gcd a b := Int.gcd_pos_iff.mpr (.inr hb)
  have hgb : Int.gcd a b ≤ b.natAbs := Nat.le_of_dvd (by omega) (Int.gcd_dvd_natAbs_right a b)
  have da : ((Int.gcd a b : Nat) : Int) ∣ a := Int.gcd_dvd_left ..
  have db : ((Int.gcd a b : Nat) : Int) ∣ b := Int.gcd_dvd_right ..
  have hw := is_whole_eq
  have hd := divisor_eq a b
  have sz : ((Int.gcd a b : Nat) : Int).natAbs < 2 ^ 9000 := by
    rw [Int.natAbs_natCast]
    exact hs
  first | rw [m_fraction, fn_len (by rfl)] | rw [m_fraction, mX_fraction, okX_fn, fn_len (by rfl)]
  have hen : enc (Rat.divInt a b) = .tup [.int (b.sign * a / ((Int.gcd a b : Nat) : Int)), .int (b.natAbs / Int.gcd a b : Nat)] := by
    unfold enc
    rw [Rat.num_divInt, Rat.den_divInt, if_neg hb, Int.gcd_comm b a]
  rw [hen]
  by_cases hneg : b < 0
  · have hg0 : (0 : Int) - ((Int.gcd a b : Nat) : Int) ≠ 0 := by omega
    have sz2 : ((0 : Int) - ((Int.gcd a b : Nat) : Int)).natAbs < 2 ^ 9000 := by
      have : ((0 : Int) - ((Int.gcd a b : Nat) : Int)).natAbs = Int.gcd a b := by omega
      rw [this]
      exact hs
    have e1 : fdvD (.int a) (.int (0 - ((Int.gcd a b : Nat) : Int))) = some (.int (a.fdiv (0 - ((Int.gcd a b : Nat) : Int)))) := fdvD_ok hg0 sz2
    have e2 : fdvD (.int b) (.int (0 - ((Int.gcd a b : Nat) : Int))) = some (.int (b.fdiv (0 - ((Int.gcd a b : Nat) : Int)))) := fdvD_ok hg0 sz2
    have q1 : a.fdiv (0 - ((Int.gcd a b : Nat) : Int)) = b.sign * a / ((Int.gcd a b : Nat) : Int) := by
      rw [Int.sign_eq_neg_one_of_neg hneg, Int.zero_sub]
      have := Int.neg_fdiv_neg a ((Int.gcd a b : Nat) : Int)
      have h2 : a.fdiv (-((Int.gcd a b : Nat) : Int)) = (-a).fdiv ((Int.gcd a b : Nat) : Int) := by
        have := Int.neg_fdiv_neg (-a) ((Int.gcd a b : Nat) : Int)
        simpa using this
      rw [h2, Int.fdiv_eq_ediv_of_nonneg _ (by omega)]
      congr 1
      omega
    have q2 : b.fdiv (0 - ((Int.gcd a b : Nat) : Int)) = (b.natAbs / Int.gcd a b : Nat) := by
      rw [Int.zero_sub]
      have h2 : b.fdiv (-((Int.gcd a b : Nat) : Int)) = (-b).fdiv ((Int.gcd a b : Nat) : Int) := by
        have := Int.neg_fdiv_neg (-b) ((Int.gcd a b : Nat) : Int)
        simpa using this
      rw [h2, Int.fdiv_eq_ediv_of_nonneg _ (by omega)]
      have : -b = (b.natAbs : Int) := by omega
      rw [this]
      rfl
    simp only [Int.zero_sub] at e1 e2 q1 q2
    simp [g_fraction, hw, hd, hb, hneg, e1, e2, q1, q2]
  · have hpos : 0 < b := by omega
    have hg0 : ((Int.gcd a b : Nat) : Int) ≠ 0 := by omega
    have e1 : fdvD (.int a) (.int ((Int.gcd a b : Nat) : Int)) = some (.int (a.fdiv ((Int.gcd a b : Nat) : Int))) := fdvD_ok hg0 sz
    have e2 : fdvD (.int b) (.int ((Int.gcd a b : Nat) : Int)) = some (.int (b.fdiv ((Int.gcd a b : Nat) : Int))) := fdvD_ok hg0 sz
    have q1 : a.fdiv ((Int.gcd a b : Nat) : Int) = b.sign * a / ((Int.gcd a b : Nat) : Int) := by
      rw [Int.sign_eq_one_of_pos hpos, Int.one_mul, Int.fdiv_eq_ediv_of_nonneg _ (by omega)]
    have q2 : b.fdiv ((Int.gcd a b : Nat) : Int) = (b.natAbs / Int.gcd a b : Nat) := by
      rw [Int.fdiv_eq_ediv_of_nonneg _ (by omega)]
      have : b = (b.natAbs : Int) := by omega
      conv => lhs; rw [this]
      simp [Int.gcd]
    simp [g_fraction, hw, hd, hb, hneg, e1, e2, q1, q2]
theorem fraction_eq {a b : Int} (hb : b ≠ 0) (hs : b.natAbs < 2 ^ 9000) : m_fraction [.int a, .int b] = some (.sh (enc (Rat.divInt a b))) :=
  fraction_gcd hb (Nat.lt_of_le_of_lt (Nat.le_of_dvd (by omega) (Int.gcd_dvd_natAbs_right a b)) hs)
def rsum : List Rat → Rat
  | [] => 0
  | q :: qs => q + rsum qs
theorem enc0 : enc 0 = .tup [.int 0, .int 1] := rfl
theorem sz0 : Sz 0 1 := ⟨by decide, by decide⟩
theorem sz_rsum {m : Nat} : ∀ {qs : List Rat}, (∀ q ∈ qs, Sz q m) → Sz (rsum qs) (1 + qs.length * (m + 1))
  | [], _ => by simpa [rsum] using sz0
  | q :: qs, h => by
    have a := h q List.mem_cons_self
    have b := sz_rsum (qs := qs) fun y hy => h y (List.mem_cons_of_mem _ hy)
    have c := a.add b
    refine c.mono ?_
    simp only [List.length_cons, Nat.add_mul]
    omega
/-! ### steps and small sums -/
theorem fmod_range {a b : Int} (h : 0 < b) : 0 ≤ a.fmod b ∧ a.fmod b < b := by
  rw [Int.fmod_eq_emod_of_nonneg a (by omega)]
  exact ⟨Int.emod_nonneg a (by omega), Int.emod_lt_of_pos a h⟩
theorem ntst_of {f : List OT → Option Dat} {e : List OT} {b : Bool} (h : f e = some (.bl b)) : notB (tst f) e = some (!b) := by simp only [notB, tst, h, Option.map_some]
theorem tst_of {f : List OT → Option Dat} {e : List OT} {b : Bool} (h : f e = some (.bl b)) : tst f e = some b := by simp only [tst, h]
theorem app_of {i : Nat} {f : List OT → Option Dat} {e e1 : List OT} {xs : List OT} {d : Dat} (h1 : e[i]? = some (.lst xs)) (h2 : f e = some d) (hl : xs.length < 16000000) (he : e.set i (.lst (xs ++ [.sh d])) = e1) : appS i f e = some (.nx e1) := by
  simp only [appS, h1, h2, if_pos hl, he]
theorem nil_of (e : List OT) : nilA e = some [] := rfl
theorem cn_of (d : Dat) (e : List OT) : cn d e = some d := rfl
theorem fdvD_lit {i j : Int} (h : j ≠ 0) (hj : j.natAbs < 2 ^ 200) : fdvD (.int i) (.int j) = some (.int (i.fdiv j)) := fdvD_ok h (Nat.lt_of_lt_of_le hj (Nat.pow_le_pow_right (by decide) (by decide)))
theorem low_enc {a b : Int} (hb : 0 < b) : enc (Rat.divInt a b) = .tup [.int (a.fdiv ((Int.gcd a b : Nat) : Int)), .int (b.fdiv ((Int.gcd a b : Nat) : Int))] := by
  have q1 : a.fdiv ((Int.gcd a b : Nat) : Int) = b.sign * a / ((Int.gcd a b : Nat) : Int) := by
    rw [Int.sign_eq_one_of_pos hb, Int.one_mul, Int.fdiv_eq_ediv_of_nonneg _ (by omega)]
  have q2 : b.fdiv ((Int.gcd a b : Nat) : Int) = (b.natAbs / Int.gcd a b : Nat) := by
    rw [Int.fdiv_eq_ediv_of_nonneg _ (by omega)]
    have : b = (b.natAbs : Int) := by omega
    conv => lhs; rw [this]
    simp [Int.gcd]
  unfold enc
  rw [Rat.num_divInt, Rat.den_divInt, if_neg (show b ≠ 0 by omega), Int.gcd_comm b a, q1, q2]
theorem gcd_pos_r {a b : Int} (hb : b ≠ 0) : ((Int.gcd a b : Nat) : Int) ≠ 0 := by
  have : 0 < Int.gcd a b := Int.gcd_pos_iff.mpr (.inr hb)
  omega
theorem gcd_lt_r {a b : Int} {n : Nat} (hb : b ≠ 0) (hs : b.natAbs < 2 ^ n) : ((Int.gcd a b : Nat) : Int).natAbs < 2 ^ n := by
  rw [Int.natAbs_natCast]
  exact Nat.lt_of_le_of_lt (Nat.le_of_dvd (by omega) (Int.gcd_dvd_natAbs_right a b)) hs
theorem gcd_red (q : Rat) : Int.gcd q.num (q.den : Int) = 1 := q.reduced
theorem rsum_app : ∀ (xs ys : List Rat), rsum (xs ++ ys) = rsum xs + rsum ys
  | [], ys => by simp [rsum, Rat.zero_add]
  | x :: xs, ys => by simp [rsum, rsum_app xs ys, Rat.add_assoc]
theorem rsum_rev : ∀ xs : List Rat, rsum xs.reverse = rsum xs
  | [] => rfl
  | x :: xs => by simp [rsum_app, rsum_rev xs, rsum, Rat.add_comm, Rat.zero_add, Rat.add_zero]
theorem divInt_one_iff {t b : Int} (hb : 0 < b) (r : Rat) : t * (r.den : Int) = r.num * b ↔ Rat.divInt t b = r := by
  conv => rhs; rhs; rw [← divInt_self r]
  exact (Rat.divInt_eq_divInt_iff (by omega) (den_ne r)).symm
theorem plain_encs (qs : List Rat) : Plain (.lst (qs.map enc)) 2 := .lst fun d h => by
  obtain ⟨q, _, rfl⟩ := List.mem_map.mp h
  exact plain_enc q
theorem lawdiv_eq (a b : Int) : m_law_divisor [.int a, .int b] = some (.sh (.int (Int.gcd a b : Nat))) := by
  have habs : ∀ x : Int, (if x < 0 then -x else x) = (x.natAbs : Int) := fun x => by split <;> omega
  obtain ⟨c, h1, h2, h3⟩ := gcd_loop b.natAbs a.natAbs b.natAbs (by simp)
  have hc : c = (Int.gcd a b : Nat) := by
    have := h2 (by omega) (by omega)
    have e : Int.gcd (a.natAbs : Int) (b.natAbs : Int) = Int.gcd a b := by simp [Int.gcd]
    rw [e] at h1
    omega
  subst hc
  rw [m_law_divisor, fn_len (by rfl)]
  simp [g_law_divisor, habs, h3]
theorem plain_eq (a : Int) : m_law_plain [.int a] = some (.sh (.bl true)) := by
  rw [m_law_plain, fn_len (by rfl)]
  simp [g_law_plain]
theorem low_eq (q : Rat) : m_law_lowest [enc q] = some (.sh (.bl true)) := by
  have hd := lawdiv_eq q.num (q.den : Int)
  rw [gcd_red] at hd
  have hp : 0 < q.den := Nat.pos_of_ne_zero q.den_nz
  have h1 : ¬ ((q.den : Int) < 1) := by omega
  rw [m_law_lowest, fn_len (by rfl)]
  simp [g_law_lowest, enc, hd, h1, plain_eq]
def isInt : Dat → Bool
  | .int _ => true
  | _ => false
/-- what is no whole number -/
inductive Odd : Dat → Prop
  | bl (b : Bool) : Odd (.bl b)
  | non : Odd .non
  | str (x : Str) : Odd (.str x)
  | tup (xs : List Dat) : Odd (.tup xs)
  | lst (xs : List Dat) : Odd (.lst xs)
  | dct (ks : List Key) (xs : List Dat) : Odd (.dct ks xs)
theorem whole_odd {d : Dat} (h : Odd d) : m_is_whole [d] = some (.sh (.bl false)) := by
  rw [m_is_whole, fn_len (by rfl)]
  cases h <;> simp [g_is_whole]
theorem frac_odd1 {d e : Dat} (h : Odd d) : mX_fraction [d, e] = some (.ex "NoNumber" [] []) := by
  have w := whole_odd h
  rw [mX_fraction, fx_len (by rfl)]
  simp [g_fraction, w]
theorem frac_odd2 {i : Int} {e : Dat} (h : Odd e) : mX_fraction [.int i, e] = some (.ex "NoNumber" [] []) := by
  have w := whole_odd h
  rw [mX_fraction, fx_len (by rfl)]
  simp [g_fraction, w, is_whole_eq]
theorem frac_0 {i : Int} : mX_fraction [.int i, .int 0] = some (.ex "NoNumber" [] []) := by
  rw [mX_fraction, fx_len (by rfl)]
  simp [g_fraction, is_whole_eq]
theorem refused_eq {t b : Dat} (h : mX_fraction [t, b] = some (.ex "NoNumber" [] [])) : m_law_refused [t, b] = some (.sh (.bl true)) := by
  rw [m_law_refused, fn_len (by rfl)]
  simp [g_law_refused, tryS, handS, nexO, unO, tab_OhmError, tab_NoNumber, tab_ValueError, tab_Floats_Held_Lame_NoName_NoPoint_NoRoad, tab_NoRow_NoSize_NoStreams_NoWord_Ring_TooMany, h]
theorem alone_eq {t : Dat} (h : Odd t) : m_law_refused_alone [t] = some (.sh (.bl true)) := by
  have f : mX_fraction1 [t] = some (.ex "NoNumber" [] []) := frac_odd1 h
  rw [m_law_refused_alone, fn_len (by rfl)]
  simp [g_law_refused_alone, tryS, handS, nexO, tab_NoNumber, f]
theorem number_eq (c : Int) : ∃ n : Int, n.natAbs < 2 ^ 101 ∧ m_law_number [.int c] = some (.sh (.int n)) := by
  have r1 := fmod_range (a := c) (b := 2000000000000000000000000000001) (by decide)
  generalize h1 : c.fmod 2000000000000000000000000000001 = x at r1
  have r2 := fmod_range (a := x.fdiv 4) (b := 13) (by decide)
  generalize h2 : (x.fdiv 4).fmod 13 = y at r2
  rw [m_law_number, fn_len (by rfl)]
  by_cases z : x.fmod 4 = 1
  · refine ⟨y - 6, by omega, ?_⟩
    simp [g_law_number, powD, mulD_l, mulD_r, modD_ok, fdvD_lit, h1, h2, z]
  · refine ⟨x - 1000000000000000000000000000000, by omega, ?_⟩
    simp [g_law_number, powD, mulD_l, mulD_r, modD_ok, fdvD_lit, h1, h2, z]
/-- is_fraction -/
theorem isf_enc (q : Rat) : m_is_fraction [enc q] = some (.sh (.bl true)) := by
  have hd := divisor_eq q.num (q.den : Int)
  rw [gcd_red] at hd
  have hp : 0 < q.den := Nat.pos_of_ne_zero q.den_nz
  have h1 : ¬ ((q.den : Int) < 1) := by omega
  rw [m_is_fraction, fn_len (by rfl)]
  simp [g_is_fraction, enc, hd, h1, is_whole_eq]
theorem isf_gcd {a b : Int} (h : Int.gcd a b ≠ 1) : m_is_fraction [.tup [.int a, .int b]] = some (.sh (.bl false)) := by
  have hd := divisor_eq a b
  rw [m_is_fraction, fn_len (by rfl)]
  by_cases hb : b < 1
  · simp [g_is_fraction, is_whole_eq, hb]
  · simp [g_is_fraction, is_whole_eq, hb, hd]
    omega
theorem isf_low {a b : Int} (h : b < 1) : m_is_fraction [.tup [.int a, .int b]] = some (.sh (.bl false)) := by
  rw [m_is_fraction, fn_len (by rfl)]
  simp [g_is_fraction, is_whole_eq, h]
theorem isf_odd1 {d e : Dat} (h : Odd d) : m_is_fraction [.tup [d, e]] = some (.sh (.bl false)) := by
  have w := whole_odd h
  rw [m_is_fraction, fn_len (by rfl)]
  simp [g_is_fraction, w]
theorem isf_odd2 {i : Int} {e : Dat} (h : Odd e) : m_is_fraction [.tup [.int i, e]] = some (.sh (.bl false)) := by
  have w := whole_odd h
  rw [m_is_fraction, fn_len (by rfl)]
  simp [g_is_fraction, w, is_whole_eq]
theorem isf_not {d : Dat} (h : ∀ xs, d ≠ .tup xs) (ho : d.ty ≠ none ∧ ∀ c ns xs, d ≠ .exn c ns xs) : m_is_fraction [d] = some (.sh (.bl false)) := by
  rw [m_is_fraction, fn_len (by rfl)]
  cases d with
  | tup xs => exact absurd rfl (h xs)
  | exn c ns xs => exact absurd rfl (ho.2 c ns xs)
  | obj c ns xs => exact absurd rfl ho.1
  | non => simp [g_is_fraction]
  | bl b => simp [g_is_fraction]
  | int i => simp [g_is_fraction]
  | str x => simp [g_is_fraction]
  | lst xs => simp [g_is_fraction]
  | dct ks xs => simp [g_is_fraction]
theorem isf_one {d : Dat} : m_is_fraction [.tup [d]] = some (.sh (.bl false)) := by
  rw [m_is_fraction, fn_len (by rfl)]
  simp [g_is_fraction]
theorem isf_three {a b c : Dat} : m_is_fraction [.tup [a, b, c]] = some (.sh (.bl false)) := by
  rw [m_is_fraction, fn_len (by rfl)]
  simp [g_is_fraction]
theorem told_apart_eq {q : Rat} {n : Nat} (hq : Sz q n) (hn : n < 100000) : m_law_told_apart [enc q] = some (.sh (.bl true)) := by
  have qd : (0 : Int) < q.den := by have := q.den_nz; omega
  have e0 := isf_enc q
  have p1 : prdD (.int 2) (.int q.num) = some (.int (2 * q.num)) := mulD_l (by decide)
  have p2 : prdD (.int 2) (.int (q.den : Int)) = some (.int (2 * (q.den : Int))) := mulD_l (by decide)
  have e1 : m_is_fraction [.tup [.int (2 * q.num), .int (2 * (q.den : Int))]] = some (.sh (.bl false)) := isf_gcd (by rw [Int.gcd_mul_left, gcd_red]; decide)
  have f1 : m_is_fraction [.tup [.int q.num, .int (0 - (q.den : Int))]] = some (.sh (.bl false)) := isf_low (by omega)
  have f2 : m_is_fraction [.tup [.int q.num, .int 0]] = some (.sh (.bl false)) := isf_low (by decide)
  have f3 : m_is_fraction [.lst [.int q.num, .int (q.den : Int)]] = some (.sh (.bl false)) := isf_not (fun _ => nofun) ⟨nofun, fun _ _ _ => nofun⟩
  have f4 : m_is_fraction [.tup [.int q.num]] = some (.sh (.bl false)) := isf_one
  have f5 : m_is_fraction [.tup [.int q.num, .int (q.den : Int), .int 1]] = some (.sh (.bl false)) := isf_three
  have f6 : m_is_fraction [.int q.num] = some (.sh (.bl false)) := isf_not (fun _ => nofun) ⟨nofun, fun _ _ _ => nofun⟩
  have f7 : m_is_fraction [.non] = some (.sh (.bl false)) := isf_not (fun _ => nofun) ⟨nofun, fun _ _ _ => nofun⟩
  have f8 : ∀ x, m_is_fraction [.str x] = some (.sh (.bl false)) := fun x => isf_not (fun _ => nofun) ⟨nofun, fun _ _ _ => nofun⟩
  have f9 : m_is_fraction [.dct [] []] = some (.sh (.bl false)) := isf_not (fun _ => nofun) ⟨nofun, fun _ _ _ => nofun⟩
  have g1 : m_is_fraction [.tup [.lst [.int q.num], .int (q.den : Int)]] = some (.sh (.bl false)) := isf_odd1 (.lst _)
  have g2 : m_is_fraction [.tup [.int q.num, .lst [.int (q.den : Int)]]] = some (.sh (.bl false)) := isf_odd2 (.lst _)
  have g3 : m_is_fraction [.tup [.dct [] [], .int (q.den : Int)]] = some (.sh (.bl false)) := isf_odd1 (.dct _ _)
  have h1 : m_is_fraction [.tup [.bl true, .int 1]] = some (.sh (.bl false)) := isf_odd1 (.bl _)
  have h2 : m_is_fraction [.tup [.int q.num, .bl true]] = some (.sh (.bl false)) := isf_odd2 (.bl _)
  have sl : ∀ xs ys : List Dat, sumD (.lst xs) (.lst ys) = if xs.length + ys.length ≤ 16000000 then some (.lst (xs ++ ys)) else none := fun _ _ => rfl
  rw [m_law_told_apart, fn_len (by rfl)]
  unfold enc at e0 ⊢
  simp only [Int.zero_sub] at f1
  simp [g_law_told_apart, forS, loopS, e0, p1, p2, e1, sl, f1, f2, f3, f4, f5, f6, f7, f8, f9, g1, g2, g3, h1, h2]
theorem cut_at {α : Type} (xs : List α) (k : Nat) : cutD xs (some (k : Int)) (some ((k : Int) + 1)) = (match xs[k]? with | some x => [x] | none => []) := by
  have e : (k : Int) + 1 = ((k + 1 : Nat) : Int) := by omega
  unfold cutD
  rw [e, HT.sIx_nat, HT.sIx_nat]
  by_cases h : k < xs.length
  · have h1 : min k xs.length = k := by omega
    have h2 : min (k + 1) xs.length = k + 1 := by omega
    have h3 : k + 1 - k = 1 := by omega
    rw [h1, h2, h3, List.drop_eq_getElem_cons h, List.getElem?_eq_getElem h]
    rfl
  · have h1 : min k xs.length = xs.length := by omega
    have h2 : min (k + 1) xs.length = xs.length := by omega
    have h3 : xs[k]? = none := List.getElem?_eq_none_iff.mpr (by omega)
    rw [h1, h2, h3]
    simp
theorem sum_lst (xs ys : List Dat) : sumD (.lst xs) (.lst ys) = if xs.length + ys.length ≤ 16000000 then some (.lst (xs ++ ys)) else none := rfl
theorem pick_eq (ns : List Int) (k : Nat) : ∃ c : Int, m_law_pick [.lst (ns.map .int), .int (k : Int)] = some (.sh (.int c)) := by
  have hc := cut_at (ns.map Dat.int) k
  rw [List.getElem?_map] at hc
  rw [m_law_pick, fn_len (by rfl)]
  cases h : ns[k]? with
  | some c =>
    rw [h] at hc
    simp only [Option.map_some] at hc
    exact ⟨c, by simp [g_law_pick, sliF, hc, sum_lst]⟩
  | none =>
    rw [h] at hc
    simp only [Option.map_none] at hc
    exact ⟨0, by simp [g_law_pick, sliF, hc, sum_lst]⟩
theorem cross_divInt {t b : Int} (hb : b ≠ 0) : (Rat.divInt t b).num * b = t * ((Rat.divInt t b).den : Int) :=
  (Rat.divInt_eq_divInt_iff (d₁ := ((Rat.divInt t b).den : Int)) (d₂ := b) (n₁ := (Rat.divInt t b).num) (n₂ := t) (den_ne _) hb).mp (divInt_self _)
noncomputable def bodyG : List OT → Option Out := (seqO (setS 2 (DL.bin sumD (cn (.int 1)) (DL.bin modD (DL.bin prdD (DL.bin modD (mlt (callO 2 m_law_pick (consA (vr 0) (consA (vr 1) nilA)))) (cn (.int 1000003))) (cn (.int 48271))) (cn (.int 999983)))))
    (seqO (setS 3 (DL.bin prdD (mlt (callO 1 m_law_number (consA (mlt (callO 2 m_law_pick (consA (vr 0) (consA (DL.bin prdD (cn (.int 2)) (vr 1)) nilA)))) nilA))) (vr 2)))
    (seqO (setS 4 (DL.bin prdD (mlt (callO 1 m_law_number (consA (mlt (callO 2 m_law_pick (consA (vr 0) (consA (DL.bin sumD (DL.bin prdD (cn (.int 2)) (vr 1)) (cn (.int 1))) nilA)))) nilA))) (vr 2)))
    (seqO (ifS (tst (DL.bin eqD (vr 4) (cn (.int 0)))) (seqO (ifS (notB (tst (mlt (callO 2 m_law_refused (consA (vr 3) (consA (vr 4) nilA)))))) (retS (cn (.bl false))) skipO)
    (setS 4 (vr 2))) skipO)
    (seqO (setS 5 (mlt (callO 2 m_fraction (consA (vr 3) (consA (vr 4) nilA)))))
    (seqO (ifS (orB (notB (tst (mlt (callO 1 m_law_lowest (consA (vr 5) nilA))))) (tst (DL.bin neD (DL.bin prdD (DL.bin ixD (vr 5) (cn (.int 0))) (vr 4)) (DL.bin prdD (vr 3) (DL.bin ixD (vr 5) (cn (.int 1))))))) (retS (cn (.bl false))) skipO)
    (seqO (setS 6 (mlt (callO 1 m_fraction1 (consA (vr 3) nilA))))
    (seqO (ifS (orB (notB (tst (mlt (callO 1 m_law_lowest (consA (vr 6) nilA))))) (orB (tst (DL.bin neD (vr 6) (tupD (consA (vr 3) (consA (cn (.int 1)) nilA))))) (notB (tst (mlt (callO 1 m_law_told_apart (consA (vr 5) nilA))))))) (retS (cn (.bl false))) skipO)
    (ifS (orB (tst (DL.bin isnBD (mlt (callO 1 m_is_whole (consA (vr 3) nilA))) (cn (.bl true)))) (tst (DL.bin isnBD (mlt (callO 1 m_is_whole (consA (vr 4) nilA))) (cn (.bl true))))) (retS (cn (.bl false))) skipO)))))))))
theorem tail_eq (s0 s1 s7 : OT) (f t b : Int) (hf : f.natAbs < 2 ^ 20) (ht : t.natAbs < 2 ^ 121) (hb : b.natAbs < 2 ^ 121) (hz : b ≠ 0) (x5 x6 : OT) : ∃ y5 y6 : OT,
    (seqO (setS 5 (mlt (callO 2 m_fraction (consA (vr 3) (consA (vr 4) nilA)))))
    (seqO (ifS (orB (notB (tst (mlt (callO 1 m_law_lowest (consA (vr 5) nilA))))) (tst (DL.bin neD (DL.bin prdD (DL.bin ixD (vr 5) (cn (.int 0))) (vr 4)) (DL.bin prdD (vr 3) (DL.bin ixD (vr 5) (cn (.int 1))))))) (retS (cn (.bl false))) skipO)
    (seqO (setS 6 (mlt (callO 1 m_fraction1 (consA (vr 3) nilA))))
    (seqO (ifS (orB (notB (tst (mlt (callO 1 m_law_lowest (consA (vr 6) nilA))))) (orB (tst (DL.bin neD (vr 6) (tupD (consA (vr 3) (consA (cn (.int 1)) nilA))))) (notB (tst (mlt (callO 1 m_law_told_apart (consA (vr 5) nilA))))))) (retS (cn (.bl false))) skipO)
    (ifS (orB (tst (DL.bin isnBD (mlt (callO 1 m_is_whole (consA (vr 3) nilA))) (cn (.bl true)))) (tst (DL.bin isnBD (mlt (callO 1 m_is_whole (consA (vr 4) nilA))) (cn (.bl true))))) (retS (cn (.bl false))) skipO))))) [s0, s1, .sh (.int f), .sh (.int t), .sh (.int b), x5, x6, s7]
    = some (.nx [s0, s1, .sh (.int f), .sh (.int t), .sh (.int b), y5, y6, s7]) := by
  have up : ∀ {x : Int}, x.natAbs < 2 ^ 121 → x.natAbs < 2 ^ 9000 := fun h => Nat.lt_of_lt_of_le h (Nat.pow_le_pow_right (by decide) (by decide))
  have fr := fraction_eq (a := t) hz (up hb)
  have fr1 : m_fraction1 [.int t] = some (.sh (enc (Rat.divInt t 1))) := by
    have z := fraction_eq (a := t) (b := 1) (by decide) (up (by decide))
    rw [m_fraction1]
    exact ok_iff.mpr (ok_iff.mp z)
  have e1 : enc (Rat.divInt t 1) = .tup [.int t, .int 1] := by
    rw [low_enc (by decide)]
    simp
  have sz := sz_divInt (n := 121) (a := t) (b := b) (by decide) ht hb
  have ta := told_apart_eq sz (by decide)
  have l0 := low_eq (Rat.divInt t b)
  have l1 := low_eq (Rat.divInt t 1)
  have cr := cross_divInt (t := t) hz
  have q1 : eqB (enc (Rat.divInt t 1)) (.tup [.int t, .int 1]) = some true := by
    rw [← e1]
    exact eqB_self (plain_enc _) (by decide)
  have m1 : prdD (.int (Rat.divInt t b).num) (.int b) = some (.int ((Rat.divInt t b).num * b)) := prdD_ok sz.1 hb (by decide)
  have m2 : prdD (.int t) (.int ((Rat.divInt t b).den : Int)) = some (.int (t * ((Rat.divInt t b).den : Int))) := prdD_ok ht sz.2 (by decide)
  refine ⟨.sh (enc (Rat.divInt t b)), .sh (enc (Rat.divInt t 1)), ?_⟩
  rw [e1] at fr1 l1 q1 ⊢
  unfold enc at fr l0 ta ⊢
  simp [fr, fr1, l0, l1, ta, m1, m2, cr, q1, is_whole_eq]
theorem body_eq (ns : List Int) (k : Nat) (x2 x3 x4 x5 x6 s7 : OT) : ∃ y2 y3 y4 y5 y6 : OT, bodyG [.sh (.lst (ns.map .int)), .sh (.int (k : Int)), x2, x3, x4, x5, x6, s7] = some (.nx [.sh (.lst (ns.map .int)), .sh (.int (k : Int)), y2, y3, y4, y5, y6, s7]) := by
  obtain ⟨a, ha⟩ := pick_eq ns k
  obtain ⟨b, hb⟩ := pick_eq ns (2 * k)
  obtain ⟨c, hc⟩ := pick_eq ns (2 * k + 1)
  obtain ⟨t, ht, nt⟩ := number_eq b
  obtain ⟨u, hu, nu⟩ := number_eq c
  have r := fmod_range (a := a.fmod 1000003 * 48271) (b := 999983) (by decide)
  generalize hw : (a.fmod 1000003 * 48271).fmod 999983 = w at r
  have hf : (1 + w).natAbs < 2 ^ 20 := by omega
  have e1 : prdD (.int 2) (.int (k : Int)) = some (.int (2 * (k : Int))) := mulD_l (by decide)
  have e2 : prdD (.int t) (.int (1 + w)) = some (.int (t * (1 + w))) := mulD_r (Nat.lt_of_lt_of_le hf (Nat.pow_le_pow_right (by decide) (by decide)))
  have e3 : prdD (.int u) (.int (1 + w)) = some (.int (u * (1 + w))) := mulD_r (Nat.lt_of_lt_of_le hf (Nat.pow_le_pow_right (by decide) (by decide)))
  have st : (t * (1 + w)).natAbs < 2 ^ 121 := imul_lt (n := 101) (m := 20) ht hf
  have su : (u * (1 + w)).natAbs < 2 ^ 121 := imul_lt (n := 101) (m := 20) hu hf
  have hb' : m_law_pick [.lst (ns.map .int), .int (2 * (k : Int))] = some (.sh (.int b)) := by simpa using hb
  have hc' : m_law_pick [.lst (ns.map .int), .int (2 * (k : Int) + 1)] = some (.sh (.int c)) := by simpa using hc
  by_cases z : u * (1 + w) = 0
  · obtain ⟨y5, y6, T⟩ := tail_eq (.sh (.lst (ns.map .int))) (.sh (.int (k : Int))) s7 (1 + w) (t * (1 + w)) (1 + w) hf st (Nat.lt_of_lt_of_le hf (Nat.pow_le_pow_right (by decide) (by decide))) (by omega) x5 x6
    have rf := refused_eq (frac_0 (i := t * (1 + w)))
    refine ⟨.sh (.int (1 + w)), .sh (.int (t * (1 + w))), .sh (.int (1 + w)), y5, y6, ?_⟩
    refine seq_nx (e1 := [.sh (.lst (ns.map .int)), .sh (.int (k : Int)), .sh (.int (1 + w)), x3, x4, x5, x6, s7]) (by simp [ha, modD_ok, mulD_r, hw]) ?_
    refine seq_nx (e1 := [.sh (.lst (ns.map .int)), .sh (.int (k : Int)), .sh (.int (1 + w)), .sh (.int (t * (1 + w))), x4, x5, x6, s7]) (by simp [e1, hb', nt, e2]) ?_
    refine seq_nx (e1 := [.sh (.lst (ns.map .int)), .sh (.int (k : Int)), .sh (.int (1 + w)), .sh (.int (t * (1 + w))), .sh (.int 0), x5, x6, s7]) (by simp only [setS, DL.bin, cn]; simp [e1, hc', nu, e3, z]) ?_
    refine seq_nx (e1 := [.sh (.lst (ns.map .int)), .sh (.int (k : Int)), .sh (.int (1 + w)), .sh (.int (t * (1 + w))), .sh (.int (1 + w)), x5, x6, s7]) (by simp [rf]) ?_
    exact T
  · obtain ⟨y5, y6, T⟩ := tail_eq (.sh (.lst (ns.map .int))) (.sh (.int (k : Int))) s7 (1 + w) (t * (1 + w)) (u * (1 + w)) hf st su z x5 x6
    refine ⟨.sh (.int (1 + w)), .sh (.int (t * (1 + w))), .sh (.int (u * (1 + w))), y5, y6, ?_⟩
    refine seq_nx (e1 := [.sh (.lst (ns.map .int)), .sh (.int (k : Int)), .sh (.int (1 + w)), x3, x4, x5, x6, s7]) (by simp [ha, modD_ok, mulD_r, hw]) ?_
    refine seq_nx (e1 := [.sh (.lst (ns.map .int)), .sh (.int (k : Int)), .sh (.int (1 + w)), .sh (.int (t * (1 + w))), x4, x5, x6, s7]) (by simp [e1, hb', nt, e2]) ?_
    refine seq_nx (e1 := [.sh (.lst (ns.map .int)), .sh (.int (k : Int)), .sh (.int (1 + w)), .sh (.int (t * (1 + w))), .sh (.int (u * (1 + w))), x5, x6, s7]) (by simp [e1, hc', nu, e3]) ?_
    refine seq_nx (e1 := [.sh (.lst (ns.map .int)), .sh (.int (k : Int)), .sh (.int (1 + w)), .sh (.int (t * (1 + w))), .sh (.int (u * (1 + w))), x5, x6, s7]) (if_f (by simp only [tst, DL.bin, vr, cn, List.getElem?_cons_succ, List.getElem?_cons_zero, eqD, eqB_int, Option.map_some, decide_eq_false z]) rfl) ?_
    exact T
theorem body_loop (ns : List Int) (s7 : OT) : ∀ (js : List Nat) (x1 x2 x3 x4 x5 x6 : OT), ∃ y1 y2 y3 y4 y5 y6 : OT, loopS (toN 1) bodyG (js.map fun (j : Nat) => Dat.int (j : Int)) [.sh (.lst (ns.map .int)), x1, x2, x3, x4, x5, x6, s7] = some (.nx [.sh (.lst (ns.map .int)), y1, y2, y3, y4, y5, y6, s7])
  | [], x1, x2, x3, x4, x5, x6 => ⟨x1, x2, x3, x4, x5, x6, rfl⟩
  | j :: js, x1, x2, x3, x4, x5, x6 => by
    obtain ⟨y2, y3, y4, y5, y6, hb⟩ := body_eq ns j x2 x3 x4 x5 x6 s7
    obtain ⟨z1, z2, z3, z4, z5, z6, h⟩ := body_loop ns s7 js (.sh (.int (j : Int))) y2 y3 y4 y5 y6
    refine ⟨z1, z2, z3, z4, z5, z6, ?_⟩
    rw [List.map_cons, loop_cons (e1 := [.sh (.lst (ns.map .int)), .sh (.int (j : Int)), x2, x3, x4, x5, x6, s7]) rfl, hb]
    exact h
theorem law_true (ns : List Int) (h63 : ns.length ≤ 63) : m_law [.lst (ns.map .int)] = some (.sh (.bl true)) := by
  obtain ⟨c0, hc0⟩ := pick_eq ns 0
  have m0 : modD (.int c0) (.int 6) = some (.int (c0.fmod 6)) := modD_ok (by decide)
  have r := fmod_range (a := c0) (b := 6) (by decide)
  obtain ⟨M, hM1, hM⟩ : ∃ M : Nat, M ≤ 20 ∧ rng1 (consA (cal max2D (consA (cn (.int 1)) (consA (DL.bin fdvD (cal min2D (consA (cal lenD (consA (vr 0) nilA)) (consA (cn (.int 40)) nilA))) (cn (.int 2))) nilA))) nilA) [.sh (.lst (ns.map .int)), .un, .un, .un, .un, .un, .un, .un] = some ((List.range M).map fun (i : Nat) => Dat.int (i : Int)) := by
    have e0 : (if (40 : Int) < (ns.length : Int) then (40 : Int) else (ns.length : Int)) = ((min ns.length 40 : Nat) : Int) := by split <;> omega
    have f : fdvD (.int ((min ns.length 40 : Nat) : Int)) (.int 2) = some (.int ((min ns.length 40 / 2 : Nat) : Int)) := by
      rw [fdvD_lit (by decide) (by decide), Int.fdiv_eq_ediv_of_nonneg _ (by omega)]
      rfl
    have e1 : (if ((min ns.length 40 / 2 : Nat) : Int) > 1 then ((min ns.length 40 / 2 : Nat) : Int) else 1) = ((max 1 (min ns.length 40 / 2) : Nat) : Int) := by split <;> omega
    refine ⟨max 1 (min ns.length 40 / 2), by omega, rng1_eq ?_ (by omega)⟩
    simp only [cal, consA, nilA, cn, DL.bin, vr, List.getElem?_cons_zero, len_lst, min2D, List.length_map, e0, f, max2D, e1]
  obtain ⟨y1, y2, y3, y4, y5, y6, hl⟩ := body_loop ns .un (List.range M) .un .un .un .un .un .un
  have odd : ∃ d : Dat, Odd d ∧ L2.atI [Dat.bl true, .non, .str "3", .tup [.int 1, .int 2], .lst [.int 3], .dct [] []] (c0.fmod 6) = some d := by
    have : c0.fmod 6 = 0 ∨ c0.fmod 6 = 1 ∨ c0.fmod 6 = 2 ∨ c0.fmod 6 = 3 ∨ c0.fmod 6 = 4 ∨ c0.fmod 6 = 5 := by omega
    rcases this with h | h | h | h | h | h <;> rw [h]
    · exact ⟨_, .bl _, rfl⟩
    · exact ⟨_, .non, rfl⟩
    · exact ⟨_, .str _, rfl⟩
    · exact ⟨_, .tup _, rfl⟩
    · exact ⟨_, .lst _, rfl⟩
    · exact ⟨_, .dct _ _, rfl⟩
  obtain ⟨d, od, hd⟩ := odd
  have w1 := whole_odd od
  have w2 := whole_odd (.bl false)
  have a1 := alone_eq od
  have f1 := refused_eq (frac_odd1 (e := .int 1) od)
  have f2 := refused_eq (frac_odd2 (i := 1) od)
  have f3 := refused_eq (frac_0 (i := 0))
  let E (x : OT) : List OT := [.sh (.lst (ns.map .int)), y1, y2, y3, y4, y5, y6, x]
  refine fn_rt (e := E (.sh d)) rfl ?_
  refine seq_nx (e1 := E .un) (for_of hM hl) ?_
  simp at hc0
  refine seq_nx (e1 := E (.sh d)) (by simp [E, hc0, m0, hd]) ?_
  simp [E, w1, w2, a1, f1, f2, f3]
end Pf
namespace Pf
open PySem L2 DL PyProof.Rows

def top (i : Nat) : Stmt := PySem.Challenge.pw_ohmyard_k01_a_fraction.main.body.getD i (.Pass ⟨0, 0, 0, 0⟩)
abbrev s_divisor : Stmt := top 17
abbrev N_divisor : List Str := ["one", "other"]
theorem sc_divisor : FnScope N_divisor ["one", "other"] (defScope s_divisor) := ⟨rfl, rfl, rfl, by decide +kernel, rfl, by decide +kernel, by decide +kernel⟩
abbrev s_is_whole : Stmt := top 16
abbrev N_is_whole : List Str := ["thing"]
theorem sc_is_whole : FnScope N_is_whole ["thing"] (defScope s_is_whole) := ⟨rfl, rfl, rfl, by decide +kernel, rfl, by decide +kernel, by decide +kernel⟩
abbrev s_fraction : Stmt := top 19
abbrev N_fraction : List Str := ["top", "bottom", "share"]
theorem sc_fraction : FnScope N_fraction ["top", "bottom"] (defScope s_fraction) := ⟨rfl, rfl, rfl, by decide +kernel, rfl, by decide +kernel, by decide +kernel⟩
abbrev s_law_refused_alone : Stmt := top 27
abbrev N_law_refused_alone : List Str := ["top", "refused"]
theorem sc_law_refused_alone : FnScope N_law_refused_alone ["top"] (defScope s_law_refused_alone) := ⟨rfl, rfl, rfl, by decide +kernel, rfl, by decide +kernel, by decide +kernel⟩
abbrev s_law_refused : Stmt := top 26
abbrev N_law_refused : List Str := ["top", "bottom", "kept", "e"]
theorem sc_law_refused : FnScope N_law_refused ["top", "bottom"] (defScope s_law_refused) := ⟨rfl, rfl, rfl, by decide +kernel, rfl, by decide +kernel, by decide +kernel⟩
abbrev s_law_number : Stmt := top 24
abbrev N_law_number : List Str := ["cell", "number"]
theorem sc_law_number : FnScope N_law_number ["cell"] (defScope s_law_number) := ⟨rfl, rfl, rfl, by decide +kernel, rfl, by decide +kernel, by decide +kernel⟩
abbrev s_law_pick : Stmt := top 21
abbrev N_law_pick : List Str := ["script", "k"]
theorem sc_law_pick : FnScope N_law_pick ["script", "k"] (defScope s_law_pick) := ⟨rfl, rfl, rfl, by decide +kernel, rfl, by decide +kernel, by decide +kernel⟩
abbrev s_law_divisor : Stmt := top 23
abbrev N_law_divisor : List Str := ["one", "other"]
theorem sc_law_divisor : FnScope N_law_divisor ["one", "other"] (defScope s_law_divisor) := ⟨rfl, rfl, rfl, by decide +kernel, rfl, by decide +kernel, by decide +kernel⟩
abbrev s_law_plain : Stmt := top 22
abbrev N_law_plain : List Str := ["thing"]
theorem sc_law_plain : FnScope N_law_plain ["thing"] (defScope s_law_plain) := ⟨rfl, rfl, rfl, by decide +kernel, rfl, by decide +kernel, by decide +kernel⟩
abbrev s_law_lowest : Stmt := top 25
abbrev N_law_lowest : List Str := ["found"]
theorem sc_law_lowest : FnScope N_law_lowest ["found"] (defScope s_law_lowest) := ⟨rfl, rfl, rfl, by decide +kernel, rfl, by decide +kernel, by decide +kernel⟩
abbrev s_is_fraction : Stmt := top 18
abbrev N_is_fraction : List Str := ["thing"]
theorem sc_is_fraction : FnScope N_is_fraction ["thing"] (defScope s_is_fraction) := ⟨rfl, rfl, rfl, by decide +kernel, rfl, by decide +kernel, by decide +kernel⟩
abbrev s_law_told_apart : Stmt := top 28
abbrev N_law_told_apart : List Str := ["one", "top", "bottom", "some", "other"]
theorem sc_law_told_apart : FnScope N_law_told_apart ["one"] (defScope s_law_told_apart) := ⟨rfl, rfl, rfl, by decide +kernel, rfl, by decide +kernel, by decide +kernel⟩
abbrev s_law : Stmt := top 29
abbrev N_law : List Str := ["script", "k", "factor", "top", "bottom", "found", "alone", "odd"]
theorem sc_law : FnScope N_law ["script"] (defScope s_law) := ⟨rfl, rfl, rfl, by decide +kernel, rfl, by decide +kernel, by decide +kernel⟩
theorem boot_ValueError : bootBuiltins "ValueError" = some (.type "ValueError") := by decide +kernel
structure Txt (kc : KC) (mg : Str → Option Value) : Prop where
  b_ValueError : mg "ValueError" = none
  b_abs : mg "abs" = none
  b_bool : mg "bool" = none
  b_int : mg "int" = none
  b_isinstance : mg "isinstance" = none
  b_len : mg "len" = none
  b_max : mg "max" = none
  b_min : mg "min" = none
  b_range : mg "range" = none
  b_tuple : mg "tuple" = none
  e_NoNumber : ExcF kc mg "NoNumber" "NoNumber"
  g_Floats : mg "Floats" = some (.ref (kc.cl "Floats"))
  g_Held : mg "Held" = some (.ref (kc.cl "Held"))
  g_Lame : mg "Lame" = some (.ref (kc.cl "Lame"))
  g_NoName : mg "NoName" = some (.ref (kc.cl "NoName"))
  g_NoNumber : mg "NoNumber" = some (.ref (kc.cl "NoNumber"))
  g_NoPoint : mg "NoPoint" = some (.ref (kc.cl "NoPoint"))
  g_NoRoad : mg "NoRoad" = some (.ref (kc.cl "NoRoad"))
  g_NoRow : mg "NoRow" = some (.ref (kc.cl "NoRow"))
  g_NoSize : mg "NoSize" = some (.ref (kc.cl "NoSize"))
  g_NoStreams : mg "NoStreams" = some (.ref (kc.cl "NoStreams"))
  g_NoWord : mg "NoWord" = some (.ref (kc.cl "NoWord"))
  g_OhmError : mg "OhmError" = some (.ref (kc.cl "OhmError"))
  g_Ring : mg "Ring" = some (.ref (kc.cl "Ring"))
  g_TooMany : mg "TooMany" = some (.ref (kc.cl "TooMany"))
  u_NoNumber : Subs kc (.ref (kc.cl "NoNumber")) tab_NoNumber
  u_OhmError : Subs kc (.ref (kc.cl "OhmError")) tab_OhmError
  k_NoNumber : Kit kc (.ref (kc.cl "NoNumber")) tab_NoNumber
  k_ValueError : Kit kc (.type "ValueError") tab_ValueError
  t_Floats_Held_Lame_NoName_NoPoint_NoRoad : KitT kc [(.ref (kc.cl "Floats")), (.ref (kc.cl "Held")), (.ref (kc.cl "Lame")), (.ref (kc.cl "NoName")), (.ref (kc.cl "NoPoint")), (.ref (kc.cl "NoRoad"))] tab_Floats_Held_Lame_NoName_NoPoint_NoRoad
  t_NoRow_NoSize_NoStreams_NoWord_Ring_TooMany : KitT kc [(.ref (kc.cl "NoRow")), (.ref (kc.cl "NoSize")), (.ref (kc.cl "NoStreams")), (.ref (kc.cl "NoWord")), (.ref (kc.cl "Ring")), (.ref (kc.cl "TooMany"))] tab_NoRow_NoSize_NoStreams_NoWord_Ring_TooMany
section
variable {P : Program} {w : World} {kc : KC} {mg : Str → Option Value} {base : Heap}
theorem ok_divisor {f : Addr} {fd : FuncData} (F : Fun kc.K "divisor" "divisor" s_divisor f fd) (T : Txt kc mg)   : FnOk P w kc.K mg base CX0 1 f fd ["one", "other"] (spP kc 2 m_divisor) := okN (k := kc) (j := 0) (g := g_divisor) F sc_divisor rfl rfl (by decide) fun cdv A outer s H E hr => by
  have hu := hr.units
  have nd := sc_divisor.nd
  unfold g_divisor
  exact (s_cons (s_set 0 nd (d_abs T.b_abs (a_cons (dv 0) a_nil)))
      (s_cons (s_set 1 nd (d_abs T.b_abs (a_cons (dv 1) a_nil)))
      (s_cons (s_while PassesOwn.never (t_ne rfl hu (dv 1) di) (s_one (s_par (i := 0) (j := 1) rfl nd (a_cons (dv 1) (a_cons (d_mod (dv 0) (dv 1)) a_nil)))))
      (s_one (s_ret (dv 0))))))
theorem ok_is_whole {f : Addr} {fd : FuncData} (F : Fun kc.K "is_whole" "is_whole" s_is_whole f fd) (T : Txt kc mg)   : FnOk P w kc.K mg base CX0 1 f fd ["thing"] (spP kc 1 m_is_whole) := okN (k := kc) (j := 0) (g := g_is_whole) F sc_is_whole rfl rfl (by decide) fun cdv A outer s H E hr => by
  have hu := hr.units
  have nd := sc_is_whole.nd
  unfold g_is_whole
  exact (s_one (s_ret (v_and (v_val (d_isi "int" rfl T.b_isinstance T.b_int boot_int (dv 0))) (v_one (v_not (v_val (d_isi "bool" rfl T.b_isinstance T.b_bool boot_bool (dv 0))))))))
theorem ok_fraction {f : Addr} {fd : FuncData} (F : FunD kc.K "fraction" "fraction" (defArgs s_fraction) (defBody s_fraction) (defScope s_fraction) [.int 1] [] f fd) (T : Txt kc mg) (C_divisor : Fn P w kc.K mg base kc 1 "divisor" 2 m_divisor) (C_is_whole : Fn P w kc.K mg base kc 1 "is_whole" 1 m_is_whole)  : FnOk P w kc.K mg base (L2.CX P w) 2 f fd ["top", "bottom"] (spX kc 2 mX_fraction) := okXD (k := kc) (j := 1) (g := g_fraction) F sc_fraction rfl rfl (by decide) fun cdv A outer s H E W hr tk hpo => by
  have hu := hr.units
  have nd := sc_fraction.nd
  unfold g_fraction
  exact (s_cons (s_if (w_or (t_not (t_val (d_mlt (f_call C_is_whole (hr.mono (by decide)) (a_cons (dv 0) a_nil))))) (w_or (t_not (t_val (d_mlt (f_call C_is_whole (hr.mono (by decide)) (a_cons (dv 1) a_nil))))) (w_or1 (t_eq rfl hu (dv 1) di)))).pt (s_one (s_raise rfl rfl tk T.e_NoNumber)) s_nil)
      (s_cons (s_set 2 nd (d_mlt (f_call C_divisor (hr.mono (by decide)) (a_cons (dv 0) (a_cons (dv 1) a_nil)))))
      (s_cons (s_if (t_lt (dv 1) di) (s_one (s_set 2 nd (d_sub di (dv 2)))) s_nil)
      (s_one (s_ret (d_tup (a_cons (d_fdv (dv 0) (dv 2)) (a_cons (d_fdv (dv 1) (dv 2)) a_nil))))))))
theorem ok_law_refused_alone {f : Addr} {fd : FuncData} (F : Fun kc.K "_law_refused_alone" "_law_refused_alone" s_law_refused_alone f fd) (T : Txt kc mg)  (X_fraction1 : FnX P w kc.K mg base kc 2 "fraction" 1 mX_fraction1) : FnOk P w kc.K mg base CX0 3 f fd ["top"] (spP kc 1 m_law_refused_alone) := okN (k := kc) (j := 2) (g := g_law_refused_alone) F sc_law_refused_alone rfl rfl (by decide) fun cdv A outer s H E hr => by
  have hu := hr.units
  have nd := sc_law_refused_alone.nd
  unfold g_law_refused_alone
  exact (s_cons (s_set 1 nd dbl)
      (s_cons (s_try rfl takes0 (fun W tp xe tk hpo => (s_one (s_dropX X_fraction1 (hr.mono (by decide)) tk (a_cons (dv 0) a_nil)))) (.bare ⟨rfl, by decide, .inl T.g_NoNumber⟩ T.u_NoNumber (fun _ _ => (s_one (s_set 1 nd dbl))) .nil))
      (s_one (s_ret (dv 1)))))
theorem ok_law_refused {f : Addr} {fd : FuncData} (F : Fun kc.K "_law_refused" "_law_refused" s_law_refused f fd) (T : Txt kc mg)  (X_fraction : FnX P w kc.K mg base kc 2 "fraction" 2 mX_fraction) : FnOk P w kc.K mg base CX0 3 f fd ["top", "bottom"] (spP kc 2 m_law_refused) := okN (k := kc) (j := 2) (g := g_law_refused) F sc_law_refused rfl rfl (by decide) fun cdv A outer s H E hr => by
  have hu := hr.units
  have nd := sc_law_refused.nd
  unfold g_law_refused
  exact (s_cons (s_set 2 nd dn)
      (s_cons (s_try rfl takes0 (fun W tp xe tk hpo => (s_one (s_dropX X_fraction (hr.mono (by decide)) tk (a_cons (dv 0) (a_cons (dv 1) a_nil))))) (.named (i := 3) nd rfl rfl ⟨rfl, by decide, .inl T.g_OhmError⟩ T.u_OhmError (fun _ _ => (s_one (s_set 2 nd (dv 3)))) .nil))
      (s_cons (s_if (w_or (t_isN (dv 2)) (w_or (t_not (t_val (d_isE rfl T.b_isinstance T.g_NoNumber T.k_NoNumber (dv 2)))) (w_or1 (t_not (t_val (d_isB rfl T.b_isinstance T.b_ValueError boot_ValueError T.k_ValueError (dv 2))))))).pt (s_one (s_ret dbl)) s_nil)
      (s_cons (s_if (t_val (d_isET rfl T.b_isinstance (pcs_own T.g_Floats (pcs_own T.g_Held (pcs_own T.g_Lame (pcs_own T.g_NoName (pcs_own T.g_NoPoint (pcs_own T.g_NoRoad pcs_nil)))))) T.t_Floats_Held_Lame_NoName_NoPoint_NoRoad (by simp) (dv 2))) (s_one (s_ret dbl)) s_nil)
      (s_one (s_ret (v_not (v_val (d_isET rfl T.b_isinstance (pcs_own T.g_NoRow (pcs_own T.g_NoSize (pcs_own T.g_NoStreams (pcs_own T.g_NoWord (pcs_own T.g_Ring (pcs_own T.g_TooMany pcs_nil)))))) T.t_NoRow_NoSize_NoStreams_NoWord_Ring_TooMany (by simp) (dv 2))))))))))
theorem ok_law_number {f : Addr} {fd : FuncData} (F : Fun kc.K "_law_number" "_law_number" s_law_number f fd) (T : Txt kc mg)   : FnOk P w kc.K mg base CX0 1 f fd ["cell"] (spP kc 1 m_law_number) := okN (k := kc) (j := 0) (g := g_law_number) F sc_law_number rfl rfl (by decide) fun cdv A outer s H E hr => by
  have hu := hr.units
  have nd := sc_law_number.nd
  unfold g_law_number
  exact (s_cons (s_set 1 nd (d_mod (dv 0) (d_sum rfl (d_prd rfl di (d_pow di di)) di)))
      (s_cons (s_if (t_eq rfl hu (d_mod (dv 1) di) di) (s_one (s_ret (d_sub (d_mod (d_fdv (dv 1) di) di) di))) s_nil)
      (s_one (s_ret (d_sub (dv 1) (d_pow di di))))))
theorem ok_law_pick {f : Addr} {fd : FuncData} (F : Fun kc.K "_law_pick" "_law_pick" s_law_pick f fd) (T : Txt kc mg)   : FnOk P w kc.K mg base CX0 1 f fd ["script", "k"] (spP kc 2 m_law_pick) := okN (k := kc) (j := 0) (g := g_law_pick) F sc_law_pick rfl rfl (by decide) fun cdv A outer s H E hr => by
  have hu := hr.units
  have nd := sc_law_pick.nd
  unfold g_law_pick
  exact (s_one (s_ret (d_ix rfl (d_sum rfl (d_mlt (f_sli rfl (dv 0) (o_so (dv 1)) (o_so (d_sum rfl (dv 1) di)))) (d_mlt (f_lst (a_cons di a_nil)))) di)))
theorem ok_law_divisor {f : Addr} {fd : FuncData} (F : Fun kc.K "_law_divisor" "_law_divisor" s_law_divisor f fd) (T : Txt kc mg)   : FnOk P w kc.K mg base CX0 1 f fd ["one", "other"] (spP kc 2 m_law_divisor) := okN (k := kc) (j := 0) (g := g_law_divisor) F sc_law_divisor rfl rfl (by decide) fun cdv A outer s H E hr => by
  have hu := hr.units
  have nd := sc_law_divisor.nd
  unfold g_law_divisor
  exact (s_cons (s_set 0 nd (d_abs T.b_abs (a_cons (dv 0) a_nil)))
      (s_cons (s_set 1 nd (d_abs T.b_abs (a_cons (dv 1) a_nil)))
      (s_cons (s_while PassesOwn.never (t_ne rfl hu (dv 1) di) (s_one (s_par (i := 0) (j := 1) rfl nd (a_cons (dv 1) (a_cons (d_mod (dv 0) (dv 1)) a_nil)))))
      (s_one (s_ret (dv 0))))))
theorem ok_law_plain {f : Addr} {fd : FuncData} (F : Fun kc.K "_law_plain" "_law_plain" s_law_plain f fd) (T : Txt kc mg)   : FnOk P w kc.K mg base CX0 1 f fd ["thing"] (spP kc 1 m_law_plain) := okN (k := kc) (j := 0) (g := g_law_plain) F sc_law_plain rfl rfl (by decide) fun cdv A outer s H E hr => by
  have hu := hr.units
  have nd := sc_law_plain.nd
  unfold g_law_plain
  exact (s_one (s_ret (v_and (v_not (v_val (d_isi "bool" rfl T.b_isinstance T.b_bool boot_bool (dv 0)))) (v_one (v_val (d_isi "int" rfl T.b_isinstance T.b_int boot_int (dv 0)))))))
theorem ok_law_lowest {f : Addr} {fd : FuncData} (F : Fun kc.K "_law_lowest" "_law_lowest" s_law_lowest f fd) (T : Txt kc mg) (C_law_divisor : Fn P w kc.K mg base kc 1 "_law_divisor" 2 m_law_divisor) (C_law_plain : Fn P w kc.K mg base kc 1 "_law_plain" 1 m_law_plain)  : FnOk P w kc.K mg base CX0 2 f fd ["found"] (spP kc 1 m_law_lowest) := okN (k := kc) (j := 1) (g := g_law_lowest) F sc_law_lowest rfl rfl (by decide) fun cdv A outer s H E hr => by
  have hu := hr.units
  have nd := sc_law_lowest.nd
  unfold g_law_lowest
  exact (s_cons (s_if (w_or (t_not (t_val (d_isi "tuple" rfl T.b_isinstance T.b_tuple boot_tuple (dv 0)))) (w_or1 (t_ne rfl hu (d_len rfl T.b_len (a_cons (dv 0) a_nil)) di))).pt (s_one (s_ret dbl)) s_nil)
      (s_cons (s_if (w_or (t_not (t_val (d_mlt (f_call C_law_plain (hr.mono (by decide)) (a_cons (d_ix rfl (dv 0) di) a_nil))))) (w_or (t_not (t_val (d_mlt (f_call C_law_plain (hr.mono (by decide)) (a_cons (d_ix rfl (dv 0) di) a_nil))))) (w_or1 (t_lt (d_ix rfl (dv 0) di) di)))).pt (s_one (s_ret dbl)) s_nil)
      (s_one (s_ret (d_eq rfl hu (d_mlt (f_call C_law_divisor (hr.mono (by decide)) (a_cons (d_ix rfl (dv 0) di) (a_cons (d_ix rfl (dv 0) di) a_nil)))) di)))))
theorem ok_is_fraction {f : Addr} {fd : FuncData} (F : Fun kc.K "is_fraction" "is_fraction" s_is_fraction f fd) (T : Txt kc mg) (C_divisor : Fn P w kc.K mg base kc 1 "divisor" 2 m_divisor) (C_is_whole : Fn P w kc.K mg base kc 1 "is_whole" 1 m_is_whole)  : FnOk P w kc.K mg base CX0 2 f fd ["thing"] (spP kc 1 m_is_fraction) := okN (k := kc) (j := 1) (g := g_is_fraction) F sc_is_fraction rfl rfl (by decide) fun cdv A outer s H E hr => by
  have hu := hr.units
  have nd := sc_is_fraction.nd
  unfold g_is_fraction
  exact (s_cons (s_if (w_or (t_not (t_val (d_isi "tuple" rfl T.b_isinstance T.b_tuple boot_tuple (dv 0)))) (w_or1 (t_ne rfl hu (d_len rfl T.b_len (a_cons (dv 0) a_nil)) di))).pt (s_one (s_ret dbl)) s_nil)
      (s_cons (s_if (w_or (t_not (t_val (d_mlt (f_call C_is_whole (hr.mono (by decide)) (a_cons (d_ix rfl (dv 0) di) a_nil))))) (w_or (t_not (t_val (d_mlt (f_call C_is_whole (hr.mono (by decide)) (a_cons (d_ix rfl (dv 0) di) a_nil))))) (w_or1 (t_lt (d_ix rfl (dv 0) di) di)))).pt (s_one (s_ret dbl)) s_nil)
      (s_one (s_ret (d_eq rfl hu (d_mlt (f_call C_divisor (hr.mono (by decide)) (a_cons (d_ix rfl (dv 0) di) (a_cons (d_ix rfl (dv 0) di) a_nil)))) di)))))
theorem ok_law_told_apart {f : Addr} {fd : FuncData} (F : Fun kc.K "_law_told_apart" "_law_told_apart" s_law_told_apart f fd) (T : Txt kc mg) (C_is_fraction : Fn P w kc.K mg base kc 2 "is_fraction" 1 m_is_fraction)  : FnOk P w kc.K mg base CX0 3 f fd ["one"] (spP kc 1 m_law_told_apart) := okN (k := kc) (j := 2) (g := g_law_told_apart) F sc_law_told_apart rfl rfl (by decide) fun cdv A outer s H E hr => by
  have hu := hr.units
  have nd := sc_law_told_apart.nd
  unfold g_law_told_apart
  exact (s_cons (s_asg (dv 0) (g_tup rfl rfl (g_cons (g_name (i := 1) nd) (g_cons (g_name (i := 2) nd) g_nil))))
      (s_cons (s_if (w_or (t_isnB_ (d_mlt (f_call C_is_fraction (hr.mono (by decide)) (a_cons (dv 0) a_nil))) dbl) (w_or1 (t_isnB_ (d_mlt (f_call C_is_fraction (hr.mono (by decide)) (a_cons (d_tup (a_cons (d_prd rfl di (dv 1)) (a_cons (d_prd rfl di (dv 2)) a_nil))) a_nil))) dbl))).pt (s_one (s_ret dbl)) s_nil)
      (s_cons (s_set 3 nd (d_mlt (f_lst (a_cons (d_tup (a_cons (dv 1) (a_cons (d_sub di (dv 2)) a_nil))) (a_cons (d_tup (a_cons (dv 1) (a_cons di a_nil))) (a_cons (d_mlt (f_lst (a_cons (dv 1) (a_cons (dv 2) a_nil)))) (a_cons (d_tup (a_cons (dv 1) a_nil)) (a_cons (d_tup (a_cons (dv 1) (a_cons (dv 2) (a_cons di a_nil)))) (a_cons (dv 1) (a_cons dn (a_cons ds a_nil)))))))))))
      (s_cons (s_for PassesOwn.never rfl (i_list rfl (d_sum rfl (dv 3) (d_mlt (f_lst (a_cons d_dnew (a_cons (d_tup (a_cons (d_mlt (f_lst (a_cons (dv 1) a_nil))) (a_cons (dv 2) a_nil))) (a_cons (d_tup (a_cons (dv 1) (a_cons (d_mlt (f_lst (a_cons (dv 2) a_nil))) a_nil))) (a_cons (d_tup (a_cons d_dnew (a_cons (dv 2) a_nil))) a_nil)))))))) (g_name (i := 4) nd) (s_one (s_if (t_isnB_ (d_mlt (f_call C_is_fraction (hr.mono (by decide)) (a_cons (dv 4) a_nil))) dbl) (s_one (s_ret dbl)) s_nil)))
      (s_one (s_ret (v_and (v_val (d_isB_ (d_mlt (f_call C_is_fraction (hr.mono (by decide)) (a_cons (d_tup (a_cons dbl (a_cons di a_nil))) a_nil))) dbl)) (v_one (v_val (d_isB_ (d_mlt (f_call C_is_fraction (hr.mono (by decide)) (a_cons (d_tup (a_cons (dv 1) (a_cons dbl a_nil))) a_nil))) dbl))))))))))
theorem ok_law {f : Addr} {fd : FuncData} (F : Fun kc.K "law" "law" s_law f fd) (T : Txt kc mg) (C_law_lowest : Fn P w kc.K mg base kc 2 "_law_lowest" 1 m_law_lowest) (C_law_number : Fn P w kc.K mg base kc 1 "_law_number" 1 m_law_number) (C_law_pick : Fn P w kc.K mg base kc 1 "_law_pick" 2 m_law_pick) (C_law_refused : Fn P w kc.K mg base kc 3 "_law_refused" 2 m_law_refused) (C_law_refused_alone : Fn P w kc.K mg base kc 3 "_law_refused_alone" 1 m_law_refused_alone) (C_law_told_apart : Fn P w kc.K mg base kc 3 "_law_told_apart" 1 m_law_told_apart) (C_fraction1 : Fn P w kc.K mg base kc 2 "fraction" 1 m_fraction1) (C_fraction : Fn P w kc.K mg base kc 2 "fraction" 2 m_fraction) (C_is_whole : Fn P w kc.K mg base kc 1 "is_whole" 1 m_is_whole)  : FnOk P w kc.K mg base CX0 4 f fd ["script"] (spP kc 1 m_law) := okN (k := kc) (j := 3) (g := g_law) F sc_law rfl rfl (by decide) fun cdv A outer s H E hr => by
  have hu := hr.units
  have nd := sc_law.nd
  unfold g_law
  exact (s_cons (s_for PassesOwn.never rfl (i_rng1 T.b_range (a_cons (d_max2 rfl T.b_max (a_cons di (a_cons (d_fdv (d_min2 rfl T.b_min (a_cons (d_len rfl T.b_len (a_cons (dv 0) a_nil)) (a_cons di a_nil))) di) a_nil))) a_nil)) (g_name (i := 1) nd) (s_cons (s_set 2 nd (d_sum rfl di (d_mod (d_prd rfl (d_mod (d_mlt (f_call C_law_pick (hr.mono (by decide)) (a_cons (dv 0) (a_cons (dv 1) a_nil)))) di) di) di)))
      (s_cons (s_set 3 nd (d_prd rfl (d_mlt (f_call C_law_number (hr.mono (by decide)) (a_cons (d_mlt (f_call C_law_pick (hr.mono (by decide)) (a_cons (dv 0) (a_cons (d_prd rfl di (dv 1)) a_nil)))) a_nil))) (dv 2)))
      (s_cons (s_set 4 nd (d_prd rfl (d_mlt (f_call C_law_number (hr.mono (by decide)) (a_cons (d_mlt (f_call C_law_pick (hr.mono (by decide)) (a_cons (dv 0) (a_cons (d_sum rfl (d_prd rfl di (dv 1)) di) a_nil)))) a_nil))) (dv 2)))
      (s_cons (s_if (t_eq rfl hu (dv 4) di) (s_cons (s_if (t_not (t_val (d_mlt (f_call C_law_refused (hr.mono (by decide)) (a_cons (dv 3) (a_cons (dv 4) a_nil)))))) (s_one (s_ret dbl)) s_nil)
      (s_one (s_set 4 nd (dv 2)))) s_nil)
      (s_cons (s_set 5 nd (d_mlt (f_call C_fraction (hr.mono (by decide)) (a_cons (dv 3) (a_cons (dv 4) a_nil)))))
      (s_cons (s_if (w_or (t_not (t_val (d_mlt (f_call C_law_lowest (hr.mono (by decide)) (a_cons (dv 5) a_nil))))) (w_or1 (t_ne rfl hu (d_prd rfl (d_ix rfl (dv 5) di) (dv 4)) (d_prd rfl (dv 3) (d_ix rfl (dv 5) di))))).pt (s_one (s_ret dbl)) s_nil)
      (s_cons (s_set 6 nd (d_mlt (f_call C_fraction1 (hr.mono (by decide)) (a_cons (dv 3) a_nil))))
      (s_cons (s_if (w_or (t_not (t_val (d_mlt (f_call C_law_lowest (hr.mono (by decide)) (a_cons (dv 6) a_nil))))) (w_or (t_ne rfl hu (dv 6) (d_tup (a_cons (dv 3) (a_cons di a_nil)))) (w_or1 (t_not (t_val (d_mlt (f_call C_law_told_apart (hr.mono (by decide)) (a_cons (dv 5) a_nil)))))))).pt (s_one (s_ret dbl)) s_nil)
      (s_one (s_if (w_or (t_isnB_ (d_mlt (f_call C_is_whole (hr.mono (by decide)) (a_cons (dv 3) a_nil))) dbl) (w_or1 (t_isnB_ (d_mlt (f_call C_is_whole (hr.mono (by decide)) (a_cons (dv 4) a_nil))) dbl))).pt (s_one (s_ret dbl)) s_nil)))))))))))
      (s_cons (s_set 7 nd (d_ix rfl (d_mlt (f_lst (a_cons dbl (a_cons dn (a_cons ds (a_cons (d_tup (a_cons di (a_cons di a_nil))) (a_cons (d_mlt (f_lst (a_cons di a_nil))) (a_cons d_dnew a_nil)))))))) (d_mod (d_mlt (f_call C_law_pick (hr.mono (by decide)) (a_cons (dv 0) (a_cons di a_nil)))) di)))
      (s_cons (s_if (w_or (t_isnB_ (d_mlt (f_call C_is_whole (hr.mono (by decide)) (a_cons (dv 7) a_nil))) dbl) (w_or1 (t_isnB_ (d_mlt (f_call C_is_whole (hr.mono (by decide)) (a_cons dbl a_nil))) dbl))).pt (s_one (s_ret dbl)) s_nil)
      (s_cons (s_if (t_not (t_val (d_mlt (f_call C_law_refused_alone (hr.mono (by decide)) (a_cons (dv 7) a_nil))))) (s_one (s_ret dbl)) s_nil)
      (s_one (s_ret (v_and (v_val (d_mlt (f_call C_law_refused (hr.mono (by decide)) (a_cons (dv 7) (a_cons di a_nil))))) (v_and (v_val (d_mlt (f_call C_law_refused (hr.mono (by decide)) (a_cons di (a_cons (dv 7) a_nil))))) (v_one (v_val (d_mlt (f_call C_law_refused (hr.mono (by decide)) (a_cons di (a_cons di a_nil))))))))))))))
end
end Pf
namespace Pf
open PySem L2 DL PyProof.Rows

def clf (A_Floats A_Held A_Lame A_NoName A_NoNumber A_NoPoint A_NoRoad A_NoRow A_NoSize A_NoStreams A_NoWord A_OhmError A_Ring A_TooMany : Addr) : String → Addr := fun c => if c = "Floats" then A_Floats else if c = "Held" then A_Held else if c = "Lame" then A_Lame else if c = "NoName" then A_NoName else if c = "NoNumber" then A_NoNumber else if c = "NoPoint" then A_NoPoint else if c = "NoRoad" then A_NoRoad else if c = "NoRow" then A_NoRow else if c = "NoSize" then A_NoSize else if c = "NoStreams" then A_NoStreams else if c = "NoWord" then A_NoWord else if c = "OhmError" then A_OhmError else if c = "Ring" then A_Ring else if c = "TooMany" then A_TooMany else 0
theorem all_mk {P : Program} {w : World} {K : PySem.W.Frag} {h : Heap} {mg : Str → Option Value} {fa : Addr} (X : K.In h) (G : h.Ns mainGlobals mg) (hfa : mg "law" = some (.ref fa))
    {A_Floats A_Held A_Lame A_NoName A_NoNumber A_NoPoint A_NoRoad A_NoRow A_NoSize A_NoStreams A_NoWord A_OhmError A_Ring A_TooMany : Addr}
    {f0 : Addr} {od0 an0 : Option Addr} {sl0 : Array (Option Value)} {oc0 kV0 dc0 pm0 cd0 ct0 : Value}
    {f1 : Addr} {od1 an1 : Option Addr} {sl1 : Array (Option Value)} {oc1 kV1 dc1 pm1 cd1 ct1 : Value}
    {f2 : Addr} {od2 an2 : Option Addr} {sl2 : Array (Option Value)} {oc2 kV2 dc2 pm2 cd2 ct2 : Value}
    {T2 : Addr} {xc2 : Value} {xd2 : Option Addr} {xn2 : Nat} {xs2 : Array (Option Value)} {xt2_0 : Tok}
    {f3 : Addr} {od3 an3 : Option Addr} {sl3 : Array (Option Value)} {oc3 kV3 dc3 pm3 cd3 ct3 : Value}
    {f4 : Addr} {od4 an4 : Option Addr} {sl4 : Array (Option Value)} {oc4 kV4 dc4 pm4 cd4 ct4 : Value}
    {f5 : Addr} {od5 an5 : Option Addr} {sl5 : Array (Option Value)} {oc5 kV5 dc5 pm5 cd5 ct5 : Value}
    {f6 : Addr} {od6 an6 : Option Addr} {sl6 : Array (Option Value)} {oc6 kV6 dc6 pm6 cd6 ct6 : Value}
    {f7 : Addr} {od7 an7 : Option Addr} {sl7 : Array (Option Value)} {oc7 kV7 dc7 pm7 cd7 ct7 : Value}
    {f8 : Addr} {od8 an8 : Option Addr} {sl8 : Array (Option Value)} {oc8 kV8 dc8 pm8 cd8 ct8 : Value}
    {f9 : Addr} {od9 an9 : Option Addr} {sl9 : Array (Option Value)} {oc9 kV9 dc9 pm9 cd9 ct9 : Value}
    {f10 : Addr} {od10 an10 : Option Addr} {sl10 : Array (Option Value)} {oc10 kV10 dc10 pm10 cd10 ct10 : Value}
    {f11 : Addr} {od11 an11 : Option Addr} {sl11 : Array (Option Value)} {oc11 kV11 dc11 pm11 cd11 ct11 : Value}
    {f12 : Addr} {od12 an12 : Option Addr} {sl12 : Array (Option Value)} {oc12 kV12 dc12 pm12 cd12 ct12 : Value}
    (x_Floats : PySem.W.nsIn K mainGlobals "Floats" = some (some (.ref A_Floats)))
    (x_Held : PySem.W.nsIn K mainGlobals "Held" = some (some (.ref A_Held)))
    (x_Lame : PySem.W.nsIn K mainGlobals "Lame" = some (some (.ref A_Lame)))
    (x_NoName : PySem.W.nsIn K mainGlobals "NoName" = some (some (.ref A_NoName)))
    (x_NoNumber : PySem.W.nsIn K mainGlobals "NoNumber" = some (some (.ref A_NoNumber)))
    (x_NoPoint : PySem.W.nsIn K mainGlobals "NoPoint" = some (some (.ref A_NoPoint)))
    (x_NoRoad : PySem.W.nsIn K mainGlobals "NoRoad" = some (some (.ref A_NoRoad)))
    (x_NoRow : PySem.W.nsIn K mainGlobals "NoRow" = some (some (.ref A_NoRow)))
    (x_NoSize : PySem.W.nsIn K mainGlobals "NoSize" = some (some (.ref A_NoSize)))
    (x_NoStreams : PySem.W.nsIn K mainGlobals "NoStreams" = some (some (.ref A_NoStreams)))
    (x_NoWord : PySem.W.nsIn K mainGlobals "NoWord" = some (some (.ref A_NoWord)))
    (x_OhmError : PySem.W.nsIn K mainGlobals "OhmError" = some (some (.ref A_OhmError)))
    (x_Ring : PySem.W.nsIn K mainGlobals "Ring" = some (some (.ref A_Ring)))
    (x_TooMany : PySem.W.nsIn K mainGlobals "TooMany" = some (some (.ref A_TooMany)))
    (q_NoNumber : PySem.W.excIn K A_NoNumber [Value.type "ValueError", Value.type "Exception", Value.type "BaseException", Value.type "object"] "ValueError.__new__" = true)
    (kp_NoNumber : PySem.W.keepIn K (.ref A_NoNumber) = true)
    (sb_NoNumber : PySem.W.subIn K (.ref A_NoNumber) (.type "BaseException") = some true)
    (ty_NoNumber : PySem.W.typeIn K (.ref A_NoNumber) = some (.type "type"))
    (cl_NoNumber : PySem.W.isClsIn K A_NoNumber = true)
    (ga_NoNumber : PySem.W.findIn K (.ref A_NoNumber) "__getattribute__" = some (some (.builtin "BaseException.__getattribute__")))
    (gg_NoNumber : PySem.W.findIn K (.ref A_NoNumber) "__getattr__" = some none)
    (hd_NoNumber : PySem.W.hasDictIn K A_NoNumber = true)
    (ca_NoNumber : PySem.W.findIn K (.ref A_NoNumber) "__class__" = some (some (.builtin "object.__class__")))
    (mo_NoNumber : PySem.W.mroIn K A_NoNumber (.type "object") = some true)
    (em_NoNumber_NoNumber : PySem.W.exmOne K (.ref A_NoNumber) (.ref A_NoNumber) = some true)
    (em_NoNumber_OhmError : PySem.W.exmOne K (.ref A_NoNumber) (.ref A_OhmError) = some true)
    (s_NoNumber_Floats : PySem.W.subIn K (.ref A_NoNumber) (.ref A_Floats) = some false)
    (s_NoNumber_Held : PySem.W.subIn K (.ref A_NoNumber) (.ref A_Held) = some false)
    (s_NoNumber_Lame : PySem.W.subIn K (.ref A_NoNumber) (.ref A_Lame) = some false)
    (s_NoNumber_NoName : PySem.W.subIn K (.ref A_NoNumber) (.ref A_NoName) = some false)
    (s_NoNumber_NoNumber : PySem.W.subIn K (.ref A_NoNumber) (.ref A_NoNumber) = some true)
    (s_NoNumber_NoPoint : PySem.W.subIn K (.ref A_NoNumber) (.ref A_NoPoint) = some false)
    (s_NoNumber_NoRoad : PySem.W.subIn K (.ref A_NoNumber) (.ref A_NoRoad) = some false)
    (s_NoNumber_NoRow : PySem.W.subIn K (.ref A_NoNumber) (.ref A_NoRow) = some false)
    (s_NoNumber_NoSize : PySem.W.subIn K (.ref A_NoNumber) (.ref A_NoSize) = some false)
    (s_NoNumber_NoStreams : PySem.W.subIn K (.ref A_NoNumber) (.ref A_NoStreams) = some false)
    (s_NoNumber_NoWord : PySem.W.subIn K (.ref A_NoNumber) (.ref A_NoWord) = some false)
    (s_NoNumber_Ring : PySem.W.subIn K (.ref A_NoNumber) (.ref A_Ring) = some false)
    (s_NoNumber_TooMany : PySem.W.subIn K (.ref A_NoNumber) (.ref A_TooMany) = some false)
    (s_NoNumber_ValueError : PySem.W.subIn K (.ref A_NoNumber) (.type "ValueError") = some true)
    (i_Floats : PySem.W.isClsIn K A_Floats = true)
    (tD_Floats : PySem.W.typeIn K (.ref A_Floats) = some (.type "type"))
    (i_Held : PySem.W.isClsIn K A_Held = true)
    (tD_Held : PySem.W.typeIn K (.ref A_Held) = some (.type "type"))
    (i_Lame : PySem.W.isClsIn K A_Lame = true)
    (tD_Lame : PySem.W.typeIn K (.ref A_Lame) = some (.type "type"))
    (i_NoName : PySem.W.isClsIn K A_NoName = true)
    (tD_NoName : PySem.W.typeIn K (.ref A_NoName) = some (.type "type"))
    (i_NoNumber : PySem.W.isClsIn K A_NoNumber = true)
    (tD_NoNumber : PySem.W.typeIn K (.ref A_NoNumber) = some (.type "type"))
    (i_NoPoint : PySem.W.isClsIn K A_NoPoint = true)
    (tD_NoPoint : PySem.W.typeIn K (.ref A_NoPoint) = some (.type "type"))
    (i_NoRoad : PySem.W.isClsIn K A_NoRoad = true)
    (tD_NoRoad : PySem.W.typeIn K (.ref A_NoRoad) = some (.type "type"))
    (i_NoRow : PySem.W.isClsIn K A_NoRow = true)
    (tD_NoRow : PySem.W.typeIn K (.ref A_NoRow) = some (.type "type"))
    (i_NoSize : PySem.W.isClsIn K A_NoSize = true)
    (tD_NoSize : PySem.W.typeIn K (.ref A_NoSize) = some (.type "type"))
    (i_NoStreams : PySem.W.isClsIn K A_NoStreams = true)
    (tD_NoStreams : PySem.W.typeIn K (.ref A_NoStreams) = some (.type "type"))
    (i_NoWord : PySem.W.isClsIn K A_NoWord = true)
    (tD_NoWord : PySem.W.typeIn K (.ref A_NoWord) = some (.type "type"))
    (i_Ring : PySem.W.isClsIn K A_Ring = true)
    (tD_Ring : PySem.W.typeIn K (.ref A_Ring) = some (.type "type"))
    (i_TooMany : PySem.W.isClsIn K A_TooMany = true)
    (tD_TooMany : PySem.W.typeIn K (.ref A_TooMany) = some (.type "type"))
    (hn : PySem.W.specialIn K (.builtin "object.__class__") "__get__" = some (some (.builtin "getset_descriptor.__get__")))
    (ht : PySem.W.takesIn K (.builtin "object.__class__") = some true)
    (z_ValueError : PySem.W.nsIn K mainGlobals "ValueError" = some none)
    (z_abs : PySem.W.nsIn K mainGlobals "abs" = some none)
    (z_bool : PySem.W.nsIn K mainGlobals "bool" = some none)
    (z_int : PySem.W.nsIn K mainGlobals "int" = some none)
    (z_isinstance : PySem.W.nsIn K mainGlobals "isinstance" = some none)
    (z_len : PySem.W.nsIn K mainGlobals "len" = some none)
    (z_max : PySem.W.nsIn K mainGlobals "max" = some none)
    (z_min : PySem.W.nsIn K mainGlobals "min" = some none)
    (z_range : PySem.W.nsIn K mainGlobals "range" = some none)
    (z_tuple : PySem.W.nsIn K mainGlobals "tuple" = some none)
    (a0 : PySem.W.nsIn K mainGlobals "divisor" = some (some (.ref f0)))
    (l0 : K.lookup f0 = some ⟨oc0, od0, .func (PySem.W.fnOf "divisor" "divisor" (defArgs s_divisor) (defBody s_divisor) (defScope s_divisor) .none kV0 dc0 pm0 an0 cd0 ct0), sl0⟩)
    (c0 : PySem.W.codeIn K cd0 "divisor" = true)
    (k0 : PySem.W.keepIn K (.ref f0) = true)
    (a1 : PySem.W.nsIn K mainGlobals "is_whole" = some (some (.ref f1)))
    (l1 : K.lookup f1 = some ⟨oc1, od1, .func (PySem.W.fnOf "is_whole" "is_whole" (defArgs s_is_whole) (defBody s_is_whole) (defScope s_is_whole) .none kV1 dc1 pm1 an1 cd1 ct1), sl1⟩)
    (c1 : PySem.W.codeIn K cd1 "is_whole" = true)
    (k1 : PySem.W.keepIn K (.ref f1) = true)
    (a2 : PySem.W.nsIn K mainGlobals "fraction" = some (some (.ref f2)))
    (l2 : K.lookup f2 = some ⟨oc2, od2, .func (PySem.W.fnOf "fraction" "fraction" (defArgs s_fraction) (defBody s_fraction) (defScope s_fraction) (.ref T2) kV2 dc2 pm2 an2 cd2 ct2), sl2⟩)
    (c2 : PySem.W.codeIn K cd2 "fraction" = true)
    (k2 : PySem.W.keepIn K (.ref f2) = true)
    (t2 : K.lookup T2 = some ⟨xc2, xd2, .seq ([.int 1 xt2_0] : List Value).toArray xn2, xs2⟩)
    (a3 : PySem.W.nsIn K mainGlobals "_law_refused_alone" = some (some (.ref f3)))
    (l3 : K.lookup f3 = some ⟨oc3, od3, .func (PySem.W.fnOf "_law_refused_alone" "_law_refused_alone" (defArgs s_law_refused_alone) (defBody s_law_refused_alone) (defScope s_law_refused_alone) .none kV3 dc3 pm3 an3 cd3 ct3), sl3⟩)
    (c3 : PySem.W.codeIn K cd3 "_law_refused_alone" = true)
    (k3 : PySem.W.keepIn K (.ref f3) = true)
    (a4 : PySem.W.nsIn K mainGlobals "_law_refused" = some (some (.ref f4)))
    (l4 : K.lookup f4 = some ⟨oc4, od4, .func (PySem.W.fnOf "_law_refused" "_law_refused" (defArgs s_law_refused) (defBody s_law_refused) (defScope s_law_refused) .none kV4 dc4 pm4 an4 cd4 ct4), sl4⟩)
    (c4 : PySem.W.codeIn K cd4 "_law_refused" = true)
    (k4 : PySem.W.keepIn K (.ref f4) = true)
    (a5 : PySem.W.nsIn K mainGlobals "_law_number" = some (some (.ref f5)))
    (l5 : K.lookup f5 = some ⟨oc5, od5, .func (PySem.W.fnOf "_law_number" "_law_number" (defArgs s_law_number) (defBody s_law_number) (defScope s_law_number) .none kV5 dc5 pm5 an5 cd5 ct5), sl5⟩)
    (c5 : PySem.W.codeIn K cd5 "_law_number" = true)
    (k5 : PySem.W.keepIn K (.ref f5) = true)
    (a6 : PySem.W.nsIn K mainGlobals "_law_pick" = some (some (.ref f6)))
    (l6 : K.lookup f6 = some ⟨oc6, od6, .func (PySem.W.fnOf "_law_pick" "_law_pick" (defArgs s_law_pick) (defBody s_law_pick) (defScope s_law_pick) .none kV6 dc6 pm6 an6 cd6 ct6), sl6⟩)
    (c6 : PySem.W.codeIn K cd6 "_law_pick" = true)
    (k6 : PySem.W.keepIn K (.ref f6) = true)
    (a7 : PySem.W.nsIn K mainGlobals "_law_divisor" = some (some (.ref f7)))
    (l7 : K.lookup f7 = some ⟨oc7, od7, .func (PySem.W.fnOf "_law_divisor" "_law_divisor" (defArgs s_law_divisor) (defBody s_law_divisor) (defScope s_law_divisor) .none kV7 dc7 pm7 an7 cd7 ct7), sl7⟩)
    (c7 : PySem.W.codeIn K cd7 "_law_divisor" = true)
    (k7 : PySem.W.keepIn K (.ref f7) = true)
    (a8 : PySem.W.nsIn K mainGlobals "_law_plain" = some (some (.ref f8)))
    (l8 : K.lookup f8 = some ⟨oc8, od8, .func (PySem.W.fnOf "_law_plain" "_law_plain" (defArgs s_law_plain) (defBody s_law_plain) (defScope s_law_plain) .none kV8 dc8 pm8 an8 cd8 ct8), sl8⟩)
    (c8 : PySem.W.codeIn K cd8 "_law_plain" = true)
    (k8 : PySem.W.keepIn K (.ref f8) = true)
    (a9 : PySem.W.nsIn K mainGlobals "_law_lowest" = some (some (.ref f9)))
    (l9 : K.lookup f9 = some ⟨oc9, od9, .func (PySem.W.fnOf "_law_lowest" "_law_lowest" (defArgs s_law_lowest) (defBody s_law_lowest) (defScope s_law_lowest) .none kV9 dc9 pm9 an9 cd9 ct9), sl9⟩)
    (c9 : PySem.W.codeIn K cd9 "_law_lowest" = true)
    (k9 : PySem.W.keepIn K (.ref f9) = true)
    (a10 : PySem.W.nsIn K mainGlobals "is_fraction" = some (some (.ref f10)))
    (l10 : K.lookup f10 = some ⟨oc10, od10, .func (PySem.W.fnOf "is_fraction" "is_fraction" (defArgs s_is_fraction) (defBody s_is_fraction) (defScope s_is_fraction) .none kV10 dc10 pm10 an10 cd10 ct10), sl10⟩)
    (c10 : PySem.W.codeIn K cd10 "is_fraction" = true)
    (k10 : PySem.W.keepIn K (.ref f10) = true)
    (a11 : PySem.W.nsIn K mainGlobals "_law_told_apart" = some (some (.ref f11)))
    (l11 : K.lookup f11 = some ⟨oc11, od11, .func (PySem.W.fnOf "_law_told_apart" "_law_told_apart" (defArgs s_law_told_apart) (defBody s_law_told_apart) (defScope s_law_told_apart) .none kV11 dc11 pm11 an11 cd11 ct11), sl11⟩)
    (c11 : PySem.W.codeIn K cd11 "_law_told_apart" = true)
    (k11 : PySem.W.keepIn K (.ref f11) = true)
    (a12 : PySem.W.nsIn K mainGlobals "law" = some (some (.ref f12)))
    (l12 : K.lookup f12 = some ⟨oc12, od12, .func (PySem.W.fnOf "law" "law" (defArgs s_law) (defBody s_law) (defScope s_law) .none kV12 dc12 pm12 an12 cd12 ct12), sl12⟩)
    (c12 : PySem.W.codeIn K cd12 "law" = true)
    (k12 : PySem.W.keepIn K (.ref f12) = true) :
    ∃ fd : FuncData, (∀ (s : Shared) (v : Value), BindsTo s fd ⟨[v], []⟩ [("script", v)]) ∧ ∀ base : Heap, K.In base → base.Ns mainGlobals mg → FnOk P w K mg base CX0 4 fa fd ["script"] (spP ⟨K, (clf A_Floats A_Held A_Lame A_NoName A_NoNumber A_NoPoint A_NoRoad A_NoRow A_NoSize A_NoStreams A_NoWord A_OhmError A_Ring A_TooMany)⟩ 1 m_law) := by
  have e := hfa.symm.trans (PySem.W.mg_of X G a12)
  cases e
  have l_Floats : (clf A_Floats A_Held A_Lame A_NoName A_NoNumber A_NoPoint A_NoRoad A_NoRow A_NoSize A_NoStreams A_NoWord A_OhmError A_Ring A_TooMany) "Floats" = A_Floats := by simp [clf]
  have l_Held : (clf A_Floats A_Held A_Lame A_NoName A_NoNumber A_NoPoint A_NoRoad A_NoRow A_NoSize A_NoStreams A_NoWord A_OhmError A_Ring A_TooMany) "Held" = A_Held := by simp [clf]
  have l_Lame : (clf A_Floats A_Held A_Lame A_NoName A_NoNumber A_NoPoint A_NoRoad A_NoRow A_NoSize A_NoStreams A_NoWord A_OhmError A_Ring A_TooMany) "Lame" = A_Lame := by simp [clf]
  have l_NoName : (clf A_Floats A_Held A_Lame A_NoName A_NoNumber A_NoPoint A_NoRoad A_NoRow A_NoSize A_NoStreams A_NoWord A_OhmError A_Ring A_TooMany) "NoName" = A_NoName := by simp [clf]
  have l_NoNumber : (clf A_Floats A_Held A_Lame A_NoName A_NoNumber A_NoPoint A_NoRoad A_NoRow A_NoSize A_NoStreams A_NoWord A_OhmError A_Ring A_TooMany) "NoNumber" = A_NoNumber := by simp [clf]
  have l_NoPoint : (clf A_Floats A_Held A_Lame A_NoName A_NoNumber A_NoPoint A_NoRoad A_NoRow A_NoSize A_NoStreams A_NoWord A_OhmError A_Ring A_TooMany) "NoPoint" = A_NoPoint := by simp [clf]
  have l_NoRoad : (clf A_Floats A_Held A_Lame A_NoName A_NoNumber A_NoPoint A_NoRoad A_NoRow A_NoSize A_NoStreams A_NoWord A_OhmError A_Ring A_TooMany) "NoRoad" = A_NoRoad := by simp [clf]
  have l_NoRow : (clf A_Floats A_Held A_Lame A_NoName A_NoNumber A_NoPoint A_NoRoad A_NoRow A_NoSize A_NoStreams A_NoWord A_OhmError A_Ring A_TooMany) "NoRow" = A_NoRow := by simp [clf]
  have l_NoSize : (clf A_Floats A_Held A_Lame A_NoName A_NoNumber A_NoPoint A_NoRoad A_NoRow A_NoSize A_NoStreams A_NoWord A_OhmError A_Ring A_TooMany) "NoSize" = A_NoSize := by simp [clf]
  have l_NoStreams : (clf A_Floats A_Held A_Lame A_NoName A_NoNumber A_NoPoint A_NoRoad A_NoRow A_NoSize A_NoStreams A_NoWord A_OhmError A_Ring A_TooMany) "NoStreams" = A_NoStreams := by simp [clf]
  have l_NoWord : (clf A_Floats A_Held A_Lame A_NoName A_NoNumber A_NoPoint A_NoRoad A_NoRow A_NoSize A_NoStreams A_NoWord A_OhmError A_Ring A_TooMany) "NoWord" = A_NoWord := by simp [clf]
  have l_OhmError : (clf A_Floats A_Held A_Lame A_NoName A_NoNumber A_NoPoint A_NoRoad A_NoRow A_NoSize A_NoStreams A_NoWord A_OhmError A_Ring A_TooMany) "OhmError" = A_OhmError := by simp [clf]
  have l_Ring : (clf A_Floats A_Held A_Lame A_NoName A_NoNumber A_NoPoint A_NoRoad A_NoRow A_NoSize A_NoStreams A_NoWord A_OhmError A_Ring A_TooMany) "Ring" = A_Ring := by simp [clf]
  have l_TooMany : (clf A_Floats A_Held A_Lame A_NoName A_NoNumber A_NoPoint A_NoRoad A_NoRow A_NoSize A_NoStreams A_NoWord A_OhmError A_Ring A_TooMany) "TooMany" = A_TooMany := by simp [clf]
  have A_at_NoNumber : ExcA K ((clf A_Floats A_Held A_Lame A_NoName A_NoNumber A_NoPoint A_NoRoad A_NoRow A_NoSize A_NoStreams A_NoWord A_OhmError A_Ring A_TooMany) "NoNumber") := by rw [l_NoNumber]; exact ⟨cl_NoNumber, ga_NoNumber, gg_NoNumber, sb_NoNumber, hd_NoNumber, ca_NoNumber, mo_NoNumber⟩
  have T_e_NoNumber : ExcF ⟨K, (clf A_Floats A_Held A_Lame A_NoName A_NoNumber A_NoPoint A_NoRoad A_NoRow A_NoSize A_NoStreams A_NoWord A_OhmError A_Ring A_TooMany)⟩ mg "NoNumber" "NoNumber" := by
    have z : (⟨K, (clf A_Floats A_Held A_Lame A_NoName A_NoNumber A_NoPoint A_NoRoad A_NoRow A_NoSize A_NoStreams A_NoWord A_OhmError A_Ring A_TooMany)⟩ : KC).cl "NoNumber" = A_NoNumber := l_NoNumber
    exact ⟨by rw [z]; exact PySem.W.mg_of X G x_NoNumber, by rw [z]; exact q_NoNumber, by rw [z]; exact kp_NoNumber, by rw [z]; exact sb_NoNumber, by rw [z]; exact ty_NoNumber⟩
  have T_u_NoNumber : Subs ⟨K, (clf A_Floats A_Held A_Lame A_NoName A_NoNumber A_NoPoint A_NoRoad A_NoRow A_NoSize A_NoStreams A_NoWord A_OhmError A_Ring A_TooMany)⟩ (.ref ((clf A_Floats A_Held A_Lame A_NoName A_NoNumber A_NoPoint A_NoRoad A_NoRow A_NoSize A_NoStreams A_NoWord A_OhmError A_Ring A_TooMany) "NoNumber")) tab_NoNumber := (fun c b h => by
    unfold tab_NoNumber at h
    by_cases h_NoNumber : c = "NoNumber"
    · subst h_NoNumber
      simp at h
      subst h; show PySem.W.exmOne K (.ref ((clf A_Floats A_Held A_Lame A_NoName A_NoNumber A_NoPoint A_NoRoad A_NoRow A_NoSize A_NoStreams A_NoWord A_OhmError A_Ring A_TooMany) "NoNumber")) (.ref ((clf A_Floats A_Held A_Lame A_NoName A_NoNumber A_NoPoint A_NoRoad A_NoRow A_NoSize A_NoStreams A_NoWord A_OhmError A_Ring A_TooMany) "NoNumber")) = _; rw [l_NoNumber]; exact em_NoNumber_NoNumber
    rw [if_neg h_NoNumber] at h
    cases h)
  have T_u_OhmError : Subs ⟨K, (clf A_Floats A_Held A_Lame A_NoName A_NoNumber A_NoPoint A_NoRoad A_NoRow A_NoSize A_NoStreams A_NoWord A_OhmError A_Ring A_TooMany)⟩ (.ref ((clf A_Floats A_Held A_Lame A_NoName A_NoNumber A_NoPoint A_NoRoad A_NoRow A_NoSize A_NoStreams A_NoWord A_OhmError A_Ring A_TooMany) "OhmError")) tab_OhmError := (fun c b h => by
    unfold tab_OhmError at h
    by_cases h_NoNumber : c = "NoNumber"
    · subst h_NoNumber
      simp at h
      subst h; show PySem.W.exmOne K (.ref ((clf A_Floats A_Held A_Lame A_NoName A_NoNumber A_NoPoint A_NoRoad A_NoRow A_NoSize A_NoStreams A_NoWord A_OhmError A_Ring A_TooMany) "NoNumber")) (.ref ((clf A_Floats A_Held A_Lame A_NoName A_NoNumber A_NoPoint A_NoRoad A_NoRow A_NoSize A_NoStreams A_NoWord A_OhmError A_Ring A_TooMany) "OhmError")) = _; rw [l_NoNumber, l_OhmError]; exact em_NoNumber_OhmError
    rw [if_neg h_NoNumber] at h
    cases h)
  have T_k_NoNumber : Kit ⟨K, (clf A_Floats A_Held A_Lame A_NoName A_NoNumber A_NoPoint A_NoRoad A_NoRow A_NoSize A_NoStreams A_NoWord A_OhmError A_Ring A_TooMany)⟩ (.ref ((clf A_Floats A_Held A_Lame A_NoName A_NoNumber A_NoPoint A_NoRoad A_NoRow A_NoSize A_NoStreams A_NoWord A_OhmError A_Ring A_TooMany) "NoNumber")) tab_NoNumber := ⟨(fun c b h => by
    unfold tab_NoNumber at h
    by_cases h_NoNumber : c = "NoNumber"
    · subst h_NoNumber
      simp at h
      subst h; show PySem.W.kitOne K (.ref ((clf A_Floats A_Held A_Lame A_NoName A_NoNumber A_NoPoint A_NoRoad A_NoRow A_NoSize A_NoStreams A_NoWord A_OhmError A_Ring A_TooMany) "NoNumber")) (.ref ((clf A_Floats A_Held A_Lame A_NoName A_NoNumber A_NoPoint A_NoRoad A_NoRow A_NoSize A_NoStreams A_NoWord A_OhmError A_Ring A_TooMany) "NoNumber")) = _; rw [l_NoNumber]; exact (kit_ref s_NoNumber_NoNumber s_NoNumber_NoNumber i_NoNumber tD_NoNumber)
    rw [if_neg h_NoNumber] at h
    cases h), (fun c b h => by
    unfold tab_NoNumber at h
    by_cases h_NoNumber : c = "NoNumber"
    · subst h_NoNumber
      simp at h
      exact A_at_NoNumber
    rw [if_neg h_NoNumber] at h
    cases h), ⟨hn, ht⟩⟩
  have T_k_ValueError : Kit ⟨K, (clf A_Floats A_Held A_Lame A_NoName A_NoNumber A_NoPoint A_NoRoad A_NoRow A_NoSize A_NoStreams A_NoWord A_OhmError A_Ring A_TooMany)⟩ (.type "ValueError") tab_ValueError := ⟨(fun c b h => by
    unfold tab_ValueError at h
    by_cases h_NoNumber : c = "NoNumber"
    · subst h_NoNumber
      simp at h
      subst h; show PySem.W.kitOne K (.ref ((clf A_Floats A_Held A_Lame A_NoName A_NoNumber A_NoPoint A_NoRoad A_NoRow A_NoSize A_NoStreams A_NoWord A_OhmError A_Ring A_TooMany) "NoNumber")) (.type "ValueError") = _; rw [l_NoNumber]; exact (kit_typ s_NoNumber_ValueError (by decide +kernel))
    rw [if_neg h_NoNumber] at h
    cases h), (fun c b h => by
    unfold tab_ValueError at h
    by_cases h_NoNumber : c = "NoNumber"
    · subst h_NoNumber
      simp at h
      exact A_at_NoNumber
    rw [if_neg h_NoNumber] at h
    cases h), ⟨hn, ht⟩⟩
  have T_t_Floats_Held_Lame_NoName_NoPoint_NoRoad : KitT ⟨K, (clf A_Floats A_Held A_Lame A_NoName A_NoNumber A_NoPoint A_NoRoad A_NoRow A_NoSize A_NoStreams A_NoWord A_OhmError A_Ring A_TooMany)⟩ [(.ref ((clf A_Floats A_Held A_Lame A_NoName A_NoNumber A_NoPoint A_NoRoad A_NoRow A_NoSize A_NoStreams A_NoWord A_OhmError A_Ring A_TooMany) "Floats")), (.ref ((clf A_Floats A_Held A_Lame A_NoName A_NoNumber A_NoPoint A_NoRoad A_NoRow A_NoSize A_NoStreams A_NoWord A_OhmError A_Ring A_TooMany) "Held")), (.ref ((clf A_Floats A_Held A_Lame A_NoName A_NoNumber A_NoPoint A_NoRoad A_NoRow A_NoSize A_NoStreams A_NoWord A_OhmError A_Ring A_TooMany) "Lame")), (.ref ((clf A_Floats A_Held A_Lame A_NoName A_NoNumber A_NoPoint A_NoRoad A_NoRow A_NoSize A_NoStreams A_NoWord A_OhmError A_Ring A_TooMany) "NoName")), (.ref ((clf A_Floats A_Held A_Lame A_NoName A_NoNumber A_NoPoint A_NoRoad A_NoRow A_NoSize A_NoStreams A_NoWord A_OhmError A_Ring A_TooMany) "NoPoint")), (.ref ((clf A_Floats A_Held A_Lame A_NoName A_NoNumber A_NoPoint A_NoRoad A_NoRow A_NoSize A_NoStreams A_NoWord A_OhmError A_Ring A_TooMany) "NoRoad"))] tab_Floats_Held_Lame_NoName_NoPoint_NoRoad := ⟨(fun c b h => by
    unfold tab_Floats_Held_Lame_NoName_NoPoint_NoRoad at h
    by_cases h_NoNumber : c = "NoNumber"
    · subst h_NoNumber
      simp at h
      subst h; show PySem.W.kitAny K (.ref ((clf A_Floats A_Held A_Lame A_NoName A_NoNumber A_NoPoint A_NoRoad A_NoRow A_NoSize A_NoStreams A_NoWord A_OhmError A_Ring A_TooMany) "NoNumber")) [(.ref ((clf A_Floats A_Held A_Lame A_NoName A_NoNumber A_NoPoint A_NoRoad A_NoRow A_NoSize A_NoStreams A_NoWord A_OhmError A_Ring A_TooMany) "Floats")), (.ref ((clf A_Floats A_Held A_Lame A_NoName A_NoNumber A_NoPoint A_NoRoad A_NoRow A_NoSize A_NoStreams A_NoWord A_OhmError A_Ring A_TooMany) "Held")), (.ref ((clf A_Floats A_Held A_Lame A_NoName A_NoNumber A_NoPoint A_NoRoad A_NoRow A_NoSize A_NoStreams A_NoWord A_OhmError A_Ring A_TooMany) "Lame")), (.ref ((clf A_Floats A_Held A_Lame A_NoName A_NoNumber A_NoPoint A_NoRoad A_NoRow A_NoSize A_NoStreams A_NoWord A_OhmError A_Ring A_TooMany) "NoName")), (.ref ((clf A_Floats A_Held A_Lame A_NoName A_NoNumber A_NoPoint A_NoRoad A_NoRow A_NoSize A_NoStreams A_NoWord A_OhmError A_Ring A_TooMany) "NoPoint")), (.ref ((clf A_Floats A_Held A_Lame A_NoName A_NoNumber A_NoPoint A_NoRoad A_NoRow A_NoSize A_NoStreams A_NoWord A_OhmError A_Ring A_TooMany) "NoRoad"))] = _; rw [l_NoNumber, l_Floats, l_Held, l_Lame, l_NoName, l_NoPoint, l_NoRoad]; exact (kitAny_cons (kit_ref s_NoNumber_NoNumber s_NoNumber_Floats i_Floats tD_Floats) (fun _ => (kitAny_cons (kit_ref s_NoNumber_NoNumber s_NoNumber_Held i_Held tD_Held) (fun _ => (kitAny_cons (kit_ref s_NoNumber_NoNumber s_NoNumber_Lame i_Lame tD_Lame) (fun _ => (kitAny_cons (kit_ref s_NoNumber_NoNumber s_NoNumber_NoName i_NoName tD_NoName) (fun _ => (kitAny_cons (kit_ref s_NoNumber_NoNumber s_NoNumber_NoPoint i_NoPoint tD_NoPoint) (fun _ => (kitAny_cons (kit_ref s_NoNumber_NoNumber s_NoNumber_NoRoad i_NoRoad tD_NoRoad) (fun _ => kitAny_nil) (fun z => nomatch z))) (fun z => nomatch z))) (fun z => nomatch z))) (fun z => nomatch z))) (fun z => nomatch z))) (fun z => nomatch z))
    rw [if_neg h_NoNumber] at h
    cases h), (fun c b h => by
    unfold tab_Floats_Held_Lame_NoName_NoPoint_NoRoad at h
    by_cases h_NoNumber : c = "NoNumber"
    · subst h_NoNumber
      simp at h
      exact A_at_NoNumber
    rw [if_neg h_NoNumber] at h
    cases h), ⟨hn, ht⟩⟩
  have T_t_NoRow_NoSize_NoStreams_NoWord_Ring_TooMany : KitT ⟨K, (clf A_Floats A_Held A_Lame A_NoName A_NoNumber A_NoPoint A_NoRoad A_NoRow A_NoSize A_NoStreams A_NoWord A_OhmError A_Ring A_TooMany)⟩ [(.ref ((clf A_Floats A_Held A_Lame A_NoName A_NoNumber A_NoPoint A_NoRoad A_NoRow A_NoSize A_NoStreams A_NoWord A_OhmError A_Ring A_TooMany) "NoRow")), (.ref ((clf A_Floats A_Held A_Lame A_NoName A_NoNumber A_NoPoint A_NoRoad A_NoRow A_NoSize A_NoStreams A_NoWord A_OhmError A_Ring A_TooMany) "NoSize")), (.ref ((clf A_Floats A_Held A_Lame A_NoName A_NoNumber A_NoPoint A_NoRoad A_NoRow A_NoSize A_NoStreams A_NoWord A_OhmError A_Ring A_TooMany) "NoStreams")), (.ref ((clf A_Floats A_Held A_Lame A_NoName A_NoNumber A_NoPoint A_NoRoad A_NoRow A_NoSize A_NoStreams A_NoWord A_OhmError A_Ring A_TooMany) "NoWord")), (.ref ((clf A_Floats A_Held A_Lame A_NoName A_NoNumber A_NoPoint A_NoRoad A_NoRow A_NoSize A_NoStreams A_NoWord A_OhmError A_Ring A_TooMany) "Ring")), (.ref ((clf A_Floats A_Held A_Lame A_NoName A_NoNumber A_NoPoint A_NoRoad A_NoRow A_NoSize A_NoStreams A_NoWord A_OhmError A_Ring A_TooMany) "TooMany"))] tab_NoRow_NoSize_NoStreams_NoWord_Ring_TooMany := ⟨(fun c b h => by
    unfold tab_NoRow_NoSize_NoStreams_NoWord_Ring_TooMany at h
    by_cases h_NoNumber : c = "NoNumber"
    · subst h_NoNumber
      simp at h
      subst h; show PySem.W.kitAny K (.ref ((clf A_Floats A_Held A_Lame A_NoName A_NoNumber A_NoPoint A_NoRoad A_NoRow A_NoSize A_NoStreams A_NoWord A_OhmError A_Ring A_TooMany) "NoNumber")) [(.ref ((clf A_Floats A_Held A_Lame A_NoName A_NoNumber A_NoPoint A_NoRoad A_NoRow A_NoSize A_NoStreams A_NoWord A_OhmError A_Ring A_TooMany) "NoRow")), (.ref ((clf A_Floats A_Held A_Lame A_NoName A_NoNumber A_NoPoint A_NoRoad A_NoRow A_NoSize A_NoStreams A_NoWord A_OhmError A_Ring A_TooMany) "NoSize")), (.ref ((clf A_Floats A_Held A_Lame A_NoName A_NoNumber A_NoPoint A_NoRoad A_NoRow A_NoSize A_NoStreams A_NoWord A_OhmError A_Ring A_TooMany) "NoStreams")), (.ref ((clf A_Floats A_Held A_Lame A_NoName A_NoNumber A_NoPoint A_NoRoad A_NoRow A_NoSize A_NoStreams A_NoWord A_OhmError A_Ring A_TooMany) "NoWord")), (.ref ((clf A_Floats A_Held A_Lame A_NoName A_NoNumber A_NoPoint A_NoRoad A_NoRow A_NoSize A_NoStreams A_NoWord A_OhmError A_Ring A_TooMany) "Ring")), (.ref ((clf A_Floats A_Held A_Lame A_NoName A_NoNumber A_NoPoint A_NoRoad A_NoRow A_NoSize A_NoStreams A_NoWord A_OhmError A_Ring A_TooMany) "TooMany"))] = _; rw [l_NoNumber, l_NoRow, l_NoSize, l_NoStreams, l_NoWord, l_Ring, l_TooMany]; exact (kitAny_cons (kit_ref s_NoNumber_NoNumber s_NoNumber_NoRow i_NoRow tD_NoRow) (fun _ => (kitAny_cons (kit_ref s_NoNumber_NoNumber s_NoNumber_NoSize i_NoSize tD_NoSize) (fun _ => (kitAny_cons (kit_ref s_NoNumber_NoNumber s_NoNumber_NoStreams i_NoStreams tD_NoStreams) (fun _ => (kitAny_cons (kit_ref s_NoNumber_NoNumber s_NoNumber_NoWord i_NoWord tD_NoWord) (fun _ => (kitAny_cons (kit_ref s_NoNumber_NoNumber s_NoNumber_Ring i_Ring tD_Ring) (fun _ => (kitAny_cons (kit_ref s_NoNumber_NoNumber s_NoNumber_TooMany i_TooMany tD_TooMany) (fun _ => kitAny_nil) (fun z => nomatch z))) (fun z => nomatch z))) (fun z => nomatch z))) (fun z => nomatch z))) (fun z => nomatch z))) (fun z => nomatch z))
    rw [if_neg h_NoNumber] at h
    cases h), (fun c b h => by
    unfold tab_NoRow_NoSize_NoStreams_NoWord_Ring_TooMany at h
    by_cases h_NoNumber : c = "NoNumber"
    · subst h_NoNumber
      simp at h
      exact A_at_NoNumber
    rw [if_neg h_NoNumber] at h
    cases h), ⟨hn, ht⟩⟩
  have T : Txt ⟨K, (clf A_Floats A_Held A_Lame A_NoName A_NoNumber A_NoPoint A_NoRoad A_NoRow A_NoSize A_NoStreams A_NoWord A_OhmError A_Ring A_TooMany)⟩ mg := ⟨PySem.W.mg_none_of X G z_ValueError, PySem.W.mg_none_of X G z_abs, PySem.W.mg_none_of X G z_bool, PySem.W.mg_none_of X G z_int, PySem.W.mg_none_of X G z_isinstance, PySem.W.mg_none_of X G z_len, PySem.W.mg_none_of X G z_max, PySem.W.mg_none_of X G z_min, PySem.W.mg_none_of X G z_range, PySem.W.mg_none_of X G z_tuple, T_e_NoNumber, (by show mg "Floats" = some (.ref ((clf A_Floats A_Held A_Lame A_NoName A_NoNumber A_NoPoint A_NoRoad A_NoRow A_NoSize A_NoStreams A_NoWord A_OhmError A_Ring A_TooMany) "Floats")); rw [l_Floats]; exact PySem.W.mg_of X G x_Floats), (by show mg "Held" = some (.ref ((clf A_Floats A_Held A_Lame A_NoName A_NoNumber A_NoPoint A_NoRoad A_NoRow A_NoSize A_NoStreams A_NoWord A_OhmError A_Ring A_TooMany) "Held")); rw [l_Held]; exact PySem.W.mg_of X G x_Held), (by show mg "Lame" = some (.ref ((clf A_Floats A_Held A_Lame A_NoName A_NoNumber A_NoPoint A_NoRoad A_NoRow A_NoSize A_NoStreams A_NoWord A_OhmError A_Ring A_TooMany) "Lame")); rw [l_Lame]; exact PySem.W.mg_of X G x_Lame), (by show mg "NoName" = some (.ref ((clf A_Floats A_Held A_Lame A_NoName A_NoNumber A_NoPoint A_NoRoad A_NoRow A_NoSize A_NoStreams A_NoWord A_OhmError A_Ring A_TooMany) "NoName")); rw [l_NoName]; exact PySem.W.mg_of X G x_NoName), (by show mg "NoNumber" = some (.ref ((clf A_Floats A_Held A_Lame A_NoName A_NoNumber A_NoPoint A_NoRoad A_NoRow A_NoSize A_NoStreams A_NoWord A_OhmError A_Ring A_TooMany) "NoNumber")); rw [l_NoNumber]; exact PySem.W.mg_of X G x_NoNumber), (by show mg "NoPoint" = some (.ref ((clf A_Floats A_Held A_Lame A_NoName A_NoNumber A_NoPoint A_NoRoad A_NoRow A_NoSize A_NoStreams A_NoWord A_OhmError A_Ring A_TooMany) "NoPoint")); rw [l_NoPoint]; exact PySem.W.mg_of X G x_NoPoint), (by show mg "NoRoad" = some (.ref ((clf A_Floats A_Held A_Lame A_NoName A_NoNumber A_NoPoint A_NoRoad A_NoRow A_NoSize A_NoStreams A_NoWord A_OhmError A_Ring A_TooMany) "NoRoad")); rw [l_NoRoad]; exact PySem.W.mg_of X G x_NoRoad), (by show mg "NoRow" = some (.ref ((clf A_Floats A_Held A_Lame A_NoName A_NoNumber A_NoPoint A_NoRoad A_NoRow A_NoSize A_NoStreams A_NoWord A_OhmError A_Ring A_TooMany) "NoRow")); rw [l_NoRow]; exact PySem.W.mg_of X G x_NoRow), (by show mg "NoSize" = some (.ref ((clf A_Floats A_Held A_Lame A_NoName A_NoNumber A_NoPoint A_NoRoad A_NoRow A_NoSize A_NoStreams A_NoWord A_OhmError A_Ring A_TooMany) "NoSize")); rw [l_NoSize]; exact PySem.W.mg_of X G x_NoSize), (by show mg "NoStreams" = some (.ref ((clf A_Floats A_Held A_Lame A_NoName A_NoNumber A_NoPoint A_NoRoad A_NoRow A_NoSize A_NoStreams A_NoWord A_OhmError A_Ring A_TooMany) "NoStreams")); rw [l_NoStreams]; exact PySem.W.mg_of X G x_NoStreams), (by show mg "NoWord" = some (.ref ((clf A_Floats A_Held A_Lame A_NoName A_NoNumber A_NoPoint A_NoRoad A_NoRow A_NoSize A_NoStreams A_NoWord A_OhmError A_Ring A_TooMany) "NoWord")); rw [l_NoWord]; exact PySem.W.mg_of X G x_NoWord), (by show mg "OhmError" = some (.ref ((clf A_Floats A_Held A_Lame A_NoName A_NoNumber A_NoPoint A_NoRoad A_NoRow A_NoSize A_NoStreams A_NoWord A_OhmError A_Ring A_TooMany) "OhmError")); rw [l_OhmError]; exact PySem.W.mg_of X G x_OhmError), (by show mg "Ring" = some (.ref ((clf A_Floats A_Held A_Lame A_NoName A_NoNumber A_NoPoint A_NoRoad A_NoRow A_NoSize A_NoStreams A_NoWord A_OhmError A_Ring A_TooMany) "Ring")); rw [l_Ring]; exact PySem.W.mg_of X G x_Ring), (by show mg "TooMany" = some (.ref ((clf A_Floats A_Held A_Lame A_NoName A_NoNumber A_NoPoint A_NoRoad A_NoRow A_NoSize A_NoStreams A_NoWord A_OhmError A_Ring A_TooMany) "TooMany")); rw [l_TooMany]; exact PySem.W.mg_of X G x_TooMany), T_u_NoNumber, T_u_OhmError, T_k_NoNumber, T_k_ValueError, T_t_Floats_Held_Lame_NoName_NoPoint_NoRoad, T_t_NoRow_NoSize_NoStreams_NoWord_Ring_TooMany⟩
  have F0 := fun_mk (st := s_divisor) l0 c0 k0
  have b0 := F0.binds (ps := ["one", "other"]) fun _ _ _ _ _ _ us hl => match us, hl with | [_, _], _ => rfl
  have F1 := fun_mk (st := s_is_whole) l1 c1 k1
  have b1 := F1.binds (ps := ["thing"]) fun _ _ _ _ _ _ us hl => match us, hl with | [_], _ => rfl
  have F2 : FunD K "fraction" "fraction" (defArgs s_fraction) (defBody s_fraction) (defScope s_fraction) [.int 1] [] f2 _ := ⟨⟨_, _, _, _, _, _, _, _, _, _, rfl, l2, c2, .inr ⟨by simp, _, _, _, _, rfl, t2, rfl, (.cons ⟨xt2_0, rfl⟩ .nil)⟩, .inl rfl⟩, k2⟩
  have F3 := fun_mk (st := s_law_refused_alone) l3 c3 k3
  have b3 := F3.binds (ps := ["top"]) fun _ _ _ _ _ _ us hl => match us, hl with | [_], _ => rfl
  have F4 := fun_mk (st := s_law_refused) l4 c4 k4
  have b4 := F4.binds (ps := ["top", "bottom"]) fun _ _ _ _ _ _ us hl => match us, hl with | [_, _], _ => rfl
  have F5 := fun_mk (st := s_law_number) l5 c5 k5
  have b5 := F5.binds (ps := ["cell"]) fun _ _ _ _ _ _ us hl => match us, hl with | [_], _ => rfl
  have F6 := fun_mk (st := s_law_pick) l6 c6 k6
  have b6 := F6.binds (ps := ["script", "k"]) fun _ _ _ _ _ _ us hl => match us, hl with | [_, _], _ => rfl
  have F7 := fun_mk (st := s_law_divisor) l7 c7 k7
  have b7 := F7.binds (ps := ["one", "other"]) fun _ _ _ _ _ _ us hl => match us, hl with | [_, _], _ => rfl
  have F8 := fun_mk (st := s_law_plain) l8 c8 k8
  have b8 := F8.binds (ps := ["thing"]) fun _ _ _ _ _ _ us hl => match us, hl with | [_], _ => rfl
  have F9 := fun_mk (st := s_law_lowest) l9 c9 k9
  have b9 := F9.binds (ps := ["found"]) fun _ _ _ _ _ _ us hl => match us, hl with | [_], _ => rfl
  have F10 := fun_mk (st := s_is_fraction) l10 c10 k10
  have b10 := F10.binds (ps := ["thing"]) fun _ _ _ _ _ _ us hl => match us, hl with | [_], _ => rfl
  have F11 := fun_mk (st := s_law_told_apart) l11 c11 k11
  have b11 := F11.binds (ps := ["one"]) fun _ _ _ _ _ _ us hl => match us, hl with | [_], _ => rfl
  have F12 := fun_mk (st := s_law) l12 c12 k12
  refine ⟨PySem.W.fnOf "law" "law" (defArgs s_law) (defBody s_law) (defScope s_law) .none kV12 dc12 pm12 an12 cd12 ct12, fun s v => .of_eq rfl, fun base KB GB => ?_⟩
  have O_divisor : FnOk P w K mg base CX0 1 f0 _ ["one", "other"] (spP ⟨K, (clf A_Floats A_Held A_Lame A_NoName A_NoNumber A_NoPoint A_NoRoad A_NoRow A_NoSize A_NoStreams A_NoWord A_OhmError A_Ring A_TooMany)⟩ 2 m_divisor) := ok_divisor (kc := ⟨K, (clf A_Floats A_Held A_Lame A_NoName A_NoNumber A_NoPoint A_NoRoad A_NoRow A_NoSize A_NoStreams A_NoWord A_OhmError A_Ring A_TooMany)⟩) F0 T  
  have C_divisor : Fn P w K mg base ⟨K, (clf A_Floats A_Held A_Lame A_NoName A_NoNumber A_NoPoint A_NoRoad A_NoRow A_NoSize A_NoStreams A_NoWord A_OhmError A_Ring A_TooMany)⟩ 1 "divisor" 2 m_divisor := .mk0 O_divisor (PySem.W.mg_of X G a0) k0 b0
  have O_is_whole : FnOk P w K mg base CX0 1 f1 _ ["thing"] (spP ⟨K, (clf A_Floats A_Held A_Lame A_NoName A_NoNumber A_NoPoint A_NoRoad A_NoRow A_NoSize A_NoStreams A_NoWord A_OhmError A_Ring A_TooMany)⟩ 1 m_is_whole) := ok_is_whole (kc := ⟨K, (clf A_Floats A_Held A_Lame A_NoName A_NoNumber A_NoPoint A_NoRoad A_NoRow A_NoSize A_NoStreams A_NoWord A_OhmError A_Ring A_TooMany)⟩) F1 T  
  have C_is_whole : Fn P w K mg base ⟨K, (clf A_Floats A_Held A_Lame A_NoName A_NoNumber A_NoPoint A_NoRoad A_NoRow A_NoSize A_NoStreams A_NoWord A_OhmError A_Ring A_TooMany)⟩ 1 "is_whole" 1 m_is_whole := .mk0 O_is_whole (PySem.W.mg_of X G a1) k1 b1
  have O_fraction : FnOk P w K mg base (L2.CX P w) 2 f2 _ ["top", "bottom"] (spX ⟨K, (clf A_Floats A_Held A_Lame A_NoName A_NoNumber A_NoPoint A_NoRoad A_NoRow A_NoSize A_NoStreams A_NoWord A_OhmError A_Ring A_TooMany)⟩ 2 mX_fraction) := ok_fraction (kc := ⟨K, (clf A_Floats A_Held A_Lame A_NoName A_NoNumber A_NoPoint A_NoRoad A_NoRow A_NoSize A_NoStreams A_NoWord A_OhmError A_Ring A_TooMany)⟩) F2 T C_divisor C_is_whole 
  have X_fraction1 : FnX P w K mg base ⟨K, (clf A_Floats A_Held A_Lame A_NoName A_NoNumber A_NoPoint A_NoRoad A_NoRow A_NoSize A_NoStreams A_NoWord A_OhmError A_Ring A_TooMany)⟩ 2 "fraction" 1 mX_fraction1 := FnX.mkD (n := 1) (dds := [.int 1]) O_fraction (PySem.W.mg_of X G a2) k2 (F2.binds1 1 0 (by simp) rfl fun T kV doc pm an cdv ct us its h1 h2 => match us, its, h1, h2 with | [_], [_], _, _ => ⟨_, rfl, rfl⟩) (fun _ => (.cons (by simp only [Rep]) .nil)) rfl fun ds => rfl
  have C_fraction1 : Fn P w K mg base ⟨K, (clf A_Floats A_Held A_Lame A_NoName A_NoNumber A_NoPoint A_NoRoad A_NoRow A_NoSize A_NoStreams A_NoWord A_OhmError A_Ring A_TooMany)⟩ 2 "fraction" 1 m_fraction1 := X_fraction1.fn
  have X_fraction : FnX P w K mg base ⟨K, (clf A_Floats A_Held A_Lame A_NoName A_NoNumber A_NoPoint A_NoRoad A_NoRow A_NoSize A_NoStreams A_NoWord A_OhmError A_Ring A_TooMany)⟩ 2 "fraction" 2 mX_fraction := FnX.mkD (n := 2) (dds := []) O_fraction (PySem.W.mg_of X G a2) k2 (F2.binds1 2 1 (by simp) rfl fun T kV doc pm an cdv ct us its h1 h2 => match us, its, h1, h2 with | [_, _], [_], _, _ => ⟨_, rfl, rfl⟩) (fun _ => .nil) rfl fun ds => by rw [List.append_nil]
  have C_fraction : Fn P w K mg base ⟨K, (clf A_Floats A_Held A_Lame A_NoName A_NoNumber A_NoPoint A_NoRoad A_NoRow A_NoSize A_NoStreams A_NoWord A_OhmError A_Ring A_TooMany)⟩ 2 "fraction" 2 m_fraction := X_fraction.fn
  have O_law_refused_alone : FnOk P w K mg base CX0 3 f3 _ ["top"] (spP ⟨K, (clf A_Floats A_Held A_Lame A_NoName A_NoNumber A_NoPoint A_NoRoad A_NoRow A_NoSize A_NoStreams A_NoWord A_OhmError A_Ring A_TooMany)⟩ 1 m_law_refused_alone) := ok_law_refused_alone (kc := ⟨K, (clf A_Floats A_Held A_Lame A_NoName A_NoNumber A_NoPoint A_NoRoad A_NoRow A_NoSize A_NoStreams A_NoWord A_OhmError A_Ring A_TooMany)⟩) F3 T  X_fraction1
  have C_law_refused_alone : Fn P w K mg base ⟨K, (clf A_Floats A_Held A_Lame A_NoName A_NoNumber A_NoPoint A_NoRoad A_NoRow A_NoSize A_NoStreams A_NoWord A_OhmError A_Ring A_TooMany)⟩ 3 "_law_refused_alone" 1 m_law_refused_alone := .mk0 O_law_refused_alone (PySem.W.mg_of X G a3) k3 b3
  have O_law_refused : FnOk P w K mg base CX0 3 f4 _ ["top", "bottom"] (spP ⟨K, (clf A_Floats A_Held A_Lame A_NoName A_NoNumber A_NoPoint A_NoRoad A_NoRow A_NoSize A_NoStreams A_NoWord A_OhmError A_Ring A_TooMany)⟩ 2 m_law_refused) := ok_law_refused (kc := ⟨K, (clf A_Floats A_Held A_Lame A_NoName A_NoNumber A_NoPoint A_NoRoad A_NoRow A_NoSize A_NoStreams A_NoWord A_OhmError A_Ring A_TooMany)⟩) F4 T  X_fraction
  have C_law_refused : Fn P w K mg base ⟨K, (clf A_Floats A_Held A_Lame A_NoName A_NoNumber A_NoPoint A_NoRoad A_NoRow A_NoSize A_NoStreams A_NoWord A_OhmError A_Ring A_TooMany)⟩ 3 "_law_refused" 2 m_law_refused := .mk0 O_law_refused (PySem.W.mg_of X G a4) k4 b4
  have O_law_number : FnOk P w K mg base CX0 1 f5 _ ["cell"] (spP ⟨K, (clf A_Floats A_Held A_Lame A_NoName A_NoNumber A_NoPoint A_NoRoad A_NoRow A_NoSize A_NoStreams A_NoWord A_OhmError A_Ring A_TooMany)⟩ 1 m_law_number) := ok_law_number (kc := ⟨K, (clf A_Floats A_Held A_Lame A_NoName A_NoNumber A_NoPoint A_NoRoad A_NoRow A_NoSize A_NoStreams A_NoWord A_OhmError A_Ring A_TooMany)⟩) F5 T  
  have C_law_number : Fn P w K mg base ⟨K, (clf A_Floats A_Held A_Lame A_NoName A_NoNumber A_NoPoint A_NoRoad A_NoRow A_NoSize A_NoStreams A_NoWord A_OhmError A_Ring A_TooMany)⟩ 1 "_law_number" 1 m_law_number := .mk0 O_law_number (PySem.W.mg_of X G a5) k5 b5
  have O_law_pick : FnOk P w K mg base CX0 1 f6 _ ["script", "k"] (spP ⟨K, (clf A_Floats A_Held A_Lame A_NoName A_NoNumber A_NoPoint A_NoRoad A_NoRow A_NoSize A_NoStreams A_NoWord A_OhmError A_Ring A_TooMany)⟩ 2 m_law_pick) := ok_law_pick (kc := ⟨K, (clf A_Floats A_Held A_Lame A_NoName A_NoNumber A_NoPoint A_NoRoad A_NoRow A_NoSize A_NoStreams A_NoWord A_OhmError A_Ring A_TooMany)⟩) F6 T  
  have C_law_pick : Fn P w K mg base ⟨K, (clf A_Floats A_Held A_Lame A_NoName A_NoNumber A_NoPoint A_NoRoad A_NoRow A_NoSize A_NoStreams A_NoWord A_OhmError A_Ring A_TooMany)⟩ 1 "_law_pick" 2 m_law_pick := .mk0 O_law_pick (PySem.W.mg_of X G a6) k6 b6
  have O_law_divisor : FnOk P w K mg base CX0 1 f7 _ ["one", "other"] (spP ⟨K, (clf A_Floats A_Held A_Lame A_NoName A_NoNumber A_NoPoint A_NoRoad A_NoRow A_NoSize A_NoStreams A_NoWord A_OhmError A_Ring A_TooMany)⟩ 2 m_law_divisor) := ok_law_divisor (kc := ⟨K, (clf A_Floats A_Held A_Lame A_NoName A_NoNumber A_NoPoint A_NoRoad A_NoRow A_NoSize A_NoStreams A_NoWord A_OhmError A_Ring A_TooMany)⟩) F7 T  
  have C_law_divisor : Fn P w K mg base ⟨K, (clf A_Floats A_Held A_Lame A_NoName A_NoNumber A_NoPoint A_NoRoad A_NoRow A_NoSize A_NoStreams A_NoWord A_OhmError A_Ring A_TooMany)⟩ 1 "_law_divisor" 2 m_law_divisor := .mk0 O_law_divisor (PySem.W.mg_of X G a7) k7 b7
  have O_law_plain : FnOk P w K mg base CX0 1 f8 _ ["thing"] (spP ⟨K, (clf A_Floats A_Held A_Lame A_NoName A_NoNumber A_NoPoint A_NoRoad A_NoRow A_NoSize A_NoStreams A_NoWord A_OhmError A_Ring A_TooMany)⟩ 1 m_law_plain) := ok_law_plain (kc := ⟨K, (clf A_Floats A_Held A_Lame A_NoName A_NoNumber A_NoPoint A_NoRoad A_NoRow A_NoSize A_NoStreams A_NoWord A_OhmError A_Ring A_TooMany)⟩) F8 T  
  have C_law_plain : Fn P w K mg base ⟨K, (clf A_Floats A_Held A_Lame A_NoName A_NoNumber A_NoPoint A_NoRoad A_NoRow A_NoSize A_NoStreams A_NoWord A_OhmError A_Ring A_TooMany)⟩ 1 "_law_plain" 1 m_law_plain := .mk0 O_law_plain (PySem.W.mg_of X G a8) k8 b8
  have O_law_lowest : FnOk P w K mg base CX0 2 f9 _ ["found"] (spP ⟨K, (clf A_Floats A_Held A_Lame A_NoName A_NoNumber A_NoPoint A_NoRoad A_NoRow A_NoSize A_NoStreams A_NoWord A_OhmError A_Ring A_TooMany)⟩ 1 m_law_lowest) := ok_law_lowest (kc := ⟨K, (clf A_Floats A_Held A_Lame A_NoName A_NoNumber A_NoPoint A_NoRoad A_NoRow A_NoSize A_NoStreams A_NoWord A_OhmError A_Ring A_TooMany)⟩) F9 T C_law_divisor C_law_plain 
  have C_law_lowest : Fn P w K mg base ⟨K, (clf A_Floats A_Held A_Lame A_NoName A_NoNumber A_NoPoint A_NoRoad A_NoRow A_NoSize A_NoStreams A_NoWord A_OhmError A_Ring A_TooMany)⟩ 2 "_law_lowest" 1 m_law_lowest := .mk0 O_law_lowest (PySem.W.mg_of X G a9) k9 b9
  have O_is_fraction : FnOk P w K mg base CX0 2 f10 _ ["thing"] (spP ⟨K, (clf A_Floats A_Held A_Lame A_NoName A_NoNumber A_NoPoint A_NoRoad A_NoRow A_NoSize A_NoStreams A_NoWord A_OhmError A_Ring A_TooMany)⟩ 1 m_is_fraction) := ok_is_fraction (kc := ⟨K, (clf A_Floats A_Held A_Lame A_NoName A_NoNumber A_NoPoint A_NoRoad A_NoRow A_NoSize A_NoStreams A_NoWord A_OhmError A_Ring A_TooMany)⟩) F10 T C_divisor C_is_whole 
  have C_is_fraction : Fn P w K mg base ⟨K, (clf A_Floats A_Held A_Lame A_NoName A_NoNumber A_NoPoint A_NoRoad A_NoRow A_NoSize A_NoStreams A_NoWord A_OhmError A_Ring A_TooMany)⟩ 2 "is_fraction" 1 m_is_fraction := .mk0 O_is_fraction (PySem.W.mg_of X G a10) k10 b10
  have O_law_told_apart : FnOk P w K mg base CX0 3 f11 _ ["one"] (spP ⟨K, (clf A_Floats A_Held A_Lame A_NoName A_NoNumber A_NoPoint A_NoRoad A_NoRow A_NoSize A_NoStreams A_NoWord A_OhmError A_Ring A_TooMany)⟩ 1 m_law_told_apart) := ok_law_told_apart (kc := ⟨K, (clf A_Floats A_Held A_Lame A_NoName A_NoNumber A_NoPoint A_NoRoad A_NoRow A_NoSize A_NoStreams A_NoWord A_OhmError A_Ring A_TooMany)⟩) F11 T C_is_fraction 
  have C_law_told_apart : Fn P w K mg base ⟨K, (clf A_Floats A_Held A_Lame A_NoName A_NoNumber A_NoPoint A_NoRoad A_NoRow A_NoSize A_NoStreams A_NoWord A_OhmError A_Ring A_TooMany)⟩ 3 "_law_told_apart" 1 m_law_told_apart := .mk0 O_law_told_apart (PySem.W.mg_of X G a11) k11 b11
  exact ok_law (kc := ⟨K, (clf A_Floats A_Held A_Lame A_NoName A_NoNumber A_NoPoint A_NoRoad A_NoRow A_NoSize A_NoStreams A_NoWord A_OhmError A_Ring A_TooMany)⟩) F12 T C_law_lowest C_law_number C_law_pick C_law_refused C_law_refused_alone C_law_told_apart C_fraction1 C_fraction C_is_whole 
end Pf
namespace Pf
open PySem L2 DL PyProof.Rows

theorem all_ints {k : KC} {B : Hp} : ∀ ns : List Int, Reps k B (ns.map .int) (ns.map V.int)
  | [] => .nil
  | n :: ns => .cons (by simp only [Rep]) (all_ints ns)
theorem walk {cl : String → Addr} {l : PySem.W.OpenLaw} {q : Program} {loose : List Str} {XP : (Str → Option Value) → Heap → Prop} {YP : World → Heap → Prop} {d : DefRec} {K : Params → PySem.W.Frag} (hn : l.most = some 63) (hdf : d.params.defaults = [])
    (hY : ∀ (w : World) (h : Heap), YP w h → (K w.params).In h)
    (F : ∀ (w : World) (mg : Str → Option Value) (fa : Addr) (h : Heap), (K w.params).In h → h.Ns mainGlobals mg → mg d.name = some (.ref fa) →
      ∃ fd : FuncData, (∀ (s : Shared) (u : Value), BindsTo s fd ⟨[u], []⟩ [("script", u)]) ∧ ∀ base : Heap, (K w.params).In base → base.Ns mainGlobals mg → FnOk l.prog w (K w.params) mg base CX0 4 fa fd ["script"] (spP ⟨K w.params, cl⟩ 1 m_law)) :
    PySem.W.WalkO q loose XP YP l.row.toRowW d [] (fun f vs => PySem.call f vs) :=
  L2.walk_of (n := 63) (k := 4) (x := "script") (CX := fun _ => CX0) (sp := fun w => spP ⟨K w.params, cl⟩ 1 m_law) hn (by decide) hdf ⟨rfl, by decide, by decide⟩ hY F (fun w H a ns hl _ hS =>
    ⟨H, [.lst (ns.map .int)], .sh (.bl true), .refl _, .one (by simp only [Rep]; exact ⟨a, _, rfl, hS, all_ints ns⟩), rfl, law_true ns hl, fun v B' H' w1 _ _ _ _ _ r => by simpa only [ORep, Rep] using r⟩) fun _ _ _ _ _ z => z
end Pf
open PySem PySem.W PyProof.Rows
set_option maxRecDepth 100000 in
set_option maxHeartbeats 0 in
theorem PySem.Challenge.cw_ohmyard_k01_a_fraction_holds : PySem.Challenge.rw_ohmyard_k01_a_fraction.Holds := by
  w_on; o_law; k_head; (case hw => w_witness2)
  k_fill
  refine' Pf.walk (cl := Pf.clf _ _ _ _ _ _ _ _ _ _ _ _ _ _) (l := PySem.Challenge.rw_ohmyard_k01_a_fraction) rfl rfl (fun w h Y => PySem.W.kIn_of Y) ?F
  case F =>
    intro w mg fa h KX G hmg
    refine' Pf.all_mk KX G hmg ?x_Floats ?x_Held ?x_Lame ?x_NoName ?x_NoNumber ?x_NoPoint ?x_NoRoad ?x_NoRow ?x_NoSize ?x_NoStreams ?x_NoWord ?x_OhmError ?x_Ring ?x_TooMany ?q_NoNumber ?kp_NoNumber ?sb_NoNumber ?ty_NoNumber ?cl_NoNumber ?ga_NoNumber ?gg_NoNumber ?hd_NoNumber ?ca_NoNumber ?mo_NoNumber ?em_NoNumber_NoNumber ?em_NoNumber_OhmError ?s_NoNumber_Floats ?s_NoNumber_Held ?s_NoNumber_Lame ?s_NoNumber_NoName ?s_NoNumber_NoNumber ?s_NoNumber_NoPoint ?s_NoNumber_NoRoad ?s_NoNumber_NoRow ?s_NoNumber_NoSize ?s_NoNumber_NoStreams ?s_NoNumber_NoWord ?s_NoNumber_Ring ?s_NoNumber_TooMany ?s_NoNumber_ValueError ?i_Floats ?tD_Floats ?i_Held ?tD_Held ?i_Lame ?tD_Lame ?i_NoName ?tD_NoName ?i_NoNumber ?tD_NoNumber ?i_NoPoint ?tD_NoPoint ?i_NoRoad ?tD_NoRoad ?i_NoRow ?tD_NoRow ?i_NoSize ?tD_NoSize ?i_NoStreams ?tD_NoStreams ?i_NoWord ?tD_NoWord ?i_Ring ?tD_Ring ?i_TooMany ?tD_TooMany ?hn ?ht ?z_ValueError ?z_abs ?z_bool ?z_int ?z_isinstance ?z_len ?z_max ?z_min ?z_range ?z_tuple ?a0 ?l0 ?c0 ?k0 ?a1 ?l1 ?c1 ?k1 ?a2 ?l2 ?c2 ?k2 ?t2 ?a3 ?l3 ?c3 ?k3 ?a4 ?l4 ?c4 ?k4 ?a5 ?l5 ?c5 ?k5 ?a6 ?l6 ?c6 ?k6 ?a7 ?l7 ?c7 ?k7 ?a8 ?l8 ?c8 ?k8 ?a9 ?l9 ?c9 ?k9 ?a10 ?l10 ?c10 ?k10 ?a11 ?l11 ?c11 ?k11 ?a12 ?l12 ?c12 ?k12
    (case x_Floats => k_is)
    (case x_Held => k_is)
    (case x_Lame => k_is)
    (case x_NoName => k_is)
    (case x_NoNumber => k_is)
    (case x_NoPoint => k_is)
    (case x_NoRoad => k_is)
    (case x_NoRow => k_is)
    (case x_NoSize => k_is)
    (case x_NoStreams => k_is)
    (case x_NoWord => k_is)
    (case x_OhmError => k_is)
    (case x_Ring => k_is)
    (case x_TooMany => k_is)
    (case q_NoNumber => k_exc)
    (case kp_NoNumber => k_is)
    (case sb_NoNumber => k_is)
    (case ty_NoNumber => k_is)
    (case cl_NoNumber => k_is)
    (case ga_NoNumber => k_is)
    (case gg_NoNumber => k_is)
    (case hd_NoNumber => k_is)
    (case ca_NoNumber => k_is)
    (case mo_NoNumber => k_is)
    (case em_NoNumber_NoNumber => kts_exm)
    (case em_NoNumber_OhmError => kts_exm)
    (case s_NoNumber_Floats => k_is)
    (case s_NoNumber_Held => k_is)
    (case s_NoNumber_Lame => k_is)
    (case s_NoNumber_NoName => k_is)
    (case s_NoNumber_NoNumber => k_is)
    (case s_NoNumber_NoPoint => k_is)
    (case s_NoNumber_NoRoad => k_is)
    (case s_NoNumber_NoRow => k_is)
    (case s_NoNumber_NoSize => k_is)
    (case s_NoNumber_NoStreams => k_is)
    (case s_NoNumber_NoWord => k_is)
    (case s_NoNumber_Ring => k_is)
    (case s_NoNumber_TooMany => k_is)
    (case s_NoNumber_ValueError => k_is)
    (case i_Floats => k_is)
    (case tD_Floats => k_is)
    (case i_Held => k_is)
    (case tD_Held => k_is)
    (case i_Lame => k_is)
    (case tD_Lame => k_is)
    (case i_NoName => k_is)
    (case tD_NoName => k_is)
    (case i_NoNumber => k_is)
    (case tD_NoNumber => k_is)
    (case i_NoPoint => k_is)
    (case tD_NoPoint => k_is)
    (case i_NoRoad => k_is)
    (case tD_NoRoad => k_is)
    (case i_NoRow => k_is)
    (case tD_NoRow => k_is)
    (case i_NoSize => k_is)
    (case tD_NoSize => k_is)
    (case i_NoStreams => k_is)
    (case tD_NoStreams => k_is)
    (case i_NoWord => k_is)
    (case tD_NoWord => k_is)
    (case i_Ring => k_is)
    (case tD_Ring => k_is)
    (case i_TooMany => k_is)
    (case tD_TooMany => k_is)
    (case hn => k_is)
    (case ht => k_is)
    (case z_ValueError => k_is)
    (case z_abs => k_is)
    (case z_bool => k_is)
    (case z_int => k_is)
    (case z_isinstance => k_is)
    (case z_len => k_is)
    (case z_max => k_is)
    (case z_min => k_is)
    (case z_range => k_is)
    (case z_tuple => k_is)
    (case a0 => k_is)
    (case l0 => k_is)
    (case c0 => k_is)
    (case k0 => k_is)
    (case a1 => k_is)
    (case l1 => k_is)
    (case c1 => k_is)
    (case k1 => k_is)
    (case a2 => k_is)
    (case l2 => k_is)
    (case c2 => k_is)
    (case k2 => k_is)
    (case t2 => k_is)
    (case a3 => k_is)
    (case l3 => k_is)
    (case c3 => k_is)
    (case k3 => k_is)
    (case a4 => k_is)
    (case l4 => k_is)
    (case c4 => k_is)
    (case k4 => k_is)
    (case a5 => k_is)
    (case l5 => k_is)
    (case c5 => k_is)
    (case k5 => k_is)
    (case a6 => k_is)
    (case l6 => k_is)
    (case c6 => k_is)
    (case k6 => k_is)
    (case a7 => k_is)
    (case l7 => k_is)
    (case c7 => k_is)
    (case k7 => k_is)
    (case a8 => k_is)
    (case l8 => k_is)
    (case c8 => k_is)
    (case k8 => k_is)
    (case a9 => k_is)
    (case l9 => k_is)
    (case c9 => k_is)
    (case k9 => k_is)
    (case a10 => k_is)
    (case l10 => k_is)
    (case c10 => k_is)
    (case k10 => k_is)
    (case a11 => k_is)
    (case l11 => k_is)
    (case c11 => k_is)
    (case k11 => k_is)
    (case a12 => k_is)
    (case l12 => k_is)
    (case c12 => k_is)
    (case k12 => k_is)
