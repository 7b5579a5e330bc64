import PyProof.Rows.All
import Wide.All
import OpenK.AllK
import Wide.FinOn
import HandS.Base
import HandS.Call
import HandS.Words
import HandS.List
import HandS.Wide
import HandS.Comp
import HandS.Iter
import HandS.Zip
import HandS.IsInst
import HandS.Style
import HandS.Ends
import HandS.Defaults
import PyProof.EqAt
import PyProof.EqKinds
import PyProof.TupleCall
import HandS.Exc
import HandS.TryOnly
import HandS.TryMany
import HandS.WordsExc
import HandS.ExcOwn
import HandS.ExcInit
import KE.KExcIs
import KE.RegKTryMore
import HandS.Dict
import HandS.More
import HandS.Deep
import HandS.Text
import HandS.Codes
import HandS.TupAny
import PyProof.Rows.StrOr
import PyProof.Rows.Digits
import PyProof.NeKinds
import HandS.DictEq
import PySem.Challenge.RW_ohmyard_k13_a_net_walked
set_option Elab.async false
set_option linter.all false
set_option maxRecDepth 100000
set_option maxHeartbeats 4000000
set_option autoImplicit false
/-! A try whose caught exception stays as a thing of the heap. -/
namespace DL
open PySem L2 PySem.Spec PyProof.Rows
/-- an exception that was caught: its class, its dict -/
def KEx (cls : Value) (d : Option Addr) (a : Addr) : HO := .ext fun h => ∃ (oe : Obj) (vs : Array Value), h.get? a = some oe ∧ Zc cls d oe ∧ oe.data = .fields vs
theorem kex_ok {P : Program} {w : World} {H : Hp} {h : Heap} {a : Addr} {cls : Value} {d : Option Addr} {oe : Obj} {vs : Array Value} (e : h.get? a = some oe) (z : Zc cls d oe) (dd : oe.data = .fields vs) : ObjOk P w H h a (KEx cls d a) :=
  ⟨⟨oe, vs, e, z, dd⟩, ⟨oe, e⟩, fun _ _ ⟨o, v, q, r, t⟩ k => ⟨o, v, k o q, r, t⟩⟩
section
variable {X : Cx} {pins : List (Addr × Obj)} {σ : L2.St} {H : Hp} {s : Shared}
theorem inv_track {a : Addr} {cls : Value} {d : Option Addr} {oe : Obj} {vs : Array Value} (I : Inv X pins σ H s) (ha : s.heap.get? a = some oe) (hz : Zc cls d oe) (hd : oe.data = .fields vs) (na : H a = none) (n0 : X.s_0.heap.get? a = none)
    (nL : a ≠ X.env.locals) (nc : ∀ x c, X.env.cells.lookup x = some c → c ≠ a) (np : ∀ p ∈ X.pn ++ pins, p.1 ≠ a) : Inv X pins σ (upd H a (KEx cls d a)) s := by
  refine ⟨I.ok, I.os, I.bare, ⟨I.base.keep, I.base.slot, fun b o e n hx => ?_, I.base.there, fun b xs q => ?_, fun b o u q => ?_, fun b ps q => ?_⟩, I.loc, I.cell, ?_, fun x c e => ?_, fun p hp => ?_, fun b o e => ?_, I.len⟩
  · rw [upd_ne fun z => by rw [z, n0] at e; cases e]
    exact I.base.free b o e n hx
  · have := I.base.tups b xs q
    rw [upd_ne (ne_of_none this na)]
    exact this
  · have := I.base.frzs b o u q
    rw [upd_ne (ne_of_none this na)]
    exact this
  · obtain ⟨more, this⟩ := I.base.tbls b ps q
    exact ⟨more, by rw [upd_ne (ne_of_none this na)]; exact this⟩
  · rw [upd_ne (Ne.symm nL)]
    exact I.free
  · rw [upd_ne (nc x c e)]
    exact I.freeC x c e
  · obtain ⟨q1, q2, q3⟩ := I.pin p hp
    exact ⟨q1, by rw [upd_ne (np p hp)]; exact q2, q3⟩
  · by_cases hb : b = a
    · subst hb
      rw [upd_same] at e
      cases e
      exact kex_ok ha hz hd
    · rw [upd_ne hb] at e
      exact (I.hok b o e).stay (fun c v _ q => q) (fun c q => by rw [upd_ne (ne_of_none q na)]; exact q) fun c xs q => by rw [upd_ne (ne_of_none q na)]; exact q
theorem inv_suite (I : Inv X pins σ H s) (a : Addr) : Inv (X.suite a (X.pn ++ pins)) [] σ H s :=
  ⟨I.ok.suite _ _, I.os, I.bare, I.base, I.loc, I.cell, I.free, I.freeC, fun p hp => I.pin p (by rw [List.append_nil] at hp; exact hp), I.hok, I.len⟩
theorem inv_unsuite {a : Addr} {pn' : List (Addr × Obj)} (I : Inv (X.suite a (X.pn ++ pins)) pn' σ H s) (ok : X.Ok) : Inv X pins σ H s :=
  ⟨ok, I.os, I.bare, I.base, I.loc, I.cell, I.free, I.freeC, fun p hp => I.pin p (List.mem_append_left _ hp), I.hok, I.len⟩
end
/-- what the clauses wish of an exception of the body, one after the other: the class, the slot of its name, the suite -/
def wK (K : PySem.W.Frag) (Wout : WX) (D : Ends) : List (Value × Option Nat × TS) → WX
  | [] => Wout
  | (c, none, ts) :: r => fun cls d σ H => ∃ b, PySem.W.exmOne K cls c = some b ∧ (b = true → ∀ a, H a = none → ts D σ (upd H a (KEx cls d a))) ∧ (b = false → wK K Wout D r cls d σ H)
  | (c, some i, ts) :: r => fun cls d σ H => ∃ b, PySem.W.exmOne K cls c = some b ∧
    (b = true → ∀ a, H a = none → ts { nx := fun σ' H' => D.nx (σ'.set i none) H', rt := D.rt, bk := fun σ' H' => D.bk (σ'.set i none) H', ct := fun σ' H' => D.ct (σ'.set i none) H' } (σ.set i (some (.ref a))) (upd H a (KEx cls d a))) ∧ (b = false → wK K Wout D r cls d σ H)
inductive HdsK (X : Cx) : List ExceptHandler → List (Value × Option Nat × TS) → Prop
  | nil : HdsK X [] []
  | bare {x : Str} {c : Value} {ts : TS} {b₀ : Stmt} {suite : List Stmt} {np pos' : Pos} {hds : List ExceptHandler} {l : List (Value × Option Nat × TS)} (hc : Names X x c)
      (hsu : ∀ (a : Addr) (pn : List (Addr × Obj)), PSs (X.suite a pn) (b₀ :: suite) ts) (r : HdsK X hds l) : HdsK X (.ExceptHandler (some (.Name x np)) none (b₀ :: suite) pos' :: hds) ((c, none, ts) :: l)
  | named {x n : Str} {i : Nat} {c : Value} {ts : TS} {b₀ : Stmt} {suite : List Stmt} {np pos' : Pos} {hds : List ExceptHandler} {l : List (Value × Option Nat × TS)} (hN : X.N.Nodup) (hi : X.N[i]? = some n) (hln : X.env.kindOf n = some .local) (hc : Names X x c)
      (hsu : ∀ (a : Addr) (pn : List (Addr × Obj)), PSs (X.suite a pn) (b₀ :: suite) ts) (r : HdsK X hds l) : HdsK X (.ExceptHandler (some (.Name x np)) (some n) (b₀ :: suite) pos' :: hds) ((c, some i, ts) :: l)
section
variable {X : Cx} {body : List Stmt} {h₀ : ExceptHandler} {hds : List ExceptHandler} {l : List (Value × Option Nat × TS)} {pos : Pos} {tb : WX → TS} {Wout : WX}
theorem ps_tryK (hs : X.stack = X.env :: X.outer) (hf : X.env.frame = some X.env.locals) (hex : X.ex = []) (tk : Takes X Wout)
    (hb : ∀ (W : WX) (pn : List (Addr × Obj)) (xe : Value → Shared → Prop), Takes (X.tr pn xe) W → PassesOwn (model X.prog X.w) X.A X.env xe → PSs (X.tr pn xe) body (tb W))
    (hh : HdsK X (h₀ :: hds) l) : PS X (.Try body (h₀ :: hds) [] [] pos) (fun D σ H => tb (wK X.K Wout D l) D σ H) := by
  refine ⟨fun pins s σ H D I h => ?_⟩
  have ok := I.ok
  have hfr : X.A.frames = some (X.env :: X.outer) := by rw [ok.frames, hs]
  refine wpAny_Try_except ?_
  refine wpAny_mono ((hb (wK X.K Wout D l) (X.pn ++ pins) (fun e s₁ => wpAny (model X.prog X.w) X.A (noteFrame e X.env) (fun _ s₂ => wpAny (model X.prog X.w) X.A (setFlight e none) (fun _ s₃ =>
    wpAny (model X.prog X.w) X.A (handleBy e X.env (h₀ :: hds)) (SP X pins D) X.xe s₃) X.xe s₂) X.xe s₁) (fun u s' xx => ?_) PassesOwn.looking).run [] s σ H D (I.toTry _) h) (fun f s1 hsp => ?_) (fun e s1 he => he)
  · obtain ⟨a, B, sI, pins', σ', H', cls, d, rfl, J', nb, up, sky, na, os, ag, w⟩ := xx
    have J : Inv X pins σ' H' sI := J'.ofTry ok
    have sky' : Sky B (X.env :: X.outer) a (Zc cls d) X.env.locals s'.heap := by rw [← hs]; exact sky
    show wpAny (model X.prog X.w) X.A (noteFrame (.ref a) X.env) _ _ _
    refine Sky.land Zc.steady hfr hf sky' fun h3 fl3 up3 => ?_
    have J3 : Inv X pins σ' H' { s' with heap := h3 } := J.landed nb fl3.1 (up.trans up3) os ag
    obtain ⟨oe3, vs3, he3, hz3, hd3⟩ := fl3.there
    have notFr : ∀ {h : Heap} {o : Obj} {vs : Array Value}, h.FunFrames B (X.env :: X.outer) → h.get? a = some o → o.data = .fields vs → a ∉ frs (X.env :: X.outer) := fun {h o vs} ff e dd hm => by
      obtain ⟨_, o', e', hnf⟩ := ff.mem hm
      rw [e] at e'; cases e'
      exact hnf _ dd
    have nfr := notFr fl3.2.2.1 he3 hd3
    have nL : a ≠ X.env.locals := fun z => nfr (List.mem_filterMap.mpr ⟨X.env, List.mem_cons_self, by rw [hf, z]⟩)
    have nF : a ∉ X.fs := fun hm => by
      obtain ⟨e, he, q⟩ := List.mem_filterMap.mp hm
      exact nfr (List.mem_filterMap.mpr ⟨e, List.mem_cons_of_mem _ he, q⟩)
    have nI : sI.heap.get? a = none := by
      cases e : sI.heap.get? a with
      | none => rfl
      | some o =>
        have z := nb a o e (by rw [hs]; exact nfr)
        rw [fl3.2.1] at z
        cases z
    have n0 : X.s_0.heap.get? a = none := by
      cases e : X.s_0.heap.get? a with
      | none => rfl
      | some o =>
        obtain ⟨o', z⟩ := J.base.there a o e (by rw [hex]; exact fun q => nomatch q)
        rw [nI] at z
        cases z
    have nc : ∀ x c, X.env.cells.lookup x = some c → c ≠ a := fun x c e z => by
      obtain ⟨v, o, ho, _⟩ := J.cell x c e
      rw [z, nI] at ho
      cases ho
    have npin : ∀ p ∈ X.pn ++ pins, p.1 ≠ a := fun p hp z => by
      have q := (J.pin p hp).1
      rw [z, nI] at q
      cases q
    have S3 := J3.suite he3 hd3 na nL nF
    have go : ∀ {hds' : List ExceptHandler} {l' : List (Value × Option Nat × TS)}, HdsK X hds' l' → wK X.K Wout D l' cls d σ' H' →
        wpAny (model X.prog X.w) X.A (handleBy (.ref a) X.env hds') (SP X pins D) X.xe { s' with heap := h3 } := by
      intro hds' l' hk
      have test : ∀ {x : Str} {c : Value} {np : Pos} {Q : Value → Shared → Prop} {E : Value → Shared → Prop}, Names X x c → Q c { s' with heap := h3 } → wpAny (model X.prog X.w) (X.A.mark (some (.ref a))) (eval (.Name x np) X.env) Q E { s' with heap := h3 } := fun {x c np Q E} hc q => by
        obtain ⟨hg, hdbg, hm | ⟨hm, hv, hnn⟩⟩ := hc
        · exact ld_glob (X := X.suite a ((a, oe3) :: (X.pn ++ pins))) S3 hg hm q hdbg
        · exact ld_blt (X := X.suite a ((a, oe3) :: (X.pn ++ pins))) S3 hg hm hv q hnn hdbg
      have LT : PySem.W.Looks (model X.prog X.w) h3 (typeOf (.ref a)) cls := fun A Q E s k q => wpAny_typeOf_ref (k _ _ he3) (by rw [hz3.1]; exact q)
      induction hk with
      | nil =>
        intro w
        refine wpAny_handleBy_nil ?_
        obtain ⟨k1, k2, k3, oe, vs, T, oT, ts', he, hz, hd, h1, hr⟩ := id fl3
        unfold PySem.passOn
        refine wpAny_bind (wpAny_field he hd h1 ?_)
        rw [if_neg (show ¬ ((Value.ref T == Value.none) = true) from by simp)]
        have fin : wpAny (model X.prog X.w) X.A (setFlight (.ref a) X.env.frame) (fun _ s4 => wpAny (model X.prog X.w) X.A (throw (.ref a) : Sem Flow) (SP X pins D) X.xe s4) X.xe { s' with heap := h3 } := by
          rw [hf]
          refine HandSPX.setFlight_upZ fl3 fun h4 hh4 up4 => wpAny_throw (tk _ _ ?_)
          exact ⟨a, B, sI, pins, σ', H', cls, d, rfl, J, nb, (up.trans up3).trans up4, .inr (.inr (by rw [hs]; exact hh4)), na, os, ag, w⟩
        first
          | exact wpAny_bind (wpAny_pure (wpAny_bind fin))
          | exact wpAny_bind fin
      | @bare x c ts b₀ suite np pos' hds2 l2 hc hsu r ih =>
        intro w
        obtain ⟨b, hb1, hyes, hno⟩ := w
        refine wpAny_handleBy_cons (codeAny_handlers_test ?_) (by intro q; cases q)
        have LM := PySem.W.exm_one (M := model X.prog X.w) (J3.kIn) LT hb1
        refine test hc (LM.here ?_)
        cases b with
        | true =>
          refine codeAny_handlers_suite ?_
          refine HandSPX.lands_againZ fl3 fun h4 fl4 up4 => ?_
          have J4 : Inv X pins σ' H' { s' with heap := h4 } := J.landed nb fl4.1 ((up.trans up3).trans up4) os ag
          obtain ⟨oe4, vs4, he4, hz4, hd4⟩ := fl4.there
          have S4 := inv_suite (inv_track J4 he4 hz4 hd4 na n0 nL nc npin) a
          refine wpAny_mono ((hsu a (X.pn ++ pins)).run [] _ _ _ _ S4 (hyes rfl a na)) (fun f s6 hsp => ?_) (fun _ _ z => False.elim z)
          cases f with
          | next =>
            obtain ⟨σ6, H6, S6, q6⟩ := hsp
            exact ⟨_, _, inv_unsuite S6 ok, q6⟩
          | brk =>
            obtain ⟨σ6, H6, S6, q6⟩ := hsp
            exact ⟨_, _, inv_unsuite S6 ok, q6⟩
          | cont =>
            obtain ⟨σ6, H6, S6, q6⟩ := hsp
            exact ⟨_, _, inv_unsuite S6 ok, q6⟩
          | ret u =>
            obtain ⟨v6, σ6, H6, S6, r6, q6⟩ := hsp
            exact ⟨_, _, _, inv_unsuite S6 ok, r6, q6⟩
        | false =>
          show wpAny _ X.A (handleBy (.ref a) X.env hds2) _ _ _
          exact ih (hno rfl)
      | @named x n i c ts b₀ suite np pos' hds2 l2 hN hi hln hc hsu r ih =>
        intro w
        obtain ⟨b, hb1, hyes, hno⟩ := w
        refine wpAny_handleBy_cons (codeAny_handlers_test ?_) (by intro q; cases q)
        have LM := PySem.W.exm_one (M := model X.prog X.w) (J3.kIn) LT hb1
        refine test hc (LM.here ?_)
        cases b with
        | true =>
          refine codeAny_handlers_suite_as ?_
          refine HandSPX.lands_againZ fl3 fun h4 fl4 up4 => ?_
          have J4 : Inv X pins σ' H' { s' with heap := h4 } := J.landed nb fl4.1 ((up.trans up3).trans up4) os ag
          obtain ⟨oe4, vs4, he4, hz4, hd4⟩ := fl4.there
          have S4 := inv_suite (inv_track J4 he4 hz4 hd4 na n0 nL nc npin) a
          refine store_ok (X := X.suite a (X.pn ++ pins)) (v := .ref a) S4 hN hi (.inl hln) rfl (fun s5 S5 => ?_) (.inr hln)
          refine wpAny_mono ((hsu a (X.pn ++ pins)).run [] s5 _ _ _ S5 (hyes rfl a na)) (fun f s6 hsp => ?_) (fun _ _ z => False.elim z)
          have end_ : ∀ {σ6 : L2.St} {H6 : Hp} {Q : Shared → Prop}, Inv (X.suite a (X.pn ++ pins)) [] σ6 H6 s6 → (∀ s7, Inv X pins (σ6.set i none) H6 s7 → Q s7) →
              wpAny (model X.prog X.w) X.A (do bindName X.env n .none; unbindBehindTheSuite X.env n pos') (fun _ s7 => Q s7) X.xe s6 := fun {σ6 H6 Q} S6 hq => gone_ok (inv_unsuite S6 ok) hN hi hln hq
          cases f with
          | next =>
            obtain ⟨σ6, H6, S6, q6⟩ := hsp
            exact end_ S6 fun s7 J7 => ⟨_, _, J7, q6⟩
          | brk =>
            obtain ⟨σ6, H6, S6, q6⟩ := hsp
            exact end_ S6 fun s7 J7 => ⟨_, _, J7, q6⟩
          | cont =>
            obtain ⟨σ6, H6, S6, q6⟩ := hsp
            exact end_ S6 fun s7 J7 => ⟨_, _, J7, q6⟩
          | ret u =>
            obtain ⟨v6, σ6, H6, S6, r6, q6⟩ := hsp
            exact end_ S6 fun s7 J7 => ⟨_, _, _, J7, r6, q6⟩
        | false =>
          show wpAny _ X.A (handleBy (.ref a) X.env hds2) _ _ _
          exact ih (hno rfl)
    exact go hh w
  · cases f with
    | next =>
      obtain ⟨σ', H', J', q⟩ := hsp
      exact wpAny_execs_nil ⟨σ', H', J'.ofTry ok, q⟩
    | brk =>
      obtain ⟨σ', H', J', q⟩ := hsp
      exact ⟨σ', H', J'.ofTry ok, q⟩
    | cont =>
      obtain ⟨σ', H', J', q⟩ := hsp
      exact ⟨σ', H', J'.ofTry ok, q⟩
    | ret u =>
      obtain ⟨v, σ', H', J', r, q⟩ := hsp
      exact ⟨v, σ', H', J'.ofTry ok, r, q⟩
end
end DL
/-! Data by value over the hand layer: Dat (shared data), OT (a tree of objects of one's own), their standing in an abstract heap. -/
namespace DL
open PySem L2

inductive Dat where
  | non | bl (b : Bool) | int (i : Int) | str (x : Str)
  | tup (xs : List Dat) | lst (xs : List Dat)
  | obj (c : String) (ns : List Str) (xs : List Dat)
  | dct (ks : List Key) (xs : List Dat)
  /-- an exception that was caught -/
  | exn (c : String) (ns : List Str) (xs : List Dat)
  deriving Inhabited

inductive OT where
  | un
  | sh (d : Dat)
  | tup (xs : List OT) | lst (xs : List OT)
  | obj (c : String) (ns : List Str) (xs : List OT)
  | dct (ks : List Key) (xs : List OT)
  /-- an argument's own tree, lent to the def: its slot holds what it held at first -/
  | lent (o : OT)
  /-- laid aside for a while: its slot holds what it held at first -/
  | pin
  deriving Inhabited

/-- what is known of the written part, and where the classes stand -/
structure KC where
  K : PySem.W.Frag
  cl : String → Addr

/-- the dict of an exception -/
def XD (B : Hp) : Option Addr → List (Str × V) → Prop
  | none, fs => fs = []
  | some dd, fs => B dd = some (.xd fs)
theorem XD.mono {B B' : Hp} (e : Same B B') : ∀ {d : Option Addr} {fs : List (Str × V)}, XD B d fs → XD B' d fs
  | none, _, h => h
  | some _, _, h => e _ _ h
mutual
def Rep (k : KC) (B : Hp) : Dat → V → Prop
  | .non, v => v = .non
  | .bl b, v => v = .bl b
  | .int i, v => v = .int i
  | .str x, v => v = .str x
  | .tup ds, v => ∃ p vs, v = .ref p ∧ SqT k.K B p vs ∧ Reps k B ds vs
  | .lst ds, v => ∃ p vs, v = .ref p ∧ SqL k.K B p vs ∧ Reps k B ds vs
  | .obj c ns ds, v => ∃ p dx vs, v = .ref p ∧ B p = some (.ins (k.cl c) dx (ns.zip vs)) ∧ ns.length = vs.length ∧ Reps k B ds vs
  | .dct ks ds, v => ∃ p vs, v = .ref p ∧ Rd B p (.dK (ks.zip vs)) ∧ ks.length = vs.length ∧ Reps k B ds vs
  | .exn c ns ds, v => ∃ p d vs, v = .ref p ∧ B p = some (KEx (.ref (k.cl c)) d p) ∧ XD B d (ns.zip vs) ∧ ns.length = vs.length ∧ Reps k B ds vs
def Reps (k : KC) (B : Hp) : List Dat → List V → Prop
  | [], vs => vs = []
  | d :: ds, vs => ∃ v r, vs = v :: r ∧ Rep k B d v ∧ Reps k B ds r
end

mutual
/-- π: the way to the node, the last step first; w: whose node an address is -/
def ORep (k : KC) (B H : Hp) (w : Addr → Option (List Nat)) : List Nat → OT → V → Prop
  | _, .un, _ => True
  | _, .sh d, v => Rep k B d v
  | π, .tup xs, v => ∃ p vs, v = .ref p ∧ H p = some (.tup vs) ∧ w p = some π ∧ OReps k B H w π 0 xs vs
  | π, .lst xs, v => ∃ p vs, v = .ref p ∧ H p = some (.lst vs) ∧ w p = some π ∧ OReps k B H w π 0 xs vs
  | π, .obj c ns xs, v => ∃ p dx vs, v = .ref p ∧ H p = some (.ins (k.cl c) dx (ns.zip vs)) ∧ ns.length = vs.length ∧ w p = some π ∧ OReps k B H w π 0 xs vs
  | π, .dct ks xs, v => ∃ p vs, v = .ref p ∧ H p = some (.dK (ks.zip vs)) ∧ ks.length = vs.length ∧ w p = some π ∧ OReps k B H w π 0 xs vs
  | π, .lent o, v => ORep k B H w π o v
  | _, .pin, _ => True
def OReps (k : KC) (B H : Hp) (w : Addr → Option (List Nat)) : List Nat → Nat → List OT → List V → Prop
  | _, _, [], vs => vs = []
  | π, n, o :: os, vs => ∃ v r, vs = v :: r ∧ ORep k B H w (n :: π) o v ∧ OReps k B H w π (n + 1) os r
end

mutual
def OT.dat : OT → Dat
  | .un => .non
  | .sh d => d
  | .tup xs => .tup (OT.dats xs)
  | .lst xs => .lst (OT.dats xs)
  | .obj c ns xs => .obj c ns (OT.dats xs)
  | .dct ks xs => .dct ks (OT.dats xs)
  | .lent o => o.dat
  | .pin => .non
def OT.dats : List OT → List Dat
  | [] => []
  | o :: os => o.dat :: OT.dats os
end
mutual
/-- nothing in it is undefined -/
def OT.ok : OT → Bool
  | .un => false
  | .sh _ => true
  | .tup xs => OT.oks xs
  | .lst xs => OT.oks xs
  | .obj _ _ xs => OT.oks xs
  | .dct _ xs => OT.oks xs
  | .lent _ => false
  | .pin => false
def OT.oks : List OT → Bool
  | [] => true
  | o :: os => o.ok && OT.oks os
end

/-- its slot holds what it held at first -/
def OT.fixed : OT → Bool
  | .lent _ => true
  | .pin => true
  | _ => false
theorem OT.ok_fixed {o : OT} (h : o.ok = true) : o.fixed = false := by
  cases o <;> first | rfl | simp [OT.ok] at h
theorem rd_mono {B B' : Hp} (e : Same B B') {a : Addr} {u : HO} (h : Rd B a u) : Rd B' a u := by
  rcases h with h | ⟨o, h⟩
  · exact .inl (e _ _ h)
  · exact .inr ⟨o, e _ _ h⟩
theorem sqL_mono {K : PySem.W.Frag} {B B' : Hp} (e : Same B B') {a : Addr} {xs : List V} (h : SqL K B a xs) : SqL K B' a xs := by
  rcases h with h | h
  · exact .inl (rd_mono e h)
  · exact .inr h
theorem sqR {K : PySem.W.Frag} {B B' : Hp} (e : Same B B') {a : Addr} {xs : List V} (h : SqL K B a xs) : SqL K B' a xs := sqL_mono e h
theorem sqT_mono {K : PySem.W.Frag} {B B' : Hp} (e : Same B B') {a : Addr} {xs : List V} (h : SqT K B a xs) : SqT K B' a xs := by
  rcases h with h | h
  · exact .inl (rd_mono e h)
  · exact .inr h

mutual
theorem Rep.mono {k : KC} {B B' : Hp} (e : Same B B') : ∀ {d : Dat} {v : V}, Rep k B d v → Rep k B' d v
  | .non, v, h => by simpa only [Rep] using h
  | .bl b, v, h => by simpa only [Rep] using h
  | .int i, v, h => by simpa only [Rep] using h
  | .str x, v, h => by simpa only [Rep] using h
  | .tup ds, v, h => by
    simp only [Rep] at h ⊢
    obtain ⟨p, vs, rfl, hs, hr⟩ := h
    exact ⟨p, vs, rfl, sqT_mono e hs, Reps.mono e hr⟩
  | .lst ds, v, h => by
    simp only [Rep] at h ⊢
    obtain ⟨p, vs, rfl, hs, hr⟩ := h
    exact ⟨p, vs, rfl, sqL_mono e hs, Reps.mono e hr⟩
  | .obj c ns ds, v, h => by
    simp only [Rep] at h ⊢
    obtain ⟨p, dx, vs, rfl, hs, hl, hr⟩ := h
    exact ⟨p, dx, vs, rfl, e _ _ hs, hl, Reps.mono e hr⟩
  | .dct ks ds, v, h => by
    simp only [Rep] at h ⊢
    obtain ⟨p, vs, rfl, hs, hl, hr⟩ := h
    exact ⟨p, vs, rfl, rd_mono e hs, hl, Reps.mono e hr⟩
  | .exn c ns ds, v, h => by
    simp only [Rep] at h ⊢
    obtain ⟨p, d, vs, rfl, hs, hx, hl, hr⟩ := h
    exact ⟨p, d, vs, rfl, e _ _ hs, hx.mono e, hl, Reps.mono e hr⟩
theorem Reps.mono {k : KC} {B B' : Hp} (e : Same B B') : ∀ {ds : List Dat} {vs : List V}, Reps k B ds vs → Reps k B' ds vs
  | [], vs, h => by simpa only [Reps] using h
  | d :: ds, vs, h => by
    simp only [Reps] at h ⊢
    obtain ⟨v, r, rfl, h1, h2⟩ := h
    exact ⟨v, r, rfl, Rep.mono e h1, Reps.mono e h2⟩
end

theorem Reps.length {k : KC} {B : Hp} : ∀ {ds : List Dat} {vs : List V}, Reps k B ds vs → ds.length = vs.length
  | [], vs, h => by
    simp only [Reps] at h
    subst h
    rfl
  | d :: ds, vs, h => by
    simp only [Reps] at h
    obtain ⟨v, r, rfl, h1, h2⟩ := h
    simp [Reps.length h2]
theorem Reps.get {k : KC} {B : Hp} : ∀ {ds : List Dat} {vs : List V} {i : Nat} {d : Dat}, Reps k B ds vs → ds[i]? = some d → ∃ v, vs[i]? = some v ∧ Rep k B d v
  | [], vs, i, d, h, e => by simp at e
  | d0 :: ds, vs, 0, d, h, e => by
    simp only [Reps] at h
    obtain ⟨v, r, rfl, h1, h2⟩ := h
    simp at e
    subst e
    exact ⟨v, rfl, h1⟩
  | d0 :: ds, vs, i + 1, d, h, e => by
    simp only [Reps] at h
    obtain ⟨v, r, rfl, h1, h2⟩ := h
    simp at e
    obtain ⟨u, h3, h4⟩ := Reps.get h2 e
    exact ⟨u, by simpa using h3, h4⟩
theorem Reps.append {k : KC} {B : Hp} : ∀ {ds es : List Dat} {vs us : List V}, Reps k B ds vs → Reps k B es us → Reps k B (ds ++ es) (vs ++ us)
  | [], es, vs, us, h, h' => by
    simp only [Reps] at h
    subst h
    exact h'
  | d :: ds, es, vs, us, h, h' => by
    simp only [Reps] at h
    obtain ⟨v, r, rfl, h1, h2⟩ := h
    simp only [List.cons_append, Reps]
    exact ⟨v, r ++ us, rfl, h1, Reps.append h2 h'⟩
theorem Reps.one {k : KC} {B : Hp} {d : Dat} {v : V} (h : Rep k B d v) : Reps k B [d] [v] := by
  simp only [Reps]
  exact ⟨v, [], rfl, h, rfl⟩
theorem Reps.nil {k : KC} {B : Hp} : Reps k B [] [] := by simp only [Reps]
theorem Reps.cons {k : KC} {B : Hp} {d : Dat} {ds : List Dat} {v : V} {vs : List V} (h : Rep k B d v) (r : Reps k B ds vs) : Reps k B (d :: ds) (v :: vs) := by
  simp only [Reps]
  exact ⟨v, vs, rfl, h, r⟩
theorem Reps.take {k : KC} {B : Hp} : ∀ (n : Nat) {ds : List Dat} {vs : List V}, Reps k B ds vs → Reps k B (ds.take n) (vs.take n)
  | 0, ds, vs, h => by simp [Reps]
  | n + 1, [], vs, h => by
    simp only [Reps] at h
    subst h
    simp [Reps]
  | n + 1, d :: ds, vs, h => by
    simp only [Reps] at h
    obtain ⟨v, r, rfl, h1, h2⟩ := h
    simp only [List.take_succ_cons]
    exact .cons h1 (Reps.take n h2)
theorem Reps.drop {k : KC} {B : Hp} : ∀ (n : Nat) {ds : List Dat} {vs : List V}, Reps k B ds vs → Reps k B (ds.drop n) (vs.drop n)
  | 0, ds, vs, h => by simpa using h
  | n + 1, [], vs, h => by
    simp only [Reps] at h
    subst h
    simp [Reps]
  | n + 1, d :: ds, vs, h => by
    simp only [Reps] at h
    obtain ⟨v, r, rfl, h1, h2⟩ := h
    simp only [List.drop_succ_cons]
    exact Reps.drop n h2
theorem Reps.set {k : KC} {B : Hp} {d : Dat} {v : V} (hd : Rep k B d v) : ∀ (n : Nat) {ds : List Dat} {vs : List V}, Reps k B ds vs → Reps k B (ds.set n d) (vs.set n v)
  | n, [], vs, h => by
    simp only [Reps] at h
    subst h
    simp [Reps]
  | 0, d0 :: ds, vs, h => by
    simp only [Reps] at h
    obtain ⟨v0, r, rfl, h1, h2⟩ := h
    exact .cons hd h2
  | n + 1, d0 :: ds, vs, h => by
    simp only [Reps] at h
    obtain ⟨v0, r, rfl, h1, h2⟩ := h
    exact .cons h1 (Reps.set hd n h2)

/-! ### the tree's frame -/
/-- the addresses of the tree at π stand as they stood -/
def Keeps (π : List Nat) (w w' : Addr → Option (List Nat)) (H H' : Hp) : Prop :=
  ∀ p ρ, w p = some (ρ ++ π) → w' p = some (ρ ++ π) ∧ H' p = H p
theorem Keeps.sub {π : List Nat} {n : Nat} {w w' : Addr → Option (List Nat)} {H H' : Hp} (h : Keeps π w w' H H') : Keeps (n :: π) w w' H H' := fun p ρ e => by
  have q := h p (ρ ++ [n]) (by simpa using e)
  simpa using q
mutual
theorem ORep.frame {k : KC} {B B' H H' : Hp} {w w' : Addr → Option (List Nat)} (e : Same B B') : ∀ {π : List Nat} {o : OT} {v : V}, Keeps π w w' H H' → ORep k B H w π o v → ORep k B' H' w' π o v
  | π, .un, v, hk, h => by simp only [ORep]
  | π, .sh d, v, hk, h => by
    simp only [ORep] at h ⊢
    exact h.mono e
  | π, .tup xs, v, hk, h => by
    simp only [ORep] at h ⊢
    obtain ⟨p, vs, rfl, hp, hw, hr⟩ := h
    have q := hk p [] (by simpa using hw)
    exact ⟨p, vs, rfl, q.2.trans hp, by simpa using q.1, OReps.frame e hk hr⟩
  | π, .lst xs, v, hk, h => by
    simp only [ORep] at h ⊢
    obtain ⟨p, vs, rfl, hp, hw, hr⟩ := h
    have q := hk p [] (by simpa using hw)
    exact ⟨p, vs, rfl, q.2.trans hp, by simpa using q.1, OReps.frame e hk hr⟩
  | π, .obj c ns xs, v, hk, h => by
    simp only [ORep] at h ⊢
    obtain ⟨p, dx, vs, rfl, hp, hl, hw, hr⟩ := h
    have q := hk p [] (by simpa using hw)
    exact ⟨p, dx, vs, rfl, q.2.trans hp, hl, by simpa using q.1, OReps.frame e hk hr⟩
  | π, .dct ks xs, v, hk, h => by
    simp only [ORep] at h ⊢
    obtain ⟨p, vs, rfl, hp, hl, hw, hr⟩ := h
    have q := hk p [] (by simpa using hw)
    exact ⟨p, vs, rfl, q.2.trans hp, hl, by simpa using q.1, OReps.frame e hk hr⟩
  | π, .lent o, v, hk, h => by
    simp only [ORep] at h ⊢
    exact ORep.frame e hk h
  | π, .pin, v, hk, h => by simp only [ORep]
theorem OReps.frame {k : KC} {B B' H H' : Hp} {w w' : Addr → Option (List Nat)} (e : Same B B') : ∀ {π : List Nat} {n : Nat} {os : List OT} {vs : List V}, Keeps π w w' H H' → OReps k B H w π n os vs → OReps k B' H' w' π n os vs
  | π, n, [], vs, hk, h => by simpa only [OReps] using h
  | π, n, o :: os, vs, hk, h => by
    simp only [OReps] at h ⊢
    obtain ⟨v, r, rfl, h1, h2⟩ := h
    exact ⟨v, r, rfl, ORep.frame e hk.sub h1, OReps.frame e hk h2⟩
end
/-- a tree is hung elsewhere -/
def Moves (π π' : List Nat) (w w' : Addr → Option (List Nat)) (H H' : Hp) : Prop :=
  ∀ p ρ, w p = some (ρ ++ π) → w' p = some (ρ ++ π') ∧ H' p = H p
theorem Moves.sub {π π' : List Nat} {n : Nat} {w w' : Addr → Option (List Nat)} {H H' : Hp} (h : Moves π π' w w' H H') : Moves (n :: π) (n :: π') w w' H H' := fun p ρ e => by
  have q := h p (ρ ++ [n]) (by simpa using e)
  simpa using q
mutual
theorem ORep.move {k : KC} {B B' H H' : Hp} {w w' : Addr → Option (List Nat)} (e : Same B B') : ∀ {π π' : List Nat} {o : OT} {v : V}, Moves π π' w w' H H' → ORep k B H w π o v → ORep k B' H' w' π' o v
  | π, π', .un, v, hk, h => by simp only [ORep]
  | π, π', .sh d, v, hk, h => by
    simp only [ORep] at h ⊢
    exact h.mono e
  | π, π', .tup xs, v, hk, h => by
    simp only [ORep] at h ⊢
    obtain ⟨p, vs, rfl, hp, hw, hr⟩ := h
    have q := hk p [] (by simpa using hw)
    exact ⟨p, vs, rfl, q.2.trans hp, by simpa using q.1, OReps.move e hk hr⟩
  | π, π', .lst xs, v, hk, h => by
    simp only [ORep] at h ⊢
    obtain ⟨p, vs, rfl, hp, hw, hr⟩ := h
    have q := hk p [] (by simpa using hw)
    exact ⟨p, vs, rfl, q.2.trans hp, by simpa using q.1, OReps.move e hk hr⟩
  | π, π', .obj c ns xs, v, hk, h => by
    simp only [ORep] at h ⊢
    obtain ⟨p, dx, vs, rfl, hp, hl, hw, hr⟩ := h
    have q := hk p [] (by simpa using hw)
    exact ⟨p, dx, vs, rfl, q.2.trans hp, hl, by simpa using q.1, OReps.move e hk hr⟩
  | π, π', .dct ks xs, v, hk, h => by
    simp only [ORep] at h ⊢
    obtain ⟨p, vs, rfl, hp, hl, hw, hr⟩ := h
    have q := hk p [] (by simpa using hw)
    exact ⟨p, vs, rfl, q.2.trans hp, hl, by simpa using q.1, OReps.move e hk hr⟩
  | π, π', .lent o, v, hk, h => by
    simp only [ORep] at h ⊢
    exact ORep.move e hk h
  | π, π', .pin, v, hk, h => by simp only [ORep]
theorem OReps.move {k : KC} {B B' H H' : Hp} {w w' : Addr → Option (List Nat)} (e : Same B B') : ∀ {π π' : List Nat} {n : Nat} {os : List OT} {vs : List V}, Moves π π' w w' H H' → OReps k B H w π n os vs → OReps k B' H' w' π' n os vs
  | π, π', n, [], vs, hk, h => by simpa only [OReps] using h
  | π, π', n, o :: os, vs, hk, h => by
    simp only [OReps] at h ⊢
    obtain ⟨v, r, rfl, h1, h2⟩ := h
    exact ⟨v, r, rfl, ORep.move e hk.sub h1, OReps.move e hk h2⟩
end
/-- a tree becomes shared -/
def Melts (π : List Nat) (w : Addr → Option (List Nat)) (H B' : Hp) : Prop := ∀ p ρ, w p = some (ρ ++ π) → B' p = H p
theorem Melts.sub {π : List Nat} {n : Nat} {w : Addr → Option (List Nat)} {H B' : Hp} (h : Melts π w H B') : Melts (n :: π) w H B' := fun p ρ e => h p (ρ ++ [n]) (by simpa using e)
mutual
theorem ORep.melt {k : KC} {B B' H : Hp} {w : Addr → Option (List Nat)} (e : Same B B') : ∀ {π : List Nat} {o : OT} {v : V}, Melts π w H B' → o.ok = true → ORep k B H w π o v → Rep k B' o.dat v
  | π, .un, v, hk, z, h => by simp [OT.ok] at z
  | π, .sh d, v, hk, z, h => by
    simp only [ORep, OT.dat] at h ⊢
    exact h.mono e
  | π, .tup xs, v, hk, z, h => by
    simp only [ORep, OT.dat, Rep] at h ⊢
    obtain ⟨p, vs, rfl, hp, hw, hr⟩ := h
    exact ⟨p, vs, rfl, .of ((hk p [] (by simpa using hw)).trans hp), OReps.melt e hk (by simpa only [OT.ok] using z) hr⟩
  | π, .lst xs, v, hk, z, h => by
    simp only [ORep, OT.dat, Rep] at h ⊢
    obtain ⟨p, vs, rfl, hp, hw, hr⟩ := h
    exact ⟨p, vs, rfl, .of ((hk p [] (by simpa using hw)).trans hp), OReps.melt e hk (by simpa only [OT.ok] using z) hr⟩
  | π, .obj c ns xs, v, hk, z, h => by
    simp only [ORep, OT.dat, Rep] at h ⊢
    obtain ⟨p, dx, vs, rfl, hp, hl, hw, hr⟩ := h
    exact ⟨p, dx, vs, rfl, (hk p [] (by simpa using hw)).trans hp, hl, OReps.melt e hk (by simpa only [OT.ok] using z) hr⟩
  | π, .dct ks xs, v, hk, z, h => by
    simp only [ORep, OT.dat, Rep] at h ⊢
    obtain ⟨p, vs, rfl, hp, hl, hw, hr⟩ := h
    exact ⟨p, vs, rfl, .of ((hk p [] (by simpa using hw)).trans hp), hl, OReps.melt e hk (by simpa only [OT.ok] using z) hr⟩
  | π, .lent o, v, hk, z, h => by simp [OT.ok] at z
  | π, .pin, v, hk, z, h => by simp [OT.ok] at z
theorem OReps.melt {k : KC} {B B' H : Hp} {w : Addr → Option (List Nat)} (e : Same B B') : ∀ {π : List Nat} {n : Nat} {os : List OT} {vs : List V}, Melts π w H B' → OT.oks os = true → OReps k B H w π n os vs → Reps k B' (OT.dats os) vs
  | π, n, [], vs, hk, z, h => by simpa only [OReps, OT.dats, Reps] using h
  | π, n, o :: os, vs, hk, z, h => by
    simp only [OReps, OT.dats, Reps] at h ⊢
    simp only [OT.oks, Bool.and_eq_true] at z
    obtain ⟨v, r, rfl, h1, h2⟩ := h
    exact ⟨v, r, rfl, ORep.melt e hk.sub z.1 h1, OReps.melt e hk z.2 h2⟩
end
end DL
namespace DL
open PySem L2

abbrev WM := Addr → Option (List Nat)
/-- what stood when the def was entered: the heap, its shared part, the arguments' own trees -/
structure Gh where
  H0 : Hp
  B0 : Hp
  A0 : Addr → Prop
  /-- the slots at first -/
  s0 : Nat → Option (Option V)
structure Sta (k : KC) (G : Gh) (B H : Hp) (w : WM) (σ : L2.St) (env : List OT) : Prop where
  bh : Same B H
  b0 : Same G.B0 B
  fr : ∀ a, G.B0 a = none → G.H0 a ≠ none → ¬ G.A0 a → B a = none ∧ H a = G.H0 a ∧ w a = none
  wb : ∀ a, w a ≠ none → B a = none
  wh : ∀ a, w a ≠ none → H a ≠ none
  len : env.length = σ.length
  sl : ∀ (i : Nat) o, env[i]? = some o → o = .un ∨ ∃ v, σ[i]? = some (some v) ∧ ORep k B H w [i] o v
  fx : ∀ (i : Nat) o, env[i]? = some o → o.fixed = true → σ[i]? = G.s0 i
/-- what is lent stays where it was, when another slot is set -/
theorem fx_set {σ : L2.St} {s0 : Nat → Option (Option V)} {env : List OT} {i : Nat} {t : OT} {u : Option V} (F : ∀ (j : Nat) o, env[j]? = some o → o.fixed = true → σ[j]? = s0 j) (ht : t.fixed = false) : ∀ (j : Nat) o, (env.set i t)[j]? = some o → o.fixed = true → (σ.set i u)[j]? = s0 j := fun j o h z => by
  by_cases hj : i = j
  · subst hj
    rw [List.getElem?_set, if_pos rfl] at h
    split at h
    · injection h with h
      subst h
      rw [ht] at z
      cases z
    · cases h
  · rw [List.getElem?_set_ne hj] at h ⊢
    exact F j o h z
theorem fx_env {σ : L2.St} {s0 : Nat → Option (Option V)} {env : List OT} {i : Nat} {t : OT} (F : ∀ (j : Nat) o, env[j]? = some o → o.fixed = true → σ[j]? = s0 j) (ht : t.fixed = true → ∃ o', env[i]? = some o' ∧ o'.fixed = true) : ∀ (j : Nat) o, (env.set i t)[j]? = some o → o.fixed = true → σ[j]? = s0 j := fun j o h z => by
  by_cases hj : i = j
  · subst hj
    rw [List.getElem?_set, if_pos rfl] at h
    split at h
    · injection h with h
      subst h
      obtain ⟨o', h', z'⟩ := ht z
      exact F _ o' h' z'
    · cases h
  · rw [List.getElem?_set_ne hj] at h
    exact F j o h z

/-- new objects alone have come -/
inductive Grow : Hp → Hp → Hp → Hp → Prop
  | refl {B H : Hp} : Grow B H B H
  | new {B H B1 H1 : Hp} {p : Addr} {o : HO} (g : Grow B H B1 H1) (hp : H1 p = none) : Grow B H (upd B1 p o) (upd H1 p o)
theorem Grow.trans {B H B1 H1 B2 H2 : Hp} (a : Grow B H B1 H1) (b : Grow B1 H1 B2 H2) : Grow B H B2 H2 := by
  induction b with
  | refl => exact a
  | new g hp ih => exact .new ih hp
theorem same_new {B H : Hp} {p : Addr} {o : HO} (h : Same B H) (hp : H p = none) : Same B (upd B p o) := fun a u e => by
  rw [upd_ne (ne_of_none e (h.free hp))]
  exact e
theorem same_newH {H : Hp} {p : Addr} {o : HO} (hp : H p = none) : Same H (upd H p o) := fun a u e => by
  rw [upd_ne (ne_of_none e hp)]
  exact e
theorem same_both {B H : Hp} {p : Addr} {o : HO} (h : Same B H) : Same (upd B p o) (upd H p o) := fun a u e => by
  by_cases z : a = p
  · subst z
    rw [upd_same] at e ⊢
    exact e
  · rw [upd_ne z] at e ⊢
    exact h a u e
theorem Grow.all {B H B1 H1 : Hp} (g : Grow B H B1 H1) (h : Same B H) : Same B1 H1 ∧ Same B B1 ∧ Same H H1 := by
  induction g with
  | refl => exact ⟨h, .refl _, .refl _⟩
  | new g hp ih =>
    obtain ⟨a, b, c⟩ := ih
    exact ⟨same_both a, b.trans (same_new a hp), c.trans (same_newH hp)⟩

section
variable {k : KC} {G : Gh} {B H B' H' : Hp} {w : WM} {σ : L2.St} {env : List OT}
theorem Sta.new {p : Addr} {o : HO} (S : Sta k G B H w σ env) (hp : H p = none) : Sta k G (upd B p o) (upd H p o) w σ env where
  bh := same_both S.bh
  b0 := S.b0.trans (same_new S.bh hp)
  fr := fun a h1 h2 h3 => by
    obtain ⟨x, y, z⟩ := S.fr a h1 h2 h3
    have ne : a ≠ p := fun e => by
      subst e
      rw [y] at hp
      exact h2 hp
    rw [upd_ne ne, upd_ne ne]
    exact ⟨x, y, z⟩
  wb := fun a h => by
    have ne : a ≠ p := fun e => by
      subst e
      exact S.wh _ h hp
    rw [upd_ne ne]
    exact S.wb a h
  wh := fun a h => by
    have ne : a ≠ p := fun e => by
      subst e
      exact S.wh _ h hp
    rw [upd_ne ne]
    exact S.wh a h
  len := S.len
  sl := fun i o h => by
    rcases S.sl i o h with e | ⟨v, hv, r⟩
    · exact .inl e
    · refine .inr ⟨v, hv, r.frame (same_new S.bh hp) fun q ρ e => ⟨e, ?_⟩⟩
      have ne : q ≠ p := fun z => by
        subst z
        exact S.wh q (by rw [e]; exact fun z => nomatch z) hp
      rw [upd_ne ne]
  fx := S.fx
theorem Sta.grow {B1 H1 : Hp} (S : Sta k G B H w σ env) (g : Grow B H B1 H1) : Sta k G B1 H1 w σ env := by
  induction g with
  | refl => exact S
  | new g hp ih => exact ih.new hp
/-- a slot's shared value -/
theorem Sta.shd {i : Nat} {d : Dat} (S : Sta k G B H w σ env) (h : env[i]? = some (.sh d)) : ∃ v, σ[i]? = some (some v) ∧ Rep k B d v := by
  rcases S.sl i _ h with e | ⟨v, hv, r⟩
  · exact nomatch e
  · exact ⟨v, hv, by simpa only [ORep] using r⟩
/-- the ways that begin at slot i -/
theorem ends_ne {ρ ρ' : List Nat} {i j : Nat} (h : i ≠ j) : ρ ++ [i] ≠ ρ' ++ [j] := fun e => by
  have := congrArg (·.getLast?) e
  simp at this
  exact h this
/-- slot i takes a shared value -/
theorem Sta.set {i : Nat} {d : Dat} {v : V} (S : Sta k G B H w σ env) (r : Rep k B d v) : Sta k G B H w (σ.set i (some v)) (env.set i (.sh d)) where
  bh := S.bh
  b0 := S.b0
  fr := S.fr
  wb := S.wb
  wh := S.wh
  len := by simpa using S.len
  sl := fun j o h => by
    by_cases hj : i = j
    · subst hj
      rw [List.getElem?_set] at h
      rw [if_pos rfl] at h
      split at h
      · rename_i hl
        cases h
        refine .inr ⟨v, ?_, by simpa only [ORep] using r⟩
        rw [List.getElem?_set, if_pos rfl, if_pos (by rw [← S.len]; exact hl)]
      · cases h
    · rw [List.getElem?_set_ne hj] at h ⊢
      exact S.sl j o h
  fx := fx_set S.fx rfl
/-- a value of one's own: its tree's ways w1, apart from the slots' -/
structure Vt (k : KC) (G : Gh) (B H : Hp) (w w1 : WM) (o : OT) (v : V) : Prop where
  dis : ∀ a, w1 a ≠ none → w a = none ∧ B a = none ∧ H a ≠ none ∧ (G.B0 a = none → G.H0 a ≠ none → G.A0 a)
  rep : ORep k B H w1 [] o v
  nl : o.fixed = false
theorem Vt.shd {d : Dat} {v : V} (r : Rep k B d v) : Vt k G B H w (fun _ => none) (.sh d) v := ⟨fun a h => absurd rfl h, by simpa only [ORep] using r, rfl⟩
/-- it comes to slot i -/
def wHang (w w1 : WM) (i : Nat) : WM := fun a => match w1 a with
  | some ρ => some (ρ ++ [i])
  | none => match w a with
    | none => none
    | some π => if π.getLast? = some i then none else some π
theorem Sta.setO {i : Nat} {o : OT} {v : V} {w1 : WM} (S : Sta k G B H w σ env) (T : Vt k G B H w w1 o v) (hi : i < env.length) : Sta k G B H (wHang w w1 i) (σ.set i (some v)) (env.set i o) where
  bh := S.bh
  b0 := S.b0
  fr := fun a h1 h2 h3 => by
    obtain ⟨x, y, z⟩ := S.fr a h1 h2 h3
    refine ⟨x, y, ?_⟩
    unfold wHang
    cases e : w1 a with
    | none => simp [z]
    | some ρ => exact absurd ((T.dis a (by rw [e]; exact fun z => nomatch z)).2.2.2 h1 h2) h3
  wb := fun a h => by
    cases e : w1 a with
    | some ρ => exact (T.dis a (by rw [e]; exact fun z => nomatch z)).2.1
    | none => exact S.wb a fun z => h (by unfold wHang; rw [e]; simp [z])
  wh := fun a h => by
    cases e : w1 a with
    | some ρ => exact (T.dis a (by rw [e]; exact fun z => nomatch z)).2.2.1
    | none => exact S.wh a fun z => h (by unfold wHang; rw [e]; simp [z])
  len := by simpa using S.len
  sl := fun j o' h => by
    by_cases hj : i = j
    · subst hj
      rw [List.getElem?_set, if_pos rfl, if_pos hi] at h
      cases h
      refine .inr ⟨v, ?_, T.rep.move (.refl _) fun p ρ e => ⟨?_, rfl⟩⟩
      · rw [List.getElem?_set, if_pos rfl, if_pos (by rw [← S.len]; exact hi)]
      · unfold wHang
        rw [e]
        simp
    · rw [List.getElem?_set_ne hj] at h ⊢
      rcases S.sl j o' h with e | ⟨u, hu, q⟩
      · exact .inl e
      · refine .inr ⟨u, hu, q.frame (.refl _) fun p ρ e => ⟨?_, rfl⟩⟩
        have n1 : w1 p = none := by
          cases z : w1 p with
          | none => rfl
          | some ρ' =>
            have := (T.dis p (by rw [z]; exact fun z => nomatch z)).1
            rw [e] at this
            exact nomatch this
        have n2 : ¬ j = i := fun z => hj z.symm
        unfold wHang
        rw [n1, e]
        simp [n2]
  fx := fx_set S.fx T.nl
/-- it melts into the shared part -/
def bPut (w1 : WM) (B H : Hp) : Hp := fun a => if (w1 a).isSome = true then H a else B a
theorem same_put {w1 : WM} (S : Same B H) : Same B (bPut w1 B H) := fun a u e => by
  unfold bPut
  split
  · exact S a u e
  · exact e
theorem Vt.melt {o : OT} {v : V} {w1 : WM} (S : Sta k G B H w σ env) (T : Vt k G B H w w1 o v) (z : o.ok = true) : Sta k G (bPut w1 B H) H w σ env ∧ Rep k (bPut w1 B H) o.dat v := by
  refine ⟨⟨fun a u e => ?_, S.b0.trans (same_put S.bh), fun a h1 h2 h3 => ?_, fun a h => ?_, S.wh, S.len, fun i o h => ?_, S.fx⟩, T.rep.melt (same_put S.bh) (fun p ρ e => ?_) z⟩
  · unfold bPut at e
    split at e
    · exact e
    · exact S.bh a u e
  · obtain ⟨x, y, z⟩ := S.fr a h1 h2 h3
    refine ⟨?_, y, z⟩
    cases e : w1 a with
    | none => simp [bPut, e, x]
    | some ρ => exact absurd ((T.dis a (by rw [e]; exact fun z => nomatch z)).2.2.2 h1 h2) h3
  · cases e : w1 a with
    | none => simp [bPut, e, S.wb a h]
    | some ρ => exact absurd (T.dis a (by rw [e]; exact fun z => nomatch z)).1 h
  · rcases S.sl i o h with e | ⟨v, hv, r⟩
    · exact .inl e
    · exact .inr ⟨v, hv, r.frame (same_put S.bh) fun p ρ e => ⟨e, rfl⟩⟩
  · simp [bPut, e]
/-- a new object of nobody's -/
theorem Sta.ext {p : Addr} {o : HO} (S : Sta k G B H w σ env) (hp : H p = none) : Sta k G B (upd H p o) w σ env where
  bh := S.bh.trans (same_newH hp)
  b0 := S.b0
  fr := fun a h1 h2 h3 => by
    obtain ⟨x, y, z⟩ := S.fr a h1 h2 h3
    have ne : a ≠ p := fun e => by
      subst e
      rw [y] at hp
      exact h2 hp
    exact ⟨x, by rw [upd_ne ne]; exact y, z⟩
  wb := S.wb
  wh := fun a h => by
    have ne : a ≠ p := fun e => by
      subst e
      exact S.wh _ h hp
    rw [upd_ne ne]
    exact S.wh a h
  len := S.len
  sl := fun i o h => by
    rcases S.sl i o h with e | ⟨v, hv, r⟩
    · exact .inl e
    · refine .inr ⟨v, hv, r.frame (.refl _) fun q ρ e => ⟨e, ?_⟩⟩
      have ne : q ≠ p := fun z => by
        subst z
        exact S.wh q (by rw [e]; exact fun z => nomatch z) hp
      rw [upd_ne ne]
  fx := S.fx
/-- a fresh place was nobody's -/
theorem Sta.nob {p : Addr} (S : Sta k G B H w σ env) (hp : H p = none) : w p = none ∧ B p = none ∧ (G.B0 p = none → G.H0 p ≠ none → G.A0 p) := by
  refine ⟨?_, S.bh.free hp, fun h1 h2 => ?_⟩
  · cases e : w p with
    | none => rfl
    | some ρ => exact absurd hp (S.wh p (by rw [e]; exact fun z => nomatch z))
  · apply Classical.byContradiction
    intro h3
    obtain ⟨x, y, z⟩ := S.fr p h1 h2 h3
    rw [hp] at y
    exact h2 y.symm
/-- the tree at n melts into the shared part -/
def bMelt (w : WM) (n : Nat) (B H : Hp) : Hp := fun a => match w a with
  | some ρ => if ρ.getLast? = some n then H a else B a
  | none => B a
def wMelt (w : WM) (n : Nat) : WM := fun a => match w a with
  | some ρ => if ρ.getLast? = some n then none else some ρ
  | none => none
theorem same_melt {n : Nat} (S : Same B H) : Same B (bMelt w n B H) := fun a u e => by
  unfold bMelt
  split
  · split
    · exact S a u e
    · exact e
  · exact e
theorem melts {n : Nat} : Melts [n] w H (bMelt w n B H) := fun p ρ e => by
  unfold bMelt
  rw [e]
  simp
theorem Sta.melt {n : Nat} (S : Sta k G B H w σ env) (hn : ∀ o, env[n]? = some o → o = .un) : Sta k G (bMelt w n B H) H (wMelt w n) σ env where
  bh := fun a u e => by
    unfold bMelt at e
    split at e
    · split at e
      · exact e
      · exact S.bh a u e
    · exact S.bh a u e
  b0 := S.b0.trans (same_melt S.bh)
  fr := fun a h1 h2 h3 => by
    obtain ⟨x, y, z⟩ := S.fr a h1 h2 h3
    refine ⟨?_, y, ?_⟩
    · unfold bMelt
      rw [z]
      exact x
    · unfold wMelt
      rw [z]
  wb := fun a h => by
    unfold wMelt at h
    unfold bMelt
    split at h
    · rename_i ρ e
      skip
      split at h
      · exact absurd rfl h
      · rename_i c
        simp only [if_neg c]
        exact S.wb a (by rw [e]; exact fun z => nomatch z)
    · exact absurd rfl h
  wh := fun a h => S.wh a fun z => h (by unfold wMelt; rw [z])
  len := S.len
  sl := fun j o h => by
    rcases S.sl j o h with e | ⟨v, hv, r⟩
    · exact .inl e
    · by_cases hj : j = n
      · subst hj
        exact .inl (hn o h)
      · refine .inr ⟨v, hv, r.frame (same_melt S.bh) fun p ρ e => ⟨?_, rfl⟩⟩
        unfold wMelt
        rw [e]
        simp [hj]
  fx := S.fx
/-- slot i's own tree becomes shared -/
theorem Sta.frz {i : Nat} {o : OT} (S : Sta k G B H w σ env) (h : env[i]? = some o) (z : o.ok = true) : Sta k G (bMelt w i B H) H (wMelt w i) σ (env.set i (.sh o.dat)) := by
  have hi : i < env.length := (List.getElem?_eq_some_iff.mp h).1
  have S1 : Sta k G B H w σ (env.set i .un) := ⟨S.bh, S.b0, S.fr, S.wb, S.wh, by simpa using S.len, fun j o' h' => by
    by_cases hj : i = j
    · subst hj
      rw [List.getElem?_set, if_pos rfl, if_pos hi] at h'
      cases h'
      exact .inl rfl
    · rw [List.getElem?_set_ne hj] at h'
      exact S.sl j o' h', fx_env S.fx fun h => nomatch h⟩
  have S2 := S1.melt (n := i) fun o' h' => by
    rw [List.getElem?_set, if_pos rfl, if_pos hi] at h'
    cases h'
    rfl
  rcases S.sl i o h with e | ⟨v, hv, r⟩
  · subst e
    simp [OT.ok] at z
  · refine ⟨S2.bh, S2.b0, S2.fr, S2.wb, S2.wh, by simpa using S.len, fun j o' h' => ?_, fx_env S.fx fun h => nomatch h⟩
    by_cases hj : i = j
    · subst hj
      rw [List.getElem?_set, if_pos rfl, if_pos hi] at h'
      cases h'
      exact .inr ⟨v, hv, by simpa only [ORep] using r.melt (same_melt S.bh) melts z⟩
    · rw [List.getElem?_set_ne hj] at h'
      exact S2.sl j o' (by rw [List.getElem?_set_ne hj]; exact h')
end

/-- all that was stands -/
def Mv (B H B' H' : Hp) : Prop := Same B B' ∧ Same H H'
theorem Mv.refl {B H : Hp} : Mv B H B H := ⟨.refl _, .refl _⟩
theorem Mv.trans {B H B1 H1 B2 H2 : Hp} (a : Mv B H B1 H1) (b : Mv B1 H1 B2 H2) : Mv B H B2 H2 := ⟨a.1.trans b.1, a.2.trans b.2⟩
/-! ### readings over data -/
section
variable (k : KC)
def tD (f : List OT → Option Dat) : TE := fun σ H Q => ∃ G B w env d, Sta k G B H w σ env ∧ f env = some d ∧ ∀ v B' H', Sta k G B' H' w σ env → Mv B H B' H' → Rep k B' d v → Q v H'
def tT (f : List OT → Option Bool) : TT := fun σ H Q => ∃ G B w env d, Sta k G B H w σ env ∧ f env = some d ∧ ∀ B' H', Sta k G B' H' w σ env → Mv B H B' H' → Q d H'
def tA (f : List OT → Option (List Dat)) : TA := fun σ H Q => ∃ G B w env d, Sta k G B H w σ env ∧ f env = some d ∧ ∀ v B' H', Sta k G B' H' w σ env → Mv B H B' H' → Reps k B' d v → Q v H'
/-- a value of one's own, the slots as they were -/
def tF (f : List OT → Option OT) : TE := fun σ H Q => ∃ G B w env o, Sta k G B H w σ env ∧ f env = some o ∧ ∀ v B' H' w1, Sta k G B' H' w σ env → Vt k G B' H' w w1 o v → Mv B H B' H' → Q v H'
/-- .. the slots' trees changed -/
def tG (f : List OT → Option (OT × List OT)) : TE := fun σ H Q => ∃ G B w env o env', Sta k G B H w σ env ∧ f env = some (o, env') ∧ ∀ v B' H' w' w1, Sta k G B' H' w' σ env' → Vt k G B' H' w' w1 o v → Same B B' → Q v H'
inductive Out where
  | nx (e : List OT) | bk (e : List OT) | ct (e : List OT) | rt (o : OT) (e : List OT)
  | ex (c : String) (ns : List Str) (xs : List Dat) (e : List OT)
/-- an exception in flight: its class, its dict -/
def XRep (B : Hp) (c : String) (ns : List Str) (xs : List Dat) (cls : Value) (d : Option Addr) : Prop := cls = .ref (k.cl c) ∧ ∃ vs, XD B d (ns.zip vs) ∧ ns.length = vs.length ∧ Reps k B xs vs
def OutK (W : WX) (G : Gh) (B : Hp) (D : Ends) : Out → Prop
  | .nx env => ∀ σ' B' H' w', Sta k G B' H' w' σ' env → Same B B' → D.nx σ' H'
  | .bk env => ∀ σ' B' H' w', Sta k G B' H' w' σ' env → Same B B' → D.bk σ' H'
  | .ct env => ∀ σ' B' H' w', Sta k G B' H' w' σ' env → Same B B' → D.ct σ' H'
  | .rt o env => ∀ v σ' B' H' w' w1, Sta k G B' H' w' σ' env → Vt k G B' H' w' w1 o v → Same B B' → D.rt v H'
  | .ex c ns xs env => ∀ cls d σ' B' H' w', Sta k G B' H' w' σ' env → Same B B' → XRep k B' c ns xs cls d → W cls d σ' H'
def tS (W : WX) (g : List OT → Option Out) : TS := fun D σ H => ∃ G B w env o, Sta k G B H w σ env ∧ g env = some o ∧ OutK k W G B D o
/-- no exception is let out -/
abbrev nW : WX := fun _ _ _ _ => False
end
theorem OutK.mono {k : KC} {W : WX} {G : Gh} {B B1 : Hp} {D : Ends} {o : Out} (e : Same B B1) (h : OutK k W G B D o) : OutK k W G B1 D o := by
  cases o with
  | nx env => exact fun σ' B' H' w' S m => h σ' B' H' w' S (e.trans m)
  | bk env => exact fun σ' B' H' w' S m => h σ' B' H' w' S (e.trans m)
  | ct env => exact fun σ' B' H' w' S m => h σ' B' H' w' S (e.trans m)
  | rt o env => exact fun v σ' B' H' w' w1 S r m => h v σ' B' H' w' w1 S r (e.trans m)
  | ex c ns xs env => exact fun cls d σ' B' H' w' S m x => h cls d σ' B' H' w' S (e.trans m) x

theorem pe_imp {X : Cx} {e : Expr} {t t' : TE} (h : PE X e t) (i : ∀ σ H Q, t' σ H Q → t σ H Q) : PE X e t' := ⟨fun pins s σ H Q I q => h.run pins s σ H Q I (i σ H Q q)⟩
theorem pt_imp {X : Cx} {e : Expr} {t t' : TT} (h : PT X e t) (i : ∀ σ H Q, t' σ H Q → t σ H Q) : PT X e t' := ⟨fun pins s σ H Q I q => h.run pins s σ H Q I (i σ H Q q)⟩
theorem pw_imp {X : Cx} {e : Expr} {t t' : TT} (h : PW X e t) (i : ∀ σ H Q, t' σ H Q → t σ H Q) : PW X e t' := ⟨fun wh pins s σ H Q I q => h.run wh pins s σ H Q I (i σ H Q q)⟩
theorem pa_imp {X : Cx} {e : List Expr} {t t' : TA} (h : PA X e t) (i : ∀ σ H Q, t' σ H Q → t σ H Q) : PA X e t' := ⟨fun pos pins s σ H Q I q => h.run pos pins s σ H Q I (i σ H Q q)⟩
theorem ps_imp {X : Cx} {e : Stmt} {t t' : TS} (h : PS X e t) (i : ∀ D σ H, t' D σ H → t D σ H) : PS X e t' := ⟨fun pins s σ H D I q => h.run pins s σ H D I (i D σ H q)⟩
theorem pss_imp {X : Cx} {e : List Stmt} {t t' : TS} (h : PSs X e t) (i : ∀ D σ H, t' D σ H → t D σ H) : PSs X e t' := ⟨fun pins s σ H D I q => h.run pins s σ H D I (i D σ H q)⟩

/-! ### names, constants -/
@[simp] def vr (i : Nat) : List OT → Option Dat := fun e => match e[i]? with
  | some (.sh d) => some d
  | _ => none
@[simp] def cn (d : Dat) : List OT → Option Dat := fun _ => some d
section
variable {k : KC} {X : Cx} {pos : Pos} {a b c : Expr} {fa fb fc : List OT → Option Dat}
theorem vr_some {i : Nat} {env : List OT} {d : Dat} (h : vr i env = some d) : env[i]? = some (.sh d) := by
  unfold vr at h
  split at h
  · rename_i e
    cases h
    exact e
  · cases h
theorem dv (i : Nat) {x : Str} (hN : X.N[i]? = some x := by rfl) (hv : Vis X.env.scope x := by first | exact Or.inl rfl | exact Or.inr (Or.inl rfl) | exact Or.inr (Or.inr rfl)) (hd : (x == ("__debug__" : Str)) = false := by decide)
    (hcd : (x == ("__classdict__" : Str)) = false := by decide) : PE X (.Name x pos) (tD k (vr i)) :=
  pe_imp (pe_var hN hv hd hcd) fun σ H Q ⟨G, B, w, env, d, S, h, q⟩ => by
    obtain ⟨v, hv, r⟩ := S.shd (vr_some h)
    exact ⟨v, hv, q v B H S .refl r⟩
theorem d_cn {d : Dat} {v : V} {e : Expr} (h : PE X e (tC v)) (r : ∀ B, Rep k B d v) : PE X e (tD k (cn d)) :=
  pe_imp h fun σ H Q ⟨G, B, w, env, d', S, h, q⟩ => by
    cases h
    exact q v B H S .refl (r B)
theorem di {i : Int} {j} : PE X (.Constant (.int i) j pos) (tD k (cn (.int i))) := d_cn pe_int fun _ => by simp only [Rep]
theorem dbl {i : Bool} {j} : PE X (.Constant (.bool i) j pos) (tD k (cn (.bl i))) := d_cn pe_bl fun _ => by simp only [Rep]
theorem dn {j} : PE X (.Constant .none j pos) (tD k (cn .non)) := d_cn pe_non fun _ => by simp only [Rep]
theorem ds {i : Str} {j} : PE X (.Constant (.str i) j pos) (tD k (cn (.str i))) := d_cn pe_str fun _ => by simp only [Rep]
/-- a constant of the module, by what the written part says -/
theorem dg {x : Str} {v : V} {u : Value} {d : Dat} (hm : X.mg x = some u) (r : RelV v u) (hr : ∀ B, Rep k B d v) (hg : Gl X x := by rfl) (hd : (x == ("__debug__" : Str)) = false := by decide) : PE X (.Name x pos) (tD k (cn d)) := d_cn (pe_glob hg hm r hd) hr

/-! ### operators -/
@[simp] def bin (g : Dat → Dat → Option Dat) (fa fb : List OT → Option Dat) : List OT → Option Dat := fun e => match fa e with
  | none => none
  | some x => match fb e with
    | none => none
    | some y => g x y
theorem bin_some {g : Dat → Dat → Option Dat} {e : List OT} {d : Dat} (h : bin g fa fb e = some d) : ∃ x y, fa e = some x ∧ fb e = some y ∧ g x y = some d := by
  unfold bin at h
  split at h
  · cases h
  · rename_i x hx
    split at h
    · cases h
    · rename_i y hy
      exact ⟨x, y, hx, hy, h⟩
/-- a rule by values speaks of data -/
def RD (k : KC) (r : R2) (g : Dat → Dat → Option Dat) : Prop := ∀ (B H : Hp) (x y d : Dat) (v u : V) (Q : VK), Same B H → Rep k B x v → Rep k B y u → g x y = some d →
  (∀ v' B' H', Grow B H B' H' → Rep k B' d v' → Q v' H') → r v u H Q
theorem op_read {r : R2} {g : Dat → Dat → Option Dat} (hr : RD k r g) {σ : L2.St} {H : Hp} {Q : VK} (h : tD k (bin g fa fb) σ H Q) : tOp r (tD k fa) (tD k fb) σ H Q := by
  obtain ⟨G, B, w, env, d, S, h, q⟩ := h
  obtain ⟨x, y, hx, hy, hg⟩ := bin_some h
  refine ⟨G, B, w, env, x, S, hx, fun v B1 H1 S1 m1 r1 => ⟨G, B1, w, env, y, S1, hy, fun u B2 H2 S2 m2 r2 => ?_⟩⟩
  exact hr B2 H2 x y d v u Q S2.bh (r1.mono m2.1) r2 hg fun v' B' H' gr r3 => q v' B' H' (S2.grow gr) ((m1.trans m2).trans (gr.all S2.bh).2) r3
theorem d_op {op : Operator} {r : R2} {g : Dat → Dat → Option Dat} (ho : OpR X (binaryOp op) r) (hr : RD k r g) (ha : PE X a (tD k fa)) (hb : PE X b (tD k fb)) : PE X (.BinOp a op b pos) (tD k (bin g fa fb)) :=
  pe_imp (pe_op ho ha hb) fun _ _ _ h => op_read hr h
theorem d_cmp {op : CmpOp} {r : R2} {g : Dat → Dat → Option Dat} (ho : OpR X (compareOp op) r) (hr : RD k r g) (ha : PE X a (tD k fa)) (hb : PE X b (tD k fb)) (hm : behindInMarks op b = false) : PE X (.Compare a [op] [b] pos) (tD k (bin g fa fb)) :=
  pe_imp (pe_cmpR ho ha hb hm) fun _ _ _ h => op_read hr h
/-- .. as a test -/
@[simp] def tst (f : List OT → Option Dat) : List OT → Option Bool := fun e => match f e with
  | some (.bl b) => some b
  | _ => none
theorem tst_some {f : List OT → Option Dat} {e : List OT} {b : Bool} (h : tst f e = some b) : f e = some (.bl b) := by
  unfold tst at h
  split at h
  · rename_i e
    cases h
    exact e
  · cases h
theorem t_cmp {op : CmpOp} {r : R2} {g : Dat → Dat → Option Dat} (ho : OpR X (compareOp op) r) (hr : RD k r g) (ha : PE X a (tD k fa)) (hb : PE X b (tD k fb)) (hm : behindInMarks op b = false) : PT X (.Compare a [op] [b] pos) (tT k (tst (bin g fa fb))) :=
  pt_imp (pt_cmpR ho ha hb hm) fun σ H Q ⟨G, B, w, env, d, S, h, q⟩ => by
    refine op_read hr ⟨G, B, w, env, _, S, tst_some h, fun v B' H' S' m r => ?_⟩
    simp only [Rep] at r
    exact ⟨d, r, q B' H' S' m⟩
/-- an expression that is a bool -/
theorem t_val {e : Expr} {f : List OT → Option Dat} (h : PE X e (tD k f)) (he : ∀ whole, isTrue e X.env whole = (do let v ← whole; standAt e.pos; holding [v] (truthy v)) := by intro _; rfl) : PT X e (tT k (tst f)) :=
  pt_imp (pt_val h he) fun σ H Q ⟨G, B, w, env, d, S, h, q⟩ => by
    refine ⟨G, B, w, env, _, S, tst_some h, fun v B' H' S' m r => ?_⟩
    simp only [Rep] at r
    exact ⟨d, r, q B' H' S' m⟩
/-- one factor of 64 bits, or both together of a million -/
def CMulA (i j : Int) : Prop := i.natAbs < 2 ^ 64 ∨ j.natAbs < 2 ^ 64 ∨ i.natAbs.log2 + j.natAbs.log2 < 1000000
instance {i j : Int} : Decidable (CMulA i j) := inferInstanceAs (Decidable (_ ∨ _ ∨ _))
theorem CMulA.fits {i j : Int} (h : CMulA i j) : IntMulOk i j := by
  rcases h with h | h | h
  · exact .of_left (intBits_le_64 (by omega) (by omega))
  · exact .of_right (intBits_le_64 (by omega) (by omega))
  · exact CMulW.ok h
theorem op_mulA {X : Cx} : OpR X (binaryOp .Mult) (rI CMulA fun i j => .int (i * j)) := opI fun _ _ _ _ _ _ _ hc q => PyProof.Rows.mul_int q hc.fits
def mulD : Dat → Dat → Option Dat
  | .int i, .int j => if CMulA i j then some (.int (i * j)) else none
  | _, _ => none
def addD : Dat → Dat → Option Dat
  | .int i, .int j => some (.int (i + j))
  | .str i, .str j => if i.length + j.length ≤ 16000000 then some (.str (i ++ j)) else none
  | _, _ => none
@[simp] def subD : Dat → Dat → Option Dat
  | .int i, .int j => some (.int (i - j))
  | _, _ => none
/-- % by what isn't nought -/
def modD : Dat → Dat → Option Dat
  | .int i, .int j => if j ≠ 0 then some (.int (i.fmod j)) else none
  | _, _ => none
def fdvD : Dat → Dat → Option Dat
  | .int i, .int j => if j ≠ 0 ∧ Builtin.divisionGoesByPylong i j = false then some (.int (i.fdiv j)) else none
  | _, _ => none
def powD : Dat → Dat → Option Dat
  | .int i, .int j => if 0 ≤ j ∧ j ≤ 1000000 ∧ i.natAbs < 2 ^ 64 then some (.int (i ^ j.toNat)) else none
  | _, _ => none
theorem sl16 {n : Nat} (h : n ≤ 16000000) : n ≤ sizeLine := Nat.le_trans h (by rw [sizeLine_eq]; decide)
theorem sl16' {n : Nat} (h : n < 16000000) : n < sizeLine := Nat.lt_of_lt_of_le h (by rw [sizeLine_eq]; decide)
theorem rd_I0 {g : Int → Int → V} {G : Dat → Dat → Option Dat} (h : ∀ x y d, G x y = some d → ∃ i j, x = .int i ∧ y = .int j ∧ ∀ B, Rep k B d (g i j)) : RD k (rI0 g) G := by
  intro B H x y d v u Q hs rx ry e q
  obtain ⟨i, j, rfl, rfl, hd⟩ := h x y d e
  simp only [Rep] at rx ry
  subst rx ry
  exact ⟨i, j, rfl, rfl, q _ B H .refl (hd B)⟩
theorem rd_I {C : Int → Int → Prop} {g : Int → Int → V} {G : Dat → Dat → Option Dat} (h : ∀ x y d, G x y = some d → ∃ i j, x = .int i ∧ y = .int j ∧ C i j ∧ ∀ B, Rep k B d (g i j)) : RD k (rI C g) G := by
  intro B H x y d v u Q hs rx ry e q
  obtain ⟨i, j, rfl, rfl, hc, hd⟩ := h x y d e
  simp only [Rep] at rx ry
  subst rx ry
  exact ⟨i, j, rfl, rfl, hc, q _ B H .refl (hd B)⟩
theorem d_mul (ha : PE X a (tD k fa)) (hb : PE X b (tD k fb)) : PE X (.BinOp a .Mult b pos) (tD k (bin mulD fa fb)) := d_op op_mulA (rd_I fun x y d e => by
  unfold mulD at e
  split at e
  · split at e
    · rename_i i j hc
      cases e
      exact ⟨i, j, rfl, rfl, hc, fun _ => by simp only [Rep]⟩
    · cases e
  · cases e) ha hb
theorem d_sub (ha : PE X a (tD k fa)) (hb : PE X b (tD k fb)) : PE X (.BinOp a .Sub b pos) (tD k (bin subD fa fb)) := d_op op_sub (rd_I0 fun x y d e => by
  unfold subD at e
  split at e
  · rename_i i j
    cases e
    exact ⟨i, j, rfl, rfl, fun _ => by simp only [Rep]⟩
  · cases e) ha hb
theorem d_mod (ha : PE X a (tD k fa)) (hb : PE X b (tD k fb)) : PE X (.BinOp a .Mod b pos) (tD k (bin modD fa fb)) := d_op op_modN (rd_I fun x y d e => by
  unfold modD at e
  split at e
  · split at e
    · rename_i i j hc
      cases e
      exact ⟨i, j, rfl, rfl, hc, fun _ => by simp only [Rep]⟩
    · cases e
  · cases e) ha hb
def CDivA (i j : Int) : Prop := j ≠ 0 ∧ Builtin.divisionGoesByPylong i j = false
theorem op_fdivA : OpR X (binaryOp .FloorDiv) (rI CDivA fun i j => .int (i.fdiv j)) := opI fun i j _ _ _ _ _ hc q => PyProof.Rows.floordiv_int hc.1 q (.inl hc.2)
theorem d_fdv (ha : PE X a (tD k fa)) (hb : PE X b (tD k fb)) : PE X (.BinOp a .FloorDiv b pos) (tD k (bin fdvD fa fb)) := d_op op_fdivA (rd_I fun x y d e => by
  unfold fdvD at e
  split at e
  · split at e
    · rename_i i j hc
      cases e
      exact ⟨i, j, rfl, rfl, hc, fun _ => by simp only [Rep]⟩
    · cases e
  · cases e) ha hb
theorem d_pow (ha : PE X a (tD k fa)) (hb : PE X b (tD k fb)) : PE X (.BinOp a .Pow b pos) (tD k (bin powD fa fb)) := d_op op_pow (rd_I fun x y d e => by
  unfold powD at e
  split at e
  · split at e
    · rename_i i j hc
      cases e
      exact ⟨i, j, rfl, rfl, hc, fun _ => by simp only [Rep]⟩
    · cases e
  · cases e) ha hb
theorem d_add (ha : PE X a (tD k fa)) (hb : PE X b (tD k fb)) : PE X (.BinOp a .Add b pos) (tD k (bin addD fa fb)) := d_op (op_add.or op_add_str) (fun B H x y d v u Q hs rx ry e q => by
  unfold addD at e
  split at e
  · rename_i i j
    cases e
    simp only [Rep] at rx ry
    subst rx ry
    exact .inl ⟨i, j, rfl, rfl, q _ B H .refl (by simp only [Rep])⟩
  · rename_i i j
    split at e
    · rename_i hl
      cases e
      simp only [Rep] at rx ry
      subst rx ry
      exact .inr ⟨i, j, rfl, rfl, sl16 hl, q _ B H .refl (by simp only [Rep])⟩
    · cases e
  · cases e) ha hb
@[simp] def cmpD (p : Int → Int → Bool) : Dat → Dat → Option Dat
  | .int i, .int j => some (.bl (p i j))
  | _, _ => none
theorem rd_cmp {p : Int → Int → Bool} : RD k (rI0 fun i j => .bl (p i j)) (cmpD p) := rd_I0 fun x y d e => by
  unfold cmpD at e
  split at e
  · rename_i i j
    cases e
    exact ⟨i, j, rfl, rfl, fun _ => by simp only [Rep]⟩
  · cases e
abbrev ltD := cmpD fun i j => decide (i < j)
abbrev leD := cmpD fun i j => decide (i ≤ j)
abbrev gtD := cmpD fun i j => decide (j < i)
abbrev geD := cmpD fun i j => decide (j ≤ i)
theorem d_lt (ha : PE X a (tD k fa)) (hb : PE X b (tD k fb)) : PE X (.Compare a [.Lt] [b] pos) (tD k (bin ltD fa fb)) := d_cmp op_lt rd_cmp ha hb (nomark _)
theorem d_le (ha : PE X a (tD k fa)) (hb : PE X b (tD k fb)) : PE X (.Compare a [.LtE] [b] pos) (tD k (bin leD fa fb)) := d_cmp op_le rd_cmp ha hb (nomark _)
theorem d_gt (ha : PE X a (tD k fa)) (hb : PE X b (tD k fb)) : PE X (.Compare a [.Gt] [b] pos) (tD k (bin gtD fa fb)) := d_cmp op_gt rd_cmp ha hb (nomark _)
theorem d_ge (ha : PE X a (tD k fa)) (hb : PE X b (tD k fb)) : PE X (.Compare a [.GtE] [b] pos) (tD k (bin geD fa fb)) := d_cmp op_ge rd_cmp ha hb (nomark _)
theorem t_lt (ha : PE X a (tD k fa)) (hb : PE X b (tD k fb)) : PT X (.Compare a [.Lt] [b] pos) (tT k (tst (bin ltD fa fb))) := t_cmp op_lt rd_cmp ha hb (nomark _)
theorem t_le (ha : PE X a (tD k fa)) (hb : PE X b (tD k fb)) : PT X (.Compare a [.LtE] [b] pos) (tT k (tst (bin leD fa fb))) := t_cmp op_le rd_cmp ha hb (nomark _)
theorem t_gt (ha : PE X a (tD k fa)) (hb : PE X b (tD k fb)) : PT X (.Compare a [.Gt] [b] pos) (tT k (tst (bin gtD fa fb))) := t_cmp op_gt rd_cmp ha hb (nomark _)
theorem t_ge (ha : PE X a (tD k fa)) (hb : PE X b (tD k fb)) : PT X (.Compare a [.GtE] [b] pos) (tT k (tst (bin geD fa fb))) := t_cmp op_ge rd_cmp ha hb (nomark _)
end
end DL
namespace DL
open PySem L2

/-! ### == of data -/
mutual
def Dat.py : Dat → PyData
  | .non => .none
  | .bl b => .bool b
  | .int i => .int i
  | .str x => .str x
  | .tup xs => .tuple (Dat.pys xs)
  | .lst xs => .list (Dat.pys xs)
  | .obj _ _ _ => .none
  | .dct _ _ => .none
  | .exn _ _ _ => .none
def Dat.pys : List Dat → List PyData
  | [] => []
  | x :: xs => x.py :: Dat.pys xs
end
mutual
/-- no objects, no dicts -/
def Dat.noobj : Dat → Bool
  | .tup xs => Dat.noobjs xs
  | .lst xs => Dat.noobjs xs
  | .obj _ _ _ => false
  | .dct _ _ => false
  | .exn _ _ _ => false
  | _ => true
def Dat.noobjs : List Dat → Bool
  | [] => true
  | x :: xs => x.noobj && Dat.noobjs xs
end
mutual
theorem Rep.dp {k : KC} {B : Hp} : ∀ {d : Dat} {v : V}, d.noobj = true → Rep k B d v → Dp k.K B v d.py
  | .non, v, z, h => by simp only [Rep] at h; subst h; simp only [Dat.py]; exact .non
  | .bl b, v, z, h => by simp only [Rep] at h; subst h; simp only [Dat.py]; exact .bl b
  | .int i, v, z, h => by simp only [Rep] at h; subst h; simp only [Dat.py]; exact .int i
  | .str i, v, z, h => by simp only [Rep] at h; subst h; simp only [Dat.py]; exact .str i
  | .tup xs, v, z, h => by
    simp only [Rep] at h
    obtain ⟨p, vs, rfl, hs, hr⟩ := h
    simp only [Dat.py]
    exact .tup hs (Reps.dp (by simpa only [Dat.noobj] using z) hr)
  | .lst xs, v, z, h => by
    simp only [Rep] at h
    obtain ⟨p, vs, rfl, hs, hr⟩ := h
    simp only [Dat.py]
    exact .lst hs (Reps.dp (by simpa only [Dat.noobj] using z) hr)
  | .obj _ _ _, v, z, h => by simp [Dat.noobj] at z
  | .dct _ _, v, z, h => by simp [Dat.noobj] at z
  | .exn _ _ _, v, z, h => by simp [Dat.noobj] at z
theorem Reps.dp {k : KC} {B : Hp} : ∀ {ds : List Dat} {vs : List V}, Dat.noobjs ds = true → Reps k B ds vs → DpAll k.K B vs (Dat.pys ds)
  | [], vs, z, h => by simp only [Reps] at h; subst h; simp only [Dat.pys]; exact .nil
  | d :: ds, vs, z, h => by
    simp only [Reps] at h
    obtain ⟨v, r, rfl, h1, h2⟩ := h
    simp only [Dat.noobjs, Bool.and_eq_true] at z
    simp only [Dat.pys]
    exact .cons (Rep.dp z.1 h1) (Reps.dp z.2 h2)
end
mutual
theorem dp_mono {K : PySem.W.Frag} {H H' : Hp} (e : Same H H') : ∀ {v : V} {d : PyData}, Dp K H v d → Dp K H' v d
  | _, _, .non => .non
  | _, _, .bl b => .bl b
  | _, _, .int b => .int b
  | _, _, .str b => .str b
  | _, _, .lst h r => .lst (sqL_mono e h) (dps_mono e r)
  | _, _, .tup h r => .tup (sqT_mono e h) (dps_mono e r)
theorem dps_mono {K : PySem.W.Frag} {H H' : Hp} (e : Same H H') : ∀ {v : List V} {d : List PyData}, DpAll K H v d → DpAll K H' v d
  | _, _, .nil => .nil
  | _, _, .cons h r => .cons (dp_mono e h) (dps_mono e r)
end
def okEq (x : Dat) : Bool := x.noobj && SeqAt.shaped x.py
/-- two scalars, told apart without a look at their kinds' depths -/
def scEq : Dat → Dat → Option Bool
  | .int i, .int j => some (decide (i = j))
  | .str i, .str j => some (decide (i = j))
  | .bl i, .bl j => some (decide (i = j))
  | .non, .non => some true
  | .non, .int _ => some false
  | .int _, .non => some false
  | .non, .bl _ => some false
  | .bl _, .non => some false
  | .non, .str _ => some false
  | .str _, .non => some false
  | .int _, .str _ => some false
  | .str _, .int _ => some false
  | .bl _, .str _ => some false
  | .str _, .bl _ => some false
  | _, _ => none
def eqB (x y : Dat) : Option Bool := match scEq x y with
  | some b => some b
  | none => if okEq x && okEq y then some (PyData.eqv x.py y.py) else none
@[simp] def eqD (x y : Dat) : Option Dat := (eqB x y).map .bl
@[simp] def neD (x y : Dat) : Option Dat := (eqB x y).map fun b => .bl (!b)
theorem scEq_some {k : KC} {B : Hp} {x y : Dat} {v u : V} {b : Bool} (h : scEq x y = some b) (rx : Rep k B x v) (ry : Rep k B y u) : scal v u = true ∧ decide (v = u) = b := by
  cases x <;> cases y <;> simp only [scEq] at h <;> first
    | (cases h; done)
    | (simp only [Rep] at rx ry
       subst rx ry
       cases h
       refine ⟨rfl, ?_⟩
       simp)
section
variable {k : KC} {X : Cx} {pos : Pos} {a b c : Expr} {fa fb fc : List OT → Option Dat}
theorem rd_eq : RD k (fun x y H Q => rEq x y H Q ∨ rEqD k.K x y H Q) eqD := by
  intro B H x y d v u Q hs rx ry e q
  unfold eqD eqB at e
  split at e
  · rename_i b hb
    simp only [Option.map_some] at e
    cases e
    obtain ⟨h1, h2⟩ := scEq_some hb rx ry
    refine .inl ⟨h1, ?_⟩
    rw [h2]
    exact q _ B H .refl (by simp only [Rep])
  · split at e
    · rename_i z
      simp only [Option.map_some] at e
      cases e
      rw [Bool.and_eq_true, okEq, okEq, Bool.and_eq_true, Bool.and_eq_true] at z
      exact .inr ⟨x.py, y.py, dp_mono hs (rx.dp z.1.1), dp_mono hs (ry.dp z.2.1), z.1.2, z.2.2, q _ B H .refl (by simp only [Rep])⟩
    · cases e
theorem rd_ne : RD k (fun x y H Q => rNe x y H Q ∨ rNeD k.K x y H Q) neD := by
  intro B H x y d v u Q hs rx ry e q
  unfold neD eqB at e
  split at e
  · rename_i b hb
    simp only [Option.map_some] at e
    cases e
    obtain ⟨h1, h2⟩ := scEq_some hb rx ry
    refine .inl ⟨h1, ?_⟩
    rw [h2]
    exact q _ B H .refl (by simp only [Rep])
  · split at e
    · rename_i z
      simp only [Option.map_some] at e
      cases e
      rw [Bool.and_eq_true, okEq, okEq, Bool.and_eq_true, Bool.and_eq_true] at z
      exact .inr ⟨x.py, y.py, dp_mono hs (rx.dp z.1.1), dp_mono hs (ry.dp z.2.1), z.1.2, z.2.2, q _ B H .refl (by simp only [Rep])⟩
    · cases e
theorem d_eq (hk : X.K = k.K) (hu : X.A.units + 64 < cLine) (ha : PE X a (tD k fa)) (hb : PE X b (tD k fb)) : PE X (.Compare a [.Eq] [b] pos) (tD k (bin eqD fa fb)) := d_cmp (op_eq.or (hk ▸ op_eqD hu)) rd_eq ha hb (nomark _)
theorem d_ne (hk : X.K = k.K) (hu : X.A.units + 64 < cLine) (ha : PE X a (tD k fa)) (hb : PE X b (tD k fb)) : PE X (.Compare a [.NotEq] [b] pos) (tD k (bin neD fa fb)) := d_cmp (op_ne.or (hk ▸ op_neD hu)) rd_ne ha hb (nomark _)
theorem t_eq (hk : X.K = k.K) (hu : X.A.units + 64 < cLine) (ha : PE X a (tD k fa)) (hb : PE X b (tD k fb)) : PT X (.Compare a [.Eq] [b] pos) (tT k (tst (bin eqD fa fb))) := t_cmp (op_eq.or (hk ▸ op_eqD hu)) rd_eq ha hb (nomark _)
theorem t_ne (hk : X.K = k.K) (hu : X.A.units + 64 < cLine) (ha : PE X a (tD k fa)) (hb : PE X b (tD k fb)) : PT X (.Compare a [.NotEq] [b] pos) (tT k (tst (bin neD fa fb))) := t_cmp (op_ne.or (hk ▸ op_neD hu)) rd_ne ha hb (nomark _)
/-! ### is None -/
@[simp] def isN (f : List OT → Option Dat) : List OT → Option Dat := fun e => match f e with
  | none => none
  | some .non => some (.bl true)
  | some _ => some (.bl false)
@[simp] def isNN (f : List OT → Option Dat) : List OT → Option Dat := fun e => match f e with
  | none => none
  | some .non => some (.bl false)
  | some _ => some (.bl true)
theorem rep_non {B : Hp} {d : Dat} {v : V} (r : Rep k B d v) : (v = .non ↔ d = .non) := by
  cases d <;> simp only [Rep] at r <;> first
    | (subst r; simp; done)
    | (obtain ⟨_, _, _, rfl, _⟩ := r; simp; done)
    | (obtain ⟨_, _, rfl, _⟩ := r; simp; done)
theorem isN_read {σ : L2.St} {H : Hp} {Q : VK} (h : tD k (isN fa) σ H Q) : tD k fa σ H fun x H1 => Q (.bl (decide (x = .non))) H1 := by
  obtain ⟨G, B, w, env, d, S, h, q⟩ := h
  cases e : fa env with
  | none => simp [isN, e] at h
  | some x =>
    refine ⟨G, B, w, env, x, S, e, fun v B' H' S' m r => q _ B' H' S' m ?_⟩
    have z := rep_non r
    cases x <;> simp [isN, e] at h <;> subst h <;> simp only [Rep] <;> simp [z]
theorem isNN_read {σ : L2.St} {H : Hp} {Q : VK} (h : tD k (isNN fa) σ H Q) : tD k fa σ H fun x H1 => Q (.bl (!decide (x = .non))) H1 := by
  obtain ⟨G, B, w, env, d, S, h, q⟩ := h
  cases e : fa env with
  | none => simp [isNN, e] at h
  | some x =>
    refine ⟨G, B, w, env, x, S, e, fun v B' H' S' m r => q _ B' H' S' m ?_⟩
    have z := rep_non r
    cases x <;> simp [isNN, e] at h <;> subst h <;> simp only [Rep] <;> simp [z]
theorem d_isN {j pos'} (ha : PE X a (tD k fa)) : PE X (.Compare a [.Is] [.Constant .none j pos'] pos) (tD k (isN fa)) := pe_imp (pe_cmp (pc_isN ha)) fun _ _ _ h => isN_read h
theorem d_isNN {j pos'} (ha : PE X a (tD k fa)) : PE X (.Compare a [.IsNot] [.Constant .none j pos'] pos) (tD k (isNN fa)) := pe_imp (pe_cmp (pc_notN ha)) fun _ _ _ h => isNN_read h
theorem t_of {f : List OT → Option Dat} {σ : L2.St} {H : Hp} {Q : Bool → Hp → Prop} (h : tT k (tst f) σ H Q) : tD k f σ H fun x H1 => ∃ c, x = .bl c ∧ Q c H1 := by
  obtain ⟨G, B, w, env, d, S, h, q⟩ := h
  refine ⟨G, B, w, env, _, S, tst_some h, fun v B' H' S' m r => ?_⟩
  simp only [Rep] at r
  exact ⟨d, r, q B' H' S' m⟩
theorem t_isN {j pos'} (ha : PE X a (tD k fa)) : PT X (.Compare a [.Is] [.Constant .none j pos'] pos) (tT k (tst (isN fa))) := pt_imp (pt_cmp (pc_isN ha)) fun _ _ _ h => isN_read (t_of h)
theorem t_isNN {j pos'} (ha : PE X a (tD k fa)) : PT X (.Compare a [.IsNot] [.Constant .none j pos'] pos) (tT k (tst (isNN fa))) := pt_imp (pt_cmp (pc_notN ha)) fun _ _ _ h => isNN_read (t_of h)

/-! ### not, and, or, if -/
@[simp] def notB (f : List OT → Option Bool) : List OT → Option Bool := fun e => (f e).map (!·)
@[simp] def andB (f g : List OT → Option Bool) : List OT → Option Bool := fun e => match f e with
  | none => none
  | some true => g e
  | some false => some false
@[simp] def orB (f g : List OT → Option Bool) : List OT → Option Bool := fun e => match f e with
  | none => none
  | some true => some true
  | some false => g e
/-- a test's value -/
@[simp] def bv (f : List OT → Option Bool) : List OT → Option Dat := fun e => (f e).map .bl
variable {ga gb : List OT → Option Bool} {rest : List Expr}
theorem t_not (ha : PT X a (tT k ga)) : PT X (.UnaryOp .Not a pos) (tT k (notB ga)) := pt_imp (pt_not ha) fun σ H Q ⟨G, B, w, env, d, S, h, q⟩ => by
  cases e : ga env with
  | none => simp [notB, e] at h
  | some x =>
    have h' : (!x) = d := by simpa [notB, e] using h
    subst h'
    exact ⟨G, B, w, env, x, S, e, q⟩
theorem and_read {σ : L2.St} {H : Hp} {Q : Bool → Hp → Prop} (h : tT k (andB ga gb) σ H Q) : tT k ga σ H fun c H1 => if c = true then tT k gb σ H1 Q else Q false H1 := by
  obtain ⟨G, B, w, env, d, S, h, q⟩ := h
  cases e : ga env with
  | none => simp [andB, e] at h
  | some x =>
    refine ⟨G, B, w, env, x, S, e, fun B' H' S' m => ?_⟩
    cases x with
    | true =>
      simp [andB, e] at h
      exact iteT ⟨G, B', w, env, d, S', h, fun B2 H2 S2 m2 => q B2 H2 S2 (m.trans m2)⟩
    | false =>
      simp [andB, e] at h
      subst h
      exact iteF (q B' H' S' m)
theorem or_read {σ : L2.St} {H : Hp} {Q : Bool → Hp → Prop} (h : tT k (orB ga gb) σ H Q) : tT k ga σ H fun c H1 => if c = true then Q true H1 else tT k gb σ H1 Q := by
  obtain ⟨G, B, w, env, d, S, h, q⟩ := h
  cases e : ga env with
  | none => simp [orB, e] at h
  | some x =>
    refine ⟨G, B, w, env, x, S, e, fun B' H' S' m => ?_⟩
    cases x with
    | false =>
      simp [orB, e] at h
      exact iteF ⟨G, B', w, env, d, S', h, fun B2 H2 S2 m2 => q B2 H2 S2 (m.trans m2)⟩
    | true =>
      simp [orB, e] at h
      subst h
      exact iteT (q B' H' S' m)
theorem w_and1 (ha : PT X a (tT k ga)) : PW X (.BoolOp .And [a] pos) (tT k ga) := pw_and1 ha
theorem w_or1 (ha : PT X a (tT k ga)) : PW X (.BoolOp .Or [a] pos) (tT k ga) := pw_or1 ha
theorem w_and (ha : PT X a (tT k ga)) (hb : PW X (.BoolOp .And (b :: rest) pos) (tT k gb)) : PW X (.BoolOp .And (a :: b :: rest) pos) (tT k (andB ga gb)) := pw_imp (pw_and ha hb) fun _ _ _ h => and_read h
theorem w_or (ha : PT X a (tT k ga)) (hb : PW X (.BoolOp .Or (b :: rest) pos) (tT k gb)) : PW X (.BoolOp .Or (a :: b :: rest) pos) (tT k (orB ga gb)) := pw_imp (pw_or ha hb) fun _ _ _ h => or_read h
/-- as values: each part a bool -/
theorem v_one {op} (h : PE X a (tD k (bv ga))) : PE X (.BoolOp op [a] pos) (tD k (bv ga)) := pe_one h
theorem bv_read {f : List OT → Option Bool} {σ : L2.St} {H : Hp} {Q : VK} (h : tD k (bv f) σ H Q) : tT k f σ H fun b H1 => Q (.bl b) H1 := by
  obtain ⟨G, B, w, env, d, S, h, q⟩ := h
  cases e : f env with
  | none => simp [bv, e] at h
  | some x =>
    simp [bv, e] at h
    subst h
    exact ⟨G, B, w, env, x, S, e, fun B' H' S' m => q _ B' H' S' m (by simp only [Rep])⟩
theorem bv_of {f : List OT → Option Bool} {σ : L2.St} {H : Hp} {Q : VK} (h : tT k f σ H fun b H1 => Q (.bl b) H1) : tD k (bv f) σ H Q := by
  obtain ⟨G, B, w, env, d, S, h, q⟩ := h
  refine ⟨G, B, w, env, .bl d, S, by simp [bv, h], fun v B' H' S' m r => ?_⟩
  simp only [Rep] at r
  subst r
  exact q B' H' S' m
theorem v_and (ha : PE X a (tD k (bv ga))) (hb : PE X (.BoolOp .And (b :: rest) pos) (tD k (bv gb))) : PE X (.BoolOp .And (a :: b :: rest) pos) (tD k (bv (andB ga gb))) :=
  pe_imp (pe_and ha hb) fun σ H Q h => by
    have q := and_read (bv_read h)
    obtain ⟨G, B, w, env, d, S, h, q⟩ := q
    refine ⟨G, B, w, env, .bl d, S, by simp [bv, h], fun v B' H' S' m r => ?_⟩
    simp only [Rep] at r
    refine ⟨d, r, ?_⟩
    have z := q B' H' S' m
    cases d with
    | true => exact iteT (bv_of (by simpa using z))
    | false => exact iteF (by simpa using z)
theorem v_or (ha : PE X a (tD k (bv ga))) (hb : PE X (.BoolOp .Or (b :: rest) pos) (tD k (bv gb))) : PE X (.BoolOp .Or (a :: b :: rest) pos) (tD k (bv (orB ga gb))) :=
  pe_imp (pe_or ha hb) fun σ H Q h => by
    have q := or_read (bv_read h)
    obtain ⟨G, B, w, env, d, S, h, q⟩ := q
    refine ⟨G, B, w, env, .bl d, S, by simp [bv, h], fun v B' H' S' m r => ?_⟩
    simp only [Rep] at r
    refine ⟨d, r, ?_⟩
    have z := q B' H' S' m
    cases d with
    | true => exact iteT (by simpa using z)
    | false => exact iteF (bv_of (by simpa using z))
theorem v_not (ha : PE X a (tD k (bv ga))) : PE X (.UnaryOp .Not a pos) (tD k (bv (notB ga))) :=
  pe_imp (pe_not ha) fun σ H Q h => by
    obtain ⟨G, B, w, env, d, S, h, q⟩ := bv_read h
    cases e : ga env with
    | none => simp [notB, e] at h
    | some x =>
      have h' : (!x) = d := by simpa [notB, e] using h
      subst h'
      refine ⟨G, B, w, env, .bl x, S, by simp [bv, e], fun v B' H' S' m r => ?_⟩
      simp only [Rep] at r
      exact ⟨x, r, q B' H' S' m⟩
/-- any expression that comes to a bool, as a value among and, or -/
theorem v_val (h : PE X a (tD k fa)) : PE X a (tD k (bv (tst fa))) := pe_imp h fun σ H Q ⟨G, B, w, env, d, S, h, q⟩ => by
  cases e : fa env with
  | none => simp [bv, tst, e] at h
  | some x =>
    cases x <;> simp [bv, tst, e] at h
    subst h
    exact ⟨G, B, w, env, _, S, e, q⟩
@[simp] def ifD (g : List OT → Option Bool) (fa fb : List OT → Option Dat) : List OT → Option Dat := fun e => match g e with
  | none => none
  | some true => fa e
  | some false => fb e
theorem d_if (hc : PT X c (tT k ga)) (ha : PE X a (tD k fa)) (hb : PE X b (tD k fb)) : PE X (.IfExp c a b pos) (tD k (ifD ga fa fb)) := pe_imp (pe_ifExp hc ha hb) fun σ H Q ⟨G, B, w, env, d, S, h, q⟩ => by
  cases e : ga env with
  | none => simp [ifD, e] at h
  | some x =>
    refine ⟨G, B, w, env, x, S, e, fun B' H' S' m => ?_⟩
    cases x with
    | true =>
      simp [ifD, e] at h
      exact iteT ⟨G, B', w, env, d, S', h, fun v B2 H2 S2 m2 => q v B2 H2 S2 (m.trans m2)⟩
    | false =>
      simp [ifD, e] at h
      exact iteF ⟨G, B', w, env, d, S', h, fun v B2 H2 S2 m2 => q v B2 H2 S2 (m.trans m2)⟩

/-! ### items -/
def ixD : Dat → Dat → Option Dat
  | .lst xs, .int i => atI xs i
  | .tup xs, .int i => atI xs i
  | .str x, .int i => if x.length ≤ 16000000 then (atI x.cps.toList i).map fun c => .str ⟨#[c]⟩ else none
  | _, _ => none
theorem atI_rep {B : Hp} {xs : List Dat} {vs : List V} {i : Int} {d : Dat} (r : Reps k B xs vs) (h : atI xs i = some d) : ∃ v, atI vs i = some v ∧ Rep k B d v := by
  unfold atI at h ⊢
  rw [← r.length]
  cases e : ixN xs.length i with
  | none => simp [e] at h
  | some j =>
    simp [e] at h
    obtain ⟨v, hv, q⟩ := r.get h
    exact ⟨v, by simpa using hv, q⟩
theorem rd_ix : RD k (rIx k.K) ixD := by
  intro B H x y d v u Q hs rx ry e q
  cases x <;> cases y <;> simp only [ixD] at e <;> first
    | (cases e; done)
    | skip
  · rename_i x i
    split at e
    · rename_i hl
      cases h : atI x.cps.toList i with
      | none => simp [h] at e
      | some c =>
        simp [h] at e
        subst e
        simp only [Rep] at rx ry
        subst rx ry
        exact .inr (.inr ⟨x, i, c, rfl, rfl, sl16 hl, h, q _ B H .refl (by simp only [Rep])⟩)
    · cases e
  · rename_i xs i
    simp only [Rep] at rx ry
    obtain ⟨p, vs, rfl, hq, hr⟩ := rx
    subst ry
    obtain ⟨w, hw, r⟩ := atI_rep hr e
    exact .inr (.inl ⟨p, vs, i, w, rfl, rfl, sqT_mono hs hq, hw, q _ B H .refl r⟩)
  · rename_i xs i
    simp only [Rep] at rx ry
    obtain ⟨p, vs, rfl, hq, hr⟩ := rx
    subst ry
    obtain ⟨w, hw, r⟩ := atI_rep hr e
    exact .inl ⟨p, vs, i, w, rfl, rfl, sqR hs hq, hw, q _ B H .refl r⟩
theorem d_ix (hk : X.K = k.K) (ha : PE X a (tD k fa)) (hb : PE X b (tD k fb)) (hs : PlainIx b := by exact fun _ _ => rfl) : PE X (.Subscript a b pos) (tD k (bin ixD fa fb)) :=
  pe_imp (pe_ix (hk ▸ ix_seq) ha hb hs) fun _ _ _ h => op_read rd_ix h

/-! ### arguments, displays -/
@[simp] def nilA : List OT → Option (List Dat) := fun _ => some []
@[simp] def consA (f : List OT → Option Dat) (g : List OT → Option (List Dat)) : List OT → Option (List Dat) := fun e => match f e with
  | none => none
  | some d => match g e with
    | none => none
    | some ds => some (d :: ds)
variable {es : List Expr} {fs : List OT → Option (List Dat)}
theorem a_nil : PA X [] (tA k nilA) := pa_imp pa_nil fun σ H Q ⟨G, B, w, env, d, S, h, q⟩ => by
  cases h
  exact q [] B H S .refl .nil
theorem consA_some {f : List OT → Option Dat} {g : List OT → Option (List Dat)} {e : List OT} {r : List Dat} (h : consA f g e = some r) : ∃ d ds, f e = some d ∧ g e = some ds ∧ r = d :: ds := by
  unfold consA at h
  split at h
  · cases h
  · rename_i x hx
    split at h
    · cases h
    · rename_i y hy
      cases h
      exact ⟨x, y, hx, hy, rfl⟩
theorem cons_read {σ : L2.St} {H : Hp} {Q : List V → Hp → Prop} (h : tA k (consA fa fs) σ H Q) : tCons (tD k fa) (tA k fs) σ H Q := by
  obtain ⟨G, B, w, env, d, S, h, q⟩ := h
  obtain ⟨x, xs, hx, hxs, rfl⟩ := consA_some h
  exact ⟨G, B, w, env, x, S, hx, fun v B1 H1 S1 m1 r1 => ⟨G, B1, w, env, xs, S1, hxs, fun vs B2 H2 S2 m2 r2 => q _ B2 H2 S2 (m1.trans m2) (.cons (r1.mono m2.1) r2)⟩⟩
theorem a_cons {e : Expr} (ha : PE X e (tD k fa)) (hr : PA X es (tA k fs)) (hs : starEach (e :: es) X.env = (false, eval e X.env) :: starEach es X.env := by rfl) : PA X (e :: es) (tA k (consA fa fs)) :=
  pa_imp (pa_cons ha hr hs) fun σ H Q h => cons_read h
@[simp] def tupD (fs : List OT → Option (List Dat)) : List OT → Option Dat := fun e => match fs e with
  | none => none
  | some ds => if ds.length ≤ 16000000 then some (.tup ds) else none
@[simp] def lstD (fs : List OT → Option (List Dat)) : List OT → Option OT := fun e => match fs e with
  | none => none
  | some ds => if ds.length ≤ 16000000 then some (.lst (ds.map .sh)) else none
theorem d_tup {x1} (h : PA X es (tA k fs)) : PE X (.Tuple es x1 pos) (tD k (tupD fs)) := pe_imp (pe_tup h) fun σ H Q ⟨G, B, w, env, d, S, h, q⟩ => by
  cases e : fs env with
  | none => simp [tupD, e] at h
  | some ds =>
    simp only [tupD, e] at h
    split at h
    · rename_i hl
      cases h
      refine ⟨G, B, w, env, ds, S, e, fun vs B1 H1 S1 m r => ⟨by rw [← r.length]; exact sl16 hl, fun p hp => ?_⟩⟩
      refine q _ _ _ (S1.new hp) (m.trans ⟨same_new S1.bh hp, same_newH hp⟩) ?_
      simp only [Rep]
      exact ⟨p, vs, rfl, .of upd_same, r.mono (same_new S1.bh hp)⟩
    · cases h
theorem OReps_sh {B H : Hp} {w : WM} {π : List Nat} : ∀ {n : Nat} {ds : List Dat} {vs : List V}, Reps k B ds vs → OReps k B H w π n (ds.map .sh) vs
  | n, [], vs, h => by
    simp only [Reps] at h
    simpa only [List.map_nil, OReps] using h
  | n, d :: ds, vs, h => by
    simp only [Reps] at h
    obtain ⟨v, r, rfl, h1, h2⟩ := h
    simp only [List.map_cons, OReps, ORep]
    exact ⟨v, r, rfl, h1, OReps_sh h2⟩
theorem lst_new {G : Gh} {B H : Hp} {w : WM} {σ : L2.St} {env : List OT} {p : Addr} {ds : List Dat} {vs : List V} (S : Sta k G B H w σ env) (hp : H p = none) (r : Reps k B ds vs) :
    Sta k G B (upd H p (.lst vs)) w σ env ∧ Vt k G B (upd H p (.lst vs)) w (fun a => if a = p then some [] else none) (.lst (ds.map .sh)) (.ref p) := by
  refine ⟨S.ext hp, fun a h => ?_, ?_, rfl⟩
  · have e : a = p := by
      by_cases z : a = p
      · exact z
      · simp [z] at h
    subst e
    obtain ⟨x, y, z⟩ := S.nob hp
    exact ⟨x, y, (by rw [upd_same]; exact fun z => by cases z), z⟩
  · simp only [ORep]
    exact ⟨p, vs, rfl, upd_same, by simp, OReps_sh r⟩
theorem f_lst (h : PA X es (tA k fs)) : PE X (.List es pos) (tF k (lstD fs)) := pe_imp (pe_lst h) fun σ H Q ⟨G, B, w, env, d, S, h, q⟩ => by
  cases e : fs env with
  | none => simp [lstD, e] at h
  | some ds =>
    simp only [lstD, e] at h
    split at h
    · rename_i hl
      cases h
      refine ⟨G, B, w, env, ds, S, e, fun vs B1 H1 S1 m r => ⟨by rw [← r.length]; exact sl16 hl, fun p hp => ?_⟩⟩
      obtain ⟨S2, r2⟩ := lst_new S1 hp r
      exact q _ _ _ _ S2 r2 (m.trans ⟨.refl _, same_newH hp⟩)
    · cases h
/-- what is one's own, as shared -/
@[simp] def mlt (f : List OT → Option OT) : List OT → Option Dat := fun e => match f e with
  | none => none
  | some o => if o.ok then some o.dat else none
theorem d_mlt {f : List OT → Option OT} (h : PE X a (tF k f)) : PE X a (tD k (mlt f)) := pe_imp h fun σ H Q ⟨G, B, w, env, d, S, h, q⟩ => by
  cases e : f env with
  | none => simp [mlt, e] at h
  | some o =>
    simp only [mlt, e] at h
    split at h
    · rename_i z
      cases h
      refine ⟨G, B, w, env, o, S, e, fun v B' H' w1 S' T m => ?_⟩
      obtain ⟨S2, r2⟩ := T.melt S' z
      exact q v _ H' S2 ⟨m.1.trans (same_put S'.bh), m.2⟩ r2
    · cases h
end
end DL
namespace DL
open PySem L2
section
variable {k : KC} {X : Cx} {pos p0 : Pos} {a b c : Expr} {fa fb fc : List OT → Option Dat} {es : List Expr} {fs : List OT → Option (List Dat)}
/-! ### built-ins by name -/
@[simp] def cal (g : List Dat → Option Dat) (fs : List OT → Option (List Dat)) : List OT → Option Dat := fun e => match fs e with
  | none => none
  | some ds => g ds
@[simp] def calF (g : List Dat → Option (List Dat)) (fs : List OT → Option (List Dat)) : List OT → Option OT := fun e => match fs e with
  | none => none
  | some ds => match g ds with
    | none => none
    | some r => some (.lst (r.map .sh))
def RC (k : KC) (r : List V → Hp → VK → Prop) (g : List Dat → Option Dat) : Prop := ∀ (B H : Hp) (ds : List Dat) (d : Dat) (vs : List V) (Q : VK), Same B H → Reps k B ds vs → g ds = some d →
  (∀ v' B' H', Grow B H B' H' → Rep k B' d v' → Q v' H') → r vs H Q
def RCF (k : KC) (r : List V → Hp → VK → Prop) (g : List Dat → Option (List Dat)) : Prop := ∀ (B H : Hp) (ds rs : List Dat) (vs : List V) (Q : VK), Same B H → Reps k B ds vs → g ds = some rs →
  (∀ p us, H p = none → Reps k B rs us → Q (.ref p) (upd H p (.lst us))) → r vs H Q
theorem cal_read {r : List V → Hp → VK → Prop} {g : List Dat → Option Dat} (hr : RC k r g) {σ : L2.St} {H : Hp} {Q : VK} (h : tD k (cal g fs) σ H Q) : tCB r (tA k fs) σ H Q := by
  obtain ⟨G, B, w, env, d, S, h, q⟩ := h
  cases e : fs env with
  | none => simp [cal, e] at h
  | some ds =>
    simp only [cal, e] at h
    exact ⟨G, B, w, env, ds, S, e, fun vs B1 H1 S1 m r1 => hr B1 H1 ds d vs Q S1.bh r1 h fun v' B' H' gr r3 => q v' B' H' (S1.grow gr) (m.trans (gr.all S1.bh).2) r3⟩
theorem calF_read {r : List V → Hp → VK → Prop} {g : List Dat → Option (List Dat)} (hr : RCF k r g) {σ : L2.St} {H : Hp} {Q : VK} (h : tF k (calF g fs) σ H Q) : tCB r (tA k fs) σ H Q := by
  obtain ⟨G, B, w, env, d, S, h, q⟩ := h
  cases e : fs env with
  | none => simp [calF, e] at h
  | some ds =>
    simp only [calF, e] at h
    cases e2 : g ds with
    | none => simp [e2] at h
    | some rs =>
      simp only [e2] at h
      cases h
      refine ⟨G, B, w, env, ds, S, e, fun vs B1 H1 S1 m r1 => hr B1 H1 ds rs vs Q S1.bh r1 e2 fun p us hp r3 => ?_⟩
      obtain ⟨S2, T2⟩ := lst_new S1 hp r3
      exact q _ _ _ _ S2 T2 (m.trans ⟨.refl _, same_newH hp⟩)
theorem d_cb {id : String} {x : Str} {e : Expr} {r : List V → Hp → VK → Prop} {g : List Dat → Option Dat} (hc : CallR X (.builtin id) r) (hr : RC k r g) (hm : X.mg x = none) (hv : bootBuiltins x = some (.builtin id)) (ha : PA X (e :: es) (tA k fs)) (hg : Gl X x := by rfl) (hn : x ≠ "__name__" := by decide) (hdb : (x == ("__debug__" : Str)) = false := by decide)
    (he : starEach (e :: es) X.env = (false, eval e X.env) :: starEach es X.env := by rfl) (hpl : (backTo pos (starEach es X.env)).any (·.1) = false := by rfl) : PE X (.Call (.Name x p0) (e :: es) [] pos) (tD k (cal g fs)) :=
  pe_imp (pe_callB hc hg hm hv ha hn hdb he hpl) fun _ _ _ h => cal_read hr h
theorem d_ct {T : String} {x : Str} {e : Expr} {r : List V → Hp → VK → Prop} {g : List Dat → Option Dat} (hc : CallR X (.type T) r) (hr : RC k r g) (hm : X.mg x = none) (hv : bootBuiltins x = some (.type T)) (ha : PA X (e :: es) (tA k fs)) (hg : Gl X x := by rfl) (hn : x ≠ "__name__" := by decide) (hdb : (x == ("__debug__" : Str)) = false := by decide)
    (he : starEach (e :: es) X.env = (false, eval e X.env) :: starEach es X.env := by rfl) (hpl : (backTo pos (starEach es X.env)).any (·.1) = false := by rfl) : PE X (.Call (.Name x p0) (e :: es) [] pos) (tD k (cal g fs)) :=
  pe_imp (pe_callTy hc hg hm hv ha hn hdb he hpl) fun _ _ _ h => cal_read hr h
theorem f_ct {T : String} {x : Str} {e : Expr} {r : List V → Hp → VK → Prop} {g : List Dat → Option (List Dat)} (hc : CallR X (.type T) r) (hr : RCF k r g) (hm : X.mg x = none) (hv : bootBuiltins x = some (.type T)) (ha : PA X (e :: es) (tA k fs)) (hg : Gl X x := by rfl) (hn : x ≠ "__name__" := by decide) (hdb : (x == ("__debug__" : Str)) = false := by decide)
    (he : starEach (e :: es) X.env = (false, eval e X.env) :: starEach es X.env := by rfl) (hpl : (backTo pos (starEach es X.env)).any (·.1) = false := by rfl) : PE X (.Call (.Name x p0) (e :: es) [] pos) (tF k (calF g fs)) :=
  pe_imp (pe_callTy hc hg hm hv ha hn hdb he hpl) fun _ _ _ h => calF_read hr h
theorem f_cb {id : String} {x : Str} {e : Expr} {r : List V → Hp → VK → Prop} {g : List Dat → Option (List Dat)} (hc : CallR X (.builtin id) r) (hr : RCF k r g) (hm : X.mg x = none) (hv : bootBuiltins x = some (.builtin id)) (ha : PA X (e :: es) (tA k fs)) (hg : Gl X x := by rfl) (hn : x ≠ "__name__" := by decide) (hdb : (x == ("__debug__" : Str)) = false := by decide)
    (he : starEach (e :: es) X.env = (false, eval e X.env) :: starEach es X.env := by rfl) (hpl : (backTo pos (starEach es X.env)).any (·.1) = false := by rfl) : PE X (.Call (.Name x p0) (e :: es) [] pos) (tF k (calF g fs)) :=
  pe_imp (pe_callB hc hg hm hv ha hn hdb he hpl) fun _ _ _ h => calF_read hr h

def lenD : List Dat → Option Dat
  | [.lst xs] => some (.int xs.length)
  | [.tup xs] => some (.int xs.length)
  | [.str x] => if x.length ≤ 16000000 then some (.int x.length) else none
  | _ => none
theorem reps1 {B : Hp} {d : Dat} {vs : List V} (h : Reps k B [d] vs) : ∃ v, vs = [v] ∧ Rep k B d v := by
  simp only [Reps] at h
  obtain ⟨v, r, rfl, h1, rfl⟩ := h
  exact ⟨v, rfl, h1⟩
theorem reps2 {B : Hp} {d e : Dat} {vs : List V} (h : Reps k B [d, e] vs) : ∃ v u, vs = [v, u] ∧ Rep k B d v ∧ Rep k B e u := by
  simp only [Reps] at h
  obtain ⟨v, r, rfl, h1, u, r', rfl, h2, rfl⟩ := h
  exact ⟨v, u, rfl, h1, h2⟩
theorem rc_len : RC k (fun xs H Q => ∃ x n, xs = [x] ∧ LenV k.K x H n ∧ Q (.int n) H) lenD := by
  intro B H ds d vs Q hs r e q
  unfold lenD at e
  split at e
  · rename_i xs
    cases e
    obtain ⟨v, rfl, rv⟩ := reps1 r
    simp only [Rep] at rv
    obtain ⟨p, vs, rfl, h1, h2⟩ := rv
    exact ⟨_, _, rfl, .inl ⟨vs, sqR hs h1, rfl⟩, q _ B H .refl (by simp only [Rep]; rw [h2.length])⟩
  · rename_i xs
    cases e
    obtain ⟨v, rfl, rv⟩ := reps1 r
    simp only [Rep] at rv
    obtain ⟨p, vs, rfl, h1, h2⟩ := rv
    exact ⟨_, _, rfl, .inr ⟨vs, sqT_mono hs h1, rfl⟩, q _ B H .refl (by simp only [Rep]; rw [h2.length])⟩
  · split at e
    · rename_i hl
      cases e
      obtain ⟨v, rfl, rv⟩ := reps1 r
      simp only [Rep] at rv
      subst rv
      exact ⟨_, _, rfl, ⟨sl16 hl, rfl⟩, q _ B H .refl (by simp only [Rep])⟩
    · cases e
  · cases e
theorem d_len {e : Expr} (hk : X.K = k.K) (hm : X.mg "len" = none) (ha : PA X [e] (tA k fs)) (hg : Gl X "len" := by rfl) (he : starEach [e] X.env = (false, eval e X.env) :: starEach [] X.env := by rfl) (hpl : (backTo pos (starEach [] X.env)).any (·.1) = false := by rfl) : PE X (.Call (.Name "len" p0) [e] [] pos) (tD k (cal lenD fs)) :=
  d_cb (hk ▸ call_len) rc_len hm boot_len ha hg (by decide) (by decide) he hpl
@[simp] def absD : List Dat → Option Dat
  | [.int i] => some (.int (if i < 0 then -i else i))
  | _ => none
theorem rc_abs : RC k (fun xs H Q => ∃ i, xs = [.int i] ∧ Q (.int (if i < 0 then -i else i)) H) absD := by
  intro B H ds d vs Q hs r e q
  unfold absD at e
  split at e
  · cases e
    obtain ⟨v, rfl, rv⟩ := reps1 r
    simp only [Rep] at rv
    subst rv
    exact ⟨_, rfl, q _ B H .refl (by simp only [Rep])⟩
  · cases e
theorem d_abs {e : Expr} (hm : X.mg "abs" = none) (ha : PA X [e] (tA k fs)) (hg : Gl X "abs" := by rfl) (he : starEach [e] X.env = (false, eval e X.env) :: starEach [] X.env := by rfl) (hpl : (backTo pos (starEach [] X.env)).any (·.1) = false := by rfl) : PE X (.Call (.Name "abs" p0) [e] [] pos) (tD k (cal absD fs)) :=
  d_cb call_abs rc_abs hm (by decide +kernel) ha hg (by decide) (by decide) he hpl
@[simp] def max2D : List Dat → Option Dat
  | [.int i, .int j] => some (.int (if j > i then j else i))
  | _ => none
@[simp] def min2D : List Dat → Option Dat
  | [.int i, .int j] => some (.int (if j < i then j else i))
  | _ => none
theorem rc_max2 : RC k (fun xs H Q => ∃ i j, xs = [.int i, .int j] ∧ Q (.int (if j > i then j else i)) H) max2D := by
  intro B H ds d vs Q hs r e q
  unfold max2D at e
  split at e
  · cases e
    obtain ⟨v, u, rfl, rv, ru⟩ := reps2 r
    simp only [Rep] at rv ru
    subst rv ru
    exact ⟨_, _, rfl, q _ B H .refl (by simp only [Rep])⟩
  · cases e
theorem rc_min2 : RC k (fun xs H Q => ∃ i j, xs = [.int i, .int j] ∧ Q (.int (if j < i then j else i)) H) min2D := by
  intro B H ds d vs Q hs r e q
  unfold min2D at e
  split at e
  · cases e
    obtain ⟨v, u, rfl, rv, ru⟩ := reps2 r
    simp only [Rep] at rv ru
    subst rv ru
    exact ⟨_, _, rfl, q _ B H .refl (by simp only [Rep])⟩
  · cases e
theorem d_max2 {e e2 : Expr} (hc : X.calm = true) (hm : X.mg "max" = none) (ha : PA X [e, e2] (tA k fs)) (hg : Gl X "max" := by rfl) (he : starEach [e, e2] X.env = (false, eval e X.env) :: starEach [e2] X.env := by rfl) (hpl : (backTo pos (starEach [e2] X.env)).any (·.1) = false := by rfl) : PE X (.Call (.Name "max" p0) [e, e2] [] pos) (tD k (cal max2D fs)) :=
  d_cb (call_max2 hc) rc_max2 hm (by decide +kernel) ha hg (by decide) (by decide) he hpl
theorem d_min2 {e e2 : Expr} (hc : X.calm = true) (hm : X.mg "min" = none) (ha : PA X [e, e2] (tA k fs)) (hg : Gl X "min" := by rfl) (he : starEach [e, e2] X.env = (false, eval e X.env) :: starEach [e2] X.env := by rfl) (hpl : (backTo pos (starEach [e2] X.env)).any (·.1) = false := by rfl) : PE X (.Call (.Name "min" p0) [e, e2] [] pos) (tD k (cal min2D fs)) :=
  d_cb (call_min2 hc) rc_min2 hm (by decide +kernel) ha hg (by decide) (by decide) he hpl
@[simp] def intD : List Dat → Option Dat
  | [.int i] => some (.int i)
  | [.bl b] => some (.int (if b then 1 else 0))
  | _ => none
theorem rc_int : RC k (fun xs H Q => (∃ i, xs = [.int i] ∧ Q (.int i) H) ∨ ∃ k, xs = [.bl k] ∧ Q (.int (if k then 1 else 0)) H) intD := by
  intro B H ds d vs Q hs r e q
  unfold intD at e
  split at e
  · cases e
    obtain ⟨v, rfl, rv⟩ := reps1 r
    simp only [Rep] at rv
    subst rv
    exact .inl ⟨_, rfl, q _ B H .refl (by simp only [Rep])⟩
  · cases e
    obtain ⟨v, rfl, rv⟩ := reps1 r
    simp only [Rep] at rv
    subst rv
    exact .inr ⟨_, rfl, q _ B H .refl (by simp only [Rep])⟩
  · cases e
theorem d_int {e : Expr} (hm : X.mg "int" = none) (ha : PA X [e] (tA k fs)) (hg : Gl X "int" := by rfl) (he : starEach [e] X.env = (false, eval e X.env) :: starEach [] X.env := by rfl) (hpl : (backTo pos (starEach [] X.env)).any (·.1) = false := by rfl) : PE X (.Call (.Name "int" p0) [e] [] pos) (tD k (cal intD fs)) :=
  d_ct call_int1 rc_int hm (by decide +kernel) ha hg (by decide) (by decide) he hpl
/-- list(x): a new list -/
@[simp] def listL : List Dat → Option (List Dat)
  | [.lst xs] => some xs
  | [.tup xs] => some xs
  | _ => none
theorem rcf_list : RCF k (fun xs H Q => ∃ p ys, xs = [.ref p] ∧ (SqL k.K H p ys ∨ SqT k.K H p ys) ∧ ∀ l, H l = none → Q (.ref l) (upd H l (.lst ys))) listL := by
  intro B H ds rs vs Q hs r e q
  unfold listL at e
  split at e
  · cases e
    obtain ⟨v, rfl, rv⟩ := reps1 r
    simp only [Rep] at rv
    obtain ⟨p, us, rfl, h1, h2⟩ := rv
    exact ⟨p, us, rfl, .inl (sqR hs h1), fun l hl => q l us hl h2⟩
  · cases e
    obtain ⟨v, rfl, rv⟩ := reps1 r
    simp only [Rep] at rv
    obtain ⟨p, us, rfl, h1, h2⟩ := rv
    exact ⟨p, us, rfl, .inr (sqT_mono hs h1), fun l hl => q l us hl h2⟩
  · cases e
theorem f_list {e : Expr} (hk : X.K = k.K) (hm : X.mg "list" = none) (ha : PA X [e] (tA k fs)) (hg : Gl X "list" := by rfl) (he : starEach [e] X.env = (false, eval e X.env) :: starEach [] X.env := by rfl) (hpl : (backTo pos (starEach [] X.env)).any (·.1) = false := by rfl) : PE X (.Call (.Name "list" p0) [e] [] pos) (tF k (calF listL fs)) :=
  f_ct (hk ▸ call_list_of) rcf_list hm (by decide +kernel) ha hg (by decide) (by decide) he hpl
/-- all, any of a list of bools -/
def boolsOf : List Dat → Option (List Bool)
  | [] => some []
  | .bl b :: r => (boolsOf r).map (b :: ·)
  | _ => none
theorem bools_rep {B : Hp} : ∀ {xs : List Dat} {bs : List Bool} {vs : List V}, boolsOf xs = some bs → Reps k B xs vs → vs = bs.map V.bl
  | [], bs, vs, h, r => by
    simp only [Reps] at r
    simp only [boolsOf, Option.some.injEq] at h
    subst h r
    rfl
  | x :: xs, bs, vs, h, r => by
    simp only [Reps] at r
    obtain ⟨v, r', rfl, h1, h2⟩ := r
    cases x <;> simp only [boolsOf] at h <;> first
      | (cases h; done)
      | skip
    rename_i b
    cases e : boolsOf xs with
    | none => simp [e] at h
    | some cs =>
      simp [e] at h
      subst h
      simp only [Rep] at h1
      subst h1
      rw [bools_rep e h2]
      rfl
def allD : List Dat → Option Dat
  | [.lst xs] => (boolsOf xs).map fun bs => .bl (bs.all id)
  | _ => none
def anyD : List Dat → Option Dat
  | [.lst xs] => (boolsOf xs).map fun bs => .bl (bs.any id)
  | _ => none
theorem rc_all : RC k (rAll k.K) allD := by
  intro B H ds d vs Q hs r e q
  unfold allD at e
  split at e
  · rename_i xs
    cases h : boolsOf xs with
    | none => simp [h] at e
    | some bs =>
      simp [h] at e
      subst e
      obtain ⟨v, rfl, rv⟩ := reps1 r
      simp only [Rep] at rv
      obtain ⟨p, us, rfl, h1, h2⟩ := rv
      have z := bools_rep h h2
      subst z
      exact ⟨p, bs, rfl, sqR hs h1, q _ B H .refl (by simp [Rep])⟩
  · cases e
theorem rc_any : RC k (rAny k.K) anyD := by
  intro B H ds d vs Q hs r e q
  unfold anyD at e
  split at e
  · rename_i xs
    cases h : boolsOf xs with
    | none => simp [h] at e
    | some bs =>
      simp [h] at e
      subst e
      obtain ⟨v, rfl, rv⟩ := reps1 r
      simp only [Rep] at rv
      obtain ⟨p, us, rfl, h1, h2⟩ := rv
      have z := bools_rep h h2
      subst z
      exact ⟨p, bs, rfl, sqR hs h1, q _ B H .refl (by simp [Rep])⟩
  · cases e
theorem d_all {e : Expr} (hk : X.K = k.K) (hc : X.calm = true) (hm : X.mg "all" = none) (ha : PA X [e] (tA k fs)) (hg : Gl X "all" := by rfl) (he : starEach [e] X.env = (false, eval e X.env) :: starEach [] X.env := by rfl) (hpl : (backTo pos (starEach [] X.env)).any (·.1) = false := by rfl) : PE X (.Call (.Name "all" p0) [e] [] pos) (tD k (cal allD fs)) :=
  d_cb (hk ▸ cr_all hc) rc_all hm (by decide +kernel) ha hg (by decide) (by decide) he hpl
theorem d_any {e : Expr} (hk : X.K = k.K) (hc : X.calm = true) (hm : X.mg "any" = none) (ha : PA X [e] (tA k fs)) (hg : Gl X "any" := by rfl) (he : starEach [e] X.env = (false, eval e X.env) :: starEach [] X.env := by rfl) (hpl : (backTo pos (starEach [] X.env)).any (·.1) = false := by rfl) : PE X (.Call (.Name "any" p0) [e] [] pos) (tD k (cal anyD fs)) :=
  d_cb (hk ▸ cr_any hc) rc_any hm (by decide +kernel) ha hg (by decide) (by decide) he hpl

/-! ### isinstance by a built-in class -/
def Dat.ty : Dat → Option String
  | .non => some "NoneType"
  | .bl _ => some "bool"
  | .int _ => some "int"
  | .str _ => some "str"
  | .tup _ => some "tuple"
  | .lst _ => some "list"
  | .dct _ _ => some "dict"
  | .obj _ _ _ => none
  | .exn _ _ _ => none
def isiD (T : String) (f : List OT → Option Dat) : List OT → Option Dat := fun e => match f e with
  | none => none
  | some d => match d.ty with
    | none => none
    | some t => (kitB t T).map .bl
theorem sqL_ty {K : PySem.W.Frag} {H : Hp} {p : Addr} {vs : List V} (h : SqL K H p vs) : TyX K H (.ref p) (.type "list") := by
  rcases h with (h | ⟨o, h⟩) | ⟨o, its, n, e, c, _⟩
  · exact .base (.lst h)
  · exact .base (.frz h)
  · exact .kList e c
theorem sqT_ty {K : PySem.W.Frag} {H : Hp} {p : Addr} {vs : List V} (h : SqT K H p vs) : TyX K H (.ref p) (.type "tuple") := by
  rcases h with (h | ⟨o, h⟩) | ⟨o, its, n, e, c, _⟩
  · exact .base (.tup h)
  · exact .fTuple h
  · exact .kTuple e c
theorem rep_ty {B H : Hp} {d : Dat} {v : V} {t : String} (hs : Same B H) (r : Rep k B d v) (h : d.ty = some t) : TyX k.K H v (.type t) := by
  cases d <;> simp only [Dat.ty] at h <;> first
    | (cases h; done)
    | (cases h; simp only [Rep] at r)
  · subst r; exact .base .non
  · subst r; exact .base (.bl _)
  · subst r; exact .base (.int _)
  · subst r; exact .base (.str _)
  · obtain ⟨p, vs, rfl, h1, _⟩ := r
    exact sqT_ty (sqT_mono hs h1)
  · obtain ⟨p, vs, rfl, h1, _⟩ := r
    exact sqL_ty (sqR hs h1)
  · obtain ⟨p, vs, rfl, h1, _⟩ := r
    rcases rd_mono hs h1 with h | ⟨o, h⟩
    · exact .base (.dK h)
    · exact .fDict h
theorem d_isi (T : Str) {t : String} {p1 : Pos} (hk : X.K = k.K) (hm : X.mg "isinstance" = none) (hmT : X.mg T = none) (ht : bootBuiltins T = some (.type t)) (ha : PE X a (tD k fa)) (hg : Gl X "isinstance" := by rfl) (hgT : Gl X T := by rfl) (hn : T ≠ "__name__" := by decide) (hd : (T == ("__debug__" : Str)) = false := by decide)
    (h1 : starEach [a, .Name T p1] X.env = (false, eval a X.env) :: starEach [.Name T p1] X.env := by rfl) (hpl : (backTo pos (starEach [.Name T p1] X.env)).any (·.1) = false := by rfl) :
    PE X (.Call (.Name "isinstance" p0) [a, .Name T p1] [] pos) (tD k (isiD t fa)) :=
  pe_imp (pe_callB call_isi hg hm (by decide +kernel) (pa_cons ha (pa_cons (pe_bltn (v := .ty t) hgT hmT ht rfl hn hd) pa_nil) h1) (by decide) (by decide) h1 hpl) fun σ H Q ⟨G, B, w, env, d, S, h, q⟩ => by
    cases e : fa env with
    | none => simp [isiD, e] at h
    | some x =>
      simp only [isiD, e] at h
      cases e2 : x.ty with
      | none => simp [e2] at h
      | some y =>
        simp only [e2] at h
        cases e3 : kitB y t with
        | none => simp [e3] at h
        | some bb =>
          simp [e3] at h
          subst h
          refine ⟨G, B, w, env, x, S, e, fun v B1 H1 S1 m r => ?_⟩
          refine ⟨v, .ty t, _, _, bb, rfl, .ty t, hk ▸ rep_ty S1.bh r e2, kit_ty e3, q _ B1 H1 S1 m (by simp only [Rep])⟩

/-! ### slices -/
@[simp] def partN : List OT → Option (Option Int) := fun _ => some none
@[simp] def partS (f : List OT → Option Dat) : List OT → Option (Option Int) := fun e => match f e with
  | some (.int i) => some (some i)
  | _ => none
def tO (k : KC) (f : List OT → Option (Option Int)) : TO := fun σ H Q => ∃ G B w env o, Sta k G B H w σ env ∧ f env = some o ∧ ∀ B' H', Sta k G B' H' w σ env → Mv B H B' H' → Q o H'
theorem o_no : PO X none (tO k partN) := ⟨fun pins s σ H Q I h => (po_none (X := X)).run pins s σ H Q I (by
  obtain ⟨G, B, w, env, o, S, h, q⟩ := h
  cases h
  exact q B H S .refl)⟩
theorem o_so (ha : PE X a (tD k fa)) : PO X (some a) (tO k (partS fa)) := ⟨fun pins s σ H Q I h => (po_some ha).run pins s σ H Q I (by
  obtain ⟨G, B, w, env, o, S, h, q⟩ := h
  unfold partS at h
  split at h
  · rename_i i e
    cases h
    refine ⟨G, B, w, env, _, S, e, fun v B' H' S' m r => ?_⟩
    simp only [Rep] at r
    exact ⟨i, r, q B' H' S' m⟩
  · cases h)⟩
def cutD {α : Type} (xs : List α) (lo hi : Option Int) : List α := (xs.drop (HT.sIx xs.length 0 lo)).take (HT.sIx xs.length xs.length hi - HT.sIx xs.length 0 lo)
theorem cut_rep {B : Hp} {xs : List Dat} {vs : List V} {lo hi : Option Int} (r : Reps k B xs vs) : Reps k B (cutD xs lo hi) (cutV vs lo hi) := by
  unfold cutD cutV
  rw [r.length]
  exact (r.drop _).take _
/-- of a list: a new list -/
def sliF (fa : List OT → Option Dat) (l h : List OT → Option (Option Int)) : List OT → Option OT := fun e => match fa e with
  | some (.lst xs) => match l e with
    | none => none
    | some lo => match h e with
      | none => none
      | some hi => some (.lst ((cutD xs lo hi).map .sh))
  | _ => none
theorem f_sli {lo hi : Option Expr} {p2 : Pos} {fl fh : List OT → Option (Option Int)} (hk : X.K = k.K) (ha : PE X a (tD k fa)) (hl : PO X lo (tO k fl)) (hh : PO X hi (tO k fh)) : PE X (.Subscript a (.Slice lo hi none p2) pos) (tF k (sliF fa fl fh)) :=
  pe_imp (pe_slice (hk ▸ sl_list) ha hl hh) fun σ H Q ⟨G, B, w, env, d, S, h, q⟩ => by
    unfold sliF at h
    split at h
    · rename_i xs e
      split at h
      · cases h
      · rename_i l e2
        split at h
        · cases h
        · rename_i u e3
          cases h
          refine ⟨G, B, w, env, _, S, e, fun v B1 H1 S1 m1 r1 => ⟨G, B1, w, env, l, S1, e2, fun B2 H2 S2 m2 => ⟨G, B2, w, env, u, S2, e3, fun B3 H3 S3 m3 => ?_⟩⟩⟩
          simp only [Rep] at r1
          obtain ⟨p, vs, rfl, h1, h2⟩ := r1
          refine ⟨p, vs, rfl, sqR (((m2.trans m3).1).trans S3.bh) h1, fun p hp => ?_⟩
          obtain ⟨S4, T4⟩ := lst_new S3 hp ((cut_rep (lo := l) (hi := u) h2).mono (m2.trans m3).1)
          exact q _ _ _ _ S4 T4 ((m1.trans (m2.trans m3)).trans ⟨.refl _, same_newH hp⟩)
    · cases h
/-- xs + ys: a new list -/
def catF (fa fb : List OT → Option Dat) : List OT → Option OT := fun e => match fa e with
  | some (.lst xs) => match fb e with
    | some (.lst ys) => if xs.length + ys.length ≤ 16000000 then some (.lst ((xs ++ ys).map .sh)) else none
    | _ => none
  | _ => none
end
end DL
namespace DL
open PySem L2 PyProof.Rows PySem.Spec
/-! ### lists glued, repeated: any lists that are read -/
/-- what a list that is read is in the heap -/
theorem lst_obj {X : Cx} {pins : List (Addr × Obj)} {σ : L2.St} {H : Hp} {s : Shared} {l : Addr} {xs : List V} (I : Inv X pins σ H s) (hl : SqL X.K H l xs) :
    ∃ its n sl, Vals xs its ∧ xs.length = its.length ∧ its.toArray.size = its.length ∧ s.heap.get? l = some { cls := .type "list", dict := none, data := .seq its.toArray n, slots := sl } := by
  obtain ⟨its, r, ⟨⟨c, d, dt, sl⟩, n, e, rfl, rfl, rfl⟩, _⟩ := I.list hl
  exact ⟨its, n, sl, r, r.length, by simp, e⟩
def rCatR (K : PySem.W.Frag) : R2 := fun x y H Q => ∃ l m xs zs, x = .ref l ∧ y = .ref m ∧ SqL K H l xs ∧ SqL K H m zs ∧ xs.length + zs.length ≤ sizeLine ∧ ∀ p, H p = none → Q (.ref p) (upd H p (.lst (xs ++ zs)))
theorem op_catR {X : Cx} : OpR X (binaryOp .Add) (rCatR X.K) := by
  intro pins s σ H x y v u Q I rx ry h
  obtain ⟨l, m, xs, zs, rfl, rfl, hl, hm, hz, q⟩ := h
  obtain ⟨i1, n1, s1, r1, z1, y1, o1⟩ := lst_obj I hl
  obtain ⟨i2, n2, s2, r2, z2, y2, o2⟩ := lst_obj I hm
  cases rx
  cases ry
  have sz : i1.toArray.size + i2.toArray.size ≤ sizeLine := by omega
  have fin : EP X pins σ Q (.ref s.heap.objs.size) { s with heap := s.heap.push { cls := .type "list", data := .seq (i1.toArray ++ i2.toArray) } } := by
    have ap : i1.toArray ++ i2.toArray = (i1 ++ i2).toArray := List.append_toArray i1 i2
    rw [ap]
    exact ⟨.ref _, _, I.lnew (t' := s.toks) (r1.append r2) (List.length_append ▸ hz), rfl, q _ I.fresh⟩
  exact concat_meets ⟨_, o1, rfl⟩ ⟨_, o2, rfl⟩ noFill_list_add seq_list_add F.slot_list_add F.entry_list_add (F.args_list_add_2 _ _) (list_addW l m _ _ n1 n2 none none s1 s2 sz) ⟨o1, o2, fin⟩
/-- the same of list * int and int's own refusal, whatever the slots -/
theorem lst_mul (l : Addr) (it : Array Value) (n : Nat) (sl : Array (Option Value)) (x : Int) (u : Tok) (h0 : ¬(!Builtin.List.listFitsIndex x) = true) (h1 : ¬it.size * x.toNat > (2 ^ 63 - 1) / 8) (h2 : ¬Builtin.List.listTooLong (it.size * x.toNat) = true) :
    Meets (Builtin.«list.__mul__» ⟨[.ref l, .int x u], []⟩) (fun _ R s => s.heap.get? l = some { cls := .type "list", dict := none, data := .seq it n, slots := sl } ∧
      R (.ok (.ret (Value.ref s.heap.objs.size))) { s with heap := s.heap.push { cls := .type "list", data := .seq (List.foldl (fun a b => a ++ b) #[] (List.replicate (if it.isEmpty = true then 0 else x.toNat) it)) } }) := .of_wp fun prog w A R s h => by
  obtain ⟨hp, g, d, tk, os⟩ := s
  obtain ⟨hl, h⟩ := h
  have hsz := AutoListH.joined_fits h2
  wp_walk
  refine wpAny_ite_false (decide_eq_false (Nat.not_lt.mpr hsz)) ?_
  wp_walk
  exact ⟨_, rfl, h⟩
theorem int_rmul (a : Int) (t : Tok) (l : Addr) (it : Array Value) (n : Nat) (sl : Array (Option Value)) :
    Meets (Builtin.«int.__rmul__» ⟨[.int a t, .ref l], []⟩) (fun _ R s => s.heap.get? l = some { cls := .type "list", dict := none, data := .seq it n, slots := sl } ∧ R (.ok (.ret Value.notImplemented)) s) := .of_wp fun prog w A R s h => by
  obtain ⟨hp, g, d, tk, os⟩ := s
  obtain ⟨hl, h⟩ := h
  wp_walk
  exact ⟨_, rfl, h⟩
def rRepR (K : PySem.W.Frag) : R2 := fun x y H Q => ∃ l n xs, x = .ref l ∧ y = .int n ∧ SqL K H l xs ∧ -(2 ^ 63) ≤ n ∧ n < 2 ^ 63 ∧ xs.length * n.toNat ≤ sizeLine ∧ ∀ p, H p = none → Q (.ref p) (upd H p (.lst (List.replicate n.toNat xs).flatten))
theorem rep_fold (its : List Value) (m : Nat) : List.foldl (fun a b => a ++ b) #[] (List.replicate (if its.toArray.isEmpty = true then 0 else m) its.toArray) = (List.replicate m its).flatten.toArray := by
  cases its with
  | nil =>
    have z : ∀ k : Nat, (List.replicate k ([] : List Value)).flatten = [] := fun k => by simp
    simp [z]
  | cons a r =>
    rw [if_neg (by simp)]
    exact (foldl_rep (a :: r) m []).trans (by rw [List.nil_append])
theorem op_repR {X : Cx} : OpR X (binaryOp .Mult) (rRepR X.K) := by
  intro pins s σ H x y v u Q I rx ry h
  obtain ⟨l, m, xs, rfl, rfl, hl, b1, b2, hz, q⟩ := h
  obtain ⟨i1, n1, s1, r1, z1, y1, o1⟩ := lst_obj I hl
  cases rx
  obtain ⟨t, rfl⟩ := ry
  have sz : i1.toArray.size * m.toNat ≤ sizeLine := by rw [y1, ← z1]; exact hz
  have cap : (sizeLine : Nat) ≤ (2 ^ 63 - 1) / 8 := by decide
  refine wpAny_binaryOp_repeat_ref (T := "list") (U := "int") (by decide) ⟨_, o1, rfl⟩ (fun s' => typeIs_int s' m t) noFill_list_mul F.fills_int_mul F.slot_int_rmul repeat_list F.slot_int_index.lookup ?_
  refine call_meets F.slot_int_rmul (typeIs_int s m t) F.entry_int_rmul (F.args_int_rmul_2 _ _) (int_rmul m t l _ n1 s1) ⟨o1, rfl, ⟨_, o1, rfl⟩, ?_⟩
  refine call_meets F.slot_list_mul ⟨_, o1, rfl⟩ F.entry_list_mul (F.args_list_mul_2 _ _) (lst_mul l _ n1 s1 m t ?_ (by omega) ?_) ⟨o1, ?_⟩
  · rw [fitsIndex_both b1 b2]
    decide
  · rw [notLongL sz]
    decide
  · rw [rep_fold]
    exact ⟨.ref _, _, I.lnew (t' := s.toks) (r1.rep m.toNat) (by rw [lm_len_rep_flat, Nat.mul_comm]; exact hz), rfl, q _ I.fresh⟩
theorem Reps.rep {k : KC} {B : Hp} {xs : List Dat} {vs : List V} (r : Reps k B xs vs) : ∀ n : Nat, Reps k B (List.replicate n xs).flatten (List.replicate n vs).flatten
  | 0 => .nil
  | n + 1 => by
    rw [List.replicate_succ, List.replicate_succ, List.flatten_cons, List.flatten_cons]
    exact r.append (Reps.rep r n)
section
variable {k : KC} {X : Cx} {pos p0 : Pos} {a b c : Expr} {fa fb fc : List OT → Option Dat} {es : List Expr} {fs : List OT → Option (List Dat)}
theorem f_cat (hk : X.K = k.K) (ha : PE X a (tD k fa)) (hb : PE X b (tD k fb)) : PE X (.BinOp a .Add b pos) (tF k (catF fa fb)) := pe_imp (pe_op (hk ▸ op_catR) ha hb) fun σ H Q ⟨G, B, w, env, d, S, h, q⟩ => by
  unfold catF at h
  split at h
  · rename_i xs e
    split at h
    · rename_i ys e2
      split at h
      · rename_i hl
        cases h
        refine ⟨G, B, w, env, _, S, e, fun v B1 H1 S1 m1 r1 => ⟨G, B1, w, env, _, S1, e2, fun u B2 H2 S2 m2 r2 => ?_⟩⟩
        simp only [Rep] at r1 r2
        obtain ⟨p, vs, rfl, h1, h2⟩ := r1
        obtain ⟨p', us, rfl, h3, h4⟩ := r2
        refine ⟨p, p', vs, us, rfl, rfl, sqR (m2.1.trans S2.bh) h1, sqR S2.bh h3, by rw [← h2.length, ← h4.length]; exact sl16 hl, fun p hp => ?_⟩
        obtain ⟨S4, T4⟩ := lst_new S2 hp ((h2.mono m2.1).append h4)
        exact q _ _ _ _ S4 T4 ((m1.trans m2).trans ⟨.refl _, same_newH hp⟩)
      · cases h
    · cases h
  · cases h
def repF (fa fb : List OT → Option Dat) : List OT → Option OT := fun e => match fa e with
  | some (.lst xs) => match fb e with
    | some (.int n) => if -(2 ^ 63) ≤ n ∧ n < 2 ^ 63 ∧ xs.length * n.toNat ≤ 16000000 then some (.lst ((List.replicate n.toNat xs).flatten.map .sh)) else none
    | _ => none
  | _ => none
theorem f_rep (hk : X.K = k.K) (ha : PE X a (tD k fa)) (hb : PE X b (tD k fb)) : PE X (.BinOp a .Mult b pos) (tF k (repF fa fb)) := pe_imp (pe_op (hk ▸ op_repR) ha hb) fun σ H Q ⟨G, B, w, env, d, S, h, q⟩ => by
  unfold repF at h
  split at h
  · rename_i xs e
    split at h
    · rename_i n e2
      split at h
      · rename_i hl
        cases h
        refine ⟨G, B, w, env, _, S, e, fun v B1 H1 S1 m1 r1 => ⟨G, B1, w, env, _, S1, e2, fun u B2 H2 S2 m2 r2 => ?_⟩⟩
        simp only [Rep] at r1 r2
        obtain ⟨p, vs, rfl, h1, h2⟩ := r1
        subst r2
        refine ⟨p, n, vs, rfl, rfl, sqR (m2.1.trans S2.bh) h1, hl.1, hl.2.1, by rw [← h2.length]; exact sl16 hl.2.2, fun p hp => ?_⟩
        obtain ⟨S4, T4⟩ := lst_new S2 hp ((h2.rep n.toNat).mono m2.1)
        exact q _ _ _ _ S4 T4 ((m1.trans m2).trans ⟨.refl _, same_newH hp⟩)
      · cases h
    · cases h
  · cases h

/-! ### what is walked -/
structure Wk (k : KC) (J : It) (B : Hp) (ds : List Dat) : Prop where
  go : ∀ (i : Nat) d B' H', Same B B' → Same B' H' → ds[i]? = some d → J.go i H'
  yld : ∀ (i : Nat) d B' H' x H'', Same B B' → Same B' H' → ds[i]? = some d → J.yld i H' x H'' → ∃ B'', Grow B' H' B'' H'' ∧ Rep k B'' d x
  stop : ∀ B' H', Same B B' → Same B' H' → J.stop ds.length H'
def tI (k : KC) (f : List OT → Option (List Dat)) : TI := fun σ H R => ∃ G B w env ds, Sta k G B H w σ env ∧ f env = some ds ∧ ∀ J B' H', Sta k G B' H' w σ env → Mv B H B' H' → Wk k J B' ds → R J H'
theorem pi_imp {tg iter : Expr} {t t' : TI} (h : PI X tg iter t) (i : ∀ σ H R, t' σ H R → t σ H R) : PI X tg iter t' := ⟨fun pins s σ H Q I q => h.run pins s σ H Q I (i σ H Q q)⟩
variable {tg : Expr}
@[simp] def lstOf (f : List OT → Option Dat) : List OT → Option (List Dat) := fun e => match f e with
  | some (.lst xs) => some xs
  | _ => none
@[simp] def tupOf (f : List OT → Option Dat) : List OT → Option (List Dat) := fun e => match f e with
  | some (.tup xs) => some xs
  | _ => none
theorem Reps.none {B : Hp} {ds : List Dat} {vs : List V} (r : Reps k B ds vs) : vs.length = ds.length := r.length.symm
theorem wk_list {B : Hp} {p : Addr} {ds : List Dat} {vs : List V} (h : SqL k.K B p vs) (r : Reps k B ds vs) : Wk k (Itl k.K p) B ds where
  go := fun i d B' H' m s e => by
    obtain ⟨v, hv, _⟩ := r.get e
    exact ⟨vs, v, sqR (m.trans s) h, hv⟩
  yld := fun i d B' H' x H'' m s e y => by
    obtain ⟨rfl, y⟩ := y
    obtain ⟨v, hv, q⟩ := r.get e
    have z := y vs (sqR (m.trans s) h)
    rw [hv] at z
    cases z
    exact ⟨B', .refl, q.mono m⟩
  stop := fun B' H' m s => ⟨vs, sqR (m.trans s) h, by rw [r.length]; exact Nat.le_refl _⟩
theorem wk_tup {B : Hp} {p : Addr} {ds : List Dat} {vs : List V} (h : SqT k.K B p vs) (r : Reps k B ds vs) : Wk k (Itt k.K p) B ds where
  go := fun i d B' H' m s e => by
    obtain ⟨v, hv, _⟩ := r.get e
    exact ⟨vs, v, sqT_mono (m.trans s) h, hv⟩
  yld := fun i d B' H' x H'' m s e y => by
    obtain ⟨rfl, y⟩ := y
    obtain ⟨v, hv, q⟩ := r.get e
    have z := y vs (sqT_mono (m.trans s) h)
    rw [hv] at z
    cases z
    exact ⟨B', .refl, q.mono m⟩
  stop := fun B' H' m s => ⟨vs, sqT_mono (m.trans s) h, by rw [r.length]; exact Nat.le_refl _⟩
theorem i_list (hk : X.K = k.K) (ha : PE X a (tD k fa)) : PI X tg a (tI k (lstOf fa)) := pi_imp (pi_list ha) fun σ H R ⟨G, B, w, env, ds, S, h, q⟩ => by
  unfold lstOf at h
  split at h
  · rename_i xs e
    cases h
    refine ⟨G, B, w, env, _, S, e, fun v B1 H1 S1 m1 r1 => ?_⟩
    simp only [Rep] at r1
    obtain ⟨p, vs, rfl, h1, h2⟩ := r1
    exact ⟨p, rfl, ⟨vs, hk ▸ sqR S1.bh h1⟩, q _ B1 H1 S1 m1 (hk ▸ wk_list h1 h2)⟩
  · cases h
theorem i_tup (hk : X.K = k.K) (ha : PE X a (tD k fa)) : PI X tg a (tI k (tupOf fa)) := pi_imp (pi_tup ha) fun σ H R ⟨G, B, w, env, ds, S, h, q⟩ => by
  unfold tupOf at h
  split at h
  · rename_i xs e
    cases h
    refine ⟨G, B, w, env, _, S, e, fun v B1 H1 S1 m1 r1 => ?_⟩
    simp only [Rep] at r1
    obtain ⟨p, vs, rfl, h1, h2⟩ := r1
    exact ⟨p, rfl, ⟨vs, hk ▸ sqT_mono S1.bh h1⟩, q _ B1 H1 S1 m1 (hk ▸ wk_tup h1 h2)⟩
  · cases h
def rngFrom (lo : Int) (n : Nat) : List Dat := (List.range n).map fun i => .int (lo + (i : Nat))
def rng1 (fs : List OT → Option (List Dat)) : List OT → Option (List Dat) := fun e => match fs e with
  | some [.int j] => if -(2 ^ 62) ≤ j ∧ j < 2 ^ 62 then some (rngFrom 0 j.toNat) else none
  | _ => none
def rng2 (fs : List OT → Option (List Dat)) : List OT → Option (List Dat) := fun e => match fs e with
  | some [.int i, .int j] => if -(2 ^ 62) ≤ i ∧ i < 2 ^ 62 ∧ -(2 ^ 62) ≤ j ∧ j < 2 ^ 62 then some (rngFrom i (j - i).toNat) else none
  | _ => none
theorem wk_rng {B : Hp} {lo : Int} {n : Nat} : Wk k (Itr lo n) B (rngFrom lo n) where
  go := fun i d B' H' m s e => by
    have : i < (rngFrom lo n).length := (List.getElem?_eq_some_iff.mp e).1
    show i < n
    simpa [rngFrom] using this
  yld := fun i d B' H' x H'' m s e y => by
    obtain ⟨rfl, rfl⟩ := y
    refine ⟨B', .refl, ?_⟩
    simp only [rngFrom, List.getElem?_map] at e
    cases z : (List.range n)[i]? with
    | none => simp [z] at e
    | some j =>
      have hj : j = i := by
        obtain ⟨h1, h2⟩ := List.getElem?_eq_some_iff.mp z
        simpa using h2.symm
      subst hj
      simp [z] at e
      subst e
      simp only [Rep]
  stop := fun B' H' m s => by
    show n ≤ (rngFrom lo n).length
    simp [rngFrom]
theorem i_rng1 {p : Pos} (hm : X.mg "range" = none) (ha : PA X [a] (tA k fs)) (hg : Gl X "range" := by rfl) (hs : starEach [a] X.env = [(false, eval a X.env)] := by rfl) : PI X tg (.Call (.Name "range" p) [a] [] pos) (tI k (rng1 fs)) :=
  pi_imp (pi_range1 hg hm ha hs) fun σ H R ⟨G, B, w, env, ds, S, h, q⟩ => by
    unfold rng1 at h
    split at h
    · rename_i j e
      split at h
      · rename_i hj
        cases h
        refine ⟨G, B, w, env, _, S, e, fun vs B1 H1 S1 m1 r1 => ?_⟩
        obtain ⟨v, rfl, rv⟩ := reps1 r1
        simp only [Rep] at rv
        subst rv
        exact ⟨j, rfl, hj.1, hj.2, q _ B1 H1 S1 m1 wk_rng⟩
      · cases h
    · cases h
theorem i_rng2 {p : Pos} (hm : X.mg "range" = none) (ha : PA X [a, b] (tA k fs)) (hg : Gl X "range" := by rfl) (hs : starEach [a, b] X.env = [(false, eval a X.env), (false, eval b X.env)] := by rfl) (hs2 : starEach [b] X.env = [(false, eval b X.env)] := by rfl) : PI X tg (.Call (.Name "range" p) [a, b] [] pos) (tI k (rng2 fs)) :=
  pi_imp (pi_range2 hg hm ha hs hs2) fun σ H R ⟨G, B, w, env, ds, S, h, q⟩ => by
    unfold rng2 at h
    split at h
    · rename_i i j e
      split at h
      · rename_i hj
        cases h
        refine ⟨G, B, w, env, _, S, e, fun vs B1 H1 S1 m1 r1 => ?_⟩
        obtain ⟨v, u, rfl, rv, ru⟩ := reps2 r1
        simp only [Rep] at rv ru
        subst rv ru
        exact ⟨i, j, rfl, hj, q _ B1 H1 S1 m1 wk_rng⟩
      · cases h
    · cases h
def zipD (fs : List OT → Option (List Dat)) : List OT → Option (List Dat) := fun e => match fs e with
  | some [.lst xs, .lst ys] => some (xs.zipWith (fun x y => .tup [x, y]) ys)
  | _ => none
theorem wk_zip {B : Hp} {p p' : Addr} {ds es : List Dat} {vs us : List V} (h : SqL k.K B p vs) (r : Reps k B ds vs) (h' : SqL k.K B p' us) (r' : Reps k B es us) : Wk k (Itz k.K p p') B (ds.zipWith (fun x y => .tup [x, y]) es) where
  go := fun i d B' H' m s e => by
    rw [List.getElem?_zipWith] at e
    cases e1 : ds[i]? with
    | none => simp [e1] at e
    | some x =>
      cases e2 : es[i]? with
      | none => simp [e1, e2] at e
      | some y =>
        obtain ⟨v, hv, _⟩ := r.get e1
        obtain ⟨u, hu, _⟩ := r'.get e2
        exact ⟨vs, us, v, u, sqR (m.trans s) h, sqR (m.trans s) h', hv, hu⟩
  yld := fun i d B' H' x H'' m s e y => by
    rw [List.getElem?_zipWith] at e
    cases e1 : ds[i]? with
    | none => simp [e1] at e
    | some x1 =>
      cases e2 : es[i]? with
      | none => simp [e1, e2] at e
      | some y1 =>
        simp [e1, e2] at e
        subst e
        obtain ⟨v, hv, q1⟩ := r.get e1
        obtain ⟨u, hu, q2⟩ := r'.get e2
        obtain ⟨T, xv, yv, rfl, hT, rfl, z1, z2⟩ := y
        have a1 := z1 vs (sqR (m.trans s) h)
        have a2 := z2 us (sqR (m.trans s) h')
        rw [hv] at a1
        rw [hu] at a2
        cases a1
        cases a2
        refine ⟨_, .new .refl hT, ?_⟩
        simp only [Rep]
        have mm := m.trans (same_new (o := .tup [v, u]) s hT)
        exact ⟨T, _, rfl, .of upd_same, .cons (q1.mono mm) (.cons (q2.mono mm) .nil)⟩
  stop := fun B' H' m s => by
    refine ⟨vs, us, sqR (m.trans s) h, sqR (m.trans s) h', ?_⟩
    rw [List.length_zipWith, r.length, r'.length]
    omega
theorem i_zip {p tpos : Pos} {elts : List Expr} {kk : Nat} (hk : X.K = k.K) (hm : X.mg "zip" = none) (ha : PA X [a, b] (tA k fs)) (hg : Gl X "zip" := by rfl)
    (hs : starEach [a, b] X.env = (false, eval a X.env) :: starEach [b] X.env := by rfl) (hpl : (backTo pos (starEach [b] X.env)).any (·.1) = false := by rfl) : PI X (.Tuple elts kk tpos) (.Call (.Name "zip" p) [a, b] [] pos) (tI k (zipD fs)) :=
  pi_imp (pi_zip hg hm ha hs hpl) fun σ H R ⟨G, B, w, env, ds, S, h, q⟩ => by
    unfold zipD at h
    split at h
    · rename_i xs ys e
      cases h
      refine ⟨G, B, w, env, _, S, e, fun vs B1 H1 S1 m1 r1 => ?_⟩
      obtain ⟨v, u, rfl, rv, ru⟩ := reps2 r1
      simp only [Rep] at rv ru
      obtain ⟨p, vs, rfl, h1, h2⟩ := rv
      obtain ⟨p', us, rfl, h3, h4⟩ := ru
      exact ⟨p, p', vs, us, rfl, hk ▸ sqR S1.bh h1, hk ▸ sqR S1.bh h3, q _ B1 H1 S1 m1 (hk ▸ wk_zip h1 h2 h3 h4)⟩
    · cases h
/-- a text, sign by sign -/
@[simp] def strOf (f : List OT → Option Dat) : List OT → Option (List Dat) := fun e => match f e with
  | some (.str x) => some (x.cps.toList.map fun c => .str ⟨#[c]⟩)
  | _ => none
theorem wk_str {B : Hp} {x : Str} : Wk k (Its x) B (x.cps.toList.map fun c => .str ⟨#[c]⟩) where
  go := fun i d B' H' m s e => by
    have : i < (x.cps.toList.map fun c => Dat.str ⟨#[c]⟩).length := (List.getElem?_eq_some_iff.mp e).1
    show i < x.cps.size
    simpa using this
  yld := fun i d B' H' v H'' m s e y => by
    obtain ⟨rfl, c, hc, rfl⟩ := y
    refine ⟨B', .refl, ?_⟩
    rw [List.getElem?_map, Array.getElem?_toList, hc] at e
    simp at e
    subst e
    simp only [Rep]
  stop := fun B' H' m s => by
    show x.cps.size ≤ _
    simp
theorem i_str (ha : PE X a (tD k fa)) : PI X tg a (tI k (strOf fa)) := pi_imp (pi_str ha) fun σ H R ⟨G, B, w, env, ds, S, h, q⟩ => by
  unfold strOf at h
  split at h
  · rename_i xs e
    cases h
    refine ⟨G, B, w, env, _, S, e, fun v B1 H1 S1 m1 r1 => ?_⟩
    simp only [Rep] at r1
    exact ⟨_, r1, q _ B1 H1 S1 m1 wk_str⟩
  · cases h

/-! ### targets -/
def gD (k : KC) (st : Dat → List OT → Option (List OT)) : TG := fun v σ H Q => ∃ G B w env d env', Sta k G B H w σ env ∧ Rep k B d v ∧ st d env = some env' ∧ ∀ σ', Sta k G B H w σ' env' → Q σ' H
theorem pg_imp {t t' : TG} (h : PG X tg t) (i : ∀ v σ H Q, t' v σ H Q → t v σ H Q) : PG X tg t' := ⟨fun pins s σ H v u Q I r q => h.run pins s σ H v u Q I r (i v σ H Q q)⟩
@[simp] def toN (i : Nat) : Dat → List OT → Option (List OT) := fun d e => some (e.set i (.sh d))
theorem g_name {i : Nat} {x : Str} (hN : X.N.Nodup) (hi : X.N[i]? = some x := by rfl) (hx : Loc X.env.scope x := by first | exact .inl rfl | exact .inr rfl) (hf : X.fn x = true ∨ X.env.scope.names.lookup x = some .local := by first | exact .inl rfl | exact .inr rfl | assumption) : PG X (.Name x pos) (gD k (toN i)) :=
  pg_imp (pg_name hN hi hx hf) fun v σ H Q ⟨G, B, w, env, d, env', S, r, h, q⟩ => by
    cases h
    exact q _ (S.set r)
/-- several targets, one after another -/
def gDs (k : KC) (st : List Dat → List OT → Option (List OT)) : TGs := fun vs σ H Q => ∃ G B w env ds env', Sta k G B H w σ env ∧ Reps k B ds vs ∧ st ds env = some env' ∧ ∀ σ', Sta k G B H w σ' env' → Q σ' H
theorem pgs_imp {ts : List Expr} {t t' : TGs} (h : PGs X ts t) (i : ∀ v σ H Q, t' v σ H Q → t v σ H Q) : PGs X ts t' := ⟨fun pins s σ H v u Q I r q => h.run pins s σ H v u Q I r (i v σ H Q q)⟩
@[simp] def toNil : List Dat → List OT → Option (List OT) := fun ds e => match ds with
  | [] => some e
  | _ => none
@[simp] def toCons (st : Dat → List OT → Option (List OT)) (sts : List Dat → List OT → Option (List OT)) : List Dat → List OT → Option (List OT) := fun ds e => match ds with
  | [] => none
  | d :: ds => match st d e with
    | none => none
    | some e' => sts ds e'
theorem g_nil : PGs X [] (gDs k toNil) := pgs_imp pgs_nil fun v σ H Q ⟨G, B, w, env, ds, env', S, r, h, q⟩ => by
  unfold toNil at h
  split at h
  · cases h
    simp only [Reps] at r
    exact ⟨r, q _ S⟩
  · cases h
theorem g_cons {e : Expr} {st : Dat → List OT → Option (List OT)} {sts : List Dat → List OT → Option (List OT)} (h1 : PG X e (gD k st)) (h2 : PGs X es (gDs k sts))
    (hs : (assignEach (e :: es) X.env).map (·.2) = assign e X.env :: (assignEach es X.env).map (·.2) := by rfl) : PGs X (e :: es) (gDs k (toCons st sts)) := pgs_imp (pgs_cons h1 h2 hs) fun v σ H Q ⟨G, B, w, env, ds, env', S, r, h, q⟩ => by
  cases ds with
  | nil => simp [toCons] at h
  | cons d ds =>
    simp only [Reps] at r
    obtain ⟨v0, r0, rfl, h3, h4⟩ := r
    simp only [toCons] at h
    cases e : st d env with
    | none => simp [e] at h
    | some e1 =>
      simp only [e] at h
      exact ⟨v0, r0, rfl, G, B, w, env, d, e1, S, h3, e, fun σ1 S1 => ⟨G, B, w, e1, ds, env', S1, h4, h, q⟩⟩
@[simp] def toTup (n : Nat) (sts : List Dat → List OT → Option (List OT)) : Dat → List OT → Option (List OT) := fun d e => match d with
  | .tup ds => if ds.length = n then sts ds e else none
  | _ => none
theorem g_tup {kk n : Nat} {sts : List Dat → List OT → Option (List OT)} (hk : X.K = k.K) (hc : X.calm = true) (h : PGs X es (gDs k sts)) (hn : (assignEach es X.env).length = n := by rfl) (hst : (assignEach es X.env).findIdx? (·.1) = none := by rfl) : PG X (.Tuple es kk pos) (gD k (toTup n sts)) :=
  pg_imp (pg_tup hc h hn hst) fun v σ H Q ⟨G, B, w, env, d, env', S, r, h, q⟩ => by
    unfold toTup at h
    split at h
    · split at h
      · rename_i ds hl
        simp only [Rep] at r
        obtain ⟨p, vs, rfl, h1, h2⟩ := r
        exact ⟨p, vs, rfl, hk ▸ sqT_mono S.bh h1, by rw [← h2.length]; exact hl, G, B, w, env, ds, env', S, h2, h, q⟩
      · cases h
    · cases h
/-! a list taken apart as a tuple is -/
theorem draw_lst {prog : Program} {w : World} {A : Around} {E : Value → Shared → Prop} {it l : Addr} {items : Array Value} (hne : l ≠ it) : ∀ (n i : Nat) (s : Shared) (Q : List Value → Shared → Prop), s.heap.IsListIter it l i → s.heap.IsList l items → i + n ≤ items.size →
    (∀ h', h'.IsListIter it l (i + n) → Heap.SameBut it s.heap h' → Q ((items.toList.drop i).take n) { s with heap := h' }) → wpAny (model prog w) A (draw (.ref it) n) Q E s
  | 0, i, s, Q, hit, _, _, hQ => by
    show wpAny _ _ (pure []) Q E s
    exact wpAny_pure (by simpa using hQ s.heap hit (Heap.SameBut.refl ..))
  | n + 1, i, s, Q, hit, ht, hle, hQ => by
    have hlt : i < items.size := by omega
    show wpAny _ _ (pyNext (.ref it) >>= _) Q E s
    refine wpAny_bind (wpAny_pyNext_list_item hit ht (x := items[i]) (by simp [hlt]) fun h1 hit1 hs1 => ?_)
    refine wpAny_bind (wpAny_holding (draw_lst hne n (i + 1) _ _ hit1 (ht.extBut hs1.extBut hne) (by omega) fun h2 hit2 hs2 => wpAny_pure ?_))
    have hd : items.toList.drop i = items[i] :: items.toList.drop (i + 1) := by simp [List.drop_eq_getElem_cons, hlt]
    have := hQ h2 (by rw [show i + (n + 1) = i + 1 + n by omega]; exact hit2) (hs1.trans hs2)
    rw [hd, List.take_succ_cons] at this
    exact this
theorem unpackItems_lst {prog : Program} {w : World} {A : Around} {E : Value → Shared → Prop} {s : Shared} {l : Addr} {items : Array Value} {Q : List Value → Shared → Prop} (hh : A.handled = none) (ht : s.heap.IsList l items)
    (hQ : ∀ h', Heap.ExtBut s.heap.objs.size s.heap h' → Q items.toList { s with heap := h' }) : wpAny (model prog w) A (unpackItems (.ref l) items.size none) Q E s := by
  have hlt : l ≠ s.heap.objs.size := by obtain ⟨o, ho, _⟩ := ht; exact Nat.ne_of_lt (Heap.lt_size ho)
  unfold unpackItems
  refine wpAny_bind ?_
  unfold notIterableAtAll
  refine wpAny_bind (wpAny_specialOf ht.typeIs slot_list_iter.lookup ?_)
  refine wpAny_pure ?_
  simp only [Bool.false_eq_true, if_false]
  refine wpAny_bind (wpAny_holding (wpAny_pyIter_list ht ?_))
  refine wpAny_bind (wpAny_holding (draw_lst hlt items.size 0 _ _ ⟨_, Heap.get?_push_size _ rfl, rfl, rfl⟩ (ht.push _) (by omega) fun h1 hit1 hs1 => ?_))
  have hall : List.take items.size (List.drop 0 items.toList) = items.toList := by
    rw [List.drop_zero]
    exact List.take_of_length_le (by simp)
  rw [hall]
  rw [if_neg (by simp)]
  have ht1 : h1.IsList l items := (ht.push _).extBut hs1.extBut hlt
  refine wpAny_bind (wpAny_holding (wpAny_pyNext_list_end hh hit1 ht1 (by simp) fun h2 he2 => ?_))
  simp only [Option.isSome_none, Bool.false_eq_true, if_false]
  exact wpAny_pure (hQ h2 fun b o hb e => he2 b o hb (hs1.extBut b o hb (Heap.get?_push_of_some _ e)))
theorem assign_Tuple_lst {prog : Program} {w : World} {A : Around} {E : Value → Shared → Prop} {s : Shared} {env : Env} {elts : List Expr} {x1} {pos : Pos} {l : Addr} {items : Array Value} {Q : Unit → Shared → Prop} (hh : A.handled = none) (ht : s.heap.IsList l items)
    (hn : (assignEach elts env).length = items.size) (hstar : (assignEach elts env).findIdx? (·.1) = none)
    (h : ∀ h', Heap.ExtBut s.heap.objs.size s.heap h' → wpAny (model prog w) A (assignInOrder ((assignEach elts env).map (·.2)) items.toList) Q E { s with heap := h' }) :
    wpAny (model prog w) A (assign (.Tuple elts x1 pos) env (.ref l)) Q E s := by
  rw [PyProof.Rows.assign_Tuple]
  refine wpAny_bind (wpAny_standAt ?_)
  unfold unpack
  rw [hn, hstar]
  exact wpAny_bind (wpAny_holding (unpackItems_lst hh ht h))
def gLst (K : PySem.W.Frag) (n : Nat) (t : TGs) : TG := fun v σ H Q => ∃ a xs, v = .ref a ∧ SqL K H a xs ∧ xs.length = n ∧ t xs σ H Q
theorem pg_lst {es : List Expr} {k : Nat} {t : TGs} {n : Nat} (hc : X.calm = true) (h : PGs X es t)
    (hn : (assignEach es X.env).length = n := by rfl) (hst : (assignEach es X.env).findIdx? (·.1) = none := by rfl) : PG X (.Tuple es k pos) (gLst X.K n t) := by
  refine ⟨fun pins s σ H v u Q I r hw => ?_⟩
  obtain ⟨a, xs, e1, hq, hl, hw⟩ := hw
  subst e1
  cases r
  obtain ⟨its, rv, ⟨o, m, ho, hc1, _, hd1⟩, hz⟩ := I.list hq
  refine assign_Tuple_lst (I.ok.hd hc) ⟨o, ho, hc1, m, hd1⟩ (by simp [hn, ← hl, rv.length]) hst fun h' hx => ?_
  have I1 : Inv X pins σ H { s with heap := h' } := I.kept (t' := s.toks) fun b o e => hx b o (Nat.ne_of_lt (Heap.lt_size e)) e
  exact h.run pins _ σ H xs _ Q I1 (by simpa using rv) hw
theorem pg_or {e : Expr} {t t' : TG} (h : PG X e t) (h' : PG X e t') : PG X e (fun v σ H Q => t v σ H Q ∨ t' v σ H Q) :=
  ⟨fun pins s σ H v u Q I r q => q.elim (h.run pins s σ H v u Q I r) (h'.run pins s σ H v u Q I r)⟩
@[simp] def toSq (n : Nat) (sts : List Dat → List OT → Option (List OT)) : Dat → List OT → Option (List OT) := fun d e => match d with
  | .tup ds => if ds.length = n then sts ds e else none
  | .lst ds => if ds.length = n then sts ds e else none
  | _ => none
theorem g_sq {kk n : Nat} {sts : List Dat → List OT → Option (List OT)} (hk : X.K = k.K) (hc : X.calm = true) (h : PGs X es (gDs k sts)) (hn : (assignEach es X.env).length = n := by rfl) (hst : (assignEach es X.env).findIdx? (·.1) = none := by rfl) : PG X (.Tuple es kk pos) (gD k (toSq n sts)) :=
  pg_imp (pg_or (pg_tup hc h hn hst) (pg_lst hc h hn hst)) fun v σ H Q ⟨G, B, w, env, d, env', S, r, h, q⟩ => by
    unfold toSq at h
    split at h
    · split at h
      · rename_i ds hl
        simp only [Rep] at r
        obtain ⟨p, vs, rfl, h1, h2⟩ := r
        exact .inl ⟨p, vs, rfl, hk ▸ sqT_mono S.bh h1, by rw [← h2.length]; exact hl, G, B, w, env, ds, env', S, h2, h, q⟩
      · cases h
    · split at h
      · rename_i ds hl
        simp only [Rep] at r
        obtain ⟨p, vs, rfl, h1, h2⟩ := r
        exact .inr ⟨p, vs, rfl, hk ▸ sqL_mono S.bh h1, by rw [← h2.length]; exact hl, G, B, w, env, ds, env', S, h2, h, q⟩
      · cases h
    · cases h
end
end DL
namespace DL
open PySem L2 PyProof.Rows PySem.Spec
theorem OReps.frame2 {k : KC} {B B' H H' : Hp} {w w' : WM} (e : Same B B') : ∀ {π : List Nat} {n : Nat} {os : List OT} {vs : List V}, (∀ m, Keeps (m :: π) w w' H H') → OReps k B H w π n os vs → OReps k B' H' w' π n os vs
  | π, n, [], vs, hk, h => by simpa only [OReps] using h
  | π, n, o :: os, vs, hk, h => by
    simp only [OReps] at h ⊢
    obtain ⟨v, r, rfl, h1, h2⟩ := h
    exact ⟨v, r, rfl, ORep.frame e (hk n) h1, OReps.frame2 e hk h2⟩
theorem OReps.snoc {k : KC} {B H : Hp} {w : WM} {π : List Nat} {d : Dat} {v : V} (hd : Rep k B d v) : ∀ {n : Nat} {os : List OT} {vs : List V}, OReps k B H w π n os vs → OReps k B H w π n (os ++ [.sh d]) (vs ++ [v])
  | n, [], vs, h => by
    simp only [OReps] at h
    subst h
    simp only [List.nil_append, OReps, ORep]
    exact ⟨v, [], rfl, hd, rfl⟩
  | n, o :: os, vs, h => by
    simp only [OReps] at h
    obtain ⟨u, r, rfl, h1, h2⟩ := h
    simp only [List.cons_append, OReps]
    exact ⟨u, r ++ [v], rfl, h1, OReps.snoc hd h2⟩
theorem OReps.length {k : KC} {B H : Hp} {w : WM} {π : List Nat} : ∀ {n : Nat} {os : List OT} {vs : List V}, OReps k B H w π n os vs → os.length = vs.length
  | n, [], vs, h => by
    simp only [OReps] at h
    subst h
    rfl
  | n, o :: os, vs, h => by
    simp only [OReps] at h
    obtain ⟨u, r, rfl, h1, h2⟩ := h
    simp [OReps.length h2]
theorem OReps.set {k : KC} {B H : Hp} {w : WM} {π : List Nat} {d : Dat} {v : V} (hd : Rep k B d v) : ∀ {n : Nat} {os : List OT} {vs : List V} (j : Nat), OReps k B H w π n os vs → OReps k B H w π n (os.set j (.sh d)) (vs.set j v)
  | n, [], vs, j, h => by
    simp only [OReps] at h
    subst h
    simp [OReps]
  | n, o :: os, vs, 0, h => by
    simp only [OReps] at h
    obtain ⟨u, r, rfl, h1, h2⟩ := h
    simp only [List.set_cons_zero, OReps, ORep]
    exact ⟨v, r, rfl, hd, h2⟩
  | n, o :: os, vs, j + 1, h => by
    simp only [OReps] at h
    obtain ⟨u, r, rfl, h1, h2⟩ := h
    simp only [List.set_cons_succ, OReps]
    exact ⟨u, r.set j v, rfl, h1, OReps.set hd j h2⟩
section
variable {k : KC} {W : WX} {G : Gh} {B H B' H' : Hp} {w : WM} {σ : L2.St} {env : List OT}
/-- slot i's own list -/
theorem Sta.lst {i : Nat} {xs : List OT} (S : Sta k G B H w σ env) (h : env[i]? = some (.lst xs)) : ∃ p vs, σ[i]? = some (some (.ref p)) ∧ H p = some (.lst vs) ∧ w p = some [i] ∧ OReps k B H w [i] 0 xs vs := by
  rcases S.sl i _ h with e | ⟨v, hv, r⟩
  · exact nomatch e
  · simp only [ORep] at r
    obtain ⟨p, vs, rfl, h1, h2, h3⟩ := r
    exact ⟨p, vs, hv, h1, h2, h3⟩
/-- slot i's own root changes -/
theorem Sta.root {i : Nat} {o : HO} {t : OT} {p : Addr} (S : Sta k G B H w σ env) (hv : σ[i]? = some (some (.ref p))) (hw : w p = some [i]) (hi : i < env.length)
    (r : ORep k B (upd H p o) w [i] t (.ref p)) (hl : t.fixed = true → ∃ o', env[i]? = some o' ∧ o'.fixed = true) : Sta k G B (upd H p o) w σ (env.set i t) where
  bh := fun a u e => by
    have ne : a ≠ p := fun z => by
      subst z
      rw [S.wb a (by rw [hw]; exact fun z => nomatch z)] at e
      exact nomatch e
    rw [upd_ne ne]
    exact S.bh a u e
  b0 := S.b0
  fr := fun a h1 h2 h3 => by
    obtain ⟨x, y, z⟩ := S.fr a h1 h2 h3
    have ne : a ≠ p := fun e => by
      subst e
      rw [hw] at z
      exact nomatch z
    exact ⟨x, by rw [upd_ne ne]; exact y, z⟩
  wb := S.wb
  wh := fun a h => by
    by_cases ne : a = p
    · subst ne
      rw [upd_same]
      exact fun z => nomatch z
    · rw [upd_ne ne]
      exact S.wh a h
  len := by simpa using S.len
  sl := fun j o' h => by
    by_cases hj : i = j
    · subst hj
      rw [List.getElem?_set, if_pos rfl, if_pos hi] at h
      cases h
      exact .inr ⟨_, hv, r⟩
    · rw [List.getElem?_set_ne hj] at h
      rcases S.sl j o' h with e | ⟨v, hv', r'⟩
      · exact .inl e
      · refine .inr ⟨v, hv', r'.frame (.refl _) fun q ρ e => ⟨e, ?_⟩⟩
        have ne : q ≠ p := fun z => by
          subst z
          rw [hw] at e
          exact ends_ne (ρ := []) (ρ' := ρ) hj (by simpa using e)
        rw [upd_ne ne]
  fx := fx_env S.fx hl
theorem Sta.lset {i : Nat} {xs' : List OT} {vs' : List V} {p : Addr} (S : Sta k G B H w σ env) (hv : σ[i]? = some (some (.ref p))) (hw : w p = some [i]) (hi : i < env.length)
    (r : OReps k B H w [i] 0 xs' vs') : Sta k G B (upd H p (.lst vs')) w σ (env.set i (.lst xs')) := by
  refine S.root hv hw hi ?_ (fun h => nomatch h)
  simp only [ORep]
  refine ⟨p, vs', rfl, upd_same, hw, r.frame2 (.refl _) fun m q ρ e => ⟨e, ?_⟩⟩
  have ne : q ≠ p := fun z => by
    subst z
    rw [hw] at e
    have := congrArg (Option.map List.length) e
    simp at this
  rw [upd_ne ne]
end

section
variable {k : KC} {W : WX} {X : Cx} {pos p0 : Pos} {a b c : Expr} {fa fb fc : List OT → Option Dat} {es : List Expr} {fs : List OT → Option (List Dat)} {st : Stmt} {rest : List Stmt}
/-! ### statements -/
@[simp] def seqO (g h : List OT → Option Out) : List OT → Option Out := fun e => match g e with
  | some (.nx e1) => h e1
  | o => o
@[simp] def skipO : List OT → Option Out := fun e => some (.nx e)
theorem s_nil : PSs X [] (tS k W skipO) := pss_imp pss_nil fun D σ H ⟨G, B, w, env, o, S, h, q⟩ => by
  cases h
  exact q σ B H w S (.refl _)
theorem s_cons {g h : List OT → Option Out} (h1 : PS X st (tS k W g)) (h2 : PSs X rest (tS k W h)) : PSs X (st :: rest) (tS k W (seqO g h)) := pss_imp (pss_cons h1 h2) fun D σ H ⟨G, B, w, env, o, S, hh, q⟩ => by
  unfold seqO at hh
  split at hh
  · rename_i e1 hg
    exact ⟨G, B, w, env, _, S, hg, fun σ' B' H' w' S' m => ⟨G, B', w', e1, o, S', hh, q.mono m⟩⟩
  · rename_i hn
    refine ⟨G, B, w, env, o, S, hh, ?_⟩
    cases o with
    | nx e1 => exact absurd hh (hn e1)
    | bk e1 => exact q
    | ct e1 => exact q
    | rt o1 e1 => exact q
    | ex c ns xs e1 => exact q
theorem s_one {g : List OT → Option Out} (h1 : PS X st (tS k W g)) : PSs X [st] (tS k W g) := pss_one h1
@[simp] def setS (i : Nat) (f : List OT → Option Dat) : List OT → Option Out := fun e => match f e with
  | none => none
  | some d => some (.nx (e.set i (.sh d)))
theorem set_read {i : Nat} {D : Ends} {σ : L2.St} {H : Hp} (h : tS k W (setS i fa) D σ H) : tD k fa σ H fun x H1 => gName i x σ H1 D.nx := by
  obtain ⟨G, B, w, env, o, S, h, q⟩ := h
  cases e : fa env with
  | none => simp [setS, e] at h
  | some d =>
    simp only [setS, e] at h
    cases h
    exact ⟨G, B, w, env, d, S, e, fun v B1 H1 S1 m r => q _ _ _ _ (S1.set r) m.1⟩
theorem s_set (i : Nat) {x : Str} {e : Expr} {pos' : Pos} (hN : X.N.Nodup) (he : PE X e (tD k fa)) (hi : X.N[i]? = some x := by rfl) (hx : Loc X.env.scope x := by first | exact .inl rfl | exact .inr rfl) (hs : swapsWith e (some (.Name x pos')) pos.line X.env = pure false := by rfl) (hf : X.fn x = true ∨ X.env.scope.names.lookup x = some .local := by first | exact .inl rfl | exact .inr rfl | assumption) :
    PS X (.Assign [.Name x pos'] e pos) (tS k W (setS i fa)) := ps_imp (ps_set hN hi hx he hs hf) fun _ _ _ h => set_read h
/-- a value of one's own to a slot -/
@[simp] def setO (i : Nat) (f : List OT → Option OT) : List OT → Option Out := fun e => match f e with
  | none => none
  | some o => if i < e.length then some (.nx (e.set i o)) else none
theorem setO_read {i : Nat} {f : List OT → Option OT} {D : Ends} {σ : L2.St} {H : Hp} (h : tS k W (setO i f) D σ H) : tF k f σ H fun x H1 => gName i x σ H1 D.nx := by
  obtain ⟨G, B, w, env, o, S, h, q⟩ := h
  cases e : f env with
  | none => simp [setO, e] at h
  | some d =>
    simp only [setO, e] at h
    split at h
    · rename_i hi
      cases h
      exact ⟨G, B, w, env, d, S, e, fun v B1 H1 w1 S1 T m => q _ _ _ _ (S1.setO T hi) m.1⟩
    · cases h
theorem s_setO (i : Nat) {x : Str} {e : Expr} {f : List OT → Option OT} {pos' : Pos} (hN : X.N.Nodup) (he : PE X e (tF k f)) (hi : X.N[i]? = some x := by rfl) (hx : Loc X.env.scope x := by first | exact .inl rfl | exact .inr rfl) (hs : swapsWith e (some (.Name x pos')) pos.line X.env = pure false := by rfl) (hf : X.fn x = true ∨ X.env.scope.names.lookup x = some .local := by first | exact .inl rfl | exact .inr rfl | assumption) :
    PS X (.Assign [.Name x pos'] e pos) (tS k W (setO i f)) := ps_imp (ps_set hN hi hx he hs hf) fun _ _ _ h => setO_read h
/-- any target -/
@[simp] def asgS (f : List OT → Option Dat) (st : Dat → List OT → Option (List OT)) : List OT → Option Out := fun e => match f e with
  | none => none
  | some d => (st d e).map .nx
theorem s_asg {tg e : Expr} {st : Dat → List OT → Option (List OT)} (he : PE X e (tD k fa)) (hg : PG X tg (gD k st)) (hs : swapsWithSole [tg] e pos.line X.env = pure false := by rfl) (hw : swappedStores [tg] e X.env = pure none := by rfl)
    (h1 : (assignEach [tg] X.env).map (·.2) = [assign tg X.env] := by rfl) : PS X (.Assign [tg] e pos) (tS k W (asgS fa st)) := ps_imp (ps_asg he hg hs hw h1) fun D σ H ⟨G, B, w, env, o, S, h, q⟩ => by
  cases e : fa env with
  | none => simp [asgS, e] at h
  | some d =>
    simp only [asgS, e] at h
    cases e2 : st d env with
    | none => simp [e2] at h
    | some env' =>
      simp [e2] at h
      subst h
      exact ⟨G, B, w, env, d, S, e, fun v B1 H1 S1 m r => ⟨G, B1, w, env, d, env', S1, r, e2, fun σ' S2 => q _ _ _ _ S2 m.1⟩⟩
/-- a, b = x, y of plain names -/
@[simp] def parS (i j : Nat) (fs : List OT → Option (List Dat)) : List OT → Option Out := fun e => match fs e with
  | some [d, d'] => some (.nx ((e.set i (.sh d)).set j (.sh d')))
  | _ => none
theorem s_par {i j : Nat} {x y : Str} {px py pt : Pos} {kt k2 pt2} (hc : X.calm = true) (hN : X.N.Nodup) (ha : PA X [a, b] (tA k fs)) (hi : X.N[i]? = some x := by rfl) (hj : X.N[j]? = some y := by rfl) (hij : i ≠ j := by decide)
    (hx : X.env.scope.names.lookup x = some .local := by rfl) (hy : X.env.scope.names.lookup y = some .local := by rfl)
    (hw : swappedStores [.Tuple [.Name x px, .Name y py] kt pt] (.Tuple [a, b] k2 pt2) X.env = pure (some [x, y]) := by rfl)
    (hs : swapsWithSole [.Tuple [.Name x px, .Name y py] kt pt] (.Tuple [a, b] k2 pt2) pos.line X.env = pure false := by rfl) :
    PS X (.Assign [.Tuple [.Name x px, .Name y py] kt pt] (.Tuple [a, b] k2 pt2) pos) (tS k W (parS i j fs)) := ps_imp (ps_par hc hN hi hj hij hx hy ha hw hs) fun D σ H ⟨G, B, w, env, o, S, h, q⟩ => by
  unfold parS at h
  split at h
  · rename_i d d' e
    cases h
    refine ⟨G, B, w, env, _, S, e, fun vs B1 H1 S1 m r => ?_⟩
    obtain ⟨v, u, rfl, rv, ru⟩ := reps2 r
    exact ⟨v, u, rfl, q _ _ _ _ ((S1.set rv).set ru) m.1⟩
  · cases h
@[simp] def dropS (f : List OT → Option Dat) : List OT → Option Out := fun e => match f e with
  | none => none
  | some _ => some (.nx e)
theorem s_expr {e : Expr} (he : PE X e (tD k fa)) (hs : swapsWith e none pos.line X.env = pure false := by rfl) : PS X (.Expr e pos) (tS k W (dropS fa)) := ps_imp (ps_expr he hs) fun D σ H ⟨G, B, w, env, o, S, h, q⟩ => by
  cases e : fa env with
  | none => simp [dropS, e] at h
  | some d =>
    simp only [dropS, e] at h
    cases h
    exact ⟨G, B, w, env, d, S, e, fun v B1 H1 S1 m r => q _ _ _ _ S1 m.1⟩
@[simp] def retS (f : List OT → Option Dat) : List OT → Option Out := fun e => match f e with
  | none => none
  | some d => some (.rt (.sh d) e)
theorem s_ret {e : Expr} (he : PE X e (tD k fa)) : PS X (.Return (some e) pos) (tS k W (retS fa)) := ps_imp (ps_ret he) fun D σ H ⟨G, B, w, env, o, S, h, q⟩ => by
  cases e : fa env with
  | none => simp [retS, e] at h
  | some d =>
    simp only [retS, e] at h
    cases h
    exact ⟨G, B, w, env, d, S, e, fun v B1 H1 S1 m r => q _ _ _ _ _ _ S1 (.shd r) m.1⟩
@[simp] def retO (f : List OT → Option OT) : List OT → Option Out := fun e => match f e with
  | none => none
  | some o => some (.rt o e)
theorem s_retO {e : Expr} {f : List OT → Option OT} (he : PE X e (tF k f)) : PS X (.Return (some e) pos) (tS k W (retO f)) := ps_imp (ps_ret he) fun D σ H ⟨G, B, w, env, o, S, h, q⟩ => by
  cases e : f env with
  | none => simp [retO, e] at h
  | some d =>
    simp only [retO, e] at h
    cases h
    exact ⟨G, B, w, env, d, S, e, fun v B1 H1 w1 S1 T m => q _ _ _ _ _ _ S1 T m.1⟩
@[simp] def retN : List OT → Option Out := fun e => some (.rt (.sh .non) e)
theorem s_retN : PS X (.Return none pos) (tS k W retN) := ps_imp ps_retN fun D σ H ⟨G, B, w, env, o, S, h, q⟩ => by
  cases h
  exact q .non σ B H w _ S (.shd (by simp only [Rep])) (.refl _)
/-- the own tree of slot i is handed out -/
def wOff (w : WM) (i : Nat) : WM := fun a => match w a with
  | some π => if π.getLast? = some i then none else some π
  | none => none
def wOf (w : WM) (i : Nat) : WM := fun a => match w a with
  | some π => if π.getLast? = some i then some π.dropLast else none
  | none => none
theorem Sta.take {k : KC} {G : Gh} {B H : Hp} {w : WM} {σ : L2.St} {env : List OT} {i : Nat} {o : OT} (S : Sta k G B H w σ env) (h : env[i]? = some o) (z : o.ok = true) :
    ∃ v, σ[i]? = some (some v) ∧ Sta k G B H (wOff w i) σ (env.set i .un) ∧ Vt k G B H (wOff w i) (wOf w i) o v := by
  have hi : i < env.length := (List.getElem?_eq_some_iff.mp h).1
  rcases S.sl i o h with e | ⟨v, hv, r⟩
  · subst e
    simp [OT.ok] at z
  · refine ⟨v, hv, ⟨S.bh, S.b0, fun a h1 h2 h3 => ?_, fun a h => S.wb a fun z => h (by unfold wOff; rw [z]), fun a h => S.wh a fun z => h (by unfold wOff; rw [z]), by simpa using S.len, fun j o' h' => ?_, fx_env S.fx fun h => nomatch h⟩, fun a h => ?_, r.move (.refl _) (fun p ρ e => ⟨?_, rfl⟩), OT.ok_fixed z⟩
    · obtain ⟨x, y, z⟩ := S.fr a h1 h2 h3
      exact ⟨x, y, by unfold wOff; rw [z]⟩
    · by_cases hj : i = j
      · subst hj
        rw [List.getElem?_set, if_pos rfl, if_pos hi] at h'
        cases h'
        exact .inl rfl
      · rw [List.getElem?_set_ne hj] at h'
        rcases S.sl j o' h' with e | ⟨u, hu, r'⟩
        · exact .inl e
        · refine .inr ⟨u, hu, r'.frame (.refl _) fun p ρ e => ⟨?_, rfl⟩⟩
          unfold wOff
          rw [e]
          have n2 : ¬ j = i := fun z => hj z.symm
          simp [n2]
    · unfold wOf at h
      cases e : w a with
      | none => simp [e] at h
      | some π =>
        have hw : w a ≠ none := by rw [e]; exact fun z => nomatch z
        by_cases hl : π.getLast? = some i
        · refine ⟨by simp [wOff, e, hl], S.wb a hw, S.wh a hw, fun h1 h2 => ?_⟩
          apply Classical.byContradiction
          intro h3
          exact hw (S.fr a h1 h2 h3).2.2
        · simp [e, hl] at h
    · unfold wOf
      rw [e]
      simp
@[simp] def retV (i : Nat) : List OT → Option Out := fun e => match e[i]? with
  | some o => if o.ok then some (.rt o (e.set i .un)) else none
  | none => none
theorem s_retV (i : Nat) {x : Str} {pn : Pos} (hN : X.N[i]? = some x := by rfl) (hv : Vis X.env.scope x := by first | exact Or.inl rfl | exact Or.inr (Or.inl rfl) | exact Or.inr (Or.inr rfl)) (hd : (x == ("__debug__" : Str)) = false := by decide)
    (hcd : (x == ("__classdict__" : Str)) = false := by decide) : PS X (.Return (some (.Name x pn)) pos) (tS k W (retV i)) := ps_imp (ps_ret (pe_var hN hv hd hcd)) fun D σ H ⟨G, B, w, env, o, S, h, q⟩ => by
  unfold retV at h
  split at h
  · rename_i o' e
    split at h
    · rename_i z
      cases h
      obtain ⟨v, hv, S1, T1⟩ := S.take e z
      exact ⟨v, hv, q _ _ _ _ _ _ S1 T1 (.refl _)⟩
    · cases h
  · cases h
@[simp] def ifS (c : List OT → Option Bool) (g h : List OT → Option Out) : List OT → Option Out := fun e => match c e with
  | none => none
  | some true => g e
  | some false => h e
theorem s_if {c : Expr} {s1 s2 : List Stmt} {fc : List OT → Option Bool} {g h : List OT → Option Out} (hc : PT X c (tT k fc)) (h1 : PSs X s1 (tS k W g)) (h2 : PSs X s2 (tS k W h)) : PS X (.If c s1 s2 pos) (tS k W (ifS fc g h)) :=
  ps_imp (ps_if hc h1 h2) fun D σ H ⟨G, B, w, env, o, S, hh, q⟩ => by
    cases e : fc env with
    | none => simp [ifS, e] at hh
    | some t =>
      refine ⟨G, B, w, env, t, S, e, fun B1 H1 S1 m => ?_⟩
      cases t with
      | true =>
        simp [ifS, e] at hh
        exact iteT ⟨G, B1, w, env, o, S1, hh, q.mono m.1⟩
      | false =>
        simp [ifS, e] at hh
        exact iteF ⟨G, B1, w, env, o, S1, hh, q.mono m.1⟩
@[simp] def brkO : List OT → Option Out := fun e => some (.bk e)
@[simp] def cntO : List OT → Option Out := fun e => some (.ct e)
theorem s_break : PS X (.Break pos) (tS k W brkO) := ps_imp ps_break fun D σ H ⟨G, B, w, env, o, S, h, q⟩ => by
  cases h
  exact q σ B H w S (.refl _)
theorem s_continue : PS X (.Continue pos) (tS k W cntO) := ps_imp ps_continue fun D σ H ⟨G, B, w, env, o, S, h, q⟩ => by
  cases h
  exact q σ B H w S (.refl _)
theorem s_pass : PS X (.Pass pos) (tS k W skipO) := ps_imp ps_pass fun D σ H ⟨G, B, w, env, o, S, h, q⟩ => by
  cases h
  exact q σ B H w S (.refl _)
/-- what the proof never comes to -/
@[simp] def nevO : List OT → Option Out := fun _ => none
theorem s_never : PS X st (tS k W nevO) := ps_imp ps_never fun D σ H ⟨G, B, w, env, o, S, h, q⟩ => by cases h
theorem ss_never {sts : List Stmt} : PSs X sts (tS k W nevO) := pss_imp pss_never fun D σ H ⟨G, B, w, env, o, S, h, q⟩ => by cases h

/-! ### loops -/
def loopS (st : Dat → List OT → Option (List OT)) (body : List OT → Option Out) : List Dat → List OT → Option Out
  | [], e => some (.nx e)
  | d :: ds, e => match st d e with
    | none => none
    | some e1 => match body e1 with
      | some (.nx e2) => loopS st body ds e2
      | some (.ct e2) => loopS st body ds e2
      | some (.bk e2) => some (.nx e2)
      | some (.rt o e2) => some (.rt o e2)
      | some (.ex c ns xs e2) => some (.ex c ns xs e2)
      | none => none
def forS (src : List OT → Option (List Dat)) (st : Dat → List OT → Option (List OT)) (body : List OT → Option Out) : List OT → Option Out := fun e => match src e with
  | none => none
  | some ds => loopS st body ds e
theorem s_for {iter tg : Expr} {body : List Stmt} {src : List OT → Option (List Dat)} {st : Dat → List OT → Option (List OT)} {g : List OT → Option Out} (hp : PassesOwn (model X.prog X.w) X.A X.env X.xe) (hc : X.calm = true) (hi : PI X tg iter (tI k src)) (hg : PG X tg (gD k st)) (hb : PSs X body (tS k W g))
    (hs : ∀ x, foldedSetIterable iter X.env x = pure x := by intro _; rfl) : PS X (.For tg iter body [] pos) (tS k W (forS src st g)) :=
  ps_imp (ps_for hp hc hi hg hb hs) fun D σ H ⟨G, B, w, env, o, S, h, q⟩ => by
    cases e : src env with
    | none => simp [forS, e] at h
    | some ds =>
      simp only [forS, e] at h
      refine ⟨G, B, w, env, ds, S, e, fun J B1 H1 S1 m W => ?_⟩
      refine ⟨fun i n σ' H' => n = ds.length - i ∧ i ≤ ds.length ∧ ∃ B' w' env', Sta k G B' H' w' σ' env' ∧ Same B1 B' ∧ loopS st g (ds.drop i) env' = some o, ⟨ds.length, by simp, Nat.zero_le _, B1, w, env, S1, .refl _, h⟩, ?_⟩
      rintro i n σ' H' ⟨rfl, hi, B', w', env', S', m', hl⟩
      by_cases hlt : i < ds.length
      · have hd : ds[i]? = some ds[i] := by simp [hlt]
        rw [List.drop_eq_getElem_cons hlt] at hl
        simp only [loopS] at hl
        cases e1 : st ds[i] env' with
        | none => simp [e1] at hl
        | some env1 =>
          simp only [e1] at hl
          refine .inr ⟨W.go i _ B' H' m' S'.bh hd, fun σ2 H2 => ∃ B2 w2 env2, Sta k G B2 H2 w2 σ2 env2 ∧ Same B1 B2 ∧ loopS st g (ds.drop (i + 1)) env2 = some o, fun σ2 H2 z => ⟨ds.length - (i + 1), by omega, rfl, by omega, z⟩, fun x H2 y => ?_⟩
          obtain ⟨B2, gr, r⟩ := W.yld i _ B' H' x H2 m' S'.bh hd y
          have S2 := S'.grow gr
          have m2 := (gr.all S'.bh).2.1
          refine ⟨G, B2, w', env', ds[i], env1, S2, r, e1, fun σ3 S3 => ?_⟩
          cases e2 : g env1 with
          | none => simp [e2] at hl
          | some out =>
            refine ⟨G, B2, w', env1, out, S3, e2, ?_⟩
            simp only [e2] at hl
            cases out with
            | nx e3 => exact fun σ4 B4 H4 w4 S4 m4 => ⟨B4, w4, e3, S4, (m'.trans m2).trans m4, hl⟩
            | ct e3 => exact fun σ4 B4 H4 w4 S4 m4 => ⟨B4, w4, e3, S4, (m'.trans m2).trans m4, hl⟩
            | bk e3 =>
              cases hl
              exact fun σ4 B4 H4 w4 S4 m4 => q σ4 B4 H4 w4 S4 (m.1.trans ((m'.trans m2).trans m4))
            | rt o3 e3 =>
              cases hl
              exact fun v σ4 B4 H4 w4 w5 S4 T4 m4 => q v σ4 B4 H4 w4 w5 S4 T4 (m.1.trans ((m'.trans m2).trans m4))
            | ex c3 n3 x3 e3 =>
              cases hl
              exact fun cls d σ4 B4 H4 w4 S4 m4 r4 => q cls d σ4 B4 H4 w4 S4 (m.1.trans ((m'.trans m2).trans m4)) r4
      · have ei : i = ds.length := by omega
        subst ei
        rw [List.drop_length] at hl
        simp only [loopS] at hl
        cases hl
        exact .inl ⟨W.stop B' H' m' S'.bh, q σ' B' H' w' S' (m.1.trans m')⟩
def whileF (c : List OT → Option Bool) (g : List OT → Option Out) : Nat → List OT → Option Out
  | 0, _ => none
  | n + 1, e => match c e with
    | none => none
    | some false => some (.nx e)
    | some true => match g e with
      | some (.nx e1) => whileF c g n e1
      | some (.ct e1) => whileF c g n e1
      | some (.bk e1) => some (.nx e1)
      | some (.rt o e1) => some (.rt o e1)
      | some (.ex c ns xs e1) => some (.ex c ns xs e1)
      | none => none
theorem whileF_more {c : List OT → Option Bool} {g : List OT → Option Out} : ∀ {n : Nat} {e : List OT} {o : Out}, whileF c g n e = some o → ∀ m, n ≤ m → whileF c g m e = some o
  | 0, e, o, h, m, hm => by simp [whileF] at h
  | n + 1, e, o, h, 0, hm => by omega
  | n + 1, e, o, h, m + 1, hm => by
    simp only [whileF] at h ⊢
    cases e1 : c e with
    | none => simp [e1] at h
    | some t =>
      cases t with
      | false => simpa [e1] using h
      | true =>
        simp only [e1] at h ⊢
        cases e2 : g e with
        | none => simp [e2] at h
        | some out =>
          cases out with
          | nx e3 =>
            simp only [e2] at h ⊢
            exact whileF_more h m (by omega)
          | ct e3 =>
            simp only [e2] at h ⊢
            exact whileF_more h m (by omega)
          | bk e3 => simpa [e2] using h
          | rt o3 e3 => simpa [e2] using h
          | ex c3 n3 x3 e3 => simpa [e2] using h
open Classical in
noncomputable def whileS (c : List OT → Option Bool) (g : List OT → Option Out) : List OT → Option Out := fun e =>
  if h : ∃ n o, whileF c g n e = some o then some (Classical.choose (Classical.choose_spec h)) else none
theorem while_of {c : List OT → Option Bool} {g : List OT → Option Out} {n : Nat} {e : List OT} {o : Out} (h : whileF c g n e = some o) : whileS c g e = some o := by
  have hh : ∃ n o, whileF c g n e = some o := ⟨n, o, h⟩
  unfold whileS
  rw [dif_pos hh]
  have z := Classical.choose_spec (Classical.choose_spec hh)
  have a := whileF_more h (max n (Classical.choose hh)) (Nat.le_max_left _ _)
  have b := whileF_more z (max n (Classical.choose hh)) (Nat.le_max_right _ _)
  rw [a] at b
  exact b.symm
theorem of_while {c : List OT → Option Bool} {g : List OT → Option Out} {e : List OT} {o : Out} (h : whileS c g e = some o) : ∃ n, whileF c g n e = some o := by
  unfold whileS at h
  split at h
  · rename_i hh
    cases h
    exact ⟨_, Classical.choose_spec (Classical.choose_spec hh)⟩
  · cases h
theorem while_stop {c : List OT → Option Bool} {g : List OT → Option Out} {e : List OT} (h : c e = some false) : whileS c g e = some (.nx e) := while_of (n := 1) (by simp [whileF, h])
theorem while_step {c : List OT → Option Bool} {g : List OT → Option Out} {e e1 : List OT} {o : Out} (h : c e = some true) (h1 : g e = some (.nx e1)) (h2 : whileS c g e1 = some o) : whileS c g e = some o := by
  obtain ⟨n, hn⟩ := of_while h2
  exact while_of (n := n + 1) (by simp [whileF, h, h1, hn])
theorem while_stepc {c : List OT → Option Bool} {g : List OT → Option Out} {e e1 : List OT} {o : Out} (h : c e = some true) (h1 : g e = some (.ct e1)) (h2 : whileS c g e1 = some o) : whileS c g e = some o := by
  obtain ⟨n, hn⟩ := of_while h2
  exact while_of (n := n + 1) (by simp [whileF, h, h1, hn])
theorem while_ret {c : List OT → Option Bool} {g : List OT → Option Out} {e e1 : List OT} {o : OT} (h : c e = some true) (h1 : g e = some (.rt o e1)) : whileS c g e = some (.rt o e1) := while_of (n := 1) (by simp [whileF, h, h1])
theorem while_brk {c : List OT → Option Bool} {g : List OT → Option Out} {e e1 : List OT} (h : c e = some true) (h1 : g e = some (.bk e1)) : whileS c g e = some (.nx e1) := while_of (n := 1) (by simp [whileF, h, h1])
theorem s_while {c : Expr} {body : List Stmt} {fc : List OT → Option Bool} {g : List OT → Option Out} (hp : PassesOwn (model X.prog X.w) X.A X.env X.xe) (hc : PT X c (tT k fc)) (hb : PSs X body (tS k W g)) : PS X (.While c body [] pos) (tS k W (whileS fc g)) :=
  ps_imp (ps_while hp hc hb) fun D σ H ⟨G, B, w, env, o, S, h, q⟩ => by
    obtain ⟨n, hn⟩ := of_while h
    refine ⟨fun m σ' H' => ∃ B' w' env', Sta k G B' H' w' σ' env' ∧ Same B B' ∧ whileF fc g m env' = some o, ⟨n, B, w, env, S, .refl _, hn⟩, ?_⟩
    rintro m σ' H' ⟨B', w', env', S', m', hl⟩
    cases m with
    | zero => simp [whileF] at hl
    | succ m =>
      simp only [whileF] at hl
      cases e1 : fc env' with
      | none => simp [e1] at hl
      | some t =>
        refine ⟨G, B', w', env', t, S', e1, fun B1 H1 S1 m1 => ?_⟩
        cases t with
        | false =>
          simp [e1] at hl
          subst hl
          exact iteF (q σ' B1 H1 w' S1 (m'.trans m1.1))
        | true =>
          simp only [e1] at hl
          refine iteT ⟨fun σ2 H2 => ∃ B2 w2 env2, Sta k G B2 H2 w2 σ2 env2 ∧ Same B B2 ∧ whileF fc g m env2 = some o, fun σ2 H2 z => ⟨m, by omega, z⟩, ?_⟩
          cases e2 : g env' with
          | none => simp [e2] at hl
          | some out =>
            refine ⟨G, B1, w', env', out, S1, e2, ?_⟩
            simp only [e2] at hl
            cases out with
            | nx e3 => exact fun σ4 B4 H4 w4 S4 m4 => ⟨B4, w4, e3, S4, (m'.trans m1.1).trans m4, hl⟩
            | ct e3 => exact fun σ4 B4 H4 w4 S4 m4 => ⟨B4, w4, e3, S4, (m'.trans m1.1).trans m4, hl⟩
            | bk e3 =>
              cases hl
              exact fun σ4 B4 H4 w4 S4 m4 => q σ4 B4 H4 w4 S4 ((m'.trans m1.1).trans m4)
            | rt o3 e3 =>
              cases hl
              exact fun v σ4 B4 H4 w4 w5 S4 T4 m4 => q v σ4 B4 H4 w4 w5 S4 T4 ((m'.trans m1.1).trans m4)
            | ex c3 n3 x3 e3 =>
              cases hl
              exact fun cls d σ4 B4 H4 w4 S4 m4 r4 => q cls d σ4 B4 H4 w4 S4 ((m'.trans m1.1).trans m4) r4
end
end DL
namespace DL
open PySem L2 PyProof.Rows PySem.Spec
/-! ### comprehensions -/
def wipeE (e : List OT) : List Nat → List OT
  | [] => e
  | v :: vs => (wipeE e vs).set v .un
section
variable {k : KC} {G : Gh} {B H B' H' : Hp} {w : WM} {σ σ' : L2.St} {env env' : List OT}
theorem Sta.unset (S : Sta k G B H w σ env) (i : Nat) (u : Option V) : Sta k G B H w (σ.set i u) (env.set i .un) := ⟨S.bh, S.b0, S.fr, S.wb, S.wh, by simpa using S.len, fun j o h => by
  by_cases hj : i = j
  · subst hj
    rw [List.getElem?_set, if_pos rfl] at h
    split at h
    · cases h
      exact .inl rfl
    · cases h
  · rw [List.getElem?_set_ne hj] at h ⊢
    exact S.sl j o h, fx_set S.fx rfl⟩
theorem Sta.wipe (S : Sta k G B H w σ env) : ∀ vs : List Nat, Sta k G B H w (wipe σ vs) (wipeE env vs)
  | [] => S
  | v :: vs => (Sta.wipe S vs).unset v none
/-- back to the slots of before: the ways are the same, all stands -/
theorem Sta.back (S : Sta k G B H w σ env) (S' : Sta k G B' H' w σ' env') (m : Mv B H B' H') : Sta k G B' H' w σ env where
  bh := S'.bh
  b0 := S'.b0
  fr := S'.fr
  wb := S'.wb
  wh := S'.wh
  len := S.len
  sl := fun i o h => by
    rcases S.sl i o h with e | ⟨v, hv, r⟩
    · exact .inl e
    · refine .inr ⟨v, hv, r.frame m.1 fun p ρ e => ⟨e, ?_⟩⟩
      have z := S.wh p (by rw [e]; exact fun z => nomatch z)
      cases q : H p with
      | none => exact absurd q z
      | some u => exact m.2 p u q
  fx := S.fx
/-- an object that is being made: nobody's, kept out of the shared part -/
def wPh (w : WM) (D : Addr) : WM := fun a => if a = D then some [] else w a
theorem Sta.phan {D : Addr} {o : HO} (S : Sta k G B H w σ env) (hD : H D = none) : Sta k G B (upd H D o) (wPh w D) σ env where
  bh := S.bh.trans (same_newH hD)
  b0 := S.b0
  fr := fun a h1 h2 h3 => by
    obtain ⟨x, y, z⟩ := S.fr a h1 h2 h3
    have ne : a ≠ D := fun e => by
      subst e
      rw [y] at hD
      exact h2 hD
    exact ⟨x, by rw [upd_ne ne]; exact y, by unfold wPh; rw [if_neg ne]; exact z⟩
  wb := fun a h => by
    by_cases ne : a = D
    · subst ne
      exact S.bh.free hD
    · exact S.wb a fun z => h (by unfold wPh; rw [if_neg ne]; exact z)
  wh := fun a h => by
    by_cases ne : a = D
    · subst ne
      rw [upd_same]
      exact fun z => nomatch z
    · rw [upd_ne ne]
      exact S.wh a fun z => h (by unfold wPh; rw [if_neg ne]; exact z)
  len := S.len
  sl := fun i o h => by
    rcases S.sl i o h with e | ⟨v, hv, r⟩
    · exact .inl e
    · refine .inr ⟨v, hv, r.frame (.refl _) fun q ρ e => ?_⟩
      have ne : q ≠ D := fun z => by
        subst z
        exact S.wh q (by rw [e]; exact fun z => nomatch z) hD
      exact ⟨by unfold wPh; rw [if_neg ne]; exact e, by rw [upd_ne ne]⟩
  fx := S.fx
theorem Sta.phUp {D : Addr} {o : HO} (S : Sta k G B H (wPh w D) σ env) : Sta k G B (upd H D o) (wPh w D) σ env where
  bh := fun a u e => by
    have ne : a ≠ D := fun z => by
      subst z
      rw [S.wb a (by simp [wPh])] at e
      cases e
    rw [upd_ne ne]
    exact S.bh a u e
  b0 := S.b0
  fr := fun a h1 h2 h3 => by
    obtain ⟨x, y, z⟩ := S.fr a h1 h2 h3
    have ne : a ≠ D := fun e => by
      subst e
      simp [wPh] at z
    exact ⟨x, by rw [upd_ne ne]; exact y, z⟩
  wb := S.wb
  wh := fun a h => by
    by_cases ne : a = D
    · subst ne
      rw [upd_same]
      exact fun z => nomatch z
    · rw [upd_ne ne]
      exact S.wh a h
  len := S.len
  sl := fun i o h => by
    rcases S.sl i o h with e | ⟨v, hv, r⟩
    · exact .inl e
    · refine .inr ⟨v, hv, r.frame (.refl _) fun q ρ e => ⟨e, ?_⟩⟩
      have ne : q ≠ D := fun z => by
        subst z
        simp [wPh] at e
      rw [upd_ne ne]
  fx := S.fx
theorem Sta.unph {D : Addr} (S : Sta k G B H (wPh w D) σ env) (hw : w D = none) : Sta k G B H w σ env where
  bh := S.bh
  b0 := S.b0
  fr := fun a h1 h2 h3 => by
    obtain ⟨x, y, z⟩ := S.fr a h1 h2 h3
    refine ⟨x, y, ?_⟩
    by_cases ne : a = D
    · subst ne
      exact hw
    · unfold wPh at z
      rw [if_neg ne] at z
      exact z
  wb := fun a h => S.wb a (by
    unfold wPh
    split
    · exact fun z => nomatch z
    · exact h)
  wh := fun a h => S.wh a (by
    unfold wPh
    split
    · exact fun z => nomatch z
    · exact h)
  len := S.len
  sl := fun i o h => by
    rcases S.sl i o h with e | ⟨v, hv, r⟩
    · exact .inl e
    · refine .inr ⟨v, hv, r.frame (.refl _) fun q ρ e => ⟨?_, rfl⟩⟩
      have ne : q ≠ D := fun z => by
        subst z
        simp [wPh] at e
      unfold wPh at e
      rw [if_neg ne] at e
      exact e
  fx := S.fx
theorem wipe_get (τ : L2.St) (j : Nat) : ∀ (ws : List Nat), j ∈ ws → (wipe τ ws)[j]? = if j < τ.length then some none else none
  | [], z => by simp at z
  | x :: xs, z => by
    unfold wipe
    by_cases e : x = j
    · subst e
      rw [List.getElem?_set, if_pos rfl, wipe_length]
    · rw [List.getElem?_set_ne e]
      exact wipe_get τ j xs (by simpa [Ne.symm e] using z)
theorem wipe_wipe (τ : L2.St) (ws : List Nat) : wipe (wipe τ ws) ws = wipe τ ws := by
  apply List.ext_getElem?
  intro j
  by_cases hj : j ∈ ws
  · rw [wipe_get _ _ _ hj, wipe_get _ _ _ hj, wipe_length]
  · rw [wipe_out hj]
end
def lcGo (st : Dat → List OT → Option (List OT)) (test : List OT → Option Bool) (elt : List OT → Option Dat) (e0 : List OT) : List Dat → Option (List Dat)
  | [] => some []
  | d :: ds => match st d e0 with
    | none => none
    | some e1 => match test e1 with
      | none => none
      | some false => lcGo st test elt e0 ds
      | some true => match elt e1 with
        | none => none
        | some y => match lcGo st test elt e0 ds with
          | none => none
          | some ys => some (y :: ys)
def lcF (src : List OT → Option (List Dat)) (own : List Nat) (st : Dat → List OT → Option (List OT)) (test : List OT → Option Bool) (elt : List OT → Option Dat) : List OT → Option OT := fun e => match src e with
  | none => none
  | some ds => if ds.length < 16000000 then match lcGo st test elt (wipeE e own) ds with
    | none => none
    | some ys => some (.lst (ys.map .sh))
    else none
@[simp] def yesB : List OT → Option Bool := fun _ => some true
section
variable {k : KC} {X : Cx} {pos p0 : Pos} {a b c : Expr} {fa fb fc : List OT → Option Dat} {es : List Expr} {fs : List OT → Option (List Dat)}
theorem pts_imp {ifs : List Expr} {t t' : TT} (h : PTs X ifs t) (i : ∀ σ H Q, t' σ H Q → t σ H Q) : PTs X ifs t' := ⟨fun pins s σ H Q I q => h.run pins s σ H Q I (i σ H Q q)⟩
theorem c_yes : PTs X [] (tT k yesB) := pts_imp pts_nil fun σ H Q ⟨G, B, w, env, d, S, h, q⟩ => by
  cases h
  exact q B H S .refl
theorem c_one {f : List OT → Option Bool} (h : PT X c (tT k f)) : PTs X [c] (tT k f) := pts_one h
theorem set_set {σ σ2 : L2.St} {vs : List Nat} {i : Nat} {v : Option V} (hi : i ∈ vs) : ∀ (h : wipe (σ.set i v) vs = wipe σ2 vs), wipe σ vs = wipe σ2 vs := fun h => by
  rw [← h]
  clear h
  apply List.ext_getElem?
  intro j
  have gen : ∀ (τ : L2.St) (ws : List Nat), j ∈ ws → (wipe τ ws)[j]? = if j < τ.length then some none else none := by
    intro τ ws
    induction ws with
    | nil => intro z; simp at z
    | cons x xs ih =>
      intro z
      unfold wipe
      by_cases e : x = j
      · subst e
        rw [List.getElem?_set, if_pos rfl, wipe_length]
      · rw [List.getElem?_set_ne e]
        exact ih (by simpa [Ne.symm e] using z)
  have out : ∀ (τ : L2.St) (ws : List Nat), j ∉ ws → (wipe τ ws)[j]? = τ[j]? := fun τ ws z => wipe_out z
  by_cases hj : j ∈ vs
  · rw [gen _ _ hj, gen _ _ hj, List.length_set]
  · rw [out _ _ hj, out _ _ hj, List.getElem?_set_ne]
    exact fun e => hj (e ▸ hi)
/-- a target whose stores lie in the slots vs -/
def Within (k : KC) (g : TG) (st : Dat → List OT → Option (List OT)) (vs : List Nat) : Prop := ∀ (v : V) (τ : L2.St) (H : Hp) (Q : L2.St → Hp → Prop) (G : Gh) (B : Hp) (w : WM) (env : List OT) (d : Dat) (env' : List OT), Sta k G B H w τ env → Rep k B d v → st d env = some env' →
  (∀ τ', Sta k G B H w τ' env' → wipe τ' vs = wipe τ vs → Q τ' H) → g v τ H Q
theorem wipe_set {τ : L2.St} {i : Nat} {v : Option V} {vs : List Nat} (hi : i ∈ vs) : wipe (τ.set i v) vs = wipe τ vs := (set_set hi rfl).symm
theorem in_name {i : Nat} {vs : List Nat} (hi : i ∈ vs) : Within k (gName i) (toN i) vs := fun v τ H Q G B w env d env' S r h q => by
  cases h
  exact q _ (S.set r) (wipe_set hi)
def WithinS (k : KC) (g : TGs) (st : List Dat → List OT → Option (List OT)) (vs : List Nat) : Prop := ∀ (us : List V) (τ : L2.St) (H : Hp) (Q : L2.St → Hp → Prop) (G : Gh) (B : Hp) (w : WM) (env : List OT) (ds : List Dat) (env' : List OT), Sta k G B H w τ env → Reps k B ds us → st ds env = some env' →
  (∀ τ', Sta k G B H w τ' env' → wipe τ' vs = wipe τ vs → Q τ' H) → g us τ H Q
theorem in_nil {vs : List Nat} : WithinS k gNil toNil vs := fun us τ H Q G B w env ds env' S r h q => by
  unfold toNil at h
  split at h
  · cases h
    simp only [Reps] at r
    exact ⟨r, q _ S rfl⟩
  · cases h
theorem in_cons {g : TG} {gs : TGs} {st : Dat → List OT → Option (List OT)} {sts : List Dat → List OT → Option (List OT)} {vs : List Nat} (h1 : Within k g st vs) (h2 : WithinS k gs sts vs) : WithinS k (gCons g gs) (toCons st sts) vs := fun us τ H Q G B w env ds env' S r h q => by
  cases ds with
  | nil => simp [toCons] at h
  | cons d ds =>
    simp only [Reps] at r
    obtain ⟨v0, r0, rfl, h3, h4⟩ := r
    simp only [toCons] at h
    cases e : st d env with
    | none => simp [e] at h
    | some e1 =>
      simp only [e] at h
      exact ⟨v0, r0, rfl, h1 v0 τ H _ G B w env d e1 S h3 e fun τ1 S1 z1 => h2 r0 τ1 H _ G B w e1 ds env' S1 h4 h fun τ2 S2 z2 => q τ2 S2 (z2.trans z1)⟩
theorem in_tup {gs : TGs} {sts : List Dat → List OT → Option (List OT)} {vs : List Nat} {n : Nat} (h2 : WithinS k gs sts vs) : Within k (gTup k.K n gs) (toTup n sts) vs := fun v τ H Q G B w env d env' S r h q => by
  unfold toTup at h
  split at h
  · split at h
    · rename_i ds hl
      simp only [Rep] at r
      obtain ⟨p, us, rfl, h1, h3⟩ := r
      exact ⟨p, us, rfl, sqT_mono S.bh h1, by rw [← h3.length]; exact hl, h2 us τ H Q G B w env ds env' S h3 h q⟩
    · cases h
  · cases h
theorem lc_read {src : List OT → Option (List Dat)} {vs : List Nat} {g : TG} {st : Dat → List OT → Option (List OT)} {test : List OT → Option Bool} {elt : List OT → Option Dat} (hw : Within k g st vs) {σ : L2.St} {H : Hp} {Q : VK}
    (h : tF k (lcF src vs st test elt) σ H Q) : tLc (tI k src) g (tT k test) (tD k elt) vs σ H Q := by
  obtain ⟨G, B, w, env, o, S, h, q⟩ := h
  cases e : src env with
  | none => simp [lcF, e] at h
  | some ds =>
    simp only [lcF, e] at h
    split at h
    · rename_i hsz
      cases e2 : lcGo st test elt (wipeE env vs) ds with
      | none => simp [e2] at h
      | some ys =>
        simp only [e2] at h
        cases h
        refine ⟨G, B, w, env, ds, S, e, fun J B1 H1 S1 m W D hD => ?_⟩
        have nD := S1.nob hD
        have S0 : Sta k G B1 (upd H1 D (.lst [])) (wPh w D) (wipe σ vs) (wipeE env vs) := (S1.wipe vs).phan hD
        -- behind i items: acc is made, ys' is to come
        refine ⟨fun i n H' => n = ds.length - i ∧ i ≤ ds.length ∧ ∃ B' acc us ys', Sta k G B' H' (wPh w D) (wipe σ vs) (wipeE env vs) ∧ Mv B1 H1 B' H' ∧ H' D = some (.lst us) ∧ Reps k B' acc us ∧ acc.length ≤ i ∧ lcGo st test elt (wipeE env vs) (ds.drop i) = some ys' ∧ ys = acc ++ ys',
          ⟨ds.length, by simp, Nat.zero_le _, B1, [], [], ys, S0, ⟨.refl _, same_newH hD⟩, upd_same, .nil, Nat.zero_le _, e2, rfl⟩, ?_⟩
        rintro i n H' ⟨rfl, hi, B', acc, us, ys', S', m', hD', ra, hal, hgo, hys⟩
        by_cases hlt : i < ds.length
        · have hd : ds[i]? = some ds[i] := by simp [hlt]
          rw [List.drop_eq_getElem_cons hlt] at hgo
          simp only [lcGo] at hgo
          cases e3 : st ds[i] (wipeE env vs) with
          | none => simp [e3] at hgo
          | some env1 =>
            simp only [e3] at hgo
            refine .inr ⟨W.go i _ B' _ m'.1 S'.bh hd, fun H2 => ∃ B2 acc us ys', Sta k G B2 H2 (wPh w D) (wipe σ vs) (wipeE env vs) ∧ Mv B1 H1 B2 H2 ∧ H2 D = some (.lst us) ∧ Reps k B2 acc us ∧ acc.length ≤ i + 1 ∧ lcGo st test elt (wipeE env vs) (ds.drop (i + 1)) = some ys' ∧ ys = acc ++ ys', fun H2 z => ⟨ds.length - (i + 1), by omega, rfl, by omega, z⟩, fun x H2 y => ?_⟩
            obtain ⟨B2, gr, rx⟩ := W.yld i _ B' _ x H2 m'.1 S'.bh hd y
            have S2 := S'.grow gr
            have mg : Mv B' H' B2 H2 := (gr.all S'.bh).2
            refine hw x (wipe σ vs) H2 _ G B2 _ (wipeE env vs) ds[i] env1 S2 rx e3 fun τ S3 hτ => ⟨hτ.trans (wipe_wipe σ vs), ?_⟩
            cases e4 : test env1 with
            | none => simp [e4] at hgo
            | some t =>
              refine ⟨G, B2, _, env1, t, S3, e4, fun B4 H4 S4 m4 => ?_⟩
              have m5 : Mv B' H' B4 H4 := mg.trans m4
              have SB := S'.back S4 m5
              cases t with
              | false =>
                simp only [e4] at hgo
                exact iteF ⟨B4, acc, us, ys', SB, m'.trans m5, m5.2 D _ hD', ra.mono m5.1, by omega, hgo, hys⟩
              | true =>
                simp only [e4] at hgo
                cases e5 : elt env1 with
                | none => simp [e5] at hgo
                | some y1 =>
                  simp only [e5] at hgo
                  cases e6 : lcGo st test elt (wipeE env vs) (ds.drop (i + 1)) with
                  | none => simp [e6] at hgo
                  | some ys2 =>
                    simp only [e6] at hgo
                    cases hgo
                    refine iteT ⟨G, B4, _, env1, y1, S4, e5, fun v B6 H6 S6 m6 r6 => ?_⟩
                    have m7 : Mv B' H' B6 H6 := m5.trans m6
                    have SC := S'.back S6 m7
                    refine ⟨us, m7.2 D _ hD', by rw [← ra.length]; exact sl16' (by omega), B6, acc ++ [y1], us ++ [v], ys2, SC.phUp, ?_, upd_same, (ra.mono m7.1).append (.one r6), by simp; omega, rfl, by rw [hys]; simp⟩
                    refine ⟨(m'.trans m7).1, fun x u hx => ?_⟩
                    rw [upd_ne (ne_of_none hx hD)]
                    exact (m'.trans m7).2 x u hx
        · have ei : i = ds.length := by omega
          subst ei
          rw [List.drop_length] at hgo
          simp only [lcGo] at hgo
          cases hgo
          rw [List.append_nil] at hys
          subst hys
          refine .inl ⟨W.stop B' H' m'.1 S'.bh, ?_⟩
          have SE := S1.back (S'.unph nD.1) m'
          refine q (.ref D) B' H' (fun a => if a = D then some [] else none) SE ⟨fun a h => ?_, ?_, rfl⟩ (m.trans m')
          · have e : a = D := by
              by_cases z : a = D
              · exact z
              · simp [z] at h
            subst e
            exact ⟨nD.1, S'.wb a (by simp [wPh]), (by rw [hD']; exact fun z => by cases z), nD.2.2⟩
          · simp only [ORep]
            exact ⟨D, us, rfl, hD', by simp, OReps_sh ra⟩
    · cases h
end
end DL
namespace DL
open PySem L2 PyProof.Rows PySem.Spec
section
variable {k : KC} {W : WX} {X : Cx} {pos p0 : Pos} {a b c : Expr} {fa fb fc : List OT → Option Dat} {es : List Expr} {fs : List OT → Option (List Dat)} {src : List OT → Option (List Dat)} {own : List (Str × Nat)} {g : TG} {st : Dat → List OT → Option (List OT)} {test : List OT → Option Bool} {elt : List OT → Option Dat}
theorem f_lc {eltE tg iter : Expr} {ifs : List Expr} {scope : Scope} (own : List (Str × Nat)) (hc : X.calm = true) (hN : X.N.Nodup) (hi : PI X tg iter (tI k src)) (ok : BlkOk X.N X.env.scope scope own)
    (hg : ∀ (s : Shared) (H : Hp) (C : Addr) (cl : List (Str × Addr)) (fp : List Addr), PG (X.blk s H scope (compEnvC scope cl C X.env) fp) tg g) (hw : Within k g st (own.map (·.2))) (ht : ∀ (s : Shared) (H : Hp) (C : Addr) (cl : List (Str × Addr)) (fp : List Addr), PTs (X.blk s H scope (compEnvC scope cl C X.env) fp) ifs (tT k test))
    (he : ∀ (s : Shared) (H : Hp) (C : Addr) (cl : List (Str × Addr)) (fp : List Addr), PE (X.blk s H scope (compEnvC scope cl C X.env) fp) eltE (tD k elt)) (hs : ∀ x, foldedSetIterable iter X.env x = pure x := by intro _; rfl) :
    PE X (.ListComp eltE [⟨tg, iter, ifs, 0⟩] scope pos) (tF k (lcF src (own.map (·.2)) st test elt)) := pe_imp (pe_lc hc hN hi ok hg ht he hs) fun _ _ _ h => lc_read hw h
/-- name = [..]: own, or shared -/
theorem s_setLcO (i : Nat) {y : Str} {py spos : Pos} {eltE tg iter : Expr} {ifs : List Expr} {scope : Scope} (own : List (Str × Nat)) (hc : X.calm = true) (hN : X.N.Nodup)
    (hsw : swapsWith (.ListComp eltE [⟨tg, iter, ifs, 0⟩] scope pos) (some (.Name y py)) spos.line X.env = pure true) (hi : PI X tg iter (tI k src)) (ok : BlkOk X.N X.env.scope scope own)
    (hg : ∀ (s : Shared) (H : Hp) (C : Addr) (cl : List (Str × Addr)) (fp : List Addr), PG (X.blk s H scope (compEnvC scope cl C X.env) fp) tg g) (hw : Within k g st (own.map (·.2))) (ht : ∀ (s : Shared) (H : Hp) (C : Addr) (cl : List (Str × Addr)) (fp : List Addr), PTs (X.blk s H scope (compEnvC scope cl C X.env) fp) ifs (tT k test))
    (he : ∀ (s : Shared) (H : Hp) (C : Addr) (cl : List (Str × Addr)) (fp : List Addr), PE (X.blk s H scope (compEnvC scope cl C X.env) fp) eltE (tD k elt)) (hy : X.N[i]? = some y := by rfl) (hyl : X.env.scope.names.lookup y = some .local := by rfl) (hs : ∀ x, foldedSetIterable iter X.env x = pure x := by intro _; rfl) :
    PS X (.Assign [.Name y py] (.ListComp eltE [⟨tg, iter, ifs, 0⟩] scope pos) spos) (tS k W (setO i (lcF src (own.map (·.2)) st test elt))) := ps_imp (ps_setLc hc hN hy hyl hsw hi ok hg ht he hs) fun D σ H h => by
  have z := setO_read h
  show tLc _ _ _ _ _ σ H _
  exact lc_read hw z
theorem s_setLc (i : Nat) {y : Str} {py spos : Pos} {eltE tg iter : Expr} {ifs : List Expr} {scope : Scope} (own : List (Str × Nat)) (hc : X.calm = true) (hN : X.N.Nodup)
    (hsw : swapsWith (.ListComp eltE [⟨tg, iter, ifs, 0⟩] scope pos) (some (.Name y py)) spos.line X.env = pure true) (hi : PI X tg iter (tI k src)) (ok : BlkOk X.N X.env.scope scope own)
    (hg : ∀ (s : Shared) (H : Hp) (C : Addr) (cl : List (Str × Addr)) (fp : List Addr), PG (X.blk s H scope (compEnvC scope cl C X.env) fp) tg g) (hw : Within k g st (own.map (·.2))) (ht : ∀ (s : Shared) (H : Hp) (C : Addr) (cl : List (Str × Addr)) (fp : List Addr), PTs (X.blk s H scope (compEnvC scope cl C X.env) fp) ifs (tT k test))
    (he : ∀ (s : Shared) (H : Hp) (C : Addr) (cl : List (Str × Addr)) (fp : List Addr), PE (X.blk s H scope (compEnvC scope cl C X.env) fp) eltE (tD k elt)) (hy : X.N[i]? = some y := by rfl) (hyl : X.env.scope.names.lookup y = some .local := by rfl) (hs : ∀ x, foldedSetIterable iter X.env x = pure x := by intro _; rfl) :
    PS X (.Assign [.Name y py] (.ListComp eltE [⟨tg, iter, ifs, 0⟩] scope pos) spos) (tS k W (setS i (mlt (lcF src (own.map (·.2)) st test elt)))) := ps_imp (ps_setLc hc hN hy hyl hsw hi ok hg ht he hs) fun D σ H h => by
  obtain ⟨G, B, w, env, o, S, h, q⟩ := h
  show tLc _ _ _ _ _ σ H _
  refine lc_read hw ?_
  cases e : lcF src (own.map (·.2)) st test elt env with
  | none => simp [setS, mlt, e] at h
  | some o1 =>
    simp only [setS, mlt, e] at h
    split at h
    · cases h
    · rename_i d z
      split at z
      · rename_i zk
        cases z
        cases h
        refine ⟨G, B, w, env, o1, S, e, fun v B' H' w1 S' T m => ?_⟩
        obtain ⟨S2, r2⟩ := T.melt S' zk
        exact q _ _ _ _ (S2.set r2) (m.1.trans (same_put S'.bh))
      · cases z

/-! ### changes in place, at a slot's own list -/
@[simp] def appS (i : Nat) (f : List OT → Option Dat) : List OT → Option Out := fun e => match e[i]? with
  | some (.lst xs) => match f e with
    | none => none
    | some d => if xs.length < 16000000 then some (.nx (e.set i (.lst (xs ++ [.sh d])))) else none
  | _ => none
theorem s_app (i : Nat) {x : Str} {e : Expr} {px apos cpos : Pos} (hk : X.K = k.K) (he : PE X e (tD k fa)) (hN : X.N[i]? = some x := by rfl) (hv : Vis X.env.scope x := by first | exact Or.inl rfl | exact Or.inr (Or.inl rfl) | exact Or.inr (Or.inr rfl)) (hd : (x == ("__debug__" : Str)) = false := by decide)
    (hcd : (x == ("__classdict__" : Str)) = false := by decide) (hbase : attributeBase (.Name x px) "append" X.env (eval (.Name x px) X.env) = eval (.Name x px) X.env := by rfl)
    (hfew : ((backTo cpos (starEach [e] X.env)).all (fun x => !x.1) && (backToKw cpos (keywordEach [] X.env)).all (fun x => x.1.isSome)
      && decide (([e] : List Expr).length + ([] : List Keyword).length + (if ([] : List Keyword).isEmpty then 0 else 1) < 30)) = true := by rfl)
    (hline : (apos.endLine == cpos.line) = true := by rfl) (hs : starEach [e] X.env = (false, eval e X.env) :: starEach [] X.env := by rfl) (hplain : (backTo cpos (starEach [] X.env)).any (·.1) = false := by rfl) (hsw : swapsWith (.Call (.Attribute (.Name x px) "append" apos) [e] [] cpos) none pos.line X.env = pure false := by rfl) :
    PS X (.Expr (.Call (.Attribute (.Name x px) "append" apos) [e] [] cpos) pos) (tS k W (appS i fa)) :=
  ps_imp (ps_expr (pe_bm F.plainAttrs_list F.slot_list_append F.type_list_append mt_append (pe_var hN hv hd hcd) (pa_cons he pa_nil hs) hbase hfew hline hs hplain) hsw) fun D σ H ⟨G, B, w, env, o, S, h, q⟩ => by
    unfold appS at h
    split at h
    · rename_i xs e1
      cases e2 : fa env with
      | none => simp [e2] at h
      | some d =>
        simp only [e2] at h
        split at h
        · rename_i hl
          cases h
          obtain ⟨p, vs, hp, h1, h2, h3⟩ := S.lst e1
          refine ⟨_, hp, .inl ⟨rfl, vs, hk ▸ SqL.of h1⟩, G, B, w, env, d, S, e2, fun v B1 H1 S1 m r => ?_⟩
          obtain ⟨p', vs', hp', h4, h5, h6⟩ := S1.lst e1
          rw [hp] at hp'
          cases hp'
          refine ⟨p, vs', v, rfl, rfl, h4, by rw [← h6.length]; exact sl16' hl, ?_⟩
          exact q _ B1 _ w (S1.lset hp h5 (List.getElem?_eq_some_iff.mp e1).1 (h6.snoc r)) m.1
        · cases h
    · cases h
/-- x[n] = e -/
@[simp] def stiS (i : Nat) (fi fe : List OT → Option Dat) : List OT → Option Out := fun e => match fe e with
  | none => none
  | some d => match e[i]? with
    | some (.lst xs) => match fi e with
      | some (.int n) => match ixN xs.length n with
        | some j => some (.nx (e.set i (.lst (xs.set j (.sh d)))))
        | none => none
      | _ => none
    | _ => none
theorem s_sti (i : Nat) {x : Str} {e ix : Expr} {px spos : Pos} (he : PE X e (tD k fa)) (hix : PE X ix (tD k fb)) (hN : X.N[i]? = some x := by rfl) (hv : Vis X.env.scope x := by first | exact Or.inl rfl | exact Or.inr (Or.inl rfl) | exact Or.inr (Or.inr rfl)) (hd : (x == ("__debug__" : Str)) = false := by decide)
    (hcd : (x == ("__classdict__" : Str)) = false := by decide) (hs : swapsWithSole [.Subscript (.Name x px) ix spos] e pos.line X.env = pure false := by rfl) (hw : swappedStores [.Subscript (.Name x px) ix spos] e X.env = pure none := by rfl)
    (h1 : (assignEach [.Subscript (.Name x px) ix spos] X.env).map (·.2) = [assign (.Subscript (.Name x px) ix spos) X.env] := by rfl)
    (ha : ∀ v, assign (.Subscript (.Name x px) ix spos) X.env v = (do
      let ov ← holding [v] (eval (.Name x px) X.env)
      let iv ← holding [v, ov] (eval ix X.env)
      standAt spos
      holding [v, ov, iv] (setItem ov iv v)
      release [v, ov, iv] []) := by intro _; rfl) : PS X (.Assign [.Subscript (.Name x px) ix spos] e pos) (tS k W (stiS i fb fa)) :=
  ps_imp (ps_asg he (pg_sub (pe_var hN hv hd hcd) hix set_list ha) hs hw h1) fun D σ H ⟨G, B, w, env, o, S, h, q⟩ => by
    unfold stiS at h
    cases e0 : fa env with
    | none => simp [e0] at h
    | some d =>
      simp only [e0] at h
      split at h
      · rename_i xs e1
        split at h
        · rename_i n e2
          split at h
          · rename_i j e3
            cases h
            refine ⟨G, B, w, env, d, S, e0, fun v B1 H1 S1 m1 r1 => ?_⟩
            obtain ⟨p, vs, hp, h1, h2, h3⟩ := S1.lst e1
            refine ⟨_, hp, G, B1, w, env, _, S1, e2, fun u B2 H2 S2 m2 r2 => ?_⟩
            simp only [Rep] at r2
            obtain ⟨p', vs', hp', h4, h5, h6⟩ := S2.lst e1
            rw [hp] at hp'
            cases hp'
            exact ⟨p, vs', n, j, rfl, r2, h4, by rw [← h6.length]; exact e3, q _ B2 _ w (S2.lset hp h5 (List.getElem?_eq_some_iff.mp e1).1 (h6.set (r1.mono m2.1) j)) (m1.1.trans m2.1)⟩
          · cases h
        · cases h
      · cases h
/-- slot i's own tree is from here on shared -/
@[simp] def frzO (i : Nat) : List OT → Option (List OT) := fun e => match e[i]? with
  | some o => if o.ok then some (e.set i (.sh o.dat)) else none
  | none => none
@[simp] def frzS (i : Nat) (g : List OT → Option Out) : List OT → Option Out := fun e => match frzO i e with
  | none => none
  | some e1 => g e1
theorem frz_read {i : Nat} {gg : List OT → Option Out} {D : Ends} {σ : L2.St} {H : Hp} (h : tS k W (frzS i gg) D σ H) : tS k W gg D σ H := by
  obtain ⟨G, B, w, env, o, S, h, q⟩ := h
  unfold frzS frzO at h
  split at h
  · cases h
  · rename_i e1 z
    split at z
    · rename_i o' e2
      split at z
      · rename_i zk
        cases z
        exact ⟨G, _, _, _, o, S.frz e2 zk, h, q.mono (same_melt S.bh)⟩
      · cases z
    · cases z
theorem s_frz (i : Nat) {stt : Stmt} {gg : List OT → Option Out} (h : PS X stt (tS k W gg)) : PS X stt (tS k W (frzS i gg)) := ps_imp h fun _ _ _ h => frz_read h
/-- len(x), x[n], of a slot's own list -/
@[simp] def lenO (i : Nat) : List OT → Option Dat := fun e => match e[i]? with
  | some (.lst xs) => some (.int xs.length)
  | _ => none
theorem d_lenO (i : Nat) {x : Str} {px : Pos} (hk : X.K = k.K) (hm : X.mg "len" = none) (hN : X.N[i]? = some x := by rfl) (hv : Vis X.env.scope x := by first | exact Or.inl rfl | exact Or.inr (Or.inl rfl) | exact Or.inr (Or.inr rfl)) (hd : (x == ("__debug__" : Str)) = false := by decide)
    (hcd : (x == ("__classdict__" : Str)) = false := by decide) (hg : Gl X "len" := by rfl) (he : starEach [.Name x px] X.env = (false, eval (.Name x px) X.env) :: starEach [] X.env := by rfl) (hpl : (backTo pos (starEach [] X.env)).any (·.1) = false := by rfl) :
    PE X (.Call (.Name "len" p0) [.Name x px] [] pos) (tD k (lenO i)) := pe_imp (pe_callB (hk ▸ call_len) hg hm boot_len (pa_cons (pe_var hN hv hd hcd) pa_nil he) (by decide) (by decide) he hpl) fun σ H Q ⟨G, B, w, env, d, S, h, q⟩ => by
  unfold lenO at h
  split at h
  · rename_i xs e1
    cases h
    obtain ⟨p, vs, hp, h1, h2, h3⟩ := S.lst e1
    exact ⟨_, hp, _, vs.length, rfl, .inl ⟨vs, SqL.of h1, rfl⟩, q _ B H S .refl (by simp only [Rep]; rw [h3.length])⟩
  · cases h
@[simp] def ixO (i : Nat) (f : List OT → Option Dat) : List OT → Option Dat := fun e => match e[i]? with
  | some (.lst xs) => match f e with
    | some (.int n) => match atI xs n with
      | some (.sh d) => some d
      | _ => none
    | _ => none
  | _ => none
theorem OReps.get {B H : Hp} {w : WM} {π : List Nat} : ∀ {n : Nat} {os : List OT} {vs : List V} {i : Nat} {o : OT}, OReps k B H w π n os vs → os[i]? = some o → ∃ v, vs[i]? = some v ∧ ORep k B H w ((n + i) :: π) o v
  | n, [], vs, i, o, h, e => by simp at e
  | n, o0 :: os, vs, 0, o, h, e => by
    simp only [OReps] at h
    obtain ⟨v, r, rfl, h1, h2⟩ := h
    simp at e
    subst e
    exact ⟨v, rfl, h1⟩
  | n, o0 :: os, vs, i + 1, o, h, e => by
    simp only [OReps] at h
    obtain ⟨v, r, rfl, h1, h2⟩ := h
    simp at e
    obtain ⟨u, h3, h4⟩ := OReps.get h2 e
    exact ⟨u, by simpa using h3, by rw [show n + (i + 1) = n + 1 + i by omega]; exact h4⟩
theorem d_ixO (i : Nat) {x : Str} {px : Pos} {ix : Expr} (hk : X.K = k.K) (hix : PE X ix (tD k fa)) (hN : X.N[i]? = some x := by rfl) (hv : Vis X.env.scope x := by first | exact Or.inl rfl | exact Or.inr (Or.inl rfl) | exact Or.inr (Or.inr rfl)) (hd : (x == ("__debug__" : Str)) = false := by decide)
    (hcd : (x == ("__classdict__" : Str)) = false := by decide) (hs : PlainIx ix := by exact fun _ _ => rfl) : PE X (.Subscript (.Name x px) ix pos) (tD k (ixO i fa)) := pe_imp (pe_ix (hk ▸ ix_list) (pe_var hN hv hd hcd) hix hs) fun σ H Q ⟨G, B, w, env, d, S, h, q⟩ => by
  unfold ixO at h
  split at h
  · rename_i xs e1
    split at h
    · rename_i n e2
      split at h
      · rename_i d' e3
        cases h
        obtain ⟨p, vs, hp, h1, h2, h3⟩ := S.lst e1
        refine ⟨_, hp, G, B, w, env, _, S, e2, fun u B2 H2 S2 m2 r2 => ?_⟩
        simp only [Rep] at r2
        obtain ⟨p', vs', hp', h4, h5, h6⟩ := S2.lst e1
        rw [hp] at hp'
        cases hp'
        unfold atI at e3
        rw [h6.length] at e3
        cases e4 : ixN vs'.length n with
        | none => simp [e4] at e3
        | some j =>
          simp [e4] at e3
          obtain ⟨v, hv', r⟩ := h6.get e3
          simp only [ORep] at r
          exact ⟨p, vs', n, v, rfl, r2, SqL.of h4, by unfold atI; rw [e4]; exact hv', q v B2 H2 S2 m2 r⟩
      · cases h
    · cases h
  · cases h
end

/-! ### defs -/
def spP (k : KC) (n : Nat) (f : List Dat → Option OT) : Sp := fun vs H Q _ => ∃ B ds o, Same B H ∧ Reps k B ds vs ∧ ds.length = n ∧ f ds = some o ∧
  ∀ v B' H' w, Same B B' → Same B' H' → Same H H' → (∀ a, B a = none → H a ≠ none → B' a = none) → (∀ a, w a ≠ none → B' a = none ∧ H a = none ∧ H' a ≠ none) → ORep k B' H' w [] o v → o.fixed = false → Q v H'
/-- a def as a function of data: n parameters, N slots -/
def fnD (n N : Nat) (g : List OT → Option Out) : List Dat → Option OT := fun ds => if ds.length = n then
    match g (ds.map .sh ++ List.replicate (N - n) .un) with
    | some (.rt o _) => some o
    | some (.nx _) => some (.sh .non)
    | _ => none
  else none
theorem start_sta {k : KC} {B H : Hp} {N : List Str} {ds : List Dat} {vs : List V} (hs : Same B H) (r : Reps k B ds vs) (hl : ds.length ≤ N.length) :
    Sta k ⟨H, B, fun _ => False, fun _ => none⟩ B H (fun _ => none) (L2.start N vs) (ds.map .sh ++ List.replicate (N.length - ds.length) .un) where
  bh := hs
  b0 := .refl _
  fr := fun a h1 h2 h3 => ⟨h1, rfl, rfl⟩
  wb := fun a h => absurd rfl h
  wh := fun a h => absurd rfl h
  len := by
    unfold L2.start
    rw [List.length_append, List.length_append, List.length_map, List.length_map, List.length_replicate, List.length_replicate, r.length]
  sl := fun i o h => by
    unfold L2.start
    by_cases hi : i < ds.length
    · rw [List.getElem?_append_left (by simpa using hi), List.getElem?_map] at h
      cases e : ds[i]? with
      | none => simp [e] at h
      | some d =>
        simp [e] at h
        subst h
        obtain ⟨v, hv, q⟩ := r.get e
        refine .inr ⟨v, ?_, by simpa only [ORep] using q⟩
        rw [List.getElem?_append_left (by rw [List.length_map, ← r.length]; exact hi), List.getElem?_map, hv]
        rfl
    · rw [List.getElem?_append_right (by simpa using hi), List.getElem?_replicate] at h
      split at h
      · cases h
        exact .inl rfl
      · cases h
  fx := fun i o h z => by
    by_cases hi : i < ds.length
    · rw [List.getElem?_append_left (by simpa using hi), List.getElem?_map] at h
      cases e : ds[i]? with
      | none => simp [e] at h
      | some d =>
        simp [e] at h
        subst h
        cases z
    · rw [List.getElem?_append_right (by simpa using hi), List.getElem?_replicate] at h
      split at h
      · cases h
        cases z
      · cases h
section
variable {P : Program} {w : World} {K : PySem.W.Frag} {mg : Str → Option Value} {base : Heap} {k : KC}
theorem okD {x qual : Str} {st : Stmt} {f : Addr} {fd : FuncData} {N ps : List Str} {j : Nat} {g : List OT → Option Out} (F : Fun K x qual st f fd) (S : FnScope N ps (defScope st)) (hn : ps.length ≤ N.length)
    (hb : ∀ (cdv : Value) (A : Around) (outer : List Env) (s : Shared) (H : Hp) (E : XK), Room j (A.deeper (envOfC qual (defScope st) s.heap.objs.size f cdv)) → PSs (cxOf CX0 P w K mg base N qual (defScope st) f cdv A outer s H E).nox (defBody st) (tS k nW g)) :
    FnOk P w K mg base CX0 (j + 1) f fd ps (spP k ps.length (fnD ps.length N.length g)) := by
  refine F.ok S (fun vs H Q E h => ?_) (fun cdv A outer s H vs Q E hr h => ?_)
  · obtain ⟨B, ds, o, _, r, hl, _⟩ := h
    rw [← r.length, hl]
  · obtain ⟨B, ds, o, hs, r, hl, hf, q⟩ := h
    refine ⟨_, hb cdv A outer s H E hr, ?_⟩
    unfold fnD at hf
    rw [if_pos hl] at hf
    have S0 := start_sta (N := N) hs r (by omega)
    rw [hl] at S0
    split at hf
    · rename_i o' e' hg
      cases hf
      refine ⟨_, B, _, _, _, S0, hg, fun v σ' B' H' w' w1 S1 T m => ?_⟩
      have hH : Same H H' := fun a u hu => by
        by_cases hB : B a = none
        · have := (S1.fr a hB (show H a ≠ none by rw [hu]; exact fun z => nomatch z) (fun z => z)).2.1
          exact this.trans hu
        · cases hb' : B a with
          | none => exact absurd hb' hB
          | some u' =>
            have z := hs a u' hb'
            rw [hu] at z
            cases z
            exact S1.bh a u (m a u hb')
      refine q v B' H' w1 m S1.bh hH (fun a h1 h2 => (S1.fr a h1 h2 (fun z => z)).1) (fun a ha => ?_) T.rep T.nl
      obtain ⟨x1, x2, x3, x4⟩ := T.dis a ha
      refine ⟨x2, ?_, x3⟩
      cases hh : H a with
      | none => rfl
      | some u =>
        by_cases hB : B a = none
        · exact (x4 hB (by show H a ≠ none; rw [hh]; exact fun z => nomatch z)).elim
        · cases hb' : B a with
          | none => exact absurd hb' hB
          | some u' =>
            rw [m a u' hb'] at x2
            cases x2
    · rename_i e' hg
      cases hf
      refine ⟨_, B, _, _, _, S0, hg, fun σ' B' H' w' S1 m => ?_⟩
      have hH : Same H H' := fun a u hu => by
        by_cases hB : B a = none
        · have := (S1.fr a hB (show H a ≠ none by rw [hu]; exact fun z => nomatch z) (fun z => z)).2.1
          exact this.trans hu
        · cases hb' : B a with
          | none => exact absurd hb' hB
          | some u' =>
            have z := hs a u' hb'
            rw [hu] at z
            cases z
            exact S1.bh a u (m a u hb')
      exact q .non B' H' (fun _ => none) m S1.bh hH (fun a h1 h2 => (S1.fr a h1 h2 (fun z => z)).1) (fun a ha => absurd rfl ha) (by simp only [ORep, Rep]) rfl
    · cases hf
/-- a def of the text that may be called: at most level j, n arguments handed in -/
structure Fn (P : Program) (w : World) (K : PySem.W.Frag) (mg : Str → Option Value) (base : Heap) (k : KC) (j : Nat) (x : Str) (n : Nat) (f : List Dat → Option OT) : Prop where
  ex : ∃ (fa : Addr) (fd : FuncData) (ps : List Str) (dvs : List V) (dus : List Value) (dds : List Dat) (m : Nat) (f0 : List Dat → Option OT), FnOk P w K mg base CX0 j fa fd ps (spP k m f0) ∧ mg x = some (.ref fa) ∧ PySem.W.keepIn K (.ref fa) = true ∧ Binds K fd ps dus ∧ Vals dvs dus ∧
    (∀ B, Reps k B dds dvs) ∧ n + dds.length = m ∧ ∀ ds, ds.length = n → f ds = f0 (ds ++ dds)
theorem Fn.mk0 {j : Nat} {x : Str} {f : List Dat → Option OT} {fa : Addr} {fd : FuncData} {ps : List Str} (F : FnOk P w K mg base CX0 j fa fd ps (spP k ps.length f)) (hm : mg x = some (.ref fa)) (hk : PySem.W.keepIn K (.ref fa) = true) (hb : Binds K fd ps []) : Fn P w K mg base k j x ps.length f :=
  ⟨fa, fd, ps, [], [], [], ps.length, f, F, hm, hk, hb, .nil, fun _ => .nil, rfl, fun ds _ => by rw [List.append_nil]⟩
theorem Fn.mono {j j' n : Nat} {x : Str} {f : List Dat → Option OT} (F : Fn P w K mg base k j x n f) (h : j ≤ j') : Fn P w K mg base k j' x n f := by
  obtain ⟨fa, fd, ps, dvs, dus, dds, m, f0, F, r⟩ := F.ex
  exact ⟨fa, fd, ps, dvs, dus, dds, m, f0, F.mono h, r⟩
end
section
variable {k : KC} {X : Cx} {pos p0 : Pos} {e : Expr} {es : List Expr} {fs : List OT → Option (List Dat)}
@[simp] def callO (n : Nat) (f : List Dat → Option OT) (fs : List OT → Option (List Dat)) : List OT → Option OT := fun e => match fs e with
  | none => none
  | some ds => if ds.length = n then f ds else none
theorem call_core {n : Nat} {dvs : List V} {dds : List Dat} {m : Nat} {f0 : List Dat → Option OT} {G : Gh} {B1 H1 : Hp} {w : WM} {σ : L2.St} {env : List OT} {ds : List Dat} {vs : List V} {o : OT} {Q : VK} {E : XK}
    (hdd : ∀ B, Reps k B dds dvs) (hm : n + dds.length = m) (hl : ds.length = n) (hf : f0 (ds ++ dds) = some o) (S1 : Sta k G B1 H1 w σ env) (r1 : Reps k B1 ds vs)
    (q : ∀ v B' H' w1, Sta k G B' H' w σ env → Vt k G B' H' w w1 o v → Mv B1 H1 B' H' → Q v H') : spP k m f0 (vs ++ dvs) H1 Q E := by
  refine ⟨B1, ds ++ dds, o, S1.bh, r1.append (hdd B1), by rw [List.length_append, hl, hm], hf, fun v B' H' w1 m1 m2 m3 m4 m5 r nl => ?_⟩
  have SS : Sta k G B' H' w σ env := ⟨m2, S1.b0.trans m1, fun a h1 h2 h3 => by
      obtain ⟨x, y, z⟩ := S1.fr a h1 h2 h3
      have hh : H1 a ≠ none := by rw [y]; exact h2
      refine ⟨m4 a x hh, ?_, z⟩
      rw [← y]
      cases u : H1 a with
      | none => exact absurd u hh
      | some u' => exact m3 a u' u, fun a h => m4 a (S1.wb a h) (S1.wh a h), (fun a h => by
      cases u : H1 a with
      | none => exact absurd u (S1.wh a h)
      | some u' =>
        rw [m3 a u' u]
        exact fun z => by cases z), S1.len, (fun i o h => by
      rcases S1.sl i o h with e | ⟨u, hu, r'⟩
      · exact .inl e
      · refine .inr ⟨u, hu, r'.frame m1 fun p ρ e => ⟨e, ?_⟩⟩
        cases u : H1 p with
        | none => exact absurd u (S1.wh p (by rw [e]; exact fun z => nomatch z))
        | some u' => exact m3 p u' u), S1.fx⟩
  refine q v B' H' w1 SS ⟨fun a ha => ?_, r, nl⟩ ⟨m1, m3⟩
  obtain ⟨x1, x2, x3⟩ := m5 a ha
  have nn := S1.nob x2
  exact ⟨nn.1, x1, x3, nn.2.2⟩
theorem f_call {j n : Nat} {x : Str} {f : List Dat → Option OT} (F : Fn X.prog X.w X.K X.mg X.base k j x n f) (hr : Room j X.A) (ha : PA X (e :: es) (tA k fs)) (hg : Gl X x := by rfl) (hdb : (x == ("__debug__" : Str)) = false := by decide) (he : starEach (e :: es) X.env = (false, eval e X.env) :: starEach es X.env := by rfl) (hpl : (backTo pos (starEach es X.env)).any (·.1) = false := by rfl) :
    PE X (.Call (.Name x p0) (e :: es) [] pos) (tF k (callO n f fs)) := by
  obtain ⟨fa, fd, ps, dvs, dus, dds, m, f0, FF, hm, hk, hb, hv, hdd, hnm, hff⟩ := F.ex
  refine pe_imp (pe_call FF hr hg hm hk hb hv (E := fun _ _ _ => False) pass0 ha hdb he hpl) fun σ H Q ⟨G, B, w, env, o, S, h, q⟩ => ?_
  cases e1 : fs env with
  | none => simp [callO, e1] at h
  | some ds =>
    simp only [callO, e1] at h
    split at h
    · rename_i hl
      refine ⟨G, B, w, env, ds, S, e1, fun vs B1 H1 S1 m1 r1 => ?_⟩
      exact call_core hdd hnm hl (by rw [← hff ds hl]; exact h) S1 r1 fun v B' H' w1 S2 T m2 => q v B' H' w1 S2 T (m1.trans m2)
    · cases h
theorem f_call0 {j : Nat} {x : Str} {f : List Dat → Option OT} (F : Fn X.prog X.w X.K X.mg X.base k j x 0 f) (hr : Room j X.A) (hg : Gl X x := by rfl) (hdb : (x == ("__debug__" : Str)) = false := by decide) :
    PE X (.Call (.Name x p0) [] [] pos) (tF k (callO 0 f nilA)) := by
  obtain ⟨fa, fd, ps, dvs, dus, dds, m, f0, FF, hm, hk, hb, hv, hdd, hnm, hff⟩ := F.ex
  refine pe_imp (pe_call0 FF hr hg hm hk hb hv (E := fun _ _ _ => False) pass0 hdb) fun σ H Q ⟨G, B, w, env, o, S, h, q⟩ => ?_
  simp only [callO, nilA] at h
  rw [if_pos (show ([] : List Dat).length = 0 from rfl)] at h
  exact call_core (E := fun _ _ _ => False) hdd hnm (ds := []) (vs := []) rfl (by rw [← hff [] rfl]; exact h) S .nil fun v B' H' w1 S2 T m2 => q v B' H' w1 S2 T m2
/-- a call whose value is shared data -/
theorem d_call {j n : Nat} {x : Str} {f : List Dat → Option OT} (F : Fn X.prog X.w X.K X.mg X.base k j x n f) (hr : Room j X.A) (ha : PA X (e :: es) (tA k fs)) (hg : Gl X x := by rfl) (hdb : (x == ("__debug__" : Str)) = false := by decide) (he : starEach (e :: es) X.env = (false, eval e X.env) :: starEach es X.env := by rfl) (hpl : (backTo pos (starEach es X.env)).any (·.1) = false := by rfl) :
    PE X (.Call (.Name x p0) (e :: es) [] pos) (tD k (mlt (callO n f fs))) := d_mlt (f_call F hr ha hg hdb he hpl)
end
end DL
namespace DL
open PySem L2 PyProof.Rows PySem.Spec
/-! ### what is only looked at: it may be one's own -/
def tB (k : KC) (f : List OT → Option Dat) : TE := fun σ H Q => ∃ G B w env d, Sta k G B H w σ env ∧ f env = some d ∧ ∀ v B' H', Sta k G B' H' w σ env → Mv B H B' H' → Rep k H' d v → Q v H'
def tAB (k : KC) (f : List OT → Option (List Dat)) : TA := fun σ H Q => ∃ G B w env d, Sta k G B H w σ env ∧ f env = some d ∧ ∀ v B' H', Sta k G B' H' w σ env → Mv B H B' H' → Reps k H' d v → Q v H'
def Dat.sc : Dat → Bool
  | .non => true
  | .bl _ => true
  | .int _ => true
  | .str _ => true
  | _ => false
theorem sc_rep {k : KC} {B B' : Hp} {d : Dat} {v : V} (z : d.sc = true) (r : Rep k B d v) : Rep k B' d v := by
  cases d <;> first
    | (exact absurd z Bool.false_ne_true)
    | (simpa only [Rep] using r)
/-- a scalar alone -/
@[simp] def scO (f : List OT → Option Dat) : List OT → Option Dat := fun e => match f e with
  | some d => if d.sc then some d else none
  | none => none
theorem scO_some {f : List OT → Option Dat} {e : List OT} {d : Dat} (h : scO f e = some d) : f e = some d ∧ d.sc = true := by
  unfold scO at h
  split at h
  · rename_i d' e1
    split at h
    · rename_i z
      cases h
      exact ⟨e1, z⟩
    · cases h
  · cases h
theorem Grow.h {B H B1 H1 : Hp} (g : Grow B H B1 H1) : Same H H1 := by
  induction g with
  | refl => exact .refl _
  | new g hp ih => exact ih.trans (same_newH hp)
section
variable {k : KC} {G : Gh} {B H H' : Hp} {w : WM} {σ : L2.St} {env : List OT}
/-- the heap grew, the shared part is as it was -/
theorem Sta.up (S : Sta k G B H w σ env) (m : Same H H') : Sta k G B H' w σ env where
  bh := S.bh.trans m
  b0 := S.b0
  fr := fun a h1 h2 h3 => by
    obtain ⟨x, y, z⟩ := S.fr a h1 h2 h3
    refine ⟨x, ?_, z⟩
    rw [← y]
    cases u : H a with
    | none => rw [u] at y; exact absurd y.symm h2
    | some o => exact m a o u
  wb := S.wb
  wh := fun a h => by
    cases u : H a with
    | none => exact absurd u (S.wh a h)
    | some o =>
      rw [m a o u]
      exact fun z => by cases z
  len := S.len
  sl := fun i o h => by
    rcases S.sl i o h with e | ⟨v, hv, r⟩
    · exact .inl e
    · refine .inr ⟨v, hv, r.frame (.refl _) fun q ρ e => ⟨e, ?_⟩⟩
      cases u : H q with
      | none => exact absurd u (S.wh q (by rw [e]; exact fun z => nomatch z))
      | some o => exact m q o u
  fx := S.fx
end
section
variable {k : KC} {X : Cx} {pos p0 : Pos} {a b c : Expr} {fa fb fc : List OT → Option Dat} {e : Expr} {es : List Expr} {fs : List OT → Option (List Dat)}
theorem b_of (ha : PE X a (tD k fa)) : PE X a (tB k fa) := pe_imp ha fun σ H Q ⟨G, B, w, env, d, S, h, q⟩ => ⟨G, B, w, env, d, S, h, fun v B' H' S' m r => q v B' H' S' m (r.mono S'.bh)⟩
@[simp] def brw (i : Nat) : List OT → Option Dat := fun e => match e[i]? with
  | some o => if o.ok then some o.dat else none
  | none => none
theorem b_own (i : Nat) {x : Str} (hN : X.N[i]? = some x := by rfl) (hv : Vis X.env.scope x := by first | exact Or.inl rfl | exact Or.inr (Or.inl rfl) | exact Or.inr (Or.inr rfl)) (hd : (x == ("__debug__" : Str)) = false := by decide)
    (hcd : (x == ("__classdict__" : Str)) = false := by decide) : PE X (.Name x pos) (tB k (brw i)) := pe_imp (pe_var hN hv hd hcd) fun σ H Q ⟨G, B, w, env, d, S, h, q⟩ => by
  unfold brw at h
  split at h
  · rename_i o e1
    split at h
    · rename_i z
      cases h
      rcases S.sl i o e1 with e2 | ⟨v, hv, r⟩
      · subst e2
        simp [OT.ok] at z
      · exact ⟨v, hv, q v B H S .refl (r.melt S.bh (fun p ρ _ => rfl) z)⟩
    · cases h
  · cases h
theorem opB_read {r : R2} {g : Dat → Dat → Option Dat} (hr : RD k r g) {σ : L2.St} {H : Hp} {Q : VK} (h : tD k (scO (bin g fa fb)) σ H Q) : tOp r (tB k fa) (tB k fb) σ H Q := by
  obtain ⟨G, B, w, env, d, S, h, q⟩ := h
  obtain ⟨h, z⟩ := scO_some h
  obtain ⟨x, y, hx, hy, hg⟩ := bin_some h
  refine ⟨G, B, w, env, x, S, hx, fun v B1 H1 S1 m1 r1 => ⟨G, B1, w, env, y, S1, hy, fun u B2 H2 S2 m2 r2 => ?_⟩⟩
  exact hr H2 H2 x y d v u Q (.refl _) (r1.mono m2.2) r2 hg fun v' B' H' gr r3 => q v' B2 H' (S2.up gr.h) ((m1.trans m2).trans ⟨.refl _, gr.h⟩) (sc_rep z r3)
theorem d_cmpB {op : CmpOp} {r : R2} {g : Dat → Dat → Option Dat} (ho : OpR X (compareOp op) r) (hr : RD k r g) (ha : PE X a (tB k fa)) (hb : PE X b (tB k fb)) (hm : behindInMarks op b = false) : PE X (.Compare a [op] [b] pos) (tD k (scO (bin g fa fb))) :=
  pe_imp (pe_cmpR ho ha hb hm) fun _ _ _ h => opB_read hr h
theorem t_cmpB {op : CmpOp} {r : R2} {g : Dat → Dat → Option Dat} (ho : OpR X (compareOp op) r) (hr : RD k r g) (ha : PE X a (tB k fa)) (hb : PE X b (tB k fb)) (hm : behindInMarks op b = false) : PT X (.Compare a [op] [b] pos) (tT k (tst (scO (bin g fa fb)))) :=
  pt_imp (pt_cmpR ho ha hb hm) fun σ H Q ⟨G, B, w, env, d, S, h, q⟩ => by
    refine opB_read hr ⟨G, B, w, env, _, S, tst_some h, fun v B' H' S' m r => ?_⟩
    simp only [Rep] at r
    exact ⟨d, r, q B' H' S' m⟩
theorem d_eqB (hk : X.K = k.K) (hu : X.A.units + 64 < cLine) (ha : PE X a (tB k fa)) (hb : PE X b (tB k fb)) : PE X (.Compare a [.Eq] [b] pos) (tD k (scO (bin eqD fa fb))) := d_cmpB (op_eq.or (hk ▸ op_eqD hu)) rd_eq ha hb (nomark _)
theorem d_neB (hk : X.K = k.K) (hu : X.A.units + 64 < cLine) (ha : PE X a (tB k fa)) (hb : PE X b (tB k fb)) : PE X (.Compare a [.NotEq] [b] pos) (tD k (scO (bin neD fa fb))) := d_cmpB (op_ne.or (hk ▸ op_neD hu)) rd_ne ha hb (nomark _)
theorem t_eqB (hk : X.K = k.K) (hu : X.A.units + 64 < cLine) (ha : PE X a (tB k fa)) (hb : PE X b (tB k fb)) : PT X (.Compare a [.Eq] [b] pos) (tT k (tst (scO (bin eqD fa fb)))) := t_cmpB (op_eq.or (hk ▸ op_eqD hu)) rd_eq ha hb (nomark _)
theorem t_neB (hk : X.K = k.K) (hu : X.A.units + 64 < cLine) (ha : PE X a (tB k fa)) (hb : PE X b (tB k fb)) : PT X (.Compare a [.NotEq] [b] pos) (tT k (tst (scO (bin neD fa fb)))) := t_cmpB (op_ne.or (hk ▸ op_neD hu)) rd_ne ha hb (nomark _)
theorem a_nilB : PA X [] (tAB k nilA) := pa_imp pa_nil fun σ H Q ⟨G, B, w, env, d, S, h, q⟩ => by
  cases h
  exact q [] B H S .refl .nil
theorem a_consB (ha : PE X e (tB k fa)) (hr : PA X es (tAB k fs)) (hs : starEach (e :: es) X.env = (false, eval e X.env) :: starEach es X.env := by rfl) : PA X (e :: es) (tAB k (consA fa fs)) :=
  pa_imp (pa_cons ha hr hs) fun σ H Q ⟨G, B, w, env, d, S, h, q⟩ => by
    obtain ⟨x, xs, hx, hxs, rfl⟩ := consA_some h
    exact ⟨G, B, w, env, x, S, hx, fun v B1 H1 S1 m1 r1 => ⟨G, B1, w, env, xs, S1, hxs, fun vs B2 H2 S2 m2 r2 => q _ B2 H2 S2 (m1.trans m2) (.cons (r1.mono m2.2) r2)⟩⟩
theorem d_lenB (hk : X.K = k.K) (hm : X.mg "len" = none) (ha : PA X [e] (tAB k fs)) (hg : Gl X "len" := by rfl) (he : starEach [e] X.env = (false, eval e X.env) :: starEach [] X.env := by rfl) (hpl : (backTo pos (starEach [] X.env)).any (·.1) = false := by rfl) : PE X (.Call (.Name "len" p0) [e] [] pos) (tD k (scO (cal lenD fs))) :=
  pe_imp (pe_callB (hk ▸ call_len) hg hm boot_len ha (by decide) (by decide) he hpl) fun σ H Q ⟨G, B, w, env, d, S, h, q⟩ => by
    obtain ⟨h, z⟩ := scO_some h
    cases e1 : fs env with
    | none => simp [cal, e1] at h
    | some ds =>
      simp only [cal, e1] at h
      exact ⟨G, B, w, env, ds, S, e1, fun vs B1 H1 S1 m r1 => rc_len H1 H1 ds d vs Q (.refl _) r1 h fun v' B' H' gr r3 => q v' B1 H' (S1.up gr.h) (m.trans ⟨.refl _, gr.h⟩) (sc_rep z r3)⟩
/-- a call that looks at one's own things and hands back a scalar -/
@[simp] def callB (n : Nat) (f : List Dat → Option OT) (fs : List OT → Option (List Dat)) : List OT → Option Dat := fun e => match fs e with
  | none => none
  | some ds => if ds.length = n then match f ds with
      | some (.sh d) => if d.sc then some d else none
      | _ => none
    else none
theorem d_callB {j n : Nat} {x : Str} {f : List Dat → Option OT} (F : Fn X.prog X.w X.K X.mg X.base k j x n f) (hr : Room j X.A) (ha : PA X (e :: es) (tAB k fs)) (hg : Gl X x := by rfl) (hdb : (x == ("__debug__" : Str)) = false := by decide) (he : starEach (e :: es) X.env = (false, eval e X.env) :: starEach es X.env := by rfl) (hpl : (backTo pos (starEach es X.env)).any (·.1) = false := by rfl) :
    PE X (.Call (.Name x p0) (e :: es) [] pos) (tD k (callB n f fs)) := by
  obtain ⟨fa, fd, ps, dvs, dus, dds, m, f0, FF, hm, hk, hb, hv, hdd, hnm, hff⟩ := F.ex
  refine pe_imp (pe_call FF hr hg hm hk hb hv (E := fun _ _ _ => False) pass0 ha hdb he hpl) fun σ H Q ⟨G, B, w, env, o, S, h, q⟩ => ?_
  cases e1 : fs env with
  | none => simp [callB, e1] at h
  | some ds =>
    simp only [callB, e1] at h
    split at h
    · rename_i hl
      split at h
      · rename_i d e2
        split at h
        · rename_i z
          cases h
          refine ⟨G, B, w, env, ds, S, e1, fun vs B1 H1 S1 m1 r1 => ?_⟩
          refine ⟨H1, ds ++ dds, _, .refl _, r1.append (hdd H1), by rw [List.length_append, hl, hnm], (hff ds hl).symm.trans e2, fun v B' H' w1 m2 m3 m4 _ _ r _ => ?_⟩
          simp only [ORep] at r
          exact q v B1 H' (S1.up m4) (m1.trans ⟨.refl _, m4⟩) (sc_rep z r)
        · cases h
      · cases h
    · cases h
end
end DL
namespace DL
open PySem L2 PyProof.Rows PySem.Spec
section
variable {k : KC} {X : Cx} {pos p0 : Pos} {a b c : Expr} {fa fb fc : List OT → Option Dat} {e : Expr} {es : List Expr} {fs : List OT → Option (List Dat)}
/-- + of ints, texts, lists -/
def sumD : Dat → Dat → Option Dat
  | .lst xs, .lst ys => if xs.length + ys.length ≤ 16000000 then some (.lst (xs ++ ys)) else none
  | x, y => addD x y
theorem rd_add : RD k (fun x y H Q => (rI0 fun i j => .int (i + j)) x y H Q ∨ ∃ i j, x = .str i ∧ y = .str j ∧ i.length + j.length ≤ sizeLine ∧ Q (.str (i ++ j)) H) addD := fun B H x y d v u Q hs rx ry e q => by
  unfold addD at e
  split at e
  · rename_i i j
    cases e
    simp only [Rep] at rx ry
    subst rx ry
    exact .inl ⟨i, j, rfl, rfl, q _ B H .refl (by simp only [Rep])⟩
  · rename_i i j
    split at e
    · rename_i hl
      cases e
      simp only [Rep] at rx ry
      subst rx ry
      exact .inr ⟨i, j, rfl, rfl, sl16 hl, q _ B H .refl (by simp only [Rep])⟩
    · cases e
  · cases e
theorem d_sum (hk : X.K = k.K) (ha : PE X a (tD k fa)) (hb : PE X b (tD k fb)) : PE X (.BinOp a .Add b pos) (tD k (bin sumD fa fb)) := d_op ((hk ▸ op_catR : OpR X (binaryOp .Add) (rCatR k.K)).or (op_add.or op_add_str)) (fun B H x y d v u Q hs rx ry e q => by
  unfold sumD at e
  split at e
  · rename_i xs ys
    split at e
    · rename_i hl
      cases e
      simp only [Rep] at rx ry
      obtain ⟨p, vs, rfl, h1, h2⟩ := rx
      obtain ⟨p', us, rfl, h3, h4⟩ := ry
      refine .inl ⟨p, p', vs, us, rfl, rfl, sqR hs h1, sqR hs h3, by rw [← h2.length, ← h4.length]; exact sl16 hl, fun q1 hq => q _ _ _ (.new .refl hq) ?_⟩
      simp only [Rep]
      exact ⟨q1, vs ++ us, rfl, .of upd_same, (h2.append h4).mono (same_new hs hq)⟩
    · cases e
  · exact .inr (rd_add B H x y d v u Q hs rx ry e q)) ha hb
/-- * of ints, a list by an int -/
def prdD : Dat → Dat → Option Dat
  | .lst xs, .int n => if -(2 ^ 63) ≤ n ∧ n < 2 ^ 63 ∧ xs.length * n.toNat ≤ 16000000 then some (.lst (List.replicate n.toNat xs).flatten) else none
  | x, y => mulD x y
theorem d_prd (hk : X.K = k.K) (ha : PE X a (tD k fa)) (hb : PE X b (tD k fb)) : PE X (.BinOp a .Mult b pos) (tD k (bin prdD fa fb)) := d_op ((hk ▸ op_repR : OpR X (binaryOp .Mult) (rRepR k.K)).or op_mulA) (fun B H x y d v u Q hs rx ry e q => by
  unfold prdD at e
  split at e
  · rename_i xs n
    split at e
    · rename_i hl
      cases e
      simp only [Rep] at rx ry
      obtain ⟨p, vs, rfl, h1, h2⟩ := rx
      subst ry
      refine .inl ⟨p, n, vs, rfl, rfl, sqR hs h1, hl.1, hl.2.1, by rw [← h2.length]; exact sl16 hl.2.2, fun q1 hq => q _ _ _ (.new .refl hq) ?_⟩
      simp only [Rep]
      exact ⟨q1, _, rfl, .of upd_same, (h2.rep n.toNat).mono (same_new hs hq)⟩
    · cases e
  · unfold mulD at e
    split at e
    · split at e
      · rename_i hc
        cases e
        simp only [Rep] at rx ry
        subst rx ry
        exact .inr ⟨_, _, rfl, rfl, hc, q _ B H .refl (by simp only [Rep])⟩
      · cases e
    · cases e) ha hb
@[simp] def negD (f : List OT → Option Dat) : List OT → Option Dat := fun e => match f e with
  | some (.int i) => some (.int (-i))
  | _ => none
theorem d_neg (ha : PE X a (tD k fa)) : PE X (.UnaryOp .USub a pos) (tD k (negD fa)) := pe_imp (pe_un un_neg ha) fun σ H Q ⟨G, B, w, env, d, S, h, q⟩ => by
  unfold negD at h
  split at h
  · rename_i i e1
    cases h
    refine ⟨G, B, w, env, _, S, e1, fun v B1 H1 S1 m r => ?_⟩
    simp only [Rep] at r
    exact ⟨i, r, q _ B1 H1 S1 m (by simp only [Rep])⟩
  · cases h
/-- xs[::-1] -/
def revF (f : List OT → Option Dat) : List OT → Option OT := fun e => match f e with
  | some (.lst xs) => some (.lst (xs.reverse.map .sh))
  | _ => none
theorem Reps.rev {B : Hp} : ∀ {ds : List Dat} {vs : List V}, Reps k B ds vs → Reps k B ds.reverse vs.reverse
  | [], vs, h => by
    simp only [Reps] at h
    subst h
    exact .nil
  | d :: ds, vs, h => by
    simp only [Reps] at h
    obtain ⟨v, r, rfl, h1, h2⟩ := h
    rw [List.reverse_cons, List.reverse_cons]
    exact (Reps.rev h2).append (.one h1)
theorem f_rev {kk : Nat} {p1 p2 p3 : Pos} (hk : X.K = k.K) (ha : PE X a (tD k fa)) : PE X (.Subscript a (.Slice none none (some (.UnaryOp .USub (.Constant (.int 1) kk p1) p2)) p3) pos) (tF k (revF fa)) := pe_imp (pe_revL ha) fun σ H Q ⟨G, B, w, env, d, S, h, q⟩ => by
  unfold revF at h
  split at h
  · rename_i xs e1
    cases h
    refine ⟨G, B, w, env, _, S, e1, fun v B1 H1 S1 m r => ?_⟩
    simp only [Rep] at r
    obtain ⟨p, vs, rfl, h1, h2⟩ := r
    refine ⟨p, vs, rfl, hk ▸ sqR S1.bh h1, fun p' hp => ?_⟩
    obtain ⟨S2, T2⟩ := lst_new S1 hp h2.rev
    exact q _ _ _ _ S2 T2 (m.trans ⟨.refl _, same_newH hp⟩)
  · cases h
/-- 0 <= x < n and its kin -/
def chnD (g g' : Dat → Dat → Option Dat) (fa fb fc : List OT → Option Dat) : List OT → Option Dat := fun e => match fa e with
  | none => none
  | some x => match fb e with
    | none => none
    | some y => match g x y with
      | some (.bl false) => some (.bl false)
      | some (.bl true) => match fc e with
        | none => none
        | some z => g' y z
      | _ => none
end
end DL
namespace DL
open PySem L2 PyProof.Rows PySem.Spec
section
variable {P : Program} {w : World} {K : PySem.W.Frag} {mg : Str → Option Value} {base : Heap} {k : KC} {W : WX}
theorem body_end {N ps : List Str} {g : List OT → Option Out} {X : Cx} {body : List Stmt} {H : Hp} {vs : List V} {Q : VK} {E : XK} (hn : ps.length ≤ N.length) (hb : PSs X body (tS k W g)) (h : spP k ps.length (fnD ps.length N.length g) vs H Q E) :
    tS k W g { nx := fun _ H' => Q .non H', rt := Q } (L2.start N vs) H := by
  obtain ⟨B, ds, o, hs, r, hl, hf, q⟩ := h
  unfold fnD at hf
  rw [if_pos hl] at hf
  have S0 := start_sta (N := N) hs r (by omega)
  rw [hl] at S0
  have hH : ∀ {B' H' : Hp} {w' : WM} {σ' : L2.St} {e' : List OT}, Sta k ⟨H, B, fun _ => False, fun _ => none⟩ B' H' w' σ' e' → Same B B' → Same H H' := fun {B' H' w' σ' e'} S1 m a u hu => by
    cases hb' : B a with
    | none => exact ((S1.fr a hb' (show H a ≠ none by rw [hu]; exact fun z => nomatch z) (fun z => z)).2.1).trans hu
    | some u' =>
      have z := hs a u' hb'
      rw [hu] at z
      cases z
      exact S1.bh a u (m a u hb')
  split at hf
  · rename_i o' e' hg
    cases hf
    refine ⟨_, B, _, _, _, S0, hg, fun v σ' B' H' w' w1 S1 T m => ?_⟩
    refine q v B' H' w1 m S1.bh (hH S1 m) (fun a h1 h2 => (S1.fr a h1 h2 (fun z => z)).1) (fun a ha => ?_) T.rep T.nl
    obtain ⟨x1, x2, x3, x4⟩ := T.dis a ha
    refine ⟨x2, ?_, x3⟩
    cases hh : H a with
    | none => rfl
    | some u =>
      cases hb' : B a with
      | none => exact (x4 hb' (by show H a ≠ none; rw [hh]; exact fun z => nomatch z)).elim
      | some u' =>
        rw [m a u' hb'] at x2
        cases x2
  · rename_i e' hg
    cases hf
    exact ⟨_, B, _, _, _, S0, hg, fun σ' B' H' w' S1 m => q .non B' H' (fun _ => none) m S1.bh (hH S1 m) (fun a h1 h2 => (S1.fr a h1 h2 (fun z => z)).1) (fun a ha => absurd rfl ha) (by simp only [ORep, Rep]) rfl⟩
  · cases hf
/-- a def with defaults -/
theorem okDD {x qual : Str} {st : Stmt} {dvs : List V} {f : Addr} {fd : FuncData} {N ps : List Str} {j : Nat} {g : List OT → Option Out} (F : FunD K x qual (defArgs st) (defBody st) (defScope st) dvs [] f fd) (S : FnScope N ps (defScope st)) (hn : ps.length ≤ N.length)
    (hb : ∀ (cdv : Value) (A : Around) (outer : List Env) (s : Shared) (H : Hp) (E : XK), Room j (A.deeper (envOfC qual (defScope st) s.heap.objs.size f cdv)) → PSs (cxOf CX0 P w K mg base N qual (defScope st) f cdv A outer s H E).nox (defBody st) (tS k nW g)) :
    FnOk P w K mg base CX0 (j + 1) f fd ps (spP k ps.length (fnD ps.length N.length g)) := by
  refine F.ok S (fun vs H Q E h => ?_) (fun cdv A outer s H vs Q E hr h => ?_)
  · obtain ⟨B, ds, o, _, r, hl, _⟩ := h
    rw [← r.length, hl]
  · exact ⟨_, (hb cdv A outer s H E hr).nox, body_end hn (hb cdv A outer s H E hr) h⟩

theorem okN {x qual : Str} {st : Stmt} {f : Addr} {fd : FuncData} {N ps : List Str} {j n m : Nat} {g : List OT → Option Out} (F : Fun K x qual st f fd) (S : FnScope N ps (defScope st)) (h1 : ps.length = n) (h2 : N.length = m) (hn : n ≤ m)
    (hb : ∀ (cdv : Value) (A : Around) (outer : List Env) (s : Shared) (H : Hp) (E : XK), Room j (A.deeper (envOfC qual (defScope st) s.heap.objs.size f cdv)) → PSs (cxOf CX0 P w K mg base N qual (defScope st) f cdv A outer s H E).nox (defBody st) (tS k nW g)) :
    FnOk P w K mg base CX0 (j + 1) f fd ps (spP k n (fnD n m g)) := by
  subst h1 h2
  exact okD F S hn hb
theorem okND {x qual : Str} {st : Stmt} {dvs : List V} {f : Addr} {fd : FuncData} {N ps : List Str} {j n m : Nat} {g : List OT → Option Out} (F : FunD K x qual (defArgs st) (defBody st) (defScope st) dvs [] f fd) (S : FnScope N ps (defScope st)) (h1 : ps.length = n) (h2 : N.length = m) (hn : n ≤ m)
    (hb : ∀ (cdv : Value) (A : Around) (outer : List Env) (s : Shared) (H : Hp) (E : XK), Room j (A.deeper (envOfC qual (defScope st) s.heap.objs.size f cdv)) → PSs (cxOf CX0 P w K mg base N qual (defScope st) f cdv A outer s H E).nox (defBody st) (tS k nW g)) :
    FnOk P w K mg base CX0 (j + 1) f fd ps (spP k n (fnD n m g)) := by
  subst h1 h2
  exact okDD F S hn hb
theorem Fn.mkD {j n : Nat} {x : Str} {f f' : List Dat → Option OT} {fa : Addr} {fd : FuncData} {ps : List Str} {dvs : List V} {dds : List Dat} (F : FnOk P w K mg base CX0 j fa fd ps (spP k ps.length f)) (hm : mg x = some (.ref fa)) (hk : PySem.W.keepIn K (.ref fa) = true) (hb : ∃ ds, Vals dvs ds ∧ Binds K fd ps ds)
    (hd : ∀ B, Reps k B dds dvs) (hn : n + dds.length = ps.length) (hf : ∀ ds, f' ds = f (ds ++ dds)) : Fn P w K mg base k j x n f' := by
  obtain ⟨us, hv, hb⟩ := hb
  exact ⟨fa, fd, ps, dvs, us, dds, ps.length, f, F, hm, hk, hb, hv, hd, hn, fun ds _ => hf ds⟩
end
end DL
/-! Exceptions over data: raise, calls that raise, try. -/
namespace DL
open PySem L2 PySem.Spec PyProof.Rows
/-- a def's end -/
inductive Res where
  | ok (o : OT)
  | ex (c : String) (ns : List Str) (xs : List Dat)
def spX (k : KC) (n : Nat) (f : List Dat → Option Res) : Sp := fun vs H Q E => ∃ B ds r, Same B H ∧ Reps k B ds vs ∧ ds.length = n ∧ f ds = some r ∧
  match r with
  | .ok o => ∀ v B' H' w, Same B B' → Same B' H' → Same H H' → (∀ a, B a = none → H a ≠ none → B' a = none) → (∀ a, w a ≠ none → B' a = none ∧ H a = none ∧ H' a ≠ none) → ORep k B' H' w [] o v → o.fixed = false → Q v H'
  | .ex c ns xs => ∀ cls d B' H', Same B B' → Same B' H' → Same H H' → (∀ a, B a = none → H a ≠ none → B' a = none) → XRep k B' c ns xs cls d → E cls d H'
def fnX (n N : Nat) (g : List OT → Option Out) : List Dat → Option Res := fun ds => if ds.length = n then
    match g (ds.map .sh ++ List.replicate (N - n) .un) with
    | some (.rt o _) => some (.ok o)
    | some (.nx _) => some (.ok (.sh .non))
    | some (.ex c ns xs _) => some (.ex c ns xs)
    | _ => none
  else none
/-- .. where nothing is raised -/
def okOf (f : List Dat → Option Res) : List Dat → Option OT := fun ds => match f ds with
  | some (.ok o) => some o
  | _ => none
section
variable {k : KC} {G : Gh} {B H : Hp} {w : WM} {σ : L2.St} {env : List OT}
theorem sta_after {B' H' : Hp} (S1 : Sta k G B H w σ env) (m1 : Same B B') (m2 : Same B' H') (m3 : Same H H') (m4 : ∀ a, B a = none → H a ≠ none → B' a = none) : Sta k G B' H' w σ env := ⟨m2, S1.b0.trans m1, fun a h1 h2 h3 => by
      obtain ⟨x, y, z⟩ := S1.fr a h1 h2 h3
      have hh : H a ≠ none := by rw [y]; exact h2
      refine ⟨m4 a x hh, ?_, z⟩
      rw [← y]
      cases u : H a with
      | none => exact absurd u hh
      | some u' => exact m3 a u' u, fun a h => m4 a (S1.wb a h) (S1.wh a h), (fun a h => by
      cases u : H a with
      | none => exact absurd u (S1.wh a h)
      | some u' =>
        rw [m3 a u' u]
        exact fun z => by cases z), S1.len, (fun i o h => by
      rcases S1.sl i o h with e | ⟨u, hu, r'⟩
      · exact .inl e
      · refine .inr ⟨u, hu, r'.frame m1 fun p ρ e => ⟨e, ?_⟩⟩
        cases u : H p with
        | none => exact absurd u (S1.wh p (by rw [e]; exact fun z => nomatch z))
        | some u' => exact m3 p u' u), S1.fx⟩
theorem callX_core {n : Nat} {dvs : List V} {dds : List Dat} {m : Nat} {f0 : List Dat → Option Res} {ds : List Dat} {vs : List V} {r : Res} {Q : VK} {E : XK}
    (hdd : ∀ B, Reps k B dds dvs) (hm : n + dds.length = m) (hl : ds.length = n) (hf : f0 (ds ++ dds) = some r) (S1 : Sta k G B H w σ env) (r1 : Reps k B ds vs)
    (qo : ∀ o, r = .ok o → ∀ v B' H' w1, Sta k G B' H' w σ env → Vt k G B' H' w w1 o v → Mv B H B' H' → Q v H')
    (qe : ∀ c ns xs, r = .ex c ns xs → ∀ cls d B' H', Sta k G B' H' w σ env → Mv B H B' H' → XRep k B' c ns xs cls d → E cls d H') : spX k m f0 (vs ++ dvs) H Q E := by
  refine ⟨B, ds ++ dds, r, S1.bh, r1.append (hdd B), by rw [List.length_append, hl, hm], hf, ?_⟩
  cases r with
  | ok o =>
    intro v B' H' w1 m1 m2 m3 m4 m5 r nl
    have SS := sta_after S1 m1 m2 m3 m4
    refine qo o rfl v B' H' w1 SS ⟨fun a ha => ?_, r, nl⟩ ⟨m1, m3⟩
    obtain ⟨x1, x2, x3⟩ := m5 a ha
    have nn := S1.nob x2
    exact ⟨nn.1, x1, x3, nn.2.2⟩
  | ex c ns xs =>
    intro cls d B' H' m1 m2 m3 m4 x
    exact qe c ns xs rfl cls d B' H' (sta_after S1 m1 m2 m3 m4) ⟨m1, m3⟩ x
end
section
variable {P : Program} {w : World} {K : PySem.W.Frag} {mg : Str → Option Value} {base : Heap} {k : KC}
/-- a def that may raise -/
structure FnX (P : Program) (w : World) (K : PySem.W.Frag) (mg : Str → Option Value) (base : Heap) (k : KC) (j : Nat) (x : Str) (n : Nat) (f : List Dat → Option Res) : Prop where
  ex : ∃ (fa : Addr) (fd : FuncData) (ps : List Str) (dvs : List V) (dus : List Value) (dds : List Dat) (m : Nat) (f0 : List Dat → Option Res), FnOk P w K mg base (L2.CX P w) j fa fd ps (spX k m f0) ∧ mg x = some (.ref fa) ∧ PySem.W.keepIn K (.ref fa) = true ∧ Binds K fd ps dus ∧ Vals dvs dus ∧
    (∀ B, Reps k B dds dvs) ∧ n + dds.length = m ∧ ∀ ds, ds.length = n → f ds = f0 (ds ++ dds)
theorem FnX.mono {j j' n : Nat} {x : Str} {f : List Dat → Option Res} (F : FnX P w K mg base k j x n f) (h : j ≤ j') : FnX P w K mg base k j' x n f := by
  obtain ⟨fa, fd, ps, dvs, dus, dds, m, f0, F, r⟩ := F.ex
  exact ⟨fa, fd, ps, dvs, dus, dds, m, f0, F.mono h, r⟩
theorem FnX.mk0 {j : Nat} {x : Str} {f : List Dat → Option Res} {fa : Addr} {fd : FuncData} {ps : List Str} (F : FnOk P w K mg base (L2.CX P w) j fa fd ps (spX k ps.length f)) (hm : mg x = some (.ref fa)) (hk : PySem.W.keepIn K (.ref fa) = true) (hb : Binds K fd ps []) : FnX P w K mg base k j x ps.length f :=
  ⟨fa, fd, ps, [], [], [], ps.length, f, F, hm, hk, hb, .nil, fun _ => .nil, rfl, fun ds _ => by rw [List.append_nil]⟩
theorem FnX.mkD {j n : Nat} {x : Str} {f f' : List Dat → Option Res} {fa : Addr} {fd : FuncData} {ps : List Str} {dvs : List V} {dds : List Dat} (F : FnOk P w K mg base (L2.CX P w) j fa fd ps (spX k ps.length f)) (hm : mg x = some (.ref fa)) (hk : PySem.W.keepIn K (.ref fa) = true) (hb : ∃ ds, Vals dvs ds ∧ Binds K fd ps ds)
    (hd : ∀ B, Reps k B dds dvs) (hn : n + dds.length = ps.length) (hf : ∀ ds, f' ds = f (ds ++ dds)) : FnX P w K mg base k j x n f' := by
  obtain ⟨us, hv, hb⟩ := hb
  exact ⟨fa, fd, ps, dvs, us, dds, ps.length, f, F, hm, hk, hb, hv, hd, hn, fun ds _ => hf ds⟩
/-- .. at arguments at which it raises nothing -/
theorem fnok_ok {j m : Nat} {fa : Addr} {fd : FuncData} {ps : List Str} {f : List Dat → Option Res} (F : FnOk P w K mg base (L2.CX P w) j fa fd ps (spX k m f)) : FnOk P w K mg base CX0 j fa fd ps (spP k m (okOf f)) := by
  have sub : ∀ {vs : List V} {H : Hp} {Q : VK} {E : XK}, spP k m (okOf f) vs H Q E → spX k m f vs H Q fun _ _ _ => False := fun {vs H Q E} ⟨B, ds, o, h1, h2, h3, h4, h5⟩ => by
    unfold okOf at h4
    split at h4
    · rename_i o' e
      cases h4
      exact ⟨B, ds, .ok o, h1, h2, h3, e, h5⟩
    · cases h4
  refine ⟨fun vs H Q E h => F.len vs H Q _ (sub h), fun A outer s H args us vs Q E hr he hb hv hs => ?_⟩
  refine codeAny_mono (F.run A outer s H args us vs Q _ hr he hb hv (sub hs)) fun r s' q => ?_
  cases r with
  | ok fl => cases fl <;> exact q
  | error e =>
    obtain ⟨_, _, _, _, _, _, _, _, _, _, _, _, z⟩ := q
    exact z.elim
theorem FnX.fn {j n : Nat} {x : Str} {f : List Dat → Option Res} (F : FnX P w K mg base k j x n f) : Fn P w K mg base k j x n (okOf f) := by
  obtain ⟨fa, fd, ps, dvs, dus, dds, m, f0, F, r1, r2, r3, r4, r5, r6, r7⟩ := F.ex
  exact ⟨fa, fd, ps, dvs, dus, dds, m, okOf f0, fnok_ok F, r1, r2, r3, r4, r5, r6, fun ds h => by unfold okOf; rw [r7 ds h]⟩
/-- the end of a body -/
theorem bodyX_end {N ps : List Str} {g : List OT → Option Out} {H : Hp} {vs : List V} {Q : VK} {E : XK} (hn : ps.length ≤ N.length) (h : spX k ps.length (fnX ps.length N.length g) vs H Q E) :
    tS k (fun cls d _ H' => E cls d H') g { nx := fun _ H' => Q .non H', rt := Q } (L2.start N vs) H := by
  obtain ⟨B, ds, r, hs, rr, hl, hf, q⟩ := h
  unfold fnX at hf
  rw [if_pos hl] at hf
  have S0 := start_sta (N := N) hs rr (by omega)
  rw [hl] at S0
  have hH : ∀ {B' H' : Hp} {w' : WM} {σ' : L2.St} {e' : List OT}, Sta k ⟨H, B, fun _ => False, fun _ => none⟩ B' H' w' σ' e' → Same B B' → Same H H' := fun {B' H' w' σ' e'} S1 m a u hu => by
    cases hb' : B a with
    | none => exact ((S1.fr a hb' (show H a ≠ none by rw [hu]; exact fun z => nomatch z) (fun z => z)).2.1).trans hu
    | some u' =>
      have z := hs a u' hb'
      rw [hu] at z
      cases z
      exact S1.bh a u (m a u hb')
  split at hf
  · rename_i o' e' hg
    cases hf
    refine ⟨_, B, _, _, _, S0, hg, fun v σ' B' H' w' w1 S1 T m => ?_⟩
    refine q v B' H' w1 m S1.bh (hH S1 m) (fun a h1 h2 => (S1.fr a h1 h2 (fun z => z)).1) (fun a ha => ?_) T.rep T.nl
    obtain ⟨x1, x2, x3, x4⟩ := T.dis a ha
    refine ⟨x2, ?_, x3⟩
    cases hh : H a with
    | none => rfl
    | some u =>
      cases hb' : B a with
      | none => exact (x4 hb' (by show H a ≠ none; rw [hh]; exact fun z => nomatch z)).elim
      | some u' =>
        rw [m a u' hb'] at x2
        cases x2
  · rename_i e' hg
    cases hf
    exact ⟨_, B, _, _, _, S0, hg, fun σ' B' H' w' S1 m => q .non B' H' (fun _ => none) m S1.bh (hH S1 m) (fun a h1 h2 => (S1.fr a h1 h2 (fun z => z)).1) (fun a ha => absurd rfl ha) (by simp only [ORep, Rep]) rfl⟩
  · rename_i c ns xs e' hg
    cases hf
    exact ⟨_, B, _, _, _, S0, hg, fun cls d σ' B' H' w' S1 m x => q cls d B' H' m S1.bh (hH S1 m) (fun a h1 h2 => (S1.fr a h1 h2 (fun z => z)).1) x⟩
  · cases hf
/-- what the body of a def that may raise is derived in -/
def BodyX (P : Program) (w : World) (K : PySem.W.Frag) (mg : Str → Option Value) (base : Heap) (k : KC) (N : List Str) (qual : Str) (scope : Scope) (body : List Stmt) (f : Addr) (j : Nat) (g : List OT → Option Out) : Prop :=
  ∀ (cdv : Value) (A : Around) (outer : List Env) (s : Shared) (H : Hp) (E : XK) (W : WX), Room j (A.deeper (envOfC qual scope s.heap.objs.size f cdv)) →
    Takes (cxOf (L2.CX P w) P w K mg base N qual scope f cdv A outer s H E) W → PassesOwn (model P w) (cxOf (L2.CX P w) P w K mg base N qual scope f cdv A outer s H E).A (cxOf (L2.CX P w) P w K mg base N qual scope f cdv A outer s H E).env (cxOf (L2.CX P w) P w K mg base N qual scope f cdv A outer s H E).xe →
    PSs (cxOf (L2.CX P w) P w K mg base N qual scope f cdv A outer s H E) body (tS k W g)
theorem okX {x qual : Str} {st : Stmt} {f : Addr} {fd : FuncData} {N ps : List Str} {j n m : Nat} {g : List OT → Option Out} (F : Fun K x qual st f fd) (S : FnScope N ps (defScope st)) (h1 : ps.length = n) (h2 : N.length = m) (hn : n ≤ m)
    (hb : BodyX P w K mg base k N qual (defScope st) (defBody st) f j g) : FnOk P w K mg base (L2.CX P w) (j + 1) f fd ps (spX k n (fnX n m g)) := by
  subst h1 h2
  refine F.okX S (fun vs H Q E h => ?_) (fun cdv A outer s H vs Q E hr h => ?_)
  · obtain ⟨B, ds, o, _, r, hl, _⟩ := h
    rw [← r.length, hl]
  · exact ⟨_, hb cdv A outer s H E _ hr (takes_of rfl rfl rfl rfl) (passes_of rfl), bodyX_end hn h⟩
theorem okXD {x qual : Str} {st : Stmt} {dvs : List V} {f : Addr} {fd : FuncData} {N ps : List Str} {j n m : Nat} {g : List OT → Option Out} (F : FunD K x qual (defArgs st) (defBody st) (defScope st) dvs [] f fd) (S : FnScope N ps (defScope st)) (h1 : ps.length = n) (h2 : N.length = m) (hn : n ≤ m)
    (hb : BodyX P w K mg base k N qual (defScope st) (defBody st) f j g) : FnOk P w K mg base (L2.CX P w) (j + 1) f fd ps (spX k n (fnX n m g)) := by
  subst h1 h2
  refine F.ok S (fun vs H Q E h => ?_) (fun cdv A outer s H vs Q E hr h => ?_)
  · obtain ⟨B, ds, o, _, r, hl, _⟩ := h
    rw [← r.length, hl]
  · exact ⟨_, hb cdv A outer s H E _ hr (takes_of rfl rfl rfl rfl) (passes_of rfl), bodyX_end hn h⟩
end
/-! ### calls that may raise, as statements -/
section
variable {X : Cx} {k : KC} {W : WX} {p0 pos : Pos} {e : Expr} {es : List Expr} {fs : List OT → Option (List Dat)}
theorem run_fnSD {kk : Nat} {f : Addr} {fd : FuncData} {ps : List Str} {sp : Sp} {E : L2.St → XK} {ds : List Value} {dvs : List V} {pins : List (Addr × Obj)} {σ : L2.St} {H : Hp} {s : Shared} {Q : VK} {us : List Value} {vs : List V} (F : FnOk X.prog X.w X.K X.mg X.base (L2.CX X.prog X.w) kk f fd ps sp) (hr : Room kk X.A) (hb : Binds X.K fd ps ds) (hd : Vals dvs ds) (hx : PassesAt (L2.CX X.prog X.w) X σ (E σ))
    (I : Inv X pins σ H s) (r : Vals vs us) (h : sp (vs ++ dvs) H Q (E σ)) : wpAny (model X.prog X.w) X.A (call (.ref f) us) (EP X pins σ Q) X.xe s := by
  have r2 : Vals (vs ++ dvs) (us ++ ds) := r.append hd
  have hl : (us ++ ds).length = ps.length := by rw [← r2.length]; exact F.len _ _ _ _ h
  refine wpAny_call (codeAny_mono (F.run X.A X.stack s H ⟨us, []⟩ (us ++ ds) (vs ++ dvs) Q (E σ) hr I.env0 (hb s us I.kIn hl) r2 h) fun r s' hq => ?_)
  cases r with
  | error e => exact hx pins H s e s' I hq
  | ok fl =>
    cases fl with
    | ret u => exact I.after hq
    | next => exact False.elim hq
    | brk => exact False.elim hq
    | cont => exact False.elim hq
/-- what a call that may raise asks for -/
def tCX (k : KC) (W : WX) (n : Nat) (f : List Dat → Option Res) (fs : List OT → Option (List Dat)) : TE := fun σ H Q => ∃ G B w env ds r, Sta k G B H w σ env ∧ fs env = some ds ∧ ds.length = n ∧ f ds = some r ∧
  (∀ o, r = .ok o → ∀ v B' H' w1, Sta k G B' H' w σ env → Vt k G B' H' w w1 o v → Mv B H B' H' → Q v H') ∧
  (∀ c ns xs, r = .ex c ns xs → ∀ cls d B' H', Sta k G B' H' w σ env → Mv B H B' H' → XRep k B' c ns xs cls d → W cls d σ H')
theorem pe_callX {j n : Nat} {x : Str} {f : List Dat → Option Res} (F : FnX X.prog X.w X.K X.mg X.base k j x n f) (hr : Room j X.A) (tk : Takes X W) (ha : PA X (e :: es) (tA k fs)) (hg : Gl X x := by rfl) (hdb : (x == ("__debug__" : Str)) = false := by decide) (he : starEach (e :: es) X.env = (false, eval e X.env) :: starEach es X.env := by rfl) (hpl : (backTo pos (starEach es X.env)).any (·.1) = false := by rfl) :
    PE X (.Call (.Name x p0) (e :: es) [] pos) (tCX k W n f fs) := by
  obtain ⟨fa, fd, ps, dvs, dus, dds, m, f0, FF, hm, hk, hb, hv, hdd, hnm, hff⟩ := F.ex
  refine ⟨fun pins s σ H Q I h => ?_⟩
  obtain ⟨G, B, w, env, ds, r, S, e1, hl, hf, qo, qe⟩ := h
  refine wpAny_Call_Name_kw (ld_glob I hg hm ?_ hdb)
  refine PySem.W.callWith_K (h₀ := X.base) I.ok.mod.kin hk (thn (ha.run pos pins s σ H (fun vs H1 => ∃ B1, Sta k G B1 H1 w σ env ∧ Mv B H B1 H1 ∧ Reps k B1 ds vs) I ⟨G, B, w, env, ds, S, e1, fun vs B1 H1 S1 m1 r1 => ⟨B1, S1, m1, r1⟩⟩) fun us s1 ⟨vs, H1, I1, rr, B1, S1, m1, r1⟩ => ⟨I1.kIn, ?_⟩) he hpl
  refine run_fnSD (E := WE W) FF hr hb hv (passAt tk σ) I1 rr ?_
  exact callX_core hdd hnm hl (by rw [← hff ds hl]; exact hf) S1 r1 (fun o er v B' H' w1 S2 T m2 => qo o er v B' H' w1 S2 T (m1.trans m2)) fun c ns xs er cls d B' H' S2 m2 x => qe c ns xs er cls d B' H' S2 (m1.trans m2) x
/-- x = f(..) -/
@[simp] def setX (i n : Nat) (f : List Dat → Option Res) (fs : List OT → Option (List Dat)) : List OT → Option Out := fun e => match fs e with
  | none => none
  | some ds => if ds.length = n then match f ds with
      | some (.ok o) => if i < e.length then some (.nx (e.set i o)) else none
      | some (.ex c ns xs) => some (.ex c ns xs e)
      | none => none
    else none
theorem s_setX (i : Nat) {j n : Nat} {x y : Str} {f : List Dat → Option Res} {pos' pos2 : Pos} (hN : X.N.Nodup) (F : FnX X.prog X.w X.K X.mg X.base k j x n f) (hr : Room j X.A) (tk : Takes X W) (ha : PA X (e :: es) (tA k fs)) (hi : X.N[i]? = some y := by rfl) (hx : Loc X.env.scope y := by first | exact .inl rfl | exact .inr rfl)
    (hs : swapsWith (.Call (.Name x p0) (e :: es) [] pos) (some (.Name y pos')) pos2.line X.env = pure false := by rfl) (hf : X.fn y = true ∨ X.env.scope.names.lookup y = some .local := by first | exact .inl rfl | exact .inr rfl | assumption)
    (hg : Gl X x := by rfl) (hdb : (x == ("__debug__" : Str)) = false := by decide) (he : starEach (e :: es) X.env = (false, eval e X.env) :: starEach es X.env := by rfl) (hpl : (backTo pos (starEach es X.env)).any (·.1) = false := by rfl) :
    PS X (.Assign [.Name y pos'] (.Call (.Name x p0) (e :: es) [] pos) pos2) (tS k W (setX i n f fs)) := ps_imp (ps_set hN hi hx (pe_callX F hr tk ha hg hdb he hpl) hs hf) fun D σ H ⟨G, B, w, env, o, S, h, q⟩ => by
  unfold setX at h
  split at h
  · cases h
  · rename_i ds e1
    split at h
    · rename_i hl
      split at h
      · rename_i o' e2
        split at h
        · rename_i hlt
          cases h
          refine ⟨G, B, w, env, ds, _, S, e1, hl, e2, fun o er v B' H' w1 S2 T m2 => ?_, fun c ns xs er => by cases er⟩
          cases er
          exact q _ _ _ _ (S2.setO T hlt) m2.1
        · cases h
      · rename_i c ns xs e2
        cases h
        refine ⟨G, B, w, env, ds, _, S, e1, hl, e2, (fun o er => by cases er), fun c' ns' xs' er cls d B' H' S2 m2 x => ?_⟩
        cases er
        exact q cls d σ B' H' w S2 m2.1 x
      · cases h
    · cases h
/-- return f(..) -/
@[simp] def retX (n : Nat) (f : List Dat → Option Res) (fs : List OT → Option (List Dat)) : List OT → Option Out := fun e => match fs e with
  | none => none
  | some ds => if ds.length = n then match f ds with
      | some (.ok o) => some (.rt o e)
      | some (.ex c ns xs) => some (.ex c ns xs e)
      | none => none
    else none
theorem s_retX {j n : Nat} {x : Str} {f : List Dat → Option Res} {pos2 : Pos} (F : FnX X.prog X.w X.K X.mg X.base k j x n f) (hr : Room j X.A) (tk : Takes X W) (ha : PA X (e :: es) (tA k fs))
    (hg : Gl X x := by rfl) (hdb : (x == ("__debug__" : Str)) = false := by decide) (he : starEach (e :: es) X.env = (false, eval e X.env) :: starEach es X.env := by rfl) (hpl : (backTo pos (starEach es X.env)).any (·.1) = false := by rfl) :
    PS X (.Return (some (.Call (.Name x p0) (e :: es) [] pos)) pos2) (tS k W (retX n f fs)) := ps_imp (ps_ret (pe_callX F hr tk ha hg hdb he hpl)) fun D σ H ⟨G, B, w, env, o, S, h, q⟩ => by
  unfold retX at h
  split at h
  · cases h
  · rename_i ds e1
    split at h
    · rename_i hl
      split at h
      · rename_i o' e2
        cases h
        refine ⟨G, B, w, env, ds, _, S, e1, hl, e2, fun o er v B' H' w1 S2 T m2 => ?_, fun c ns xs er => by cases er⟩
        cases er
        exact q _ _ _ _ _ _ S2 T m2.1
      · rename_i c ns xs e2
        cases h
        refine ⟨G, B, w, env, ds, _, S, e1, hl, e2, (fun o er => by cases er), fun c' ns' xs' er cls d B' H' S2 m2 x => ?_⟩
        cases er
        exact q cls d σ B' H' w S2 m2.1 x
      · cases h
    · cases h
/-- f(..) for its own sake -/
@[simp] def dropX (n : Nat) (f : List Dat → Option Res) (fs : List OT → Option (List Dat)) : List OT → Option Out := fun e => match fs e with
  | none => none
  | some ds => if ds.length = n then match f ds with
      | some (.ok _) => some (.nx e)
      | some (.ex c ns xs) => some (.ex c ns xs e)
      | none => none
    else none
theorem s_dropX {j n : Nat} {x : Str} {f : List Dat → Option Res} {pos2 : Pos} (F : FnX X.prog X.w X.K X.mg X.base k j x n f) (hr : Room j X.A) (tk : Takes X W) (ha : PA X (e :: es) (tA k fs)) (hs : swapsWith (.Call (.Name x p0) (e :: es) [] pos) none pos2.line X.env = pure false := by rfl)
    (hg : Gl X x := by rfl) (hdb : (x == ("__debug__" : Str)) = false := by decide) (he : starEach (e :: es) X.env = (false, eval e X.env) :: starEach es X.env := by rfl) (hpl : (backTo pos (starEach es X.env)).any (·.1) = false := by rfl) :
    PS X (.Expr (.Call (.Name x p0) (e :: es) [] pos) pos2) (tS k W (dropX n f fs)) := ps_imp (ps_expr (pe_callX F hr tk ha hg hdb he hpl) hs) fun D σ H ⟨G, B, w, env, o, S, h, q⟩ => by
  unfold dropX at h
  split at h
  · cases h
  · rename_i ds e1
    split at h
    · rename_i hl
      split at h
      · rename_i o' e2
        cases h
        refine ⟨G, B, w, env, ds, _, S, e1, hl, e2, fun o er v B' H' w1 S2 T m2 => ?_, fun c ns xs er => by cases er⟩
        exact q _ _ _ _ S2 m2.1
      · rename_i c ns xs e2
        cases h
        refine ⟨G, B, w, env, ds, _, S, e1, hl, e2, (fun o er => by cases er), fun c' ns' xs' er cls d B' H' S2 m2 x => ?_⟩
        cases er
        exact q cls d σ B' H' w S2 m2.1 x
      · cases h
    · cases h
end
/-! ### raise, try -/
section
variable {X : Cx} {k : KC} {W : WX} {pos : Pos}
/-- a class of exceptions of the text without __init__ -/
structure ExcF (k : KC) (mg : Str → Option Value) (x : Str) (c : String) : Prop where
  g : mg x = some (.ref (k.cl c))
  q : PySem.W.excIn k.K (k.cl c) [Value.type "ValueError", Value.type "Exception", Value.type "BaseException", Value.type "object"] "ValueError.__new__" = true
  kp : PySem.W.keepIn k.K (.ref (k.cl c)) = true
  sb : PySem.W.subIn k.K (.ref (k.cl c)) (.type "BaseException") = some true
  ty : PySem.W.typeIn k.K (.ref (k.cl c)) = some (.type "type")
@[simp] def raiS (c : String) : List OT → Option Out := fun e => some (.ex c [] [] e)
theorem s_raise {x m : Str} {c : String} {j : Nat} {p p2 pos2 : Pos} (hk : X.K = k.K) (hc : X.calm = true) (tk : Takes X W) (F : ExcF k X.mg x c) (hg : Gl X x := by rfl) (hdb : (x == ("__debug__" : Str)) = false := by decide) :
    PS X (.Raise (some (.Call (.Name x p) [.Constant (.str m) j p2] [] pos)) none pos2) (tS k W (raiS c)) :=
  ps_imp (ps_raise hc tk (pmk_own PySem.F.excBase_ValueError (by rw [hk]; exact F.q) F.g (by rw [hk]; exact F.kp) (raises_own (by rw [hk]; exact F.sb) (by rw [hk]; exact F.ty)) hg hdb)) fun D σ H ⟨G, B, w, env, o, S, h, q⟩ => by
    cases h
    exact q _ none σ B H w S (.refl _) ⟨rfl, [], rfl, rfl, .nil⟩
/-- whether an exception of a class is taken by a clause -/
def Subs (k : KC) (cv : Value) (sub : String → Option Bool) : Prop := ∀ c b, sub c = some b → PySem.W.exmOne k.K (.ref (k.cl c)) cv = some b
def unO (i : Nat) : Option Out → Option Out
  | some (.nx e) => some (.nx (e.set i .un))
  | some (.bk e) => some (.bk (e.set i .un))
  | some (.ct e) => some (.ct (e.set i .un))
  | some (.rt o e) => some (.rt o e)
  | _ => none
structure Hand where
  sub : String → Option Bool
  slot : Option Nat
  g : List OT → Option Out
def nexO : Option Out → Option Out
  | some (.ex _ _ _ _) => none
  | o => o
def handS : List Hand → String → List Str → List Dat → List OT → Option Out
  | [], c, ns, xs, e => some (.ex c ns xs e)
  | h :: r, c, ns, xs, e => match h.sub c with
    | none => none
    | some false => handS r c ns xs e
    | some true => match h.slot with
      | none => nexO (h.g e)
      | some i => if i < e.length then unO i (h.g (e.set i (.sh (.exn c ns xs)))) else none
def tryS (g : List OT → Option Out) (hs : List Hand) : List OT → Option Out := fun e => match g e with
  | some (.ex c ns xs e1) => handS hs c ns xs e1
  | o => o
/-- a clause, its class's name and the class -/
inductive HdsD (X : Cx) (k : KC) : List ExceptHandler → List Hand → List (Value × Option Nat × TS) → Prop
  | nil : HdsD X k [] [] []
  | bare {x : Str} {c : Value} {sub : String → Option Bool} {g : List OT → Option Out} {b₀ : Stmt} {suite : List Stmt} {np pos' : Pos} {hds : List ExceptHandler} {hs : List Hand} {l : List (Value × Option Nat × TS)} (hc : Names X x c) (hu : Subs k c sub)
      (hsu : ∀ (a : Addr) (pn : List (Addr × Obj)), PSs (X.suite a pn) (b₀ :: suite) (tS k nW g)) (r : HdsD X k hds hs l) : HdsD X k (.ExceptHandler (some (.Name x np)) none (b₀ :: suite) pos' :: hds) (⟨sub, none, g⟩ :: hs) ((c, none, tS k nW g) :: l)
  | named {x n : Str} {i : Nat} {c : Value} {sub : String → Option Bool} {g : List OT → Option Out} {b₀ : Stmt} {suite : List Stmt} {np pos' : Pos} {hds : List ExceptHandler} {hs : List Hand} {l : List (Value × Option Nat × TS)} (hN : X.N.Nodup) (hi : X.N[i]? = some n) (hln : X.env.kindOf n = some .local) (hc : Names X x c) (hu : Subs k c sub)
      (hsu : ∀ (a : Addr) (pn : List (Addr × Obj)), PSs (X.suite a pn) (b₀ :: suite) (tS k nW g)) (r : HdsD X k hds hs l) : HdsD X k (.ExceptHandler (some (.Name x np)) (some n) (b₀ :: suite) pos' :: hds) (⟨sub, some i, g⟩ :: hs) ((c, some i, tS k nW g) :: l)
theorem HdsD.hdsK {hds : List ExceptHandler} {hs : List Hand} {l : List (Value × Option Nat × TS)} (h : HdsD X k hds hs l) : HdsK X hds l := by
  induction h with
  | nil => exact .nil
  | bare hc hu hsu r ih => exact .bare hc hsu ih
  | named hN hi hln hc hu hsu r ih => exact .named hN hi hln hc hsu ih
/-- the caught exception stays -/
theorem sta_exn {G : Gh} {B H : Hp} {w : WM} {σ : L2.St} {env : List OT} {a : Addr} {c : String} {ns : List Str} {xs : List Dat} {cls : Value} {d : Option Addr} (S : Sta k G B H w σ env) (na : H a = none) (x : XRep k B c ns xs cls d) :
    ∃ B', Sta k G B' (upd H a (KEx cls d a)) w σ env ∧ Same B B' ∧ Rep k B' (.exn c ns xs) (.ref a) := by
  obtain ⟨rfl, vs, hx, hl, hr⟩ := x
  have bn : B a = none := by
    cases e : B a with
    | none => rfl
    | some u =>
      have z := S.bh a u e
      rw [na] at z
      cases z
  have sB : Same B (upd B a (KEx (.ref (k.cl c)) d a)) := fun b u e => by rw [upd_ne fun z => by rw [z, bn] at e; cases e]; exact e
  have sH : Same H (upd H a (KEx (.ref (k.cl c)) d a)) := fun b u e => by rw [upd_ne fun z => by rw [z, na] at e; cases e]; exact e
  refine ⟨upd B a (KEx (.ref (k.cl c)) d a), sta_after S sB (fun b u e => ?_) sH (fun b h1 h2 => ?_), sB, ?_⟩
  · by_cases hb : b = a
    · subst hb
      rw [upd_same] at e ⊢
      exact e
    · rw [upd_ne hb] at e ⊢
      exact S.bh b u e
  · by_cases hb : b = a
    · subst hb
      exact absurd na h2
    · rw [upd_ne hb]
      exact h1
  · simp only [Rep]
    exact ⟨a, d, vs, rfl, upd_same, hx.mono sB, hl, hr.mono sB⟩
theorem sta_un {G : Gh} {B H : Hp} {w : WM} {σ : L2.St} {env : List OT} {i : Nat} (S : Sta k G B H w σ env) : Sta k G B H w (σ.set i none) (env.set i .un) := ⟨S.bh, S.b0, S.fr, S.wb, S.wh, by simpa using S.len, fun j o h => by
    by_cases hj : i = j
    · subst hj
      by_cases hi : i < env.length
      · rw [List.getElem?_set, if_pos rfl, if_pos hi] at h
        cases h
        exact .inl rfl
      · rw [List.getElem?_eq_none (by simpa using hi)] at h
        cases h
    · rw [List.getElem?_set_ne hj] at h
      rcases S.sl j o h with e | ⟨v, hv, r⟩
      · exact .inl e
      · exact .inr ⟨v, by rw [List.getElem?_set_ne hj]; exact hv, r⟩, fx_set S.fx rfl⟩
theorem outK_nex {G : Gh} {B : Hp} {D : Ends} {x : Option Out} {o : Out} (h : nexO x = some o) (q : OutK k W G B D o) : x = some o ∧ OutK k nW G B D o := by
  unfold nexO at h
  split at h
  · cases h
  · rename_i hn
    subst h
    cases o with
    | nx e => exact ⟨rfl, q⟩
    | bk e => exact ⟨rfl, q⟩
    | ct e => exact ⟨rfl, q⟩
    | rt o e => exact ⟨rfl, q⟩
    | ex c ns xs e => exact absurd rfl (hn c ns xs e)
theorem s_try {body : List Stmt} {h₀ : ExceptHandler} {hds : List ExceptHandler} {hs : List Hand} {l : List (Value × Option Nat × TS)} {g : List OT → Option Out} (hk : X.K = k.K) (tk : Takes X W)
    (hb : ∀ (W' : WX) (pn : List (Addr × Obj)) (xe : Value → Shared → Prop), Takes (X.tr pn xe) W' → PassesOwn (model X.prog X.w) X.A X.env xe → PSs (X.tr pn xe) body (tS k W' g))
    (hh : HdsD X k (h₀ :: hds) hs l) (hst : X.stack = X.env :: X.outer := by rfl) (hf : X.env.frame = some X.env.locals := by rfl) (hex : X.ex = [] := by rfl) : PS X (.Try body (h₀ :: hds) [] [] pos) (tS k W (tryS g hs)) :=
  ps_imp (ps_tryK hst hf hex (tb := fun W' => tS k W' g) tk hb hh.hdsK) fun D σ H ⟨G, B, w, env, o, S, h, q⟩ => by
    unfold tryS at h
    split at h
    · rename_i c ns xs e1 hg
      refine ⟨G, B, w, env, _, S, hg, fun cls d σ' B' H' w' S' m x => ?_⟩
      have go : ∀ {hds' : List ExceptHandler} {hs' : List Hand} {l' : List (Value × Option Nat × TS)}, HdsD X k hds' hs' l' → handS hs' c ns xs e1 = some o → wK X.K W D l' cls d σ' H' := by
        intro hds' hs' l' hd
        induction hd with
        | nil =>
          intro h
          cases h
          exact q cls d σ' B' H' w' S' m x
        | @bare xx cv sub g2 b₀ suite np pos' hds2 hs2 l2 hc hu hsu r ih =>
          intro h
          simp only [handS] at h
          cases e : sub c with
          | none => simp [e] at h
          | some b =>
            refine ⟨b, by rw [hk, x.1]; exact hu c b e, fun hb a na => ?_, fun hb => ?_⟩
            · subst hb
              simp only [e] at h
              obtain ⟨B2, S2, m2, _⟩ := sta_exn S' na x
              obtain ⟨h1, q1⟩ := outK_nex h q
              exact ⟨G, B2, w', e1, o, S2, h1, q1.mono (m.trans m2)⟩
            · subst hb
              simp only [e] at h
              exact ih h
        | @named xx n i cv sub g2 b₀ suite np pos' hds2 hs2 l2 hN hi hln hc hu hsu r ih =>
          intro h
          simp only [handS] at h
          cases e : sub c with
          | none => simp [e] at h
          | some b =>
            refine ⟨b, by rw [hk, x.1]; exact hu c b e, fun hb a na => ?_, fun hb => ?_⟩
            · subst hb
              simp only [e] at h
              split at h
              · rename_i hlt
                obtain ⟨B2, S2, m2, r2⟩ := sta_exn S' na x
                have S3 := S2.set (i := i) r2
                cases e3 : g2 (e1.set i (.sh (.exn c ns xs))) with
                | none => simp [e3, unO] at h
                | some o3 =>
                  refine ⟨G, B2, w', _, o3, S3, e3, ?_⟩
                  rw [e3] at h
                  cases o3 with
                  | nx e4 =>
                    cases h
                    exact fun σ4 B4 H4 w4 S4 m4 => q _ B4 H4 w4 (sta_un S4) ((m.trans m2).trans m4)
                  | bk e4 =>
                    cases h
                    exact fun σ4 B4 H4 w4 S4 m4 => q _ B4 H4 w4 (sta_un S4) ((m.trans m2).trans m4)
                  | ct e4 =>
                    cases h
                    exact fun σ4 B4 H4 w4 S4 m4 => q _ B4 H4 w4 (sta_un S4) ((m.trans m2).trans m4)
                  | rt o4 e4 =>
                    cases h
                    exact fun v σ4 B4 H4 w4 w5 S4 T4 m4 => q v σ4 B4 H4 w4 w5 S4 T4 ((m.trans m2).trans m4)
                  | ex c4 n4 x4 e4 => simp [unO] at h
              · cases h
            · subst hb
              simp only [e] at h
              exact ih h
      exact go hh h
    · rename_i hn
      refine ⟨G, B, w, env, o, S, h, ?_⟩
      cases o with
      | nx e => exact q
      | bk e => exact q
      | ct e => exact q
      | rt o e => exact q
      | ex c ns xs e => exact absurd h (hn c ns xs e)
end
end DL
/-! A caught exception as a thing: isinstance, its fields. -/
namespace DL
open PySem L2 PySem.Spec PyProof.Rows
/-- what a class of exceptions must say, that its instances may be asked -/
structure ExcA (K : PySem.W.Frag) (D : Addr) : Prop where
  cl : (PySem.W.clsIn K D).isSome = true
  ga : PySem.W.findIn K (.ref D) "__getattribute__" = some (some (.builtin "BaseException.__getattribute__"))
  gg : PySem.W.findIn K (.ref D) "__getattr__" = some none
  sb : PySem.W.subIn K (.ref D) (.type "BaseException") = some true
  hd : PySem.W.hasDictIn K D = true
  ca : PySem.W.findIn K (.ref D) "__class__" = some (some (.builtin "object.__class__"))
  mo : PySem.W.mroIn K D (.type "object") = some true
structure ExcG (K : PySem.W.Frag) : Prop where
  hn : PySem.W.specialIn K (.builtin "object.__class__") "__get__" = some (some (.builtin "getset_descriptor.__get__"))
  ht : PySem.W.takesIn K (.builtin "object.__class__") = some true
section
variable {X : Cx} {k : KC} {pos p0 : Pos} {a : Expr} {fa : List OT → Option Dat}
theorem kex_inst {pins : List (Addr × Obj)} {σ : L2.St} {H : Hp} {s : Shared} {p C : Addr} {d : Option Addr} {fs : List (Str × V)} (I : Inv X pins σ H s) (hp : H p = some (KEx (.ref C) d p)) (hx : XD H d fs) : ∃ oe od, PySem.W.InstAt s.heap p oe C od ∧ (∀ dd, d = some dd → od = s.heap.get? dd ∧ od ≠ none) := by
  obtain ⟨⟨oe, vs, e, z, hd⟩, _⟩ := (show ObjOk X.prog X.w H s.heap p (KEx (.ref C) d p) from I.hok p _ hp)
  have nc : PySem.W.notCls oe = true := by
    unfold PySem.W.notCls
    rw [hd]
  cases d with
  | none => exact ⟨oe, none, ⟨e, z.1, nc, by rw [z.2]; trivial⟩, fun dd q => nomatch q⟩
  | some dd =>
    obtain ⟨mA, hns, _⟩ := (show ObjOk X.prog X.w H s.heap dd (.xd fs) from I.hok dd _ hx)
    obtain ⟨od, ho, _⟩ := lookIn_ns hns
    exact ⟨oe, some od, ⟨e, z.1, nc, by rw [z.2]; exact ho⟩, fun d' q => by cases q; exact ⟨ho.symm, fun z => nomatch z⟩⟩
/-- isinstance(e, c) -/
def rIsX (k : KC) : List V → Hp → VK → Prop := fun xs H Q => ∃ (p : Addr) (c : String) (d : Option Addr) (fs : List (Str × V)) (cv : V) (u : Value) (b : Bool), xs = [.ref p, cv] ∧ ClsV cv u ∧ H p = some (KEx (.ref (k.cl c)) d p) ∧ XD H d fs ∧ ExcA k.K (k.cl c) ∧ ExcG k.K ∧ PySem.W.kitOne k.K (.ref (k.cl c)) u = some b ∧ Q (.bl b) H
theorem call_isX (hk : X.K = k.K) : CallR X (.builtin "isinstance") (rIsX k) := by
  intro pins s σ H xs us Q I r h
  obtain ⟨p, c, d, fs, cv, u, b, rfl, kv, hp, hx, A, G, e, q⟩ := h
  obtain ⟨u1, u2, rfl, r1, r2⟩ := vals2 r
  cases (show u1 = Value.ref p from r1)
  have e2 := kv.eq r2
  subst e2
  obtain ⟨oe, od, J, _⟩ := kex_inst I hp hx
  exact PySem.W.kia_one (PySem.W.kitx_exc A.cl A.ga A.gg A.sb A.ca G.hn G.ht A.mo) (hk ▸ I.kIn) J e (fun z => nomatch z) fun tk => ⟨.bl b, H, I.tok tk, rfl, q⟩
/-- isinstance(e, (c1, ..)) -/
def rIsXT (k : KC) : List V → Hp → VK → Prop := fun xs H Q => ∃ (p tp : Addr) (c : String) (d : Option Addr) (fs : List (Str × V)) (cs : List V) (ws : List Value) (b : Bool), xs = [.ref p, .ref tp] ∧ H tp = some (.tup cs) ∧ Paired ClsV cs ws ∧ H p = some (KEx (.ref (k.cl c)) d p) ∧ XD H d fs ∧ ExcA k.K (k.cl c) ∧ ExcG k.K ∧ PySem.W.kitAny k.K (.ref (k.cl c)) ws = some b ∧ Q (.bl b) H
theorem call_isXT (hk : X.K = k.K) : CallR X (.builtin "isinstance") (rIsXT k) := by
  intro pins s σ H xs us Q I r h
  obtain ⟨p, tp, c, d, fs, cs, ws, b, rfl, hT, kv, hp, hx, A, G, e, q⟩ := h
  obtain ⟨u1, u2, rfl, r1, r2⟩ := vals2 r
  cases (show u1 = Value.ref p from r1)
  cases (show u2 = Value.ref tp from r2)
  obtain ⟨oe, od, J, _⟩ := kex_inst I hp hx
  obtain ⟨_, its, rv, o, h1, h2, n, h3⟩ := (show ObjOk X.prog X.w H s.heap tp (.tup cs) from I.hok tp _ hT)
  have e3 := ClsV.all kv rv
  subst e3
  obtain ⟨oc, od', dt, sl⟩ := o
  simp only at h2 h3
  subst h2 h3
  exact PySem.W.kia_tup (PySem.W.kitx_exc A.cl A.ga A.gg A.sb A.ca G.hn G.ht A.mo) (hk ▸ I.kIn) J h1 e (fun z => nomatch z) fun tk => ⟨.bl b, H, I.tok tk, rfl, q⟩
/-- whether an exception of a class is one of another class (of the built-in or own class u) -/
structure Kit (k : KC) (u : Value) (tab : String → Option Bool) : Prop where
  kit : ∀ c b, tab c = some b → PySem.W.kitOne k.K (.ref (k.cl c)) u = some b
  at_ : ∀ c b, tab c = some b → ExcA k.K (k.cl c)
  gl : ExcG k.K
structure KitT (k : KC) (us : List Value) (tab : String → Option Bool) : Prop where
  kit : ∀ c b, tab c = some b → PySem.W.kitAny k.K (.ref (k.cl c)) us = some b
  at_ : ∀ c b, tab c = some b → ExcA k.K (k.cl c)
  gl : ExcG k.K
@[simp] def isiE (tab : String → Option Bool) (f : List OT → Option Dat) : List OT → Option Dat := fun e => match f e with
  | some (.exn c _ _) => (tab c).map .bl
  | _ => none
theorem isiE_some {tab : String → Option Bool} {e : List OT} {d : Dat} (h : isiE tab fa e = some d) : ∃ c ns xs b, fa e = some (.exn c ns xs) ∧ tab c = some b ∧ d = .bl b := by
  unfold isiE at h
  split at h
  · rename_i c ns xs e1
    cases e2 : tab c with
    | none => simp [e2] at h
    | some b => exact ⟨c, ns, xs, b, e1, e2, by simpa [e2] using h.symm⟩
  · cases h
theorem d_isE0 {T : Str} {cv : V} {u : Value} {tab : String → Option Bool} {p1 : Pos} (hk : X.K = k.K) (hm : X.mg "isinstance" = none) (hc : PE X (.Name T p1) (tC cv)) (cu : ClsV cv u) (ht : Kit k u tab) (ha : PE X a (tD k fa)) (hg : Gl X "isinstance" := by rfl)
    (h1 : starEach [a, .Name T p1] X.env = (false, eval a X.env) :: starEach [.Name T p1] X.env := by rfl) (hpl : (backTo pos (starEach [.Name T p1] X.env)).any (·.1) = false := by rfl) :
    PE X (.Call (.Name "isinstance" p0) [a, .Name T p1] [] pos) (tD k (isiE tab fa)) :=
  pe_imp (pe_callB (call_isX (k := k) hk) hg hm (by decide +kernel) (pa_cons ha (pa_cons hc pa_nil) h1) (by decide) (by decide) h1 hpl) fun σ H Q ⟨G, B, w, env, d, S, h, q⟩ => by
    obtain ⟨c, ns, xs, b, e1, e2, rfl⟩ := isiE_some h
    refine ⟨G, B, w, env, _, S, e1, fun v B1 H1 S1 m r => ?_⟩
    simp only [Rep] at r
    obtain ⟨p, dd, vs, rfl, hp, hx, hl, hr⟩ := r
    exact ⟨p, c, dd, _, cv, u, b, rfl, cu, S1.bh _ _ hp, hx.mono S1.bh, ht.at_ c b e2, ht.gl, ht.kit c b e2, q _ B1 H1 S1 m (by simp only [Rep])⟩
/-- a class of the text -/
theorem d_isE {T : Str} {C : Addr} {tab : String → Option Bool} {p1 : Pos} (hk : X.K = k.K) (hm : X.mg "isinstance" = none) (hT : X.mg T = some (.ref C)) (ht : Kit k (.ref C) tab) (ha : PE X a (tD k fa)) (hgT : Gl X T := by rfl) (hd : (T == ("__debug__" : Str)) = false := by decide) (hg : Gl X "isinstance" := by rfl)
    (h1 : starEach [a, .Name T p1] X.env = (false, eval a X.env) :: starEach [.Name T p1] X.env := by rfl) (hpl : (backTo pos (starEach [.Name T p1] X.env)).any (·.1) = false := by rfl) :
    PE X (.Call (.Name "isinstance" p0) [a, .Name T p1] [] pos) (tD k (isiE tab fa)) := d_isE0 hk hm (pe_glob (v := .ref C) hgT hT rfl hd) (.own C) ht ha hg h1 hpl
/-- a built-in one -/
theorem d_isB {T : Str} {t : String} {tab : String → Option Bool} {p1 : Pos} (hk : X.K = k.K) (hm : X.mg "isinstance" = none) (hmT : X.mg T = none) (hb : bootBuiltins T = some (.type t)) (ht : Kit k (.type t) tab) (ha : PE X a (tD k fa)) (hgT : Gl X T := by rfl) (hn : T ≠ "__name__" := by decide) (hd : (T == ("__debug__" : Str)) = false := by decide) (hg : Gl X "isinstance" := by rfl)
    (h1 : starEach [a, .Name T p1] X.env = (false, eval a X.env) :: starEach [.Name T p1] X.env := by rfl) (hpl : (backTo pos (starEach [.Name T p1] X.env)).any (·.1) = false := by rfl) :
    PE X (.Call (.Name "isinstance" p0) [a, .Name T p1] [] pos) (tD k (isiE tab fa)) := d_isE0 hk hm (pe_bltn (v := .ty t) hgT hmT hb rfl hn hd) (.ty t) ht ha hg h1 hpl
/-- the classes of a tuple -/
def PCs (X : Cx) (es : List Expr) (cs : List V) (us : List Value) : Prop := PA X es (fun _ H Q => Q cs H) ∧ Paired ClsV cs us
theorem pcs_nil : PCs X [] [] [] := ⟨pa_nil, .nil⟩
theorem pcs_own {T : Str} {C : Addr} {p1 : Pos} {es : List Expr} {cs : List V} {us : List Value} (hT : X.mg T = some (.ref C)) (h : PCs X es cs us) (hgT : Gl X T := by rfl) (hd : (T == ("__debug__" : Str)) = false := by decide)
    (h1 : starEach (.Name T p1 :: es) X.env = (false, eval (.Name T p1) X.env) :: starEach es X.env := by rfl) : PCs X (.Name T p1 :: es) (.ref C :: cs) (.ref C :: us) :=
  ⟨pa_imp (pa_cons (pe_glob (v := .ref C) hgT hT rfl hd) h.1 h1) fun σ H Q q => q, .cons (.own C) h.2⟩
theorem d_isET {es : List Expr} {cs : List V} {us : List Value} {tab : String → Option Bool} {x1} {p1 : Pos} (hk : X.K = k.K) (hm : X.mg "isinstance" = none) (hc : PCs X es cs us) (ht : KitT k us tab) (hsz : cs.length ≤ 1000) (ha : PE X a (tD k fa)) (hg : Gl X "isinstance" := by rfl)
    (h1 : starEach [a, .Tuple es x1 p1] X.env = (false, eval a X.env) :: starEach [.Tuple es x1 p1] X.env := by rfl) (hpl : (backTo pos (starEach [.Tuple es x1 p1] X.env)).any (·.1) = false := by rfl) :
    PE X (.Call (.Name "isinstance" p0) [a, .Tuple es x1 p1] [] pos) (tD k (isiE tab fa)) :=
  pe_imp (pe_callB (call_isXT (k := k) hk) hg hm (by decide +kernel) (pa_cons ha (pa_cons (pe_tup hc.1) pa_nil) h1) (by decide) (by decide) h1 hpl) fun σ H Q ⟨G, B, w, env, d, S, h, q⟩ => by
    obtain ⟨c, ns, xs, b, e1, e2, rfl⟩ := isiE_some h
    refine ⟨G, B, w, env, _, S, e1, fun v B1 H1 S1 m r => ?_⟩
    simp only [Rep] at r
    obtain ⟨p, dd, vs, rfl, hp, hx, hl, hr⟩ := r
    refine ⟨by rw [sizeLine_eq]; omega, fun tp hn => ?_⟩
    have S2 := S1.new (o := .tup cs) hn
    exact ⟨p, tp, c, dd, _, cs, us, b, rfl, upd_same, hc.2, S2.bh _ _ (same_new S1.bh hn _ _ hp), (hx.mono (same_new S1.bh hn)).mono S2.bh, ht.at_ c b e2, ht.gl, ht.kit c b e2, q _ _ _ S2 (m.trans ⟨same_new S1.bh hn, same_newH hn⟩) (by simp only [Rep])⟩
/-- e.f -/
@[simp] def exfD (f : Str) (tab : String → Bool) (fa : List OT → Option Dat) : List OT → Option Dat := fun e => match fa e with
  | some (.exn c ns xs) => if tab c = true then (ns.zip xs).lookup f else none
  | _ => none
theorem zip_look {k : KC} {B : Hp} {f : Str} {d : Dat} : ∀ {ns : List Str} {xs : List Dat} {vs : List V}, (ns.zip xs).lookup f = some d → Reps k B xs vs → ∃ v, (ns.zip vs).lookup f = some v ∧ Rep k B d v
  | [], xs, vs, h, r => by simp at h
  | n :: ns, [], vs, h, r => by simp at h
  | n :: ns, x :: xs, vs, h, r => by
    simp only [Reps] at r
    obtain ⟨v, r', rfl, h1, h2⟩ := r
    simp only [List.zip_cons_cons, List.lookup_cons] at h ⊢
    split at h
    · rename_i e
      cases h
      exact ⟨v, rfl, h1⟩
    · exact zip_look h h2
structure Xf (k : KC) (f : Str) (tab : String → Bool) : Prop where
  at_ : ∀ c, tab c = true → ExcA k.K (k.cl c)
  no : ∀ c, tab c = true → PySem.W.findIn k.K (.ref (k.cl c)) f = some none
theorem d_exf {f : Str} {tab : String → Bool} (hk : X.K = k.K) (T : Xf k f tab) (ha : PE X a (tD k fa)) (hb : attributeBase a f X.env (eval a X.env) = eval a X.env := by rfl) : PE X (.Attribute a f pos) (tD k (exfD f tab fa)) := by
  refine ⟨fun pins s σ H Q I h => ?_⟩
  obtain ⟨G, B, w, env, d, S, h, q⟩ := h
  unfold exfD at h
  split at h
  · rename_i c ns xs e1
    split at h
    · rename_i ht
      refine attr_of hb (thn (ha.run pins s σ H _ I ⟨G, B, w, env, _, S, e1, fun v B1 H1 S1 m r => (⟨B1, S1, m, r⟩ : ∃ B1, Sta k G B1 H1 w σ env ∧ Mv B H B1 H1 ∧ Rep k B1 (.exn c ns xs) v)⟩) fun u s1 hh => ?_)
      obtain ⟨v, H1, I1, rv, B1, S1, m, r⟩ := hh
      simp only [Rep] at r
      obtain ⟨p, dd, vs, rfl, hp, hx, hl, hr⟩ := r
      cases (show u = Value.ref p from rv)
      obtain ⟨v, l, rd⟩ := zip_look h hr
      have hx' := hx.mono S1.bh
      have A := T.at_ c ht
      obtain ⟨oe, od, J, jd⟩ := kex_inst I1 (S1.bh _ _ hp) hx'
      cases dd with
      | none =>
        have z : ns.zip vs = [] := hx
        rw [z] at l
        cases l
      | some dd =>
        obtain ⟨jo, jn⟩ := jd dd rfl
        obtain ⟨mA, hns, hrel⟩ := (show ObjOk X.prog X.w H1 s1.heap dd (.xd (ns.zip vs)) from I1.hok dd _ hx')
        obtain ⟨od', ho, hl'⟩ := lookIn_ns hns
        rw [ho] at jo
        subst jo
        obtain ⟨u, hu, ru⟩ := RelO.some_of (v := v) (o := mA f) (by rw [← l]; exact hrel f)
        exact HandSPX.exc_get I1.kIn J (hk ▸ A.ga) (hk ▸ A.gg) (hk ▸ A.sb) (PySem.W.findObj_own (hk ▸ A.hd) (hk ▸ T.no c ht) rfl (by rw [hl', hu])) (handed_of ru) ⟨v, H1, I1.tok _, ru, q v B1 H1 S1 m rd⟩
    · cases h
  · cases h
end
end DL
/-! is True, {} -/
namespace DL
open PySem L2 PySem.Spec PyProof.Rows
section
variable {k : KC} {X : Cx} {pos : Pos} {a b : Expr} {fa fb : List OT → Option Dat}
@[simp] def isBD : Dat → Dat → Option Dat
  | .bl x, .bl y => some (.bl (x == y))
  | _, _ => none
@[simp] def isnBD : Dat → Dat → Option Dat
  | .bl x, .bl y => some (.bl (x != y))
  | _, _ => none
def rIsB : R2 := fun x y H Q => ∃ c d, x = .bl c ∧ y = .bl d ∧ Q (.bl (c == d)) H
def rIsnB : R2 := fun x y H Q => ∃ c d, x = .bl c ∧ y = .bl d ∧ Q (.bl (c != d)) H
theorem op_isB : OpR X (compareOp .Is) rIsB := by
  intro pins s σ H x y v u Q I r1 r2 h
  obtain ⟨c, d, rfl, rfl, q⟩ := h
  cases (show v = Value.bool c from r1)
  cases (show u = Value.bool d from r2)
  exact is_bool ⟨.bl _, H, I, rfl, q⟩
theorem op_isnB : OpR X (compareOp .IsNot) rIsnB := by
  intro pins s σ H x y v u Q I r1 r2 h
  obtain ⟨c, d, rfl, rfl, q⟩ := h
  cases (show v = Value.bool c from r1)
  cases (show u = Value.bool d from r2)
  exact isnot_bool ⟨.bl _, H, I, rfl, q⟩
theorem rd_isB : RD k rIsB isBD := fun B H x y d v u Q hs rx ry e q => by
  unfold isBD at e
  split at e
  · cases e
    simp only [Rep] at rx ry
    exact ⟨_, _, rx, ry, q _ B H .refl (by simp only [Rep])⟩
  · cases e
theorem rd_isnB : RD k rIsnB isnBD := fun B H x y d v u Q hs rx ry e q => by
  unfold isnBD at e
  split at e
  · cases e
    simp only [Rep] at rx ry
    exact ⟨_, _, rx, ry, q _ B H .refl (by simp only [Rep])⟩
  · cases e
theorem d_isB_ (ha : PE X a (tD k fa)) (hb : PE X b (tD k fb)) : PE X (.Compare a [.Is] [b] pos) (tD k (bin isBD fa fb)) := d_cmp op_isB rd_isB ha hb (nomark _)
theorem d_isnB_ (ha : PE X a (tD k fa)) (hb : PE X b (tD k fb)) : PE X (.Compare a [.IsNot] [b] pos) (tD k (bin isnBD fa fb)) := d_cmp op_isnB rd_isnB ha hb (nomark _)
theorem t_isB_ (ha : PE X a (tD k fa)) (hb : PE X b (tD k fb)) : PT X (.Compare a [.Is] [b] pos) (tT k (tst (bin isBD fa fb))) := t_cmp op_isB rd_isB ha hb (nomark _)
theorem t_isnB_ (ha : PE X a (tD k fa)) (hb : PE X b (tD k fb)) : PT X (.Compare a [.IsNot] [b] pos) (tT k (tst (bin isnBD fa fb))) := t_cmp op_isnB rd_isnB ha hb (nomark _)
/-- {} -/
theorem d_dnew : PE X (.Dict [] [] pos) (tD k (cn (.dct [] []))) := pe_imp pe_dnewK fun σ H Q ⟨G, B, w, env, d, S, h, q⟩ p hp => by
  cases h
  refine q _ _ _ (S.new hp) ⟨same_new S.bh hp, same_newH hp⟩ ?_
  simp only [Rep]
  exact ⟨p, [], rfl, .inl upd_same, rfl, .nil⟩
end
end DL
namespace DL
open PySem
/-! ### which class is which, and the rest of the readings as equations -/
@[simp] theorem isi_eq {T : String} {f : List OT → Option Dat} {e : List OT} : isiD T f e = match f e with
  | none => none
  | some d => match d.ty with
    | none => none
    | some t => (L2.kitB t T).map .bl := rfl
@[simp] theorem ty_n : Dat.ty .non = some "NoneType" := rfl
@[simp] theorem ty_b {b : Bool} : Dat.ty (.bl b) = some "bool" := rfl
@[simp] theorem ty_i {i : Int} : Dat.ty (.int i) = some "int" := rfl
@[simp] theorem ty_s {x : Str} : Dat.ty (.str x) = some "str" := rfl
@[simp] theorem ty_t {xs : List Dat} : Dat.ty (.tup xs) = some "tuple" := rfl
@[simp] theorem ty_l {xs : List Dat} : Dat.ty (.lst xs) = some "list" := rfl
@[simp] theorem ty_d {ks : List L2.Key} {xs : List Dat} : Dat.ty (.dct ks xs) = some "dict" := rfl
@[simp] theorem kit_NoneType_int : L2.kitB "NoneType" "int" = some false := by decide +kernel
@[simp] theorem kit_NoneType_bool : L2.kitB "NoneType" "bool" = some false := by decide +kernel
@[simp] theorem kit_NoneType_tuple : L2.kitB "NoneType" "tuple" = some false := by decide +kernel
@[simp] theorem kit_NoneType_list : L2.kitB "NoneType" "list" = some false := by decide +kernel
@[simp] theorem kit_NoneType_str : L2.kitB "NoneType" "str" = some false := by decide +kernel
@[simp] theorem kit_NoneType_dict : L2.kitB "NoneType" "dict" = some false := by decide +kernel
@[simp] theorem kit_bool_int : L2.kitB "bool" "int" = some true := by decide +kernel
@[simp] theorem kit_bool_bool : L2.kitB "bool" "bool" = some true := by decide +kernel
@[simp] theorem kit_bool_tuple : L2.kitB "bool" "tuple" = some false := by decide +kernel
@[simp] theorem kit_bool_list : L2.kitB "bool" "list" = some false := by decide +kernel
@[simp] theorem kit_bool_str : L2.kitB "bool" "str" = some false := by decide +kernel
@[simp] theorem kit_bool_dict : L2.kitB "bool" "dict" = some false := by decide +kernel
@[simp] theorem kit_int_int : L2.kitB "int" "int" = some true := by decide +kernel
@[simp] theorem kit_int_bool : L2.kitB "int" "bool" = some false := by decide +kernel
@[simp] theorem kit_int_tuple : L2.kitB "int" "tuple" = some false := by decide +kernel
@[simp] theorem kit_int_list : L2.kitB "int" "list" = some false := by decide +kernel
@[simp] theorem kit_int_str : L2.kitB "int" "str" = some false := by decide +kernel
@[simp] theorem kit_int_dict : L2.kitB "int" "dict" = some false := by decide +kernel
@[simp] theorem kit_str_int : L2.kitB "str" "int" = some false := by decide +kernel
@[simp] theorem kit_str_bool : L2.kitB "str" "bool" = some false := by decide +kernel
@[simp] theorem kit_str_tuple : L2.kitB "str" "tuple" = some false := by decide +kernel
@[simp] theorem kit_str_list : L2.kitB "str" "list" = some false := by decide +kernel
@[simp] theorem kit_str_str : L2.kitB "str" "str" = some true := by decide +kernel
@[simp] theorem kit_str_dict : L2.kitB "str" "dict" = some false := by decide +kernel
@[simp] theorem kit_tuple_int : L2.kitB "tuple" "int" = some false := by decide +kernel
@[simp] theorem kit_tuple_bool : L2.kitB "tuple" "bool" = some false := by decide +kernel
@[simp] theorem kit_tuple_tuple : L2.kitB "tuple" "tuple" = some true := by decide +kernel
@[simp] theorem kit_tuple_list : L2.kitB "tuple" "list" = some false := by decide +kernel
@[simp] theorem kit_tuple_str : L2.kitB "tuple" "str" = some false := by decide +kernel
@[simp] theorem kit_tuple_dict : L2.kitB "tuple" "dict" = some false := by decide +kernel
@[simp] theorem kit_list_int : L2.kitB "list" "int" = some false := by decide +kernel
@[simp] theorem kit_list_bool : L2.kitB "list" "bool" = some false := by decide +kernel
@[simp] theorem kit_list_tuple : L2.kitB "list" "tuple" = some false := by decide +kernel
@[simp] theorem kit_list_list : L2.kitB "list" "list" = some true := by decide +kernel
@[simp] theorem kit_list_str : L2.kitB "list" "str" = some false := by decide +kernel
@[simp] theorem kit_list_dict : L2.kitB "list" "dict" = some false := by decide +kernel
@[simp] theorem kit_dict_int : L2.kitB "dict" "int" = some false := by decide +kernel
@[simp] theorem kit_dict_bool : L2.kitB "dict" "bool" = some false := by decide +kernel
@[simp] theorem kit_dict_tuple : L2.kitB "dict" "tuple" = some false := by decide +kernel
@[simp] theorem kit_dict_list : L2.kitB "dict" "list" = some false := by decide +kernel
@[simp] theorem kit_dict_str : L2.kitB "dict" "str" = some false := by decide +kernel
@[simp] theorem kit_dict_dict : L2.kitB "dict" "dict" = some true := by decide +kernel
theorem fn_len {n N : Nat} {g : List OT → Option Out} {ds : List Dat} (h : ds.length = n) : fnD n N g ds = match g (ds.map .sh ++ List.replicate (N - n) .un) with
    | some (.rt o _) => some o
    | some (.nx _) => some (.sh .non)
    | _ => none := if_pos h
theorem fn_rt {n N : Nat} {g : List OT → Option Out} {ds : List Dat} {o : OT} {e : List OT} (h : ds.length = n) (hg : g (ds.map .sh ++ List.replicate (N - n) .un) = some (.rt o e)) : fnD n N g ds = some o := by
  rw [fn_len h, hg]
@[simp] theorem oks_sh : ∀ ds : List Dat, OT.oks (ds.map .sh) = true
  | [] => rfl
  | d :: ds => by simp only [List.map_cons, OT.oks, OT.ok, oks_sh ds, Bool.and_true]
@[simp] theorem dats_sh : ∀ ds : List Dat, OT.dats (ds.map .sh) = ds
  | [] => rfl
  | d :: ds => by simp only [List.map_cons, OT.dats, OT.dat, dats_sh ds]
@[simp] theorem ok_lstU (xs : List OT) : OT.ok (.lst xs) = OT.oks xs := by simp only [OT.ok]
@[simp] theorem dat_lstU (xs : List OT) : OT.dat (.lst xs) = .lst (OT.dats xs) := by simp only [OT.dat]
@[simp] theorem oks_nil : OT.oks [] = true := rfl
@[simp] theorem oks_cons (x : OT) (xs : List OT) : OT.oks (x :: xs) = (x.ok && OT.oks xs) := by simp only [OT.oks]
@[simp] theorem dats_nil : OT.dats [] = [] := rfl
@[simp] theorem dats_cons (x : OT) (xs : List OT) : OT.dats (x :: xs) = x.dat :: OT.dats xs := by simp only [OT.dats]
@[simp] theorem ok_sh (d : Dat) : OT.ok (.sh d) = true := rfl
@[simp] theorem dat_sh (d : Dat) : OT.dat (.sh d) = d := rfl
@[simp] theorem eqB_int (i j : Int) : eqB (.int i) (.int j) = some (decide (i = j)) := rfl
@[simp] theorem eqB_str (i j : Str) : eqB (.str i) (.str j) = some (decide (i = j)) := rfl
@[simp] theorem eqB_bl (i j : Bool) : eqB (.bl i) (.bl j) = some (decide (i = j)) := rfl
@[simp] theorem sum_int (i j : Int) : sumD (.int i) (.int j) = some (.int (i + j)) := rfl
@[simp] theorem ix_lst (xs : List Dat) (i : Int) : ixD (.lst xs) (.int i) = L2.atI xs i := rfl
@[simp] theorem ix_tp (xs : List Dat) (i : Int) : ixD (.tup xs) (.int i) = L2.atI xs i := rfl
@[simp] theorem atI_0 {α : Type} (x : α) (xs : List α) : L2.atI (x :: xs) 0 = some x := by
  simp [L2.atI, L2.ixN]
theorem atI_nn {α : Type} (xs : List α) (j : Nat) : L2.atI xs (j : Int) = xs[j]? := by
  unfold L2.atI L2.ixN
  by_cases h : j < xs.length
  · simp [h]
  · have : xs[j]? = none := List.getElem?_eq_none_iff.mpr (by omega)
    rw [this]
    simp only [Int.natCast_nonneg, if_true]
    rw [if_neg (by omega)]
    rfl
@[simp] theorem atI_1 {α : Type} (x y : α) (xs : List α) : L2.atI (x :: y :: xs) 1 = some y := atI_nn (x :: y :: xs) 1
@[simp] theorem atI_2 {α : Type} (x y z : α) (xs : List α) : L2.atI (x :: y :: z :: xs) 2 = some z := atI_nn (x :: y :: z :: xs) 2
@[simp] theorem atI_3 {α : Type} (x y z u : α) (xs : List α) : L2.atI (x :: y :: z :: u :: xs) 3 = some u := atI_nn (x :: y :: z :: u :: xs) 3
@[simp] theorem len_lst (xs : List Dat) : lenD [.lst xs] = some (.int xs.length) := rfl
@[simp] theorem len_tup (xs : List Dat) : lenD [.tup xs] = some (.int xs.length) := rfl
@[simp] theorem loop_nil {st : Dat → List OT → Option (List OT)} {body : List OT → Option Out} {e : List OT} : loopS st body [] e = some (.nx e) := rfl
theorem loop_cons {st : Dat → List OT → Option (List OT)} {body : List OT → Option Out} {e e1 : List OT} {d : Dat} {ds : List Dat} (h : st d e = some e1) : loopS st body (d :: ds) e = (match body e1 with
      | some (.nx e2) => loopS st body ds e2
      | some (.ct e2) => loopS st body ds e2
      | some (.bk e2) => some (.nx e2)
      | some (.rt o e2) => some (.rt o e2)
      | some (.ex c ns xs e2) => some (.ex c ns xs e2)
      | none => none) := by
  simp only [loopS, h] <;> rcases body e1 with _ | o <;> first | rfl | (cases o <;> rfl)
/-- a comprehension, element by element -/
theorem lcGo_map {st : Dat → List OT → Option (List OT)} {elt : List OT → Option Dat} {e0 : List OT} {f : Dat → Dat} : ∀ {ds : List Dat}, (∀ d ∈ ds, ∃ e1, st d e0 = some e1 ∧ elt e1 = some (f d)) → lcGo st yesB elt e0 ds = some (ds.map f)
  | [], _ => rfl
  | d :: ds, h => by
    obtain ⟨e1, h1, h2⟩ := h d List.mem_cons_self
    have ih := lcGo_map (ds := ds) (fun x hx => h x (List.mem_cons_of_mem _ hx))
    simp [lcGo, h1, h2, ih, yesB]
theorem lcF_map {src : List OT → Option (List Dat)} {own : List Nat} {st : Dat → List OT → Option (List OT)} {elt : List OT → Option Dat} {e : List OT} {ds : List Dat} (f : Dat → Dat) (hs : src e = some ds) (hl : ds.length < 16000000)
    (h : ∀ d ∈ ds, ∃ e1, st d (wipeE e own) = some e1 ∧ elt e1 = some (f d)) : lcF src own st yesB elt e = some (.lst ((ds.map f).map .sh)) := by
  unfold lcF
  rw [hs]
  simp only [if_pos hl, lcGo_map h]
/-- over what some list of one's own stands for -/
theorem lcF_of {α : Type} {src : List OT → Option (List Dat)} {own : List Nat} {st : Dat → List OT → Option (List OT)} {elt : List OT → Option Dat} {e : List OT} {xs : List α} {c : α → Dat} (f : α → Dat) (hs : src e = some (xs.map c)) (hl : xs.length < 16000000)
    (h : ∀ x ∈ xs, ∃ e1, st (c x) (wipeE e own) = some e1 ∧ elt e1 = some (f x)) : lcF src own st yesB elt e = some (.lst ((xs.map f).map .sh)) := by
  have go : ∀ ys : List α, (∀ x ∈ ys, x ∈ xs) → lcGo st yesB elt (wipeE e own) (ys.map c) = some (ys.map f) := by
    intro ys
    induction ys with
    | nil => intro _; rfl
    | cons y ys ih =>
      intro hy
      obtain ⟨e1, h1, h2⟩ := h y (hy y List.mem_cons_self)
      have := ih fun x hx => hy x (List.mem_cons_of_mem _ hx)
      simp [lcGo, h1, h2, this, yesB]
  unfold lcF
  rw [hs]
  simp only [List.length_map, if_pos hl, go xs fun _ h => h]
theorem rng1_eq {fs : List OT → Option (List Dat)} {e : List OT} {n : Nat} (h : fs e = some [.int (n : Int)]) (hn : n < 4000000) : rng1 fs e = some ((List.range n).map fun i => .int (i : Int)) := by
  unfold rng1
  rw [h]
  simp only
  rw [if_pos (by omega)]
  simp [rngFrom]
theorem rng2_eq {fs : List OT → Option (List Dat)} {e : List OT} {a b : Nat} (h : fs e = some [.int (a : Int), .int (b : Int)]) (ha : a < 4000000) (hb : b < 4000000) : rng2 fs e = some ((List.range (b - a)).map fun i => .int ((a : Int) + (i : Int))) := by
  unfold rng2
  rw [h]
  simp only
  rw [if_pos (by omega)]
  have : ((b : Int) - (a : Int)).toNat = b - a := by omega
  rw [this]
  rfl
/-! ### one step of a body at a time -/
theorem retO_of {f : List OT → Option OT} {e : List OT} {o : OT} (h : f e = some o) : retO f e = some (.rt o e) := by simp only [retO, h]
theorem retS_of {f : List OT → Option Dat} {e : List OT} {d : Dat} (h : f e = some d) : retS f e = some (.rt (.sh d) e) := by simp only [retS, h]
theorem seq_nx {g h : List OT → Option Out} {e e1 : List OT} {o : Out} (h1 : g e = some (.nx e1)) (h2 : h e1 = some o) : seqO g h e = some o := by simp only [seqO, h1, h2]
theorem seq_rt {g h : List OT → Option Out} {e e1 : List OT} {o : OT} (h1 : g e = some (.rt o e1)) : seqO g h e = some (.rt o e1) := by simp only [seqO, h1]
theorem seq_ct {g h : List OT → Option Out} {e e1 : List OT} (h1 : g e = some (.ct e1)) : seqO g h e = some (.ct e1) := by simp only [seqO, h1]
theorem set_of {i : Nat} {f : List OT → Option Dat} {e e1 : List OT} {d : Dat} (h : f e = some d) (he : e.set i (.sh d) = e1) : setS i f e = some (.nx e1) := by
  subst he
  simp only [setS, h]
theorem setO_of {i : Nat} {f : List OT → Option OT} {e e1 : List OT} {o : OT} (h : f e = some o) (hi : i < e.length) (he : e.set i o = e1) : setO i f e = some (.nx e1) := by
  subst he
  simp only [setO, h, if_pos hi]
theorem if_t {c : List OT → Option Bool} {g h : List OT → Option Out} {e : List OT} {o : Out} (hc : c e = some true) (hg : g e = some o) : ifS c g h e = some o := by simp only [ifS, hc, hg]
theorem if_f {c : List OT → Option Bool} {g h : List OT → Option Out} {e : List OT} {o : Out} (hc : c e = some false) (hg : h e = some o) : ifS c g h e = some o := by simp only [ifS, hc, hg]
theorem mlt_of {f : List OT → Option OT} {e : List OT} {o : OT} {d : Dat} (h : f e = some o) (z : o.ok = true) (hd : o.dat = d) : mlt f e = some d := by
  subst hd
  simp only [mlt, h, if_pos z]
theorem mlt_lst {f : List OT → Option OT} {e : List OT} {ds : List Dat} (h : f e = some (.lst (ds.map .sh))) : mlt f e = some (.lst ds) := mlt_of h (by simp) (by simp)
theorem mlt_shd {f : List OT → Option OT} {e : List OT} {d : Dat} (h : f e = some (.sh d)) : mlt f e = some d := mlt_of h rfl rfl
theorem call_of {n : Nat} {f : List Dat → Option OT} {fs : List OT → Option (List Dat)} {e : List OT} {ds : List Dat} {o : OT} (h1 : fs e = some ds) (hl : ds.length = n) (h2 : f ds = some o) : callO n f fs e = some o := by simp only [callO, h1, if_pos hl, h2]
theorem callB_of {n : Nat} {f : List Dat → Option OT} {fs : List OT → Option (List Dat)} {e : List OT} {ds : List Dat} {d : Dat} (h1 : fs e = some ds) (hl : ds.length = n) (h2 : f ds = some (.sh d)) (z : d.sc = true) : callB n f fs e = some d := by simp only [callB, h1, if_pos hl, h2, z, if_true]
theorem for_of {src : List OT → Option (List Dat)} {st : Dat → List OT → Option (List OT)} {body : List OT → Option Out} {e : List OT} {ds : List Dat} {o : Out} (h1 : src e = some ds) (h2 : loopS st body ds e = some o) : forS src st body e = some o := by simp only [forS, h1, h2]
theorem cons_of {f : List OT → Option Dat} {g : List OT → Option (List Dat)} {e : List OT} {d : Dat} {ds : List Dat} (h1 : f e = some d) (h2 : g e = some ds) : consA f g e = some (d :: ds) := by simp only [consA, h1, h2]
theorem bin_of {g : Dat → Dat → Option Dat} {fa fb : List OT → Option Dat} {e : List OT} {x y : Dat} {r : Option Dat} (h1 : fa e = some x) (h2 : fb e = some y) (h3 : g x y = r) : DL.bin g fa fb e = r := by simp only [DL.bin, h1, h2, h3]
/-! ### a thing equals itself -/
mutual
theorem eqv_self : ∀ d : Dat, d.noobj = true → PyData.eqv d.py d.py = true
  | .non, _ => by simp [Dat.py, PyData.eqv]
  | .bl b, _ => by simp [Dat.py, PyData.eqv]
  | .int i, _ => by simp [Dat.py, PyData.eqv]
  | .str x, _ => by simp [Dat.py, PyData.eqv]
  | .tup xs, h => by
    simp only [Dat.py, PyData.eqv]
    exact eqvs_self xs (by simpa only [Dat.noobj] using h)
  | .lst xs, h => by
    simp only [Dat.py, PyData.eqv]
    exact eqvs_self xs (by simpa only [Dat.noobj] using h)
  | .obj _ _ _, h => by simp [Dat.noobj] at h
  | .dct _ _, h => by simp [Dat.noobj] at h
  | .exn _ _ _, h => by simp [Dat.noobj] at h
theorem eqvs_self : ∀ ds : List Dat, Dat.noobjs ds = true → PyData.eqvAll (Dat.pys ds) (Dat.pys ds) = true
  | [], _ => by simp [Dat.pys, PyData.eqvAll]
  | d :: ds, h => by
    simp only [Dat.noobjs, Bool.and_eq_true] at h
    simp only [Dat.pys, PyData.eqvAll, eqv_self d h.1, eqvs_self ds h.2, Bool.and_true]
end
/-- what == takes: no objects, texts of plain signs, depth n -/
structure Plain (d : Dat) (n : Nat) : Prop where
  no : d.noobj = true
  lay : d.py.canLay0 = true
  dep : d.py.depth ≤ n
theorem Plain.ok {d : Dat} {n : Nat} (h : Plain d n) (hn : n ≤ 64) : okEq d = true := by
  unfold okEq SeqAt.shaped
  rw [h.no, h.lay, decide_eq_true (Nat.le_trans h.dep hn)]
  rfl
theorem plains : ∀ {ds : List Dat} {n : Nat}, (∀ d ∈ ds, Plain d n) → Dat.noobjs ds = true ∧ PyData.canLayAll0 (Dat.pys ds) = true ∧ PyData.depthAll (Dat.pys ds) ≤ n
  | [], n, _ => ⟨rfl, by simp [Dat.pys, PyData.canLayAll0], by simp [Dat.pys, PyData.depthAll]⟩
  | d :: ds, n, h => by
    have a := h d List.mem_cons_self
    obtain ⟨x, y, z⟩ := plains (ds := ds) fun x hx => h x (List.mem_cons_of_mem _ hx)
    refine ⟨by simp only [Dat.noobjs, a.no, x, Bool.and_true], by simp only [Dat.pys, PyData.canLayAll0, a.lay, y, Bool.and_true], ?_⟩
    simp only [Dat.pys, PyData.depthAll]
    exact Nat.max_le.mpr ⟨a.dep, z⟩
theorem Plain.lst {ds : List Dat} {n : Nat} (h : ∀ d ∈ ds, Plain d n) : Plain (.lst ds) (n + 1) := by
  obtain ⟨x, y, z⟩ := plains h
  refine ⟨by simp only [Dat.noobj, x], by simp only [Dat.py, PyData.canLay0, y], ?_⟩
  simp only [Dat.py, PyData.depth]
  omega
theorem Plain.tup {ds : List Dat} {n : Nat} (h : ∀ d ∈ ds, Plain d n) : Plain (.tup ds) (n + 1) := by
  obtain ⟨x, y, z⟩ := plains h
  refine ⟨by simp only [Dat.noobj, x], by simp only [Dat.py, PyData.canLay0, y], ?_⟩
  simp only [Dat.py, PyData.depth]
  omega
theorem Plain.int (i : Int) : Plain (.int i) 0 := ⟨rfl, by simp [Dat.py, PyData.canLay0], by simp [Dat.py, PyData.depth]⟩
theorem Plain.mono {d : Dat} {n m : Nat} (h : Plain d n) (hm : n ≤ m) : Plain d m := ⟨h.no, h.lay, Nat.le_trans h.dep hm⟩
theorem eqB_self {d : Dat} {n : Nat} (h : Plain d n) (hn : n ≤ 64) : eqB d d = some true := by
  unfold eqB
  cases e : scEq d d with
  | none =>
    simp only [h.ok hn, Bool.and_true, if_true]
    rw [eqv_self d h.no]
  | some b =>
    cases d <;> simp [scEq] at e <;> simp [e]
/-! ### fractions as rationals -/
def enc (q : Rat) : Dat := .tup [.int q.num, .int (q.den : Int)]
theorem plain_enc (q : Rat) : Plain (enc q) 1 := .tup fun d h => by
  simp at h
  rcases h with rfl | rfl <;> exact .int _
/-- top and bottom within n bits -/
def Sz (q : Rat) (n : Nat) : Prop := q.num.natAbs < 2 ^ n ∧ q.den < 2 ^ n
theorem Sz.mono {q : Rat} {n m : Nat} (h : Sz q n) (hm : n ≤ m) : Sz q m := ⟨Nat.lt_of_lt_of_le h.1 (Nat.pow_le_pow_right (by decide) hm), Nat.lt_of_lt_of_le h.2 (Nat.pow_le_pow_right (by decide) hm)⟩
theorem natAbs_div_le (a : Int) (g : Nat) : (a / (g : Int)).natAbs ≤ a.natAbs := by
  cases Nat.eq_zero_or_pos g with
  | inl h => subst h; simp
  | inr h =>
    cases a with
    | ofNat n =>
      have : (Int.ofNat n / (g : Int)) = ((n / g : Nat) : Int) := rfl
      rw [this]
      exact Nat.div_le_self n g
    | negSucc n =>
      obtain ⟨k, rfl⟩ : ∃ k, g = k + 1 := ⟨g - 1, by omega⟩
      have e : (Int.negSucc n / ((k + 1 : Nat) : Int)) = Int.negSucc (n / (k + 1)) := rfl
      rw [e]
      have := Nat.div_le_self n (k + 1)
      show n / (k + 1) + 1 ≤ n + 1
      omega
theorem Sz.pos {q : Rat} {n : Nat} (h : Sz q n) : 0 < n := by
  cases n with
  | zero =>
    have a := h.2
    have b := q.den_nz
    simp at a
    omega
  | succ n => exact Nat.succ_pos n
theorem sz_divInt {a b : Int} {n : Nat} (hn : 0 < n) (ha : a.natAbs < 2 ^ n) (hb : b.natAbs < 2 ^ n) : Sz (Rat.divInt a b) n := by
  refine ⟨?_, ?_⟩
  · rw [Rat.num_divInt]
    refine Nat.lt_of_le_of_lt (natAbs_div_le _ _) ?_
    rw [Int.natAbs_mul]
    have : b.sign.natAbs ≤ 1 := by
      rcases Int.lt_trichotomy b 0 with h | h | h
      · rw [Int.sign_eq_neg_one_of_neg h]; decide
      · subst h; decide
      · rw [Int.sign_eq_one_of_pos h]; decide
    have h2 : b.sign.natAbs * a.natAbs ≤ 1 * a.natAbs := Nat.mul_le_mul_right _ this
    omega
  · rw [Rat.den_divInt]
    split
    · exact Nat.one_lt_two_pow (by omega)
    · exact Nat.lt_of_le_of_lt (Nat.div_le_self _ _) hb
theorem two_le {n m : Nat} : 2 ^ n * 2 ^ m = 2 ^ (n + m) := (Nat.pow_add 2 n m).symm
theorem mul_lt {a b n m : Nat} (ha : a < 2 ^ n) (hb : b < 2 ^ m) : a * b < 2 ^ (n + m) := by
  rw [Nat.pow_add]
  exact Nat.mul_lt_mul'' ha hb
theorem natAbs_add_lt {x y : Int} {k : Nat} (hx : x.natAbs < 2 ^ k) (hy : y.natAbs < 2 ^ k) : (x + y).natAbs < 2 ^ (k + 1) := by
  have h := Int.natAbs_add_le x y
  rw [Nat.pow_succ]
  omega
theorem natAbs_sub_lt {x y : Int} {k : Nat} (hx : x.natAbs < 2 ^ k) (hy : y.natAbs < 2 ^ k) : (x - y).natAbs < 2 ^ (k + 1) := by
  have h := Int.natAbs_add_le x (-y)
  rw [Nat.pow_succ]
  have e : x - y = x + -y := Int.sub_eq_add_neg
  rw [e]
  rw [Int.natAbs_neg] at h
  omega
theorem imul_lt {a b : Int} {n m : Nat} (ha : a.natAbs < 2 ^ n) (hb : b.natAbs < 2 ^ m) : (a * b).natAbs < 2 ^ (n + m) := by
  rw [Int.natAbs_mul]
  exact mul_lt ha hb
theorem divInt_self (q : Rat) : Rat.divInt q.num (q.den : Int) = q := by
  exact Rat.num_divInt_den q
theorem den_ne (q : Rat) : (q.den : Int) ≠ 0 := by
  have := q.den_nz
  omega
theorem add_divInt (p q : Rat) : p + q = Rat.divInt (p.num * q.den + q.num * p.den) (p.den * q.den) := by
  conv => lhs; rw [← divInt_self p, ← divInt_self q]
  exact Rat.divInt_add_divInt _ _ (den_ne p) (den_ne q)
theorem sub_divInt (p q : Rat) : p - q = Rat.divInt (p.num * q.den - q.num * p.den) (p.den * q.den) := by
  conv => lhs; rw [← divInt_self p, ← divInt_self q]
  exact Rat.divInt_sub_divInt _ _ (den_ne p) (den_ne q)
theorem mul_divInt (p q : Rat) : p * q = Rat.divInt (p.num * q.num) (p.den * q.den) := by
  conv => lhs; rw [← divInt_self p, ← divInt_self q]
  exact Rat.divInt_mul_divInt _ _
theorem div_divInt (p q : Rat) (h : q ≠ 0) : p / q = Rat.divInt (p.num * q.den) (p.den * q.num) := by
  have e : q⁻¹ = Rat.divInt q.den q.num := by
    conv => lhs; rw [← divInt_self q]
    exact Rat.inv_divInt _ _
  rw [Rat.div_def, e]
  conv => lhs; rw [← divInt_self p]
  exact Rat.divInt_mul_divInt _ _
theorem Sz.add {p q : Rat} {n m : Nat} (hp : Sz p n) (hq : Sz q m) : Sz (p + q) (n + m + 1) := by
  rw [add_divInt]
  refine sz_divInt (by omega) (natAbs_add_lt (imul_lt (b := (q.den : Int)) hp.1 hq.2) ?_) ?_
  · have := imul_lt (b := (p.den : Int)) hq.1 hp.2
    rw [Nat.add_comm m n] at this
    exact this
  · exact Nat.lt_of_lt_of_le (imul_lt (a := (p.den : Int)) (b := (q.den : Int)) hp.2 hq.2) (Nat.pow_le_pow_right (by decide) (by omega))
theorem Sz.sub {p q : Rat} {n m : Nat} (hp : Sz p n) (hq : Sz q m) : Sz (p - q) (n + m + 1) := by
  rw [sub_divInt]
  refine sz_divInt (by omega) (natAbs_sub_lt (imul_lt (b := (q.den : Int)) hp.1 hq.2) ?_) ?_
  · have := imul_lt (b := (p.den : Int)) hq.1 hp.2
    rw [Nat.add_comm m n] at this
    exact this
  · exact Nat.lt_of_lt_of_le (imul_lt (a := (p.den : Int)) (b := (q.den : Int)) hp.2 hq.2) (Nat.pow_le_pow_right (by decide) (by omega))
theorem Sz.mul {p q : Rat} {n m : Nat} (hp : Sz p n) (hq : Sz q m) : Sz (p * q) (n + m) := by
  rw [mul_divInt]
  exact sz_divInt (by have := hp.pos; omega) (imul_lt hp.1 hq.1) (imul_lt (a := (p.den : Int)) (b := (q.den : Int)) hp.2 hq.2)
theorem Sz.div {p q : Rat} {n m : Nat} (hp : Sz p n) (hq : Sz q m) (h : q ≠ 0) : Sz (p / q) (n + m) := by
  rw [div_divInt p q h]
  exact sz_divInt (by have := hp.pos; omega) (imul_lt (b := (q.den : Int)) hp.1 hq.2) (imul_lt (a := (p.den : Int)) hp.2 hq.1)
theorem Sz.neg {p : Rat} {n : Nat} (hp : Sz p n) : Sz (-p) n := by
  refine ⟨?_, hp.2⟩
  show (-p.num).natAbs < _
  rw [Int.natAbs_neg]
  exact hp.1

/-! ### the log2 of the model -/
theorem log2_lt {a n : Nat} (h : a < 2 ^ n) (hn : 0 < n) : a.log2 < n := PySem.Flt.log2_lt_of hn h
theorem mulOk {i j : Int} {n m : Nat} (hi : i.natAbs < 2 ^ n) (hj : j.natAbs < 2 ^ m) (h : n + m < 999000) : i.natAbs.log2 + j.natAbs.log2 < 1000000 := by
  have a := log2_lt (Nat.lt_of_lt_of_le hi (Nat.pow_le_pow_right (by decide) (Nat.le_succ n))) (Nat.succ_pos n)
  have b := log2_lt (Nat.lt_of_lt_of_le hj (Nat.pow_le_pow_right (by decide) (Nat.le_succ m))) (Nat.succ_pos m)
  omega
theorem divOk {i j : Int} (hj : j.natAbs < 2 ^ 9000) : Builtin.divisionGoesByPylong i j = false := PyProof.noPylong_of_log2 (log2_lt hj (by decide))
theorem mulD_ok {i j : Int} {n m : Nat} (hi : i.natAbs < 2 ^ n) (hj : j.natAbs < 2 ^ m) (h : n + m < 999000) : mulD (.int i) (.int j) = some (.int (i * j)) := by
  unfold mulD
  exact if_pos (.inr (.inr (mulOk hi hj h)))
theorem mulD_r {i j : Int} (h : j.natAbs < 2 ^ 64) : prdD (.int i) (.int j) = some (.int (i * j)) := by
  show mulD (.int i) (.int j) = _
  unfold mulD
  exact if_pos (.inr (.inl h))
theorem mulD_l {i j : Int} (h : i.natAbs < 2 ^ 64) : prdD (.int i) (.int j) = some (.int (i * j)) := by
  show mulD (.int i) (.int j) = _
  unfold mulD
  exact if_pos (.inl h)
theorem prdD_ok {i j : Int} {n m : Nat} (hi : i.natAbs < 2 ^ n) (hj : j.natAbs < 2 ^ m) (h : n + m < 999000) : prdD (.int i) (.int j) = some (.int (i * j)) := by
  show mulD (.int i) (.int j) = _
  exact mulD_ok hi hj h
theorem fdvD_ok {i j : Int} (h : j ≠ 0) (hj : j.natAbs < 2 ^ 9000) : fdvD (.int i) (.int j) = some (.int (i.fdiv j)) := by
  unfold fdvD
  exact if_pos ⟨h, divOk hj⟩
theorem modD_ok {i j : Int} (h : j ≠ 0) : modD (.int i) (.int j) = some (.int (i.fmod j)) := by
  unfold modD
  exact if_pos h
end DL
namespace DL
open PySem L2
theorem okX_fn {n N : Nat} {g : List OT → Option Out} : okOf (fnX n N g) = fnD n N g := by
  funext ds
  unfold okOf fnX fnD
  by_cases h : ds.length = n
  · simp only [if_pos h]
    cases g (ds.map .sh ++ List.replicate (N - n) .un) with
    | none => rfl
    | some o => cases o <;> rfl
  · simp only [if_neg h]
theorem ok_iff {f : List Dat → Option Res} {ds : List Dat} {o : OT} : okOf f ds = some o ↔ f ds = some (.ok o) := by
  unfold okOf
  split
  · rename_i o' e
    rw [e]
    simp
  · rename_i h
    exact ⟨fun z => (nomatch z), fun z => absurd z (h o)⟩
theorem fx_len {n N : Nat} {g : List OT → Option Out} {ds : List Dat} (h : ds.length = n) : fnX n N g ds = match g (ds.map .sh ++ List.replicate (N - n) .un) with
    | some (.rt o _) => some (.ok o)
    | some (.nx _) => some (.ok (.sh .non))
    | some (.ex c ns xs _) => some (.ex c ns xs)
    | _ => none := by
  unfold fnX
  rw [if_pos h]
  all_goals (rcases g (ds.map .sh ++ List.replicate (N - n) .un) with _ | o <;> first | rfl | (cases o <;> rfl))
theorem kit_ref {K : PySem.W.Frag} {C D : Addr} {b : Bool} (self : PySem.W.subIn K (.ref C) (.ref C) = some true) (hs : PySem.W.subIn K (.ref C) (.ref D) = some b) (hi : PySem.W.isClsIn K D = true) (ht : PySem.W.typeIn K (.ref D) = some (.type "type")) : PySem.W.kitOne K (.ref C) (.ref D) = some b := by
  unfold PySem.W.kitOne
  split
  · rename_i e
    have e' : C = D := by simpa using e
    subst e'
    rw [← hs, self]
  · show (if ((PySem.W.clsIn K D).isSome && PySem.W.typeIn K (.ref D) == some (.type "type")) = true then PySem.W.subIn K (.ref C) (.ref D) else none) = some b
    have hi' : (PySem.W.clsIn K D).isSome = true := hi
    rw [hi', ht, if_pos (by decide), hs]
theorem kit_typ {K : PySem.W.Frag} {C : Addr} {T : String} {b : Bool} (hs : PySem.W.subIn K (.ref C) (.type T) = some b) (hm : PySem.W.kitMeta T = true) : PySem.W.kitOne K (.ref C) (.type T) = some b := by
  unfold PySem.W.kitOne
  rw [if_neg (by simp)]
  show (if PySem.W.kitMeta T = true then PySem.W.subIn K (.ref C) (.type T) else none) = some b
  rw [if_pos hm, hs]
end DL
/-! Places: ways down a slot's tree, by fields and indexes. -/
namespace DL
open PySem L2
inductive Stp where
  | f (n : Str) (tab : String → Bool)
  | i (j : Int)
def fldIx : List Str → Str → Option Nat
  | [], _ => none
  | m :: ms, n => if m = n then some 0 else match fldIx ms n with
    | none => none
    | some j => some (j + 1)
def OT.core : OT → OT
  | .lent o => o
  | o => o
/-- in the place of what stood: lent where that was lent -/
def OT.re : OT → OT → OT
  | .lent _, t => .lent t
  | _, t => t
def OT.sub : List Stp → OT → Option OT
  | [], o => some o
  | .f n tb :: l, .obj c ns xs => if tb c = true then match fldIx ns n with
      | none => none
      | some j => match xs[j]? with
        | none => none
        | some o => OT.sub l o
    else none
  | .f n tb :: l, .sh (.obj c ns xs) => if tb c = true then match fldIx ns n with
      | none => none
      | some j => match xs[j]? with
        | none => none
        | some d => OT.sub l (.sh d)
    else none
  | .i j :: l, .lst xs => match ixN xs.length j with
      | none => none
      | some m => match xs[m]? with
        | none => none
        | some o => OT.sub l o
  | .i j :: l, .sh (.lst xs) => match ixN xs.length j with
      | none => none
      | some m => match xs[m]? with
        | none => none
        | some d => OT.sub l (.sh d)
  | .i j :: l, .sh (.tup xs) => match ixN xs.length j with
      | none => none
      | some m => match xs[m]? with
        | none => none
        | some d => OT.sub l (.sh d)
  | _, _ => none
def OT.put : List Stp → OT → OT → Option OT
  | [], t, _ => some t
  | .f n tb :: l, t, .obj c ns xs => if tb c = true then match fldIx ns n with
      | none => none
      | some j => match xs[j]? with
        | none => none
        | some o => match OT.put l t o with
          | none => none
          | some o' => some (.obj c ns (xs.set j o'))
    else none
  | .i j :: l, t, .lst xs => match ixN xs.length j with
      | none => none
      | some m => match xs[m]? with
        | none => none
        | some o => match OT.put l t o with
          | none => none
          | some o' => some (.lst (xs.set m o'))
  | _, _, _ => none
theorem sub_snoc {st : Stp} : ∀ {l : List Stp} {o t : OT}, o.sub l = some t → o.sub (l ++ [st]) = t.sub [st]
  | [], o, t, h => by
    simp only [OT.sub, Option.some.injEq] at h
    subst h
    rfl
  | .f n tb :: l, o, t, h => by
    cases o with
    | obj c ns xs =>
      simp only [OT.sub, List.cons_append] at h ⊢
      split at h
      · rename_i hc
        rw [if_pos hc]
        split at h
        · cases h
        · rename_i j e1
          try simp only [e1]
          split at h
          · cases h
          · rename_i o1 e2
            try simp only [e2]
            exact sub_snoc h
      · cases h
    | sh d =>
      cases d with
      | obj c ns xs =>
        simp only [OT.sub, List.cons_append] at h ⊢
        split at h
        · rename_i hc
          rw [if_pos hc]
          split at h
          · cases h
          · rename_i j e1
            try simp only [e1]
            split at h
            · cases h
            · rename_i o1 e2
              try simp only [e2]
              exact sub_snoc h
        · cases h
      | _ => simp [OT.sub] at h
    | _ => simp [OT.sub] at h
  | .i j :: l, o, t, h => by
    cases o with
    | lst xs =>
      simp only [OT.sub, List.cons_append] at h ⊢
      split at h
      · cases h
      · rename_i j e1
        try simp only [e1]
        split at h
        · cases h
        · rename_i o1 e2
          try simp only [e2]
          exact sub_snoc h
    | sh d =>
      cases d with
      | lst xs =>
        simp only [OT.sub, List.cons_append] at h ⊢
        split at h
        · cases h
        · rename_i j e1
          try simp only [e1]
          split at h
          · cases h
          · rename_i o1 e2
            try simp only [e2]
            exact sub_snoc h
      | tup xs =>
        simp only [OT.sub, List.cons_append] at h ⊢
        split at h
        · cases h
        · rename_i j e1
          try simp only [e1]
          split at h
          · cases h
          · rename_i o1 e2
            try simp only [e2]
            exact sub_snoc h
      | _ => simp [OT.sub] at h
    | _ => simp [OT.sub] at h
theorem put_snoc {st : Stp} {t' : OT} : ∀ {l : List Stp} {o t o' : OT}, o.sub l = some t → OT.put (l ++ [st]) t' o = some o' → ∃ t2, OT.put [st] t' t = some t2 ∧ OT.put l t2 o = some o'
  | [], o, t, o', h, g => by
    simp only [OT.sub, Option.some.injEq] at h
    subst h
    exact ⟨o', g, rfl⟩
  | .f n tb :: l, o, t, o', h, g => by
    cases o with
    | obj c ns xs =>
      simp only [OT.sub, OT.put, List.cons_append] at h g ⊢
      split at h
      · rename_i hc
        rw [if_pos hc] at g
        simp only [if_pos hc]
        split at h
        · cases h
        · rename_i j e1
          try simp only [e1] at g ⊢
          split at h
          · cases h
          · rename_i o1 e2
            try simp only [e2] at g ⊢
            cases e3 : OT.put (l ++ [st]) t' o1 with
            | none => simp [e3] at g
            | some o3 =>
              simp only [e3] at g
              obtain ⟨t2, h1, h2⟩ := put_snoc h e3
              exact ⟨t2, h1, by simp only [h2]; exact g⟩
      · cases h
    | sh d => simp [OT.put] at g
    | _ => simp [OT.sub] at h
  | .i j :: l, o, t, o', h, g => by
    cases o with
    | lst xs =>
      simp only [OT.sub, OT.put, List.cons_append] at h g ⊢
      split at h
      · cases h
      · rename_i j e1
        try simp only [e1] at g ⊢
        split at h
        · cases h
        · rename_i o1 e2
          try simp only [e2] at g ⊢
          cases e3 : OT.put (l ++ [st]) t' o1 with
          | none => simp [e3] at g
          | some o3 =>
            simp only [e3] at g
            obtain ⟨t2, h1, h2⟩ := put_snoc h e3
            exact ⟨t2, h1, by simp only [h2]; exact g⟩
    | sh d => simp [OT.put] at g
    | _ => simp [OT.sub] at h
/-- the place's tree t stands at u, ρ below π; put is what comes of a change there -/
def Pl (k : KC) (B H : Hp) (w : WM) (π : List Nat) (l : List Stp) (o : OT) (v : V) (t : OT) (u : V) : Prop :=
  ∃ ρ, ORep k B H w (ρ ++ π) t u ∧ ∀ (B2 H2 : Hp) (w2 : WM) (t' o' : OT), Same B B2 →
    (∀ q ρ', w q = some (ρ' ++ π) → (∀ ρ'', w q ≠ some (ρ'' ++ (ρ ++ π))) → w2 q = some (ρ' ++ π) ∧ H2 q = H q) →
    ORep k B2 H2 w2 (ρ ++ π) t' u → OT.put l t' o = some o' → ORep k B2 H2 w2 π o' v
theorem Pl.nil {k : KC} {B H : Hp} {w : WM} {π : List Nat} {o : OT} {v : V} (r : ORep k B H w π o v) : Pl k B H w π [] o v o v := ⟨[], by simpa using r, fun B2 H2 w2 t' o' _ _ r' h => by
  simp only [OT.put, Option.some.injEq] at h
  subst h
  simpa using r'⟩
theorem fld_look {ns : List Str} {vs : List V} {n : Str} {j : Nat} {x : V} (h : fldIx ns n = some j) (hv : vs[j]? = some x) : (ns.zip vs).lookup n = some x := by
  induction ns generalizing vs j with
  | nil => simp [fldIx] at h
  | cons m ms ih =>
    cases vs with
    | nil => simp at hv
    | cons y ys =>
      simp only [fldIx] at h
      split at h
      · rename_i e
        subst e
        cases h
        simp at hv
        simp [List.lookup, hv]
      · rename_i e
        split at h
        · cases h
        · rename_i j' e1
          cases h
          have : (n == m) = false := by simpa using fun z => e z.symm
          simp only [List.zip_cons_cons, List.lookup, this]
          exact ih e1 (by simpa using hv)
theorem fld_none {ns : List Str} {vs : List V} {n : Str} (h : fldIx ns n = none) : (ns.zip vs).lookup n = none := by
  induction ns generalizing vs with
  | nil => simp
  | cons m ms ih =>
    cases vs with
    | nil => simp
    | cons y ys =>
      simp only [fldIx] at h
      split at h
      · cases h
      · rename_i e
        split at h
        · rename_i e1
          have : (n == m) = false := by simpa using fun z => e z.symm
          simp only [List.zip_cons_cons, List.lookup, this]
          exact ih e1
        · cases h
theorem OReps.set2 {k : KC} {B H B2 H2 : Hp} {w w2 : WM} {π : List Nat} {o : OT} {v : V} : ∀ {n : Nat} {os : List OT} {vs : List V} {j : Nat}, OReps k B H w π n os vs → vs[j]? = some v → ORep k B2 H2 w2 ((n + j) :: π) o v →
    (∀ m o' v', m ≠ n + j → ORep k B H w (m :: π) o' v' → ORep k B2 H2 w2 (m :: π) o' v') → OReps k B2 H2 w2 π n (os.set j o) vs
  | n, [], vs, j, h, hv, r, kp => by
    simp only [OReps] at h
    subst h
    simp at hv
  | n, o0 :: os, vs, 0, h, hv, r, kp => by
    simp only [OReps] at h
    obtain ⟨v0, r0, rfl, h1, h2⟩ := h
    simp at hv
    subst hv
    simp only [List.set_cons_zero, OReps]
    refine ⟨v0, r0, rfl, by simpa using r, ?_⟩
    clear r
    have : ∀ (m : Nat) (os : List OT) (vs : List V), n < m → OReps k B H w π m os vs → OReps k B2 H2 w2 π m os vs := by
      intro m os vs hm h
      induction os generalizing m vs with
      | nil =>
        simp only [OReps] at h ⊢
        exact h
      | cons o os ih =>
        simp only [OReps] at h ⊢
        obtain ⟨v, r, rfl, h3, h4⟩ := h
        exact ⟨v, r, rfl, kp m o v (by omega) h3, ih (m + 1) r (by omega) h4⟩
    exact this (n + 1) os r0 (by omega) h2
  | n, o0 :: os, vs, j + 1, h, hv, r, kp => by
    simp only [OReps] at h
    obtain ⟨v0, r0, rfl, h1, h2⟩ := h
    simp only [List.set_cons_succ, OReps]
    refine ⟨v0, r0, rfl, kp n o0 v0 (by omega) h1, ?_⟩
    refine OReps.set2 h2 (by simpa using hv) ?_ fun m o' v' hm hr => kp m o' v' (by omega) hr
    have : n + 1 + j = n + (j + 1) := by omega
    rw [this]
    exact r
theorem nsub {ρ ρ' π : List Nat} {m j : Nat} (h : m ≠ j) (ρ1 : List Nat) : ρ ++ m :: π ≠ ρ1 ++ j :: π := fun e => by
  have e2 : ρ ++ [m] = ρ1 ++ [j] := List.append_cancel_right (as := ρ ++ [m]) (bs := π) (cs := ρ1 ++ [j]) (by simpa using e)
  have := congrArg (·.getLast?) e2
  simp at this
  exact h this
/-- one step further: a field -/
theorem Pl.fld {k : KC} {B H : Hp} {w : WM} {π : List Nat} {l : List Stp} {o t t1 : OT} {v u : V} {n : Str} {tb : String → Bool} (hB : Same B H) (P : Pl k B H w π l o v t u) (hs : o.sub l = some t) (h : t.sub [.f n tb] = some t1) :
    ∃ c p dx fs x, tb c = true ∧ u = .ref p ∧ H p = some (.ins (k.cl c) dx fs) ∧ fs.lookup n = some x ∧ Pl k B H w π (l ++ [.f n tb]) o v t1 x := by
  obtain ⟨ρ, r, rb⟩ := P
  cases t with
  | obj c ns xs =>
    simp only [OT.sub] at h
    split at h
    · rename_i hc
      split at h
      · cases h
      · rename_i j e1
        split at h
        · cases h
        · rename_i o1 e2
          cases h
          simp only [ORep] at r
          obtain ⟨p, dx, vs, rfl, hp, hl, hw, hr⟩ := r
          obtain ⟨x, hx, rx⟩ := hr.get e2
          rw [Nat.zero_add] at rx
          refine ⟨c, p, dx, _, x, hc, rfl, hp, fld_look e1 hx, j :: ρ, rx, fun B2 H2 w2 t' o' sB fr r' hput => ?_⟩
          obtain ⟨t2, h1, h2⟩ := put_snoc hs hput
          simp only [OT.put, if_pos hc, e1, e2, Option.some.injEq] at h1
          subst h1
          refine rb B2 H2 w2 _ o' sB (fun q ρ' hq nq => fr q ρ' hq fun ρ'' z => nq (ρ'' ++ [j]) (by rw [z]; simp)) ?_ h2
          have f0 := fr p ρ (by simpa using hw) (fun ρ'' z => by
            rw [hw] at z
            have := congrArg (Option.map List.length) z
            simp at this
            omega)
          simp only [ORep]
          refine ⟨p, dx, vs, rfl, f0.2.trans hp, hl, by simpa using f0.1, ?_⟩
          refine hr.set2 hx (by rw [Nat.zero_add]; exact r') fun m o' v' hm hr' => ?_
          rw [Nat.zero_add] at hm
          refine hr'.frame sB fun q ρ' hq => ?_
          have := fr q (ρ' ++ m :: ρ) (by rw [hq]; simp) (fun ρ'' z => by
            rw [hq] at z
            exact nsub (π := ρ ++ π) (ρ := ρ') (ρ' := []) hm ρ'' (by simpa using z))
          exact ⟨by rw [this.1]; simp, this.2⟩
    · cases h
  | sh d =>
    cases d with
    | obj c ns xs =>
      simp only [OT.sub] at h
      split at h
      · rename_i hc
        split at h
        · cases h
        · rename_i j e1
          split at h
          · cases h
          · rename_i o1 e2
            cases h
            simp only [ORep, Rep] at r
            obtain ⟨p, dx, vs, rfl, hp, hl, hr⟩ := r
            obtain ⟨x, hx, rx⟩ := hr.get e2
            refine ⟨c, p, dx, _, x, hc, rfl, hB _ _ hp, fld_look e1 hx, ρ, by simpa only [ORep] using rx, fun B2 H2 w2 t' o' sB fr r' hput => ?_⟩
            obtain ⟨t2, h1, h2⟩ := put_snoc hs hput
            simp [OT.put] at h1
      · cases h
    | _ => simp [OT.sub] at h
  | _ => simp [OT.sub] at h
/-- an index -/
theorem Pl.idx {k : KC} {B H : Hp} {w : WM} {π : List Nat} {l : List Stp} {o t t1 : OT} {v u : V} {j : Int} (hB : Same B H) (P : Pl k B H w π l o v t u) (hs : o.sub l = some t) (h : t.sub [.i j] = some t1) :
    ∃ p vs x, u = .ref p ∧ (SqL k.K H p vs ∨ SqT k.K H p vs) ∧ atI vs j = some x ∧ Pl k B H w π (l ++ [.i j]) o v t1 x := by
  obtain ⟨ρ, r, rb⟩ := P
  cases t with
  | lst xs =>
    simp only [OT.sub] at h
    split at h
    · cases h
    · rename_i m e1
      split at h
      · cases h
      · rename_i o1 e2
        cases h
        simp only [ORep] at r
        obtain ⟨p, vs, rfl, hp, hw, hr⟩ := r
        obtain ⟨x, hx, rx⟩ := hr.get e2
        rw [Nat.zero_add] at rx
        refine ⟨p, vs, x, rfl, .inl (SqL.of hp), by unfold atI; rw [← hr.length, e1]; exact hx, m :: ρ, rx, fun B2 H2 w2 t' o' sB fr r' hput => ?_⟩
        obtain ⟨t2, h1, h2⟩ := put_snoc hs hput
        simp only [OT.put, e1, e2, Option.some.injEq] at h1
        subst h1
        refine rb B2 H2 w2 _ o' sB (fun q ρ' hq nq => fr q ρ' hq fun ρ'' z => nq (ρ'' ++ [m]) (by rw [z]; simp)) ?_ h2
        have f0 := fr p ρ (by simpa using hw) (fun ρ'' z => by
          rw [hw] at z
          have := congrArg (Option.map List.length) z
          simp at this
          omega)
        simp only [ORep]
        refine ⟨p, vs, rfl, f0.2.trans hp, by simpa using f0.1, ?_⟩
        refine hr.set2 hx (by rw [Nat.zero_add]; exact r') fun m' o' v' hm hr' => ?_
        rw [Nat.zero_add] at hm
        refine hr'.frame sB fun q ρ' hq => ?_
        have := fr q (ρ' ++ m' :: ρ) (by rw [hq]; simp) (fun ρ'' z => by
          rw [hq] at z
          exact nsub (π := ρ ++ π) (ρ := ρ') (ρ' := []) hm ρ'' (by simpa using z))
        exact ⟨by rw [this.1]; simp, this.2⟩
  | sh d =>
    cases d with
    | lst xs =>
      simp only [OT.sub] at h
      split at h
      · cases h
      · rename_i m e1
        split at h
        · cases h
        · rename_i o1 e2
          cases h
          simp only [ORep, Rep] at r
          obtain ⟨p, vs, rfl, hp, hr⟩ := r
          obtain ⟨x, hx, rx⟩ := hr.get e2
          refine ⟨p, vs, x, rfl, .inl (sqR hB hp), by unfold atI; rw [← hr.length, e1]; exact hx, ρ, by simpa only [ORep] using rx, fun B2 H2 w2 t' o' sB fr r' hput => ?_⟩
          obtain ⟨t2, h1, h2⟩ := put_snoc hs hput
          simp [OT.put] at h1
    | tup xs =>
      simp only [OT.sub] at h
      split at h
      · cases h
      · rename_i m e1
        split at h
        · cases h
        · rename_i o1 e2
          cases h
          simp only [ORep, Rep] at r
          obtain ⟨p, vs, rfl, hp, hr⟩ := r
          obtain ⟨x, hx, rx⟩ := hr.get e2
          refine ⟨p, vs, x, rfl, .inr (sqT_mono hB hp), by unfold atI; rw [← hr.length, e1]; exact hx, ρ, by simpa only [ORep] using rx, fun B2 H2 w2 t' o' sB fr r' hput => ?_⟩
          obtain ⟨t2, h1, h2⟩ := put_snoc hs hput
          simp [OT.put] at h1
    | _ => simp [OT.sub] at h
  | _ => simp [OT.sub] at h
/-- it stands while all stands -/
theorem Pl.mv {k : KC} {B H B' H' : Hp} {w : WM} {π : List Nat} {l : List Stp} {o t : OT} {v u : V} (hw : ∀ a, w a ≠ none → H a ≠ none) (P : Pl k B H w π l o v t u) (m : Mv B H B' H') : Pl k B' H' w π l o v t u := by
  have st : ∀ p π', w p = some π' → H' p = H p := fun p π' e => by
    cases z : H p with
    | none => exact absurd z (hw p (by rw [e]; exact fun z => nomatch z))
    | some x => exact m.2 p x z
  obtain ⟨ρ, r, rb⟩ := P
  refine ⟨ρ, r.frame m.1 fun p ρ' e => ⟨e, st _ _ e⟩, fun B2 H2 w2 t' o' sB fr r' hp => rb B2 H2 w2 t' o' (m.1.trans sB) (fun q ρ' hq nq => ?_) r' hp⟩
  have z := fr q ρ' hq nq
  exact ⟨z.1, z.2.trans (st _ _ hq)⟩
end DL
/-! Places as expressions; what is read there, what is changed there. -/
namespace DL
open PySem L2
theorem sub_pre {st : Stp} {t1 : OT} : ∀ {l : List Stp} {o : OT}, o.sub (l ++ [st]) = some t1 → ∃ t, o.sub l = some t ∧ t.sub [st] = some t1
  | [], o, h => ⟨o, rfl, h⟩
  | .f n tb :: l, o, h => by
    cases o with
    | obj c ns xs =>
      simp only [OT.sub, List.cons_append] at h ⊢
      split at h
      · rename_i hc
        try rw [if_pos hc]
        split at h
        · cases h
        · rename_i j e1
          try simp only [e1]
          split at h
          · cases h
          · rename_i o1 e2
            try simp only [e2]
            exact sub_pre h
      · cases h
    | sh d =>
      cases d with
      | obj c ns xs =>
        simp only [OT.sub, List.cons_append] at h ⊢
        split at h
        · rename_i hc
          try rw [if_pos hc]
          split at h
          · cases h
          · rename_i j e1
            try simp only [e1]
            split at h
            · cases h
            · rename_i o1 e2
              try simp only [e2]
              exact sub_pre h
        · cases h
      | _ => simp [OT.sub] at h
    | _ => simp [OT.sub] at h
  | .i j :: l, o, h => by
    cases o with
    | lst xs =>
      simp only [OT.sub, List.cons_append] at h ⊢
      split at h
      · cases h
      · rename_i j e1
        try simp only [e1]
        split at h
        · cases h
        · rename_i o1 e2
          try simp only [e2]
          exact sub_pre h
    | sh d =>
      cases d with
      | lst xs =>
        simp only [OT.sub, List.cons_append] at h ⊢
        split at h
        · cases h
        · rename_i j e1
          try simp only [e1]
          split at h
          · cases h
          · rename_i o1 e2
            try simp only [e2]
            exact sub_pre h
      | tup xs =>
        simp only [OT.sub, List.cons_append] at h ⊢
        split at h
        · cases h
        · rename_i j e1
          try simp only [e1]
          split at h
          · cases h
          · rename_i o1 e2
            try simp only [e2]
            exact sub_pre h
      | _ => simp [OT.sub] at h
    | _ => simp [OT.sub] at h
theorem ORep.core {k : KC} {B H : Hp} {w : WM} {π : List Nat} {o : OT} {v : V} (r : ORep k B H w π o v) : ORep k B H w π o.core v := by
  cases o with
  | lent o => simpa only [OT.core, ORep] using r
  | _ => exact r
theorem ORep.re {k : KC} {B H : Hp} {w : WM} {π : List Nat} {o t : OT} {v : V} (r : ORep k B H w π t v) : ORep k B H w π (o.re t) v := by
  cases o with
  | lent o => simpa only [OT.re, ORep] using r
  | _ => exact r
/-- a tree that may be put at a place -/
def OT.free : OT → Bool
  | .lent _ => false
  | .pin => false
  | _ => true
theorem OT.free_fixed {o : OT} (h : o.free = true) : o.fixed = false := by cases o <;> first | rfl | cases h
theorem OT.re_fixed {o t : OT} (h : t.free = true) : (o.re t).fixed = true → o.fixed = true := fun e => by
  cases o with
  | lent o => rfl
  | _ => simp only [OT.re] at e; rw [OT.free_fixed h] at e; cases e
section
variable {k : KC} {W : WX} {G : Gh} {B H B' H' : Hp} {w : WM} {σ : L2.St} {env : List OT}
/-- an object within slot i's own tree changes -/
theorem Sta.inner {i : Nat} {x : HO} {t : OT} {p : Addr} {v : V} {ρ : List Nat} (S : Sta k G B H w σ env) (hv : σ[i]? = some (some v)) (hw : w p = some (ρ ++ [i])) (hi : i < env.length)
    (r : ORep k B (upd H p x) w [i] t v) (hl : t.fixed = true → ∃ o', env[i]? = some o' ∧ o'.fixed = true) : Sta k G B (upd H p x) w σ (env.set i t) where
  bh := fun a u e => by
    have ne : a ≠ p := fun z => by
      subst z
      rw [S.wb a (by rw [hw]; exact fun z => nomatch z)] at e
      exact nomatch e
    rw [upd_ne ne]
    exact S.bh a u e
  b0 := S.b0
  fr := fun a h1 h2 h3 => by
    obtain ⟨x, y, z⟩ := S.fr a h1 h2 h3
    have ne : a ≠ p := fun e => by
      subst e
      rw [hw] at z
      exact nomatch z
    exact ⟨x, by rw [upd_ne ne]; exact y, z⟩
  wb := S.wb
  wh := fun a h => by
    by_cases ne : a = p
    · subst ne
      rw [upd_same]
      exact fun z => nomatch z
    · rw [upd_ne ne]
      exact S.wh a h
  len := by simpa using S.len
  sl := fun j o' h => by
    by_cases hj : i = j
    · subst hj
      rw [List.getElem?_set, if_pos rfl, if_pos hi] at h
      cases h
      exact .inr ⟨_, hv, r⟩
    · rw [List.getElem?_set_ne hj] at h
      rcases S.sl j o' h with e | ⟨v, hv', r'⟩
      · exact .inl e
      · refine .inr ⟨v, hv', r'.frame (.refl _) fun q ρ' e => ⟨e, ?_⟩⟩
        have ne : q ≠ p := fun z => by
          subst z
          rw [hw] at e
          exact ends_ne (ρ := ρ) (ρ' := ρ') hj (by simpa using e)
        rw [upd_ne ne]
  fx := fx_env S.fx hl
/-- a tree of one's own comes to a place within slot i's tree, whose object p changes -/
def wJoin (w w1 : WM) (π : List Nat) : WM := fun a => match w1 a with
  | some ρ => some (ρ ++ π)
  | none => w a
theorem Sta.joined {i : Nat} {x : HO} {t o : OT} {p : Addr} {v y : V} {ρ : List Nat} {w1 : WM} {π : List Nat} (S : Sta k G B H w σ env) (T : Vt k G B H w w1 o y) (hv : σ[i]? = some (some v)) (hw : w p = some (ρ ++ [i])) (hi : i < env.length)
    (hπ : ∃ ρ', π = ρ' ++ [i]) (r : ORep k B (upd H p x) (wJoin w w1 π) [i] t v) (hl : t.fixed = true → ∃ o', env[i]? = some o' ∧ o'.fixed = true) : Sta k G B (upd H p x) (wJoin w w1 π) σ (env.set i t) := by
  have n1 : w1 p = none := by
    cases e : w1 p with
    | none => rfl
    | some q =>
      have := (T.dis p (by rw [e]; exact fun z => nomatch z)).1
      rw [hw] at this
      cases this
  have hwp : wJoin w w1 π p = some (ρ ++ [i]) := by unfold wJoin; rw [n1]; exact hw
  have S2 : Sta k G B H (wJoin w w1 π) σ (env.set i .un) := {
    bh := S.bh
    b0 := S.b0
    fr := fun a h1 h2 h3 => by
      obtain ⟨x, y, z⟩ := S.fr a h1 h2 h3
      refine ⟨x, y, ?_⟩
      unfold wJoin
      cases e : w1 a with
      | none => exact z
      | some ρ => exact absurd ((T.dis a (by rw [e]; exact fun z => nomatch z)).2.2.2 h1 h2) h3
    wb := fun a h => by
      cases e : w1 a with
      | some ρ => exact (T.dis a (by rw [e]; exact fun z => nomatch z)).2.1
      | none => exact S.wb a fun z => h (by unfold wJoin; rw [e]; exact z)
    wh := fun a h => by
      cases e : w1 a with
      | some ρ => exact (T.dis a (by rw [e]; exact fun z => nomatch z)).2.2.1
      | none => exact S.wh a fun z => h (by unfold wJoin; rw [e]; exact z)
    len := by simpa using S.len
    sl := fun j o' h => by
      by_cases hj : i = j
      · subst hj
        rw [List.getElem?_set, if_pos rfl, if_pos hi] at h
        cases h
        exact .inl rfl
      · rw [List.getElem?_set_ne hj] at h
        rcases S.sl j o' h with e | ⟨u, hu, q⟩
        · exact .inl e
        · refine .inr ⟨u, hu, q.frame (.refl _) fun p ρ e => ⟨?_, rfl⟩⟩
          have n1 : w1 p = none := by
            cases z : w1 p with
            | none => rfl
            | some ρ' =>
              have := (T.dis p (by rw [z]; exact fun z => nomatch z)).1
              rw [e] at this
              exact nomatch this
          unfold wJoin
          rw [n1]
          exact e
    fx := fx_env S.fx fun h => nomatch h }
  have S3 := S2.inner (t := .un) (x := x) hv hwp (by simpa using hi) (by simp only [ORep]) (fun h => nomatch h)
  exact {
    bh := S3.bh, b0 := S3.b0, fr := S3.fr, wb := S3.wb, wh := S3.wh
    len := by simpa using S.len
    sl := fun j o' h => by
      by_cases hj : i = j
      · subst hj
        rw [List.getElem?_set, if_pos rfl, if_pos hi] at h
        cases h
        exact .inr ⟨_, hv, r⟩
      · rw [List.getElem?_set_ne hj] at h
        exact S3.sl j o' (by rw [List.getElem?_set_ne hj, List.getElem?_set_ne hj]; exact h)
    fx := fx_env S.fx hl }
end
/-- the value of a place's expression -/
def tP (k : KC) (s : Nat) (ps : List OT → Option (List Stp)) : TE := fun σ H Q => ∃ G B w env l o t, Sta k G B H w σ env ∧ ps env = some l ∧ env[s]? = some o ∧ o ≠ .un ∧ o.core.sub l = some t ∧
  ∀ v u B' H', Sta k G B' H' w σ env → Mv B H B' H' → σ[s]? = some (some v) → Pl k B' H' w [s] l o.core v t u → Q u H'
@[simp] def nmP : List OT → Option (List Stp) := fun _ => some []
@[simp] def fldP (n : Str) (tab : String → Bool) (ps : List OT → Option (List Stp)) : List OT → Option (List Stp) := fun e => match ps e with
  | none => none
  | some l => some (l ++ [.f n tab])
@[simp] def ixP (ps : List OT → Option (List Stp)) (f : List OT → Option Dat) : List OT → Option (List Stp) := fun e => match ps e with
  | none => none
  | some l => match f e with
    | some (.int j) => some (l ++ [.i j])
    | _ => none
/-- the tree at a place -/
@[simp] def plO (s : Nat) (ps : List OT → Option (List Stp)) : List OT → Option OT := fun e => match ps e with
  | none => none
  | some l => match e[s]? with
    | none => none
    | some .un => none
    | some o => OT.sub l o.core
/-- .. changed -/
@[simp] def putO (s : Nat) (ps : List OT → Option (List Stp)) (t : OT) : List OT → Option (List OT) := fun e => match ps e with
  | none => none
  | some l => match e[s]? with
    | none => none
    | some o => match OT.put l t o.core with
      | none => none
      | some o' => if o'.free then some (e.set s (o.re o')) else none
theorem plO_some {s : Nat} {ps : List OT → Option (List Stp)} {e : List OT} {t : OT} (h : plO s ps e = some t) : ∃ l o, ps e = some l ∧ e[s]? = some o ∧ o ≠ .un ∧ OT.sub l o.core = some t := by
  unfold plO at h
  split at h
  · cases h
  · rename_i l e1
    split at h
    · cases h
    · cases h
    · rename_i o hn e2
      exact ⟨l, o, e1, e2, hn, h⟩
theorem putO_some {s : Nat} {ps : List OT → Option (List Stp)} {e e' : List OT} {t : OT} {l : List Stp} {o : OT} (hl : ps e = some l) (ho : e[s]? = some o) (h : putO s ps t e = some e') : ∃ o', OT.put l t o.core = some o' ∧ o'.free = true ∧ e' = e.set s (o.re o') := by
  simp only [putO, hl, ho] at h
  split at h
  · cases h
  · rename_i o' e1
    split at h
    · rename_i hf
      cases h
      exact ⟨o', e1, hf, rfl⟩
    · cases h
section
variable {k : KC} {W : WX} {X : Cx} {pos p0 : Pos} {a b c e : Expr} {s : Nat} {ps : List OT → Option (List Stp)} {fa fb fc : List OT → Option Dat} {es : List Expr} {fs : List OT → Option (List Dat)}
theorem p_nm (s : Nat) {x : Str} (hN : X.N[s]? = some x := by rfl) (hv : Vis X.env.scope x := by first | exact Or.inl rfl | exact Or.inr (Or.inl rfl) | exact Or.inr (Or.inr rfl)) (hd : (x == ("__debug__" : Str)) = false := by decide)
    (hcd : (x == ("__classdict__" : Str)) = false := by decide) : PE X (.Name x pos) (tP k s nmP) := pe_imp (pe_var hN hv hd hcd) fun σ H Q ⟨G, B, w, env, l, o, t, S, h, ho, hu, ht, q⟩ => by
  cases h
  rcases S.sl s o ho with e2 | ⟨v, hv, r⟩
  · exact absurd e2 hu
  · simp only [OT.sub, Option.some.injEq] at ht
    subst ht
    exact ⟨v, hv, q v v B H S .refl hv (.nil r.core)⟩
/-- what is known of the classes that have a field -/
def AF (k : KC) (n : Str) (tab : String → Bool) : Prop := ∀ c, tab c = true → Cls k.K (k.cl c) ∧ NoAttr k.K (k.cl c) n
theorem p_fld {n : Str} {tab : String → Bool} (hk : X.K = k.K) (F : AF k n tab) (he : PE X e (tP k s ps)) (hb : attributeBase e n X.env (eval e X.env) = eval e X.env := by rfl) : PE X (.Attribute e n pos) (tP k s (fldP n tab ps)) :=
  pe_imp (pe_fld he hb) fun σ H Q ⟨G, B, w, env, l, o, t, S, h, ho, hu, ht, q⟩ => by
    unfold fldP at h
    split at h
    · cases h
    · rename_i l0 e0
      cases h
      obtain ⟨t0, h0, h1⟩ := sub_pre ht
      refine ⟨G, B, w, env, l0, o, t0, S, e0, ho, hu, h0, fun v u B' H' S' m hv P => ?_⟩
      obtain ⟨c, p, dx, fs, x, hc, rfl, hp, hx, P2⟩ := P.fld S'.bh h0 h1
      obtain ⟨c1, c2⟩ := F c hc
      exact ⟨p, _, dx, fs, x, rfl, hp, hk ▸ c1, hk ▸ c2, hx, q v x B' H' S' m hv P2⟩
theorem p_ix (hk : X.K = k.K) (ha : PE X a (tP k s ps)) (hb : PE X b (tD k fb)) (hs : PlainIx b := by exact fun _ _ => rfl) : PE X (.Subscript a b pos) (tP k s (ixP ps fb)) :=
  pe_imp (pe_ix (hk ▸ ix_seq) ha hb hs) fun σ H Q ⟨G, B, w, env, l, o, t, S, h, ho, hu, ht, q⟩ => by
    unfold ixP at h
    split at h
    · cases h
    · rename_i l0 e0
      split at h
      · rename_i j e1
        cases h
        obtain ⟨t0, h0, h1⟩ := sub_pre ht
        refine ⟨G, B, w, env, l0, o, t0, S, e0, ho, hu, h0, fun v u B1 H1 S1 m hv P => ⟨G, B1, w, env, _, S1, e1, fun y B2 H2 S2 m2 r => ?_⟩⟩
        simp only [Rep] at r
        obtain ⟨p, vs, x, rfl, hp, hx, P2⟩ := (P.mv S1.wh m2).idx S2.bh h0 h1
        exact hp.elim (fun hp => .inl ⟨p, vs, j, x, rfl, r, hp, hx, q v x B2 H2 S2 (m.trans m2) hv P2⟩) fun hp => .inr (.inl ⟨p, vs, j, x, rfl, r, hp, hx, q v x B2 H2 S2 (m.trans m2) hv P2⟩)
      · cases h
/-- a shared value at a place -/
@[simp] def rdP (s : Nat) (ps : List OT → Option (List Stp)) : List OT → Option Dat := fun e => match plO s ps e with
  | some (.sh d) => some d
  | _ => none
theorem d_rdP (h : PE X e (tP k s ps)) : PE X e (tD k (rdP s ps)) := pe_imp h fun σ H Q ⟨G, B, w, env, d, S, h, q⟩ => by
  unfold rdP at h
  split at h
  · rename_i d' e1
    cases h
    obtain ⟨l, o, h1, h2, h3, h4⟩ := plO_some e1
    refine ⟨G, B, w, env, l, o, _, S, h1, h2, h3, h4, fun v u B' H' S' m hv P => ?_⟩
    obtain ⟨ρ, r, _⟩ := P
    exact q u B' H' S' m (by simpa only [ORep] using r)
  · cases h
/-- a place's tree, looked at -/
@[simp] def brP (s : Nat) (ps : List OT → Option (List Stp)) : List OT → Option Dat := fun e => match plO s ps e with
  | some t => if t.ok then some t.dat else none
  | none => none
theorem b_brP (h : PE X e (tP k s ps)) : PE X e (tB k (brP s ps)) := pe_imp h fun σ H Q ⟨G, B, w, env, d, S, h, q⟩ => by
  unfold brP at h
  split at h
  · rename_i t e1
    split at h
    · rename_i z
      cases h
      obtain ⟨l, o, h1, h2, h3, h4⟩ := plO_some e1
      refine ⟨G, B, w, env, l, o, _, S, h1, h2, h3, h4, fun v u B' H' S' m hv P => ?_⟩
      obtain ⟨ρ, r, _⟩ := P
      exact q u B' H' S' m (r.melt S'.bh (fun p ρ _ => rfl) z)
    · cases h
  · cases h
/-- a field of a shared object -/
def fldD (n : Str) (tab : String → Bool) (f : List OT → Option Dat) : List OT → Option Dat := fun e => match f e with
  | some (.obj c ns xs) => if tab c = true then match fldIx ns n with
      | none => none
      | some j => xs[j]?
    else none
  | _ => none
theorem d_fld {n : Str} {tab : String → Bool} (hk : X.K = k.K) (F : AF k n tab) (he : PE X e (tD k fa)) (hb : attributeBase e n X.env (eval e X.env) = eval e X.env := by rfl) : PE X (.Attribute e n pos) (tD k (fldD n tab fa)) :=
  pe_imp (pe_fld he hb) fun σ H Q ⟨G, B, w, env, d, S, h, q⟩ => by
    unfold fldD at h
    split at h
    · rename_i c ns xs e1
      split at h
      · rename_i hc
        split at h
        · cases h
        · rename_i j e2
          refine ⟨G, B, w, env, _, S, e1, fun v B1 H1 S1 m r => ?_⟩
          simp only [Rep] at r
          obtain ⟨p, dx, vs, rfl, hp, hl, hr⟩ := r
          obtain ⟨x, hx, rx⟩ := hr.get h
          obtain ⟨c1, c2⟩ := F c hc
          exact ⟨p, _, dx, _, x, rfl, S1.bh _ _ hp, hk ▸ c1, hk ▸ c2, fld_look e2 hx, q x B1 H1 S1 m rx⟩
      · cases h
    · cases h
/-! ### changes -/
def tG' (k : KC) (f : List OT → Option (OT × List OT)) : TE := tG k f
/-- x = e, e with changes -/
@[simp] def setG (i : Nat) (f : List OT → Option (OT × List OT)) : List OT → Option Out := fun e => match f e with
  | none => none
  | some (o, e') => if i < e'.length then some (.nx (e'.set i o)) else none
theorem s_setG (i : Nat) {x : Str} {f : List OT → Option (OT × List OT)} {pos' : Pos} (hN : X.N.Nodup) (he : PE X e (tG k f)) (hi : X.N[i]? = some x := by rfl) (hx : Loc X.env.scope x := by first | exact .inl rfl | exact .inr rfl)
    (hs : swapsWith e (some (.Name x pos')) pos.line X.env = pure false := by rfl) (hf : X.fn x = true ∨ X.env.scope.names.lookup x = some .local := by first | exact .inl rfl | exact .inr rfl | assumption) :
    PS X (.Assign [.Name x pos'] e pos) (tS k W (setG i f)) := ps_imp (ps_set hN hi hx he hs hf) fun D σ H ⟨G, B, w, env, o, S, h, q⟩ => by
  unfold setG at h
  split at h
  · cases h
  · rename_i o' e' e1
    split at h
    · rename_i hl
      cases h
      exact ⟨G, B, w, env, o', e', S, e1, fun v B' H' w' w1 S' T m => q _ _ _ _ (S'.setO T hl) m⟩
    · cases h
@[simp] def retG (f : List OT → Option (OT × List OT)) : List OT → Option Out := fun e => match f e with
  | none => none
  | some (o, e') => some (.rt o e')
theorem s_retG {f : List OT → Option (OT × List OT)} (he : PE X e (tG k f)) : PS X (.Return (some e) pos) (tS k W (retG f)) := ps_imp (ps_ret he) fun D σ H ⟨G, B, w, env, o, S, h, q⟩ => by
  unfold retG at h
  split at h
  · cases h
  · rename_i o' e' e1
    cases h
    exact ⟨G, B, w, env, o', e', S, e1, fun v B' H' w' w1 S' T m => q _ _ _ _ _ _ S' T m⟩
@[simp] def dropG (f : List OT → Option (OT × List OT)) : List OT → Option Out := fun e => match f e with
  | none => none
  | some (_, e') => some (.nx e')
theorem s_dropG {f : List OT → Option (OT × List OT)} (he : PE X e (tG k f)) (hs : swapsWith e none pos.line X.env = pure false := by rfl) : PS X (.Expr e pos) (tS k W (dropG f)) := ps_imp (ps_expr he hs) fun D σ H ⟨G, B, w, env, o, S, h, q⟩ => by
  unfold dropG at h
  split at h
  · cases h
  · rename_i o' e' e1
    cases h
    exact ⟨G, B, w, env, o', e', S, e1, fun v B' H' w' w1 S' T m => q _ _ _ _ S' m⟩
/-- pure values among those with changes -/
@[simp] def pureG (f : List OT → Option Dat) : List OT → Option (OT × List OT) := fun e => match f e with
  | none => none
  | some d => some (.sh d, e)
theorem g_of (h : PE X e (tD k fa)) : PE X e (tG k (pureG fa)) := pe_imp h fun σ H Q ⟨G, B, w, env, o, env', S, h, q⟩ => by
  unfold pureG at h
  split at h
  · cases h
  · rename_i d e1
    cases h
    exact ⟨G, B, w, _, d, S, e1, fun v B' H' S' m r => q v B' H' w (fun _ => none) S' (.shd r) m.1⟩
@[simp] def ownG (f : List OT → Option OT) : List OT → Option (OT × List OT) := fun e => match f e with
  | none => none
  | some d => some (d, e)
theorem g_own {f : List OT → Option OT} (h : PE X e (tF k f)) : PE X e (tG k (ownG f)) := pe_imp h fun σ H Q ⟨G, B, w, env, o, env', S, h, q⟩ => by
  unfold ownG at h
  split at h
  · cases h
  · rename_i d e1
    cases h
    exact ⟨G, B, w, env, _, S, e1, fun v B' H' w1 S' T m => q v B' H' w w1 S' T m.1⟩
/-- what is changed at a place: its object p becomes x, its tree t' -/
theorem Sta.putP {G : Gh} {B H : Hp} {w : WM} {σ : L2.St} {env e' : List OT} {l : List Stp} {o t t' : OT} {v : V} {p : Addr} {x : HO} (S : Sta k G B H w σ env) (hl : ps env = some l) (ho : env[s]? = some o) (hv : σ[s]? = some (some v)) (P : Pl k B H w [s] l o.core v t (.ref p))
    (h : putO s ps t' env = some e') (hw : ∀ π, ORep k B H w π t (.ref p) → w p = some π) (r : ∀ π, w p = some π → ORep k B H w π t (.ref p) → ORep k B (upd H p x) w π t' (.ref p)) : Sta k G B (upd H p x) w σ e' := by
  obtain ⟨o', h1, h2, rfl⟩ := putO_some hl ho h
  obtain ⟨ρ, r0, rb⟩ := P
  have hwp := hw _ r0
  have r1 := r _ hwp r0
  have r2 := rb B (upd H p x) w t' o' (.refl _) (fun q ρ' hq nq => ⟨hq, by
    have ne : q ≠ p := fun z => by
      subst z
      exact nq [] (by simpa using hwp)
    rw [upd_ne ne]⟩) r1 h1
  exact S.inner hv hwp (List.getElem?_eq_some_iff.mp ho).1 r2.re fun z => ⟨o, ho, OT.re_fixed h2 z⟩
theorem lst_put {B H : Hp} {w : WM} {xs xs' : List OT} {p : Addr} {vs' : List V} {π : List Nat} (hw : w p = some π) (r : OReps k B H w π 0 xs' vs') : ORep k B (upd H p (.lst vs')) w π (.lst xs') (.ref p) := by
  simp only [ORep]
  refine ⟨p, vs', rfl, upd_same, hw, r.frame2 (.refl _) fun m q ρ e => ⟨e, ?_⟩⟩
  have ne : q ≠ p := fun z => by
    subst z
    rw [hw] at e
    have := congrArg (Option.map List.length) e
    simp at this
    omega
  rw [upd_ne ne]
theorem lst_root {B H : Hp} {w : WM} {xs : List OT} {p : Addr} {π : List Nat} (r : ORep k B H w π (.lst xs) (.ref p)) : w p = some π ∧ ∃ vs, H p = some (.lst vs) ∧ OReps k B H w π 0 xs vs := by
  simp only [ORep] at r
  obtain ⟨p', vs, e, h1, h2, h3⟩ := r
  cases e
  exact ⟨h2, vs, h1, h3⟩
theorem lst_ref {B H : Hp} {w : WM} {xs : List OT} {u : V} {π : List Nat} (r : ORep k B H w π (.lst xs) u) : ∃ p, u = .ref p := by
  simp only [ORep] at r
  obtain ⟨p', vs, e, h1, h2, h3⟩ := r
  exact ⟨p', e⟩
/-- place.append(e) -/
@[simp] def appP (s : Nat) (ps : List OT → Option (List Stp)) (f : List OT → Option Dat) : List OT → Option Out := fun e => match plO s ps e with
  | some (.lst xs) => match f e with
    | none => none
    | some d => if xs.length < 16000000 then match putO s ps (.lst (xs ++ [.sh d])) e with
        | none => none
        | some e' => some (.nx e')
      else none
  | _ => none
theorem s_appP {o : Expr} {apos cpos : Pos} (hk : X.K = k.K) (ho : PE X o (tP k s ps)) (he : PE X e (tD k fa)) (hbase : attributeBase o "append" X.env (eval o X.env) = eval o X.env := by rfl)
    (hfew : ((backTo cpos (starEach [e] X.env)).all (fun x => !x.1) && (backToKw cpos (keywordEach [] X.env)).all (fun x => x.1.isSome)
      && decide (([e] : List Expr).length + ([] : List Keyword).length + (if ([] : List Keyword).isEmpty then 0 else 1) < 30)) = true := by rfl)
    (hline : (apos.endLine == cpos.line) = true := by rfl) (hs : starEach [e] X.env = (false, eval e X.env) :: starEach [] X.env := by rfl) (hplain : (backTo cpos (starEach [] X.env)).any (·.1) = false := by rfl) (hsw : swapsWith (.Call (.Attribute o "append" apos) [e] [] cpos) none pos.line X.env = pure false := by rfl) :
    PS X (.Expr (.Call (.Attribute o "append" apos) [e] [] cpos) pos) (tS k W (appP s ps fa)) :=
  ps_imp (ps_expr (pe_bm F.plainAttrs_list F.slot_list_append F.type_list_append mt_append ho (pa_cons he pa_nil hs) hbase hfew hline hs hplain) hsw) fun D σ H ⟨G, B, w, env, o, S, h, q⟩ => by
    unfold appP at h
    split at h
    · rename_i xs e1
      cases e2 : fa env with
      | none => simp [e2] at h
      | some d =>
        simp only [e2] at h
        split at h
        · rename_i hl
          split at h
          · cases h
          · rename_i e' e3
            cases h
            obtain ⟨l, o0, h1, h2, h3, h4⟩ := plO_some e1
            refine ⟨G, B, w, env, l, o0, _, S, h1, h2, h3, h4, fun v u B1 H1 S1 m1 hv P => ?_⟩
            obtain ⟨p, rfl⟩ : ∃ p, u = .ref p := let ⟨_, r, _⟩ := P; lst_ref r
            have hR : ∃ vs, H1 p = some (.lst vs) := let ⟨_, r, _⟩ := P; let ⟨_, vs, z, _⟩ := lst_root r; ⟨vs, z⟩
            obtain ⟨vs, hp⟩ := hR
            refine ⟨.inl ⟨rfl, vs, hk ▸ SqL.of hp⟩, G, B1, w, env, d, S1, e2, fun y B2 H2 S2 m2 r => ?_⟩
            have P2 := P.mv S1.wh m2
            have hR2 : ∃ vs, H2 p = some (.lst vs) ∧ xs.length = vs.length := let ⟨_, r, _⟩ := P2; let ⟨_, vs, z, rr⟩ := lst_root r; ⟨vs, z, rr.length⟩
            obtain ⟨vs2, hp2, hlen⟩ := hR2
            refine ⟨p, vs2, y, rfl, rfl, hp2, by rw [← hlen]; exact sl16' hl, ?_⟩
            refine q _ B2 _ w (S2.putP h1 h2 hv P2 e3 (fun π r => (lst_root r).1) fun π hw r0 => ?_) (m1.trans m2).1
            obtain ⟨_, vs3, hp3, rr⟩ := lst_root r0
            rw [hp2] at hp3
            cases hp3
            exact lst_put (xs := xs) hw (rr.snoc r)
        · cases h
    · cases h
/-- place[n] = e -/
@[simp] def stiP (s : Nat) (ps : List OT → Option (List Stp)) (fi fe : List OT → Option Dat) : List OT → Option Out := fun e => match fe e with
  | none => none
  | some d => match plO s ps e with
    | some (.lst xs) => match fi e with
      | some (.int n) => match ixN xs.length n with
        | some j => match putO s ps (.lst (xs.set j (.sh d))) e with
          | none => none
          | some e' => some (.nx e')
        | none => none
      | _ => none
    | _ => none
theorem s_stiP {o ix : Expr} {spos : Pos} (hk : X.K = k.K) (ho : PE X o (tP k s ps)) (he : PE X e (tD k fa)) (hix : PE X ix (tD k fb)) (hs : swapsWithSole [.Subscript o ix spos] e pos.line X.env = pure false := by rfl) (hw : swappedStores [.Subscript o ix spos] e X.env = pure none := by rfl)
    (h1 : (assignEach [.Subscript o ix spos] X.env).map (·.2) = [assign (.Subscript o ix spos) X.env] := by rfl)
    (ha : ∀ v, assign (.Subscript o ix spos) X.env v = (do
      let ov ← holding [v] (eval o X.env)
      let iv ← holding [v, ov] (eval ix X.env)
      standAt spos
      holding [v, ov, iv] (setItem ov iv v)
      release [v, ov, iv] []) := by intro _; rfl) : PS X (.Assign [.Subscript o ix spos] e pos) (tS k W (stiP s ps fb fa)) :=
  ps_imp (ps_asg he (pg_sub ho hix set_list ha) hs hw h1) fun D σ H ⟨G, B, w, env, o, S, h, q⟩ => by
    unfold stiP at h
    cases e0 : fa env with
    | none => simp [e0] at h
    | some d =>
      simp only [e0] at h
      split at h
      · rename_i xs e1
        split at h
        · rename_i n e2
          split at h
          · rename_i j e3
            split at h
            · cases h
            · rename_i e' e4
              cases h
              obtain ⟨l, o0, h1, h2, h3, h4⟩ := plO_some e1
              refine ⟨G, B, w, env, d, S, e0, fun y B1 H1 S1 m1 r1 => ⟨G, B1, w, env, l, o0, _, S1, h1, h2, h3, h4, fun v u B2 H2 S2 m2 hv P => ⟨G, B2, w, env, _, S2, e2, fun z B3 H3 S3 m3 r3 => ?_⟩⟩⟩
              simp only [Rep] at r3
              obtain ⟨p, rfl⟩ : ∃ p, u = .ref p := let ⟨_, r, _⟩ := P; lst_ref r
              have P2 := P.mv S2.wh m3
              have hR2 : ∃ vs, H3 p = some (.lst vs) ∧ xs.length = vs.length := let ⟨_, r, _⟩ := P2; let ⟨_, vs, z, rr⟩ := lst_root r; ⟨vs, z, rr.length⟩
              obtain ⟨vs2, hp2, hlen⟩ := hR2
              refine ⟨p, vs2, n, j, rfl, r3, hp2, by rw [← hlen]; exact e3, ?_⟩
              refine q _ B3 _ w (S3.putP h1 h2 hv P2 e4 (fun π r => (lst_root r).1) fun π hw r0 => ?_) (m1.trans (m2.trans m3)).1
              obtain ⟨_, vs3, hp3, rr⟩ := lst_root r0
              rw [hp2] at hp3
              cases hp3
              exact lst_put (xs := xs) hw (rr.set (r1.mono (m2.trans m3).1) j)
          · cases h
        · cases h
      · cases h
end
end DL
/-! Stores to fields, insert, pop, copies of a place's list. -/
namespace DL
open PySem L2
/-- a field of an object is set -/
def objSet (c : String) (ns : List Str) (xs : List OT) (n : Str) (o : OT) : OT := match fldIx ns n with
  | some j => .obj c ns (xs.set j o)
  | none => .obj c (ns ++ [n]) (xs ++ [o])
def fldAt (ns : List Str) (n : Str) : Nat := match fldIx ns n with
  | some j => j
  | none => ns.length
theorem putF_old {n : Str} {y : V} : ∀ {ns : List Str} {vs : List V} {j : Nat}, fldIx ns n = some j → ns.length = vs.length → putF n y (ns.zip vs) = ns.zip (vs.set j y)
  | [], vs, j, h, hl => by simp [fldIx] at h
  | m :: ms, [], j, h, hl => by simp at hl
  | m :: ms, v :: vs, j, h, hl => by
    simp only [fldIx] at h
    split at h
    · rename_i e
      subst e
      cases h
      simp [putF]
    · rename_i e
      split at h
      · cases h
      · rename_i j' e1
        cases h
        simp only [List.zip_cons_cons, putF, if_neg e, List.set_cons_succ]
        rw [putF_old e1 (by simpa using hl)]
theorem putF_new {n : Str} {y : V} : ∀ {ns : List Str} {vs : List V}, fldIx ns n = none → ns.length = vs.length → putF n y (ns.zip vs) = (ns ++ [n]).zip (vs ++ [y])
  | [], [], h, hl => rfl
  | [], v :: vs, h, hl => by simp at hl
  | m :: ms, [], h, hl => by simp at hl
  | m :: ms, v :: vs, h, hl => by
    simp only [fldIx] at h
    split at h
    · cases h
    · rename_i e
      split at h
      · rename_i e1
        simp only [List.zip_cons_cons, List.cons_append, putF, if_neg e]
        rw [putF_new e1 (by simpa using hl)]
      · cases h
theorem fldIx_lt {n : Str} : ∀ {ns : List Str} {j : Nat}, fldIx ns n = some j → j < ns.length
  | [], j, h => by simp [fldIx] at h
  | m :: ms, j, h => by
    simp only [fldIx] at h
    split at h
    · cases h
      simp
    · split at h
      · cases h
      · rename_i j' e1
        cases h
        have := fldIx_lt e1
        simp
        omega
section
variable {k : KC} {B H : Hp} {w : WM}
theorem OReps.snoc2 {B2 H2 : Hp} {w2 : WM} {π : List Nat} {o : OT} {y : V} : ∀ {n : Nat} {os : List OT} {vs : List V}, OReps k B H w π n os vs → ORep k B2 H2 w2 ((n + os.length) :: π) o y →
    (∀ m o' v', m < n + os.length → ORep k B H w (m :: π) o' v' → ORep k B2 H2 w2 (m :: π) o' v') → OReps k B2 H2 w2 π n (os ++ [o]) (vs ++ [y])
  | n, [], vs, h, r, kp => by
    simp only [OReps] at h
    subst h
    simp only [List.nil_append, OReps]
    exact ⟨y, [], rfl, by simpa using r, rfl⟩
  | n, o0 :: os, vs, h, r, kp => by
    simp only [OReps] at h
    obtain ⟨u, r0, rfl, h1, h2⟩ := h
    simp only [List.cons_append, OReps]
    refine ⟨u, r0 ++ [y], rfl, kp n o0 u (by simp) h1, OReps.snoc2 h2 ?_ fun m o' v' hm hr => kp m o' v' (by simp at hm ⊢; omega) hr⟩
    have : n + 1 + os.length = n + (o0 :: os).length := by simp; omega
    rw [this]
    exact r
theorem obj_root {c : String} {ns : List Str} {xs : List OT} {p : Addr} {π : List Nat} (r : ORep k B H w π (.obj c ns xs) (.ref p)) : w p = some π ∧ ∃ dx vs, H p = some (.ins (k.cl c) dx (ns.zip vs)) ∧ ns.length = vs.length ∧ OReps k B H w π 0 xs vs := by
  simp only [ORep] at r
  obtain ⟨p', dx, vs, e, h1, h2, h3, h4⟩ := r
  cases e
  exact ⟨h3, dx, vs, h1, h2, h4⟩
theorem obj_ref {c : String} {ns : List Str} {xs : List OT} {u : V} {π : List Nat} (r : ORep k B H w π (.obj c ns xs) u) : ∃ p, u = .ref p := by
  simp only [ORep] at r
  obtain ⟨p', dx, vs, e, _⟩ := r
  exact ⟨p', e⟩
/-- a field's store: the child o comes to stand at y, in a heap in which all else of the tree stands -/
theorem obj_put {c : String} {ns : List Str} {xs : List OT} {p dx : Addr} {vs : List V} {π : List Nat} {n : Str} {o : OT} {y : V} {w2 : WM} (hl : ns.length = vs.length) (hw : w p = some π) (hw2 : w2 p = some π) (hr : OReps k B H w π 0 xs vs)
    (hk : ∀ q ρ, w q = some ρ → w2 q = some ρ)
    (hy : ORep k B (upd H p (.ins (k.cl c) dx (putF n y (ns.zip vs)))) w2 (fldAt ns n :: π) o y) : ORep k B (upd H p (.ins (k.cl c) dx (putF n y (ns.zip vs)))) w2 π (objSet c ns xs n o) (.ref p) := by
  have kp : ∀ (m : Nat) (o' : OT) (v' : V), ORep k B H w (m :: π) o' v' → ORep k B (upd H p (.ins (k.cl c) dx (putF n y (ns.zip vs)))) w2 (m :: π) o' v' := fun m o' v' r => r.frame (.refl _) fun q ρ e => ⟨hk _ _ e, by
    have ne : q ≠ p := fun z => by
      subst z
      rw [hw] at e
      have := congrArg (Option.map List.length) e
      simp at this
      omega
    rw [upd_ne ne]⟩
  have hxl := hr.length
  unfold objSet
  cases e : fldIx ns n with
  | some j =>
    have ej : fldAt ns n = j := by unfold fldAt; rw [e]
    rw [ej] at hy
    have hj := fldIx_lt e
    have e2 := putF_old (y := y) e hl
    simp only
    simp only [ORep]
    refine ⟨p, dx, vs.set j y, rfl, by rw [upd_same, e2], by simpa using hl, hw2, ?_⟩
    have gen : ∀ (i : Nat) (os : List OT) (us : List V) (j : Nat), j < us.length → ORep k B (upd H p (.ins (k.cl c) dx (putF n y (ns.zip vs)))) w2 ((i + j) :: π) o y → OReps k B H w π i os us → OReps k B (upd H p (.ins (k.cl c) dx (putF n y (ns.zip vs)))) w2 π i (os.set j o) (us.set j y) := by
      intro i os
      induction os generalizing i with
      | nil =>
        intro us j hj _ h
        simp only [OReps] at h
        subst h
        simp at hj
      | cons o0 os ih =>
        intro us j hj hy h
        simp only [OReps] at h
        obtain ⟨u, r0, rfl, h1, h2⟩ := h
        cases j with
        | zero =>
          simp only [List.set_cons_zero, OReps]
          refine ⟨y, r0, rfl, by simpa using hy, ?_⟩
          have all : ∀ (m : Nat) (os : List OT) (us : List V), OReps k B H w π m os us → OReps k B (upd H p (.ins (k.cl c) dx (putF n y (ns.zip vs)))) w2 π m os us := by
            intro m os
            induction os generalizing m with
            | nil => intro us h; simpa only [OReps] using h
            | cons o1 os ih2 =>
              intro us h
              simp only [OReps] at h ⊢
              obtain ⟨u1, r1, rfl, h3, h4⟩ := h
              exact ⟨u1, r1, rfl, kp m o1 u1 h3, ih2 (m + 1) r1 h4⟩
          exact all (i + 1) os r0 h2
        | succ j =>
          simp only [List.set_cons_succ, OReps]
          exact ⟨u, r0.set j y, rfl, kp i o0 u h1, ih (i + 1) r0 j (by simpa using hj) (by rw [show i + 1 + j = i + (j + 1) by omega]; exact hy) h2⟩
    exact gen 0 xs vs j (by omega) (by rw [Nat.zero_add]; exact hy) hr
  | none =>
    have e2 := putF_new (y := y) e hl
    simp only
    simp only [ORep]
    refine ⟨p, dx, vs ++ [y], rfl, by rw [upd_same, e2], by simp [hl], hw2, ?_⟩
    exact hr.snoc2 (by rw [Nat.zero_add, hxl, ← hl, ← (show fldAt ns n = ns.length by unfold fldAt; rw [e])]; exact hy) fun m o' v' _ r => kp m o' v' r
end
section
variable {k : KC} {W : WX} {X : Cx} {pos p0 : Pos} {a b c e : Expr} {s : Nat} {ps : List OT → Option (List Stp)} {fa fb fc : List OT → Option Dat} {es : List Expr} {fs : List OT → Option (List Dat)}
/-- place.n = e -/
@[simp] def fstS (s : Nat) (ps : List OT → Option (List Stp)) (n : Str) (tab : String → Bool) (f : List OT → Option Dat) : List OT → Option Out := fun e => match f e with
  | none => none
  | some d => match plO s ps e with
    | some (.obj c ns xs) => if tab c = true ∧ ns.length < 500 then match putO s ps (objSet c ns xs n (.sh d)) e with
        | none => none
        | some e' => some (.nx e')
      else none
    | _ => none
theorem s_fstS {o : Expr} {n : Str} {tab : String → Bool} {pos' : Pos} (hk : X.K = k.K) (F : AF k n tab) (ho : PE X o (tP k s ps)) (he : PE X e (tD k fa)) (hs : swapsWith e (some (.Attribute o n pos')) pos.line X.env = pure false := by rfl) :
    PS X (.Assign [.Attribute o n pos'] e pos) (tS k W (fstS s ps n tab fa)) :=
  ps_imp (ps_fld ho he hs) fun D σ H ⟨G, B, w, env, o, S, h, q⟩ => by
    unfold fstS at h
    cases e0 : fa env with
    | none => simp [e0] at h
    | some d =>
      simp only [e0] at h
      split at h
      · rename_i c ns xs e1
        split at h
        · rename_i hc
          split at h
          · cases h
          · rename_i e' e4
            cases h
            obtain ⟨l, o0, h1, h2, h3, h4⟩ := plO_some e1
            refine ⟨G, B, w, env, d, S, e0, fun y B1 H1 S1 m1 r1 => ⟨G, B1, w, env, l, o0, _, S1, h1, h2, h3, h4, fun v u B2 H2 S2 m2 hv P => ?_⟩⟩
            obtain ⟨p, rfl⟩ : ∃ p, u = .ref p := let ⟨_, r, _⟩ := P; obj_ref r
            have hR : ∃ dx vs, H2 p = some (.ins (k.cl c) dx (ns.zip vs)) ∧ ns.length = vs.length := let ⟨_, r, _⟩ := P; let ⟨_, dx, vs, z, zl, _⟩ := obj_root r; ⟨dx, vs, z, zl⟩
            obtain ⟨dx, vs, hp, hl⟩ := hR
            obtain ⟨c1, c2⟩ := F c hc.1
            refine ⟨p, _, dx, _, rfl, hp, hk ▸ c1, hk ▸ c2, by rw [List.length_zip]; omega, ?_⟩
            refine q _ B2 _ w (S2.putP h1 h2 hv P e4 (fun π r => (obj_root r).1) fun π hw r0 => ?_) (m1.trans m2).1
            obtain ⟨_, dx', vs', hp', hl', rr⟩ := obj_root r0
            rw [hp] at hp'
            have e9 := Option.some.inj hp'
            injection e9 with e91 e92 e93
            subst e92
            rw [e93]
            exact obj_put (xs := xs) hl' hw hw rr (fun _ _ z => z) (by simp only [ORep]; exact r1.mono m2.1)
        · cases h
      · cases h
/-- the value of a place's expression of names and fields -/
def tP0 (k : KC) (s : Nat) (ps : List OT → Option (List Stp)) : TE := fun σ H Q => ∃ G B w env l o t, Sta k G B H w σ env ∧ ps env = some l ∧ env[s]? = some o ∧ o ≠ .un ∧ o.core.sub l = some t ∧
  ∀ v u, σ[s]? = some (some v) → Pl k B H w [s] l o.core v t u → Q u H
theorem p0_nm (s : Nat) {x : Str} (hN : X.N[s]? = some x := by rfl) (hv : Vis X.env.scope x := by first | exact Or.inl rfl | exact Or.inr (Or.inl rfl) | exact Or.inr (Or.inr rfl)) (hd : (x == ("__debug__" : Str)) = false := by decide)
    (hcd : (x == ("__classdict__" : Str)) = false := by decide) : PE X (.Name x pos) (tP0 k s nmP) := pe_imp (pe_var hN hv hd hcd) fun σ H Q ⟨G, B, w, env, l, o, t, S, h, ho, hu, ht, q⟩ => by
  cases h
  rcases S.sl s o ho with e2 | ⟨v, hv, r⟩
  · exact absurd e2 hu
  · simp only [OT.sub, Option.some.injEq] at ht
    subst ht
    exact ⟨v, hv, q v v hv (.nil r.core)⟩
theorem p0_fld {n : Str} {tab : String → Bool} (hk : X.K = k.K) (F : AF k n tab) (he : PE X e (tP0 k s ps)) (hb : attributeBase e n X.env (eval e X.env) = eval e X.env := by rfl) : PE X (.Attribute e n pos) (tP0 k s (fldP n tab ps)) :=
  pe_imp (pe_fld he hb) fun σ H Q ⟨G, B, w, env, l, o, t, S, h, ho, hu, ht, q⟩ => by
    unfold fldP at h
    split at h
    · cases h
    · rename_i l0 e0
      cases h
      obtain ⟨t0, h0, h1⟩ := sub_pre ht
      refine ⟨G, B, w, env, l0, o, t0, S, e0, ho, hu, h0, fun v u hv P => ?_⟩
      obtain ⟨c, p, dx, fs, x, hc, rfl, hp, hx, P2⟩ := P.fld S.bh h0 h1
      obtain ⟨c1, c2⟩ := F c hc
      exact ⟨p, _, dx, fs, x, rfl, hp, hk ▸ c1, hk ▸ c2, hx, q v x hv P2⟩
theorem p_of0 (h : PE X e (tP0 k s ps)) : PE X e (tP k s ps) := pe_imp h fun σ H Q ⟨G, B, w, env, l, o, t, S, h, ho, hu, ht, q⟩ => ⟨G, B, w, env, l, o, t, S, h, ho, hu, ht, fun v u hv P => q v u B H S .refl hv P⟩
/-- place.n = e, e a tree of one's own -/
@[simp] def fstO (s : Nat) (ps : List OT → Option (List Stp)) (n : Str) (tab : String → Bool) (f : List OT → Option OT) : List OT → Option Out := fun e => match f e with
  | none => none
  | some d => match plO s ps e with
    | some (.obj c ns xs) => if tab c = true ∧ ns.length < 500 then match putO s ps (objSet c ns xs n d) e with
        | none => none
        | some e' => some (.nx e')
      else none
    | _ => none
theorem s_fstO {o : Expr} {n : Str} {tab : String → Bool} {f : List OT → Option OT} {pos' : Pos} (hk : X.K = k.K) (F : AF k n tab) (ho : PE X o (tP0 k s ps)) (he : PE X e (tF k f)) (hs : swapsWith e (some (.Attribute o n pos')) pos.line X.env = pure false := by rfl) :
    PS X (.Assign [.Attribute o n pos'] e pos) (tS k W (fstO s ps n tab f)) :=
  ps_imp (ps_fld ho he hs) fun D σ H ⟨G, B, w, env, o, S, h, q⟩ => by
    unfold fstO at h
    cases e0 : f env with
    | none => simp [e0] at h
    | some d =>
      simp only [e0] at h
      split at h
      · rename_i c ns xs e1
        split at h
        · rename_i hc
          split at h
          · cases h
          · rename_i e' e4
            cases h
            obtain ⟨l, o0, h1, h2, h3, h4⟩ := plO_some e1
            refine ⟨G, B, w, env, d, S, e0, fun y B1 H1 w1 S1 T m1 => ⟨G, B1, w, env, l, o0, _, S1, h1, h2, h3, h4, fun v u hv P => ?_⟩⟩
            obtain ⟨p, rfl⟩ : ∃ p, u = .ref p := let ⟨_, r, _⟩ := P; obj_ref r
            obtain ⟨o', g1, g2, rfl⟩ := putO_some h1 h2 e4
            obtain ⟨ρ, r0, rb⟩ := P
            obtain ⟨hw, dx, vs, hp, hl, hr⟩ := obj_root r0
            obtain ⟨c1, c2⟩ := F c hc.1
            refine ⟨p, _, dx, _, rfl, hp, hk ▸ c1, hk ▸ c2, by rw [List.length_zip]; omega, ?_⟩
            have n1 : ∀ q π, w q = some π → w1 q = none := fun q π e => by
              cases z : w1 q with
              | none => rfl
              | some _ =>
                have := (T.dis q (by rw [z]; exact fun z => nomatch z)).1
                rw [e] at this
                cases this
            have kw : ∀ q π, w q = some π → wJoin w w1 (fldAt ns n :: (ρ ++ [s])) q = some π := fun q π e => by
              unfold wJoin
              rw [n1 q π e]
              exact e
            have np : w1 p = none := n1 p _ hw
            have hy : ORep k B1 (upd H1 p (.ins (k.cl c) dx (putF n y (ns.zip vs)))) (wJoin w w1 (fldAt ns n :: (ρ ++ [s]))) (fldAt ns n :: (ρ ++ [s])) d y := T.rep.move (.refl _) fun q ρ' e => by
              have e' : w1 q = some ρ' := by simpa using e
              refine ⟨by unfold wJoin; rw [e'], ?_⟩
              have ne : q ≠ p := fun z => by
                subst z
                rw [np] at e'
                cases e'
              rw [upd_ne ne]
            have r2 := obj_put (n := n) (o := d) (w2 := wJoin w w1 (fldAt ns n :: (ρ ++ [s]))) hl hw (kw _ _ hw) hr kw hy
            have r3 := rb B1 _ _ _ o' (.refl _) (fun q ρ' hq nq => ⟨kw _ _ hq, by
              have ne : q ≠ p := fun z => by
                subst z
                exact nq [] (by simpa using hw)
              rw [upd_ne ne]⟩) r2 g1
            exact q _ _ _ _ (S1.joined T hv hw (List.getElem?_eq_some_iff.mp h2).1 ⟨fldAt ns n :: ρ, rfl⟩ r3.re fun z => ⟨o0, h2, OT.re_fixed g2 z⟩) m1.1
        · cases h
      · cases h
end
end DL
/-! Arguments that are lent: defs and methods that may change what they are handed. -/
namespace DL
open PySem L2 PySem.Spec PyProof.Rows
inductive ResL where
  | ok (o : OT) (os : List OT)
  | ex (c : String) (ns : List Str) (xs : List Dat) (os : List OT)
def OT.mark : OT → OT
  | .sh d => .sh d
  | o => .lent o
/-- what is so behind a call: B, H, w as they were, B', H', w' as they are -/
structure Post (k : KC) (B H : Hp) (w : WM) (B' H' : Hp) (w' : WM) (os : List OT) (vs : List V) : Prop where
  b : Same B B'
  h : Same B' H'
  fr : ∀ a, B a = none → H a ≠ none → w a = none → B' a = none ∧ H' a = H a ∧ w' a = none
  w : ∀ a, w' a ≠ none → B' a = none ∧ H' a ≠ none
  r : OReps k B' H' w' [] 0 os vs
def spL (k : KC) (n : Nat) (f : List OT → Option ResL) : Sp := fun vs H Q E => ∃ B w os r, Same B H ∧ (∀ a, w a ≠ none → B a = none ∧ H a ≠ none) ∧ OReps k B H w [] 0 os vs ∧ os.length = n ∧ f os = some r ∧
  match r with
  | .ok o os' => ∀ v B' H' w' w1, Post k B H w B' H' w' os' vs → (∀ a, w1 a ≠ none → w' a = none ∧ B' a = none ∧ H' a ≠ none ∧ (B a = none → H a ≠ none → w a ≠ none)) → ORep k B' H' w1 [] o v → o.fixed = false → Q v H'
  | .ex c ns xs os' => ∀ cls d B' H' w', Post k B H w B' H' w' os' vs → XRep k B' c ns xs cls d → E cls d H'
/-- the arguments behind a call, by its slots at the end -/
def back (e : List OT) : Nat → List OT → Option (List OT)
  | _, [] => some []
  | n, .sh d :: os => match back e (n + 1) os with
    | none => none
    | some r => some (.sh d :: r)
  | n, _ :: os => match e[n]? with
    | some (.lent t) => match back e (n + 1) os with
      | none => none
      | some r => some (t :: r)
    | _ => none
def fnL (n N : Nat) (g : List OT → Option Out) : List OT → Option ResL := fun os => if os.length = n then
    match g (os.map OT.mark ++ List.replicate (N - n) .un) with
    | some (.rt o e) => match back e 0 os with
      | none => none
      | some os' => some (.ok o os')
    | some (.nx e) => match back e 0 os with
      | none => none
      | some os' => some (.ok (.sh .non) os')
    | some (.ex c ns xs e) => match back e 0 os with
      | none => none
      | some os' => some (.ex c ns xs os')
    | _ => none
  else none
section
variable {k : KC}
theorem mark_rep {B H : Hp} {w : WM} {π : List Nat} {o : OT} {v : V} (r : ORep k B H w π o v) : ORep k B H w π o.mark v := by
  cases o with
  | sh d => exact r
  | _ => simpa only [OT.mark, ORep] using r
theorem start_staL {B H : Hp} {w : WM} {N : List Str} {os : List OT} {vs : List V} (hs : Same B H) (hw : ∀ a, w a ≠ none → B a = none ∧ H a ≠ none) (r : OReps k B H w [] 0 os vs) (hl : os.length ≤ N.length) :
    Sta k ⟨H, B, fun a => w a ≠ none, fun i => (L2.start N vs)[i]?⟩ B H w (L2.start N vs) (os.map OT.mark ++ List.replicate (N.length - os.length) .un) where
  bh := hs
  b0 := .refl _
  fr := fun a h1 h2 h3 => ⟨h1, rfl, Classical.byContradiction h3⟩
  wb := fun a h => (hw a h).1
  wh := fun a h => (hw a h).2
  len := by
    unfold L2.start
    rw [List.length_append, List.length_append, List.length_map, List.length_map, List.length_replicate, List.length_replicate, r.length]
  sl := fun i o h => by
    unfold L2.start
    by_cases hi : i < os.length
    · rw [List.getElem?_append_left (by simpa using hi), List.getElem?_map] at h
      cases e : os[i]? with
      | none => simp [e] at h
      | some d =>
        simp [e] at h
        subst h
        obtain ⟨v, hv, q⟩ := r.get e
        refine .inr ⟨v, ?_, mark_rep (by simpa using q)⟩
        rw [List.getElem?_append_left (by rw [List.length_map, ← r.length]; exact hi), List.getElem?_map, hv]
        rfl
    · rw [List.getElem?_append_right (by simpa using hi), List.getElem?_replicate] at h
      split at h
      · cases h
        exact .inl rfl
      · cases h
  fx := fun i o h z => rfl
theorem start_get {N : List Str} {vs : List V} {i : Nat} {v : V} (h : vs[i]? = some v) : (L2.start N vs)[i]? = some (some v) := by
  unfold L2.start
  have hl := (List.getElem?_eq_some_iff.mp h).1
  rw [List.getElem?_append_left (by simpa using hl), List.getElem?_map, h]
  rfl
theorem back_rep {G : Gh} {B0 H0 : Hp} {w0 : WM} {B H : Hp} {w : WM} {σ : L2.St} {e : List OT} {N : List Str} {all : List V} (S : Sta k G B H w σ e) (hs0 : G.s0 = fun i => (L2.start N all)[i]?) (hB : Same B0 B) : ∀ {n : Nat} {os os' : List OT} {vs : List V}, OReps k B0 H0 w0 [] n os vs → back e n os = some os' → (∀ (i : Nat) v, vs[i]? = some v → all[n + i]? = some v) → OReps k B H w [] n os' vs
  | n, [], os', vs, r, h, hv => by
    simp only [back, Option.some.injEq] at h
    subst h
    simpa only [OReps] using r
  | n, o :: os, os', vs, r, h, hv => by
    simp only [OReps] at r
    obtain ⟨v, us, rfl, r1, r2⟩ := r
    have hn : all[n]? = some v := by simpa using hv 0 v (by simp)
    have hr : ∀ (i : Nat) u, us[i]? = some u → all[n + 1 + i]? = some u := fun i u hu => by
      have := hv (i + 1) u (by simpa using hu)
      rw [show n + 1 + i = n + (i + 1) by omega]
      exact this
    have own : ∀ (o : OT), (match e[n]? with
        | some (.lent t) => match back e (n + 1) os with
          | none => none
          | some r => some (t :: r)
        | _ => none) = some os' → OReps k B H w [] n os' (v :: us) := fun o h => by
      split at h
      · rename_i t e1
        split at h
        · cases h
        · rename_i r' e2
          cases h
          simp only [OReps]
          refine ⟨v, us, rfl, ?_, back_rep S hs0 hB r2 e2 hr⟩
          have f := S.fx n _ e1 rfl
          rw [hs0] at f
          simp only [start_get hn] at f
          rcases S.sl n _ e1 with z | ⟨v', hv', q⟩
          · cases z
          · rw [f] at hv'
            cases hv'
            simpa only [ORep] using q
      · cases h
    cases o with
    | sh d =>
      simp only [back] at h
      split at h
      · cases h
      · rename_i r' e2
        cases h
        simp only [OReps]
        refine ⟨v, us, rfl, ?_, back_rep S hs0 hB r2 e2 hr⟩
        simp only [ORep] at r1 ⊢
        exact r1.mono hB
    | un => exact own .un h
    | tup xs => exact own .un h
    | lst xs => exact own .un h
    | obj c ns xs => exact own .un h
    | dct ks xs => exact own .un h
    | lent o => exact own .un h
    | pin => exact own .un h
theorem post_of {B H : Hp} {w : WM} {N : List Str} {os os' : List OT} {vs : List V} {B' H' : Hp} {w' : WM} {σ' : L2.St} {e' : List OT} (r : OReps k B H w [] 0 os vs)
    (S : Sta k ⟨H, B, fun a => w a ≠ none, fun i => (L2.start N vs)[i]?⟩ B' H' w' σ' e') (m : Same B B') (h : back e' 0 os = some os') : Post k B H w B' H' w' os' vs where
  b := m
  h := S.bh
  fr := fun a h1 h2 h3 => S.fr a h1 h2 (fun z => z h3)
  w := fun a h => ⟨S.wb a h, S.wh a h⟩
  r := back_rep S rfl m r h fun i v hv => by simpa using hv
/-- the end of a body -/
theorem bodyL_end {N : List Str} {n : Nat} {g : List OT → Option Out} {H : Hp} {vs : List V} {Q : VK} {E : XK} (hn : n ≤ N.length) (h : spL k n (fnL n N.length g) vs H Q E) :
    tS k (fun cls d _ H' => E cls d H') g { nx := fun _ H' => Q .non H', rt := Q } (L2.start N vs) H := by
  obtain ⟨B, w, os, r, hs, hw, rr, hl, hf, q⟩ := h
  unfold fnL at hf
  rw [if_pos hl] at hf
  have S0 := start_staL (N := N) hs hw rr (by omega)
  rw [hl] at S0
  split at hf
  · rename_i o' e' hg
    split at hf
    · cases hf
    · rename_i os' hb
      cases hf
      refine ⟨_, B, _, _, _, S0, hg, fun v σ' B' H' w' w1 S1 T m => ?_⟩
      exact q v B' H' w' w1 (post_of rr S1 m hb) (fun a ha => T.dis a ha) T.rep T.nl
  · rename_i e' hg
    split at hf
    · cases hf
    · rename_i os' hb
      cases hf
      exact ⟨_, B, _, _, _, S0, hg, fun σ' B' H' w' S1 m => q .non B' H' w' (fun _ => none) (post_of rr S1 m hb) (fun a ha => absurd rfl ha) (by simp only [ORep, Rep]) rfl⟩
  · rename_i c ns xs e' hg
    split at hf
    · cases hf
    · rename_i os' hb
      cases hf
      exact ⟨_, B, _, _, _, S0, hg, fun cls d σ' B' H' w' S1 m x => q cls d B' H' w' (post_of rr S1 m hb) x⟩
  · cases hf
end
section
variable {P : Program} {w : World} {K : PySem.W.Frag} {mg : Str → Option Value} {base : Heap} {k : KC}
theorem okL {x qual : Str} {st : Stmt} {f : Addr} {fd : FuncData} {N ps : List Str} {j n m : Nat} {g : List OT → Option Out} (F : Fun K x qual st f fd) (S : FnScope N ps (defScope st)) (h1 : ps.length = n) (h2 : N.length = m) (hn : n ≤ m)
    (hb : BodyX P w K mg base k N qual (defScope st) (defBody st) f j g) : FnOk P w K mg base (L2.CX P w) (j + 1) f fd ps (spL k n (fnL n m g)) := by
  subst h1 h2
  refine F.okX S (fun vs H Q E h => ?_) (fun cdv A outer s H vs Q E hr h => ?_)
  · obtain ⟨B, w, os, r, _, _, rr, hl, _⟩ := h
    rw [← rr.length, hl]
  · exact ⟨_, hb cdv A outer s H E _ hr (takes_of rfl rfl rfl rfl) (passes_of rfl), bodyL_end hn h⟩
theorem okLD {x qual : Str} {st : Stmt} {dvs : List V} {f : Addr} {fd : FuncData} {N ps : List Str} {j n m : Nat} {g : List OT → Option Out} (F : FunD K x qual (defArgs st) (defBody st) (defScope st) dvs [] f fd) (S : FnScope N ps (defScope st)) (h1 : ps.length = n) (h2 : N.length = m) (hn : n ≤ m)
    (hb : BodyX P w K mg base k N qual (defScope st) (defBody st) f j g) : FnOk P w K mg base (L2.CX P w) (j + 1) f fd ps (spL k n (fnL n m g)) := by
  subst h1 h2
  refine F.ok S (fun vs H Q E h => ?_) (fun cdv A outer s H vs Q E hr h => ?_)
  · obtain ⟨B, w, os, r, _, _, rr, hl, _⟩ := h
    rw [← rr.length, hl]
  · exact ⟨_, hb cdv A outer s H E _ hr (takes_of rfl rfl rfl rfl) (passes_of rfl), bodyL_end hn h⟩
end
/-! ### what is handed in -/
/-- a slot, lent, or a shared value -/
abbrev ArgG := Nat ⊕ (List OT → Option Dat)
def argsO : List ArgG → List OT → Option (List OT)
  | [], _ => some []
  | .inl s :: r, e => match e[s]? with
    | none => none
    | some .un => none
    | some o => match argsO r e with
      | none => none
      | some os => some (o.core :: os)
  | .inr g :: r, e => match g e with
    | none => none
    | some d => match argsO r e with
      | none => none
      | some os => some (.sh d :: os)
def putA : List ArgG → List OT → List OT → Option (List OT)
  | [], [], e => some e
  | .inl s :: r, o :: os, e => match e[s]? with
    | none => none
    | some o0 => if o.free then putA r os (e.set s (o0.re o)) else none
  | .inr _ :: r, _ :: os, e => putA r os e
  | _, _, _ => none
def posOf : List ArgG → Nat → Nat → Option Nat
  | [], _, _ => none
  | .inl s' :: r, n, s => if s' = s then some n else posOf r (n + 1) s
  | .inr _ :: r, n, s => posOf r (n + 1) s
def slotAt : List ArgG → Nat → Option Nat
  | [], _ => none
  | .inl s :: _, 0 => some s
  | .inr _ :: _, 0 => none
  | _ :: r, n + 1 => slotAt r n
def distA : List ArgG → Bool
  | [] => true
  | .inl s :: r => (posOf r 0 s).isNone && distA r
  | .inr _ :: r => distA r
def AG (k : KC) (B : Hp) (σ : L2.St) : List ArgG → List OT → List V → Prop
  | [], os, vs => os = [] ∧ vs = []
  | .inl s :: r, os, vs => ∃ o os' v vs', os = o :: os' ∧ vs = v :: vs' ∧ σ[s]? = some (some v) ∧ AG k B σ r os' vs'
  | .inr _ :: r, os, vs => ∃ d os' v vs', os = .sh d :: os' ∧ vs = v :: vs' ∧ Rep k B d v ∧ AG k B σ r os' vs'
/-- the trees handed in, by the slots -/
def AE : List ArgG → List OT → List OT → Prop
  | [], _, os => os = []
  | .inl s :: r, e, os => ∃ o os', os = o.core :: os' ∧ e[s]? = some o ∧ o ≠ .un ∧ AE r e os'
  | .inr _ :: r, e, os => ∃ d os', os = .sh d :: os' ∧ AE r e os'
theorem AE.of {as : List ArgG} : ∀ {os e : List OT}, argsO as e = some os → AE as e os := by
  induction as with
  | nil => intro os e h; simp only [argsO, Option.some.injEq] at h; exact h.symm
  | cons a r ih =>
    intro os e h
    cases a with
    | inl s =>
      simp only [argsO] at h
      split at h
      · cases h
      · cases h
      · rename_i o hn e1
        split at h
        · cases h
        · rename_i os2 e2
          cases h
          exact ⟨o, os2, rfl, e1, hn, ih e2⟩
    | inr g =>
      simp only [argsO] at h
      split at h
      · cases h
      · rename_i d e1
        split at h
        · cases h
        · rename_i os2 e2
          cases h
          exact ⟨d, os2, rfl, ih e2⟩
theorem AG.mono {k : KC} {B B' : Hp} {σ : L2.St} (m : Same B B') : ∀ {as : List ArgG} {os : List OT} {vs : List V}, AG k B σ as os vs → AG k B' σ as os vs
  | [], _, _, h => h
  | .inl s :: r, os, vs, h => by
    obtain ⟨o, os', v, vs', h1, h2, h3, h4⟩ := h
    exact ⟨o, os', v, vs', h1, h2, h3, AG.mono m h4⟩
  | .inr _ :: r, os, vs, h => by
    obtain ⟨o, os', v, vs', h1, h2, h3, h4⟩ := h
    exact ⟨o, os', v, vs', h1, h2, h3.mono m, AG.mono m h4⟩
theorem posOf_shift {s : Nat} : ∀ {as : List ArgG} {n m : Nat}, posOf as n s = none → posOf as m s = none
  | [], _, _, _ => rfl
  | .inl s' :: r, n, m, h => by
    simp only [posOf] at h ⊢
    split at h
    · cases h
    · rename_i e
      rw [if_neg e]
      exact posOf_shift h
  | .inr _ :: r, n, m, h => by
    simp only [posOf] at h ⊢
    exact posOf_shift h
theorem posOf_ge {s : Nat} : ∀ {as : List ArgG} {n i : Nat}, posOf as n s = some i → n ≤ i ∧ slotAt as (i - n) = some s
  | [], _, _, h => by simp [posOf] at h
  | .inl s' :: r, n, i, h => by
    simp only [posOf] at h
    split at h
    · rename_i e
      cases h
      subst e
      simp [slotAt]
    · obtain ⟨h1, h2⟩ := posOf_ge h
      refine ⟨by omega, ?_⟩
      rw [show i - n = (i - (n + 1)) + 1 by omega]
      exact h2
  | .inr _ :: r, n, i, h => by
    simp only [posOf] at h
    obtain ⟨h1, h2⟩ := posOf_ge h
    refine ⟨by omega, ?_⟩
    rw [show i - n = (i - (n + 1)) + 1 by omega]
    exact h2
theorem slot_pos {s : Nat} : ∀ {as : List ArgG} {n i : Nat}, distA as = true → slotAt as i = some s → posOf as n s = some (n + i)
  | [], _, _, _, h => by simp [slotAt] at h
  | .inl s' :: r, n, 0, hd, h => by
    simp only [slotAt, Option.some.injEq] at h
    simp [posOf, h]
  | .inl s' :: r, n, i + 1, hd, h => by
    simp only [slotAt] at h
    simp only [distA, Bool.and_eq_true] at hd
    have ih := slot_pos (n := n + 1) hd.2 h
    have ne : s' ≠ s := fun e => by
      subst e
      have := posOf_shift (m := n + 1) (Option.isNone_iff_eq_none.mp hd.1)
      rw [ih] at this
      cases this
    simp only [posOf, if_neg ne]
    rw [ih]
    congr 1
    omega
  | .inr _ :: r, n, 0, hd, h => by simp [slotAt] at h
  | .inr _ :: r, n, i + 1, hd, h => by
    simp only [slotAt] at h
    simp only [distA] at hd
    simp only [posOf]
    rw [slot_pos (n := n + 1) hd h]
    congr 1
    omega
/-- the slots behind a call -/
theorem putA_get {as : List ArgG} : ∀ {os e e2 : List OT}, distA as = true → putA as os e = some e2 → e2.length = e.length ∧ ∀ j, (posOf as 0 j = none → e2[j]? = e[j]?) ∧
    (∀ i, slotAt as i = some j → ∃ o0 t, e[j]? = some o0 ∧ os[i]? = some t ∧ t.free = true ∧ e2[j]? = some (o0.re t)) := by
  induction as with
  | nil =>
    intro os e e2 hd h
    cases os with
    | nil =>
      simp only [putA, Option.some.injEq] at h
      subst h
      exact ⟨rfl, fun j => ⟨fun _ => rfl, fun i h => by simp [slotAt] at h⟩⟩
    | cons o os => simp [putA] at h
  | cons a r ih =>
    intro os e e2 hd h
    cases a with
    | inl s =>
      cases os with
      | nil => simp [putA] at h
      | cons o os =>
        simp only [putA] at h
        simp only [distA, Bool.and_eq_true] at hd
        split at h
        · cases h
        · rename_i o0 e0
          split at h
          · rename_i hf
            obtain ⟨h1, h2⟩ := ih hd.2 h
            refine ⟨by rw [h1, List.length_set], fun j => ⟨fun hp => ?_, fun i hi => ?_⟩⟩
            · simp only [posOf] at hp
              split at hp
              · cases hp
              · rename_i ne
                rw [(h2 j).1 (posOf_shift hp), List.getElem?_set_ne ne]
            · cases i with
              | zero =>
                simp only [slotAt, Option.some.injEq] at hi
                subst hi
                refine ⟨o0, o, e0, rfl, hf, ?_⟩
                rw [(h2 s).1 (Option.isNone_iff_eq_none.mp hd.1), List.getElem?_set, if_pos rfl, if_pos (List.getElem?_eq_some_iff.mp e0).1]
              | succ i =>
                simp only [slotAt] at hi
                obtain ⟨o1, t, g1, g2, g3, g4⟩ := (h2 j).2 i hi
                have ne : s ≠ j := fun z => by
                  subst z
                  have := slot_pos (n := 0) hd.2 hi
                  rw [Option.isNone_iff_eq_none.mp hd.1] at this
                  cases this
                rw [List.getElem?_set_ne ne] at g1
                exact ⟨o1, t, g1, by simpa using g2, g3, g4⟩
          · cases h
    | inr g =>
      cases os with
      | nil => simp [putA] at h
      | cons o os =>
        simp only [putA] at h
        simp only [distA] at hd
        obtain ⟨h1, h2⟩ := ih hd h
        refine ⟨h1, fun j => ⟨fun hp => (h2 j).1 (posOf_shift (by simpa only [posOf] using hp)), fun i hi => ?_⟩⟩
        cases i with
        | zero => simp [slotAt] at hi
        | succ i =>
          simp only [slotAt] at hi
          obtain ⟨o1, t, g1, g2, g3, g4⟩ := (h2 j).2 i hi
          exact ⟨o1, t, g1, by simpa using g2, g3, g4⟩
/-- the ways of what is lent, for the one who borrows -/
def wIn (as : List ArgG) (w : WM) : WM := fun a => match w a with
  | none => none
  | some π => match π.getLast? with
    | none => none
    | some s => match posOf as 0 s with
      | none => none
      | some i => some (π.dropLast ++ [i])
/-- .. and back -/
def wOut (as : List ArgG) (w w' : WM) : WM := fun a => match w' a with
  | some π => match π.getLast? with
    | none => none
    | some i => match slotAt as i with
      | none => none
      | some s => some (π.dropLast ++ [s])
  | none => match wIn as w a with
    | some _ => none
    | none => w a
section
variable {k : KC} {G : Gh} {B H : Hp} {w : WM} {σ : L2.St} {env : List OT}
theorem wIn_of {as : List ArgG} {s i : Nat} {a : Addr} {ρ : List Nat} (hp : posOf as 0 s = some i) (h : w a = some (ρ ++ [s])) : wIn as w a = some (ρ ++ [i]) := by
  unfold wIn
  rw [h]
  simp [hp]
theorem wIn_none {as : List ArgG} {s : Nat} {a : Addr} {ρ : List Nat} (hp : posOf as 0 s = none) (h : w a = some (ρ ++ [s])) : wIn as w a = none := by
  unfold wIn
  rw [h]
  simp [hp]
theorem args_rep {as0 : List ArgG} (S : Sta k G B H w σ env) (hd : distA as0 = true) : ∀ {as : List ArgG} {n : Nat} {os : List OT} {vs : List V}, (∀ i s, slotAt as i = some s → slotAt as0 (n + i) = some s) → AE as env os → AG k B σ as os vs → OReps k B H (wIn as0 w) [] n os vs
  | [], n, os, vs, hsl, h, A => by
    obtain ⟨rfl, rfl⟩ := A
    simp only [OReps]
  | .inl s :: r, n, os, vs, hsl, h, A => by
    obtain ⟨o, os', v, vs', rfl, rfl, hv, A⟩ := A
    obtain ⟨o1, os2, e0, e1, hn, e2⟩ := h
    cases e0
    simp only [OReps]
    refine ⟨v, vs', rfl, ?_, args_rep S hd (fun i s' hi => by rw [show n + 1 + i = n + (i + 1) by omega]; exact hsl (i + 1) s' hi) e2 A⟩
    rcases S.sl s _ e1 with z | ⟨v', hv', q⟩
    · exact absurd z hn
    · rw [hv] at hv'
      cases hv'
      have hp := slot_pos (n := 0) hd (hsl 0 s rfl)
      rw [Nat.zero_add, Nat.add_zero] at hp
      exact q.core.move (.refl _) fun p ρ e => ⟨wIn_of hp e, rfl⟩
  | .inr g :: r, n, os, vs, hsl, h, A => by
    obtain ⟨d, os', v, vs', rfl, rfl, hv, A⟩ := A
    obtain ⟨d1, os2, e0, e2⟩ := h
    cases e0
    simp only [OReps, ORep]
    exact ⟨v, vs', rfl, hv, args_rep S hd (fun i s' hi => by rw [show n + 1 + i = n + (i + 1) by omega]; exact hsl (i + 1) s' hi) e2 A⟩
theorem ag_get {as : List ArgG} : ∀ {os : List OT} {vs : List V} {i s : Nat}, AG k B σ as os vs → slotAt as i = some s → ∃ v, vs[i]? = some v ∧ σ[s]? = some (some v) := by
  induction as with
  | nil => intro os vs i s A h; simp [slotAt] at h
  | cons a r ih =>
    intro os vs i s A h
    cases a with
    | inl s' =>
      obtain ⟨o, os', v, vs', rfl, rfl, hv, A⟩ := A
      cases i with
      | zero =>
        simp only [slotAt, Option.some.injEq] at h
        subst h
        exact ⟨v, rfl, hv⟩
      | succ i =>
        obtain ⟨v', h1, h2⟩ := ih A (by simpa only [slotAt] using h)
        exact ⟨v', by simpa using h1, h2⟩
    | inr g =>
      obtain ⟨o, os', v, vs', rfl, rfl, hv, A⟩ := A
      cases i with
      | zero => simp [slotAt] at h
      | succ i =>
        obtain ⟨v', h1, h2⟩ := ih A (by simpa only [slotAt] using h)
        exact ⟨v', by simpa using h1, h2⟩
/-- the state behind a call -/
theorem after_call {as : List ArgG} {os os' e2 : List OT} {vs : List V} {B' H' : Hp} {w' : WM} (S : Sta k G B H w σ env) (hd : distA as = true) (A : AG k B σ as os vs) (P : Post k B H (wIn as w) B' H' w' os' vs) (h : putA as os' env = some e2) :
    Sta k G B' H' (wOut as w w') σ e2 := by
  obtain ⟨hlen, hget⟩ := putA_get hd h
  have inw : ∀ a, w a = none → wIn as w a = none := fun a h => by unfold wIn; rw [h]
  exact {
    bh := P.h
    b0 := S.b0.trans P.b
    fr := fun a h1 h2 h3 => by
      obtain ⟨x, y, z⟩ := S.fr a h1 h2 h3
      obtain ⟨x', y', z'⟩ := P.fr a x (by rw [y]; exact h2) (inw a z)
      refine ⟨x', y'.trans y, ?_⟩
      unfold wOut
      rw [z', inw a z]
      exact z
    wb := fun a h => by
      cases e : w' a with
      | some π => exact (P.w a (by rw [e]; exact fun z => nomatch z)).1
      | none =>
        unfold wOut at h
        rw [e] at h
        simp only at h
        cases e1 : wIn as w a with
        | some _ => rw [e1] at h; exact absurd rfl h
        | none =>
          rw [e1] at h
          exact (P.fr a (S.wb a h) (S.wh a h) e1).1
    wh := fun a h => by
      cases e : w' a with
      | some π => exact (P.w a (by rw [e]; exact fun z => nomatch z)).2
      | none =>
        unfold wOut at h
        rw [e] at h
        simp only at h
        cases e1 : wIn as w a with
        | some _ => rw [e1] at h; exact absurd rfl h
        | none =>
          rw [e1] at h
          rw [(P.fr a (S.wb a h) (S.wh a h) e1).2.1]
          exact S.wh a h
    len := by rw [hlen]; exact S.len
    sl := fun j o ho => by
      cases hp : posOf as 0 j with
      | none =>
        rw [(hget j).1 hp] at ho
        rcases S.sl j o ho with e | ⟨v, hv, r⟩
        · exact .inl e
        · refine .inr ⟨v, hv, r.frame P.b fun p ρ e => ?_⟩
          have e1 := wIn_none hp e
          have hw : w p ≠ none := by rw [e]; exact fun z => nomatch z
          obtain ⟨_, y, z⟩ := P.fr p (S.wb p hw) (S.wh p hw) e1
          refine ⟨?_, y⟩
          unfold wOut
          rw [z, e1]
          exact e
      | some i =>
        have hs := (posOf_ge hp).2
        rw [Nat.sub_zero] at hs
        obtain ⟨o0, t, h1, h2, h3, h4⟩ := (hget j).2 i hs
        rw [h4] at ho
        cases ho
        obtain ⟨v, hv1, hv2⟩ := ag_get A hs
        obtain ⟨v', hv', r⟩ := P.r.get h2
        rw [hv1] at hv'
        cases hv'
        refine .inr ⟨v, hv2, ORep.re ?_⟩
        rw [Nat.zero_add] at r
        exact r.move (.refl _) fun p ρ e => ⟨by unfold wOut; rw [e]; simp [hs], rfl⟩
    fx := fun j o ho z => by
      cases hp : posOf as 0 j with
      | none =>
        rw [(hget j).1 hp] at ho
        exact S.fx j o ho z
      | some i =>
        have hs := (posOf_ge hp).2
        rw [Nat.sub_zero] at hs
        obtain ⟨o0, t, h1, h2, h3, h4⟩ := (hget j).2 i hs
        rw [h4] at ho
        cases ho
        exact S.fx j o0 h1 (OT.re_fixed h3 z) }
theorem args_len {as : List ArgG} : ∀ {os : List OT} {env : List OT}, argsO as env = some os → os.length = as.length := by
  induction as with
  | nil => intro os env h; simp only [argsO, Option.some.injEq] at h; subst h; rfl
  | cons a r ih =>
    intro os env h
    cases a with
    | inl s =>
      simp only [argsO] at h
      split at h
      · cases h
      · cases h
      · split at h
        · cases h
        · rename_i os2 e2
          cases h
          simp [ih e2]
    | inr g =>
      simp only [argsO] at h
      split at h
      · cases h
      · split at h
        · cases h
        · rename_i os2 e2
          cases h
          simp [ih e2]
theorem callL_core {n : Nat} {f : List OT → Option ResL} {as : List ArgG} {os : List OT} {vs : List V} {r : ResL} {Q : VK} {E : XK} (S : Sta k G B H w σ env) (ha : AE as env os) (A : AG k B σ as os vs) (hd : distA as = true) (hn : os.length = n) (hf : f os = some r)
    (qo : ∀ o os', r = .ok o os' → ∃ e2, putA as os' env = some e2 ∧ ∀ v B' H' w2 w1, Sta k G B' H' w2 σ e2 → Vt k G B' H' w2 w1 o v → Same B B' → Q v H')
    (qe : ∀ c ns xs os', r = .ex c ns xs os' → ∃ e2, putA as os' env = some e2 ∧ ∀ cls d B' H' w2, Sta k G B' H' w2 σ e2 → Same B B' → XRep k B' c ns xs cls d → E cls d H') : spL k n f vs H Q E := by
  have inw : ∀ a, w a = none → wIn as w a = none := fun a h => by unfold wIn; rw [h]
  have win : ∀ a, wIn as w a ≠ none → w a ≠ none := fun a h z => h (inw a z)
  refine ⟨B, wIn as w, os, r, S.bh, fun a h => ⟨S.wb a (win a h), S.wh a (win a h)⟩, args_rep S hd (fun i s h => by rw [Nat.zero_add]; exact h) ha A, hn, hf, ?_⟩
  cases r with
  | ok o os' =>
    intro v B' H' w' w1 P hdis rr nl
    obtain ⟨e2, h2, q⟩ := qo o os' rfl
    refine q v B' H' _ w1 (after_call S hd A P h2) ⟨fun a ha1 => ?_, rr, nl⟩ P.b
    obtain ⟨x1, x2, x3, x4⟩ := hdis a ha1
    have key : w a = none ∨ wIn as w a ≠ none := by
      cases e : wIn as w a with
      | some _ => exact .inr (fun z => nomatch z)
      | none =>
        refine .inl (Classical.byContradiction fun z => ?_)
        exact x4 (S.wb a z) (S.wh a z) e
    refine ⟨?_, x2, x3, fun h1 h2 => Classical.byContradiction fun h3 => ?_⟩
    · unfold wOut
      rw [x1]
      rcases key with z | z
      · rw [inw a z]
        exact z
      · cases e : wIn as w a with
        | some _ => rfl
        | none => exact absurd e z
    · obtain ⟨y1, y2, y3⟩ := S.fr a h1 h2 h3
      exact x4 y1 (by rw [y2]; exact h2) (inw a y3)
  | ex c ns xs os' =>
    intro cls d B' H' w' P x
    obtain ⟨e2, h2, q⟩ := qe c ns xs os' rfl
    exact q cls d B' H' _ (after_call S hd A P h2) P.b x
end
end DL
/-! Calls with what is lent: defs, methods, objects made. -/
namespace DL
open PySem L2 PySem.Spec PyProof.Rows
/-- an expression's end, the slots behind it -/
inductive GX where
  | ok (o : OT) (e : List OT)
  | ex (c : String) (ns : List Str) (xs : List Dat) (e : List OT)
def tGX (k : KC) (W : WX) (f : List OT → Option GX) : TE := fun σ H Q => ∃ G B w env r, Sta k G B H w σ env ∧ f env = some r ∧
  match r with
  | .ok o e2 => ∀ v B' H' w' w1, Sta k G B' H' w' σ e2 → Vt k G B' H' w' w1 o v → Same B B' → Q v H'
  | .ex c ns xs e2 => ∀ cls d B' H' w', Sta k G B' H' w' σ e2 → Same B B' → XRep k B' c ns xs cls d → W cls d σ H'
@[simp] def gOf (f : List OT → Option GX) : List OT → Option (OT × List OT) := fun e => match f e with
  | some (.ok o e2) => some (o, e2)
  | _ => none
@[simp] def setGX (i : Nat) (f : List OT → Option GX) : List OT → Option Out := fun e => match f e with
  | some (.ok o e2) => if i < e2.length then some (.nx (e2.set i o)) else none
  | some (.ex c ns xs e2) => some (.ex c ns xs e2)
  | none => none
@[simp] def retGX (f : List OT → Option GX) : List OT → Option Out := fun e => match f e with
  | some (.ok o e2) => some (.rt o e2)
  | some (.ex c ns xs e2) => some (.ex c ns xs e2)
  | none => none
@[simp] def dropGX (f : List OT → Option GX) : List OT → Option Out := fun e => match f e with
  | some (.ok _ e2) => some (.nx e2)
  | some (.ex c ns xs e2) => some (.ex c ns xs e2)
  | none => none
section
variable {k : KC} {W : WX} {X : Cx} {pos p0 : Pos} {a b c e : Expr} {f : List OT → Option GX}
theorem g_ofX (h : PE X e (tGX k nW f)) : PE X e (tG k (gOf f)) := pe_imp h fun σ H Q ⟨G, B, w, env, o, env', S, h, q⟩ => by
  unfold gOf at h
  split at h
  · rename_i o' e2 e1
    cases h
    exact ⟨G, B, w, env, _, S, e1, q⟩
  · cases h
theorem s_setGX (i : Nat) {x : Str} {pos' : Pos} (hN : X.N.Nodup) (he : PE X e (tGX k W f)) (hi : X.N[i]? = some x := by rfl) (hx : Loc X.env.scope x := by first | exact .inl rfl | exact .inr rfl)
    (hs : swapsWith e (some (.Name x pos')) pos.line X.env = pure false := by rfl) (hf : X.fn x = true ∨ X.env.scope.names.lookup x = some .local := by first | exact .inl rfl | exact .inr rfl | assumption) :
    PS X (.Assign [.Name x pos'] e pos) (tS k W (setGX i f)) := ps_imp (ps_set hN hi hx he hs hf) fun D σ H ⟨G, B, w, env, o, S, h, q⟩ => by
  unfold setGX at h
  split at h
  · rename_i o' e2 e1
    split at h
    · rename_i hl
      cases h
      exact ⟨G, B, w, env, _, S, e1, fun v B' H' w' w1 S' T m => q _ _ _ _ (S'.setO T hl) m⟩
    · cases h
  · rename_i c ns xs e2 e1
    cases h
    exact ⟨G, B, w, env, _, S, e1, fun cls d B' H' w' S' m x => q cls d σ B' H' w' S' m x⟩
  · cases h
theorem s_retGX (he : PE X e (tGX k W f)) : PS X (.Return (some e) pos) (tS k W (retGX f)) := ps_imp (ps_ret he) fun D σ H ⟨G, B, w, env, o, S, h, q⟩ => by
  unfold retGX at h
  split at h
  · rename_i o' e2 e1
    cases h
    exact ⟨G, B, w, env, _, S, e1, fun v B' H' w' w1 S' T m => q _ _ _ _ _ _ S' T m⟩
  · rename_i c ns xs e2 e1
    cases h
    exact ⟨G, B, w, env, _, S, e1, fun cls d B' H' w' S' m x => q cls d σ B' H' w' S' m x⟩
  · cases h
theorem s_dropGX (he : PE X e (tGX k W f)) (hs : swapsWith e none pos.line X.env = pure false := by rfl) : PS X (.Expr e pos) (tS k W (dropGX f)) := ps_imp (ps_expr he hs) fun D σ H ⟨G, B, w, env, o, S, h, q⟩ => by
  unfold dropGX at h
  split at h
  · rename_i o' e2 e1
    cases h
    exact ⟨G, B, w, env, _, S, e1, fun v B' H' w' w1 S' T m => q _ _ _ _ S' m⟩
  · rename_i c ns xs e2 e1
    cases h
    exact ⟨G, B, w, env, _, S, e1, fun cls d B' H' w' S' m x => q cls d σ B' H' w' S' m x⟩
  · cases h
end
/-! ### arguments -/
def tAL (k : KC) (as : List ArgG) : TA := fun σ H Q => ∃ G B w env os, Sta k G B H w σ env ∧ argsO as env = some os ∧ ∀ vs B' H', Sta k G B' H' w σ env → Mv B H B' H' → AG k B' σ as os vs → Q vs H'
section
variable {k : KC} {X : Cx} {pos : Pos} {e : Expr} {es : List Expr} {g : List OT → Option Dat} {as : List ArgG}
theorem al_nil : PA X [] (tAL k []) := pa_imp pa_nil fun σ H Q ⟨G, B, w, env, os, S, h, q⟩ => by
  simp only [argsO, Option.some.injEq] at h
  subst h
  exact q [] B H S .refl ⟨rfl, rfl⟩
theorem al_s (ha : PE X e (tD k g)) (hr : PA X es (tAL k as)) (hs : starEach (e :: es) X.env = (false, eval e X.env) :: starEach es X.env := by rfl) : PA X (e :: es) (tAL k (.inr g :: as)) :=
  pa_imp (pa_cons ha hr hs) fun σ H Q ⟨G, B, w, env, os, S, h, q⟩ => by
    simp only [argsO] at h
    split at h
    · cases h
    · rename_i d e1
      split at h
      · cases h
      · rename_i os2 e2
        cases h
        exact ⟨G, B, w, env, d, S, e1, fun v B1 H1 S1 m1 r1 => ⟨G, B1, w, env, os2, S1, e2, fun vs B2 H2 S2 m2 A => q (v :: vs) B2 H2 S2 (m1.trans m2) ⟨d, os2, v, vs, rfl, rfl, r1.mono m2.1, A⟩⟩⟩
theorem al_o (s : Nat) {x : Str} (hr : PA X es (tAL k as)) (hN : X.N[s]? = some x := by rfl) (hv : Vis X.env.scope x := by first | exact Or.inl rfl | exact Or.inr (Or.inl rfl) | exact Or.inr (Or.inr rfl)) (hd : (x == ("__debug__" : Str)) = false := by decide)
    (hcd : (x == ("__classdict__" : Str)) = false := by decide) (hs : starEach (.Name x pos :: es) X.env = (false, eval (.Name x pos) X.env) :: starEach es X.env := by rfl) : PA X (.Name x pos :: es) (tAL k (.inl s :: as)) :=
  pa_imp (pa_cons (pe_var hN hv hd hcd) hr hs) fun σ H Q ⟨G, B, w, env, os, S, h, q⟩ => by
    simp only [argsO] at h
    split at h
    · cases h
    · cases h
    · rename_i o hn e1
      split at h
      · cases h
      · rename_i os2 e2
        cases h
        rcases S.sl s _ e1 with z | ⟨v, hv, r⟩
        · exact absurd z hn
        · exact ⟨v, hv, G, B, w, env, os2, S, e2, fun vs B2 H2 S2 m2 A => q (v :: vs) B2 H2 S2 m2 ⟨o.core, os2, v, vs, rfl, rfl, hv, A⟩⟩
/-- the object of a method's call -/
def tOb (k : KC) (a : ArgG) : TE := fun σ H Q => ∃ G B w env o, Sta k G B H w σ env ∧ argsO [a] env = some [o] ∧ ∀ v B' H', Sta k G B' H' w σ env → Mv B H B' H' → AG k B' σ [a] [o] [v] → Q v H'
theorem ob_s (ha : PE X e (tD k g)) : PE X e (tOb k (.inr g)) := pe_imp ha fun σ H Q ⟨G, B, w, env, o, S, h, q⟩ => by
  simp only [argsO] at h
  split at h
  · cases h
  · rename_i d e1
    simp at h
    subst h
    exact ⟨G, B, w, env, d, S, e1, fun v B1 H1 S1 m1 r1 => q v B1 H1 S1 m1 ⟨d, [], v, [], rfl, rfl, r1, rfl, rfl⟩⟩
theorem ob_o (s : Nat) {x : Str} (hN : X.N[s]? = some x := by rfl) (hv : Vis X.env.scope x := by first | exact Or.inl rfl | exact Or.inr (Or.inl rfl) | exact Or.inr (Or.inr rfl)) (hd : (x == ("__debug__" : Str)) = false := by decide)
    (hcd : (x == ("__classdict__" : Str)) = false := by decide) : PE X (.Name x pos) (tOb k (.inl s)) := pe_imp (pe_var hN hv hd hcd) fun σ H Q ⟨G, B, w, env, o, S, h, q⟩ => by
  simp only [argsO] at h
  split at h
  · cases h
  · cases h
  · rename_i o1 hn e1
    simp at h
    subst h
    rcases S.sl s _ e1 with z | ⟨v, hv, r⟩
    · exact absurd z hn
    · exact ⟨v, hv, q v B H S .refl ⟨o1.core, [], v, [], rfl, rfl, hv, rfl, rfl⟩⟩
end
def csA (dds : List Dat) : List ArgG := dds.map fun d => .inr (cn d)
theorem args_app {as : List ArgG} {dds : List Dat} : ∀ {env os : List OT}, argsO (as ++ csA dds) env = some os → ∃ os1, argsO as env = some os1 ∧ os = os1 ++ dds.map .sh := by
  have base : ∀ (dds : List Dat) (env : List OT), argsO (csA dds) env = some (dds.map .sh) := fun dds => by
    induction dds with
    | nil => intro env; rfl
    | cons d ds ih =>
      intro env
      have := ih env
      simp only [csA, List.map_cons, argsO, cn] at this ⊢
      rw [this]
  induction as with
  | nil =>
    intro env os h
    rw [List.nil_append, base] at h
    cases h
    exact ⟨[], rfl, rfl⟩
  | cons a r ih =>
    intro env os h
    cases a with
    | inl s =>
      simp only [List.cons_append, argsO] at h ⊢
      split at h
      · cases h
      · cases h
      · rename_i o hn e1
        split at h
        · cases h
        · rename_i os2 e2
          cases h
          obtain ⟨os1, h1, rfl⟩ := ih e2
          exact ⟨o.core :: os1, by simp [h1], rfl⟩
    | inr g =>
      simp only [List.cons_append, argsO] at h ⊢
      split at h
      · cases h
      · rename_i d e1
        split at h
        · cases h
        · rename_i os2 e2
          cases h
          obtain ⟨os1, h1, rfl⟩ := ih e2
          exact ⟨.sh d :: os1, by simp [h1], rfl⟩
theorem AG.app {k : KC} {B : Hp} {σ : L2.St} {dds : List Dat} {dvs : List V} (hd : Reps k B dds dvs) : ∀ {as : List ArgG} {os : List OT} {vs : List V}, AG k B σ as os vs → AG k B σ (as ++ csA dds) (os ++ dds.map .sh) (vs ++ dvs)
  | [], os, vs, h => by
    obtain ⟨rfl, rfl⟩ := h
    simp only [List.nil_append]
    induction dds generalizing dvs with
    | nil =>
      simp only [Reps] at hd
      subst hd
      exact ⟨rfl, rfl⟩
    | cons d ds ih =>
      simp only [Reps] at hd
      obtain ⟨v, r, rfl, h1, h2⟩ := hd
      exact ⟨d, ds.map .sh, v, r, rfl, rfl, h1, ih h2⟩
  | .inl s :: r, os, vs, h => by
    obtain ⟨o, os', v, vs', rfl, rfl, h3, h4⟩ := h
    exact ⟨o, _, v, _, rfl, rfl, h3, AG.app hd h4⟩
  | .inr _ :: r, os, vs, h => by
    obtain ⟨o, os', v, vs', rfl, rfl, h3, h4⟩ := h
    exact ⟨o, _, v, _, rfl, rfl, h3, AG.app hd h4⟩
/-! ### calls -/
def callGX (n : Nat) (f : List OT → Option ResL) (as : List ArgG) : List OT → Option GX := fun e => match argsO as e with
  | none => none
  | some os => if os.length = n ∧ distA as = true then match f os with
      | some (.ok o os') => match putA as os' e with
        | none => none
        | some e2 => some (.ok o e2)
      | some (.ex c ns xs os') => match putA as os' e with
        | none => none
        | some e2 => some (.ex c ns xs e2)
      | none => none
    else none
structure FnL (P : Program) (w : World) (K : PySem.W.Frag) (mg : Str → Option Value) (base : Heap) (k : KC) (j : Nat) (x : Str) (n : Nat) (dds : List Dat) (f : List OT → Option ResL) : Prop where
  ex : ∃ (fa : Addr) (fd : FuncData) (ps : List Str) (dvs : List V) (dus : List Value), FnOk P w K mg base (L2.CX P w) j fa fd ps (spL k n f) ∧ mg x = some (.ref fa) ∧ PySem.W.keepIn K (.ref fa) = true ∧ Binds K fd ps dus ∧ Vals dvs dus ∧ (∀ B, Reps k B dds dvs)
section
variable {P : Program} {w : World} {K : PySem.W.Frag} {mg : Str → Option Value} {base : Heap} {k : KC}
theorem FnL.mono {j j' n : Nat} {x : Str} {dds : List Dat} {f : List OT → Option ResL} (F : FnL P w K mg base k j x n dds f) (h : j ≤ j') : FnL P w K mg base k j' x n dds f := by
  obtain ⟨fa, fd, ps, dvs, dus, F, r⟩ := F.ex
  exact ⟨fa, fd, ps, dvs, dus, F.mono h, r⟩
theorem FnL.mk0 {j n : Nat} {x : Str} {f : List OT → Option ResL} {fa : Addr} {fd : FuncData} {ps : List Str} (F : FnOk P w K mg base (L2.CX P w) j fa fd ps (spL k n f)) (hm : mg x = some (.ref fa)) (hk : PySem.W.keepIn K (.ref fa) = true) (hb : Binds K fd ps []) : FnL P w K mg base k j x n [] f :=
  ⟨fa, fd, ps, [], [], F, hm, hk, hb, .nil, fun _ => .nil⟩
theorem FnL.mkD {j n : Nat} {x : Str} {dds : List Dat} {dvs : List V} {f : List OT → Option ResL} {fa : Addr} {fd : FuncData} {ps : List Str} (F : FnOk P w K mg base (L2.CX P w) j fa fd ps (spL k n f)) (hm : mg x = some (.ref fa)) (hk : PySem.W.keepIn K (.ref fa) = true) (hb : ∃ ds, Vals dvs ds ∧ Binds K fd ps ds) (hd : ∀ B, Reps k B dds dvs) : FnL P w K mg base k j x n dds f := by
  obtain ⟨us, hv, hb⟩ := hb
  exact ⟨fa, fd, ps, dvs, us, F, hm, hk, hb, hv, hd⟩
end
section
variable {X : Cx} {k : KC} {W : WX} {p0 pos : Pos} {e : Expr} {es : List Expr} {as : List ArgG}
/-- what comes of a call's end -/
theorem callGX_core {n : Nat} {f : List OT → Option ResL} {as : List ArgG} {G : Gh} {B H B1 H1 : Hp} {w : WM} {σ : L2.St} {env os : List OT} {vs : List V} {r : GX} {Q : VK} {E : XK} (S1 : Sta k G B1 H1 w σ env) (m1 : Mv B H B1 H1) (ha : argsO as env = some os) (A : AG k B1 σ as os vs) (h : callGX n f as env = some r)
    (q : match r with
      | .ok o e2 => ∀ v B' H' w' w1, Sta k G B' H' w' σ e2 → Vt k G B' H' w' w1 o v → Same B B' → Q v H'
      | .ex c ns xs e2 => ∀ cls d B' H' w', Sta k G B' H' w' σ e2 → Same B B' → XRep k B' c ns xs cls d → E cls d H') : spL k n f vs H1 Q E := by
  simp only [callGX, ha] at h
  split at h
  · rename_i hl
    split at h
    · rename_i o os' e1
      split at h
      · cases h
      · rename_i e2 e3
        cases h
        refine callL_core S1 (AE.of ha) A hl.2 hl.1 e1 (fun o1 os1 er => ?_) (fun c ns xs os1 er => by cases er)
        cases er
        exact ⟨e2, e3, fun v B' H' w2 w1 S2 T m => q v B' H' w2 w1 S2 T (m1.1.trans m)⟩
    · rename_i c ns xs os' e1
      split at h
      · cases h
      · rename_i e2 e3
        cases h
        refine callL_core S1 (AE.of ha) A hl.2 hl.1 e1 (fun o1 os1 er => by cases er) (fun c1 ns1 xs1 os1 er => ?_)
        cases er
        exact ⟨e2, e3, fun cls d B' H' w2 S2 m x => q cls d B' H' w2 S2 (m1.1.trans m) x⟩
    · cases h
  · cases h
theorem callGX_args {n : Nat} {f : List OT → Option ResL} {as : List ArgG} {env : List OT} {r : GX} (h : callGX n f as env = some r) : ∃ os, argsO as env = some os := by
  unfold callGX at h
  split at h
  · cases h
  · rename_i os e1
    exact ⟨os, e1⟩
theorem pe_callL {j n : Nat} {x : Str} {dds : List Dat} {f : List OT → Option ResL} (F : FnL X.prog X.w X.K X.mg X.base k j x n dds f) (hr : Room j X.A) (tk : Takes X W) (ha : PA X (e :: es) (tAL k as)) (hg : Gl X x := by rfl) (hdb : (x == ("__debug__" : Str)) = false := by decide) (he : starEach (e :: es) X.env = (false, eval e X.env) :: starEach es X.env := by rfl) (hpl : (backTo pos (starEach es X.env)).any (·.1) = false := by rfl) :
    PE X (.Call (.Name x p0) (e :: es) [] pos) (tGX k W (callGX n f (as ++ csA dds))) := by
  obtain ⟨fa, fd, ps, dvs, dus, FF, hm, hk, hb, hv, hdd⟩ := F.ex
  refine ⟨fun pins s σ H Q I h => ?_⟩
  obtain ⟨G, B, w, env, r, S, hc, q⟩ := h
  obtain ⟨os, ho⟩ := callGX_args hc
  obtain ⟨os1, ho1, rfl⟩ := args_app ho
  refine wpAny_Call_Name_kw (ld_glob I hg hm ?_ hdb)
  refine PySem.W.callWith_K (h₀ := X.base) I.ok.mod.kin hk (thn (ha.run pos pins s σ H (fun vs H1 => ∃ B1, Sta k G B1 H1 w σ env ∧ Mv B H B1 H1 ∧ AG k B1 σ as os1 vs) I ⟨G, B, w, env, os1, S, ho1, fun vs B1 H1 S1 m1 r1 => ⟨B1, S1, m1, r1⟩⟩) fun us s1 ⟨vs, H1, I1, rr, B1, S1, m1, r1⟩ => ⟨I1.kIn, ?_⟩) he hpl
  refine run_fnSD (E := WE W) FF hr hb hv (passAt tk σ) I1 rr ?_
  refine callGX_core S1 m1 ho (r1.app (hdd B1)) hc ?_
  cases r with
  | ok o e2 => exact q
  | ex c ns xs e2 => exact q
theorem pe_callL0 {j n : Nat} {x : Str} {dds : List Dat} {f : List OT → Option ResL} (F : FnL X.prog X.w X.K X.mg X.base k j x n dds f) (hr : Room j X.A) (tk : Takes X W) (hg : Gl X x := by rfl) (hdb : (x == ("__debug__" : Str)) = false := by decide) :
    PE X (.Call (.Name x p0) [] [] pos) (tGX k W (callGX n f (csA dds))) := by
  obtain ⟨fa, fd, ps, dvs, dus, FF, hm, hk, hb, hv, hdd⟩ := F.ex
  refine ⟨fun pins s σ H Q I h => ?_⟩
  obtain ⟨G, B, w, env, r, S, hc, q⟩ := h
  obtain ⟨os, ho⟩ := callGX_args hc
  obtain ⟨os1, ho1, rfl⟩ := args_app (as := []) ho
  simp only [argsO, Option.some.injEq] at ho1
  subst ho1
  refine wpAny_Call_Name_kw (ld_glob I hg hm ?_ hdb)
  refine PySem.W.callWith_K0 I.kIn hk ?_
  refine run_fnSD (E := WE W) (us := []) (vs := []) FF hr hb hv (passAt tk σ) I .nil ?_
  refine callGX_core (as := csA dds) S .refl ho (AG.app (as := []) (hdd B) ⟨rfl, rfl⟩) hc ?_
  cases r with
  | ok o e2 => exact q
  | ex c ns xs e2 => exact q
end
end DL
/-! Methods, objects made. -/
namespace DL
open PySem L2 PySem.Spec PyProof.Rows
/-- the class of an object, and that it has no such field -/
def OT.cls : OT → Option (String × List Str)
  | .obj c ns _ => some (c, ns)
  | .sh (.obj c ns _) => some (c, ns)
  | _ => none
theorem cls_heap {k : KC} {B H : Hp} {w : WM} {π : List Nat} {o : OT} {v : V} {c : String} {ns : List Str} (hB : Same B H) (r : ORep k B H w π o v) (h : o.cls = some (c, ns)) : ∃ p dx vs, v = .ref p ∧ H p = some (.ins (k.cl c) dx (ns.zip vs)) := by
  unfold OT.cls at h
  split at h
  · cases h
    simp only [ORep] at r
    obtain ⟨p, dx, vs, rfl, hp, _⟩ := r
    exact ⟨p, dx, vs, rfl, hp⟩
  · cases h
    simp only [ORep, Rep] at r
    obtain ⟨p, dx, vs, rfl, hp, _⟩ := r
    exact ⟨p, dx, vs, rfl, hB _ _ hp⟩
  · cases h
structure MtL (P : Program) (w : World) (K : PySem.W.Frag) (mg : Str → Option Value) (base : Heap) (k : KC) (j : Nat) (c : String) (m : Str) (n : Nat) (dds : List Dat) (f : List OT → Option ResL) : Prop where
  ex : ∃ (fa : Addr) (fd : FuncData) (ps : List Str) (dvs : List V) (dus : List Value), FnOk P w K mg base (L2.CX P w) j fa fd ps (spL k n f) ∧ Cls K (k.cl c) ∧ Meth K (k.cl c) m fa ∧ Binds K fd ps dus ∧ Vals dvs dus ∧ (∀ B, Reps k B dds dvs)
structure MkL (P : Program) (w : World) (K : PySem.W.Frag) (mg : Str → Option Value) (base : Heap) (k : KC) (j : Nat) (x : Str) (c : String) (n : Nat) (dds : List Dat) (f : List OT → Option ResL) : Prop where
  ex : ∃ (fa : Addr) (fd : FuncData) (ps : List Str) (dvs : List V) (dus : List Value), FnOk P w K mg base (L2.CX P w) j fa fd ps (spL k n f) ∧ Mk K (k.cl c) fa ∧ mg x = some (.ref (k.cl c)) ∧ Binds K fd ps dus ∧ Vals dvs dus ∧ (∀ B, Reps k B dds dvs)
section
variable {P : Program} {w : World} {K : PySem.W.Frag} {mg : Str → Option Value} {base : Heap} {k : KC}
theorem MtL.mono {j j' n : Nat} {c : String} {m : Str} {dds : List Dat} {f : List OT → Option ResL} (F : MtL P w K mg base k j c m n dds f) (h : j ≤ j') : MtL P w K mg base k j' c m n dds f := by
  obtain ⟨fa, fd, ps, dvs, dus, F, r⟩ := F.ex
  exact ⟨fa, fd, ps, dvs, dus, F.mono h, r⟩
theorem MkL.mono {j j' n : Nat} {c : String} {x : Str} {dds : List Dat} {f : List OT → Option ResL} (F : MkL P w K mg base k j x c n dds f) (h : j ≤ j') : MkL P w K mg base k j' x c n dds f := by
  obtain ⟨fa, fd, ps, dvs, dus, F, r⟩ := F.ex
  exact ⟨fa, fd, ps, dvs, dus, F.mono h, r⟩
theorem MtL.mk0 {j n : Nat} {c : String} {m : Str} {f : List OT → Option ResL} {fa : Addr} {fd : FuncData} {ps : List Str} (F : FnOk P w K mg base (L2.CX P w) j fa fd ps (spL k n f)) (hc : Cls K (k.cl c)) (hm : Meth K (k.cl c) m fa) (hb : Binds K fd ps []) : MtL P w K mg base k j c m n [] f :=
  ⟨fa, fd, ps, [], [], F, hc, hm, hb, .nil, fun _ => .nil⟩
theorem MkL.mk0 {j n : Nat} {c : String} {x : Str} {f : List OT → Option ResL} {fa : Addr} {fd : FuncData} {ps : List Str} (F : FnOk P w K mg base (L2.CX P w) j fa fd ps (spL k n f)) (hm : Mk K (k.cl c) fa) (hg : mg x = some (.ref (k.cl c))) (hb : Binds K fd ps []) : MkL P w K mg base k j x c n [] f :=
  ⟨fa, fd, ps, [], [], F, hm, hg, hb, .nil, fun _ => .nil⟩
end
/-- a method's call: the class of the first tree says which def -/
def methGX (n : Nat) (m : Str) (mt : String → Option (List OT → Option ResL)) (a : ArgG) (as : List ArgG) : List OT → Option GX := fun e => match argsO [a] e with
  | some [o] => match o.cls with
    | none => none
    | some (c, ns) => if fldIx ns m = none then match mt c with
        | none => none
        | some f => callGX n f (a :: as) e
      else none
  | _ => none
theorem methGX_some {n : Nat} {m : Str} {mt : String → Option (List OT → Option ResL)} {a : ArgG} {as : List ArgG} {e : List OT} {r : GX} (h : methGX n m mt a as e = some r) :
    ∃ o c ns f, argsO [a] e = some [o] ∧ o.cls = some (c, ns) ∧ fldIx ns m = none ∧ mt c = some f ∧ callGX n f (a :: as) e = some r := by
  unfold methGX at h
  split at h
  · rename_i o e1
    split at h
    · cases h
    · rename_i c ns e2
      split at h
      · rename_i e3
        split at h
        · cases h
        · rename_i f e4
          exact ⟨o, c, ns, f, e1, e2, e3, e4, h⟩
      · cases h
  · cases h
theorem AG.cons {k : KC} {B : Hp} {σ : L2.St} {a : ArgG} {as : List ArgG} {o : OT} {os : List OT} {v : V} {vs : List V} (h : AG k B σ [a] [o] [v]) (r : AG k B σ as os vs) : AG k B σ (a :: as) (o :: os) (v :: vs) := by
  cases a with
  | inl s =>
    obtain ⟨o', os', v', vs', h1, h2, h3, h4⟩ := h
    cases h1
    cases h2
    exact ⟨o, os, v, vs, rfl, rfl, h3, r⟩
  | inr g =>
    obtain ⟨o', os', v', vs', h1, h2, h3, h4⟩ := h
    cases h1
    cases h2
    exact ⟨o', os, v, vs, rfl, rfl, h3, r⟩
theorem args_cons {a : ArgG} {as : List ArgG} {e os : List OT} (h : argsO (a :: as) e = some os) : ∃ o os', argsO [a] e = some [o] ∧ argsO as e = some os' ∧ os = o :: os' := by
  cases a with
  | inl s =>
    simp only [argsO] at h ⊢
    split at h
    · cases h
    · cases h
    · split at h
      · cases h
      · rename_i os2 e2
        cases h
        exact ⟨_, os2, rfl, e2, rfl⟩
  | inr g =>
    simp only [argsO] at h ⊢
    split at h
    · cases h
    · split at h
      · cases h
      · rename_i os2 e2
        cases h
        exact ⟨_, os2, rfl, e2, rfl⟩
theorem ag_heap {k : KC} {G : Gh} {B H : Hp} {w : WM} {σ : L2.St} {env : List OT} {a : ArgG} {o : OT} {v : V} {c : String} {ns : List Str} (S : Sta k G B H w σ env) (h : argsO [a] env = some [o]) (A : AG k B σ [a] [o] [v]) (hc : o.cls = some (c, ns)) : ∃ p dx vs, v = .ref p ∧ H p = some (.ins (k.cl c) dx (ns.zip vs)) := by
  cases a with
  | inl s =>
    obtain ⟨o', os', v', vs', h1, h2, h3, h4⟩ := A
    cases h1
    cases h2
    simp only [argsO] at h
    split at h
    · cases h
    · cases h
    · rename_i o1 hn e1
      simp at h
      subst h
      rcases S.sl s _ e1 with z | ⟨v', hv', q⟩
      · exact absurd z hn
      · rw [h3] at hv'
        cases hv'
        exact cls_heap S.bh q.core hc
  | inr g =>
    obtain ⟨d, os', v', vs', h1, h2, h3, h4⟩ := A
    cases h1
    cases h2
    exact cls_heap (w := fun _ => none) (π := []) S.bh (by simpa only [ORep] using h3) hc
section
variable {X : Cx} {k : KC} {W : WX} {p0 pos apos : Pos} {e o : Expr} {es : List Expr} {as : List ArgG} {a : ArgG}
theorem pe_methL {j n : Nat} {m : Str} {dds : List Dat} {mt : String → Option (List OT → Option ResL)} {pl : Sem Bool} (F : ∀ c f, mt c = some f → MtL X.prog X.w X.K X.mg X.base k j c m n dds f) (hr : Room j X.A) (tk : Takes X W) (ho : PE X o (tOb k a)) (ha : PA X (e :: es) (tAL k as))
    (hst : starEach (e :: es) X.env = (false, eval e X.env) :: starEach es X.env := by rfl) (hpl : (backTo pos (starEach es X.env)).any (·.1) = false := by rfl)
    (ht : eval (.Call (.Attribute o m apos) (e :: es) [] pos) X.env = (do
      let ov ← eval o X.env
      standAt apos.atName
      let (f, first) ← holding [ov] (getMethod ov m pl)
      callWith pos f first (backTo pos (starEach (e :: es) X.env)) (backToKw pos (keywordEach [] X.env))) := by rfl) :
    PE X (.Call (.Attribute o m apos) (e :: es) [] pos) (tGX k W (methGX n m mt a (as ++ csA dds))) := by
  refine ⟨fun pins s σ H Q I h => ?_⟩
  obtain ⟨G, B, w, env, r, S, hm, q⟩ := h
  obtain ⟨ob, c, ns, f, h1, h2, h3, h4, hc⟩ := methGX_some hm
  obtain ⟨fa, fd, ps, dvs, dus, FF, cl, mth, hb, hv, hdd⟩ := (F c f h4).ex
  obtain ⟨os, hos⟩ := callGX_args hc
  obtain ⟨ob', os', g1, g2, rfl⟩ := args_cons hos
  rw [h1] at g1
  cases g1
  obtain ⟨os1, ho1, rfl⟩ := args_app g2
  refine PySem.W.methodCall_KW (pl := pl) (thn (ho.run pins s σ H (fun v H1 => ∃ B1, Sta k G B1 H1 w σ env ∧ Mv B H B1 H1 ∧ AG k B1 σ [a] [ob] [v]) I ⟨G, B, w, env, ob, S, h1, fun v B1 H1 S1 m1 A => ⟨B1, S1, m1, A⟩⟩) fun u s1 ⟨x, H1, I1, rx, B1, S1, m1, A1⟩ => ?_) ht
  obtain ⟨p, dx, vs0, rfl, hp⟩ := ag_heap S1 h1 A1 h2
  obtain rfl : u = Value.ref p := rx
  refine getmeth_ok I1 hp cl mth (fld_none h3) ?_
  refine PySem.W.callWith_K (first := [.ref p]) (h₀ := X.base) I1.ok.mod.kin mth.kp (thn (ha.run pos pins s1 σ H1 (fun vs H2 => ∃ B2, Sta k G B2 H2 w σ env ∧ Mv B1 H1 B2 H2 ∧ AG k B2 σ as os1 vs) I1 ⟨G, B1, w, env, os1, S1, ho1, fun vs B2 H2 S2 m2 A => ⟨B2, S2, m2, A⟩⟩) fun us s2 ⟨vs, H2, I2, rr, B2, S2, m2, A2⟩ => ⟨I2.kIn, ?_⟩) hst hpl
  refine run_fnSD (E := WE W) (us := .ref p :: us) (vs := .ref p :: vs) FF hr hb hv (passAt tk σ) I2 (.cons rfl rr) ?_
  refine callGX_core (as := a :: (as ++ csA dds)) S2 (m1.trans m2) hos ((A1.mono m2.1).cons (A2.app (hdd B2))) hc ?_
  cases r with
  | ok o e2 => exact q
  | ex c ns xs e2 => exact q
theorem pe_methL0 {j n : Nat} {m : Str} {dds : List Dat} {mt : String → Option (List OT → Option ResL)} {pl : Sem Bool} (F : ∀ c f, mt c = some f → MtL X.prog X.w X.K X.mg X.base k j c m n dds f) (hr : Room j X.A) (tk : Takes X W) (ho : PE X o (tOb k a))
    (ht : eval (.Call (.Attribute o m apos) [] [] pos) X.env = (do
      let ov ← eval o X.env
      standAt apos.atName
      let (f, first) ← holding [ov] (getMethod ov m pl)
      callWith pos f first (backTo pos (starEach [] X.env)) (backToKw pos (keywordEach [] X.env))) := by rfl) :
    PE X (.Call (.Attribute o m apos) [] [] pos) (tGX k W (methGX n m mt a (csA dds))) := by
  refine ⟨fun pins s σ H Q I h => ?_⟩
  obtain ⟨G, B, w, env, r, S, hm, q⟩ := h
  obtain ⟨ob, c, ns, f, h1, h2, h3, h4, hc⟩ := methGX_some hm
  obtain ⟨fa, fd, ps, dvs, dus, FF, cl, mth, hb, hv, hdd⟩ := (F c f h4).ex
  obtain ⟨os, hos⟩ := callGX_args hc
  obtain ⟨ob', os', g1, g2, rfl⟩ := args_cons hos
  rw [h1] at g1
  cases g1
  obtain ⟨os1, ho1, rfl⟩ := args_app (as := []) g2
  simp only [argsO, Option.some.injEq] at ho1
  subst ho1
  refine PySem.W.methodCall_KW (pl := pl) (thn (ho.run pins s σ H (fun v H1 => ∃ B1, Sta k G B1 H1 w σ env ∧ Mv B H B1 H1 ∧ AG k B1 σ [a] [ob] [v]) I ⟨G, B, w, env, ob, S, h1, fun v B1 H1 S1 m1 A => ⟨B1, S1, m1, A⟩⟩) fun u s1 ⟨x, H1, I1, rx, B1, S1, m1, A1⟩ => ?_) ht
  obtain ⟨p, dx, vs0, rfl, hp⟩ := ag_heap S1 h1 A1 h2
  obtain rfl : u = Value.ref p := rx
  refine getmeth_ok I1 hp cl mth (fld_none h3) ?_
  refine PySem.W.callWith_K0 (first := [.ref p]) I1.kIn mth.kp ?_
  refine run_fnSD (E := WE W) (us := [.ref p]) (vs := [.ref p]) FF hr hb hv (passAt tk σ) I1 (.cons rfl .nil) ?_
  refine callGX_core (as := a :: csA dds) S1 m1 hos (A1.cons (AG.app (as := []) (hdd B1) ⟨rfl, rfl⟩)) hc ?_
  cases r with
  | ok o e2 => exact q
  | ex c ns xs e2 => exact q
end
/-! ### objects made -/
def makeGX (c : String) (n : Nat) (f : List OT → Option ResL) (as : List ArgG) : List OT → Option GX := fun e => match argsO as e with
  | none => none
  | some os => if os.length + 1 = n ∧ distA as = true then match f (.obj c [] [] :: os) with
      | some (.ok (.sh .non) (t :: os')) => if t.ok = true then match putA as os' e with
          | none => none
          | some e2 => some (.ok t e2)
        else none
      | some (.ex c' ns xs (t :: os')) => if t.free = true then match putA as os' e with
          | none => none
          | some e2 => some (.ex c' ns xs e2)
        else none
      | _ => none
    else none
section
variable {k : KC} {G : Gh} {B H : Hp} {w : WM} {σ : L2.St} {env : List OT}
def wNew (w : WM) (x : Addr) (n : Nat) : WM := fun a => if a = x then some [n] else w a
/-- a new object in a slot more -/
theorem Sta.push {x dx C : Addr} {c : String} (hC : k.cl c = C) (S : Sta k G B H w σ env) (hx : H x = none) (hdx : H dx = none) (ne : dx ≠ x) :
    Sta k G B (upd (upd H dx (.own x)) x (.ins C dx [])) (wNew w x env.length) (σ ++ [some (.ref x)]) (env ++ [.obj c [] []]) := by
  have hx2 : (upd H dx (.own x)) x = none := by rw [upd_ne ne.symm]; exact hx
  have S1 := (S.ext (o := .own x) hdx).ext (o := .ins C dx []) hx2
  have nb := S.nob hx
  exact {
    bh := S1.bh
    b0 := S1.b0
    fr := fun a h1 h2 h3 => by
      obtain ⟨p, q, r⟩ := S1.fr a h1 h2 h3
      refine ⟨p, q, ?_⟩
      have : a ≠ x := fun e => by
        subst e
        exact h3 (nb.2.2 h1 h2)
      unfold wNew
      rw [if_neg this]
      exact r
    wb := fun a h => by
      by_cases e : a = x
      · subst e
        exact nb.2.1
      · exact S1.wb a fun z => h (by unfold wNew; rw [if_neg e]; exact z)
    wh := fun a h => by
      by_cases e : a = x
      · subst e
        rw [upd_same]
        exact fun z => nomatch z
      · exact S1.wh a fun z => h (by unfold wNew; rw [if_neg e]; exact z)
    len := by simp [S.len]
    sl := fun j o h => by
      by_cases hj : j < env.length
      · rw [List.getElem?_append_left hj] at h
        rcases S1.sl j o h with e | ⟨v, hv, r⟩
        · exact .inl e
        · refine .inr ⟨v, by rw [List.getElem?_append_left (by rw [← S.len]; exact hj)]; exact hv, r.frame (.refl _) fun q ρ e => ⟨?_, rfl⟩⟩
          have : q ≠ x := fun z => by
            subst z
            rw [nb.1] at e
            cases e
          unfold wNew
          rw [if_neg this]
          exact e
      · have hl := (List.getElem?_eq_some_iff.mp h).1
        simp at hl
        have ej : j = env.length := by omega
        subst ej
        rw [List.getElem?_append_right (Nat.le_refl _)] at h
        simp at h
        subst h
        refine .inr ⟨.ref x, by rw [S.len, List.getElem?_append_right (Nat.le_refl _)]; simp, ?_⟩
        simp only [ORep, OReps]
        exact ⟨x, dx, [], rfl, by rw [upd_same, hC]; rfl, rfl, by simp [wNew], rfl⟩
    fx := fun j o h z => by
      by_cases hj : j < env.length
      · rw [List.getElem?_append_left hj] at h
        rw [List.getElem?_append_left (by rw [← S.len]; exact hj)]
        exact S.fx j o h z
      · have hl := (List.getElem?_eq_some_iff.mp h).1
        simp at hl
        have ej : j = env.length := by omega
        subst ej
        rw [List.getElem?_append_right (Nat.le_refl _)] at h
        simp at h
        subst h
        cases z }
theorem Sta.drop {u : Option V} {t : OT} (S : Sta k G B H w (σ ++ [u]) (env ++ [t])) : Sta k G B H w σ env where
  bh := S.bh
  b0 := S.b0
  fr := S.fr
  wb := S.wb
  wh := S.wh
  len := by have := S.len; simp at this; exact this
  sl := fun j o h => by
    have hl := (List.getElem?_eq_some_iff.mp h).1
    have e : env.length = σ.length := by have := S.len; simp at this; exact this
    rcases S.sl j o (by rw [List.getElem?_append_left hl]; exact h) with z | ⟨v, hv, r⟩
    · exact .inl z
    · rw [List.getElem?_append_left (by rw [← e]; exact hl)] at hv
      exact .inr ⟨v, hv, r⟩
  fx := fun j o h z => by
    have hl := (List.getElem?_eq_some_iff.mp h).1
    have e : env.length = σ.length := by have := S.len; simp at this; exact this
    have := S.fx j o (by rw [List.getElem?_append_left hl]; exact h) z
    rw [List.getElem?_append_left (by rw [← e]; exact hl)] at this
    exact this
theorem AE.push {t : OT} : ∀ {as : List ArgG} {os : List OT}, AE as env os → AE as (env ++ [t]) os
  | [], _, h => h
  | .inl s :: r, os, h => by
    obtain ⟨o, os', h1, h2, h3, h4⟩ := h
    exact ⟨o, os', h1, by rw [List.getElem?_append_left (List.getElem?_eq_some_iff.mp h2).1]; exact h2, h3, h4.push⟩
  | .inr _ :: r, os, h => by
    obtain ⟨o, os', h1, h2⟩ := h
    exact ⟨o, os', h1, h2.push⟩
theorem AG.push {u : Option V} : ∀ {as : List ArgG} {os : List OT} {vs : List V}, AG k B σ as os vs → AG k B (σ ++ [u]) as os vs
  | [], _, _, h => h
  | .inl s :: r, os, vs, h => by
    obtain ⟨o, os', v, vs', h1, h2, h3, h4⟩ := h
    exact ⟨o, os', v, vs', h1, h2, by rw [List.getElem?_append_left (List.getElem?_eq_some_iff.mp h3).1]; exact h3, h4.push⟩
  | .inr _ :: r, os, vs, h => by
    obtain ⟨o, os', v, vs', h1, h2, h3, h4⟩ := h
    exact ⟨o, os', v, vs', h1, h2, h3, h4.push⟩
theorem AE.pos {n : Nat} : ∀ {as : List ArgG} {os : List OT}, AE as env os → posOf as n env.length = none
  | [], _, h => rfl
  | .inl s :: r, os, h => by
    obtain ⟨o, os', h1, h2, h3, h4⟩ := h
    have := (List.getElem?_eq_some_iff.mp h2).1
    simp only [posOf]
    rw [if_neg (by omega)]
    exact h4.pos
  | .inr _ :: r, os, h => by
    obtain ⟨o, os', h1, h2⟩ := h
    simp only [posOf]
    exact h2.pos
theorem putA_push {t : OT} : ∀ {as : List ArgG} {os e e2 : List OT}, putA as os e = some e2 → putA as os (e ++ [t]) = some (e2 ++ [t])
  | [], [], e, e2, h => by
    simp only [putA, Option.some.injEq] at h ⊢
    rw [h]
  | [], _ :: _, e, e2, h => by simp [putA] at h
  | .inl s :: r, [], e, e2, h => by simp [putA] at h
  | .inl s :: r, o :: os, e, e2, h => by
    simp only [putA] at h ⊢
    split at h
    · cases h
    · rename_i o0 e0
      split at h
      · rename_i hf
        have hl := (List.getElem?_eq_some_iff.mp e0).1
        rw [List.getElem?_append_left hl, e0]
        simp only [if_pos hf]
        rw [← putA_push h, List.set_append_left _ _ hl]
      · cases h
  | .inr _ :: r, [], e, e2, h => by simp [putA] at h
  | .inr _ :: r, o :: os, e, e2, h => by
    simp only [putA] at h ⊢
    exact putA_push h
theorem OT.ok_free {o : OT} (h : o.ok = true) : o.free = true := by
  cases o <;> first | rfl | simp [OT.ok] at h
end
section
variable {X : Cx} {k : KC} {W : WX} {p0 pos : Pos} {e : Expr} {es : List Expr} {as : List ArgG}
theorem run_makeL {C f : Addr} {kk : Nat} {fd : FuncData} {ps : List Str} {sp : Sp} {E : L2.St → XK} {ds : List Value} {dvs : List V} {pins : List (Addr × Obj)} {σ : L2.St} {H : Hp} {s : Shared} {Q : VK} {us : List Value} {vs : List V} (M : Mk X.K C f) (F : FnOk X.prog X.w X.K X.mg X.base (L2.CX X.prog X.w) kk f fd ps sp) (hr : Room (kk + 1) X.A) (hb : Binds X.K fd ps ds) (hd : Vals dvs ds)
    (hx : PassesAt (L2.CX X.prog X.w) X σ (E σ)) (I : Inv X pins σ H s) (r : Vals vs us)
    (h : ∀ x dx, H x = none → H dx = none → dx ≠ x → sp (.ref x :: (vs ++ dvs)) (upd (upd H dx (.own x)) x (.ins C dx [])) (fun v H2 => v = .non ∧ Q (.ref x) H2) (E σ)) :
    wpAny (model X.prog X.w) X.A (call (.ref C) us) (EP X pins σ Q) X.xe s := by
  have hq := h (s.heap.objs.size + 1) s.heap.objs.size (I.hok.fresh (Nat.le_succ _)) (I.hok.fresh (Nat.le_refl _)) (Nat.ne_of_lt (Nat.lt_succ_self _))
  have I2 := Inv.made (C := C) I
  have r2 : Vals (V.ref (s.heap.objs.size + 1) :: (vs ++ dvs)) (Value.ref (s.heap.objs.size + 1) :: (us ++ ds)) := .cons rfl (r.append hd)
  have hl : (Value.ref (s.heap.objs.size + 1) :: us ++ ds).length = ps.length := by
    have e := r2.length
    rw [F.len _ _ _ _ hq] at e
    exact e.symm
  refine wpAny_call (make_map (f := f) I.kIn M.makes M.init (beq_iff_eq.mp M.fn) (codeAny_mono (F.run _ X.stack _ _ ⟨Value.ref (s.heap.objs.size + 1) :: us, []⟩ (Value.ref (s.heap.objs.size + 1) :: (us ++ ds)) _ _ _ (hr.make C us [])
    (I2.env0.make C us []) (hb _ (Value.ref (s.heap.objs.size + 1) :: us) I2.kIn hl) r2 hq) fun r s' hq' => ?_))
  cases r with
  | error e => exact hx pins _ _ e s' I2 hq'
  | ok fl =>
    cases fl with
    | ret u =>
      obtain ⟨v, H', I3, rv, ev, q3⟩ := I2.after hq'
      subst ev
      exact ⟨rv, ⟨V.ref (s.heap.objs.size + 1), H', I3, rfl, q3⟩⟩
    | next => exact False.elim hq'
    | brk => exact False.elim hq'
    | cont => exact False.elim hq'
theorem makeGX_args {c : String} {n : Nat} {f : List OT → Option ResL} {as : List ArgG} {env : List OT} {r : GX} (h : makeGX c n f as env = some r) : ∃ os, argsO as env = some os := by
  unfold makeGX at h
  split at h
  · cases h
  · rename_i os e1
    exact ⟨os, e1⟩
theorem makeGX_core {c : String} {C x dx : Addr} (hC : k.cl c = C) {n : Nat} {f : List OT → Option ResL} {G : Gh} {B H B1 H1 : Hp} {w : WM} {σ : L2.St} {env os : List OT} {vs : List V} {r : GX} {Q : VK} {E : XK} (S1 : Sta k G B1 H1 w σ env) (m1 : Mv B H B1 H1) (ha : argsO as env = some os) (A : AG k B1 σ as os vs) (h : makeGX c n f as env = some r)
    (hx : H1 x = none) (hdx : H1 dx = none) (ne : dx ≠ x)
    (q : match r with
      | .ok o e2 => ∀ v B' H' w' w1, Sta k G B' H' w' σ e2 → Vt k G B' H' w' w1 o v → Same B B' → Q v H'
      | .ex c ns xs e2 => ∀ cls d B' H' w', Sta k G B' H' w' σ e2 → Same B B' → XRep k B' c ns xs cls d → E cls d H') :
    spL k n f (.ref x :: vs) (upd (upd H1 dx (.own x)) x (.ins C dx [])) (fun v H2 => v = .non ∧ Q (.ref x) H2) E := by
  have SP := S1.push (c := c) hC hx hdx ne
  have AEx := AE.of ha
  have dist : distA as = true → distA (.inl env.length :: as) = true := fun h => by
    simp only [distA, Bool.and_eq_true]
    exact ⟨by rw [AEx.pos]; rfl, h⟩
  have en : (env ++ [OT.obj c [] []])[env.length]? = some (.obj c [] []) := by rw [List.getElem?_append_right (Nat.le_refl _)]; simp
  have AE2 : AE (.inl env.length :: as) (env ++ [.obj c [] []]) (.obj c [] [] :: os) := ⟨.obj c [] [], os, rfl, en, (fun z => nomatch z), AEx.push⟩
  have sn : (σ ++ [some (V.ref x)])[env.length]? = some (some (.ref x)) := by rw [S1.len, List.getElem?_append_right (Nat.le_refl _)]; simp
  have AG2 : AG k B1 (σ ++ [some (.ref x)]) (.inl env.length :: as) (.obj c [] [] :: os) (.ref x :: vs) := ⟨_, os, .ref x, vs, rfl, rfl, sn, A.push⟩
  have putP : ∀ {t : OT} {os' e2 : List OT}, t.free = true → putA as os' env = some e2 → putA (.inl env.length :: as) (t :: os') (env ++ [.obj c [] []]) = some (e2 ++ [t]) := fun {t os' e2} hf hp => by
    simp only [putA, en, if_pos hf]
    have : (env ++ [OT.obj c [] []]).set env.length ((OT.obj c [] []).re t) = env ++ [t] := by
      rw [List.set_append_right _ _ (Nat.le_refl _)]
      simp [OT.re]
    rw [this]
    exact putA_push hp
  simp only [makeGX, ha] at h
  split at h
  · rename_i hl
    split at h
    · rename_i t os' e1
      split at h
      · rename_i hok
        split at h
        · cases h
        · rename_i e2 e3
          cases h
          refine callL_core SP AE2 AG2 (dist hl.2) (by simp; omega) e1 (fun o1 os1 er => ?_) (fun c ns xs os1 er => by cases er)
          cases er
          refine ⟨e2 ++ [t], putP (OT.ok_free hok) e3, fun v B' H' w2 w1 S2 T m => ?_⟩
          have hv : v = .non := by
            have := T.rep
            simpa only [ORep, Rep] using this
          refine ⟨hv, ?_⟩
          have el : e2.length = env.length := by have := S2.len; have := S1.len; simp at *; omega
          have tn : (e2 ++ [t])[e2.length]? = some t := by rw [List.getElem?_append_right (Nat.le_refl _)]; simp
          obtain ⟨v', hv', ST, VT⟩ := S2.take tn hok
          rw [el, sn] at hv'
          cases hv'
          have eset : (e2 ++ [t]).set e2.length .un = e2 ++ [.un] := by
            rw [List.set_append_right _ _ (Nat.le_refl _)]
            simp
          rw [eset] at ST
          exact q (.ref x) B' H' _ _ ST.drop VT (m1.1.trans m)
      · cases h
    · rename_i c' ns xs t os' e1
      split at h
      · rename_i hok
        split at h
        · cases h
        · rename_i e2 e3
          cases h
          refine callL_core SP AE2 AG2 (dist hl.2) (by simp; omega) e1 (fun o1 os1 er => by cases er) (fun c1 ns1 xs1 os1 er => ?_)
          cases er
          exact ⟨e2 ++ [t], putP hok e3, fun cls d B' H' w2 S2 m x => q cls d B' H' w2 S2.drop (m1.1.trans m) x⟩
      · cases h
    · cases h
  · cases h
theorem pe_makeL {j n : Nat} {x : Str} {c : String} {dds : List Dat} {f : List OT → Option ResL} (F : MkL X.prog X.w X.K X.mg X.base k j x c n dds f) (hr : Room (j + 1) X.A) (tk : Takes X W) (ha : PA X (e :: es) (tAL k as)) (hg : Gl X x := by rfl) (hdb : (x == ("__debug__" : Str)) = false := by decide) (he : starEach (e :: es) X.env = (false, eval e X.env) :: starEach es X.env := by rfl) (hpl : (backTo pos (starEach es X.env)).any (·.1) = false := by rfl) :
    PE X (.Call (.Name x p0) (e :: es) [] pos) (tGX k W (makeGX c n f (as ++ csA dds))) := by
  obtain ⟨fa, fd, ps, dvs, dus, FF, M, hm, hb, hv, hdd⟩ := F.ex
  refine ⟨fun pins s σ H Q I h => ?_⟩
  obtain ⟨G, B, w, env, r, S, hc, q⟩ := h
  obtain ⟨os, ho⟩ := makeGX_args hc
  obtain ⟨os1, ho1, rfl⟩ := args_app ho
  refine wpAny_Call_Name_kw (ld_glob I hg hm ?_ hdb)
  refine PySem.W.callWith_K (h₀ := X.base) I.ok.mod.kin M.kp (thn (ha.run pos pins s σ H (fun vs H1 => ∃ B1, Sta k G B1 H1 w σ env ∧ Mv B H B1 H1 ∧ AG k B1 σ as os1 vs) I ⟨G, B, w, env, os1, S, ho1, fun vs B1 H1 S1 m1 r1 => ⟨B1, S1, m1, r1⟩⟩) fun us s1 ⟨vs, H1, I1, rr, B1, S1, m1, r1⟩ => ⟨I1.kIn, ?_⟩) he hpl
  refine run_makeL (E := WE W) M FF hr hb hv (passAt tk σ) I1 rr fun y dx hy hdx ne => ?_
  refine makeGX_core rfl S1 m1 ho (r1.app (hdd B1)) hc hy hdx ne ?_
  cases r with
  | ok o e2 => exact q
  | ex c ns xs e2 => exact q
theorem pe_makeL0 {j n : Nat} {x : Str} {c : String} {dds : List Dat} {f : List OT → Option ResL} (F : MkL X.prog X.w X.K X.mg X.base k j x c n dds f) (hr : Room (j + 1) X.A) (tk : Takes X W) (hg : Gl X x := by rfl) (hdb : (x == ("__debug__" : Str)) = false := by decide) :
    PE X (.Call (.Name x p0) [] [] pos) (tGX k W (makeGX c n f (csA dds))) := by
  obtain ⟨fa, fd, ps, dvs, dus, FF, M, hm, hb, hv, hdd⟩ := F.ex
  refine ⟨fun pins s σ H Q I h => ?_⟩
  obtain ⟨G, B, w, env, r, S, hc, q⟩ := h
  obtain ⟨os, ho⟩ := makeGX_args hc
  obtain ⟨os1, ho1, rfl⟩ := args_app (as := []) ho
  simp only [argsO, Option.some.injEq] at ho1
  subst ho1
  refine wpAny_Call_Name_kw (ld_glob I hg hm ?_ hdb)
  refine PySem.W.callWith_K0 I.kIn M.kp ?_
  refine run_makeL (E := WE W) (us := []) (vs := []) M FF hr hb hv (passAt tk σ) I .nil fun y dx hy hdx ne => ?_
  refine makeGX_core rfl S .refl ho (AG.app (as := []) (hdd B) ⟨rfl, rfl⟩) hc hy hdx ne ?_
  cases r with
  | ok o e2 => exact q
  | ex c ns xs e2 => exact q
end
/-! ### where nothing is lent: the slots' ways stay -/
def allS : List ArgG → Bool
  | [] => true
  | .inl _ :: _ => false
  | .inr _ :: r => allS r
theorem allS_pos : ∀ {as : List ArgG} {n s : Nat}, allS as = true → posOf as n s = none
  | [], _, _, _ => rfl
  | .inl _ :: _, _, _, h => by simp [allS] at h
  | .inr _ :: r, n, s, h => by simp only [posOf]; exact allS_pos h
theorem allS_dist : ∀ {as : List ArgG}, allS as = true → distA as = true
  | [], _ => rfl
  | .inl _ :: _, h => by simp [allS] at h
  | .inr _ :: r, h => by simp only [distA]; exact allS_dist h
theorem allS_in {as : List ArgG} {w : WM} (h : allS as = true) : wIn as w = fun _ => none := by
  funext a
  unfold wIn
  cases w a with
  | none => rfl
  | some π =>
    simp only
    cases π.getLast? with
    | none => rfl
    | some s => simp only [allS_pos h]
def callSO (n : Nat) (f : List OT → Option ResL) (as : List ArgG) : List OT → Option OT := fun e => match argsO as e with
  | none => none
  | some os => if os.length = n ∧ allS as = true then match f os with
      | some (.ok o _) => some o
      | _ => none
    else none
def makeSO (c : String) (n : Nat) (f : List OT → Option ResL) (as : List ArgG) : List OT → Option OT := fun e => match argsO as e with
  | none => none
  | some os => if os.length + 1 = n ∧ allS as = true then match f (.obj c [] [] :: os) with
      | some (.ok (.sh .non) (t :: _)) => if t.ok = true then some t else none
      | _ => none
    else none
def methSO (n : Nat) (m : Str) (mt : String → Option (List OT → Option ResL)) (a : ArgG) (as : List ArgG) : List OT → Option OT := fun e => match argsO [a] e with
  | some [o] => match o.cls with
    | none => none
    | some (c, ns) => if fldIx ns m = none then match mt c with
        | none => none
        | some f => callSO n f (a :: as) e
      else none
  | _ => none
section
variable {k : KC} {G : Gh} {B H : Hp} {w : WM} {σ : L2.St} {env : List OT}
theorem post_same {B' H' : Hp} {w' : WM} {os : List OT} {vs : List V} (hs : Same B H) (P : Post k B H (fun _ => none) B' H' w' os vs) : Same H H' := fun a u hu => by
  cases hb : B a with
  | none => exact (P.fr a hb (by rw [hu]; exact fun z => nomatch z) rfl).2.1.trans hu
  | some u' =>
    have z := hs a u' hb
    rw [hu] at z
    cases z
    exact P.h a u (P.b a u hb)
theorem callSO_core {n : Nat} {f : List OT → Option ResL} {as : List ArgG} {B1 H1 : Hp} {os : List OT} {vs : List V} {o : OT} {Q : VK} {E : XK} (S1 : Sta k G B1 H1 w σ env) (m1 : Mv B H B1 H1) (ha : argsO as env = some os) (A : AG k B1 σ as os vs) (h : callSO n f as env = some o)
    (q : ∀ v B' H' w1, Sta k G B' H' w σ env → Vt k G B' H' w w1 o v → Mv B H B' H' → Q v H') : spL k n f vs H1 Q E := by
  simp only [callSO, ha] at h
  split at h
  · rename_i hl
    split at h
    · rename_i o' os' e1
      cases h
      have rr := args_rep (as0 := as) S1 (allS_dist hl.2) (n := 0) (fun i s h => by rw [Nat.zero_add]; exact h) (AE.of ha) A
      rw [allS_in hl.2] at rr
      refine ⟨B1, fun _ => none, os, _, S1.bh, fun a h => absurd rfl h, rr, hl.1, e1, ?_⟩
      intro v B' H' w' w1 P hdis ro nl
      have sH := post_same S1.bh P
      have SS := sta_after S1 P.b P.h sH (fun a h1 h2 => (P.fr a h1 h2 rfl).1)
      refine q v B' H' w1 SS ⟨fun a ha => ?_, ro, nl⟩ (m1.trans ⟨P.b, sH⟩)
      obtain ⟨x1, x2, x3, x4⟩ := hdis a ha
      have hn : H1 a = none := by
        cases z : H1 a with
        | none => rfl
        | some u =>
          have hb : B1 a = none := by
            cases zb : B1 a with
            | none => rfl
            | some u' =>
              have := P.b a u' zb
              rw [x2] at this
              cases this
          exact absurd rfl (x4 hb (by rw [z]; exact fun z => nomatch z))
      have nn := S1.nob hn
      exact ⟨nn.1, x2, x3, nn.2.2⟩
    · cases h
  · cases h
end
section
variable {X : Cx} {k : KC} {p0 pos apos : Pos} {e o : Expr} {es : List Expr} {as : List ArgG} {a : ArgG}
theorem callSO_args {n : Nat} {f : List OT → Option ResL} {as : List ArgG} {env : List OT} {r : OT} (h : callSO n f as env = some r) : ∃ os, argsO as env = some os := by
  unfold callSO at h
  split at h
  · cases h
  · rename_i os e1
    exact ⟨os, e1⟩
theorem methSO_some {n : Nat} {m : Str} {mt : String → Option (List OT → Option ResL)} {a : ArgG} {as : List ArgG} {e : List OT} {r : OT} (h : methSO n m mt a as e = some r) :
    ∃ o c ns f, argsO [a] e = some [o] ∧ o.cls = some (c, ns) ∧ fldIx ns m = none ∧ mt c = some f ∧ callSO n f (a :: as) e = some r := by
  unfold methSO at h
  split at h
  · rename_i o e1
    split at h
    · cases h
    · rename_i c ns e2
      split at h
      · rename_i e3
        split at h
        · cases h
        · rename_i f e4
          exact ⟨o, c, ns, f, e1, e2, e3, e4, h⟩
      · cases h
  · cases h
/-- a method of a shared object, nothing lent -/
theorem f_methS {j n : Nat} {m : Str} {dds : List Dat} {mt : String → Option (List OT → Option ResL)} {pl : Sem Bool} (F : ∀ c f, mt c = some f → MtL X.prog X.w X.K X.mg X.base k j c m n dds f) (hr : Room j X.A) (ho : PE X o (tOb k a)) (ha : PA X (e :: es) (tAL k as))
    (hst : starEach (e :: es) X.env = (false, eval e X.env) :: starEach es X.env := by rfl) (hpl : (backTo pos (starEach es X.env)).any (·.1) = false := by rfl)
    (ht : eval (.Call (.Attribute o m apos) (e :: es) [] pos) X.env = (do
      let ov ← eval o X.env
      standAt apos.atName
      let (f, first) ← holding [ov] (getMethod ov m pl)
      callWith pos f first (backTo pos (starEach (e :: es) X.env)) (backToKw pos (keywordEach [] X.env))) := by rfl) :
    PE X (.Call (.Attribute o m apos) (e :: es) [] pos) (tF k (methSO n m mt a (as ++ csA dds))) := by
  refine ⟨fun pins s σ H Q I h => ?_⟩
  obtain ⟨G, B, w, env, r, S, hm, q⟩ := h
  obtain ⟨ob, c, ns, f, h1, h2, h3, h4, hc⟩ := methSO_some hm
  obtain ⟨fa, fd, ps, dvs, dus, FF, cl, mth, hb, hv, hdd⟩ := (F c f h4).ex
  obtain ⟨os, hos⟩ := callSO_args hc
  obtain ⟨ob', os', g1, g2, rfl⟩ := args_cons hos
  rw [h1] at g1
  cases g1
  obtain ⟨os1, ho1, rfl⟩ := args_app g2
  refine PySem.W.methodCall_KW (pl := pl) (thn (ho.run pins s σ H (fun v H1 => ∃ B1, Sta k G B1 H1 w σ env ∧ Mv B H B1 H1 ∧ AG k B1 σ [a] [ob] [v]) I ⟨G, B, w, env, ob, S, h1, fun v B1 H1 S1 m1 A => ⟨B1, S1, m1, A⟩⟩) fun u s1 ⟨x, H1, I1, rx, B1, S1, m1, A1⟩ => ?_) ht
  obtain ⟨p, dx, vs0, rfl, hp⟩ := ag_heap S1 h1 A1 h2
  obtain rfl : u = Value.ref p := rx
  refine getmeth_ok I1 hp cl mth (fld_none h3) ?_
  refine PySem.W.callWith_K (first := [.ref p]) (h₀ := X.base) I1.ok.mod.kin mth.kp (thn (ha.run pos pins s1 σ H1 (fun vs H2 => ∃ B2, Sta k G B2 H2 w σ env ∧ Mv B1 H1 B2 H2 ∧ AG k B2 σ as os1 vs) I1 ⟨G, B1, w, env, os1, S1, ho1, fun vs B2 H2 S2 m2 A => ⟨B2, S2, m2, A⟩⟩) fun us s2 ⟨vs, H2, I2, rr, B2, S2, m2, A2⟩ => ⟨I2.kIn, ?_⟩) hst hpl
  refine run_fnSD (E := WE nW) (us := .ref p :: us) (vs := .ref p :: vs) FF hr hb hv (passAt takes0 σ) I2 (.cons rfl rr) ?_
  exact callSO_core (as := a :: (as ++ csA dds)) S2 (m1.trans m2) hos ((A1.mono m2.1).cons (A2.app (hdd B2))) hc q
theorem f_methS0 {j n : Nat} {m : Str} {dds : List Dat} {mt : String → Option (List OT → Option ResL)} {pl : Sem Bool} (F : ∀ c f, mt c = some f → MtL X.prog X.w X.K X.mg X.base k j c m n dds f) (hr : Room j X.A) (ho : PE X o (tOb k a))
    (ht : eval (.Call (.Attribute o m apos) [] [] pos) X.env = (do
      let ov ← eval o X.env
      standAt apos.atName
      let (f, first) ← holding [ov] (getMethod ov m pl)
      callWith pos f first (backTo pos (starEach [] X.env)) (backToKw pos (keywordEach [] X.env))) := by rfl) :
    PE X (.Call (.Attribute o m apos) [] [] pos) (tF k (methSO n m mt a (csA dds))) := by
  refine ⟨fun pins s σ H Q I h => ?_⟩
  obtain ⟨G, B, w, env, r, S, hm, q⟩ := h
  obtain ⟨ob, c, ns, f, h1, h2, h3, h4, hc⟩ := methSO_some hm
  obtain ⟨fa, fd, ps, dvs, dus, FF, cl, mth, hb, hv, hdd⟩ := (F c f h4).ex
  obtain ⟨os, hos⟩ := callSO_args hc
  obtain ⟨ob', os', g1, g2, rfl⟩ := args_cons hos
  rw [h1] at g1
  cases g1
  obtain ⟨os1, ho1, rfl⟩ := args_app (as := []) g2
  simp only [argsO, Option.some.injEq] at ho1
  subst ho1
  refine PySem.W.methodCall_KW (pl := pl) (thn (ho.run pins s σ H (fun v H1 => ∃ B1, Sta k G B1 H1 w σ env ∧ Mv B H B1 H1 ∧ AG k B1 σ [a] [ob] [v]) I ⟨G, B, w, env, ob, S, h1, fun v B1 H1 S1 m1 A => ⟨B1, S1, m1, A⟩⟩) fun u s1 ⟨x, H1, I1, rx, B1, S1, m1, A1⟩ => ?_) ht
  obtain ⟨p, dx, vs0, rfl, hp⟩ := ag_heap S1 h1 A1 h2
  obtain rfl : u = Value.ref p := rx
  refine getmeth_ok I1 hp cl mth (fld_none h3) ?_
  refine PySem.W.callWith_K0 (first := [.ref p]) I1.kIn mth.kp ?_
  refine run_fnSD (E := WE nW) (us := [.ref p]) (vs := [.ref p]) FF hr hb hv (passAt takes0 σ) I1 (.cons rfl .nil) ?_
  exact callSO_core (as := a :: csA dds) S1 m1 hos (A1.cons (AG.app (as := []) (hdd B1) ⟨rfl, rfl⟩)) hc q
theorem f_callLS {j n : Nat} {x : Str} {dds : List Dat} {f : List OT → Option ResL} (F : FnL X.prog X.w X.K X.mg X.base k j x n dds f) (hr : Room j X.A) (ha : PA X (e :: es) (tAL k as)) (hg : Gl X x := by rfl) (hdb : (x == ("__debug__" : Str)) = false := by decide) (he : starEach (e :: es) X.env = (false, eval e X.env) :: starEach es X.env := by rfl) (hpl : (backTo pos (starEach es X.env)).any (·.1) = false := by rfl) :
    PE X (.Call (.Name x p0) (e :: es) [] pos) (tF k (callSO n f (as ++ csA dds))) := by
  obtain ⟨fa, fd, ps, dvs, dus, FF, hm, hk, hb, hv, hdd⟩ := F.ex
  refine ⟨fun pins s σ H Q I h => ?_⟩
  obtain ⟨G, B, w, env, r, S, hc, q⟩ := h
  obtain ⟨os, ho⟩ := callSO_args hc
  obtain ⟨os1, ho1, rfl⟩ := args_app ho
  refine wpAny_Call_Name_kw (ld_glob I hg hm ?_ hdb)
  refine PySem.W.callWith_K (h₀ := X.base) I.ok.mod.kin hk (thn (ha.run pos pins s σ H (fun vs H1 => ∃ B1, Sta k G B1 H1 w σ env ∧ Mv B H B1 H1 ∧ AG k B1 σ as os1 vs) I ⟨G, B, w, env, os1, S, ho1, fun vs B1 H1 S1 m1 r1 => ⟨B1, S1, m1, r1⟩⟩) fun us s1 ⟨vs, H1, I1, rr, B1, S1, m1, r1⟩ => ⟨I1.kIn, ?_⟩) he hpl
  refine run_fnSD (E := WE nW) FF hr hb hv (passAt takes0 σ) I1 rr ?_
  exact callSO_core S1 m1 ho (r1.app (hdd B1)) hc q
theorem ag_sh {B H : Hp} {σ : L2.St} {w : WM} : ∀ {as : List ArgG} {n : Nat} {os : List OT} {vs : List V}, allS as = true → AG k B σ as os vs → OReps k B H w [] n os vs
  | [], n, os, vs, h, A => by
    obtain ⟨rfl, rfl⟩ := A
    simp only [OReps]
  | .inl _ :: _, _, _, _, h, _ => by simp [allS] at h
  | .inr _ :: r, n, os, vs, h, A => by
    obtain ⟨d, os', v, vs', rfl, rfl, hv, A⟩ := A
    simp only [OReps, ORep]
    exact ⟨v, vs', rfl, hv, ag_sh (as := r) (by simpa only [allS] using h) A⟩
theorem makeSO_args {c : String} {n : Nat} {f : List OT → Option ResL} {as : List ArgG} {env : List OT} {r : OT} (h : makeSO c n f as env = some r) : ∃ os, argsO as env = some os := by
  unfold makeSO at h
  split at h
  · cases h
  · rename_i os e1
    exact ⟨os, e1⟩
theorem makeSO_core {c : String} {C x dx : Addr} (hC : k.cl c = C) {n : Nat} {f : List OT → Option ResL} {G : Gh} {B H B1 H1 : Hp} {w : WM} {σ : L2.St} {env os : List OT} {vs : List V} {o : OT} {Q : VK} {E : XK} (S1 : Sta k G B1 H1 w σ env) (m1 : Mv B H B1 H1) (ha : argsO as env = some os) (A : AG k B1 σ as os vs) (h : makeSO c n f as env = some o)
    (hx : H1 x = none) (hdx : H1 dx = none) (ne : dx ≠ x)
    (q : ∀ v B' H' w1, Sta k G B' H' w σ env → Vt k G B' H' w w1 o v → Mv B H B' H' → Q v H') :
    spL k n f (.ref x :: vs) (upd (upd H1 dx (.own x)) x (.ins C dx [])) (fun v H2 => v = .non ∧ Q (.ref x) H2) E := by
  have hx2 : (upd H1 dx (.own x)) x = none := by rw [upd_ne ne.symm]; exact hx
  have sn : Same H1 (upd (upd H1 dx (.own x)) x (.ins C dx [])) := (same_newH hdx).trans (same_newH hx2)
  simp only [makeSO, ha] at h
  split at h
  · rename_i hl
    split at h
    · rename_i t os' e1
      split at h
      · rename_i hok
        cases h
        have nb := S1.nob hx
        refine ⟨B1, fun a => if a = x then some [0] else none, .obj c [] [] :: os, _, S1.bh.trans sn, fun a h => ?_, ?_, by simp; omega, e1, ?_⟩
        · have e : a = x := by
            by_cases z : a = x
            · exact z
            · simp [z] at h
          subst e
          exact ⟨nb.2.1, by rw [upd_same]; exact fun z => nomatch z⟩
        · simp only [OReps, ORep]
          exact ⟨.ref x, vs, rfl, ⟨x, dx, [], rfl, by rw [upd_same, hC]; rfl, rfl, by simp, rfl⟩, ag_sh hl.2 A⟩
        · intro v B' H' w' w1 P hdis rv nl
          have hv : v = .non := by simpa only [ORep, Rep] using rv
          refine ⟨hv, ?_⟩
          have old : ∀ a, B1 a = none → H1 a ≠ none → B' a = none ∧ H' a = H1 a ∧ w' a = none := fun a h1 h2 => by
            have n1 : a ≠ x := fun e => by subst e; exact h2 hx
            have n2 : a ≠ dx := fun e => by subst e; exact h2 hdx
            have e2 : (upd (upd H1 dx (.own x)) x (.ins C dx [])) a = H1 a := by rw [upd_ne n1, upd_ne n2]
            have z := P.fr a h1 (by rw [e2]; exact h2) (by simp [n1])
            rw [e2] at z
            exact z
          have sH : Same H1 H' := fun a u hu => by
            cases hb : B1 a with
            | none => exact (old a hb (by rw [hu]; exact fun z => nomatch z)).2.1.trans hu
            | some u' =>
              have z := S1.bh a u' hb
              rw [hu] at z
              cases z
              exact P.h a u (P.b a u hb)
          have SS := sta_after S1 P.b P.h sH (fun a h1 h2 => (old a h1 h2).1)
          have rt := P.r
          simp only [OReps] at rt
          obtain ⟨v0, r0, e0, rt, _⟩ := rt
          cases e0
          refine q (.ref x) B' H' (wOf w' 0) SS ⟨fun a ha => ?_, rt.move (.refl _) fun p ρ e => ⟨by unfold wOf; rw [e]; simp, rfl⟩, OT.ok_fixed hok⟩ (m1.trans ⟨P.b, sH⟩)
          have hw' : w' a ≠ none := fun z => by
            unfold wOf at ha
            rw [z] at ha
            exact ha rfl
          have wz := P.w a hw'
          have no : ¬ (B1 a = none ∧ H1 a ≠ none) := fun ⟨h1, h2⟩ => hw' (old a h1 h2).2.2
          refine ⟨?_, wz.1, wz.2, fun h1 h2 => Classical.byContradiction fun h3 => ?_⟩
          · cases z : w a with
            | none => rfl
            | some π => exact absurd ⟨S1.wb a (by rw [z]; exact fun z => nomatch z), S1.wh a (by rw [z]; exact fun z => nomatch z)⟩ no
          · obtain ⟨y1, y2, y3⟩ := S1.fr a h1 h2 h3
            exact no ⟨y1, by rw [y2]; exact h2⟩
      · cases h
    · cases h
  · cases h
/-- an object made of shared values -/
theorem f_makeS {j n : Nat} {x : Str} {c : String} {dds : List Dat} {f : List OT → Option ResL} (F : MkL X.prog X.w X.K X.mg X.base k j x c n dds f) (hr : Room (j + 1) X.A) (ha : PA X (e :: es) (tAL k as)) (hg : Gl X x := by rfl) (hdb : (x == ("__debug__" : Str)) = false := by decide) (he : starEach (e :: es) X.env = (false, eval e X.env) :: starEach es X.env := by rfl) (hpl : (backTo pos (starEach es X.env)).any (·.1) = false := by rfl) :
    PE X (.Call (.Name x p0) (e :: es) [] pos) (tF k (makeSO c n f (as ++ csA dds))) := by
  obtain ⟨fa, fd, ps, dvs, dus, FF, M, hm, hb, hv, hdd⟩ := F.ex
  refine ⟨fun pins s σ H Q I h => ?_⟩
  obtain ⟨G, B, w, env, r, S, hc, q⟩ := h
  obtain ⟨os, ho⟩ := makeSO_args hc
  obtain ⟨os1, ho1, rfl⟩ := args_app ho
  refine wpAny_Call_Name_kw (ld_glob I hg hm ?_ hdb)
  refine PySem.W.callWith_K (h₀ := X.base) I.ok.mod.kin M.kp (thn (ha.run pos pins s σ H (fun vs H1 => ∃ B1, Sta k G B1 H1 w σ env ∧ Mv B H B1 H1 ∧ AG k B1 σ as os1 vs) I ⟨G, B, w, env, os1, S, ho1, fun vs B1 H1 S1 m1 r1 => ⟨B1, S1, m1, r1⟩⟩) fun us s1 ⟨vs, H1, I1, rr, B1, S1, m1, r1⟩ => ⟨I1.kIn, ?_⟩) he hpl
  refine run_makeL (E := WE nW) M FF hr hb hv (passAt takes0 σ) I1 rr fun y dx hy hdx ne => ?_
  exact makeSO_core rfl S1 m1 ho (r1.app (hdd B1)) hc hy hdx ne q
end
end DL
/-! Expressions with changes: the slots' trees are handed on. -/
namespace DL
open PySem L2 PySem.Spec PyProof.Rows
abbrev GD := List OT → Option (Dat × List OT)
abbrev GB := List OT → Option (Bool × List OT)
abbrev GA := List OT → Option (List Dat × List OT)
section
variable (k : KC)
def tE (f : GD) : TE := fun σ H Q => ∃ G B w env d e2, Sta k G B H w σ env ∧ f env = some (d, e2) ∧ ∀ v B' H' w', Sta k G B' H' w' σ e2 → Same B B' → Rep k B' d v → Q v H'
def tTE (f : GB) : TT := fun σ H Q => ∃ G B w env d e2, Sta k G B H w σ env ∧ f env = some (d, e2) ∧ ∀ B' H' w', Sta k G B' H' w' σ e2 → Same B B' → Q d H'
def tAE (f : GA) : TA := fun σ H Q => ∃ G B w env d e2, Sta k G B H w σ env ∧ f env = some (d, e2) ∧ ∀ v B' H' w', Sta k G B' H' w' σ e2 → Same B B' → Reps k B' d v → Q v H'
end
@[simp] def pE (f : List OT → Option Dat) : GD := fun e => match f e with
  | none => none
  | some d => some (d, e)
@[simp] def mltE (f : List OT → Option (OT × List OT)) : GD := fun e => match f e with
  | none => none
  | some (o, e2) => if o.ok = true then some (o.dat, e2) else none
@[simp] def pT (f : List OT → Option Bool) : GB := fun e => match f e with
  | none => none
  | some d => some (d, e)
@[simp] def shG (f : GD) : List OT → Option (OT × List OT) := fun e => match f e with
  | none => none
  | some (d, e2) => some (.sh d, e2)
@[simp] def binE (g : Dat → Dat → Option Dat) (fa fb : GD) : GD := fun e => match fa e with
  | none => none
  | some (x, e1) => match fb e1 with
    | none => none
    | some (y, e2) => match g x y with
      | none => none
      | some d => some (d, e2)
/-- the right side only looked at -/
@[simp] def binEB (g : Dat → Dat → Option Dat) (fa : GD) (fb : List OT → Option Dat) : GD := fun e => match fa e with
  | none => none
  | some (x, e1) => match fb e1 with
    | none => none
    | some y => match g x y with
      | none => none
      | some d => if d.sc = true then some (d, e1) else none
@[simp] def tstE (f : GD) : GB := fun e => match f e with
  | some (.bl b, e2) => some (b, e2)
  | _ => none
@[simp] def notE (f : GB) : GB := fun e => match f e with
  | none => none
  | some (b, e2) => some (!b, e2)
@[simp] def andE (f g : GB) : GB := fun e => match f e with
  | none => none
  | some (true, e2) => g e2
  | some (false, e2) => some (false, e2)
@[simp] def orE (f g : GB) : GB := fun e => match f e with
  | none => none
  | some (true, e2) => some (true, e2)
  | some (false, e2) => g e2
@[simp] def bvE (f : GB) : GD := fun e => match f e with
  | none => none
  | some (b, e2) => some (.bl b, e2)
@[simp] def nilE : GA := fun e => some ([], e)
@[simp] def consE (f : GD) (g : GA) : GA := fun e => match f e with
  | none => none
  | some (d, e1) => match g e1 with
    | none => none
    | some (ds, e2) => some (d :: ds, e2)
@[simp] def isNE (f : GD) (neg : Bool) : GD := fun e => match f e with
  | none => none
  | some (.non, e2) => some (.bl (!neg), e2)
  | some (_, e2) => some (.bl neg, e2)
section
variable {k : KC} {W : WX} {X : Cx} {pos p0 : Pos} {a b c e : Expr} {fa fb fc : GD} {pa pb : List OT → Option Dat} {ga gb : GB} {es rest : List Expr} {fs : GA}
theorem e_of (h : PE X e (tD k pa)) : PE X e (tE k (pE pa)) := pe_imp h fun σ H Q ⟨G, B, w, env, d, e2, S, h, q⟩ => by
  unfold pE at h
  split at h
  · cases h
  · rename_i d' e1
    cases h
    exact ⟨G, B, w, _, d, S, e1, fun v B' H' S' m r => q v B' H' w S' m.1 r⟩
theorem e_g {f : List OT → Option (OT × List OT)} (h : PE X e (tG k f)) : PE X e (tE k (mltE f)) := pe_imp h fun σ H Q ⟨G, B, w, env, d, e2, S, h, q⟩ => by
  unfold mltE at h
  split at h
  · cases h
  · rename_i o e3 e1
    split at h
    · rename_i z
      cases h
      refine ⟨G, B, w, _, o, _, S, e1, fun v B' H' w' w1 S' T m => ?_⟩
      obtain ⟨S2, r2⟩ := T.melt S' z
      exact q v _ H' w' S2 (m.trans (same_put S'.bh)) r2
    · cases h
theorem g_ofE (h : PE X e (tE k fa)) : PE X e (tG k (shG fa)) := pe_imp h fun σ H Q ⟨G, B, w, env, o, env', S, h, q⟩ => by
  unfold shG at h
  split at h
  · cases h
  · rename_i d e2 e1
    cases h
    exact ⟨G, B, w, _, d, _, S, e1, fun v B' H' w' S' m r => q v B' H' w' (fun _ => none) S' (.shd r) m⟩
theorem te_of {f : List OT → Option Bool} (h : PT X e (tT k f)) : PT X e (tTE k (pT f)) := pt_imp h fun σ H Q ⟨G, B, w, env, d, e2, S, h, q⟩ => by
  unfold pT at h
  split at h
  · cases h
  · rename_i d' e1
    cases h
    exact ⟨G, B, w, _, d, S, e1, fun B' H' S' m => q B' H' w S' m.1⟩
theorem te_val (h : PE X e (tE k fa)) (he : ∀ whole, isTrue e X.env whole = (do let v ← whole; standAt e.pos; holding [v] (truthy v)) := by intro _; rfl) : PT X e (tTE k (tstE fa)) :=
  pt_imp (pt_val h he) fun σ H Q ⟨G, B, w, env, d, e2, S, h, q⟩ => by
    unfold tstE at h
    split at h
    · rename_i b' e3 e1
      cases h
      refine ⟨G, B, w, _, _, _, S, e1, fun v B' H' w' S' m r => ?_⟩
      simp only [Rep] at r
      exact ⟨d, r, q B' H' w' S' m⟩
    · cases h
theorem binE_some {g : Dat → Dat → Option Dat} {env e2 : List OT} {d : Dat} (h : binE g fa fb env = some (d, e2)) : ∃ x e1 y, fa env = some (x, e1) ∧ fb e1 = some (y, e2) ∧ g x y = some d := by
  unfold binE at h
  split at h
  · cases h
  · rename_i x e1 h1
    split at h
    · cases h
    · rename_i y e3 h2
      split at h
      · cases h
      · rename_i d' h3
        cases h
        exact ⟨x, e1, y, h1, h2, h3⟩
theorem opE_read {r : R2} {g : Dat → Dat → Option Dat} (hr : RD k r g) {σ : L2.St} {H : Hp} {Q : VK} (h : tE k (binE g fa fb) σ H Q) : tOp r (tE k fa) (tE k fb) σ H Q := by
  obtain ⟨G, B, w, env, d, e2, S, h, q⟩ := h
  obtain ⟨x, e1, y, hx, hy, hg⟩ := binE_some h
  refine ⟨G, B, w, env, x, e1, S, hx, fun v B1 H1 w1 S1 m1 r1 => ⟨G, B1, w1, e1, y, e2, S1, hy, fun u B2 H2 w2 S2 m2 r2 => ?_⟩⟩
  exact hr B2 H2 x y d v u Q S2.bh (r1.mono m2) r2 hg fun v' B' H' gr r3 => q v' B' H' w2 (S2.grow gr) ((m1.trans m2).trans (gr.all S2.bh).2.1) r3
theorem opEB_read {r : R2} {g : Dat → Dat → Option Dat} (hr : RD k r g) {σ : L2.St} {H : Hp} {Q : VK} (h : tE k (binEB g fa pb) σ H Q) : tOp r (tE k fa) (tB k pb) σ H Q := by
  obtain ⟨G, B, w, env, d, e2, S, h, q⟩ := h
  unfold binEB at h
  split at h
  · cases h
  · rename_i x e1 h1
    split at h
    · cases h
    · rename_i y h2
      split at h
      · cases h
      · rename_i d' h3
        split at h
        · rename_i z
          cases h
          refine ⟨G, B, w, env, x, _, S, h1, fun v B1 H1 w1 S1 m1 r1 => ⟨G, B1, w1, _, y, S1, h2, fun u B2 H2 S2 m2 r2 => ?_⟩⟩
          exact hr H2 H2 x y d v u Q (.refl _) ((r1.mono m2.1).mono S2.bh) r2 h3 fun v' B' H' gr r3 => q v' B2 H' w1 (S2.up gr.h) (m1.trans m2.1) (sc_rep z r3)
        · cases h
theorem e_op {op : Operator} {r : R2} {g : Dat → Dat → Option Dat} (ho : OpR X (binaryOp op) r) (hr : RD k r g) (ha : PE X a (tE k fa)) (hb : PE X b (tE k fb)) : PE X (.BinOp a op b pos) (tE k (binE g fa fb)) := pe_imp (pe_op ho ha hb) fun _ _ _ h => opE_read hr h
theorem e_cmp {op : CmpOp} {r : R2} {g : Dat → Dat → Option Dat} (ho : OpR X (compareOp op) r) (hr : RD k r g) (ha : PE X a (tE k fa)) (hb : PE X b (tE k fb)) (hm : behindInMarks op b = false) : PE X (.Compare a [op] [b] pos) (tE k (binE g fa fb)) := pe_imp (pe_cmpR ho ha hb hm) fun _ _ _ h => opE_read hr h
theorem e_cmpB {op : CmpOp} {r : R2} {g : Dat → Dat → Option Dat} (ho : OpR X (compareOp op) r) (hr : RD k r g) (ha : PE X a (tE k fa)) (hb : PE X b (tB k pb)) (hm : behindInMarks op b = false) : PE X (.Compare a [op] [b] pos) (tE k (binEB g fa pb)) := pe_imp (pe_cmpR ho ha hb hm) fun _ _ _ h => opEB_read hr h
theorem tstE_some {f : GD} {env e2 : List OT} {b : Bool} (h : tstE f env = some (b, e2)) : f env = some (.bl b, e2) := by
  unfold tstE at h
  split at h
  · rename_i b' e3 e1
    cases h
    exact e1
  · cases h
theorem te_cmp {op : CmpOp} {r : R2} {g : Dat → Dat → Option Dat} (ho : OpR X (compareOp op) r) (hr : RD k r g) (ha : PE X a (tE k fa)) (hb : PE X b (tE k fb)) (hm : behindInMarks op b = false) : PT X (.Compare a [op] [b] pos) (tTE k (tstE (binE g fa fb))) :=
  pt_imp (pt_cmpR ho ha hb hm) fun σ H Q ⟨G, B, w, env, d, e2, S, h, q⟩ => by
    refine opE_read hr ⟨G, B, w, env, _, e2, S, tstE_some h, fun v B' H' w' S' m r => ?_⟩
    simp only [Rep] at r
    exact ⟨d, r, q B' H' w' S' m⟩
theorem te_cmpB {op : CmpOp} {r : R2} {g : Dat → Dat → Option Dat} (ho : OpR X (compareOp op) r) (hr : RD k r g) (ha : PE X a (tE k fa)) (hb : PE X b (tB k pb)) (hm : behindInMarks op b = false) : PT X (.Compare a [op] [b] pos) (tTE k (tstE (binEB g fa pb))) :=
  pt_imp (pt_cmpR ho ha hb hm) fun σ H Q ⟨G, B, w, env, d, e2, S, h, q⟩ => by
    refine opEB_read hr ⟨G, B, w, env, _, e2, S, tstE_some h, fun v B' H' w' S' m r => ?_⟩
    simp only [Rep] at r
    exact ⟨d, r, q B' H' w' S' m⟩
theorem te_eq (hk : X.K = k.K) (hu : X.A.units + 64 < cLine) (ha : PE X a (tE k fa)) (hb : PE X b (tE k fb)) : PT X (.Compare a [.Eq] [b] pos) (tTE k (tstE (binE eqD fa fb))) := te_cmp (op_eq.or (hk ▸ op_eqD hu)) rd_eq ha hb (nomark _)
theorem te_ne (hk : X.K = k.K) (hu : X.A.units + 64 < cLine) (ha : PE X a (tE k fa)) (hb : PE X b (tE k fb)) : PT X (.Compare a [.NotEq] [b] pos) (tTE k (tstE (binE neD fa fb))) := te_cmp (op_ne.or (hk ▸ op_neD hu)) rd_ne ha hb (nomark _)
theorem te_eqB (hk : X.K = k.K) (hu : X.A.units + 64 < cLine) (ha : PE X a (tE k fa)) (hb : PE X b (tB k pb)) : PT X (.Compare a [.Eq] [b] pos) (tTE k (tstE (binEB eqD fa pb))) := te_cmpB (op_eq.or (hk ▸ op_eqD hu)) rd_eq ha hb (nomark _)
theorem te_neB (hk : X.K = k.K) (hu : X.A.units + 64 < cLine) (ha : PE X a (tE k fa)) (hb : PE X b (tB k pb)) : PT X (.Compare a [.NotEq] [b] pos) (tTE k (tstE (binEB neD fa pb))) := te_cmpB (op_ne.or (hk ▸ op_neD hu)) rd_ne ha hb (nomark _)
theorem te_lt (ha : PE X a (tE k fa)) (hb : PE X b (tE k fb)) : PT X (.Compare a [.Lt] [b] pos) (tTE k (tstE (binE ltD fa fb))) := te_cmp op_lt rd_cmp ha hb (nomark _)
theorem te_le (ha : PE X a (tE k fa)) (hb : PE X b (tE k fb)) : PT X (.Compare a [.LtE] [b] pos) (tTE k (tstE (binE leD fa fb))) := te_cmp op_le rd_cmp ha hb (nomark _)
theorem te_gt (ha : PE X a (tE k fa)) (hb : PE X b (tE k fb)) : PT X (.Compare a [.Gt] [b] pos) (tTE k (tstE (binE gtD fa fb))) := te_cmp op_gt rd_cmp ha hb (nomark _)
theorem te_ge (ha : PE X a (tE k fa)) (hb : PE X b (tE k fb)) : PT X (.Compare a [.GtE] [b] pos) (tTE k (tstE (binE geD fa fb))) := te_cmp op_ge rd_cmp ha hb (nomark _)
theorem e_eq (hk : X.K = k.K) (hu : X.A.units + 64 < cLine) (ha : PE X a (tE k fa)) (hb : PE X b (tE k fb)) : PE X (.Compare a [.Eq] [b] pos) (tE k (binE eqD fa fb)) := e_cmp (op_eq.or (hk ▸ op_eqD hu)) rd_eq ha hb (nomark _)
theorem e_ne (hk : X.K = k.K) (hu : X.A.units + 64 < cLine) (ha : PE X a (tE k fa)) (hb : PE X b (tE k fb)) : PE X (.Compare a [.NotEq] [b] pos) (tE k (binE neD fa fb)) := e_cmp (op_ne.or (hk ▸ op_neD hu)) rd_ne ha hb (nomark _)
theorem e_eqB (hk : X.K = k.K) (hu : X.A.units + 64 < cLine) (ha : PE X a (tE k fa)) (hb : PE X b (tB k pb)) : PE X (.Compare a [.Eq] [b] pos) (tE k (binEB eqD fa pb)) := e_cmpB (op_eq.or (hk ▸ op_eqD hu)) rd_eq ha hb (nomark _)
theorem e_neB (hk : X.K = k.K) (hu : X.A.units + 64 < cLine) (ha : PE X a (tE k fa)) (hb : PE X b (tB k pb)) : PE X (.Compare a [.NotEq] [b] pos) (tE k (binEB neD fa pb)) := e_cmpB (op_ne.or (hk ▸ op_neD hu)) rd_ne ha hb (nomark _)
theorem e_lt (ha : PE X a (tE k fa)) (hb : PE X b (tE k fb)) : PE X (.Compare a [.Lt] [b] pos) (tE k (binE ltD fa fb)) := e_cmp op_lt rd_cmp ha hb (nomark _)
theorem e_le (ha : PE X a (tE k fa)) (hb : PE X b (tE k fb)) : PE X (.Compare a [.LtE] [b] pos) (tE k (binE leD fa fb)) := e_cmp op_le rd_cmp ha hb (nomark _)
theorem e_gt (ha : PE X a (tE k fa)) (hb : PE X b (tE k fb)) : PE X (.Compare a [.Gt] [b] pos) (tE k (binE gtD fa fb)) := e_cmp op_gt rd_cmp ha hb (nomark _)
theorem e_ge (ha : PE X a (tE k fa)) (hb : PE X b (tE k fb)) : PE X (.Compare a [.GtE] [b] pos) (tE k (binE geD fa fb)) := e_cmp op_ge rd_cmp ha hb (nomark _)
theorem e_sub (ha : PE X a (tE k fa)) (hb : PE X b (tE k fb)) : PE X (.BinOp a .Sub b pos) (tE k (binE subD fa fb)) := e_op op_sub (rd_I0 fun x y d e => by
  unfold subD at e
  split at e
  · rename_i i j
    cases e
    exact ⟨i, j, rfl, rfl, fun _ => by simp only [Rep]⟩
  · cases e) ha hb
theorem rd_sum : RD k (fun x y H Q => (rCatR k.K x y H Q) ∨ ((rI0 fun i j => .int (i + j)) x y H Q ∨ ∃ i j, x = .str i ∧ y = .str j ∧ i.length + j.length ≤ sizeLine ∧ Q (.str (i ++ j)) H)) sumD := fun B H x y d v u Q hs rx ry e q => by
  unfold sumD at e
  split at e
  · rename_i xs ys
    split at e
    · rename_i hl
      cases e
      simp only [Rep] at rx ry
      obtain ⟨p, vs, rfl, h1, h2⟩ := rx
      obtain ⟨p', us, rfl, h3, h4⟩ := ry
      refine .inl ⟨p, p', vs, us, rfl, rfl, sqR hs h1, sqR hs h3, by rw [← h2.length, ← h4.length]; exact sl16 hl, fun q1 hq => q _ _ _ (.new .refl hq) ?_⟩
      simp only [Rep]
      exact ⟨q1, vs ++ us, rfl, .of upd_same, (h2.append h4).mono (same_new hs hq)⟩
    · cases e
  · exact .inr (rd_add B H x y d v u Q hs rx ry e q)
theorem e_sum (hk : X.K = k.K) (ha : PE X a (tE k fa)) (hb : PE X b (tE k fb)) : PE X (.BinOp a .Add b pos) (tE k (binE sumD fa fb)) := e_op ((hk ▸ op_catR : OpR X (binaryOp .Add) (rCatR k.K)).or (op_add.or op_add_str)) rd_sum ha hb
theorem e_ix (hk : X.K = k.K) (ha : PE X a (tE k fa)) (hb : PE X b (tE k fb)) (hs : PlainIx b := by exact fun _ _ => rfl) : PE X (.Subscript a b pos) (tE k (binE ixD fa fb)) :=
  pe_imp (pe_ix (hk ▸ ix_seq) ha hb hs) fun _ _ _ h => opE_read rd_ix h
theorem isNE_read {neg : Bool} {σ : L2.St} {H : Hp} {Q : VK} (h : tE k (isNE fa neg) σ H Q) : tE k fa σ H fun x H1 => Q (.bl (if neg then !decide (x = .non) else decide (x = .non))) H1 := by
  obtain ⟨G, B, w, env, d, e2, S, h, q⟩ := h
  cases e : fa env with
  | none => simp [isNE, e] at h
  | some x =>
    obtain ⟨x, e3⟩ := x
    have h' : d = .bl (if (match x with | .non => true | _ => false) then !neg else neg) ∧ e3 = e2 := by
      cases x <;> simp [isNE, e] at h <;> exact ⟨by rw [← h.1]; rfl, h.2⟩
    obtain ⟨rfl, rfl⟩ := h'
    refine ⟨G, B, w, env, x, e3, S, e, fun v B' H' w' S' m r => q _ B' H' w' S' m ?_⟩
    have z := rep_non r
    simp only [Rep]
    cases x <;> cases neg <;> simp [z]
theorem e_isN {j pos'} (ha : PE X a (tE k fa)) : PE X (.Compare a [.Is] [.Constant .none j pos'] pos) (tE k (isNE fa false)) := pe_imp (pe_cmp (pc_isN ha)) fun _ _ _ h => by have z := isNE_read h; simp only [Bool.false_eq_true, if_false] at z; exact z
theorem e_isNN {j pos'} (ha : PE X a (tE k fa)) : PE X (.Compare a [.IsNot] [.Constant .none j pos'] pos) (tE k (isNE fa true)) := pe_imp (pe_cmp (pc_notN ha)) fun _ _ _ h => by have z := isNE_read h; simp only [if_true] at z; exact z
theorem te_not (ha : PT X a (tTE k ga)) : PT X (.UnaryOp .Not a pos) (tTE k (notE ga)) := pt_imp (pt_not ha) fun σ H Q ⟨G, B, w, env, d, e2, S, h, q⟩ => by
  unfold notE at h
  split at h
  · cases h
  · rename_i b' e3 e1
    cases h
    exact ⟨G, B, w, _, _, _, S, e1, q⟩
theorem andE_read {σ : L2.St} {H : Hp} {Q : Bool → Hp → Prop} (h : tTE k (andE ga gb) σ H Q) : tTE k ga σ H fun c H1 => if c = true then tTE k gb σ H1 Q else Q false H1 := by
  obtain ⟨G, B, w, env, d, e2, S, h, q⟩ := h
  unfold andE at h
  split at h
  · cases h
  · rename_i e3 e1
    exact ⟨G, B, w, _, _, _, S, e1, fun B' H' w' S' m => iteT ⟨G, B', w', _, d, e2, S', h, fun B2 H2 w2 S2 m2 => q B2 H2 w2 S2 (m.trans m2)⟩⟩
  · rename_i e3 e1
    cases h
    exact ⟨G, B, w, _, _, _, S, e1, fun B' H' w' S' m => iteF (q B' H' w' S' m)⟩
theorem orE_read {σ : L2.St} {H : Hp} {Q : Bool → Hp → Prop} (h : tTE k (orE ga gb) σ H Q) : tTE k ga σ H fun c H1 => if c = true then Q true H1 else tTE k gb σ H1 Q := by
  obtain ⟨G, B, w, env, d, e2, S, h, q⟩ := h
  unfold orE at h
  split at h
  · cases h
  · rename_i e3 e1
    cases h
    exact ⟨G, B, w, _, _, _, S, e1, fun B' H' w' S' m => iteT (q B' H' w' S' m)⟩
  · rename_i e3 e1
    exact ⟨G, B, w, _, _, _, S, e1, fun B' H' w' S' m => iteF ⟨G, B', w', _, d, e2, S', h, fun B2 H2 w2 S2 m2 => q B2 H2 w2 S2 (m.trans m2)⟩⟩
theorem we_and1 (ha : PT X a (tTE k ga)) : PW X (.BoolOp .And [a] pos) (tTE k ga) := pw_and1 ha
theorem we_or1 (ha : PT X a (tTE k ga)) : PW X (.BoolOp .Or [a] pos) (tTE k ga) := pw_or1 ha
theorem we_and (ha : PT X a (tTE k ga)) (hb : PW X (.BoolOp .And (b :: rest) pos) (tTE k gb)) : PW X (.BoolOp .And (a :: b :: rest) pos) (tTE k (andE ga gb)) := pw_imp (pw_and ha hb) fun _ _ _ h => andE_read h
theorem we_or (ha : PT X a (tTE k ga)) (hb : PW X (.BoolOp .Or (b :: rest) pos) (tTE k gb)) : PW X (.BoolOp .Or (a :: b :: rest) pos) (tTE k (orE ga gb)) := pw_imp (pw_or ha hb) fun _ _ _ h => orE_read h
/-- bools as values -/
theorem ve_one {op} (h : PE X a (tE k (bvE ga))) : PE X (.BoolOp op [a] pos) (tE k (bvE ga)) := pe_one h
theorem bvE_read {f : GB} {σ : L2.St} {H : Hp} {Q : VK} (h : tE k (bvE f) σ H Q) : tTE k f σ H fun b H1 => Q (.bl b) H1 := by
  obtain ⟨G, B, w, env, d, e2, S, h, q⟩ := h
  unfold bvE at h
  split at h
  · cases h
  · rename_i b' e3 e1
    cases h
    exact ⟨G, B, w, _, _, _, S, e1, fun B' H' w' S' m => q _ B' H' w' S' m (by simp only [Rep])⟩
theorem bvE_of {f : GB} {σ : L2.St} {H : Hp} {Q : VK} (h : tTE k f σ H fun b H1 => Q (.bl b) H1) : tE k (bvE f) σ H Q := by
  obtain ⟨G, B, w, env, d, e2, S, h, q⟩ := h
  refine ⟨G, B, w, env, .bl d, e2, S, by simp [bvE, h], fun v B' H' w' S' m r => ?_⟩
  simp only [Rep] at r
  subst r
  exact q B' H' w' S' m
theorem ve_and (ha : PE X a (tE k (bvE ga))) (hb : PE X (.BoolOp .And (b :: rest) pos) (tE k (bvE gb))) : PE X (.BoolOp .And (a :: b :: rest) pos) (tE k (bvE (andE ga gb))) :=
  pe_imp (pe_and ha hb) fun σ H Q h => by
    have q := andE_read (bvE_read h)
    obtain ⟨G, B, w, env, d, e2, S, h, q⟩ := q
    refine ⟨G, B, w, env, .bl d, e2, S, by simp [bvE, h], fun v B' H' w' S' m r => ?_⟩
    simp only [Rep] at r
    refine ⟨d, r, ?_⟩
    have z := q B' H' w' S' m
    cases d with
    | true => exact iteT (bvE_of (by simpa using z))
    | false => exact iteF (by simpa using z)
theorem ve_or (ha : PE X a (tE k (bvE ga))) (hb : PE X (.BoolOp .Or (b :: rest) pos) (tE k (bvE gb))) : PE X (.BoolOp .Or (a :: b :: rest) pos) (tE k (bvE (orE ga gb))) :=
  pe_imp (pe_or ha hb) fun σ H Q h => by
    have q := orE_read (bvE_read h)
    obtain ⟨G, B, w, env, d, e2, S, h, q⟩ := q
    refine ⟨G, B, w, env, .bl d, e2, S, by simp [bvE, h], fun v B' H' w' S' m r => ?_⟩
    simp only [Rep] at r
    refine ⟨d, r, ?_⟩
    have z := q B' H' w' S' m
    cases d with
    | true => exact iteT (by simpa using z)
    | false => exact iteF (bvE_of (by simpa using z))
theorem ve_not (ha : PE X a (tE k (bvE ga))) : PE X (.UnaryOp .Not a pos) (tE k (bvE (notE ga))) :=
  pe_imp (pe_not ha) fun σ H Q h => by
    obtain ⟨G, B, w, env, d, e2, S, h, q⟩ := bvE_read h
    unfold notE at h
    split at h
    · cases h
    · rename_i b' e3 e1
      cases h
      refine ⟨G, B, w, env, .bl b', e2, S, by simp [bvE, e1], fun v B' H' w' S' m r => ?_⟩
      simp only [Rep] at r
      exact ⟨b', r, q B' H' w' S' m⟩
theorem ve_val (h : PE X a (tE k fa)) : PE X a (tE k (bvE (tstE fa))) := pe_imp h fun σ H Q ⟨G, B, w, env, d, e2, S, h, q⟩ => by
  unfold bvE at h
  split at h
  · cases h
  · rename_i b' e3 e1
    cases h
    unfold tstE at e1
    split at e1
    · rename_i b2 e4 e5
      cases e1
      exact ⟨G, B, w, _, _, _, S, e5, q⟩
    · cases e1
theorem ea_nil : PA X [] (tAE k nilE) := pa_imp pa_nil fun σ H Q ⟨G, B, w, env, d, e2, S, h, q⟩ => by
  cases h
  exact q [] B H w S (.refl _) .nil
theorem consE_some {f : GD} {g : GA} {env e2 : List OT} {ds : List Dat} (h : consE f g env = some (ds, e2)) : ∃ x e1 xs, f env = some (x, e1) ∧ g e1 = some (xs, e2) ∧ ds = x :: xs := by
  unfold consE at h
  split at h
  · cases h
  · rename_i x e1 h1
    split at h
    · cases h
    · rename_i xs e3 h2
      cases h
      exact ⟨x, e1, xs, h1, h2, rfl⟩
theorem ea_cons (ha : PE X e (tE k fa)) (hr : PA X es (tAE k fs)) (hs : starEach (e :: es) X.env = (false, eval e X.env) :: starEach es X.env := by rfl) : PA X (e :: es) (tAE k (consE fa fs)) :=
  pa_imp (pa_cons ha hr hs) fun σ H Q ⟨G, B, w, env, d, e2, S, h, q⟩ => by
    obtain ⟨x, e1, xs, hx, hxs, rfl⟩ := consE_some h
    exact ⟨G, B, w, env, x, e1, S, hx, fun v B1 H1 w1 S1 m1 r1 => ⟨G, B1, w1, e1, xs, e2, S1, hxs, fun vs B2 H2 w2 S2 m2 r2 => q _ B2 H2 w2 S2 (m1.trans m2) (.cons (r1.mono m2) r2)⟩⟩
/-- displays -/
@[simp] def tupE (fs : GA) : GD := fun e => match fs e with
  | none => none
  | some (ds, e2) => if ds.length ≤ 16000000 then some (.tup ds, e2) else none
@[simp] def lstE (fs : GA) : List OT → Option (OT × List OT) := fun e => match fs e with
  | none => none
  | some (ds, e2) => if ds.length ≤ 16000000 then some (.lst (ds.map .sh), e2) else none
theorem e_tup {x1} (h : PA X es (tAE k fs)) : PE X (.Tuple es x1 pos) (tE k (tupE fs)) := pe_imp (pe_tup h) fun σ H Q ⟨G, B, w, env, d, e2, S, h, q⟩ => by
  unfold tupE at h
  split at h
  · cases h
  · rename_i ds e3 e1
    split at h
    · rename_i hl
      cases h
      refine ⟨G, B, w, env, ds, _, S, e1, fun vs B1 H1 w1 S1 m r => ⟨by rw [← r.length]; exact sl16 hl, fun p hp => ?_⟩⟩
      refine q _ _ _ w1 (S1.new hp) (m.trans (same_new S1.bh hp)) ?_
      simp only [Rep]
      exact ⟨p, vs, rfl, .of upd_same, r.mono (same_new S1.bh hp)⟩
    · cases h
theorem g_lstE (h : PA X es (tAE k fs)) : PE X (.List es pos) (tG k (lstE fs)) := pe_imp (pe_lst h) fun σ H Q ⟨G, B, w, env, d, e2, S, h, q⟩ => by
  unfold lstE at h
  split at h
  · cases h
  · rename_i ds e3 e1
    split at h
    · rename_i hl
      cases h
      refine ⟨G, B, w, env, ds, _, S, e1, fun vs B1 H1 w1 S1 m r => ⟨by rw [← r.length]; exact sl16 hl, fun p hp => ?_⟩⟩
      obtain ⟨S2, r2⟩ := lst_new S1 hp r
      exact q _ _ _ _ _ S2 r2 m
    · cases h
/-- calls of defs without anything lent, built-ins -/
@[simp] def callE (n : Nat) (f : List Dat → Option OT) (fs : GA) : List OT → Option (OT × List OT) := fun e => match fs e with
  | none => none
  | some (ds, e2) => if ds.length = n then match f ds with
      | none => none
      | some o => some (o, e2)
    else none
theorem g_callE {j n : Nat} {x : Str} {f : List Dat → Option OT} (F : Fn X.prog X.w X.K X.mg X.base k j x n f) (hr : Room j X.A) (ha : PA X (e :: es) (tAE k fs)) (hg : Gl X x := by rfl) (hdb : (x == ("__debug__" : Str)) = false := by decide) (he : starEach (e :: es) X.env = (false, eval e X.env) :: starEach es X.env := by rfl) (hpl : (backTo pos (starEach es X.env)).any (·.1) = false := by rfl) :
    PE X (.Call (.Name x p0) (e :: es) [] pos) (tG k (callE n f fs)) := by
  obtain ⟨fa, fd, ps, dvs, dus, dds, m, f0, FF, hm, hk, hb, hv, hdd, hnm, hff⟩ := F.ex
  refine pe_imp (pe_call FF hr hg hm hk hb hv (E := fun _ _ _ => False) pass0 ha hdb he hpl) fun σ H Q ⟨G, B, w, env, o, e2, S, h, q⟩ => ?_
  unfold callE at h
  split at h
  · cases h
  · rename_i ds e3 e1
    split at h
    · rename_i hl
      split at h
      · cases h
      · rename_i o' h4
        cases h
        refine ⟨G, B, w, env, ds, _, S, e1, fun vs B1 H1 w1 S1 m1 r1 => ?_⟩
        exact call_core hdd hnm hl (by rw [← hff ds hl]; exact h4) S1 r1 fun v B' H' w3 S2 T m2 => q v B' H' w1 w3 S2 T (m1.trans m2.1)
    · cases h
@[simp] def calE (g : List Dat → Option Dat) (fs : GA) : GD := fun e => match fs e with
  | none => none
  | some (ds, e2) => match g ds with
    | none => none
    | some d => some (d, e2)
theorem calE_read {r : List V → Hp → VK → Prop} {g : List Dat → Option Dat} (hr : RC k r g) {σ : L2.St} {H : Hp} {Q : VK} (h : tE k (calE g fs) σ H Q) : tCB r (tAE k fs) σ H Q := by
  obtain ⟨G, B, w, env, d, e2, S, h, q⟩ := h
  unfold calE at h
  split at h
  · cases h
  · rename_i ds e3 e1
    split at h
    · cases h
    · rename_i d' h2
      cases h
      exact ⟨G, B, w, env, ds, _, S, e1, fun vs B1 H1 w1 S1 m r1 => hr B1 H1 ds d vs Q S1.bh r1 h2 fun v' B' H' gr r3 => q v' B' H' w1 (S1.grow gr) (m.trans (gr.all S1.bh).2.1) r3⟩
theorem e_len (hk : X.K = k.K) (hm : X.mg "len" = none) (ha : PA X [e] (tAE k fs)) (hg : Gl X "len" := by rfl) (he : starEach [e] X.env = (false, eval e X.env) :: starEach [] X.env := by rfl) (hpl : (backTo pos (starEach [] X.env)).any (·.1) = false := by rfl) : PE X (.Call (.Name "len" p0) [e] [] pos) (tE k (calE lenD fs)) :=
  pe_imp (pe_callB (hk ▸ call_len) hg hm boot_len ha (by decide) (by decide) he hpl) fun _ _ _ h => calE_read rc_len h
@[simp] def calFE (g : List Dat → Option (List Dat)) (fs : GA) : List OT → Option (OT × List OT) := fun e => match fs e with
  | none => none
  | some (ds, e2) => match g ds with
    | none => none
    | some r => some (.lst (r.map .sh), e2)
theorem g_list (hk : X.K = k.K) (hm : X.mg "list" = none) (ha : PA X [e] (tAE k fs)) (hg : Gl X "list" := by rfl) (he : starEach [e] X.env = (false, eval e X.env) :: starEach [] X.env := by rfl) (hpl : (backTo pos (starEach [] X.env)).any (·.1) = false := by rfl) : PE X (.Call (.Name "list" p0) [e] [] pos) (tG k (calFE listL fs)) :=
  pe_imp (pe_callTy (hk ▸ call_list_of) hg hm (by decide +kernel) ha (by decide) (by decide) he hpl) fun σ H Q ⟨G, B, w, env, d, e2, S, h, q⟩ => by
    unfold calFE at h
    split at h
    · cases h
    · rename_i ds e3 e1
      split at h
      · cases h
      · rename_i rs h2
        cases h
        refine ⟨G, B, w, env, ds, _, S, e1, fun vs B1 H1 w1 S1 m r1 => rcf_list B1 H1 ds rs vs Q S1.bh r1 h2 fun p us hp r3 => ?_⟩
        obtain ⟨S2, T2⟩ := lst_new S1 hp r3
        exact q _ _ _ _ _ S2 T2 m
/-! ### statements -/
@[simp] def ifE (c : GB) (g h : List OT → Option Out) : List OT → Option Out := fun e => match c e with
  | none => none
  | some (true, e2) => g e2
  | some (false, e2) => h e2
theorem s_ifE {c : Expr} {s1 s2 : List Stmt} {fc : GB} {g h : List OT → Option Out} (hc : PT X c (tTE k fc)) (h1 : PSs X s1 (tS k W g)) (h2 : PSs X s2 (tS k W h)) : PS X (.If c s1 s2 pos) (tS k W (ifE fc g h)) :=
  ps_imp (ps_if hc h1 h2) fun D σ H ⟨G, B, w, env, o, S, hh, q⟩ => by
    unfold ifE at hh
    split at hh
    · cases hh
    · rename_i e2 e1
      exact ⟨G, B, w, env, _, _, S, e1, fun B1 H1 w1 S1 m => iteT ⟨G, B1, w1, _, o, S1, hh, q.mono m⟩⟩
    · rename_i e2 e1
      exact ⟨G, B, w, env, _, _, S, e1, fun B1 H1 w1 S1 m => iteF ⟨G, B1, w1, _, o, S1, hh, q.mono m⟩⟩
@[simp] def asgE (f : GD) (st : Dat → List OT → Option (List OT)) : List OT → Option Out := fun e => match f e with
  | none => none
  | some (d, e1) => match st d e1 with
    | none => none
    | some e2 => some (.nx e2)
theorem s_asgE {tg e : Expr} {st : Dat → List OT → Option (List OT)} (he : PE X e (tE k fa)) (hg : PG X tg (gD k st)) (hs : swapsWithSole [tg] e pos.line X.env = pure false := by rfl) (hw : swappedStores [tg] e X.env = pure none := by rfl)
    (h1 : (assignEach [tg] X.env).map (·.2) = [assign tg X.env] := by rfl) : PS X (.Assign [tg] e pos) (tS k W (asgE fa st)) := ps_imp (ps_asg he hg hs hw h1) fun D σ H ⟨G, B, w, env, o, S, h, q⟩ => by
  unfold asgE at h
  split at h
  · cases h
  · rename_i d e1 h1
    split at h
    · cases h
    · rename_i e2 h2
      cases h
      exact ⟨G, B, w, env, d, e1, S, h1, fun v B1 H1 w1 S1 m r => ⟨G, B1, w1, e1, d, e2, S1, r, h2, fun σ' S2 => q _ _ _ _ S2 m⟩⟩
/-- append to a slot's list -/
@[simp] def appE (i : Nat) (f : GD) : List OT → Option Out := fun e => match e[i]? with
  | some (.lst _) => match f e with
    | none => none
    | some (d, e2) => match e2[i]? with
      | some (.lst xs) => if xs.length < 16000000 then some (.nx (e2.set i (.lst (xs ++ [.sh d])))) else none
      | _ => none
  | _ => none
end
end DL
/-! Loops and comprehensions over what is told with changes, or stands at a place. -/
namespace DL
open PySem L2 PySem.Spec PyProof.Rows
/-- what is walked, while all stands -/
structure WkH (k : KC) (J : It) (B H : Hp) (ds : List Dat) : Prop where
  go : ∀ (i : Nat) d B' H', Same B B' → Same B' H' → Same H H' → ds[i]? = some d → J.go i H'
  yld : ∀ (i : Nat) d B' H' x H'', Same B B' → Same B' H' → Same H H' → ds[i]? = some d → J.yld i H' x H'' → ∃ B'', Grow B' H' B'' H'' ∧ Rep k B'' d x
  stop : ∀ B' H', Same B B' → Same B' H' → Same H H' → J.stop ds.length H'
theorem Wk.h {k : KC} {J : It} {B H : Hp} {ds : List Dat} (W : Wk k J B ds) : WkH k J B H ds := ⟨fun i d B' H' m s _ e => W.go i d B' H' m s e, fun i d B' H' x H'' m s _ e y => W.yld i d B' H' x H'' m s e y, fun B' H' m s _ => W.stop B' H' m s⟩
def tIE (k : KC) (f : GA) : TI := fun σ H R => ∃ G B w env ds e2, Sta k G B H w σ env ∧ f env = some (ds, e2) ∧ ∀ J B' H' w', Sta k G B' H' w' σ e2 → Same B B' → Wk k J B' ds → R J H'
/-- .. for comprehensions -/
def tIH (k : KC) (f : GA) : TI := fun σ H R => ∃ G B w env ds e2, Sta k G B H w σ env ∧ f env = some (ds, e2) ∧ ∀ J B' H' w', Sta k G B' H' w' σ e2 → Same B B' → WkH k J B' H' ds → R J H'
@[simp] def lstI (f : GD) : GA := fun e => match f e with
  | some (.lst xs, e2) => some (xs, e2)
  | _ => none
@[simp] def pI (f : List OT → Option (List Dat)) : GA := fun e => match f e with
  | none => none
  | some ds => some (ds, e)
def rng1E (fs : GA) : GA := fun e => match fs e with
  | some ([.int j], e2) => if -(2 ^ 62) ≤ j ∧ j < 2 ^ 62 then some (rngFrom 0 j.toNat, e2) else none
  | _ => none
def rng2E (fs : GA) : GA := fun e => match fs e with
  | some ([.int i, .int j], e2) => if -(2 ^ 62) ≤ i ∧ i < 2 ^ 62 ∧ -(2 ^ 62) ≤ j ∧ j < 2 ^ 62 then some (rngFrom i (j - i).toNat, e2) else none
  | _ => none
def zipE (fs : GA) : GA := fun e => match fs e with
  | some ([.lst xs, .lst ys], e2) => some (xs.zipWith (fun x y => .tup [x, y]) ys, e2)
  | _ => none
/-- the shared items of a list -/
def shs : List OT → Option (List Dat)
  | [] => some []
  | .sh d :: r => match shs r with
    | none => none
    | some ds => some (d :: ds)
  | _ :: _ => none
/-- a place's list -/
@[simp] def plcI (s : Nat) (ps : List OT → Option (List Stp)) : GA := fun e => match plO s ps e with
  | some (.lst xs) => match shs xs with
    | none => none
    | some ds => some (ds, e)
  | some (.sh (.lst ds)) => some (ds, e)
  | _ => none
theorem shs_rep {k : KC} {B H : Hp} {w : WM} {π : List Nat} : ∀ {n : Nat} {xs : List OT} {ds : List Dat} {vs : List V}, shs xs = some ds → OReps k B H w π n xs vs → Reps k B ds vs
  | n, [], ds, vs, h, r => by
    simp only [shs, Option.some.injEq] at h
    subst h
    simpa only [OReps, Reps] using r
  | n, .sh d :: xs, ds, vs, h, r => by
    simp only [shs] at h
    split at h
    · cases h
    · rename_i ds' e
      cases h
      simp only [OReps, ORep] at r
      obtain ⟨v, r0, rfl, h1, h2⟩ := r
      exact .cons h1 (shs_rep e h2)
  | n, .un :: xs, ds, vs, h, r => by simp [shs] at h
  | n, .tup _ :: xs, ds, vs, h, r => by simp [shs] at h
  | n, .lst _ :: xs, ds, vs, h, r => by simp [shs] at h
  | n, .obj _ _ _ :: xs, ds, vs, h, r => by simp [shs] at h
  | n, .dct _ _ :: xs, ds, vs, h, r => by simp [shs] at h
  | n, .lent _ :: xs, ds, vs, h, r => by simp [shs] at h
  | n, .pin :: xs, ds, vs, h, r => by simp [shs] at h
theorem wkh_list {k : KC} {B H : Hp} {p : Addr} {ds : List Dat} {vs : List V} (h : H p = some (.lst vs)) (r : Reps k B ds vs) : WkH k (Itl k.K p) B H ds where
  go := fun i d B' H' m s n e => by
    obtain ⟨v, hv, _⟩ := r.get e
    exact ⟨vs, v, SqL.of (n _ _ h), hv⟩
  yld := fun i d B' H' x H'' m s n e y => by
    obtain ⟨rfl, y⟩ := y
    obtain ⟨v, hv, q⟩ := r.get e
    have z := y vs (SqL.of (n _ _ h))
    rw [hv] at z
    cases z
    exact ⟨B', .refl, q.mono m⟩
  stop := fun B' H' m s n => ⟨vs, SqL.of (n _ _ h), by rw [r.length]; exact Nat.le_refl _⟩
section
variable {k : KC} {W : WX} {X : Cx} {pos p0 : Pos} {a b c e tg iter : Expr} {fa fb fc : GD} {pa pb : List OT → Option Dat} {es : List Expr} {fs : GA} {s : Nat} {ps : List OT → Option (List Stp)}
theorem ie_of {f : List OT → Option (List Dat)} (h : PI X tg iter (tI k f)) : PI X tg iter (tIE k (pI f)) := pi_imp h fun σ H R ⟨G, B, w, env, ds, e2, S, h, q⟩ => by
  unfold pI at h
  split at h
  · cases h
  · rename_i ds' e1
    cases h
    exact ⟨G, B, w, _, ds, S, e1, fun J B' H' S' m W => q J B' H' w S' m.1 W⟩
theorem ih_of (h : PI X tg iter (tIE k fs)) : PI X tg iter (tIH k fs) := pi_imp h fun σ H R ⟨G, B, w, env, ds, e2, S, h, q⟩ => ⟨G, B, w, env, ds, e2, S, h, fun J B' H' w' S' m W => q J B' H' w' S' m W.h⟩
theorem ie_list (hk : X.K = k.K) (ha : PE X a (tE k fa)) : PI X tg a (tIE k (lstI fa)) := pi_imp (pi_list ha) fun σ H R ⟨G, B, w, env, ds, e2, S, h, q⟩ => by
  unfold lstI at h
  split at h
  · rename_i xs e3 e1
    cases h
    refine ⟨G, B, w, env, _, _, S, e1, fun v B1 H1 w1 S1 m1 r1 => ?_⟩
    simp only [Rep] at r1
    obtain ⟨p, vs, rfl, h1, h2⟩ := r1
    exact ⟨p, rfl, ⟨vs, hk ▸ sqR S1.bh h1⟩, q _ B1 H1 w1 S1 m1 (hk ▸ wk_list h1 h2)⟩
  · cases h
theorem ih_plc (hk : X.K = k.K) (ha : PE X a (tP k s ps)) : PI X tg a (tIH k (plcI s ps)) := pi_imp (pi_list ha) fun σ H R ⟨G, B, w, env, ds, e2, S, h, q⟩ => by
  unfold plcI at h
  split at h
  · rename_i xs e1
    split at h
    · cases h
    · rename_i ds' h2
      cases h
      obtain ⟨l, o0, h3, h4, h5, h6⟩ := plO_some e1
      refine ⟨G, B, w, _, l, o0, _, S, h3, h4, h5, h6, fun v u B1 H1 S1 m1 hv P => ?_⟩
      obtain ⟨ρ, r, _⟩ := P
      obtain ⟨p, rfl⟩ := lst_ref r
      obtain ⟨_, vs, hp, rr⟩ := lst_root r
      exact ⟨p, rfl, ⟨vs, SqL.of hp⟩, q _ B1 H1 w S1 m1.1 (hk ▸ wkh_list hp (shs_rep h2 rr))⟩
  · rename_i ds' e1
    cases h
    obtain ⟨l, o0, h3, h4, h5, h6⟩ := plO_some e1
    refine ⟨G, B, w, _, l, o0, _, S, h3, h4, h5, h6, fun v u B1 H1 S1 m1 hv P => ?_⟩
    obtain ⟨ρ, r, _⟩ := P
    simp only [ORep, Rep] at r
    obtain ⟨p, vs, rfl, h1, h2⟩ := r
    exact ⟨p, rfl, ⟨vs, hk ▸ sqR S1.bh h1⟩, q _ B1 H1 w S1 m1.1 (hk ▸ (wk_list h1 h2).h)⟩
  · cases h
theorem ie_rng1 {p : Pos} (hm : X.mg "range" = none) (ha : PA X [a] (tAE k fs)) (hg : Gl X "range" := by rfl) (hs : starEach [a] X.env = [(false, eval a X.env)] := by rfl) : PI X tg (.Call (.Name "range" p) [a] [] pos) (tIE k (rng1E fs)) :=
  pi_imp (pi_range1 hg hm ha hs) fun σ H R ⟨G, B, w, env, ds, e2, S, h, q⟩ => by
    unfold rng1E at h
    split at h
    · rename_i j e3 e1
      split at h
      · rename_i hj
        cases h
        refine ⟨G, B, w, env, _, _, S, e1, fun vs B1 H1 w1 S1 m1 r1 => ?_⟩
        obtain ⟨v, rfl, rv⟩ := reps1 r1
        simp only [Rep] at rv
        subst rv
        exact ⟨j, rfl, hj.1, hj.2, q _ B1 H1 w1 S1 m1 wk_rng⟩
      · cases h
    · cases h
theorem ie_rng2 {p : Pos} (hm : X.mg "range" = none) (ha : PA X [a, b] (tAE k fs)) (hg : Gl X "range" := by rfl) (hs : starEach [a, b] X.env = [(false, eval a X.env), (false, eval b X.env)] := by rfl) (hs2 : starEach [b] X.env = [(false, eval b X.env)] := by rfl) : PI X tg (.Call (.Name "range" p) [a, b] [] pos) (tIE k (rng2E fs)) :=
  pi_imp (pi_range2 hg hm ha hs hs2) fun σ H R ⟨G, B, w, env, ds, e2, S, h, q⟩ => by
    unfold rng2E at h
    split at h
    · rename_i i j e3 e1
      split at h
      · rename_i hj
        cases h
        refine ⟨G, B, w, env, _, _, S, e1, fun vs B1 H1 w1 S1 m1 r1 => ?_⟩
        obtain ⟨v, u, rfl, rv, ru⟩ := reps2 r1
        simp only [Rep] at rv ru
        subst rv ru
        exact ⟨i, j, rfl, hj, q _ B1 H1 w1 S1 m1 wk_rng⟩
      · cases h
    · cases h
theorem ie_zip {p tpos : Pos} {elts : List Expr} {kk : Nat} (hk : X.K = k.K) (hm : X.mg "zip" = none) (ha : PA X [a, b] (tAE k fs)) (hg : Gl X "zip" := by rfl)
    (hs : starEach [a, b] X.env = (false, eval a X.env) :: starEach [b] X.env := by rfl) (hpl : (backTo pos (starEach [b] X.env)).any (·.1) = false := by rfl) : PI X (.Tuple elts kk tpos) (.Call (.Name "zip" p) [a, b] [] pos) (tIE k (zipE fs)) :=
  pi_imp (pi_zip hg hm ha hs hpl) fun σ H R ⟨G, B, w, env, ds, e2, S, h, q⟩ => by
    unfold zipE at h
    split at h
    · rename_i xs ys e3 e1
      cases h
      refine ⟨G, B, w, env, _, _, S, e1, fun vs B1 H1 w1 S1 m1 r1 => ?_⟩
      obtain ⟨v, u, rfl, rv, ru⟩ := reps2 r1
      simp only [Rep] at rv ru
      obtain ⟨p, vs, rfl, h1, h2⟩ := rv
      obtain ⟨p', us, rfl, h3, h4⟩ := ru
      exact ⟨p, p', vs, us, rfl, hk ▸ sqR S1.bh h1, hk ▸ sqR S1.bh h3, q _ B1 H1 w1 S1 m1 (hk ▸ wk_zip h1 h2 h3 h4)⟩
    · cases h
/-! ### loops -/
/-- the loop's own part -/
theorem loop_core {G : Gh} {B1 H1 : Hp} {w1 : WM} {σ : L2.St} {env : List OT} {J : It} {ds : List Dat} {st : Dat → List OT → Option (List OT)} {g : List OT → Option Out} {o : Out} {D : Ends} {tgG : TG} {tb : TS}
    (Wf : ∀ (i : Nat) (σ' : L2.St) (B' H' : Hp) (w' : WM) (e' : List OT), Sta k G B' H' w' σ' e' → Same B1 B' → (i < ds.length → J.go i H' ∧ ∀ x H'', J.yld i H' x H'' → ∃ B'', Grow B' H' B'' H'' ∧ ∃ d, ds[i]? = some d ∧ Rep k B'' d x) ∧ J.stop ds.length H')
    (S1 : Sta k G B1 H1 w1 σ env) (h : loopS st g ds env = some o) (q : OutK k W G B1 D o) :
    ∃ Wv : Nat → Nat → L2.St → Hp → Prop, (∃ m, Wv 0 m σ H1) ∧ ∀ i n σ' H', Wv i n σ' H' → (J.stop i H' ∧ D.nx σ' H') ∨ (J.go i H' ∧ ∃ Nx : L2.St → Hp → Prop, (∀ σ2 H2, Nx σ2 H2 → ∃ m', m' < n ∧ Wv (i + 1) m' σ2 H2) ∧
      ∀ x H2, J.yld i H' x H2 → gD k st x σ' H2 fun σ3 H3 => tS k W g { D with nx := Nx, bk := D.nx, ct := Nx } σ3 H3) := by
  refine ⟨fun i n σ' H' => n = ds.length - i ∧ i ≤ ds.length ∧ ∃ B' w' env', Sta k G B' H' w' σ' env' ∧ Same B1 B' ∧ loopS st g (ds.drop i) env' = some o, ⟨ds.length, by simp, Nat.zero_le _, B1, w1, env, S1, .refl _, h⟩, ?_⟩
  rintro i n σ' H' ⟨rfl, hi, B', w', env', S', m', hl⟩
  have wf := Wf i σ' B' H' w' env' S' m'
  by_cases hlt : i < ds.length
  · have hd : ds[i]? = some ds[i] := by simp [hlt]
    rw [List.drop_eq_getElem_cons hlt] at hl
    simp only [loopS] at hl
    cases e1 : st ds[i] env' with
    | none => simp [e1] at hl
    | some env1 =>
      simp only [e1] at hl
      refine .inr ⟨(wf.1 hlt).1, fun σ2 H2 => ∃ B2 w2 env2, Sta k G B2 H2 w2 σ2 env2 ∧ Same B1 B2 ∧ loopS st g (ds.drop (i + 1)) env2 = some o, fun σ2 H2 z => ⟨ds.length - (i + 1), by omega, rfl, by omega, z⟩, fun x H2 y => ?_⟩
      obtain ⟨B2, gr, d', hd', r⟩ := (wf.1 hlt).2 x H2 y
      rw [hd] at hd'
      cases hd'
      have S2 := S'.grow gr
      have m2 := (gr.all S'.bh).2.1
      refine ⟨G, B2, w', env', ds[i], env1, S2, r, e1, fun σ3 S3 => ?_⟩
      cases e2 : g env1 with
      | none => simp [e2] at hl
      | some out =>
        refine ⟨G, B2, w', env1, out, S3, e2, ?_⟩
        simp only [e2] at hl
        cases out with
        | nx e3 => exact fun σ4 B4 H4 w4 S4 m4 => ⟨B4, w4, e3, S4, (m'.trans m2).trans m4, hl⟩
        | ct e3 => exact fun σ4 B4 H4 w4 S4 m4 => ⟨B4, w4, e3, S4, (m'.trans m2).trans m4, hl⟩
        | bk e3 =>
          cases hl
          exact fun σ4 B4 H4 w4 S4 m4 => q σ4 B4 H4 w4 S4 ((m'.trans m2).trans m4)
        | rt o3 e3 =>
          cases hl
          exact fun v σ4 B4 H4 w4 w5 S4 T4 m4 => q v σ4 B4 H4 w4 w5 S4 T4 ((m'.trans m2).trans m4)
        | ex c3 n3 x3 e3 =>
          cases hl
          exact fun cls d σ4 B4 H4 w4 S4 m4 r4 => q cls d σ4 B4 H4 w4 S4 ((m'.trans m2).trans m4) r4
  · have ei : i = ds.length := by omega
    subst ei
    rw [List.drop_length] at hl
    simp only [loopS] at hl
    cases hl
    exact .inl ⟨wf.2, q σ' B' H' w' S' m'⟩
@[simp] def forE (src : GA) (st : Dat → List OT → Option (List OT)) (body : List OT → Option Out) : List OT → Option Out := fun e => match src e with
  | none => none
  | some (ds, e2) => loopS st body ds e2
theorem s_forE {iter tg : Expr} {body : List Stmt} {src : GA} {st : Dat → List OT → Option (List OT)} {g : List OT → Option Out} (hp : PassesOwn (model X.prog X.w) X.A X.env X.xe) (hc : X.calm = true) (hi : PI X tg iter (tIE k src)) (hg : PG X tg (gD k st)) (hb : PSs X body (tS k W g))
    (hs : ∀ x, foldedSetIterable iter X.env x = pure x := by intro _; rfl) : PS X (.For tg iter body [] pos) (tS k W (forE src st g)) :=
  ps_imp (ps_for hp hc hi hg hb hs) fun D σ H ⟨G, B, w, env, o, S, h, q⟩ => by
    unfold forE at h
    split at h
    · cases h
    · rename_i ds e2 e1
      refine ⟨G, B, w, env, ds, e2, S, e1, fun J B1 H1 w1 S1 m W1 => ?_⟩
      exact loop_core (tgG := gD k st) (tb := tS k W g) (fun i σ' B' H' w' e' S' m' => ⟨fun hlt => ⟨W1.go i _ B' H' m' S'.bh (List.getElem?_eq_getElem hlt), fun x H'' y => by
        obtain ⟨B2, gr, r⟩ := W1.yld i _ B' H' x H'' m' S'.bh (List.getElem?_eq_getElem hlt) y
        exact ⟨B2, gr, _, List.getElem?_eq_getElem hlt, r⟩⟩, W1.stop B' H' m' S'.bh⟩) S1 h (q.mono m)
end
end DL
namespace DL
open PySem L2 PySem.Spec PyProof.Rows
/-! ### comprehensions -/
def lcE (src : GA) (own : List Nat) (st : Dat → List OT → Option (List OT)) (test : List OT → Option Bool) (elt : List OT → Option Dat) : List OT → Option (OT × List OT) := fun e => match src e with
  | none => none
  | some (ds, e2) => if ds.length < 16000000 then match lcGo st test elt (wipeE e2 own) ds with
    | none => none
    | some ys => some (.lst (ys.map .sh), e2)
    else none
section
variable {k : KC} {W : WX} {X : Cx} {pos p0 : Pos} {a b c e : Expr} {fa fb fc : GD} {pa pb : List OT → Option Dat} {es : List Expr} {fs : GA} {src : GA} {g : TG} {st : Dat → List OT → Option (List OT)} {test : List OT → Option Bool} {elt : List OT → Option Dat}
theorem lcE_read {vs : List Nat} (hw : Within k g st vs) {σ : L2.St} {H : Hp} {Q : VK} (h : tG k (lcE src vs st test elt) σ H Q) : tLc (tIH k src) g (tT k test) (tD k elt) vs σ H Q := by
  obtain ⟨G, B, w0, env0, o, env, S, h, q⟩ := h
  unfold lcE at h
  split at h
  · cases h
  · rename_i ds env' e
    split at h
    · rename_i hsz
      cases e2 : lcGo st test elt (wipeE env' vs) ds with
      | none => simp [e2] at h
      | some ys =>
        simp only [e2] at h
        cases h
        refine ⟨G, B, w0, env0, ds, _, S, e, fun J B1 H1 w S1 m W D hD => ?_⟩
        have nD := S1.nob hD
        have S0 : Sta k G B1 (upd H1 D (.lst [])) (wPh w D) (wipe σ vs) (wipeE env vs) := (S1.wipe vs).phan hD
        refine ⟨fun i n H' => n = ds.length - i ∧ i ≤ ds.length ∧ ∃ B' acc us ys', Sta k G B' H' (wPh w D) (wipe σ vs) (wipeE env vs) ∧ Mv B1 H1 B' H' ∧ H' D = some (.lst us) ∧ Reps k B' acc us ∧ acc.length ≤ i ∧ lcGo st test elt (wipeE env vs) (ds.drop i) = some ys' ∧ ys = acc ++ ys',
          ⟨ds.length, by simp, Nat.zero_le _, B1, [], [], ys, S0, ⟨.refl _, same_newH hD⟩, upd_same, .nil, Nat.zero_le _, e2, rfl⟩, ?_⟩
        rintro i n H' ⟨rfl, hi, B', acc, us, ys', S', m', hD', ra, hal, hgo, hys⟩
        by_cases hlt : i < ds.length
        · have hd : ds[i]? = some ds[i] := by simp [hlt]
          rw [List.drop_eq_getElem_cons hlt] at hgo
          simp only [lcGo] at hgo
          cases e3 : st ds[i] (wipeE env vs) with
          | none => simp [e3] at hgo
          | some env1 =>
            simp only [e3] at hgo
            refine .inr ⟨W.go i _ B' _ m'.1 S'.bh m'.2 hd, fun H2 => ∃ B2 acc us ys', Sta k G B2 H2 (wPh w D) (wipe σ vs) (wipeE env vs) ∧ Mv B1 H1 B2 H2 ∧ H2 D = some (.lst us) ∧ Reps k B2 acc us ∧ acc.length ≤ i + 1 ∧ lcGo st test elt (wipeE env vs) (ds.drop (i + 1)) = some ys' ∧ ys = acc ++ ys', fun H2 z => ⟨ds.length - (i + 1), by omega, rfl, by omega, z⟩, fun x H2 y => ?_⟩
            obtain ⟨B2, gr, rx⟩ := W.yld i _ B' _ x H2 m'.1 S'.bh m'.2 hd y
            have S2 := S'.grow gr
            have mg : Mv B' H' B2 H2 := (gr.all S'.bh).2
            refine hw x (wipe σ vs) H2 _ G B2 _ (wipeE env vs) ds[i] env1 S2 rx e3 fun τ S3 hτ => ⟨hτ.trans (wipe_wipe σ vs), ?_⟩
            cases e4 : test env1 with
            | none => simp [e4] at hgo
            | some t =>
              refine ⟨G, B2, _, env1, t, S3, e4, fun B4 H4 S4 m4 => ?_⟩
              have m5 : Mv B' H' B4 H4 := mg.trans m4
              have SB := S'.back S4 m5
              cases t with
              | false =>
                simp only [e4] at hgo
                exact iteF ⟨B4, acc, us, ys', SB, m'.trans m5, m5.2 D _ hD', ra.mono m5.1, by omega, hgo, hys⟩
              | true =>
                simp only [e4] at hgo
                cases e5 : elt env1 with
                | none => simp [e5] at hgo
                | some y1 =>
                  simp only [e5] at hgo
                  cases e6 : lcGo st test elt (wipeE env vs) (ds.drop (i + 1)) with
                  | none => simp [e6] at hgo
                  | some ys2 =>
                    simp only [e6] at hgo
                    cases hgo
                    refine iteT ⟨G, B4, _, env1, y1, S4, e5, fun v B6 H6 S6 m6 r6 => ?_⟩
                    have m7 : Mv B' H' B6 H6 := m5.trans m6
                    have SC := S'.back S6 m7
                    refine ⟨us, m7.2 D _ hD', by rw [← ra.length]; exact sl16' (by omega), B6, acc ++ [y1], us ++ [v], ys2, SC.phUp, ?_, upd_same, (ra.mono m7.1).append (.one r6), by simp; omega, rfl, by rw [hys]; simp⟩
                    refine ⟨(m'.trans m7).1, fun x u hx => ?_⟩
                    rw [upd_ne (ne_of_none hx hD)]
                    exact (m'.trans m7).2 x u hx
        · have ei : i = ds.length := by omega
          subst ei
          rw [List.drop_length] at hgo
          simp only [lcGo] at hgo
          cases hgo
          rw [List.append_nil] at hys
          subst hys
          refine .inl ⟨W.stop B' H' m'.1 S'.bh m'.2, ?_⟩
          have SE := S1.back (S'.unph nD.1) m'
          refine q (.ref D) B' H' w (fun a => if a = D then some [] else none) SE ⟨fun a h => ?_, ?_, rfl⟩ (m.trans m'.1)
          · have e : a = D := by
              by_cases z : a = D
              · exact z
              · simp [z] at h
            subst e
            exact ⟨nD.1, S'.wb a (by simp [wPh]), (by rw [hD']; exact fun z => by cases z), nD.2.2⟩
          · simp only [ORep]
            exact ⟨D, us, rfl, hD', by simp, OReps_sh ra⟩
    · cases h
theorem g_lc {eltE tg iter : Expr} {ifs : List Expr} {scope : Scope} (own : List (Str × Nat)) (hc : X.calm = true) (hN : X.N.Nodup) (hi : PI X tg iter (tIH k src)) (ok : BlkOk X.N X.env.scope scope own)
    (hg : ∀ (s : Shared) (H : Hp) (C : Addr) (cl : List (Str × Addr)) (fp : List Addr), PG (X.blk s H scope (compEnvC scope cl C X.env) fp) tg g) (hw : Within k g st (own.map (·.2))) (ht : ∀ (s : Shared) (H : Hp) (C : Addr) (cl : List (Str × Addr)) (fp : List Addr), PTs (X.blk s H scope (compEnvC scope cl C X.env) fp) ifs (tT k test))
    (he : ∀ (s : Shared) (H : Hp) (C : Addr) (cl : List (Str × Addr)) (fp : List Addr), PE (X.blk s H scope (compEnvC scope cl C X.env) fp) eltE (tD k elt)) (hs : ∀ x, foldedSetIterable iter X.env x = pure x := by intro _; rfl) :
    PE X (.ListComp eltE [⟨tg, iter, ifs, 0⟩] scope pos) (tG k (lcE src (own.map (·.2)) st test elt)) := pe_imp (pe_lc hc hN hi ok hg ht he hs) fun _ _ _ h => lcE_read hw h
theorem setG_read {i : Nat} {f : List OT → Option (OT × List OT)} {D : Ends} {σ : L2.St} {H : Hp} (h : tS k W (setG i f) D σ H) : tG k f σ H fun x H1 => gName i x σ H1 D.nx := by
  obtain ⟨G, B, w, env, o, S, h, q⟩ := h
  unfold setG at h
  split at h
  · cases h
  · rename_i o' e' e1
    split at h
    · rename_i hl
      cases h
      exact ⟨G, B, w, env, o', e', S, e1, fun v B' H' w' w1 S' T m => q _ _ _ _ (S'.setO T hl) m⟩
    · cases h
/-- name = [..] -/
theorem s_setLcG (i : Nat) {y : Str} {py spos : Pos} {eltE tg iter : Expr} {ifs : List Expr} {scope : Scope} (own : List (Str × Nat)) (hc : X.calm = true) (hN : X.N.Nodup)
    (hsw : swapsWith (.ListComp eltE [⟨tg, iter, ifs, 0⟩] scope pos) (some (.Name y py)) spos.line X.env = pure true) (hi : PI X tg iter (tIH k src)) (ok : BlkOk X.N X.env.scope scope own)
    (hg : ∀ (s : Shared) (H : Hp) (C : Addr) (cl : List (Str × Addr)) (fp : List Addr), PG (X.blk s H scope (compEnvC scope cl C X.env) fp) tg g) (hw : Within k g st (own.map (·.2))) (ht : ∀ (s : Shared) (H : Hp) (C : Addr) (cl : List (Str × Addr)) (fp : List Addr), PTs (X.blk s H scope (compEnvC scope cl C X.env) fp) ifs (tT k test))
    (he : ∀ (s : Shared) (H : Hp) (C : Addr) (cl : List (Str × Addr)) (fp : List Addr), PE (X.blk s H scope (compEnvC scope cl C X.env) fp) eltE (tD k elt)) (hy : X.N[i]? = some y := by rfl) (hyl : X.env.scope.names.lookup y = some .local := by rfl) (hs : ∀ x, foldedSetIterable iter X.env x = pure x := by intro _; rfl) :
    PS X (.Assign [.Name y py] (.ListComp eltE [⟨tg, iter, ifs, 0⟩] scope pos) spos) (tS k W (setG i (lcE src (own.map (·.2)) st test elt))) := ps_imp (ps_setLc hc hN hy hyl hsw hi ok hg ht he hs) fun D σ H h => by
  have z := setG_read h
  show tLc _ _ _ _ _ σ H _
  exact lcE_read hw z
/-! ### a loop over a place's own list: the slot is laid aside meanwhile -/
def unpinO (s : Nat) (o0 : OT) : Option Out → Option Out
  | some (.nx e) => match e[s]? with
    | some .pin => some (.nx (e.set s o0))
    | _ => none
  | some (.bk e) => match e[s]? with
    | some .pin => some (.bk (e.set s o0))
    | _ => none
  | some (.ct e) => match e[s]? with
    | some .pin => some (.ct (e.set s o0))
    | _ => none
  | some (.rt o e) => match e[s]? with
    | some .pin => some (.rt o (e.set s o0))
    | _ => none
  | some (.ex c ns xs e) => match e[s]? with
    | some .pin => some (.ex c ns xs (e.set s o0))
    | _ => none
  | none => none
@[simp] def forP (s : Nat) (ps : List OT → Option (List Stp)) (st : Dat → List OT → Option (List OT)) (body : List OT → Option Out) : List OT → Option Out := fun e => match plO s ps e with
  | some (.lst xs) => match shs xs with
    | none => none
    | some ds => match e[s]? with
      | none => none
      | some o0 => unpinO s o0 (loopS st body ds (e.set s .pin))
  | some (.sh (.lst ds)) => loopS st body ds e
  | _ => none
/-- laid aside: its tree is kept by what stood -/
def gPin (G : Gh) (B H : Hp) (w : WM) (σ : L2.St) (s : Nat) : Gh := ⟨H, B, fun a => ∃ π, w a = some π ∧ π.getLast? ≠ some s, fun j => if j = s then σ[s]? else G.s0 j⟩
theorem Sta.pin {G : Gh} {B H : Hp} {w : WM} {σ : L2.St} {env : List OT} {s : Nat} {o : OT} {v : V} (S : Sta k G B H w σ env) (ho : env[s]? = some o) (hv : σ[s]? = some (some v)) : Sta k (gPin G B H w σ s) B H (wOff w s) σ (env.set s .pin) where
  bh := S.bh
  b0 := .refl _
  fr := fun a h1 h2 h3 => by
    refine ⟨h1, rfl, ?_⟩
    unfold wOff
    cases e : w a with
    | none => rfl
    | some π =>
      simp only
      by_cases hl : π.getLast? = some s
      · rw [if_pos hl]
      · exact absurd ⟨π, e, hl⟩ h3
  wb := fun a h => S.wb a fun z => h (by unfold wOff; rw [z])
  wh := fun a h => S.wh a fun z => h (by unfold wOff; rw [z])
  len := by simpa using S.len
  sl := fun j o' h => by
    by_cases hj : s = j
    · subst hj
      rw [List.getElem?_set, if_pos rfl, if_pos (List.getElem?_eq_some_iff.mp ho).1] at h
      cases h
      exact .inr ⟨v, hv, by simp only [ORep]⟩
    · rw [List.getElem?_set_ne hj] at h
      rcases S.sl j o' h with e | ⟨u, hu, r'⟩
      · exact .inl e
      · refine .inr ⟨u, hu, r'.frame (.refl _) fun p ρ e => ⟨?_, rfl⟩⟩
        unfold wOff
        rw [e]
        have n2 : ¬ j = s := fun z => hj z.symm
        simp [n2]
  fx := fun j o' h z => by
    show _ = (if j = s then σ[s]? else G.s0 j)
    by_cases hj : s = j
    · subst hj
      rw [if_pos rfl]
    · rw [List.getElem?_set_ne hj] at h
      rw [if_neg fun z => hj z.symm]
      exact S.fx j o' h z
/-- the ways with what was laid aside -/
def wPin (w w' : WM) (s : Nat) : WM := fun a => match w a with
  | some π => if π.getLast? = some s then some π else w' a
  | none => w' a
theorem Sta.unpin {G : Gh} {B H B' H' : Hp} {w w' : WM} {σ σ' : L2.St} {env env' : List OT} {s : Nat} {o : OT} {v : V} (S : Sta k G B H w σ env) (ho : env[s]? = some o) (hv : σ[s]? = some (some v)) (S' : Sta k (gPin G B H w σ s) B' H' w' σ' env') (hp : env'[s]? = some .pin) :
    Sta k G B' H' (wPin w w' s) σ' (env'.set s o) ∧ (∀ a π, w a = some π → π.getLast? = some s → B' a = none ∧ H' a = H a ∧ w' a = none) := by
  have kept : ∀ a π, w a = some π → π.getLast? = some s → B' a = none ∧ H' a = H a ∧ w' a = none := fun a π e hl => by
    have hw : w a ≠ none := by rw [e]; exact fun z => nomatch z
    exact S'.fr a (S.wb a hw) (S.wh a hw) fun ⟨π', e', n⟩ => by
      rw [e] at e'
      cases e'
      exact n hl
  refine ⟨?_, kept⟩
  have hs : σ'[s]? = some (some v) := by
    have := S'.fx s .pin hp rfl
    rw [this]
    show (if s = s then σ[s]? else G.s0 s) = _
    rw [if_pos rfl, hv]
  exact {
    bh := S'.bh
    b0 := S.b0.trans S'.b0
    fr := fun a h1 h2 h3 => by
      obtain ⟨x, y, z⟩ := S.fr a h1 h2 h3
      have hn : ¬ (gPin G B H w σ s).A0 a := fun ⟨π, e, _⟩ => by rw [z] at e; cases e
      obtain ⟨x', y', z'⟩ := S'.fr a x (by show H a ≠ none; rw [y]; exact h2) hn
      refine ⟨x', Eq.trans y' y, ?_⟩
      unfold wPin
      rw [z]
      exact z'
    wb := fun a h => by
      unfold wPin at h
      split at h
      · rename_i π e
        split at h
        · rename_i hl
          exact (kept a π e hl).1
        · exact S'.wb a h
      · exact S'.wb a h
    wh := fun a h => by
      unfold wPin at h
      split at h
      · rename_i π e
        split at h
        · rename_i hl
          rw [(kept a π e hl).2.1]
          exact S.wh a (by rw [e]; exact fun z => nomatch z)
        · exact S'.wh a h
      · exact S'.wh a h
    len := by simpa using S'.len
    sl := fun j o' h => by
      by_cases hj : s = j
      · subst hj
        rw [List.getElem?_set, if_pos rfl, if_pos (List.getElem?_eq_some_iff.mp hp).1] at h
        cases h
        rcases S.sl s o ho with e | ⟨u, hu, r⟩
        · exact .inl e
        · rw [hv] at hu
          cases hu
          refine .inr ⟨v, hs, r.frame S'.b0 fun p ρ e => ?_⟩
          have hl : (ρ ++ [s]).getLast? = some s := by simp
          refine ⟨?_, (kept p _ e hl).2.1⟩
          unfold wPin
          rw [e]
          simp
      · rw [List.getElem?_set_ne hj] at h
        rcases S'.sl j o' h with e | ⟨u, hu, r'⟩
        · exact .inl e
        · refine .inr ⟨u, hu, r'.frame (.refl _) fun p ρ e => ⟨?_, rfl⟩⟩
          unfold wPin
          split
          · rename_i π e2
            split
            · rename_i hl
              have := (kept p π e2 hl).2.2
              rw [e] at this
              cases this
            · exact e
          · exact e
    fx := fun j o' h z => by
      by_cases hj : s = j
      · subst hj
        rw [List.getElem?_set, if_pos rfl, if_pos (List.getElem?_eq_some_iff.mp hp).1] at h
        cases h
        rw [hs, ← hv]
        exact S.fx s o ho z
      · rw [List.getElem?_set_ne hj] at h
        have := S'.fx j o' h z
        rw [this]
        show (if j = s then σ[s]? else G.s0 j) = _
        rw [if_neg fun z => hj z.symm] }
theorem s_forP {s : Nat} {ps : List OT → Option (List Stp)} {iter tg : Expr} {body : List Stmt} {st : Dat → List OT → Option (List OT)} {g : List OT → Option Out} (hk : X.K = k.K) (hp : PassesOwn (model X.prog X.w) X.A X.env X.xe) (hc : X.calm = true) (hi : PE X iter (tP k s ps)) (hg : PG X tg (gD k st)) (hb : PSs X body (tS k W g))
    (hs : ∀ x, foldedSetIterable iter X.env x = pure x := by intro _; rfl) : PS X (.For tg iter body [] pos) (tS k W (forP s ps st g)) :=
  ps_imp (ps_for hp hc (pi_list hi) hg hb hs) fun D σ H ⟨G, B, w, env, o, S, h, q⟩ => by
    unfold forP at h
    split at h
    · rename_i xs e1
      split at h
      · cases h
      · rename_i ds e2
        split at h
        · cases h
        · rename_i o0 e3
          obtain ⟨l, o1, h3, h4, h5, h6⟩ := plO_some e1
          rw [e3] at h4
          cases h4
          refine ⟨G, B, w, env, l, _, _, S, h3, e3, h5, h6, fun v u B1 H1 S1 m1 hv P => ?_⟩
          obtain ⟨ρ, r, _⟩ := P
          obtain ⟨p, rfl⟩ := lst_ref r
          obtain ⟨hw, vs, hp', rr⟩ := lst_root r
          have rs := shs_rep e2 rr
          have SP := S1.pin e3 hv
          have pA : ¬ (gPin G B1 H1 w σ s).A0 p := fun ⟨π, e, n⟩ => by
            rw [hw] at e
            cases e
            exact n (by simp)
          have pw : w p ≠ none := by rw [hw]; exact fun z => nomatch z
          have st' : ∀ {σ' : L2.St} {B' H' : Hp} {w' : WM} {e' : List OT}, Sta k (gPin G B1 H1 w σ s) B' H' w' σ' e' → H' p = some (.lst vs) := fun S' => by
            rw [(S'.fr p (S1.wb p pw) (S1.wh p pw) pA).2.1]
            exact hp'
          -- what the loop's end brings
          cases hl : loopS st g ds (env.set s .pin) with
          | none =>
            rw [hl] at h
            simp [unpinO] at h
          | some out =>
            rw [hl] at h
            have vt : ∀ {B' H' : Hp} {w' w1 : WM} {σ' : L2.St} {e' : List OT} {x : OT} {y : V}, Sta k (gPin G B1 H1 w σ s) B' H' w' σ' e' → e'[s]? = some .pin → Vt k (gPin G B1 H1 w σ s) B' H' w' w1 x y → Vt k G B' H' (wPin w w' s) w1 x y := fun {B' H' w' w1 σ' e' x y} S' hp2 T => by
              obtain ⟨_, kept⟩ := S1.unpin e3 hv S' hp2
              refine ⟨fun a ha => ?_, T.rep, T.nl⟩
              obtain ⟨x1, x2, x3, x4⟩ := T.dis a ha
              have key : ∀ π, w a = some π → π.getLast? ≠ some s := fun π e hl2 => by
                have hwa : w a ≠ none := by rw [e]; exact fun z => nomatch z
                obtain ⟨π', e', n⟩ := x4 (S1.wb a hwa) (S1.wh a hwa)
                rw [e] at e'
                cases e'
                exact n hl2
              refine ⟨?_, x2, x3, fun y1 y2 => Classical.byContradiction fun y3 => ?_⟩
              · unfold wPin
                split
                · rename_i π e
                  rw [if_neg (key π e)]
                  exact x1
                · exact x1
              · obtain ⟨z1, z2, z3⟩ := S1.fr a y1 y2 y3
                obtain ⟨π', e', n⟩ := x4 z1 (by show H1 a ≠ none; rw [z2]; exact y2)
                rw [z3] at e'
                cases e'
            have wf : ∀ (i : Nat) (σ' : L2.St) (B' H' : Hp) (w' : WM) (e' : List OT), Sta k (gPin G B1 H1 w σ s) B' H' w' σ' e' → Same B1 B' → (i < ds.length → (Itl k.K p).go i H' ∧ ∀ x H'', (Itl k.K p).yld i H' x H'' → ∃ B'', Grow B' H' B'' H'' ∧ ∃ d, ds[i]? = some d ∧ Rep k B'' d x) ∧ (Itl k.K p).stop ds.length H' := fun i σ' B' H' w' e' S' m' => by
              have hh := st' S'
              refine ⟨fun hlt => ?_, ⟨vs, SqL.of hh, by rw [rs.length]; exact Nat.le_refl _⟩⟩
              obtain ⟨y, hy, ry⟩ := rs.get (List.getElem?_eq_getElem hlt)
              refine ⟨⟨vs, y, SqL.of hh, hy⟩, fun x H'' yy => ?_⟩
              obtain ⟨rfl, yy⟩ := yy
              have z := yy vs (SqL.of hh)
              rw [hy] at z
              cases z
              exact ⟨B', .refl, _, List.getElem?_eq_getElem hlt, ry.mono m'⟩
            refine ⟨p, rfl, ⟨vs, hk ▸ SqL.of hp'⟩, hk ▸ loop_core (tgG := gD k st) (tb := tS k W g) wf SP hl ?_⟩
            cases out with
            | nx e' =>
              simp only [unpinO] at h
              split at h
              · rename_i hp2
                cases h
                exact fun σ4 B4 H4 w4 S4 m4 => q σ4 B4 H4 _ (S1.unpin e3 hv S4 hp2).1 (m1.1.trans m4)
              · cases h
            | bk e' =>
              simp only [unpinO] at h
              split at h
              · rename_i hp2
                cases h
                exact fun σ4 B4 H4 w4 S4 m4 => q σ4 B4 H4 _ (S1.unpin e3 hv S4 hp2).1 (m1.1.trans m4)
              · cases h
            | ct e' =>
              simp only [unpinO] at h
              split at h
              · rename_i hp2
                cases h
                exact fun σ4 B4 H4 w4 S4 m4 => q σ4 B4 H4 _ (S1.unpin e3 hv S4 hp2).1 (m1.1.trans m4)
              · cases h
            | rt x e' =>
              simp only [unpinO] at h
              split at h
              · rename_i hp2
                cases h
                exact fun y σ4 B4 H4 w4 w5 S4 T4 m4 => q y σ4 B4 H4 _ w5 (S1.unpin e3 hv S4 hp2).1 (vt S4 hp2 T4) (m1.1.trans m4)
              · cases h
            | ex c3 n3 x3 e' =>
              simp only [unpinO] at h
              split at h
              · rename_i hp2
                cases h
                exact fun cls d σ4 B4 H4 w4 S4 m4 r4 => q cls d σ4 B4 H4 _ (S1.unpin e3 hv S4 hp2).1 (m1.1.trans m4) r4
              · cases h
    · rename_i ds e1
      obtain ⟨l, o0, h3, h4, h5, h6⟩ := plO_some e1
      refine ⟨G, B, w, _, l, o0, _, S, h3, h4, h5, h6, fun v u B1 H1 S1 m1 hv P => ?_⟩
      obtain ⟨ρ, r, _⟩ := P
      simp only [ORep, Rep] at r
      obtain ⟨p, vs, rfl, h1, h2⟩ := r
      have W1 := wk_list h1 h2
      exact ⟨p, rfl, ⟨vs, hk ▸ sqR S1.bh h1⟩, hk ▸ loop_core (tgG := gD k st) (tb := tS k W g) (fun i σ' B' H' w' e' S' m' => ⟨fun hlt => ⟨W1.go i _ B' H' m' S'.bh (List.getElem?_eq_getElem hlt), fun x H'' y => by
        obtain ⟨B2, gr, r⟩ := W1.yld i _ B' H' x H'' m' S'.bh (List.getElem?_eq_getElem hlt) y
        exact ⟨B2, gr, _, List.getElem?_eq_getElem hlt, r⟩⟩, W1.stop B' H' m' S'.bh⟩) S1 h (q.mono m1.1)⟩
    · cases h
end
end DL
/-! More operators, built-ins, isinstance of any thing. -/
namespace DL
open PySem L2 PySem.Spec PyProof.Rows
section
variable {k : KC} {W : WX} {X : Cx} {pos p0 : Pos} {a b c e : Expr} {fa fb fc : List OT → Option Dat} {ga gb : GD} {es : List Expr} {fs : List OT → Option (List Dat)} {s : Nat} {ps : List OT → Option (List Stp)}
/-! ### chains, >>, in, tuple() -/
theorem chn_read {r r' : R2} {g g' : Dat → Dat → Option Dat} (hr : RD k r g) (hr' : RD k r' g') {σ : L2.St} {H : Hp} {Q : VK} (h : tD k (chnD g g' fa fb fc) σ H Q) : tChain r r' (tD k fa) (tD k fb) (tD k fc) σ H Q := by
  obtain ⟨G, B, w, env, d, S, h, q⟩ := h
  unfold chnD at h
  split at h
  · cases h
  · rename_i x hx
    split at h
    · cases h
    · rename_i y hy
      refine ⟨G, B, w, env, x, S, hx, fun v B1 H1 S1 m1 r1 => ⟨G, B1, w, env, y, S1, hy, fun u B2 H2 S2 m2 r2 => ?_⟩⟩
      split at h
      · rename_i hg
        cases h
        refine hr B2 H2 x y _ v u _ S2.bh (r1.mono m2.1) r2 hg fun v' B3 H3 gr r3 => ?_
        simp only [Rep] at r3
        refine ⟨false, r3, iteF (q (.bl false) B3 H3 (S2.grow gr) ((m1.trans m2).trans (gr.all S2.bh).2) (by simp only [Rep]))⟩
      · rename_i hg
        split at h
        · cases h
        · rename_i z hz
          refine hr B2 H2 x y _ v u _ S2.bh (r1.mono m2.1) r2 hg fun v' B3 H3 gr r3 => ?_
          simp only [Rep] at r3
          have g3 := gr.all S2.bh
          refine ⟨true, r3, iteT ⟨G, B3, w, env, z, S2.grow gr, hz, fun t B4 H4 S4 m4 r4 => ?_⟩⟩
          exact hr' B4 H4 y z d u t Q S4.bh ((r2.mono g3.2.1).mono m4.1) r4 h fun v5 B5 H5 gr5 r5 => q v5 B5 H5 (S4.grow gr5) (((m1.trans m2).trans g3.2).trans (m4.trans (gr5.all S4.bh).2)) r5
      · cases h
theorem d_chn_lele (ha : PE X a (tD k fa)) (hb : PE X b (tD k fb)) (hc : PE X c (tD k fc)) (hm : lastMarks [.LtE, .LtE] [b, c] = false := by with_unfolding_all rfl) : PE X (.Compare a [.LtE, .LtE] [b, c] pos) (tD k (chnD leD leD fa fb fc)) := pe_imp (pe_chain op_le op_le ha hb hc hm) fun _ _ _ h => chn_read rd_cmp rd_cmp h
theorem d_chn_lelt (ha : PE X a (tD k fa)) (hb : PE X b (tD k fb)) (hc : PE X c (tD k fc)) (hm : lastMarks [.LtE, .Lt] [b, c] = false := by with_unfolding_all rfl) : PE X (.Compare a [.LtE, .Lt] [b, c] pos) (tD k (chnD leD ltD fa fb fc)) := pe_imp (pe_chain op_le op_lt ha hb hc hm) fun _ _ _ h => chn_read rd_cmp rd_cmp h
def shrD : Dat → Dat → Option Dat
  | .int i, .int j => if 0 ≤ j then some (.int (i / 2 ^ j.toNat)) else none
  | _, _ => none
theorem d_shr (ha : PE X a (tD k fa)) (hb : PE X b (tD k fb)) : PE X (.BinOp a .RShift b pos) (tD k (bin shrD fa fb)) := d_op op_shr (rd_I fun x y d e => by
  unfold shrD at e
  split at e
  · split at e
    · rename_i i j hc
      cases e
      exact ⟨i, j, rfl, rfl, hc, fun _ => by simp only [Rep]⟩
    · cases e
  · cases e) ha hb
/-- flat things and == -/
def Dat.fl : Dat → Bool
  | .non => true
  | .bl _ => true
  | .int _ => true
  | .str _ => true
  | _ => false
def eqF : Dat → Dat → Bool
  | .non, .non => true
  | .bl a, .bl b => a == b
  | .bl a, .int b => (if a = true then 1 else 0) == b
  | .int a, .bl b => a == if b = true then 1 else 0
  | .int a, .int b => a == b
  | .str a, .str b => a == b
  | _, _ => false
def inD : Dat → Dat → Option Dat
  | x, .lst ys => if x.fl = true ∧ ys.all Dat.fl = true then some (.bl (ys.any fun y => eqF y x)) else none
  | x, .tup ys => if x.fl = true ∧ ys.all Dat.fl = true then some (.bl (ys.any fun y => eqF y x)) else none
  | _, _ => none
def ninD (x y : Dat) : Option Dat := match inD x y with
  | some (.bl b) => some (.bl (!b))
  | _ => none
theorem fl_rep {B : Hp} {d : Dat} {v : V} (h : d.fl = true) (r : Rep k B d v) : flatV v = true := by
  cases d <;> simp [Dat.fl] at h <;> simp only [Rep] at r <;> subst r <;> rfl
theorem eqF_rep {B : Hp} {d e : Dat} {v u : V} (h : d.fl = true) (h' : e.fl = true) (r : Rep k B d v) (r' : Rep k B e u) : eqV v u = eqF d e := by
  cases d <;> simp [Dat.fl] at h <;> cases e <;> simp [Dat.fl] at h' <;> simp only [Rep] at r r' <;> subst r r' <;> rfl
theorem fls_rep {B : Hp} : ∀ {ds : List Dat} {vs : List V}, ds.all Dat.fl = true → Reps k B ds vs → vs.all flatV = true
  | [], vs, h, r => by
    simp only [Reps] at r
    subst r
    rfl
  | d :: ds, vs, h, r => by
    simp only [Reps] at r
    obtain ⟨v, r', rfl, h1, h2⟩ := r
    simp only [List.all_cons, Bool.and_eq_true] at h ⊢
    exact ⟨fl_rep h.1 h1, fls_rep h.2 h2⟩
theorem in_rep {B : Hp} {x : Dat} {v : V} (hx : x.fl = true) (rx : Rep k B x v) : ∀ {ds : List Dat} {vs : List V}, ds.all Dat.fl = true → Reps k B ds vs → inV v vs = ds.any fun y => eqF y x
  | [], vs, h, r => by
    simp only [Reps] at r
    subst r
    rfl
  | d :: ds, vs, h, r => by
    simp only [Reps] at r
    obtain ⟨u, r', rfl, h1, h2⟩ := r
    simp only [List.all_cons, Bool.and_eq_true] at h
    have ih := in_rep hx rx h.2 h2
    unfold inV at ih ⊢
    simp only [List.any_cons, ih, eqF_rep h.1 hx h1 rx]
theorem inD_some {B H : Hp} {x y d : Dat} {v u : V} (hs : Same B H) (rx : Rep k B x v) (ry : Rep k B y u) (h : inD x y = some d) : ∃ p xs c, d = .bl c ∧ u = .ref p ∧ (SqL k.K H p xs ∨ SqT k.K H p xs) ∧ flatV v = true ∧ xs.all flatV = true ∧ inV v xs = c := by
  unfold inD at h
  split at h
  · split at h
    · rename_i hf
      cases h
      simp only [Rep] at ry
      obtain ⟨p, vs, rfl, h1, h2⟩ := ry
      exact ⟨p, vs, _, rfl, rfl, .inl (sqR hs h1), fl_rep hf.1 rx, fls_rep hf.2 h2, in_rep hf.1 rx hf.2 h2⟩
    · cases h
  · split at h
    · rename_i hf
      cases h
      simp only [Rep] at ry
      obtain ⟨p, vs, rfl, h1, h2⟩ := ry
      exact ⟨p, vs, _, rfl, rfl, .inr (sqT_mono hs h1), fl_rep hf.1 rx, fls_rep hf.2 h2, in_rep hf.1 rx hf.2 h2⟩
    · cases h
  · cases h
theorem rd_in : RD k (rIn k.K false) inD := fun B H x y d v u Q hs rx ry e q => by
  obtain ⟨p, xs, c, rfl, rfl, h1, h2, h3, h4⟩ := inD_some hs rx ry e
  exact ⟨p, xs, rfl, h1, h2, h3, by rw [h4]; exact q _ B H .refl (by simp [Rep])⟩
theorem rd_nin : RD k (rIn k.K true) ninD := fun B H x y d v u Q hs rx ry e q => by
  unfold ninD at e
  split at e
  · rename_i b hb
    cases e
    obtain ⟨p, xs, c, hd, rfl, h1, h2, h3, h4⟩ := inD_some hs rx ry hb
    cases hd
    exact ⟨p, xs, rfl, h1, h2, h3, by rw [h4]; exact q _ B H .refl (by simp [Rep])⟩
  · cases e
theorem d_in (hk : X.K = k.K) (ha : PE X a (tD k fa)) (hb : PE X b (tD k fb)) (hm : behindInMarks .In b = false := by with_unfolding_all rfl) : PE X (.Compare a [.In] [b] pos) (tD k (bin inD fa fb)) := d_cmp (hk ▸ op_in_seq) rd_in ha hb hm
theorem d_nin (hk : X.K = k.K) (ha : PE X a (tD k fa)) (hb : PE X b (tD k fb)) (hm : behindInMarks .NotIn b = false := by with_unfolding_all rfl) : PE X (.Compare a [.NotIn] [b] pos) (tD k (bin ninD fa fb)) := d_cmp (hk ▸ op_notIn_seq) rd_nin ha hb hm
theorem t_in (hk : X.K = k.K) (ha : PE X a (tD k fa)) (hb : PE X b (tD k fb)) (hm : behindInMarks .In b = false := by with_unfolding_all rfl) : PT X (.Compare a [.In] [b] pos) (tT k (tst (bin inD fa fb))) := t_cmp (hk ▸ op_in_seq) rd_in ha hb hm
theorem t_nin (hk : X.K = k.K) (ha : PE X a (tD k fa)) (hb : PE X b (tD k fb)) (hm : behindInMarks .NotIn b = false := by with_unfolding_all rfl) : PT X (.Compare a [.NotIn] [b] pos) (tT k (tst (bin ninD fa fb))) := t_cmp (hk ▸ op_notIn_seq) rd_nin ha hb hm
/-- tuple(x) -/
@[simp] def tupleD : List Dat → Option Dat
  | [.lst xs] => some (.tup xs)
  | [.tup xs] => some (.tup xs)
  | _ => none
theorem rc_tuple : RC k (fun xs H Q => ∃ p ys, xs = [.ref p] ∧ ((SqL k.K H p ys ∧ ∀ l, H l = none → Q (.ref l) (upd H l (.tup ys))) ∨ (SqT k.K H p ys ∧ Q (.ref p) H))) tupleD := by
  intro B H ds d vs Q hs r e q
  unfold tupleD at e
  split at e
  · cases e
    obtain ⟨v, rfl, rv⟩ := reps1 r
    simp only [Rep] at rv
    obtain ⟨p, us, rfl, h1, h2⟩ := rv
    refine ⟨p, us, rfl, .inl ⟨sqR hs h1, fun l hl => q _ _ _ (.new .refl hl) ?_⟩⟩
    simp only [Rep]
    exact ⟨l, us, rfl, .of upd_same, h2.mono (same_new hs hl)⟩
  · cases e
    obtain ⟨v, rfl, rv⟩ := reps1 r
    have rv' := rv
    simp only [Rep] at rv
    obtain ⟨p, us, rfl, h1, h2⟩ := rv
    exact ⟨p, us, rfl, .inr ⟨sqT_mono hs h1, q _ B H .refl rv'⟩⟩
  · cases e
theorem d_tuple (hk : X.K = k.K) (hm : X.mg "tuple" = none) (ha : PA X [e] (tA k fs)) (hg : Gl X "tuple" := by rfl) (he : starEach [e] X.env = (false, eval e X.env) :: starEach [] X.env := by rfl) (hpl : (backTo pos (starEach [] X.env)).any (·.1) = false := by rfl) : PE X (.Call (.Name "tuple" p0) [e] [] pos) (tD k (cal tupleD fs)) :=
  d_ct (hk ▸ call_tuple_of) rc_tuple hm (by decide +kernel) ha hg (by decide) (by decide) he hpl
/-! ### isinstance of any thing, by a class of the text -/
structure InsA (K : PySem.W.Frag) (C : Addr) : Prop where
  cl : Cls K C
  ca : PySem.W.findIn K (.ref C) "__class__" = some (some (.builtin "object.__class__"))
  mo : PySem.W.mroIn K C (.type "object") = some true
def basics : List String := ["NoneType", "bool", "int", "str", "tuple", "list", "dict"]
structure KitA (k : KC) (D : Addr) (tabE tabO : String → Option Bool) : Prop where
  ex : ∀ c b, tabE c = some b → PySem.W.kitOne k.K (.ref (k.cl c)) (.ref D) = some b ∧ ExcA k.K (k.cl c)
  ob : ∀ c b, tabO c = some b → PySem.W.kitOne k.K (.ref (k.cl c)) (.ref D) = some b ∧ InsA k.K (k.cl c)
  bs : ∀ t, t ∈ basics → PySem.W.kitOne k.K (.type t) (.ref D) = some false
  gl : ExcG k.K
structure KitAT (k : KC) (us : List Value) (tabE tabO : String → Option Bool) : Prop where
  ex : ∀ c b, tabE c = some b → PySem.W.kitAny k.K (.ref (k.cl c)) us = some b ∧ ExcA k.K (k.cl c)
  ob : ∀ c b, tabO c = some b → PySem.W.kitAny k.K (.ref (k.cl c)) us = some b ∧ InsA k.K (k.cl c)
  bs : ∀ t, t ∈ basics → PySem.W.kitAny k.K (.type t) us = some false
  gl : ExcG k.K
theorem basic_not {K : PySem.W.Frag} {D : Addr} {t : String} (h : t ∈ basics) (hi : PySem.W.isClsIn K D = true) (ht : PySem.W.typeIn K (.ref D) = some (.type "type")) : PySem.W.kitOne K (.type t) (.ref D) = some false := by
  have sb : PySem.W.subIn K (.type t) (.ref D) = some false := by
    unfold basics at h
    simp only [List.mem_cons, List.not_mem_nil, or_false] at h
    have e1 : fastBuiltinMro "NoneType" = some [.type "NoneType", .type "object"] := by decide +kernel
    have e2 : fastBuiltinMro "bool" = some [.type "bool", .type "int", .type "object"] := by decide +kernel
    have e3 : fastBuiltinMro "int" = some [.type "int", .type "object"] := by decide +kernel
    have e4 : fastBuiltinMro "str" = some [.type "str", .type "object"] := by decide +kernel
    have e5 : fastBuiltinMro "tuple" = some [.type "tuple", .type "object"] := by decide +kernel
    have e6 : fastBuiltinMro "list" = some [.type "list", .type "object"] := by decide +kernel
    have e7 : fastBuiltinMro "dict" = some [.type "dict", .type "object"] := by decide +kernel
    rcases h with rfl | rfl | rfl | rfl | rfl | rfl | rfl <;> simp [PySem.W.subIn, e1, e2, e3, e4, e5, e6, e7]
  unfold PySem.W.kitOne
  rw [if_neg (by simp)]
  show (if ((PySem.W.clsIn K D).isSome && PySem.W.typeIn K (.ref D) == some (.type "type")) = true then PySem.W.subIn K (.type t) (.ref D) else none) = some false
  have hi' : (PySem.W.clsIn K D).isSome = true := hi
  rw [if_pos (by simp [hi', ht]), sb]
theorem basic_any {K : PySem.W.Frag} {t : String} : ∀ {us : List Value}, (∀ u ∈ us, PySem.W.kitOne K (.type t) u = some false) → PySem.W.kitAny K (.type t) us = some false
  | [], _ => rfl
  | u :: us, h => by
    simp only [PySem.W.kitAny, h u List.mem_cons_self]
    exact basic_any fun x hx => h x (List.mem_cons_of_mem _ hx)
def isaD (tabE tabO : String → Option Bool) : Dat → Option Bool
  | .exn c _ _ => tabE c
  | .obj c _ _ => tabO c
  | _ => some false
@[simp] def isaO (tabE tabO : String → Option Bool) (f : List OT → Option Dat) : List OT → Option Dat := fun e => match f e with
  | none => none
  | some d => match isaD tabE tabO d with
    | none => none
    | some b => some (.bl b)
theorem ty_basic {d : Dat} {t : String} (h : d.ty = some t) : t ∈ basics := by
  cases d <;> simp [Dat.ty] at h <;> subst h <;> simp [basics]
theorem isaO_some {tabE tabO : String → Option Bool} {env : List OT} {d : Dat} (h : isaO tabE tabO fa env = some d) : ∃ x b, fa env = some x ∧ isaD tabE tabO x = some b ∧ d = .bl b := by
  unfold isaO at h
  split at h
  · cases h
  · rename_i x e1
    split at h
    · cases h
    · rename_i b e2
      cases h
      exact ⟨x, b, e1, e2, rfl⟩
theorem dat_kinds (x : Dat) : (∃ c ns xs, x = .exn c ns xs) ∨ (∃ c ns xs, x = .obj c ns xs) ∨ ∃ t, x.ty = some t ∧ ∀ tabE tabO, isaD tabE tabO x = some false := by
  cases x with
  | exn c ns xs => exact .inl ⟨c, ns, xs, rfl⟩
  | obj c ns xs => exact .inr (.inl ⟨c, ns, xs, rfl⟩)
  | _ => exact .inr (.inr ⟨_, rfl, fun _ _ => rfl⟩)
theorem d_isA {T : Str} {D : Addr} {tabE tabO : String → Option Bool} {p1 : Pos} (hk : X.K = k.K) (hm : X.mg "isinstance" = none) (hT : X.mg T = some (.ref D)) (ht : KitA k D tabE tabO) (ha : PE X a (tD k fa)) (hgT : Gl X T := by rfl) (hd : (T == ("__debug__" : Str)) = false := by decide) (hg : Gl X "isinstance" := by rfl)
    (h1 : starEach [a, .Name T p1] X.env = (false, eval a X.env) :: starEach [.Name T p1] X.env := by rfl) (hpl : (backTo pos (starEach [.Name T p1] X.env)).any (·.1) = false := by rfl) :
    PE X (.Call (.Name "isinstance" p0) [a, .Name T p1] [] pos) (tD k (isaO tabE tabO fa)) :=
  pe_imp (pe_callB ((call_isX (k := k) hk).or call_isi) hg hm (by decide +kernel) (pa_cons ha (pa_cons (pe_glob (v := .ref D) hgT hT rfl hd) pa_nil) h1) (by decide) (by decide) h1 hpl) fun σ H Q ⟨G, B, w, env, d, S, h, q⟩ => by
    obtain ⟨x, b, e1, e2, rfl⟩ := isaO_some h
    refine ⟨G, B, w, env, x, S, e1, fun v B1 H1 S1 m r => ?_⟩
    have fin : Q (.bl b) H1 := q _ B1 H1 S1 m (by simp only [Rep])
    rcases dat_kinds x with ⟨c, ns, xs, rfl⟩ | ⟨c, ns, xs, rfl⟩ | ⟨t, ht1, hf⟩
    · simp only [Rep] at r
      obtain ⟨p, dd, vs, rfl, hp, hx, hl, hr⟩ := r
      obtain ⟨k1, k2⟩ := ht.ex c b e2
      exact .inl ⟨p, c, dd, _, .ref D, .ref D, b, rfl, .own D, S1.bh _ _ hp, hx.mono S1.bh, k2, ht.gl, k1, fin⟩
    · simp only [Rep] at r
      obtain ⟨p, dx, vs, rfl, hp, hl, hr⟩ := r
      obtain ⟨k1, k2⟩ := ht.ob c b e2
      exact .inr ⟨_, .ref D, .ref (k.cl c), .ref D, b, rfl, .own D, hk ▸ .base (.ins (S1.bh _ _ hp) k2.cl k2.ca ht.gl.hn ht.gl.ht k2.mo), hk ▸ k1, fin⟩
    · rw [hf] at e2
      cases e2
      exact .inr ⟨v, .ref D, .type t, .ref D, false, rfl, .own D, hk ▸ rep_ty S1.bh r ht1, hk ▸ ht.bs t (ty_basic ht1), fin⟩
theorem d_isAT {es : List Expr} {cs : List V} {us : List Value} {tabE tabO : String → Option Bool} {x1} {p1 : Pos} (hk : X.K = k.K) (hm : X.mg "isinstance" = none) (hc : PCs X es cs us) (ht : KitAT k us tabE tabO) (hsz : cs.length ≤ 1000) (ha : PE X a (tD k fa)) (hg : Gl X "isinstance" := by rfl)
    (h1 : starEach [a, .Tuple es x1 p1] X.env = (false, eval a X.env) :: starEach [.Tuple es x1 p1] X.env := by rfl) (hpl : (backTo pos (starEach [.Tuple es x1 p1] X.env)).any (·.1) = false := by rfl) :
    PE X (.Call (.Name "isinstance" p0) [a, .Tuple es x1 p1] [] pos) (tD k (isaO tabE tabO fa)) :=
  pe_imp (pe_callB ((call_isXT (k := k) hk).or call_isiT) hg hm (by decide +kernel) (pa_cons ha (pa_cons (pe_tup hc.1) pa_nil) h1) (by decide) (by decide) h1 hpl) fun σ H Q ⟨G, B, w, env, d, S, h, q⟩ => by
    obtain ⟨x, b, e1, e2, rfl⟩ := isaO_some h
    refine ⟨G, B, w, env, x, S, e1, fun v B1 H1 S1 m r => ⟨by rw [sizeLine_eq]; omega, fun tp hn => ?_⟩⟩
    have S2 := S1.new (o := .tup cs) hn
    have sB := same_new (o := .tup cs) S1.bh hn
    have fin : Q (.bl b) (upd H1 tp (.tup cs)) := q _ _ _ S2 (m.trans ⟨sB, same_newH hn⟩) (by simp only [Rep])
    have r2 := r.mono sB
    rcases dat_kinds x with ⟨c, ns, xs, rfl⟩ | ⟨c, ns, xs, rfl⟩ | ⟨t, ht1, hf⟩
    · simp only [Rep] at r2
      obtain ⟨p, dd, vs, rfl, hp, hx, hl, hr⟩ := r2
      obtain ⟨k1, k2⟩ := ht.ex c b e2
      exact .inl ⟨p, tp, c, dd, _, cs, us, b, rfl, upd_same, hc.2, S2.bh _ _ hp, hx.mono S2.bh, k2, ht.gl, k1, fin⟩
    · simp only [Rep] at r2
      obtain ⟨p, dx, vs, rfl, hp, hl, hr⟩ := r2
      obtain ⟨k1, k2⟩ := ht.ob c b e2
      exact .inr ⟨_, tp, cs, .ref (k.cl c), us, b, rfl, upd_same, hc.2, hk ▸ .base (.ins (S2.bh _ _ hp) k2.cl k2.ca ht.gl.hn ht.gl.ht k2.mo), hk ▸ k1, fin⟩
    · rw [hf] at e2
      cases e2
      exact .inr ⟨v, tp, cs, .type t, us, false, rfl, upd_same, hc.2, hk ▸ rep_ty S2.bh r2 ht1, hk ▸ ht.bs t (ty_basic ht1), fin⟩
/-! ### more changes at places -/
/-- place.insert(i, e) -/
@[simp] def insP (s : Nat) (ps : List OT → Option (List Stp)) (fi f : List OT → Option Dat) : List OT → Option Out := fun e => match plO s ps e with
  | some (.lst xs) => match fi e with
    | some (.int i) => match f e with
      | none => none
      | some d => if xs.length < 16000000 ∧ 0 ≤ i ∧ i < 2 ^ 63 then match putO s ps (.lst (xs.take i.toNat ++ [.sh d] ++ xs.drop i.toNat)) e with
          | none => none
          | some e' => some (.nx e')
        else none
    | _ => none
  | _ => none
theorem oreps_ins {B H : Hp} {w : WM} {π : List Nat} {d : Dat} {v : V} (hd : Rep k B d v) (i : Nat) {xs : List OT} {vs : List V} {ds : List Dat} (h : shs xs = some ds) (r : OReps k B H w π 0 xs vs) : OReps k B H w π 0 (xs.take i ++ [.sh d] ++ xs.drop i) (vs.take i ++ [v] ++ vs.drop i) := by
  have e : xs = ds.map .sh := by
    clear r
    induction xs generalizing ds with
    | nil => simp only [shs, Option.some.injEq] at h; subst h; rfl
    | cons x xs ih =>
      cases x with
      | sh d0 =>
        simp only [shs] at h
        split at h
        · cases h
        · rename_i ds' e1
          cases h
          rw [ih e1]
          rfl
      | _ => simp [shs] at h
  have rs := shs_rep h r
  subst e
  have : (ds.map OT.sh).take i ++ [OT.sh d] ++ (ds.map OT.sh).drop i = (ds.take i ++ [d] ++ ds.drop i).map .sh := by simp
  rw [this]
  exact OReps_sh (((rs.take i).append (.one hd)).append (rs.drop i))
theorem shs_map (ds : List Dat) : shs (ds.map .sh) = some ds := by
  induction ds with
  | nil => rfl
  | cons d ds ih => simp only [List.map_cons, shs, ih]
/-- .. of shared things -/
@[simp] def insPS (s : Nat) (ps : List OT → Option (List Stp)) (fi f : List OT → Option Dat) : List OT → Option Out := fun e => match plO s ps e with
  | some (.lst xs) => match shs xs with
    | none => none
    | some _ => insP s ps fi f e
  | _ => none
theorem s_insP {o ix : Expr} {apos cpos : Pos} (hk : X.K = k.K) (ho : PE X o (tP k s ps)) (hi : PE X ix (tD k fb)) (he : PE X e (tD k fa)) (hbase : attributeBase o "insert" X.env (eval o X.env) = eval o X.env := by rfl)
    (hfew : ((backTo cpos (starEach [ix, e] X.env)).all (fun x => !x.1) && (backToKw cpos (keywordEach [] X.env)).all (fun x => x.1.isSome)
      && decide (([ix, e] : List Expr).length + ([] : List Keyword).length + (if ([] : List Keyword).isEmpty then 0 else 1) < 30)) = true := by rfl)
    (hline : (apos.endLine == cpos.line) = true := by rfl) (hs : starEach [ix, e] X.env = (false, eval ix X.env) :: starEach [e] X.env := by rfl) (hs2 : starEach [e] X.env = (false, eval e X.env) :: starEach [] X.env := by rfl) (hplain : (backTo cpos (starEach [e] X.env)).any (·.1) = false := by rfl) (hsw : swapsWith (.Call (.Attribute o "insert" apos) [ix, e] [] cpos) none pos.line X.env = pure false := by rfl) :
    PS X (.Expr (.Call (.Attribute o "insert" apos) [ix, e] [] cpos) pos) (tS k W (insPS s ps fb fa)) :=
  ps_imp (ps_expr (pe_bm F.plainAttrs_list F.slot_list_insert F.type_list_insert mt_insert ho (pa_cons hi (pa_cons he pa_nil hs2) hs) hbase hfew hline hs hplain) hsw) fun D σ H ⟨G, B, w, env, o, S, h, q⟩ => by
    unfold insPS at h
    split at h
    · rename_i xs e1
      split at h
      · cases h
      · rename_i ds hds
        unfold insP at h
        rw [e1] at h
        simp only at h
        split at h
        · rename_i i e2
          split at h
          · cases h
          · rename_i d e3
            split at h
            · rename_i hl
              split at h
              · cases h
              · rename_i e' e4
                cases h
                obtain ⟨l, o0, h1, h2, h3, h4⟩ := plO_some e1
                refine ⟨G, B, w, env, l, o0, _, S, h1, h2, h3, h4, fun v u B1 H1 S1 m1 hv P => ?_⟩
                obtain ⟨p, rfl⟩ : ∃ p, u = .ref p := let ⟨_, r, _⟩ := P; lst_ref r
                have hR : ∃ vs, H1 p = some (.lst vs) := let ⟨_, r, _⟩ := P; let ⟨_, vs, z, _⟩ := lst_root r; ⟨vs, z⟩
                obtain ⟨vs, hp⟩ := hR
                refine ⟨.inl ⟨rfl, vs, hk ▸ SqL.of hp⟩, G, B1, w, env, _, S1, e2, fun y B2 H2 S2 m2 r2 => ⟨G, B2, w, env, d, S2, e3, fun z B3 H3 S3 m3 r3 => ?_⟩⟩
                simp only [Rep] at r2
                have P2 := P.mv S1.wh (m2.trans m3)
                have hR2 : ∃ vs, H3 p = some (.lst vs) ∧ xs.length = vs.length := let ⟨_, r, _⟩ := P2; let ⟨_, vs, z, rr⟩ := lst_root r; ⟨vs, z, rr.length⟩
                obtain ⟨vs2, hp2, hlen⟩ := hR2
                refine ⟨p, vs2, i, z, rfl, by rw [r2], hp2, by rw [← hlen]; exact sl16' hl.1, hl.2.1, hl.2.2, ?_⟩
                refine q _ B3 _ w (S3.putP h1 h2 hv P2 e4 (fun π r => (lst_root r).1) fun π hw r0 => ?_) (m1.trans (m2.trans m3)).1
                obtain ⟨_, vs3, hp3, rr⟩ := lst_root r0
                rw [hp2] at hp3
                cases hp3
                exact lst_put (xs := xs) hw (oreps_ins r3 i.toNat hds rr)
            · cases h
        · cases h
    · cases h
/-- place.pop(i), a shared thing -/
@[simp] def popG (s : Nat) (ps : List OT → Option (List Stp)) (fi : List OT → Option Dat) : List OT → Option (OT × List OT) := fun e => match plO s ps e with
  | some (.lst xs) => match shs xs with
    | none => none
    | some ds => match fi e with
      | some (.int i) => if -(2 ^ 63) ≤ i ∧ i < 2 ^ 63 then match seqIndex? i xs.length with
          | none => none
          | some j => match ds[j]? with
            | none => none
            | some d => match putO s ps (.lst ((ds.eraseIdx j).map .sh)) e with
              | none => none
              | some e' => some (.sh d, e')
        else none
      | _ => none
  | _ => none
theorem Reps.erase {B : Hp} : ∀ (j : Nat) {ds : List Dat} {vs : List V}, Reps k B ds vs → Reps k B (ds.eraseIdx j) (vs.eraseIdx j)
  | j, [], vs, h => by
    simp only [Reps] at h
    subst h
    simp [Reps]
  | 0, d :: ds, vs, h => by
    simp only [Reps] at h
    obtain ⟨v, r, rfl, h1, h2⟩ := h
    exact h2
  | j + 1, d :: ds, vs, h => by
    simp only [Reps] at h
    obtain ⟨v, r, rfl, h1, h2⟩ := h
    exact .cons h1 (Reps.erase j h2)
theorem g_popG {o ix : Expr} {apos cpos : Pos} (hk : X.K = k.K) (ho : PE X o (tP k s ps)) (hi : PE X ix (tD k fb)) (hbase : attributeBase o "pop" X.env (eval o X.env) = eval o X.env := by rfl)
    (hfew : ((backTo cpos (starEach [ix] X.env)).all (fun x => !x.1) && (backToKw cpos (keywordEach [] X.env)).all (fun x => x.1.isSome)
      && decide (([ix] : List Expr).length + ([] : List Keyword).length + (if ([] : List Keyword).isEmpty then 0 else 1) < 30)) = true := by rfl)
    (hline : (apos.endLine == cpos.line) = true := by rfl) (hs : starEach [ix] X.env = (false, eval ix X.env) :: starEach [] X.env := by rfl) (hplain : (backTo cpos (starEach [] X.env)).any (·.1) = false := by rfl) :
    PE X (.Call (.Attribute o "pop" apos) [ix] [] cpos) (tG k (popG s ps fb)) :=
  pe_imp (pe_bm F.plainAttrs_list F.slot_list_pop F.type_list_pop mt_popAt ho (pa_cons hi pa_nil hs) hbase hfew hline hs hplain) fun σ H Q ⟨G, B, w, env, o, eo, S, h, q⟩ => by
    unfold popG at h
    split at h
    · rename_i xs e1
      split at h
      · cases h
      · rename_i ds hds
        split at h
        · rename_i i e2
          split at h
          · rename_i hb
            split at h
            · cases h
            · rename_i j e3
              split at h
              · cases h
              · rename_i d e4
                split at h
                · cases h
                · rename_i e' e5
                  cases h
                  obtain ⟨l, o0, h1, h2, h3, h4⟩ := plO_some e1
                  refine ⟨G, B, w, env, l, o0, _, S, h1, h2, h3, h4, fun v u B1 H1 S1 m1 hv P => ?_⟩
                  obtain ⟨p, rfl⟩ : ∃ p, u = .ref p := let ⟨_, r, _⟩ := P; lst_ref r
                  have hR : ∃ vs, H1 p = some (.lst vs) := let ⟨_, r, _⟩ := P; let ⟨_, vs, z, _⟩ := lst_root r; ⟨vs, z⟩
                  obtain ⟨vs, hp⟩ := hR
                  refine ⟨.inl ⟨rfl, vs, hk ▸ SqL.of hp⟩, G, B1, w, env, _, S1, e2, fun y B2 H2 S2 m2 r2 => ?_⟩
                  simp only [Rep] at r2
                  have P2 := P.mv S1.wh m2
                  have hR2 : ∃ vs, H2 p = some (.lst vs) ∧ xs.length = vs.length ∧ Reps k B2 ds vs := let ⟨_, r, _⟩ := P2; let ⟨_, vs, z, rr⟩ := lst_root r; ⟨vs, z, rr.length, shs_rep hds rr⟩
                  obtain ⟨vs2, hp2, hlen, rs⟩ := hR2
                  obtain ⟨y0, hy0, ry0⟩ := rs.get e4
                  refine ⟨p, vs2, i, j, y0, rfl, by rw [r2], hp2, hb.1, hb.2, by rw [← hlen]; exact e3, hy0, ?_⟩
                  refine q y0 B2 _ w (fun _ => none) (S2.putP h1 h2 hv P2 e5 (fun π r => (lst_root r).1) fun π hw r0 => ?_) (.shd ry0) (m1.trans m2).1
                  exact lst_put (xs := xs) hw (OReps_sh (rs.erase j))
          · cases h
        · cases h
    · cases h
end
end DL
/-! Appends of what is told with changes; copies; tuples' slices. -/
namespace DL
open PySem L2 PySem.Spec PyProof.Rows
section
variable {k : KC} {W : WX} {X : Cx} {pos p0 : Pos} {a b c e : Expr} {fa fb fc : List OT → Option Dat} {ga gb : GD} {es : List Expr} {fs : List OT → Option (List Dat)} {s : Nat} {ps : List OT → Option (List Stp)}
/-- x = e, melted -/
@[simp] def setGXM (i : Nat) (f : List OT → Option GX) : List OT → Option Out := fun e => match f e with
  | some (.ok o e2) => if i < e2.length ∧ o.ok = true then some (.nx (e2.set i (.sh o.dat))) else none
  | some (.ex c ns xs e2) => some (.ex c ns xs e2)
  | none => none
theorem s_setGXM (i : Nat) {x : Str} {f : List OT → Option GX} {pos' : Pos} (hN : X.N.Nodup) (he : PE X e (tGX k W f)) (hi : X.N[i]? = some x := by rfl) (hx : Loc X.env.scope x := by first | exact .inl rfl | exact .inr rfl)
    (hs : swapsWith e (some (.Name x pos')) pos.line X.env = pure false := by rfl) (hf : X.fn x = true ∨ X.env.scope.names.lookup x = some .local := by first | exact .inl rfl | exact .inr rfl | assumption) :
    PS X (.Assign [.Name x pos'] e pos) (tS k W (setGXM i f)) := ps_imp (ps_set hN hi hx he hs hf) fun D σ H ⟨G, B, w, env, o, S, h, q⟩ => by
  unfold setGXM at h
  split at h
  · rename_i o' e2 e1
    split at h
    · rename_i hl
      cases h
      refine ⟨G, B, w, env, _, S, e1, fun v B' H' w' w1 S' T m => ?_⟩
      obtain ⟨S2, r2⟩ := T.melt S' hl.2
      exact q _ _ _ _ (S2.set r2) (m.trans (same_put S'.bh))
    · cases h
  · rename_i c ns xs e2 e1
    cases h
    exact ⟨G, B, w, env, _, S, e1, fun cls d B' H' w' S' m x => q cls d σ B' H' w' S' m x⟩
  · cases h
theorem lst_slot {G : Gh} {B H : Hp} {w : WM} {σ : L2.St} {env : List OT} {i : Nat} {o : OT} {xs : List OT} (S : Sta k G B H w σ env) (h : env[i]? = some o) (hc : o.core = .lst xs) : ∃ p vs, σ[i]? = some (some (.ref p)) ∧ H p = some (.lst vs) ∧ w p = some [i] ∧ OReps k B H w [i] 0 xs vs := by
  rcases S.sl i o h with e | ⟨v, hv, r⟩
  · subst e
    cases hc
  · have r' := r.core
    rw [hc] at r'
    obtain ⟨p, rfl⟩ := lst_ref r'
    obtain ⟨hw, vs, hp, rr⟩ := lst_root r'
    exact ⟨p, vs, hv, hp, hw, rr⟩
/-- x.append(e), x a slot's own list, e with changes -/
@[simp] def appE2 (i : Nat) (f : GD) : List OT → Option Out := fun e => match e[i]? with
  | none => none
  | some o0 => match o0.core with
    | .lst _ => match f e with
      | none => none
      | some (d, e2) => match e2[i]? with
        | none => none
        | some o => match o.core with
          | .lst xs => if xs.length < 16000000 then some (.nx (e2.set i (o.re (.lst (xs ++ [.sh d]))))) else none
          | _ => none
    | _ => none
theorem s_appE (i : Nat) {x : Str} {px apos cpos : Pos} (hk : X.K = k.K) (he : PE X e (tE k ga)) (hN : X.N[i]? = some x := by rfl) (hv : Vis X.env.scope x := by first | exact Or.inl rfl | exact Or.inr (Or.inl rfl) | exact Or.inr (Or.inr rfl)) (hd : (x == ("__debug__" : Str)) = false := by decide)
    (hcd : (x == ("__classdict__" : Str)) = false := by decide) (hbase : attributeBase (.Name x px) "append" X.env (eval (.Name x px) X.env) = eval (.Name x px) X.env := by rfl)
    (hfew : ((backTo cpos (starEach [e] X.env)).all (fun x => !x.1) && (backToKw cpos (keywordEach [] X.env)).all (fun x => x.1.isSome)
      && decide (([e] : List Expr).length + ([] : List Keyword).length + (if ([] : List Keyword).isEmpty then 0 else 1) < 30)) = true := by rfl)
    (hline : (apos.endLine == cpos.line) = true := by rfl) (hs : starEach [e] X.env = (false, eval e X.env) :: starEach [] X.env := by rfl) (hplain : (backTo cpos (starEach [] X.env)).any (·.1) = false := by rfl) (hsw : swapsWith (.Call (.Attribute (.Name x px) "append" apos) [e] [] cpos) none pos.line X.env = pure false := by rfl) :
    PS X (.Expr (.Call (.Attribute (.Name x px) "append" apos) [e] [] cpos) pos) (tS k W (appE2 i ga)) :=
  ps_imp (ps_expr (pe_bm F.plainAttrs_list F.slot_list_append F.type_list_append mt_append (pe_var hN hv hd hcd) (pa_cons he pa_nil hs) hbase hfew hline hs hplain) hsw) fun D σ H ⟨G, B, w, env, o, S, h, q⟩ => by
    unfold appE2 at h
    split at h
    · cases h
    · rename_i o0 e1
      split at h
      · rename_i xs0 e2
        split at h
        · cases h
        · rename_i d en e3
          split at h
          · cases h
          · rename_i o1 e4
            split at h
            · rename_i xs e5
              split at h
              · rename_i hl
                cases h
                obtain ⟨p, vs, hp, h1, h2, h3⟩ := lst_slot S e1 e2
                refine ⟨_, hp, .inl ⟨rfl, vs, hk ▸ SqL.of h1⟩, G, B, w, env, d, _, S, e3, fun v B1 H1 w1 S1 m r => ?_⟩
                obtain ⟨p', vs', hp', h4, h5, h6⟩ := lst_slot S1 e4 e5
                rw [hp] at hp'
                cases hp'
                refine ⟨p, vs', v, rfl, rfl, h4, by rw [← h6.length]; exact sl16' hl, ?_⟩
                refine q _ B1 _ w1 (S1.inner (ρ := []) (p := p) hp (by simpa using h5) (List.getElem?_eq_some_iff.mp e4).1 (lst_put (xs := xs) h5 (h6.snoc r)).re fun z => ⟨o1, e4, OT.re_fixed rfl z⟩) m
              · cases h
            · cases h
      · cases h
/-- list(x), x a place's list of shared things -/
@[simp] def cpyP (s : Nat) (ps : List OT → Option (List Stp)) : List OT → Option OT := fun e => match plO s ps e with
  | some (.lst xs) => match shs xs with
    | none => none
    | some ds => some (.lst (ds.map .sh))
  | some (.sh (.lst ds)) => some (.lst (ds.map .sh))
  | some (.sh (.tup ds)) => some (.lst (ds.map .sh))
  | _ => none
theorem f_cpyP (hk : X.K = k.K) (hm : X.mg "list" = none) (ha : PE X a (tP k s ps)) (hg : Gl X "list" := by rfl) (he : starEach [a] X.env = (false, eval a X.env) :: starEach [] X.env := by rfl) (hpl : (backTo pos (starEach [] X.env)).any (·.1) = false := by rfl) : PE X (.Call (.Name "list" p0) [a] [] pos) (tF k (cpyP s ps)) :=
  pe_imp (pe_callTy (hk ▸ call_list_of) hg hm (by decide +kernel) (pa_cons ha pa_nil he) (by decide) (by decide) he hpl) fun σ H Q ⟨G, B, w, env, o, S, h, q⟩ => by
    unfold cpyP at h
    split at h
    · rename_i xs e1
      split at h
      · cases h
      · rename_i ds hds
        cases h
        obtain ⟨l, o0, h1, h2, h3, h4⟩ := plO_some e1
        refine ⟨G, B, w, env, l, o0, _, S, h1, h2, h3, h4, fun v u B1 H1 S1 m1 hv P => ?_⟩
        obtain ⟨ρ, r, _⟩ := P
        obtain ⟨p, rfl⟩ := lst_ref r
        obtain ⟨_, vs, hp, rr⟩ := lst_root r
        refine ⟨p, vs, rfl, .inl (SqL.of hp), fun l hl => ?_⟩
        obtain ⟨S2, T2⟩ := lst_new S1 hl (shs_rep hds rr)
        exact q _ _ _ _ S2 T2 (m1.trans ⟨.refl _, same_newH hl⟩)
    · rename_i ds e1
      cases h
      obtain ⟨l, o0, h1, h2, h3, h4⟩ := plO_some e1
      refine ⟨G, B, w, env, l, o0, _, S, h1, h2, h3, h4, fun v u B1 H1 S1 m1 hv P => ?_⟩
      obtain ⟨ρ, r, _⟩ := P
      simp only [ORep, Rep] at r
      obtain ⟨p, vs, rfl, g1, g2⟩ := r
      refine ⟨p, vs, rfl, .inl (sqR S1.bh g1), fun l hl => ?_⟩
      obtain ⟨S2, T2⟩ := lst_new S1 hl g2
      exact q _ _ _ _ S2 T2 (m1.trans ⟨.refl _, same_newH hl⟩)
    · rename_i ds e1
      cases h
      obtain ⟨l, o0, h1, h2, h3, h4⟩ := plO_some e1
      refine ⟨G, B, w, env, l, o0, _, S, h1, h2, h3, h4, fun v u B1 H1 S1 m1 hv P => ?_⟩
      obtain ⟨ρ, r, _⟩ := P
      simp only [ORep, Rep] at r
      obtain ⟨p, vs, rfl, g1, g2⟩ := r
      refine ⟨p, vs, rfl, .inr (sqT_mono S1.bh g1), fun l hl => ?_⟩
      obtain ⟨S2, T2⟩ := lst_new S1 hl g2
      exact q _ _ _ _ S2 T2 (m1.trans ⟨.refl _, same_newH hl⟩)
    · cases h
end
end DL
/-! Slices of tuples and texts, sums of tuples, methods of texts. -/
namespace DL
open PySem L2 PySem.Spec PyProof.Rows
section
variable {k : KC} {W : WX} {X : Cx} {pos p0 apos : Pos} {a b c e o : Expr} {fa fb fc : List OT → Option Dat} {es : List Expr} {fs : List OT → Option (List Dat)}
/-- a slice, as a shared thing -/
def sliD (fa : List OT → Option Dat) (l h : List OT → Option (Option Int)) : List OT → Option Dat := fun e => match fa e with
  | none => none
  | some x => match l e with
    | none => none
    | some lo => match h e with
      | none => none
      | some hi => match x with
        | .tup xs => some (.tup (cutD xs lo hi))
        | .lst xs => some (.lst (cutD xs lo hi))
        | .str z => if z.length ≤ 16000000 then some (.str (cutS z lo hi)) else none
        | _ => none
theorem cut_all {α : Type} {xs : List α} {lo hi : Option Int} (h : HT.sIx xs.length 0 lo = 0 ∧ HT.sIx xs.length xs.length hi = xs.length) : cutD xs lo hi = xs := by
  unfold cutD
  rw [h.1, h.2]
  simp
theorem d_sli {lo hi : Option Expr} {p2 : Pos} {fl fh : List OT → Option (Option Int)} (hk : X.K = k.K) (ha : PE X a (tD k fa)) (hl : PO X lo (tO k fl)) (hh : PO X hi (tO k fh)) : PE X (.Subscript a (.Slice lo hi none p2) pos) (tD k (sliD fa fl fh)) :=
  pe_imp (pe_slice ((hk ▸ sl_list : SlR X (rSlL k.K)).or ((hk ▸ sl_tupA : SlR X (rSlA k.K)).or sl_str)) ha hl hh) fun σ H Q ⟨G, B, w, env, d, S, h, q⟩ => by
    unfold sliD at h
    split at h
    · cases h
    · rename_i x e1
      split at h
      · cases h
      · rename_i l e2
        split at h
        · cases h
        · rename_i u e3
          refine ⟨G, B, w, env, x, S, e1, fun v B1 H1 S1 m1 r1 => ⟨G, B1, w, env, l, S1, e2, fun B2 H2 S2 m2 => ⟨G, B2, w, env, u, S2, e3, fun B3 H3 S3 m3 => ?_⟩⟩⟩
          have m4 : Mv B H B3 H3 := m1.trans (m2.trans m3)
          have r3 := r1.mono (m2.trans m3).1
          split at h
          · rename_i xs
            cases h
            have r3' := r3
            simp only [Rep] at r3
            obtain ⟨p, vs, rfl, h1, h2⟩ := r3
            have hl := h2.length
            refine .inr (.inl ⟨p, vs, rfl, sqT_mono S3.bh h1, fun hz => ?_, fun _ p' hp' => ?_⟩)
            · refine q _ B3 H3 S3 m4 ?_
              rw [cut_all (by rw [hl]; exact hz)]
              exact r3'
            · refine q _ _ _ (S3.new hp') (m4.trans ⟨same_new S3.bh hp', same_newH hp'⟩) ?_
              simp only [Rep]
              exact ⟨p', _, rfl, .of upd_same, (cut_rep (lo := l) (hi := u) h2).mono (same_new S3.bh hp')⟩
          · rename_i xs
            cases h
            simp only [Rep] at r3
            obtain ⟨p, vs, rfl, h1, h2⟩ := r3
            refine .inl ⟨p, vs, rfl, sqR S3.bh h1, fun p' hp' => ?_⟩
            refine q _ _ _ (S3.new hp') (m4.trans ⟨same_new S3.bh hp', same_newH hp'⟩) ?_
            simp only [Rep]
            exact ⟨p', _, rfl, .of upd_same, (cut_rep (lo := l) (hi := u) h2).mono (same_new S3.bh hp')⟩
          · rename_i z
            split at h
            · rename_i hz
              cases h
              simp only [Rep] at r3
              subst r3
              exact .inr (.inr ⟨z, rfl, sl16 hz, q _ B3 H3 S3 m4 (by simp only [Rep])⟩)
            · cases h
          · cases h
/-- + of tuples, too -/
def sumT : Dat → Dat → Option Dat
  | .tup xs, .tup ys => if xs.length + ys.length ≤ 16000000 ∧ xs ≠ [] then some (.tup (xs ++ ys)) else none
  | x, y => sumD x y
theorem rd_sumT : RD k (fun x y H Q => rCatT k.K x y H Q ∨ ((rCatR k.K x y H Q) ∨ ((rI0 fun i j => .int (i + j)) x y H Q ∨ ∃ i j, x = .str i ∧ y = .str j ∧ i.length + j.length ≤ sizeLine ∧ Q (.str (i ++ j)) H))) sumT := fun B H x y d v u Q hs rx ry e q => by
  unfold sumT at e
  split at e
  · rename_i xs ys
    split at e
    · rename_i hl
      cases e
      have rx' := rx
      simp only [Rep] at rx ry
      obtain ⟨p, vs, rfl, h1, h2⟩ := rx
      obtain ⟨p', us, rfl, h3, h4⟩ := ry
      refine .inl ⟨p, p', vs, us, rfl, rfl, sqT_mono hs h1, sqT_mono hs h3, fun z => ?_, by rw [← h2.length, ← h4.length]; exact sl16 hl.1, fun z => ?_, fun _ q1 hq => q _ _ _ (.new .refl hq) ?_⟩
      · have := h2.length
        rw [z] at this
        exact hl.2 (List.eq_nil_of_length_eq_zero this)
      · have : ys = [] := by
          have := h4.length
          rw [z] at this
          exact List.eq_nil_of_length_eq_zero this
        subst this
        refine q _ B H .refl ?_
        rw [List.append_nil]
        exact rx'
      · simp only [Rep]
        exact ⟨q1, vs ++ us, rfl, .of upd_same, (h2.append h4).mono (same_new hs hq)⟩
    · cases e
  · exact .inr (rd_sum B H x y d v u Q hs rx ry e q)
theorem d_sumT (hk : X.K = k.K) (ha : PE X a (tD k fa)) (hb : PE X b (tD k fb)) : PE X (.BinOp a .Add b pos) (tD k (bin sumT fa fb)) := d_op ((hk ▸ op_catT : OpR X (binaryOp .Add) (rCatT k.K)).or ((hk ▸ op_catR : OpR X (binaryOp .Add) (rCatR k.K)).or (op_add.or op_add_str))) rd_sumT ha hb
/-! ### texts -/
@[simp] def uppD (fa : List OT → Option Dat) : List OT → Option Dat := fun e => match fa e with
  | some (.str z) => if z.length ≤ 5000000 then some (.str (Txt.upper z)) else none
  | _ => none
theorem d_upper (ho : PE X o (tD k fa)) (hbase : attributeBase o "upper" X.env (eval o X.env) = eval o X.env := by rfl) (hline : (apos.endLine == pos.line) = true := by rfl) : PE X (.Call (.Attribute o "upper" apos) [] [] pos) (tD k (uppD fa)) :=
  pe_imp (pe_upper ho hbase hline) fun σ H Q ⟨G, B, w, env, d, S, h, q⟩ => by
    unfold uppD at h
    split at h
    · rename_i z e1
      split at h
      · rename_i hz
        cases h
        refine ⟨G, B, w, env, _, S, e1, fun v B1 H1 S1 m r => ?_⟩
        simp only [Rep] at r
        subst r
        exact ⟨⟨z, rfl⟩, z, rfl, rfl, by omega, q _ B1 H1 S1 m (by simp only [Rep])⟩
      · cases h
    · cases h
@[simp] def prtD (fa fb : List OT → Option Dat) : List OT → Option Dat := fun e => match fa e with
  | some (.str z) => match fb e with
    | some (.str t) => if z.length ≤ 16000000 ∧ (t.length == 0) = false then some (.tup [.str (Txt.partition z t).1, .str (Txt.partition z t).2.1, .str (Txt.partition z t).2.2]) else none
    | _ => none
  | _ => none
theorem d_partition (ho : PE X o (tD k fa)) (he : PE X e (tD k fb)) (hs : starEach [e] X.env = [(false, eval e X.env)] := by rfl) (hbase : attributeBase o "partition" X.env (eval o X.env) = eval o X.env := by rfl) (hline : (apos.endLine == pos.line) = true := by rfl) : PE X (.Call (.Attribute o "partition" apos) [e] [] pos) (tD k (prtD fa fb)) :=
  pe_imp (pe_partition ho he hs hbase hline) fun σ H Q ⟨G, B, w, env, d, S, h, q⟩ => by
    unfold prtD at h
    split at h
    · rename_i z e1
      split at h
      · rename_i t e2
        split at h
        · rename_i hz
          cases h
          refine ⟨G, B, w, env, _, S, e1, fun v B1 H1 S1 m r => ?_⟩
          simp only [Rep] at r
          subst r
          refine ⟨⟨z, rfl⟩, G, B1, w, env, _, S1, e2, fun u B2 H2 S2 m2 r2 => ?_⟩
          simp only [Rep] at r2
          subst r2
          refine ⟨z, t, rfl, rfl, hz.2, sl16 hz.1, fun p hp => q _ _ _ (S2.new hp) ((m.trans m2).trans ⟨same_new S2.bh hp, same_newH hp⟩) ?_⟩
          simp only [Rep]
          refine ⟨p, _, rfl, .of upd_same, ?_⟩
          simp [Reps, Rep]
        · cases h
      · cases h
    · cases h
@[simp] def strOfI : List Dat → Option Dat
  | [.int i] => if i.natAbs.log2 < 1920 then some (.str (toString i)) else none
  | _ => none
theorem rc_str : RC k (fun xs H Q => ∃ i, xs = [.int i] ∧ i.natAbs.log2 < 1920 ∧ Q (.str (toString i)) H) strOfI := by
  intro B H ds d vs Q hs r e q
  unfold strOfI at e
  split at e
  · split at e
    · rename_i hz
      cases e
      obtain ⟨v, rfl, rv⟩ := reps1 r
      simp only [Rep] at rv
      subst rv
      exact ⟨_, rfl, hz, q _ B H .refl (by simp only [Rep])⟩
    · cases e
  · cases e
theorem d_str {e : Expr} (hm : X.mg "str" = none) (ha : PA X [e] (tA k fs)) (hg : Gl X "str" := by rfl) (he : starEach [e] X.env = (false, eval e X.env) :: starEach [] X.env := by rfl) (hpl : (backTo pos (starEach [] X.env)).any (·.1) = false := by rfl) : PE X (.Call (.Name "str" p0) [e] [] pos) (tD k (cal strOfI fs)) :=
  d_ct call_str_int rc_str hm (by decide +kernel) ha hg (by decide) (by decide) he hpl
end
end DL
/-! A call that only looks: one's own trees are handed as if shared, and what comes back holds none of them. -/
namespace DL
open PySem PySem.Spec L2
mutual
/-- no tuple of one's own in it -/
def OT.nt : OT → Bool
  | .un => false
  | .sh _ => true
  | .tup _ => false
  | .lst xs => OT.nts xs
  | .obj _ _ xs => OT.nts xs
  | .dct _ xs => OT.nts xs
  | .lent _ => false
  | .pin => false
def OT.nts : List OT → Bool
  | [] => true
  | o :: os => o.nt && OT.nts os
end
mutual
/-- scalars and tuples of such -/
def Dat.tl : Dat → Bool
  | .non => true
  | .bl _ => true
  | .int _ => true
  | .str _ => true
  | .tup xs => Dat.tls xs
  | .lst _ => false
  | .obj _ _ _ => false
  | .dct _ _ => false
  | .exn _ _ _ => false
def Dat.tls : List Dat → Bool
  | [] => true
  | d :: ds => d.tl && Dat.tls ds
end
mutual
/-- a tree of one's own over scalars and tuples of such -/
def OT.tlo : OT → Bool
  | .un => false
  | .sh d => d.tl
  | .tup xs => OT.tlos xs
  | .lst xs => OT.tlos xs
  | .obj _ _ xs => OT.tlos xs
  | .dct _ xs => OT.tlos xs
  | .lent _ => false
  | .pin => false
def OT.tlos : List OT → Bool
  | [] => true
  | o :: os => o.tlo && OT.tlos os
end
def tupC : HO → Bool
  | .tup _ => true
  | .frz _ (.tup _) => true
  | _ => false
/-- what is shared, and one's own cells but tuples -/
def vwB (B H : Hp) (w : WM) : Hp := fun a => match B a with
  | some u => some u
  | none => match H a with
    | some u => if (w a).isSome = true ∧ tupC u = false then some u else none
    | none => none
theorem vwB_B {B H : Hp} {w : WM} : Same B (vwB B H w) := fun a u h => by simp only [vwB, h]
theorem vwB_H {B H : Hp} {w : WM} (s : Same B H) : Same (vwB B H w) H := fun a u h => by
  unfold vwB at h
  split at h
  · rename_i u' e
    cases h
    exact s a _ e
  · split at h
    · rename_i u' e
      split at h
      · cases h
        exact e
      · cases h
    · cases h
theorem vwB_own {B H : Hp} {w : WM} (s : Same B H) {p : Addr} {u : HO} (h : H p = some u) (hw : w p ≠ none) (ht : tupC u = false) : vwB B H w p = some u := by
  unfold vwB
  cases e : B p with
  | some u' =>
    have := s p u' e
    rw [h] at this
    cases this
    rfl
  | none =>
    simp only [h]
    rw [if_pos ⟨by cases e2 : w p with
      | none => exact absurd e2 hw
      | some _ => rfl, ht⟩]
section
variable {k : KC} {X : Cx} {pos p0 p1 apos : Pos} {a e : Expr} {es : List Expr} {fa : List OT → Option Dat} {fs : List OT → Option (List Dat)}
theorem vwB_mono {G : Gh} {B H B' H' : Hp} {w : WM} {σ : L2.St} {env : List OT} (m : Mv B H B' H') (S : Sta k G B' H' w σ env) : Same (vwB B H w) (vwB B' H' w) := fun a u h => by
  unfold vwB at h
  split at h
  · rename_i u' e
    cases h
    exact vwB_B a _ (m.1 a _ e)
  · split at h
    · rename_i u' e
      split at h
      · rename_i hc
        cases h
        exact vwB_own S.bh (m.2 a _ e) (fun z => by rw [z] at hc; cases hc.1) hc.2
      · cases h
    · cases h
mutual
theorem ORep.view {B V H : Hp} {w : WM} (e : Same B V) (hV : ∀ p u, H p = some u → w p ≠ none → tupC u = false → V p = some u) : ∀ {π : List Nat} {o : OT} {v : L2.V}, o.nt = true → ORep k B H w π o v → Rep k V o.dat v
  | π, .un, v, z, h => by simp [OT.nt] at z
  | π, .sh d, v, z, h => by
    simp only [ORep, OT.dat] at h ⊢
    exact h.mono e
  | π, .tup xs, v, z, h => by simp [OT.nt] at z
  | π, .lst xs, v, z, h => by
    simp only [ORep, OT.dat, Rep] at h ⊢
    obtain ⟨p, vs, rfl, hp, hw, hr⟩ := h
    exact ⟨p, vs, rfl, .of (hV p _ hp (by rw [hw]; exact fun z => nomatch z) rfl), OReps.view e hV (by simpa only [OT.nt] using z) hr⟩
  | π, .obj c ns xs, v, z, h => by
    simp only [ORep, OT.dat, Rep] at h ⊢
    obtain ⟨p, dx, vs, rfl, hp, hl, hw, hr⟩ := h
    exact ⟨p, dx, vs, rfl, hV p _ hp (by rw [hw]; exact fun z => nomatch z) rfl, hl, OReps.view e hV (by simpa only [OT.nt] using z) hr⟩
  | π, .dct ks xs, v, z, h => by
    simp only [ORep, OT.dat, Rep] at h ⊢
    obtain ⟨p, vs, rfl, hp, hl, hw, hr⟩ := h
    exact ⟨p, vs, rfl, .of (hV p _ hp (by rw [hw]; exact fun z => nomatch z) rfl), hl, OReps.view e hV (by simpa only [OT.nt] using z) hr⟩
  | π, .lent o, v, z, h => by simp [OT.nt] at z
  | π, .pin, v, z, h => by simp [OT.nt] at z
theorem OReps.view {B V H : Hp} {w : WM} (e : Same B V) (hV : ∀ p u, H p = some u → w p ≠ none → tupC u = false → V p = some u) : ∀ {π : List Nat} {n : Nat} {os : List OT} {vs : List L2.V}, OT.nts os = true → OReps k B H w π n os vs → Reps k V (OT.dats os) vs
  | π, n, [], vs, z, h => by simpa only [OReps, OT.dats, Reps] using h
  | π, n, o :: os, vs, z, h => by
    simp only [OReps, OT.dats, Reps] at h ⊢
    simp only [OT.nts, Bool.and_eq_true] at z
    obtain ⟨v, r, rfl, h1, h2⟩ := h
    exact ⟨v, r, rfl, ORep.view e hV z.1 h1, OReps.view e hV z.2 h2⟩
end
mutual
theorem tl_rep {B V : Hp} (hV : ∀ p u, B p = some u → tupC u = true → V p = some u) : ∀ {d : Dat} {v : L2.V}, d.tl = true → Rep k B d v → Rep k V d v
  | .non, v, z, h => by simpa only [Rep] using h
  | .bl b, v, z, h => by simpa only [Rep] using h
  | .int i, v, z, h => by simpa only [Rep] using h
  | .str x, v, z, h => by simpa only [Rep] using h
  | .tup xs, v, z, h => by
    simp only [Rep] at h ⊢
    obtain ⟨p, vs, rfl, hs, hr⟩ := h
    refine ⟨p, vs, rfl, ?_, tls_rep hV (by simpa only [Dat.tl] using z) hr⟩
    rcases hs with (hs | ⟨o, hs⟩) | hs
    · exact .inl (.inl (hV p _ hs rfl))
    · exact .inl (.inr ⟨o, hV p _ hs rfl⟩)
    · exact .inr hs
  | .lst xs, v, z, h => by simp [Dat.tl] at z
  | .obj c ns xs, v, z, h => by simp [Dat.tl] at z
  | .dct ks xs, v, z, h => by simp [Dat.tl] at z
  | .exn c ns xs, v, z, h => by simp [Dat.tl] at z
theorem tls_rep {B V : Hp} (hV : ∀ p u, B p = some u → tupC u = true → V p = some u) : ∀ {ds : List Dat} {vs : List L2.V}, Dat.tls ds = true → Reps k B ds vs → Reps k V ds vs
  | [], vs, z, h => by simpa only [Reps] using h
  | d :: ds, vs, z, h => by
    simp only [Reps] at h ⊢
    simp only [Dat.tls, Bool.and_eq_true] at z
    obtain ⟨v, r, rfl, h1, h2⟩ := h
    exact ⟨v, r, rfl, tl_rep hV z.1 h1, tls_rep hV z.2 h2⟩
end
mutual
theorem ORep.based {B V H : Hp} {w : WM} (hV : ∀ p u, B p = some u → tupC u = true → V p = some u) : ∀ {π : List Nat} {o : OT} {v : L2.V}, o.tlo = true → ORep k B H w π o v → ORep k V H w π o v
  | π, .un, v, z, h => by simp [OT.tlo] at z
  | π, .sh d, v, z, h => by
    simp only [ORep] at h ⊢
    exact tl_rep hV (by simpa only [OT.tlo] using z) h
  | π, .tup xs, v, z, h => by
    simp only [ORep] at h ⊢
    obtain ⟨p, vs, h1, h2, h3, h4⟩ := h
    exact ⟨p, vs, h1, h2, h3, OReps.based hV (by simpa only [OT.tlo] using z) h4⟩
  | π, .lst xs, v, z, h => by
    simp only [ORep] at h ⊢
    obtain ⟨p, vs, h1, h2, h3, h4⟩ := h
    exact ⟨p, vs, h1, h2, h3, OReps.based hV (by simpa only [OT.tlo] using z) h4⟩
  | π, .obj c ns xs, v, z, h => by
    simp only [ORep] at h ⊢
    obtain ⟨p, dx, vs, h1, h2, h3, h4, h5⟩ := h
    exact ⟨p, dx, vs, h1, h2, h3, h4, OReps.based hV (by simpa only [OT.tlo] using z) h5⟩
  | π, .dct ks xs, v, z, h => by
    simp only [ORep] at h ⊢
    obtain ⟨p, vs, h1, h2, h3, h4, h5⟩ := h
    exact ⟨p, vs, h1, h2, h3, h4, OReps.based hV (by simpa only [OT.tlo] using z) h5⟩
  | π, .lent o, v, z, h => by simp [OT.tlo] at z
  | π, .pin, v, z, h => by simp [OT.tlo] at z
theorem OReps.based {B V H : Hp} {w : WM} (hV : ∀ p u, B p = some u → tupC u = true → V p = some u) : ∀ {π : List Nat} {n : Nat} {os : List OT} {vs : List L2.V}, OT.tlos os = true → OReps k B H w π n os vs → OReps k V H w π n os vs
  | π, n, [], vs, z, h => by simpa only [OReps] using h
  | π, n, o :: os, vs, z, h => by
    simp only [OReps] at h ⊢
    simp only [OT.tlos, Bool.and_eq_true] at z
    obtain ⟨v, r, rfl, h1, h2⟩ := h
    exact ⟨v, r, rfl, ORep.based hV z.1 h1, OReps.based hV z.2 h2⟩
end
/-! ### values to look at -/
def tV (k : KC) (f : List OT → Option Dat) : TE := fun σ H Q => ∃ G B w env d, Sta k G B H w σ env ∧ f env = some d ∧ ∀ v B' H', Sta k G B' H' w σ env → Mv B H B' H' → Rep k (vwB B' H' w) d v → Q v H'
def tAV (k : KC) (f : List OT → Option (List Dat)) : TA := fun σ H Q => ∃ G B w env d, Sta k G B H w σ env ∧ f env = some d ∧ ∀ v B' H', Sta k G B' H' w σ env → Mv B H B' H' → Reps k (vwB B' H' w) d v → Q v H'
theorem v_of (ha : PE X a (tD k fa)) : PE X a (tV k fa) := pe_imp ha fun σ H Q ⟨G, B, w, env, d, S, h, q⟩ => ⟨G, B, w, env, d, S, h, fun v B' H' S' m r => q v B' H' S' m (r.mono vwB_B)⟩
/-- a place's tree, looked at by a call -/
@[simp] def vwP (s : Nat) (ps : List OT → Option (List Stp)) : List OT → Option Dat := fun e => match plO s ps e with
  | some t => if t.nt then some t.dat else none
  | none => none
theorem v_vwP {ps : List OT → Option (List Stp)} {s : Nat} (h : PE X e (tP k s ps)) : PE X e (tV k (vwP s ps)) := pe_imp h fun σ H Q ⟨G, B, w, env, d, S, h, q⟩ => by
  unfold vwP at h
  split at h
  · rename_i t e1
    split at h
    · rename_i z
      cases h
      obtain ⟨l, o, h1, h2, h3, h4⟩ := plO_some e1
      refine ⟨G, B, w, env, l, o, _, S, h1, h2, h3, h4, fun v u B' H' S' m hv P => ?_⟩
      obtain ⟨ρ, r, _⟩ := P
      exact q u B' H' S' m (r.view vwB_B (fun p u' hp hw ht => vwB_own S'.bh hp hw ht) z)
    · cases h
  · cases h
theorem av_nil : PA X [] (tAV k nilA) := pa_imp pa_nil fun σ H Q ⟨G, B, w, env, d, S, h, q⟩ => by
  cases h
  exact q [] B H S .refl .nil
theorem av_cons (ha : PE X e (tV k fa)) (hr : PA X es (tAV k fs)) (hs : starEach (e :: es) X.env = (false, eval e X.env) :: starEach es X.env := by rfl) : PA X (e :: es) (tAV k (consA fa fs)) :=
  pa_imp (pa_cons ha hr hs) fun σ H Q ⟨G, B, w, env, d, S, h, q⟩ => by
    obtain ⟨x, xs, hx, hxs, rfl⟩ := consA_some h
    exact ⟨G, B, w, env, x, S, hx, fun v B1 H1 S1 m1 r1 => ⟨G, B1, w, env, xs, S1, hxs, fun vs B2 H2 S2 m2 r2 => q _ B2 H2 S2 (m1.trans m2) (.cons (r1.mono (vwB_mono m2 S2)) r2)⟩⟩
@[simp] def callV (n : Nat) (f : List Dat → Option OT) (fs : List OT → Option (List Dat)) : List OT → Option OT := fun e => match fs e with
  | none => none
  | some ds => if ds.length = n then
      match f ds with
      | none => none
      | some o => if o.tlo = true then some o else none
    else none
theorem callV_core {n : Nat} {dvs : List L2.V} {dds : List Dat} {m : Nat} {f0 : List Dat → Option OT} {G : Gh} {B1 H1 : Hp} {w : WM} {σ : L2.St} {env : List OT} {ds : List Dat} {vs : List L2.V} {o : OT} {Q : VK} {E : XK}
    (hdd : ∀ B, Reps k B dds dvs) (hm : n + dds.length = m) (hl : ds.length = n) (hf : f0 (ds ++ dds) = some o) (ht : o.tlo = true) (S1 : Sta k G B1 H1 w σ env) (r1 : Reps k (vwB B1 H1 w) ds vs)
    (q : ∀ v B' H' w1, Sta k G B' H' w σ env → Vt k G B' H' w w1 o v → Mv B1 H1 B' H' → Q v H') : spP k m f0 (vs ++ dvs) H1 Q E := by
  refine ⟨vwB B1 H1 w, ds ++ dds, o, vwB_H S1.bh, r1.append (hdd _), by rw [List.length_append, hl, hm], hf, fun v B' H' w1 m1 m2 m3 m4 m5 r nl => ?_⟩
  let B2 : Hp := fun a => if (w a).isSome = true then none else B' a
  have b2 : ∀ {a}, w a = none → B2 a = B' a := fun {a} h => by simp only [B2, h]; rfl
  have b2' : ∀ {a}, w a ≠ none → B2 a = none := fun {a} h => by
    cases e : w a with
    | none => exact absurd e h
    | some _ => simp only [B2, e]; rfl
  have sB2 : Same B1 B2 := fun a u h => by
    have hw : w a = none := by
      cases e : w a with
      | none => rfl
      | some _ =>
        have := S1.wb a (by rw [e]; exact fun z => nomatch z)
        rw [h] at this
        cases this
    rw [b2 hw]
    exact m1 a u (vwB_B a u h)
  have B2H : Same B2 H' := fun a u h => by
    simp only [B2] at h
    split at h
    · cases h
    · exact m2 a u h
  have up : ∀ {a}, H1 a ≠ none → H' a = H1 a := fun {a} hh => by
    cases u : H1 a with
    | none => exact absurd u hh
    | some u' => exact m3 a u' u
  have hV : ∀ p u, B' p = some u → tupC u = true → B2 p = some u := fun p u hp hu => by
    have hw : w p = none := by
      cases e : w p with
      | none => rfl
      | some _ =>
        exfalso
        have hw : w p ≠ none := by rw [e]; exact fun z => nomatch z
        cases e1 : H1 p with
        | none => exact S1.wh p hw e1
        | some u1 =>
          by_cases ht1 : tupC u1 = false
          · have := m1 p _ (vwB_own S1.bh e1 hw ht1)
            rw [hp] at this
            cases this
            rw [hu] at ht1
            cases ht1
          · have nv : vwB B1 H1 w p = none := by
              simp only [vwB, S1.wb p hw, e1]
              rw [if_neg fun z => ht1 z.2]
            have := m4 p nv (by rw [e1]; exact fun z => nomatch z)
            rw [hp] at this
            cases this
    rw [b2 hw]
    exact hp
  have SS : Sta k G B2 H' w σ env := ⟨B2H, S1.b0.trans sB2, fun a h1 h2 h3 => by
      obtain ⟨x, y, z⟩ := S1.fr a h1 h2 h3
      have hh : H1 a ≠ none := by rw [y]; exact h2
      have nv : vwB B1 H1 w a = none := by
        simp only [vwB, x]
        cases e : H1 a with
        | none => rfl
        | some _ => simp only [z]; rfl
      refine ⟨?_, ?_, z⟩
      · rw [b2 z]
        exact m4 a nv hh
      · rw [← y]
        exact up hh, fun a h => b2' h, (fun a h => by
      rw [up (S1.wh a h)]
      exact S1.wh a h), S1.len, (fun i o h => by
    rcases S1.sl i o h with e | ⟨u, hu, r'⟩
    · exact .inl e
    · refine .inr ⟨u, hu, r'.frame sB2 fun p ρ e => ⟨e, ?_⟩⟩
      exact up (S1.wh p (by rw [e]; exact fun z => nomatch z))), S1.fx⟩
  refine q v B2 H' w1 SS ⟨fun a ha => ?_, r.based hV ht, nl⟩ ⟨sB2, m3⟩
  obtain ⟨x1, x2, x3⟩ := m5 a ha
  have nn := S1.nob x2
  refine ⟨nn.1, ?_, x3, nn.2.2⟩
  rw [b2 nn.1]
  exact x1
theorem f_callV {j n : Nat} {x : Str} {f : List Dat → Option OT} (F : Fn X.prog X.w X.K X.mg X.base k j x n f) (hr : Room j X.A) (ha : PA X (e :: es) (tAV k fs)) (hg : Gl X x := by rfl) (hdb : (x == ("__debug__" : Str)) = false := by decide) (he : starEach (e :: es) X.env = (false, eval e X.env) :: starEach es X.env := by rfl) (hpl : (backTo pos (starEach es X.env)).any (·.1) = false := by rfl) :
    PE X (.Call (.Name x p0) (e :: es) [] pos) (tF k (callV n f fs)) := by
  obtain ⟨fa, fd, ps, dvs, dus, dds, m, f0, FF, hm, hk, hb, hv, hdd, hnm, hff⟩ := F.ex
  refine pe_imp (pe_call FF hr hg hm hk hb hv (E := fun _ _ _ => False) pass0 ha hdb he hpl) fun σ H Q ⟨G, B, w, env, o, S, h, q⟩ => ?_
  cases e1 : fs env with
  | none => simp [callV, e1] at h
  | some ds =>
    simp only [callV, e1] at h
    split at h
    · rename_i hl
      split at h
      · cases h
      · rename_i o' e2
        split at h
        · rename_i ht
          cases h
          refine ⟨G, B, w, env, ds, S, e1, fun vs B1 H1 S1 m1 r1 => ?_⟩
          exact callV_core hdd hnm hl (by rw [← hff ds hl]; exact e2) ht S1 r1 fun v B' H' w1 S2 T m2 => q v B' H' w1 S2 T (m1.trans m2)
        · cases h
    · cases h
end
/-- a body of which nothing is asked -/
theorem pss_none {k : KC} {X : Cx} {st : List Stmt} {W : WX} : PSs X st (tS k W fun _ => none) := ⟨fun pins s σ H D I h => by
  obtain ⟨G, B, w, env, o, S, e, q⟩ := h
  cases e⟩
end DL
/-! Texts: many times, read as a whole number, a sign that is not among them. -/
namespace DL
open PySem L2 PySem.Spec PyProof.Rows
section
variable {k : KC} {W : WX} {X : Cx} {pos p0 apos : Pos} {a b c e o : Expr} {fa fb fc : List OT → Option Dat} {es : List Expr} {fs : List OT → Option (List Dat)}
def repS (z : Str) (n : Nat) : Str := ⟨((List.replicate n z.cps.toList).flatten).toArray⟩
theorem repS_fold (c : Array Nat) : ∀ (n : Nat) (acc : Array Nat), (List.replicate n c).foldl (· ++ ·) acc = acc ++ ((List.replicate n c.toList).flatten).toArray
  | 0, acc => by simp
  | n + 1, acc => by
    rw [List.replicate_succ, List.foldl_cons, repS_fold c n, List.replicate_succ, List.flatten_cons, Array.append_assoc]
    congr 1
    apply Array.ext'
    simp
theorem repS_eq (z : Str) (n : Nat) : (⟨(List.replicate n z.cps).foldl (· ++ ·) #[]⟩ : Str) = repS z n := by
  rw [repS_fold]
  simp [repS]
theorem repS_len (z : Str) (n : Nat) : (repS z n).length = n * z.length := by
  show ((List.replicate n z.cps.toList).flatten).toArray.size = n * z.cps.size
  simp
@[simp] def smulD : Dat → Dat → Option Dat
  | .str z, .int n => if 2 ≤ n ∧ n ≤ 1000 ∧ 0 < z.length ∧ z.length ≤ 1000 then some (.str (repS z n.toNat)) else none
  | _, _ => none
def rSmul : R2 := fun x y H Q => ∃ z n, x = .str z ∧ y = .int n ∧ (2 ≤ n ∧ n ≤ 1000 ∧ 0 < z.length ∧ z.length ≤ 1000) ∧ Q (.str (repS z n.toNat)) H
theorem op_smul : OpR X (binaryOp .Mult) rSmul := by
  intro pins s σ H x y v u Q I rx ry h
  obtain ⟨z, n, rfl, rfl, ⟨h1, h2, h3, h4⟩, q⟩ := h
  obtain ⟨t, rfl⟩ := rx
  obtain ⟨t', rfl⟩ := ry
  have g1 : ¬ n < 1 := by omega
  have g2 : (n == 1 || z.length == 0) = false := by
    rw [Bool.or_eq_false_iff]
    constructor
    · rw [beq_eq_false_iff_ne]; omega
    · rw [beq_eq_false_iff_ne]; omega
  have len : n.toNat * z.length ≤ 1000 * 1000 := Nat.mul_le_mul (by omega) h4
  refine PySem.P.mul_str ?_ ?_ ?_ ?_
  · have a1 : ¬ n < -(2 ^ 63 : Int) := by omega
    have a2 : ¬ n ≥ 2 ^ 63 := by omega
    rw [decide_eq_false a1, decide_eq_false a2]
    rfl
  · intro _ _ hz
    have : (2 ^ 63 - 1) / n ≥ 1000 := by
      have : (1000 : Int) ≤ (2 ^ 63 - 1) / n := (Int.le_ediv_iff_mul_le (by omega)).mpr (by omega)
      exact this
    omega
  · intro _ _
    show PySem.Builtin.Str.tooLong _ = false
    unfold PySem.Builtin.Str.tooLong
    have : z.length * n.toNat ≤ 1000000 := by rw [Nat.mul_comm]; omega
    exact decide_eq_false (by rw [sizeLine_eq]; omega)
  · rw [if_neg g1, if_neg (by rw [g2]; exact Bool.false_ne_true), repS_eq]
    refine ⟨?_, ⟨.str (repS z n.toNat), H, I.tok _, ⟨_, rfl⟩, q⟩⟩
    have := repS_len z n.toNat
    show (repS z n.toNat).length ≤ sizeLine
    rw [sizeLine_eq]
    omega
theorem rd_smul : RD k rSmul smulD := fun B H x y d v u Q hs rx ry e q => by
  unfold smulD at e
  split at e
  · rename_i z n
    split at e
    · rename_i hc
      cases e
      simp only [Rep] at rx ry
      subst rx ry
      exact ⟨z, n, rfl, rfl, hc, q _ B H .refl (by simp only [Rep])⟩
    · cases e
  · cases e
theorem d_smul (ha : PE X a (tD k fa)) (hb : PE X b (tD k fb)) : PE X (.BinOp a .Mult b pos) (tD k (bin smulD fa fb)) := d_op op_smul rd_smul ha hb
/-- int(text) -/
@[simp] def intSD : List Dat → Option Dat
  | [.str z] => if z.length ≤ 640 then (intText? z).map .int else none
  | _ => none
theorem rc_intS : RC k (fun xs H Q => ∃ a n, xs = [.str a] ∧ PySem.intText? a = some n ∧ a.length ≤ 640 ∧ Q (.int n) H) intSD := by
  intro B H ds d vs Q hs r e q
  unfold intSD at e
  split at e
  · rename_i z
    split at e
    · rename_i hz
      obtain ⟨v, rfl, rv⟩ := reps1 r
      simp only [Rep] at rv
      subst rv
      cases hi : intText? z with
      | none => simp [hi] at e
      | some n =>
        simp [hi] at e
        subst e
        exact ⟨z, n, rfl, hi, hz, q _ B H .refl (by simp only [Rep])⟩
    · cases e
  · cases e
theorem d_intS {e : Expr} (hm : X.mg "int" = none) (ha : PA X [e] (tA k fs)) (hg : Gl X "int" := by rfl) (he : starEach [e] X.env = (false, eval e X.env) :: starEach [] X.env := by rfl) (hpl : (backTo pos (starEach [] X.env)).any (·.1) = false := by rfl) : PE X (.Call (.Name "int" p0) [e] [] pos) (tD k (cal intSD fs)) :=
  d_ct call_int_str rc_intS hm (by decide +kernel) ha hg (by decide) (by decide) he hpl
/-- one sign not in a text -/
@[simp] def ninSD : Dat → Dat → Option Dat
  | .str x, .str z => match x.cps.toList with
    | [c] => some (.bl (!decide (c ∈ z.cps.toList)))
    | _ => none
  | _, _ => none
theorem rd_ninS : RD k (fun x y H Q => ∃ (c : Nat) (z : Str), x = .str ⟨#[c]⟩ ∧ y = .str z ∧ Q (.bl (!decide (c ∈ z.cps.toList))) H) ninSD := fun B H x y d v u Q hs rx ry e q => by
  unfold ninSD at e
  split at e
  · rename_i x z
    split at e
    · rename_i c hc
      cases e
      simp only [Rep] at rx ry
      subst rx ry
      have : x = ⟨#[c]⟩ := by
        cases x with
        | mk a =>
          congr 1
          apply Array.ext'
          exact hc
      subst this
      exact ⟨c, z, rfl, rfl, q _ B H .refl (by simp only [Rep])⟩
    · cases e
  · cases e
theorem t_ninS (ha : PE X a (tD k fa)) (hb : PE X b (tD k fb)) (hm : behindInMarks .NotIn b = false := by with_unfolding_all rfl) : PT X (.Compare a [.NotIn] [b] pos) (tT k (tst (bin ninSD fa fb))) := t_cmp op_notIn_sign rd_ninS ha hb hm
/-- x[l:h], x a slot's own list of shared things: a new list -/
@[simp] def sliO (i : Nat) (l h : List OT → Option (Option Int)) : List OT → Option OT := fun e => match e[i]? with
  | some (.lst xs) => match shs xs with
    | none => none
    | some ds => match l e with
      | none => none
      | some lo => match h e with
        | none => none
        | some hi => some (.lst ((cutD ds lo hi).map .sh))
  | _ => none
theorem f_sliO (i : Nat) {x : Str} {px p2 : Pos} {lo hi : Option Expr} {fl fh : List OT → Option (Option Int)} (hk : X.K = k.K) (hl : PO X lo (tO k fl)) (hh : PO X hi (tO k fh)) (hN : X.N[i]? = some x := by rfl) (hv : Vis X.env.scope x := by first | exact Or.inl rfl | exact Or.inr (Or.inl rfl) | exact Or.inr (Or.inr rfl)) (hd : (x == ("__debug__" : Str)) = false := by decide)
    (hcd : (x == ("__classdict__" : Str)) = false := by decide) : PE X (.Subscript (.Name x px) (.Slice lo hi none p2) pos) (tF k (sliO i fl fh)) := pe_imp (pe_slice (hk ▸ sl_list) (pe_var hN hv hd hcd) hl hh) fun σ H Q ⟨G, B, w, env, o, S, h, q⟩ => by
  unfold sliO at h
  split at h
  · rename_i xs e1
    split at h
    · cases h
    · rename_i ds hds
      split at h
      · cases h
      · rename_i l e2
        split at h
        · cases h
        · rename_i u e3
          cases h
          obtain ⟨p, vs, hp, h1, h2, h3⟩ := S.lst e1
          refine ⟨_, hp, G, B, w, env, l, S, e2, fun B2 H2 S2 m2 => ⟨G, B2, w, env, u, S2, e3, fun B3 H3 S3 m3 => ?_⟩⟩
          obtain ⟨p', vs', hp', h4, h5, h6⟩ := S3.lst e1
          rw [hp] at hp'
          cases hp'
          refine ⟨p, vs', rfl, SqL.of h4, fun p hp => ?_⟩
          obtain ⟨S4, T4⟩ := lst_new S3 hp (cut_rep (lo := l) (hi := u) (shs_rep hds h6))
          exact q _ _ _ _ S4 T4 ((m2.trans m3).trans ⟨.refl _, same_newH hp⟩)
  · cases h
end
end DL
/-! A dict is no text. -/
namespace DL
open PySem L2 PySem.Spec PyProof.Rows Builtin PySem.SeqAt
theorem dict_eq_declines_str (l : Addr) (o : Obj) (hc : o.cls = .type "dict") (b : Str) (u : Tok) :
    Meets (Builtin.«dict.__eq__» ⟨[.ref l, .str b u], []⟩) (fun _ R s => s.heap.get? l = some o ∧ R (.ok (.ret .notImplemented)) s) :=
  .of_wp fun prog w A R s h => by
    obtain ⟨hp, g, d, tk, os⟩ := s
    obtain ⟨hl, h⟩ := h
    obtain ⟨cls, dd, data, sl⟩ := o
    simp only at hc
    subst hc
    have f1 := F.sub_str_dict
    wp_walk using wpAny_loadPart' hl
    exact ⟨_, rfl, h⟩
theorem str_eq_declines_dict (b : Str) (u : Tok) (l : Addr) (c : Value) (es : Array DictEntry) (ep : Nat) (dd : Option Addr) (sl : Array (Option Value)) :
    Meets (Builtin.«str.__eq__» ⟨[.str b u, .ref l], []⟩) (fun _ R s => s.heap.get? l = some { cls := c, dict := dd, data := .dict es ep, slots := sl } ∧ R (.ok (.ret .notImplemented)) s) :=
  .of_wp fun prog w A R s h => by
    obtain ⟨hp, g, d, tk, os⟩ := s
    obtain ⟨hl, h⟩ := h
    wp_walk using wpAny_loadPart' hl, wpAny_load hl
    exact ⟨_, rfl, h⟩
theorem rc_dict_str {A : Around} {s : Shared} {l : Addr} {o : Obj} {es : Array DictEntry} {ep : Nat} (b : Str) (u : Tok) (ho : s.heap.get? l = some o) (hc : o.cls = .type "dict") (hd : o.data = .dict es ep) (hu : A.units < cLine) : RcAt A s (.ref l) (.str b u) false := fun prog w E Q h => by
  obtain ⟨cls, dd, data, sl⟩ := o
  simp only at hc hd
  subst hc hd
  exact rc_eq_decline_or (k := false) ⟨_, ho, rfl⟩ (typeIs_str s b u) (by decide) F.sub_str_dict F.slot_dict_eq F.slot_str_eq_refl
    (fun _ hq => call_meets F.slot_dict_eq ⟨_, ho, rfl⟩ F.entry_dict_eq (F.args_dict_eq_2 _ _) (dict_eq_declines_str l _ rfl b u) ⟨ho, hq⟩)
    (fun _ hq => call_meets F.slot_str_eq_refl (typeIs_str s b u) F.entry_str_eq (F.args_str_eq_2 _ _) (str_eq_declines_dict b u l (.type "dict") es ep dd sl) ⟨ho, hq⟩)
    (fun _ hq => wpAny_of_eq (rfl : isSame (.ref l) (.str b u) = pure false) hq) (.inr hu) h
section
variable {k : KC} {W : WX} {X : Cx} {pos p0 apos : Pos} {a b c e o : Expr} {fa fb fc : List OT → Option Dat}
def rEqDS : R2 := fun x y H Q => ∃ p kvs z, x = .ref p ∧ Rd H p (.dK kvs) ∧ y = .str z ∧ Q (.bl false) H
theorem op_eqDS (hu : X.A.units + 64 < cLine) : OpR X (compareOp .Eq) rEqDS := by
  intro pins s σ H x y v u Q I rx ry h
  obtain ⟨p, kvs, z, rfl, hp, rfl, q⟩ := h
  obtain rfl : v = Value.ref p := rx
  obtain ⟨t, rfl⟩ := ry
  obtain ⟨_, _, vs, _, ob, es, ep, g1, g2, g3, _⟩ := hp.ok I.hok
  exact rc_dict_str z t g1 g2.1 g3 (by omega) _ _ _ _ ⟨.bl false, H, I, rfl, q⟩
/-- == where the left may be a dict and the right is a text -/
def eqX : Dat → Dat → Option Dat
  | .dct _ _, .str _ => some (.bl false)
  | x, y => eqD x y
theorem rd_eqX : RD k (fun x y H Q => rEqDS x y H Q ∨ (rEq x y H Q ∨ rEqD k.K x y H Q)) eqX := fun B H x y d v u Q hs rx ry e q => by
  unfold eqX at e
  split at e
  · rename_i ks ds z
    cases e
    simp only [Rep] at rx ry
    obtain ⟨p, vs, rfl, g1, g2, g3⟩ := rx
    subst ry
    exact .inl ⟨p, _, z, rfl, (g1.elim (fun h => .inl (hs _ _ h)) fun ⟨o, h⟩ => .inr ⟨o, hs _ _ h⟩), rfl, q _ B H .refl (by simp only [Rep])⟩
  · exact .inr (rd_eq B H x y d v u Q hs rx ry e q)
theorem t_eqX (hk : X.K = k.K) (hu : X.A.units + 64 < cLine) (ha : PE X a (tD k fa)) (hb : PE X b (tD k fb)) : PT X (.Compare a [.Eq] [b] pos) (tT k (tst (bin eqX fa fb))) := t_cmp ((op_eqDS hu).or (op_eq.or (hk ▸ op_eqD hu))) rd_eqX ha hb (nomark _)
end
section
variable {X : Cx} {k : KC} {W : WX} {p0 pos : Pos} {e : Expr} {es : List Expr} {fs : List OT → Option (List Dat)}
/-- x = f(..), where f may raise; what it tells is melted -/
@[simp] def setXM (i n : Nat) (f : List Dat → Option Res) (fs : List OT → Option (List Dat)) : List OT → Option Out := fun e => match fs e with
  | none => none
  | some ds => if ds.length = n then match f ds with
      | some (.ok o) => if i < e.length ∧ o.ok = true then some (.nx (e.set i (.sh o.dat))) else none
      | some (.ex c ns xs) => some (.ex c ns xs e)
      | none => none
    else none
theorem s_setXM (i : Nat) {j n : Nat} {x y : Str} {f : List Dat → Option Res} {pos' pos2 : Pos} (hN : X.N.Nodup) (F : FnX X.prog X.w X.K X.mg X.base k j x n f) (hr : Room j X.A) (tk : Takes X W) (ha : PA X (e :: es) (tA k fs)) (hi : X.N[i]? = some y := by rfl) (hx : Loc X.env.scope y := by first | exact .inl rfl | exact .inr rfl)
    (hs : swapsWith (.Call (.Name x p0) (e :: es) [] pos) (some (.Name y pos')) pos2.line X.env = pure false := by rfl) (hf : X.fn y = true ∨ X.env.scope.names.lookup y = some .local := by first | exact .inl rfl | exact .inr rfl | assumption)
    (hg : Gl X x := by rfl) (hdb : (x == ("__debug__" : Str)) = false := by decide) (he : starEach (e :: es) X.env = (false, eval e X.env) :: starEach es X.env := by rfl) (hpl : (backTo pos (starEach es X.env)).any (·.1) = false := by rfl) :
    PS X (.Assign [.Name y pos'] (.Call (.Name x p0) (e :: es) [] pos) pos2) (tS k W (setXM i n f fs)) := ps_imp (ps_set hN hi hx (pe_callX F hr tk ha hg hdb he hpl) hs hf) fun D σ H ⟨G, B, w, env, o, S, h, q⟩ => by
  unfold setXM at h
  split at h
  · cases h
  · rename_i ds e1
    split at h
    · rename_i hl
      split at h
      · rename_i o' e2
        split at h
        · rename_i hlt
          cases h
          refine ⟨G, B, w, env, ds, _, S, e1, hl, e2, fun o er v B' H' w1 S2 T m2 => ?_, fun c ns xs er => by cases er⟩
          cases er
          obtain ⟨S3, r3⟩ := T.melt S2 hlt.2
          exact q _ _ _ _ (S3.set r3) (m2.1.trans (same_put S2.bh))
        · cases h
      · rename_i c ns xs e2
        cases h
        refine ⟨G, B, w, env, ds, _, S, e1, hl, e2, (fun o er => by cases er), fun c' ns' xs' er cls d B' H' S2 m2 x => ?_⟩
        cases er
        exact q cls d σ B' H' w S2 m2.1 x
      · cases h
    · cases h
end
section
variable {k : KC} {X : Cx} {pos : Pos} {a b : Expr} {fa fb : List OT → Option Dat}
/-- `is not True`, `is not False`, of whole numbers, too -/
@[simp] def isnX : Dat → Dat → Option Dat
  | .bl x, .bl y => some (.bl (x != y))
  | .int _, .bl _ => some (.bl true)
  | _, _ => none
def rIsnX : R2 := fun x y H Q => (∃ c d, x = .bl c ∧ y = .bl d ∧ Q (.bl (c != d)) H) ∨ ∃ c d, x = .int c ∧ y = .bl d ∧ Q (.bl true) H
theorem op_isnX : OpR X (compareOp .IsNot) rIsnX := by
  intro pins s σ H x y v u Q I r1 r2 h
  rcases h with ⟨c, d, rfl, rfl, q⟩ | ⟨c, d, rfl, rfl, q⟩
  · cases (show v = Value.bool c from r1)
    cases (show u = Value.bool d from r2)
    exact isnot_bool ⟨.bl _, H, I, rfl, q⟩
  · obtain ⟨t, rfl⟩ := r1
    cases (show u = Value.bool d from r2)
    exact wpAny_pure (a := Value.bool true) ⟨.bl _, H, I, rfl, q⟩
theorem rd_isnX : RD k rIsnX isnX := fun B H x y d v u Q hs rx ry e q => by
  unfold isnX at e
  split at e
  · cases e
    simp only [Rep] at rx ry
    exact .inl ⟨_, _, rx, ry, q _ B H .refl (by simp only [Rep])⟩
  · cases e
    simp only [Rep] at rx ry
    exact .inr ⟨_, _, rx, ry, q _ B H .refl (by simp only [Rep])⟩
  · cases e
theorem d_isnX_ (ha : PE X a (tD k fa)) (hb : PE X b (tD k fb)) : PE X (.Compare a [.IsNot] [b] pos) (tD k (bin isnX fa fb)) := d_cmp op_isnX rd_isnX ha hb (nomark _)
theorem t_isnX_ (ha : PE X a (tD k fa)) (hb : PE X b (tD k fb)) : PT X (.Compare a [.IsNot] [b] pos) (tT k (tst (bin isnX fa fb))) := t_cmp op_isnX rd_isnX ha hb (nomark _)
end
end DL
/-! Dicts told by their pairs; a list or a dict asked at a place. -/
namespace DL
open PySem L2 PySem.Spec PyProof.Rows
section
variable {k : KC} {W : WX} {X : Cx} {pos p0 : Pos} {a b c e : Expr} {fa fb fc : List OT → Option Dat} {G : Gh} {B B' H H' : Hp} {w : WM} {σ : L2.St} {env : List OT}
def keyOf : Dat → Option Key
  | .int i => some (.inl i)
  | .str x => some (.inr x)
  | _ => none
theorem keyOf_rep {d : Dat} {v : V} {κ : Key} (h : keyOf d = some κ) (r : Rep k B d v) : v = kV κ := by
  unfold keyOf at h
  split at h
  · cases h
    simp only [Rep] at r
    exact r
  · cases h
    simp only [Rep] at r
    exact r
  · cases h
abbrev PrF := List OT → Option (List (Key × Dat))
def prN : PrF := fun _ => some []
def prC (fk fv : List OT → Option Dat) (g : PrF) : PrF := fun e => match fk e with
  | none => none
  | some d => match keyOf d with
    | none => none
    | some κ => match fv e with
      | none => none
      | some x => match g e with
        | none => none
        | some r => some ((κ, x) :: r)
structure PPd (X : Cx) (k : KC) (pos : Pos) (keys : List (Option Expr)) (values : List Expr) (g : PrF) : Prop where
  ex : ∃ trs, PPs X pos keys values trs ∧ ∀ (G : Gh) (B : Hp) (w : WM) (env : List OT) (ps : List (Key × Dat)) (σ : L2.St) (H : Hp) (Q : List (V × V) → Hp → Prop), Sta k G B H w σ env → g env = some ps → (∀ B' H' vs, Sta k G B' H' w σ env → Mv B H B' H' → Reps k B' (ps.map (·.2)) vs → Q ((ps.map fun p => kV p.1).zip vs) H') → tPairs trs σ H Q
theorem ppd_nil : PPd X k pos [] [] prN := ⟨[], pps_nil, fun G B w env ps σ H Q S e q => by
  cases e
  exact q B H [] S .refl (by simp only [List.map_nil, Reps])⟩
theorem ppd_cons {kE vE : Expr} {ks : List (Option Expr)} {vs : List Expr} {fk fv : List OT → Option Dat} {g : PrF} (hk : PE X kE (tD k fk)) (hv : PE X vE (tD k fv)) (hr : PPd X k pos ks vs g) : PPd X k pos (some kE :: ks) (vE :: vs) (prC fk fv g) := by
  obtain ⟨trs, h1, h2⟩ := hr.ex
  refine ⟨(tD k fk, tD k fv) :: trs, pps_cons hk hv h1, fun G B w env ps σ H Q S e q => ?_⟩
  unfold prC at e
  split at e
  · cases e
  · rename_i d e1
    split at e
    · cases e
    · rename_i κ e2
      split at e
      · cases e
      · rename_i x e3
        split at e
        · cases e
        · rename_i r e4
          cases e
          refine ⟨G, B, w, env, d, S, e1, fun v B1 H1 S1 m1 r1 => ⟨G, B1, w, env, x, S1, e3, fun u B2 H2 S2 m2 r2 => h2 G B2 w env r σ H2 _ S2 e4 fun B3 H3 vs S3 m3 r3 => ?_⟩⟩
          have := keyOf_rep e2 r1
          subst this
          refine q B3 H3 (u :: vs) S3 (m1.trans (m2.trans m3)) ?_
          simp only [List.map_cons, Reps]
          exact ⟨u, vs, rfl, r2.mono m3.1, r3⟩
/-! a table of pairs, later ones in the place of earlier ones -/
def putD (l : List (Key × Dat)) (κ : Key) (x : Dat) : List (Key × Dat) :=
  if (l.any fun p => decide (p.1 = κ)) = true then l.map (fun p => if p.1 = κ then (p.1, x) else p) else l ++ [(κ, x)]
def mergeD (l more : List (Key × Dat)) : List (Key × Dat) := more.foldl (fun acc p => putD acc p.1 p.2) l
def RK (k : KC) (B : Hp) : List (Key × Dat) → List (Key × V) → Prop
  | [], l => l = []
  | p :: ps, l => ∃ v r, l = (p.1, v) :: r ∧ Rep k B p.2 v ∧ RK k B ps r
theorem RK.of : ∀ {ps : List (Key × Dat)} {vs : List V}, Reps k B (ps.map (·.2)) vs → RK k B ps ((ps.map (·.1)).zip vs)
  | [], vs, h => by simp [RK]
  | p :: ps, vs, h => by
    simp only [List.map_cons, Reps] at h
    obtain ⟨v, r, rfl, h1, h2⟩ := h
    exact ⟨v, _, rfl, h1, RK.of h2⟩
theorem RK.to : ∀ {ps : List (Key × Dat)} {l : List (Key × V)}, RK k B ps l → l = (ps.map (·.1)).zip (l.map (·.2)) ∧ ps.length = l.length ∧ Reps k B (ps.map (·.2)) (l.map (·.2))
  | [], l, h => by
    simp only [RK] at h
    subst h
    exact ⟨rfl, rfl, by simp only [List.map_nil, Reps]⟩
  | p :: ps, l, h => by
    simp only [RK] at h
    obtain ⟨v, r, rfl, h1, h2⟩ := h
    obtain ⟨i1, i2, i3⟩ := RK.to h2
    refine ⟨?_, by simp [i2], ?_⟩
    · simp only [List.map_cons, List.zip_cons_cons]
      rw [← i1]
    · simp only [List.map_cons, Reps]
      exact ⟨v, _, rfl, h1, i3⟩
theorem RK.any {κ : Key} : ∀ {ps : List (Key × Dat)} {l : List (Key × V)}, RK k B ps l → (ps.any fun p => decide (p.1 = κ)) = (l.any fun p => decide (p.1 = κ))
  | [], l, h => by
    simp only [RK] at h
    subst h
    rfl
  | p :: ps, l, h => by
    simp only [RK] at h
    obtain ⟨v, r, rfl, h1, h2⟩ := h
    simp only [List.any_cons, RK.any h2]
theorem RK.repl {κ : Key} {x : Dat} {y : V} (hx : Rep k B x y) : ∀ {ps : List (Key × Dat)} {l : List (Key × V)}, RK k B ps l → RK k B (ps.map fun p => if p.1 = κ then (p.1, x) else p) (l.map fun p => if p.1 = κ then (p.1, y) else p)
  | [], l, h => by
    simp only [RK] at h
    subst h
    simp [RK]
  | p :: ps, l, h => by
    simp only [RK] at h
    obtain ⟨v, r, rfl, h1, h2⟩ := h
    simp only [List.map_cons]
    by_cases e : p.1 = κ
    · rw [if_pos e, if_pos e]
      exact ⟨y, _, rfl, hx, RK.repl hx h2⟩
    · rw [if_neg e, if_neg e]
      exact ⟨v, _, rfl, h1, RK.repl hx h2⟩
theorem RK.snoc {κ : Key} {x : Dat} {y : V} (hx : Rep k B x y) : ∀ {ps : List (Key × Dat)} {l : List (Key × V)}, RK k B ps l → RK k B (ps ++ [(κ, x)]) (l ++ [(κ, y)])
  | [], l, h => by
    simp only [RK] at h
    subst h
    exact ⟨y, [], rfl, hx, rfl⟩
  | p :: ps, l, h => by
    simp only [RK] at h
    obtain ⟨v, r, rfl, h1, h2⟩ := h
    exact ⟨v, _, rfl, h1, RK.snoc hx h2⟩
theorem RK.put {κ : Key} {x : Dat} {y : V} (hx : Rep k B x y) {ps : List (Key × Dat)} {l : List (Key × V)} (h : RK k B ps l) : RK k B (putD ps κ x) (putK l κ y) := by
  unfold putD putK
  rw [h.any]
  split
  · exact h.repl hx
  · exact h.snoc hx
theorem RK.merge : ∀ {more : List (Key × Dat)} {rs : List (Key × V)} {ps : List (Key × Dat)} {l : List (Key × V)}, RK k B more rs → RK k B ps l → RK k B (mergeD ps more) (mergeK l rs)
  | [], rs, ps, l, h, h0 => by
    simp only [RK] at h
    subst h
    exact h0
  | p :: more, rs, ps, l, h, h0 => by
    simp only [RK] at h
    obtain ⟨v, r, rfl, h1, h2⟩ := h
    exact RK.merge (ps := putD ps p.1 p.2) (l := putK l p.1 v) h2 (h0.put h1)
theorem zip_kv : ∀ (ps : List (Key × Dat)) (vs : List V), (ps.map fun p => kV p.1).zip vs = ((ps.map (·.1)).zip vs).map fun kv => (kV kv.1, kv.2)
  | [], vs => rfl
  | p :: ps, [] => rfl
  | p :: ps, v :: vs => by
    simp only [List.map_cons, List.zip_cons_cons]
    rw [zip_kv ps vs]
/-- what was nobody's becomes shared -/
theorem Sta.give {p : Addr} {o : HO} (S : Sta k G B (upd H p o) w σ env) (hB : B p = none) (hw : w p = none) (hg : G.B0 p = none → G.H0 p ≠ none → ¬ G.A0 p → False) : Sta k G (upd B p o) (upd H p o) w σ env := by
  have sb : Same B (upd B p o) := fun a u e => by
    have ne : a ≠ p := fun z => by
      subst z
      rw [hB] at e
      cases e
    rw [upd_ne ne]
    exact e
  refine ⟨fun a u e => ?_, S.b0.trans sb, fun a h1 h2 h3 => ?_, fun a h => ?_, S.wh, S.len, fun i o' h => ?_, S.fx⟩
  · by_cases ne : a = p
    · subst ne
      rw [upd_same] at e
      cases e
      exact upd_same
    · rw [upd_ne ne] at e
      exact S.bh a u e
  · obtain ⟨x, y, z⟩ := S.fr a h1 h2 h3
    have ne : a ≠ p := fun e => by
      subst e
      exact hg h1 h2 h3
    exact ⟨by rw [upd_ne ne]; exact x, y, z⟩
  · have ne : a ≠ p := fun e => by
      subst e
      exact h hw
    rw [upd_ne ne]
    exact S.wb a h
  · rcases S.sl i o' h with e | ⟨v, hv, r⟩
    · exact .inl e
    · exact .inr ⟨v, hv, r.frame sb fun q ρ e => ⟨e, rfl⟩⟩
def dctD (g : PrF) : List OT → Option Dat := fun e => match g e with
  | none => none
  | some ps => if ps.length ≤ 15 then some (.dct ((mergeD [] ps).map (·.1)) ((mergeD [] ps).map (·.2))) else none
theorem d_dict {keys : List (Option Expr)} {values : List Expr} {g : PrF} (h : PPd X k pos keys values g) (hall : keys.all (·.isSome) = true := by rfl) (hl : keys.length = values.length := by rfl) (h0 : keys ≠ [] := by simp) (h15 : keys.length ≤ 15 := by decide) : PE X (.Dict keys values pos) (tD k (dctD g)) := by
  obtain ⟨trs, h1, h2⟩ := h.ex
  refine pe_imp (pe_disp h1 hall hl h0 h15) fun σ H Q ⟨G, B, w, env, d, S, e, q⟩ p hp => ?_
  unfold dctD at e
  split at e
  · cases e
  · rename_i ps e1
    split at e
    · rename_i hps
      cases e
      have hw : w p = none := by
        cases z : w p with
        | none => rfl
        | some u => exact absurd hp (S.wh p (by rw [z]; exact fun z => nomatch z))
      have hg : G.B0 p = none → G.H0 p ≠ none → ¬ G.A0 p → False := fun x y z => by
        obtain ⟨_, y2, _⟩ := S.fr p x y z
        rw [← y2] at y
        exact y hp
      refine h2 G B (wPh w p) env ps σ _ _ (S.phan (o := .dK []) hp) e1 fun B' H' vs S2 m r => ?_
      refine ⟨m.2 p _ upd_same, (ps.map (·.1)).zip vs, zip_kv ps vs, ?_, ?_⟩
      · rw [List.length_zip, List.length_map]
        omega
      have hB : B' p = none := S2.wb p (by simp [wPh])
      have S3 := ((S2.phUp (o := .dK (mergeK [] ((ps.map (·.1)).zip vs)))).unph hw).give hB hw hg
      have R := RK.merge (RK.of r) (show RK k B' [] [] from rfl)
      obtain ⟨i1, i2, i3⟩ := R.to
      have sb : Same B' (upd B' p (.dK (mergeK [] ((ps.map (·.1)).zip vs)))) := fun a u e => by
        have ne : a ≠ p := fun z => by
          subst z
          rw [hB] at e
          cases e
        rw [upd_ne ne]
        exact e
      refine q (.ref p) _ _ S3 ⟨m.1.trans sb, fun a u ea => ?_⟩ ?_
      · have ne : a ≠ p := fun z => by
          subst z
          rw [hp] at ea
          cases ea
        rw [upd_ne ne]
        exact m.2 a u (by rw [upd_ne ne]; exact ea)
      · simp only [Rep]
        refine ⟨p, (mergeK [] ((ps.map (·.1)).zip vs)).map (·.2), rfl, .inl ?_, ?_, i3.mono sb⟩
        · rw [upd_same, ← i1]
        · rw [List.length_map, List.length_map, i2]
    · cases e
/-! ### x[y] where x is a list or a dict -/
theorem pe_or {t1 t2 : TE} (h1 : PE X e t1) (h2 : PE X e t2) : PE X e (fun σ H Q => t1 σ H Q ∨ t2 σ H Q) := ⟨fun pins s σ H Q I h => h.elim (h1.run pins s σ H Q I) (h2.run pins s σ H Q I)⟩
def lkD : List Key → List Dat → Key → Option Dat
  | κ :: ks, d :: ds, x => if κ = x then some d else lkD ks ds x
  | _, _, _ => none
theorem lkD_val {κ : Key} : ∀ {ks : List Key} {ds : List Dat} {vs : List V} {d : Dat}, Reps k B ds vs → lkD ks ds κ = some d → ∃ v, valV (ks.zip vs) κ = some v ∧ Rep k B d v
  | [], ds, vs, d, r, h => by simp [lkD] at h
  | x :: ks, [], vs, d, r, h => by simp [lkD] at h
  | x :: ks, y :: ds, vs, d, r, h => by
    simp only [Reps] at r
    obtain ⟨v, us, rfl, r1, r2⟩ := r
    simp only [lkD] at h
    rw [List.zip_cons_cons]
    by_cases e : x = κ
    · rw [if_pos e] at h
      cases h
      exact ⟨v, valV_pos e, r1⟩
    · rw [if_neg e] at h
      obtain ⟨u, h1, h2⟩ := lkD_val r2 h
      exact ⟨u, by rw [valV_neg e]; exact h1, h2⟩
def ixX : Dat → Dat → Option Dat
  | .dct ks ds, y => match keyOf y with
    | none => none
    | some κ => lkD ks ds κ
  | x, y => ixD x y
theorem d_ixX (hk : X.K = k.K) (hu : X.A.units + 64 < cLine) (ha : PE X a (tD k fa)) (hb : PE X b (tD k fb)) (hs : PlainIx b := by exact fun _ _ => rfl) (hn : NoSl b := by exact fun _ _ => rfl) : PE X (.Subscript a b pos) (tD k (bin ixX fa fb)) :=
  pe_imp (pe_or (d_ix hk ha hb hs) (pe_dget (by omega) ha hb hn)) fun σ H Q ⟨G, B, w, env, d, S, e, q⟩ => by
    unfold bin at e
    split at e
    · cases e
    · rename_i x e1
      split at e
      · cases e
      · rename_i y e2
        unfold ixX at e
        split at e
        · rename_i ks ds
          split at e
          · cases e
          · rename_i κ e3
            refine .inr ⟨G, B, w, env, _, S, e1, fun v B1 H1 S1 m1 r1 => ⟨G, B1, w, env, _, S1, e2, fun u B2 H2 S2 m2 r2 => ?_⟩⟩
            have := keyOf_rep e3 r2
            subst this
            simp only [Rep] at r1
            obtain ⟨p, vs, rfl, g1, g2, g3⟩ := r1
            obtain ⟨v', h1, h2⟩ := lkD_val (g3.mono m2.1) e
            exact ⟨p, v', rfl, .inl ⟨_, κ, (g1.elim (fun h => .inl (m2.2 _ _ (S1.bh _ _ h))) fun ⟨o, h⟩ => .inr ⟨o, m2.2 _ _ (S1.bh _ _ h)⟩), rfl, h1.symm⟩, q v' B2 H2 S2 (m1.trans m2) h2⟩
        · exact .inl ⟨G, B, w, env, d, S, by simp only [bin, e1, e2]; exact e, q⟩
end
end DL
/-! Exceptions whose class has its own __init__: it calls its base's, then keeps one field. -/
namespace DL
open PySem L2 PySem.Spec PyProof.Rows
/-- a base class of the text, whose __init__ is ValueError's -/
structure BasF (K : PySem.W.Frag) (mg : Str → Option Value) (b : Str) (O : Addr) : Prop where
  g : mg b = some (.ref O)
  ga : PySem.W.specialIn K (.ref O) "__getattribute__" = some (some (.builtin "type.__getattribute__"))
  ty : PySem.W.typeIn K (.ref O) = some (.type "type")
  rd : PySem.W.readsIn K O (.type "type") = true
  ini : PySem.W.findCls K (.ref O) (.type "type") "__init__" = some (.val (.builtin "ValueError.__init__"))
section
variable {X : Cx} {e : Expr} {es : List Expr} {ta : TA} {p1 p2 pos : Pos} {b : Str} {O : Addr}
theorem pe_baseinit {pl : Sem Bool} (F : BasF X.K X.mg b O) (ha : PA X (e :: es) ta) (hg : Gl X b := by rfl) (hdb : (b == ("__debug__" : Str)) = false := by decide)
    (hc : eval (.Call (.Attribute (.Name b p1) "__init__" p2) (e :: es) [] pos) X.env = (do
      let ov ← eval (.Name b p1) X.env
      standAt p2.atName
      let (f, first) ← holding [ov] (getMethod ov "__init__" pl)
      callWith pos f first (backTo pos (starEach (e :: es) X.env)) (backToKw pos (keywordEach [] X.env))) := by rfl)
    (he : starEach (e :: es) X.env = (false, eval e X.env) :: starEach es X.env := by rfl) (hpl : (backTo pos (starEach es X.env)).any (·.1) = false := by rfl) :
    PE X (.Call (.Attribute (.Name b p1) "__init__" p2) (e :: es) [] pos) (tVeI X.K ta) := by
  refine ⟨fun pins s σ H Q I h => ?_⟩
  refine PySem.W.methodCall_KW (ld_glob I hg F.g ?_ hdb) hc
  obtain ⟨m, fr⟩ := I.fr
  refine PySem.W.method_of_cls fr I.ok.mod.kin F.ga (PySem.W.cls_val fr I.ok.mod.kin F.ty F.rd F.ini (by decide +kernel) ?_)
  show wpAny _ _ (callWith pos (Value.builtin "ValueError.__init__") [] (backTo pos (starEach (e :: es) X.env)) []) _ _ _
  refine PyProof.Rows.callWith_method1 (thn (ha.run pos pins _ σ H _ (I.tok _) h) fun us s1 ⟨vs, H1, I1, r1, a, C, ws, ev, hl, T, ea, q⟩ => ?_) he hpl
  subst ev
  cases r1 with
  | @cons _ u0 _ ur ra rw' =>
    obtain rfl : u0 = Value.ref a := ra
    have hlen : ur.length ≤ sizeLine := by
      rw [← Paired.length rw', sizeLine_eq]
      omega
    exact oinit_ok T I1 ea hlen fun s' J => ⟨.non, H1, J, rfl, q⟩
end
/-- what such an __init__ does -/
def spI (C : Addr) (f : Str) : Sp := fun vs H Q _ => ∃ a y, vs = [.ref a, y] ∧ H a = some (exo a C none) ∧ ∀ d, H d = none → d ≠ a → Q .non (upd (upd H d (exd d [(f, y)])) a (exo a C (some d)))
def tIni (K : PySem.W.Frag) (m f : Str) : TS := tSeq (tDrop (tVeI K (tCons (tVar 0) (tCons (tC (.str m)) tNil)))) (tOst K f (tVar 0) (tVar 1))
section
variable {P : Program} {w : World} {K : PySem.W.Frag} {mg : Str → Option Value} {base : Heap} {k : KC}
theorem okI {x qual : Str} {st : Stmt} {fa C : Addr} {fd : FuncData} {n0 n1 m f : Str} {j : Nat} (T : OexC K C) (hno : PySem.W.findIn K (.ref C) f = some none) (F : Fun K x qual st fa fd) (S : FnScope [n0, n1] [n0, n1] (defScope st))
    (hb : ∀ (cdv : Value) (A : Around) (outer : List Env) (s : Shared) (H : Hp) (E : XK), PSs (cxOf CX0 P w K mg base [n0, n1] qual (defScope st) fa cdv A outer s H E).nox (defBody st) (tIni K m f)) : FnOk P w K mg base CX0 (j + 1) fa fd [n0, n1] (spI C f) := by
  refine F.ok S (fun vs H Q E h => ?_) (fun cdv A outer s H vs Q E hr h => ⟨_, hb cdv A outer s H E, ?_⟩)
  · obtain ⟨a, y, rfl, _⟩ := h
    rfl
  · obtain ⟨a, y, rfl, ha, q⟩ := h
    exact ⟨.ref a, rfl, a, C, [.str m], rfl, by simp, T, ha, y, rfl, .ref a, rfl, a, C, rfl, T, hno, .inl ⟨ha, fun dx n ne => q dx n ne⟩⟩
/-- raising such a class -/
structure RaI (P : Program) (w : World) (K : PySem.W.Frag) (mg : Str → Option Value) (base : Heap) (k : KC) (j : Nat) (x : Str) (c : String) (f : Str) : Prop where
  ex : ∃ (fI : Addr) (fd : FuncData) (ps : List Str), OexC K (k.cl c) ∧ PySem.W.findIn K (.ref (k.cl c)) "__init__" = some (some (.ref fI)) ∧ PySem.W.typeIn K (.ref fI) = some (.type "function") ∧ FnOk P w K mg base CX0 j fI fd ps (spI (k.cl c) f) ∧ Binds K fd ps [] ∧ mg x = some (.ref (k.cl c))
theorem RaI.mono {j j' : Nat} {x : Str} {c : String} {f : Str} (F : RaI P w K mg base k j x c f) (h : j ≤ j') : RaI P w K mg base k j' x c f := by
  obtain ⟨fI, fd, ps, a, b, c, d, e, g⟩ := F.ex
  exact ⟨fI, fd, ps, a, b, c, d.mono h, e, g⟩
end
section
variable {X : Cx} {k : KC} {W : WX} {p pos pos2 : Pos} {e : Expr} {fe : List OT → Option Dat}
@[simp] def raiI (c : String) (f : Str) (fe : List OT → Option Dat) : List OT → Option Out := fun e => match fe e with
  | none => none
  | some d => some (.ex c [f] [d] e)
theorem s_raiseI {j : Nat} {x : Str} {c : String} {f : Str} (hc : X.calm = true) (tk : Takes X W) (F : RaI X.prog X.w X.K X.mg X.base k j x c f) (hr : Room (j + 1) X.A) (he : PE X e (tD k fe)) (hg : Gl X x := by rfl)
    (hdb : (x == ("__debug__" : Str)) = false := by decide) (hst : starEach [e] X.env = (false, eval e X.env) :: starEach [] X.env := by rfl) (hpl : (backTo pos (starEach [] X.env)).any (·.1) = false := by rfl) :
    PS X (.Raise (some (.Call (.Name x p) [e] [] pos)) none pos2) (tS k W (raiI c f fe)) := by
  obtain ⟨fI, fd, ps, T, iC, tI, FF, hb, hm⟩ := F.ex
  refine ps_imp (ps_raise hc tk (pmk_oex T iC tI FF hr hb .nil pass0 hg hm (pa_cons he pa_nil hst) hdb hst hpl)) fun D σ H ⟨G, B, w, env, o, S, h, q⟩ => ?_
  unfold raiI at h
  split at h
  · cases h
  · rename_i d e1
    cases h
    refine ⟨G, B, w, env, d, S, e1, fun y B1 H1 S1 m1 r1 => ⟨by simp, fun a ha => ?_⟩⟩
    refine ⟨a, y, rfl, upd_same, fun dd hd hda => ⟨rfl, dd, [(f, y)], upd_same, ?_, ?_, ?_⟩⟩
    · rw [upd_ne hda, upd_same]
    · rw [upd_ne hda] at hd
      exact hd
    · have hd1 : H1 dd = none := by
        rw [upd_ne hda] at hd
        exact hd
      have eh : upd (del (upd (upd (upd H1 a (exo a (k.cl c) none)) dd (exd dd [(f, y)])) a (exo a (k.cl c) (some dd))) a) dd (.xd [(f, y)]) = upd H1 dd (.xd [(f, y)]) := by
        funext z
        by_cases h1 : z = dd
        · subst h1
          rw [upd_same, upd_same]
        · rw [upd_ne h1, upd_ne h1]
          by_cases h2 : z = a
          · subst h2
            rw [del_same, ha]
          · rw [del_ne h2, upd_ne h2, upd_ne h1, upd_ne h2]
      rw [eh]
      refine q _ _ σ _ _ _ (S1.new (o := .xd [(f, y)]) hd1) (m1.1.trans (same_new S1.bh hd1)) ⟨rfl, [y], ?_, rfl, ?_⟩
      · show upd B1 dd (.xd [(f, y)]) dd = _
        rw [upd_same]
        rfl
      · simp only [Reps]
        exact ⟨y, [], rfl, r1.mono (same_new S1.bh hd1), rfl⟩
end
/-! ### isinstance of what is one's own; an append to what was just told -/
section
variable {X : Cx} {k : KC} {W : WX} {p0 pos : Pos} {a e o : Expr} {fa : List OT → Option Dat} {G : Gh} {B H : Hp} {w : WM} {σ : L2.St} {env : List OT}
theorem d_isiB (T : Str) {t : String} {p1 : Pos} (hk : X.K = k.K) (hm : X.mg "isinstance" = none) (hmT : X.mg T = none) (ht : bootBuiltins T = some (.type t)) (ha : PE X a (tB k fa)) (hg : Gl X "isinstance" := by rfl) (hgT : Gl X T := by rfl) (hn : T ≠ "__name__" := by decide) (hd : (T == ("__debug__" : Str)) = false := by decide)
    (h1 : starEach [a, .Name T p1] X.env = (false, eval a X.env) :: starEach [.Name T p1] X.env := by rfl) (hpl : (backTo pos (starEach [.Name T p1] X.env)).any (·.1) = false := by rfl) :
    PE X (.Call (.Name "isinstance" p0) [a, .Name T p1] [] pos) (tD k (isiD t fa)) :=
  pe_imp (pe_callB call_isi hg hm (by decide +kernel) (pa_cons ha (pa_cons (pe_bltn (v := .ty t) hgT hmT ht rfl hn hd) pa_nil) h1) (by decide) (by decide) h1 hpl) fun σ H Q ⟨G, B, w, env, d, S, h, q⟩ => by
    cases e : fa env with
    | none => simp [isiD, e] at h
    | some x =>
      simp only [isiD, e] at h
      cases e2 : x.ty with
      | none => simp [e2] at h
      | some y =>
        simp only [e2] at h
        cases e3 : kitB y t with
        | none => simp [e3] at h
        | some bb =>
          simp [e3] at h
          subst h
          refine ⟨G, B, w, env, x, S, e, fun v B1 H1 S1 m r => ?_⟩
          refine ⟨v, .ty t, _, _, bb, rfl, .ty t, hk ▸ rep_ty (.refl _) r e2, kit_ty e3, q _ B1 H1 S1 m (by simp only [Rep])⟩
/-- what is nobody's may change -/
theorem Sta.out {p : Addr} {o : HO} (S : Sta k G B H w σ env) (hB : B p = none) (hw : w p = none) (hg : G.B0 p = none → G.H0 p ≠ none → G.A0 p) : Sta k G B (upd H p o) w σ env where
  bh := fun a u e => by
    have ne : a ≠ p := fun z => by
      subst z
      rw [hB] at e
      cases e
    rw [upd_ne ne]
    exact S.bh a u e
  b0 := S.b0
  fr := fun a h1 h2 h3 => by
    obtain ⟨x, y, z⟩ := S.fr a h1 h2 h3
    have ne : a ≠ p := fun e => by
      subst e
      exact h3 (hg h1 h2)
    exact ⟨x, by rw [upd_ne ne]; exact y, z⟩
  wb := S.wb
  wh := fun a h => by
    have ne : a ≠ p := fun e => by
      subst e
      exact h hw
    rw [upd_ne ne]
    exact S.wh a h
  len := S.len
  sl := fun i o h => by
    rcases S.sl i o h with e | ⟨v, hv, r⟩
    · exact .inl e
    · refine .inr ⟨v, hv, r.frame (.refl _) fun q ρ e => ⟨e, ?_⟩⟩
      have ne : q ≠ p := fun z => by
        subst z
        rw [hw] at e
        cases e
      rw [upd_ne ne]
  fx := S.fx
@[simp] def appV (f : List OT → Option OT) : List OT → Option Out := fun e => match f e with
  | some (.lst xs) => if xs.length < 16000000 then some (.nx e) else none
  | _ => none
theorem s_appV {j : Nat} {f : List OT → Option OT} {apos cpos cp : Pos} (hk : X.K = k.K) (ho : PE X o (tF k f))
    (hbase : attributeBase o "append" X.env (eval o X.env) = eval o X.env := by rfl)
    (hfew : ((backTo cpos (starEach [.Constant .none j cp] X.env)).all (fun x => !x.1) && (backToKw cpos (keywordEach [] X.env)).all (fun x => x.1.isSome)
      && decide (([.Constant .none j cp] : List Expr).length + ([] : List Keyword).length + (if ([] : List Keyword).isEmpty then 0 else 1) < 30)) = true := by rfl)
    (hline : (apos.endLine == cpos.line) = true := by rfl) (hs : starEach [.Constant .none j cp] X.env = (false, eval (.Constant .none j cp) X.env) :: starEach [] X.env := by rfl) (hplain : (backTo cpos (starEach [] X.env)).any (·.1) = false := by rfl) (hsw : swapsWith (.Call (.Attribute o "append" apos) [.Constant .none j cp] [] cpos) none pos.line X.env = pure false := by rfl) :
    PS X (.Expr (.Call (.Attribute o "append" apos) [.Constant .none j cp] [] cpos) pos) (tS k W (appV f)) :=
  ps_imp (ps_expr (pe_bm F.plainAttrs_list F.slot_list_append F.type_list_append mt_append ho (pa_cons pe_non pa_nil hs) hbase hfew hline hs hplain) hsw) fun D σ H ⟨G, B, w, env, o, S, h, q⟩ => by
    unfold appV at h
    split at h
    · rename_i xs e1
      split at h
      · rename_i hl
        cases h
        refine ⟨G, B, w, env, _, S, e1, fun v B' H' w1 S' T m => ?_⟩
        have r := T.rep
        simp only [ORep] at r
        obtain ⟨p, vs, rfl, h1, h2, h3⟩ := r
        obtain ⟨d1, d2, d3, d4⟩ := T.dis p (by rw [h2]; exact fun z => nomatch z)
        refine ⟨.inl ⟨rfl, vs, hk ▸ SqL.of h1⟩, ?_⟩
        refine ⟨p, vs, .non, rfl, rfl, h1, by rw [← h3.length]; exact sl16' hl, ?_⟩
        exact q _ B' _ w (S'.out d2 d1 d4) m.1
      · cases h
    · cases h
end
end DL
/-! Long numbers as texts, powers of large numbers. -/
namespace DL
open PySem L2 PySem.Spec PyProof.Rows
/-- nobody has set how many figures a text may have -/
def NoLim (K : PySem.W.Frag) : Prop := PySem.W.nsIn K cStatics "sys.int_max_str_digits" = some none
theorem nodigits {K : PySem.W.Frag} {h : Heap} (X : K.In h) (G : h.NoLimit) (e : NoLim K) : h.NoDigits := by
  obtain ⟨mc, G, _⟩ := G
  refine ⟨mc, G, ?_⟩
  obtain ⟨o, es, ep, ho, hd, _, hf⟩ := G
  unfold NoLim PySem.W.nsIn at e
  split at e
  · rename_i c d es' n' sl q
    have := X _ _ q
    rw [ho] at this
    cases this
    cases hd
    split at e
    · cases e
    · rename_i he
      rw [← hf]
      unfold nsFind findBy
      rw [← Array.find?_toList, he]
      rfl
  · cases e
section
variable {k : KC} {W : WX} {X : Cx} {pos p0 : Pos} {a b : Expr} {fa fb : List OT → Option Dat} {fs : List OT → Option (List Dat)}
theorem call_str_L (hc : X.calm = true) (hz : NoLim X.K) : CallR X (.type "str") (fun xs H Q => ∃ i, xs = [.int i] ∧ i.natAbs.log2 < 12000 ∧ Q (.str (toString i)) H) := by
  intro pins s σ H xs us Q I r h
  obtain ⟨i, rfl, hl, q⟩ := h
  obtain ⟨u, rfl, t, rfl⟩ := vals1 r
  have lt : i.natAbs < 10 ^ 4300 := Nat.lt_of_lt_of_le (lt_of_log2 (Nat.lt_trans hl (by decide))) pow_lo
  refine str_of_int_or (I.ok.hd hc) (nodigits I.kIn I.nolimit hz) (fun _ => ⟨.str _, H, I.tok _, ⟨_, rfl⟩, q⟩) fun hge => ?_
  exact absurd lt (Nat.not_lt.mpr hge)
@[simp] def strL : List Dat → Option Dat
  | [.int i] => if i.natAbs.log2 < 12000 then some (.str (toString i)) else none
  | _ => none
theorem rc_strL : RC k (fun xs H Q => ∃ i, xs = [.int i] ∧ i.natAbs.log2 < 12000 ∧ Q (.str (toString i)) H) strL := by
  intro B H ds d vs Q hs r e q
  unfold strL at e
  split at e
  · split at e
    · rename_i hz
      cases e
      obtain ⟨v, rfl, rv⟩ := reps1 r
      simp only [Rep] at rv
      subst rv
      exact ⟨_, rfl, hz, q _ B H .refl (by simp only [Rep])⟩
    · cases e
  · cases e
theorem d_strL {e : Expr} (hk : X.K = k.K) (hc : X.calm = true) (hz : NoLim k.K) (hm : X.mg "str" = none) (ha : PA X [e] (tA k fs)) (hg : Gl X "str" := by rfl) (he : starEach [e] X.env = (false, eval e X.env) :: starEach [] X.env := by rfl) (hpl : (backTo pos (starEach [] X.env)).any (·.1) = false := by rfl) : PE X (.Call (.Name "str" p0) [e] [] pos) (tD k (cal strL fs)) :=
  d_ct (call_str_L hc (hk ▸ hz)) rc_strL hm (by decide +kernel) ha hg (by decide) (by decide) he hpl
/-- powers of numbers of up to 1000 bits -/
def CPowL (i j : Int) : Prop := 0 ≤ j ∧ j ≤ 1000 ∧ i.natAbs < 2 ^ 1000
theorem op_powL : OpR X (binaryOp .Pow) (rI CPowL fun i j => .int (i ^ j.toNat)) := opI fun i j _ _ _ _ _ hc q => pow_int hc.1 (by
  obtain ⟨h1, h2, h3⟩ := hc
  have hb : Builtin.Int.intBits i ≤ 1001 := by
    unfold Builtin.Int.intBits
    split
    · omega
    · rename_i h0
      have : i.natAbs.log2 < 1000 := (Nat.log2_lt (by simpa using h0)).mpr h3
      omega
  have : (Builtin.Int.intBits i : Int) * j ≤ 1001 * 1000 := Int.le_trans (Int.mul_le_mul_of_nonneg_right (by omega) h1) (Int.mul_le_mul_of_nonneg_left h2 (by decide))
  exact Int.le_trans this (by decide)) q
def powL : Dat → Dat → Option Dat
  | .int i, .int j => if 0 ≤ j ∧ j ≤ 1000 ∧ i.natAbs < 2 ^ 1000 then some (.int (i ^ j.toNat)) else none
  | _, _ => none
theorem d_powL (ha : PE X a (tD k fa)) (hb : PE X b (tD k fb)) : PE X (.BinOp a .Pow b pos) (tD k (bin powL fa fb)) := d_op op_powL (rd_I fun x y d e => by
  unfold powL at e
  split at e
  · split at e
    · rename_i hc
      cases e
      exact ⟨_, _, rfl, rfl, hc, fun B => by simp only [Rep]⟩
    · cases e
  · cases e) ha hb
end
end DL
/-! != of lists that are alike, empty dicts among what they hold. -/
namespace DL
open PySem PyProof.Rows L2
/-- numbers, truths, None, texts, lists, tuples, empty dicts: of nesting below n -/
inductive Dq : Nat → Dat → Prop
  | non (n : Nat) : Dq n .non
  | bl (n : Nat) (b : Bool) : Dq n (.bl b)
  | int (n : Nat) (i : Int) : Dq n (.int i)
  | str (n : Nat) (s : Str) : Dq n (.str s)
  | tup (n : Nat) (ds : List Dat) : (∀ d ∈ ds, Dq n d) → Dq (n + 1) (.tup ds)
  | lst (n : Nat) (ds : List Dat) : (∀ d ∈ ds, Dq n d) → Dq (n + 1) (.lst ds)
  | dct (n : Nat) : Dq (n + 1) (.dct [] [])
def isLstD : Dat → Bool
  | .lst _ => true
  | _ => false
open Classical in
noncomputable def neC (x y : Dat) : Option Dat := match neD x y with
  | some d => some d
  | none => if x = y ∧ isLstD x = true ∧ Dq 60 x then some (.bl false) else none
section
variable {k : KC} {X : Cx} {pins : List (Addr × Obj)} {σ : L2.St} {B H : Hp} {s : Shared}
theorem dct_eqAt {P : Program} {w : World} {a b : Addr} {A : Around} (hu : A.units < cLine) (ya : (a == sysModules) = false) (yb : (b == sysModules) = false) (da : s.heap.DictOf (mixKind P w) a []) (db : s.heap.DictOf (mixKind P w) b []) :
    SeqAt.EqAt A s (.ref a) (.ref b) true := by
  by_cases e : a = b
  · subst e
    exact SeqAt.EqAt.same _
  · refine SeqAt.EqAt.of_refs e fun prog w' E Q hq => ?_
    have emp : ∀ {a : Addr}, s.heap.DictOf (mixKind P w) a [] → s.heap.DictOf (mixKind prog w') a [] := fun {a} d => by
      obtain ⟨o, es, ep, h1, h2, h3, h4, h5, h6⟩ := d
      have z : es.toList = [] := by
        have := Pairs.length h5
        simpa using this
      refine ⟨o, es, ep, h1, h2, h3, ?_, by rw [z]; exact .nil, List.nodup_nil⟩
      intro x hx
      have : x ∈ es.toList := by simpa using hx
      rw [z] at this
      cases this
    exact PySem.W.rcP_dicts (knd := mixKind prog w') (r := true) ya yb (emp da) (emp db) hu (fun _ => .nil) E Q (by simpa using hq)
theorem items_dq (I : Inv X pins σ H s) {A : Around} : ∀ (ds : List Dat) (vs us : List V) (xs ys : List Value), (∀ d ∈ ds, ∀ v u v' u', Rep k B d v → Rep k B d u → RelV v v' → RelV u u' → SeqAt.EqAt A s v' u' true) → Reps k B ds vs → Reps k B ds us → Vals vs xs → Vals us ys →
    xs.length = ys.length ∧ ∀ j (h1 : j < xs.length) (h2 : j < ys.length), SeqAt.EqAt A s xs[j] ys[j] true
  | [], vs, us, xs, ys, hd, h1, h2, r1, r2 => by
    simp only [Reps] at h1 h2
    subst h1 h2
    cases r1
    cases r2
    exact ⟨rfl, fun j h => absurd h (Nat.not_lt_zero j)⟩
  | d :: ds, vs, us, xs, ys, hd, h1, h2, r1, r2 => by
    simp only [Reps] at h1 h2
    obtain ⟨v, vr, rfl, a1, b1⟩ := h1
    obtain ⟨u, ur, rfl, a2, b2⟩ := h2
    cases r1 with
    | cons c1 e1 =>
      cases r2 with
      | cons c2 e2 =>
        obtain ⟨hl, hj⟩ := items_dq I ds _ _ _ _ (fun d h => hd d (List.mem_cons_of_mem _ h)) b1 b2 e1 e2
        refine ⟨by simp [hl], fun j h1 h2 => ?_⟩
        cases j with
        | zero => exact hd d List.mem_cons_self _ _ _ _ a1 a2 c1 c2
        | succ j => exact hj j (Nat.lt_of_succ_lt_succ h1) (Nat.lt_of_succ_lt_succ h2)
theorem all_true (n : Nat) : ((List.range n).all fun _ => true) = true := List.all_eq_true.mpr fun _ _ => rfl
theorem eqAt_dq (hk : X.K = k.K) (I : Inv X pins σ H s) (hs : Same B H) : ∀ (n : Nat) (d : Dat), Dq n d → ∀ (A : Around), A.units + n < cLine → ∀ v u v' u', Rep k B d v → Rep k B d u → RelV v v' → RelV u u' → SeqAt.EqAt A s v' u' true := by
  intro n d q
  induction q with
  | non n =>
    intro A hu v u v' u' r1 r2 c1 c2
    simp only [Rep] at r1 r2; subst r1 r2
    exact eqAt_same c1 c2 rfl
  | bl n b =>
    intro A hu v u v' u' r1 r2 c1 c2
    simp only [Rep] at r1 r2; subst r1 r2
    exact eqAt_same c1 c2 rfl
  | int n b =>
    intro A hu v u v' u' r1 r2 c1 c2
    simp only [Rep] at r1 r2; subst r1 r2
    exact eqAt_same c1 c2 rfl
  | str n b =>
    intro A hu v u v' u' r1 r2 c1 c2
    simp only [Rep] at r1 r2; subst r1 r2
    exact eqAt_same c1 c2 rfl
  | tup n ds hd ih =>
    intro A hu v u v' u' r1 r2 c1 c2
    simp only [Rep] at r1 r2
    obtain ⟨p, vs, rfl, h1, g1⟩ := r1
    obtain ⟨p', us, rfl, h2, g2⟩ := r2
    cases (show v' = Value.ref p from c1)
    cases (show u' = Value.ref p' from c2)
    by_cases e : p = p'
    · subst e
      exact SeqAt.EqAt.same _
    · rw [← hk] at h1 h2
      obtain ⟨xs, e1, t1, _⟩ := I.tuple (sqT_mono hs h1)
      obtain ⟨ys, e2, t2, _⟩ := I.tuple (sqT_mono hs h2)
      obtain ⟨hl, hj⟩ := items_dq (A := A.in1) I ds vs us xs ys (fun d hd' v u v' u' => ih d hd' A.in1 (by show A.units + 1 + n < cLine; omega) v u v' u') g1 g2 e1 e2
      have q := SeqAt.RcAt.tuples (A := A) (e := fun _ => true) t1 t2 (by omega) (fun j h1 h2 => by simpa using hj j (by simpa using h1) (by simpa using h2))
      have z : ((List.range (min xs.toArray.size ys.toArray.size)).all (fun _ => true) && xs.toArray.size == ys.toArray.size) = true := by
        rw [all_true]
        simp [hl]
      rw [z] at q
      exact SeqAt.EqAt.of_refs e q
  | lst n ds hd ih =>
    intro A hu v u v' u' r1 r2 c1 c2
    simp only [Rep] at r1 r2
    obtain ⟨p, vs, rfl, h1, g1⟩ := r1
    obtain ⟨p', us, rfl, h2, g2⟩ := r2
    cases (show v' = Value.ref p from c1)
    cases (show u' = Value.ref p' from c2)
    by_cases e : p = p'
    · subst e
      exact SeqAt.EqAt.same _
    · rw [← hk] at h1 h2
      obtain ⟨xs, e1, t1, _⟩ := I.list (sqL_mono hs h1)
      obtain ⟨ys, e2, t2, _⟩ := I.list (sqL_mono hs h2)
      obtain ⟨hl, hj⟩ := items_dq (A := A.in1) I ds vs us xs ys (fun d hd' v u v' u' => ih d hd' A.in1 (by show A.units + 1 + n < cLine; omega) v u v' u') g1 g2 e1 e2
      have q := SeqAt.RcAt.lists (A := A) (e := fun _ => true) t1.isList t2.isList (by simpa using hl) (by omega) (fun j h1 h2 => by simpa using hj j (by simpa using h1) (by simpa using h2))
      rw [all_true] at q
      exact SeqAt.EqAt.of_refs e q
  | dct n =>
    intro A hu v u v' u' r1 r2 c1 c2
    simp only [Rep] at r1 r2
    obtain ⟨p, vs, rfl, h1, g1, l1⟩ := r1
    obtain ⟨p', us, rfl, h2, g2, l2⟩ := r2
    cases (show v' = Value.ref p from c1)
    cases (show u' = Value.ref p' from c2)
    obtain ⟨_, ya, va, ra, da⟩ := (rd_mono hs h1).ok I.hok
    obtain ⟨_, yb, vb, rb, db⟩ := (rd_mono hs h2).ok I.hok
    cases ra
    cases rb
    exact dct_eqAt (by omega) ya yb da db
/-- a != b, two lists alike -/
def rNeQ (k : KC) : R2 := fun x y H Q => ∃ B ds, Same B H ∧ Dq 60 (.lst ds) ∧ Rep k B (.lst ds) x ∧ Rep k B (.lst ds) y ∧ Q (.bl false) H
theorem op_neQ (hk : X.K = k.K) (hu : X.A.units + 64 < cLine) : OpR X (compareOp .NotEq) (rNeQ k) := by
  intro pins s σ H x y v u Q I c1 c2 h
  obtain ⟨B, ds, hs, hq, r1, r2, q⟩ := h
  cases hq with
  | lst n _ hd =>
    simp only [Rep] at r1 r2
    obtain ⟨p, vs, rfl, h1, g1⟩ := r1
    obtain ⟨p', us, rfl, h2, g2⟩ := r2
    cases (show v = Value.ref p from c1)
    cases (show u = Value.ref p' from c2)
    rw [← hk] at h1 h2
    obtain ⟨xs, e1, t1, _⟩ := I.list (sqL_mono hs h1)
    obtain ⟨ys, e2, t2, _⟩ := I.list (sqL_mono hs h2)
    obtain ⟨hl, hj⟩ := items_dq (A := X.A.in1) I ds vs us xs ys (fun d hd' v u v' u' => eqAt_dq hk I hs 59 d (hd d hd') X.A.in1 (by show X.A.units + 1 + 59 < cLine; omega) v u v' u') g1 g2 e1 e2
    have q' := SeqAt.RcNeAt.lists (A := X.A) (e := fun _ => true) t1.isList t2.isList (by simpa using hl) (by omega) (fun j h1 h2 => by simpa using hj j (by simpa using h1) (by simpa using h2))
    rw [all_true] at q'
    exact q' _ _ _ _ ⟨.bl _, H, I, rfl, q⟩
theorem rd_neC : RD k (fun x y H Q => (rNe x y H Q ∨ rNeD k.K x y H Q) ∨ rNeQ k x y H Q) neC := by
  intro B H x y d v u Q hs rx ry e q
  unfold neC at e
  split at e
  · rename_i b hb
    cases e
    exact .inl (rd_ne B H x y d v u Q hs rx ry hb q)
  · split at e
    · rename_i z
      cases e
      obtain ⟨rfl, z1, z2⟩ := z
      cases x <;> first | (cases z1; done) | skip
      exact .inr ⟨B, _, hs, z2, rx, ry, q _ B H .refl (by simp only [Rep])⟩
    · cases e
end
section
variable {k : KC} {X : Cx} {pos : Pos} {a b : Expr} {fa fb : List OT → Option Dat}
theorem d_neC (hk : X.K = k.K) (hu : X.A.units + 64 < cLine) (ha : PE X a (tD k fa)) (hb : PE X b (tD k fb)) : PE X (.Compare a [.NotEq] [b] pos) (tD k (bin neC fa fb)) := d_cmp ((op_ne.or (hk ▸ op_neD hu)).or (op_neQ hk hu)) rd_neC ha hb (nomark _)
theorem t_neC (hk : X.K = k.K) (hu : X.A.units + 64 < cLine) (ha : PE X a (tD k fa)) (hb : PE X b (tD k fb)) : PT X (.Compare a [.NotEq] [b] pos) (tT k (tst (bin neC fa fb))) := t_cmp ((op_ne.or (hk ▸ op_neD hu)).or (op_neQ hk hu)) rd_neC ha hb (nomark _)
end
section
variable {k : KC} {W : WX} {X : Cx} {pos : Pos} {o : Expr}
/-- X.f(..).append(None): a list that was just told is lengthened, nobody sees it -/
@[simp] def appVG (f : List OT → Option GX) : List OT → Option Out := fun e => match gOf f e with
  | some (.lst xs, e2) => if xs.length < 16000000 then some (.nx e2) else none
  | _ => none
theorem s_appVG {j : Nat} {f : List OT → Option GX} {apos cpos cp : Pos} (hk : X.K = k.K) (ho' : PE X o (tGX k nW f))
    (hbase : attributeBase o "append" X.env (eval o X.env) = eval o X.env := by rfl)
    (hfew : ((backTo cpos (starEach [.Constant .none j cp] X.env)).all (fun x => !x.1) && (backToKw cpos (keywordEach [] X.env)).all (fun x => x.1.isSome)
      && decide (([.Constant .none j cp] : List Expr).length + ([] : List Keyword).length + (if ([] : List Keyword).isEmpty then 0 else 1) < 30)) = true := by rfl)
    (hline : (apos.endLine == cpos.line) = true := by rfl) (hs : starEach [.Constant .none j cp] X.env = (false, eval (.Constant .none j cp) X.env) :: starEach [] X.env := by rfl) (hplain : (backTo cpos (starEach [] X.env)).any (·.1) = false := by rfl) (hsw : swapsWith (.Call (.Attribute o "append" apos) [.Constant .none j cp] [] cpos) none pos.line X.env = pure false := by rfl) :
    PS X (.Expr (.Call (.Attribute o "append" apos) [.Constant .none j cp] [] cpos) pos) (tS k W (appVG f)) :=
  ps_imp (ps_expr (pe_bm F.plainAttrs_list F.slot_list_append F.type_list_append mt_append (g_ofX ho') (pa_cons pe_non pa_nil hs) hbase hfew hline hs hplain) hsw) fun D σ H ⟨G, B, w, env, r, S, h, q⟩ => by
    unfold appVG at h
    split at h
    · rename_i xs e2 e1
      split at h
      · rename_i hl
        cases h
        refine ⟨G, B, w, env, _, _, S, e1, fun v B' H' w' w1 S' T m => ?_⟩
        have r := T.rep
        simp only [ORep] at r
        obtain ⟨p, vs, rfl, h1, h2, h3⟩ := r
        obtain ⟨d1, d2, d3, d4⟩ := T.dis p (by rw [h2]; exact fun z => nomatch z)
        refine ⟨.inl ⟨rfl, vs, hk ▸ SqL.of h1⟩, ?_⟩
        refine ⟨p, vs, .non, rfl, rfl, h1, by rw [← h3.length]; exact sl16' hl, ?_⟩
        exact q _ B' _ w' (S'.out d2 d1 d4) m
      · cases h
    · cases h
end
end DL
namespace DL
open PySem
@[simp] theorem ofString_inj (a b : String) : (Str.ofString a = Str.ofString b) = (a = b) := by
  apply propext
  refine ⟨fun h => ?_, fun h => by rw [h]⟩
  rw [Str.ofString_eq_toList, Str.ofString_eq_toList] at h
  injection h with h
  have h2 : a.toList.map Char.toNat = b.toList.map Char.toNat := by
    have := congrArg Array.toList h
    simpa using this
  have h3 : a.toList = b.toList := List.map_inj_right (fun x y e => by
    apply Char.ext
    apply UInt32.toNat_inj.mp
    exact e) |>.mp h2
  exact String.toList_inj.mp h3
/-! ### places and calls as equations -/
@[simp] theorem core_lent (o : OT) : OT.core (.lent o) = o := rfl
@[simp] theorem core_sh (d : Dat) : OT.core (.sh d) = .sh d := rfl
@[simp] theorem core_lst (xs : List OT) : OT.core (.lst xs) = .lst xs := rfl
@[simp] theorem core_obj (c : String) (ns : List Str) (xs : List OT) : OT.core (.obj c ns xs) = .obj c ns xs := rfl
@[simp] theorem re_lent (o t : OT) : OT.re (.lent o) t = .lent t := rfl
@[simp] theorem re_sh (d : Dat) (t : OT) : OT.re (.sh d) t = t := rfl
@[simp] theorem re_lst (xs : List OT) (t : OT) : OT.re (.lst xs) t = t := rfl
@[simp] theorem re_obj (c : String) (ns : List Str) (xs : List OT) (t : OT) : OT.re (.obj c ns xs) t = t := rfl
@[simp] theorem free_sh (d : Dat) : OT.free (.sh d) = true := rfl
@[simp] theorem free_lst (xs : List OT) : OT.free (.lst xs) = true := rfl
@[simp] theorem free_obj (c : String) (ns : List Str) (xs : List OT) : OT.free (.obj c ns xs) = true := rfl
@[simp] theorem mark_sh (d : Dat) : OT.mark (.sh d) = .sh d := rfl
@[simp] theorem mark_lst (xs : List OT) : OT.mark (.lst xs) = .lent (.lst xs) := rfl
@[simp] theorem mark_obj (c : String) (ns : List Str) (xs : List OT) : OT.mark (.obj c ns xs) = .lent (.obj c ns xs) := rfl
@[simp] theorem sub_nil (o : OT) : OT.sub [] o = some o := by cases o <;> rfl
@[simp] theorem sub_f_obj (n : Str) (tb : String → Bool) (l : List Stp) (c : String) (ns : List Str) (xs : List OT) : OT.sub (.f n tb :: l) (.obj c ns xs) = if tb c = true then match fldIx ns n with
      | none => none
      | some j => match xs[j]? with
        | none => none
        | some o => OT.sub l o
    else none := rfl
@[simp] theorem sub_f_sh (n : Str) (tb : String → Bool) (l : List Stp) (c : String) (ns : List Str) (xs : List Dat) : OT.sub (.f n tb :: l) (.sh (.obj c ns xs)) = if tb c = true then match fldIx ns n with
      | none => none
      | some j => match xs[j]? with
        | none => none
        | some d => OT.sub l (.sh d)
    else none := rfl
@[simp] theorem sub_i_lst (j : Int) (l : List Stp) (xs : List OT) : OT.sub (.i j :: l) (.lst xs) = match L2.ixN xs.length j with
      | none => none
      | some m => match xs[m]? with
        | none => none
        | some o => OT.sub l o := rfl
@[simp] theorem sub_i_sh (j : Int) (l : List Stp) (xs : List Dat) : OT.sub (.i j :: l) (.sh (.lst xs)) = match L2.ixN xs.length j with
      | none => none
      | some m => match xs[m]? with
        | none => none
        | some d => OT.sub l (.sh d) := rfl
@[simp] theorem sub_i_tp (j : Int) (l : List Stp) (xs : List Dat) : OT.sub (.i j :: l) (.sh (.tup xs)) = match L2.ixN xs.length j with
      | none => none
      | some m => match xs[m]? with
        | none => none
        | some d => OT.sub l (.sh d) := rfl
@[simp] theorem put_nil (t o : OT) : OT.put [] t o = some t := by cases o <;> rfl
@[simp] theorem put_f_obj (n : Str) (tb : String → Bool) (l : List Stp) (t : OT) (c : String) (ns : List Str) (xs : List OT) : OT.put (.f n tb :: l) t (.obj c ns xs) = if tb c = true then match fldIx ns n with
      | none => none
      | some j => match xs[j]? with
        | none => none
        | some o => match OT.put l t o with
          | none => none
          | some o' => some (.obj c ns (xs.set j o'))
    else none := rfl
@[simp] theorem put_i_lst (j : Int) (l : List Stp) (t : OT) (xs : List OT) : OT.put (.i j :: l) t (.lst xs) = match L2.ixN xs.length j with
      | none => none
      | some m => match xs[m]? with
        | none => none
        | some o => match OT.put l t o with
          | none => none
          | some o' => some (.lst (xs.set m o')) := rfl
@[simp] theorem fldIx_nil (n : Str) : fldIx [] n = none := rfl
@[simp] theorem fldIx_cons (m : Str) (ms : List Str) (n : Str) : fldIx (m :: ms) n = if m = n then some 0 else match fldIx ms n with
    | none => none
    | some j => some (j + 1) := rfl
@[simp] theorem objSet_eq (c : String) (ns : List Str) (xs : List OT) (n : Str) (o : OT) : objSet c ns xs n o = match fldIx ns n with
  | some j => .obj c ns (xs.set j o)
  | none => .obj c (ns ++ [n]) (xs ++ [o]) := rfl
theorem ixN_nn {n k : Nat} (h : k < n) : L2.ixN n (k : Int) = some k := by
  unfold L2.ixN
  simp [h]
@[simp] theorem back_nil (e : List OT) (n : Nat) : back e n [] = some [] := rfl
@[simp] theorem back_sh (e : List OT) (n : Nat) (d : Dat) (os : List OT) : back e n (.sh d :: os) = match back e (n + 1) os with
    | none => none
    | some r => some (.sh d :: r) := rfl
@[simp] theorem back_lst (e : List OT) (n : Nat) (xs os : List OT) : back e n (.lst xs :: os) = match e[n]? with
    | some (.lent t) => match back e (n + 1) os with
      | none => none
      | some r => some (t :: r)
    | _ => none := rfl
@[simp] theorem back_obj (e : List OT) (n : Nat) (c : String) (ns : List Str) (xs os : List OT) : back e n (.obj c ns xs :: os) = match e[n]? with
    | some (.lent t) => match back e (n + 1) os with
      | none => none
      | some r => some (t :: r)
    | _ => none := rfl
@[simp] theorem csA_nil : csA [] = [] := rfl
@[simp] theorem argsO_nil (e : List OT) : argsO [] e = some [] := rfl
@[simp] theorem argsO_inl (s : Nat) (r : List ArgG) (e : List OT) : argsO (.inl s :: r) e = match e[s]? with
    | none => none
    | some .un => none
    | some o => match argsO r e with
      | none => none
      | some os => some (o.core :: os) := rfl
@[simp] theorem argsO_inr (g : List OT → Option Dat) (r : List ArgG) (e : List OT) : argsO (.inr g :: r) e = match g e with
    | none => none
    | some d => match argsO r e with
      | none => none
      | some os => some (.sh d :: os) := rfl
@[simp] theorem putA_nil (e : List OT) : putA [] [] e = some e := rfl
@[simp] theorem putA_inl (s : Nat) (r : List ArgG) (o : OT) (os e : List OT) : putA (.inl s :: r) (o :: os) e = match e[s]? with
    | none => none
    | some o0 => if o.free then putA r os (e.set s (o0.re o)) else none := rfl
@[simp] theorem putA_inr (g : List OT → Option Dat) (r : List ArgG) (o : OT) (os e : List OT) : putA (.inr g :: r) (o :: os) e = putA r os e := rfl
@[simp] theorem posOf_nil (n s : Nat) : posOf [] n s = none := rfl
@[simp] theorem posOf_inl (s' : Nat) (r : List ArgG) (n s : Nat) : posOf (.inl s' :: r) n s = if s' = s then some n else posOf r (n + 1) s := rfl
@[simp] theorem posOf_inr (g : List OT → Option Dat) (r : List ArgG) (n s : Nat) : posOf (.inr g :: r) n s = posOf r (n + 1) s := rfl
@[simp] theorem distA_nil : distA [] = true := rfl
@[simp] theorem distA_inl (s : Nat) (r : List ArgG) : distA (.inl s :: r) = ((posOf r 0 s).isNone && distA r) := rfl
@[simp] theorem distA_inr (g : List OT → Option Dat) (r : List ArgG) : distA (.inr g :: r) = distA r := rfl
@[simp] theorem allS_nil : allS [] = true := rfl
@[simp] theorem allS_inl (s : Nat) (r : List ArgG) : allS (.inl s :: r) = false := rfl
@[simp] theorem allS_inr (g : List OT → Option Dat) (r : List ArgG) : allS (.inr g :: r) = allS r := rfl
@[simp] theorem cls_obj (c : String) (ns : List Str) (xs : List OT) : OT.cls (.obj c ns xs) = some (c, ns) := rfl
@[simp] theorem cls_sh (c : String) (ns : List Str) (xs : List Dat) : OT.cls (.sh (.obj c ns xs)) = some (c, ns) := rfl
@[simp] theorem shs_nil : shs [] = some [] := rfl
@[simp] theorem shs_mapsh (ds : List Dat) : shs (ds.map .sh) = some ds := shs_map ds
theorem shs_mapf {α : Type} (f : α → Dat) (xs : List α) : shs (xs.map fun x => .sh (f x)) = some (xs.map f) := by
  rw [← shs_map (xs.map f), List.map_map]
  rfl
theorem okL_map {α : Type} (f : α → Dat) (xs : List α) : OT.oks (xs.map fun x => .sh (f x)) = true := by
  induction xs with
  | nil => rfl
  | cons x xs ih => simp [ih]
theorem datL_map {α : Type} (f : α → Dat) (xs : List α) : OT.dats (xs.map fun x => .sh (f x)) = xs.map f := by
  induction xs with
  | nil => rfl
  | cons x xs ih => simp [ih]
@[simp] theorem fldD_eq (n : Str) (tab : String → Bool) (f : List OT → Option Dat) (e : List OT) : fldD n tab f e = match f e with
  | some (.obj c ns xs) => if tab c = true then match fldIx ns n with
      | none => none
      | some j => xs[j]?
    else none
  | _ => none := rfl
@[simp] theorem shr_int (i j : Int) : shrD (.int i) (.int j) = if 0 ≤ j then some (.int (i / 2 ^ j.toNat)) else none := rfl
@[simp] theorem chn_eq (g g' : Dat → Dat → Option Dat) (fa fb fc : List OT → Option Dat) (e : List OT) : chnD g g' fa fb fc e = match fa e with
  | none => none
  | some x => match fb e with
    | none => none
    | some y => match g x y with
      | some (.bl false) => some (.bl false)
      | some (.bl true) => match fc e with
        | none => none
        | some z => g' y z
      | _ => none := rfl
/-! ### one step at a time -/
theorem fnL_rt {n N : Nat} {g : List OT → Option Out} {os os' : List OT} {o : OT} {e : List OT} (h : os.length = n) (hg : g (os.map OT.mark ++ List.replicate (N - n) .un) = some (.rt o e)) (hb : back e 0 os = some os') : fnL n N g os = some (.ok o os') := by
  unfold fnL
  rw [if_pos h, hg]
  simp only [hb]
theorem fnL_nx {n N : Nat} {g : List OT → Option Out} {os os' : List OT} {e : List OT} (h : os.length = n) (hg : g (os.map OT.mark ++ List.replicate (N - n) .un) = some (.nx e)) (hb : back e 0 os = some os') : fnL n N g os = some (.ok (.sh .non) os') := by
  unfold fnL
  rw [if_pos h, hg]
  simp only [hb]
theorem fnL_ex {n N : Nat} {g : List OT → Option Out} {os os' : List OT} {c : String} {ns : List Str} {xs : List Dat} {e : List OT} (h : os.length = n) (hg : g (os.map OT.mark ++ List.replicate (N - n) .un) = some (.ex c ns xs e)) (hb : back e 0 os = some os') : fnL n N g os = some (.ex c ns xs os') := by
  unfold fnL
  rw [if_pos h, hg]
  simp only [hb]
theorem callGX_ok {n : Nat} {f : List OT → Option ResL} {as : List ArgG} {e os os' e2 : List OT} {o : OT} (h1 : argsO as e = some os) (hl : os.length = n) (hd : distA as = true) (hf : f os = some (.ok o os')) (hp : putA as os' e = some e2) : callGX n f as e = some (.ok o e2) := by
  unfold callGX
  rw [h1]
  simp only
  rw [if_pos ⟨hl, hd⟩, hf]
  simp only [hp]
theorem callGX_ex {n : Nat} {f : List OT → Option ResL} {as : List ArgG} {e os os' e2 : List OT} {c : String} {ns : List Str} {xs : List Dat} (h1 : argsO as e = some os) (hl : os.length = n) (hd : distA as = true) (hf : f os = some (.ex c ns xs os')) (hp : putA as os' e = some e2) : callGX n f as e = some (.ex c ns xs e2) := by
  unfold callGX
  rw [h1]
  simp only
  rw [if_pos ⟨hl, hd⟩, hf]
  simp only [hp]
theorem methGX_of {n : Nat} {m : Str} {mt : String → Option (List OT → Option ResL)} {a : ArgG} {as : List ArgG} {e : List OT} {o : OT} {c : String} {ns : List Str} {f : List OT → Option ResL} (h1 : argsO [a] e = some [o]) (h2 : o.cls = some (c, ns)) (h3 : fldIx ns m = none) (h4 : mt c = some f) : methGX n m mt a as e = callGX n f (a :: as) e := by
  unfold methGX
  rw [h1]
  simp only [h2, h3, h4, if_true]
theorem callSO_of {n : Nat} {f : List OT → Option ResL} {as : List ArgG} {e os os' : List OT} {o : OT} (h1 : argsO as e = some os) (hl : os.length = n) (hd : allS as = true) (hf : f os = some (.ok o os')) : callSO n f as e = some o := by
  unfold callSO
  rw [h1]
  simp only
  rw [if_pos ⟨hl, hd⟩, hf]
theorem methSO_of {n : Nat} {m : Str} {mt : String → Option (List OT → Option ResL)} {a : ArgG} {as : List ArgG} {e : List OT} {o : OT} {c : String} {ns : List Str} {f : List OT → Option ResL} (h1 : argsO [a] e = some [o]) (h2 : o.cls = some (c, ns)) (h3 : fldIx ns m = none) (h4 : mt c = some f) : methSO n m mt a as e = callSO n f (a :: as) e := by
  unfold methSO
  rw [h1]
  simp only [h2, h3, h4, if_true]
theorem makeSO_of {c : String} {n : Nat} {f : List OT → Option ResL} {as : List ArgG} {e os os' : List OT} {t : OT} (h1 : argsO as e = some os) (hl : os.length + 1 = n) (hd : allS as = true) (hf : f (.obj c [] [] :: os) = some (.ok (.sh .non) (t :: os'))) (ht : t.ok = true) : makeSO c n f as e = some t := by
  unfold makeSO
  rw [h1]
  simp only
  rw [if_pos ⟨hl, hd⟩, hf]
  simp only [ht, if_true]
theorem makeGX_ok {c : String} {n : Nat} {f : List OT → Option ResL} {as : List ArgG} {e os os' e2 : List OT} {t : OT} (h1 : argsO as e = some os) (hl : os.length + 1 = n) (hd : distA as = true) (hf : f (.obj c [] [] :: os) = some (.ok (.sh .non) (t :: os'))) (ht : t.ok = true) (hp : putA as os' e = some e2) : makeGX c n f as e = some (.ok t e2) := by
  unfold makeGX
  rw [h1]
  simp only
  rw [if_pos ⟨hl, hd⟩, hf]
  simp only [ht, if_true, hp]
theorem makeGX_ex {c c' : String} {n : Nat} {f : List OT → Option ResL} {as : List ArgG} {e os os' e2 : List OT} {ns : List Str} {xs : List Dat} {t : OT} (h1 : argsO as e = some os) (hl : os.length + 1 = n) (hd : distA as = true) (hf : f (.obj c [] [] :: os) = some (.ex c' ns xs (t :: os'))) (ht : t.free = true) (hp : putA as os' e = some e2) : makeGX c n f as e = some (.ex c' ns xs e2) := by
  unfold makeGX
  rw [h1]
  simp only
  rw [if_pos ⟨hl, hd⟩, hf]
  simp only [ht, if_true, hp]
theorem gOf_ok {f : List OT → Option GX} {e e2 : List OT} {o : OT} (h : f e = some (.ok o e2)) : gOf f e = some (o, e2) := by simp only [gOf, h]
theorem mltE_of {f : List OT → Option (OT × List OT)} {e e2 : List OT} {o : OT} {d : Dat} (h : f e = some (o, e2)) (z : o.ok = true) (hd : o.dat = d) : mltE f e = some (d, e2) := by
  subst hd
  simp only [mltE, h, if_pos z]
theorem setGX_ok {i : Nat} {f : List OT → Option GX} {e e2 e3 : List OT} {o : OT} (h : f e = some (.ok o e2)) (hi : i < e2.length) (he : e2.set i o = e3) : setGX i f e = some (.nx e3) := by
  subst he
  simp only [setGX, h, if_pos hi]
theorem setGXM_ok {i : Nat} {f : List OT → Option GX} {e e2 e3 : List OT} {o : OT} {d : Dat} (h : f e = some (.ok o e2)) (hi : i < e2.length) (hk : o.ok = true) (hd : o.dat = d) (he : e2.set i (.sh d) = e3) : setGXM i f e = some (.nx e3) := by
  subst he hd
  simp only [setGXM, h, if_pos (⟨hi, hk⟩ : i < e2.length ∧ o.ok = true)]
theorem dropGX_ok {f : List OT → Option GX} {e e2 : List OT} {o : OT} (h : f e = some (.ok o e2)) : dropGX f e = some (.nx e2) := by simp only [dropGX, h]
theorem retGX_ok {f : List OT → Option GX} {e e2 : List OT} {o : OT} (h : f e = some (.ok o e2)) : retGX f e = some (.rt o e2) := by simp only [retGX, h]
theorem ifE_t {c : GB} {g h : List OT → Option Out} {e e2 : List OT} {o : Out} (hc : c e = some (true, e2)) (hg : g e2 = some o) : ifE c g h e = some o := by simp only [ifE, hc, hg]
theorem ifE_f {c : GB} {g h : List OT → Option Out} {e e2 : List OT} {o : Out} (hc : c e = some (false, e2)) (hg : h e2 = some o) : ifE c g h e = some o := by simp only [ifE, hc, hg]
theorem notE_of {f : GB} {e e2 : List OT} {b : Bool} (h : f e = some (b, e2)) : notE f e = some (!b, e2) := by simp only [notE, h]
theorem tstE_of {f : GD} {e e2 : List OT} {b : Bool} (h : f e = some (.bl b, e2)) : tstE f e = some (b, e2) := by simp only [tstE, h]
theorem pE_of {f : List OT → Option Dat} {e : List OT} {d : Dat} (h : f e = some d) : pE f e = some (d, e) := by simp only [pE, h]
theorem pT_of {f : List OT → Option Bool} {e : List OT} {b : Bool} (h : f e = some b) : pT f e = some (b, e) := by simp only [pT, h]
theorem consE_of {f : GD} {g : GA} {e e1 e2 : List OT} {d : Dat} {ds : List Dat} (h1 : f e = some (d, e1)) (h2 : g e1 = some (ds, e2)) : consE f g e = some (d :: ds, e2) := by simp only [consE, h1, h2]
theorem nilE_of (e : List OT) : nilE e = some ([], e) := rfl
theorem callE_of {n : Nat} {f : List Dat → Option OT} {fs : GA} {e e2 : List OT} {ds : List Dat} {o : OT} (h1 : fs e = some (ds, e2)) (hl : ds.length = n) (h2 : f ds = some o) : callE n f fs e = some (o, e2) := by simp only [callE, h1, if_pos hl, h2]
theorem orE_f {f g : GB} {e e1 : List OT} {r : Option (Bool × List OT)} (h1 : f e = some (false, e1)) (h2 : g e1 = r) : orE f g e = r := by simp only [orE, h1, h2]
theorem orE_t {f g : GB} {e e1 : List OT} (h1 : f e = some (true, e1)) : orE f g e = some (true, e1) := by simp only [orE, h1]
theorem andE_t {f g : GB} {e e1 : List OT} {r : Option (Bool × List OT)} (h1 : f e = some (true, e1)) (h2 : g e1 = r) : andE f g e = r := by simp only [andE, h1, h2]
theorem binE_of {g : Dat → Dat → Option Dat} {fa fb : GD} {e e1 e2 : List OT} {x y d : Dat} (h1 : fa e = some (x, e1)) (h2 : fb e1 = some (y, e2)) (h3 : g x y = some d) : binE g fa fb e = some (d, e2) := by simp only [binE, h1, h2, h3]
theorem binEB_of {g : Dat → Dat → Option Dat} {fa : GD} {fb : List OT → Option Dat} {e e1 : List OT} {x y d : Dat} (h1 : fa e = some (x, e1)) (h2 : fb e1 = some y) (h3 : g x y = some d) (z : d.sc = true) : binEB g fa fb e = some (d, e1) := by simp only [binEB, h1, h2, h3, z, if_true]
theorem retG_of {f : List OT → Option (OT × List OT)} {e e2 : List OT} {o : OT} (h : f e = some (o, e2)) : retG f e = some (.rt o e2) := by simp only [retG, h]
theorem setG_of {i : Nat} {f : List OT → Option (OT × List OT)} {e e2 e3 : List OT} {o : OT} (h : f e = some (o, e2)) (hi : i < e2.length) (he : e2.set i o = e3) : setG i f e = some (.nx e3) := by
  subst he
  simp only [setG, h, if_pos hi]
theorem tup_of {fs : List OT → Option (List Dat)} {e : List OT} {ds : List Dat} (h : fs e = some ds) (hl : ds.length ≤ 16000000) : tupD fs e = some (.tup ds) := by simp only [tupD, h, if_pos hl]
theorem lst_of {fs : List OT → Option (List Dat)} {e : List OT} {ds : List Dat} (h : fs e = some ds) (hl : ds.length ≤ 16000000) : lstD fs e = some (.lst (ds.map .sh)) := by simp only [lstD, h, if_pos hl]
/-- a comprehension with changes in its source -/
theorem lcE_of {α : Type} {src : GA} {own : List Nat} {st : Dat → List OT → Option (List OT)} {elt : List OT → Option Dat} {e e2 : List OT} {xs : List α} {c : α → Dat} (f : α → Dat) (hs : src e = some (xs.map c, e2)) (hl : xs.length < 16000000)
    (h : ∀ x ∈ xs, ∃ e1, st (c x) (wipeE e2 own) = some e1 ∧ elt e1 = some (f x)) : lcE src own st yesB elt e = some (.lst ((xs.map f).map .sh), e2) := by
  have go : ∀ ys : List α, (∀ x ∈ ys, x ∈ xs) → lcGo st yesB elt (wipeE e2 own) (ys.map c) = some (ys.map f) := by
    intro ys
    induction ys with
    | nil => intro _; rfl
    | cons y ys ih =>
      intro hy
      obtain ⟨e1, h1, h2⟩ := h y (hy y List.mem_cons_self)
      have := ih fun x hx => hy x (List.mem_cons_of_mem _ hx)
      simp [lcGo, h1, h2, this, yesB]
  unfold lcE
  rw [hs]
  simp only [List.length_map, if_pos hl, go xs fun _ h => h]
/-- .. with a test -/
theorem lcF_if {α : Type} {src : List OT → Option (List Dat)} {own : List Nat} {st : Dat → List OT → Option (List OT)} {test : List OT → Option Bool} {elt : List OT → Option Dat} {e : List OT} {xs : List α} {c : α → Dat} (p : α → Bool) (f : α → Dat) (hs : src e = some (xs.map c)) (hl : xs.length < 16000000)
    (h : ∀ x ∈ xs, ∃ e1, st (c x) (wipeE e own) = some e1 ∧ test e1 = some (p x) ∧ (p x = true → elt e1 = some (f x))) : lcF src own st test elt e = some (.lst (((xs.filter p).map f).map .sh)) := by
  have go : ∀ ys : List α, (∀ x ∈ ys, x ∈ xs) → lcGo st test elt (wipeE e own) (ys.map c) = some ((ys.filter p).map f) := by
    intro ys
    induction ys with
    | nil => intro _; rfl
    | cons y ys ih =>
      intro hy
      obtain ⟨e1, h1, h2, h3⟩ := h y (hy y List.mem_cons_self)
      have := ih fun x hx => hy x (List.mem_cons_of_mem _ hx)
      cases hp : p y with
      | true =>
        have h4 := h3 hp
        rw [hp] at h2
        simp [lcGo, h1, h2, this, hp, h4]
      | false =>
        rw [hp] at h2
        simp [lcGo, h1, h2, this, hp]
  unfold lcF
  rw [hs]
  simp only [List.length_map, if_pos hl, go xs fun _ h => h]
end DL
namespace Pf
open PySem DL
def tab_OhmError (c : String) : Option Bool := if c = "NoPoint" then some true else if c = "NoRow" then some true else if c = "NoSize" then some true else if c = "TooMany" then some true else none
def tabE_Hold (c : String) : Option Bool := if c = "NoPoint" then some false else if c = "NoRow" then some false else if c = "NoSize" then some false else if c = "TooMany" then some false else none
def tabO_Hold (c : String) : Option Bool := if c = "Hold" then some true else if c = "Net" then some false else if c = "Piece" then some false else if c = "Push" then some false else none
def tabE_NoPoint (c : String) : Option Bool := if c = "NoPoint" then some true else if c = "NoRow" then some false else if c = "NoSize" then some false else if c = "TooMany" then some false else none
def tabO_NoPoint (c : String) : Option Bool := if c = "Hold" then some false else if c = "Net" then some false else if c = "Piece" then some false else if c = "Push" then some false else none
def tabE_NoRow (c : String) : Option Bool := if c = "NoPoint" then some false else if c = "NoRow" then some true else if c = "NoSize" then some false else if c = "TooMany" then some false else none
def tabO_NoRow (c : String) : Option Bool := if c = "Hold" then some false else if c = "Net" then some false else if c = "Piece" then some false else if c = "Push" then some false else none
def tabE_NoSize (c : String) : Option Bool := if c = "NoPoint" then some false else if c = "NoRow" then some false else if c = "NoSize" then some true else if c = "TooMany" then some false else none
def tabO_NoSize (c : String) : Option Bool := if c = "Hold" then some false else if c = "Net" then some false else if c = "Piece" then some false else if c = "Push" then some false else none
def tabE_Piece (c : String) : Option Bool := if c = "NoPoint" then some false else if c = "NoRow" then some false else if c = "NoSize" then some false else if c = "TooMany" then some false else none
def tabO_Piece (c : String) : Option Bool := if c = "Hold" then some false else if c = "Net" then some false else if c = "Piece" then some true else if c = "Push" then some false else none
def tabE_NoPoint_NoRow_TooMany (c : String) : Option Bool := if c = "NoPoint" then some true else if c = "NoRow" then some true else if c = "NoSize" then some false else if c = "TooMany" then some true else none
def tabO_NoPoint_NoRow_TooMany (c : String) : Option Bool := if c = "Hold" then some false else if c = "Net" then some false else if c = "Piece" then some false else if c = "Push" then some false else none
def tabE_NoSize_NoPoint_TooMany (c : String) : Option Bool := if c = "NoPoint" then some true else if c = "NoRow" then some false else if c = "NoSize" then some true else if c = "TooMany" then some true else none
def tabO_NoSize_NoPoint_TooMany (c : String) : Option Bool := if c = "Hold" then some false else if c = "Net" then some false else if c = "Piece" then some false else if c = "Push" then some false else none
def tabE_NoSize_NoRow_TooMany (c : String) : Option Bool := if c = "NoPoint" then some false else if c = "NoRow" then some true else if c = "NoSize" then some true else if c = "TooMany" then some true else none
def tabO_NoSize_NoRow_TooMany (c : String) : Option Bool := if c = "Hold" then some false else if c = "Net" then some false else if c = "Piece" then some false else if c = "Push" then some false else none
def tabF_goal (c : String) : Bool := decide (c = "Hold") || decide (c = "Piece") || decide (c = "Push")
def tabF_kept (c : String) : Bool := decide (c = "Net")
def tabF_size (c : String) : Bool := decide (c = "Hold") || decide (c = "Piece") || decide (c = "Push")
def tabF_sizes (c : String) : Bool := decide (c = "Net")
def tabF_start (c : String) : Bool := decide (c = "Hold") || decide (c = "Piece") || decide (c = "Push")
def c_MOST_POINTS : Dat := .int 20
def c_MOST_ROWS : Dat := .int 40
noncomputable def g_is_whole : List OT → Option Out := (retS (bv (andB (tst (isiD "int" (vr 0))) (notB (tst (isiD "bool" (vr 0)))))))
noncomputable def m_is_whole : List Dat → Option OT := fnD 1 1 g_is_whole
noncomputable def g_Net_init : List OT → Option Out := (seqO (ifS (orB (notB (tst (mlt (callO 1 m_is_whole (consA (vr 1) nilA))))) (orB (tst (bin ltD (vr 1) (cn (.int 1)))) (tst (bin gtD (vr 1) (cn c_MOST_POINTS))))) nevO skipO)
    (seqO (fstS 0 nmP "sizes" tabF_sizes (vr 1))
    (fstO 0 nmP "kept" tabF_kept (lstD nilA))))
noncomputable def mL_Net_init : List OT → Option ResL := fnL 2 2 g_Net_init
noncomputable def g_Piece_word : List OT → Option Out := (retS (cn (.str "piece")))
noncomputable def mL_Piece_word : List OT → Option ResL := fnL 1 1 g_Piece_word
noncomputable def g_Push_word : List OT → Option Out := (retS (cn (.str "push")))
noncomputable def mL_Push_word : List OT → Option ResL := fnL 1 1 g_Push_word
noncomputable def g_Hold_word : List OT → Option Out := (retS (cn (.str "hold")))
noncomputable def mL_Hold_word : List OT → Option ResL := fnL 1 1 g_Hold_word
noncomputable def mt_word (c : String) : Option (List OT → Option ResL) := if c = "Piece" then some mL_Piece_word else if c = "Push" then some mL_Push_word else if c = "Hold" then some mL_Hold_word else none
noncomputable def g_Row_told : List OT → Option Out := (retS (tupD (consA (mlt (methSO 1 "word" mt_word (.inr (vr 0)) (csA []))) (consA (fldD "start" tabF_start (vr 0)) (consA (fldD "goal" tabF_goal (vr 0)) (consA (fldD "size" tabF_size (vr 0)) nilA))))))
noncomputable def mL_Row_told : List OT → Option ResL := fnL 1 1 g_Row_told
noncomputable def g_Net_told : List OT → Option Out := (retO (cpyP 0 (fldP "kept" tabF_kept nmP)))
noncomputable def mL_Net_told : List OT → Option ResL := fnL 1 1 g_Net_told
noncomputable def mt_told (c : String) : Option (List OT → Option ResL) := if c = "Piece" then some mL_Row_told else if c = "Push" then some mL_Row_told else if c = "Hold" then some mL_Row_told else if c = "Net" then some mL_Net_told else none
noncomputable def g_Row_init : List OT → Option Out := (seqO (fstS 0 nmP "start" tabF_start (vr 1))
    (seqO (fstS 0 nmP "goal" tabF_goal (vr 2))
    (fstS 0 nmP "size" tabF_size (vr 3))))
noncomputable def mL_Row_init : List OT → Option ResL := fnL 4 4 g_Row_init
noncomputable def g_row_of : List OT → Option Out := (seqO (asgS (vr 0) (toTup 4 (toCons (toN 1) (toCons (toN 2) (toCons (toN 3) (toCons (toN 4) toNil))))))
    (seqO (ifS (tst (bin eqD (vr 1) (cn (.str "piece")))) (retO (makeSO "Piece" 4 mL_Row_init ([.inr (vr 2), .inr (vr 3), .inr (vr 4)] ++ csA []))) skipO)
    (seqO (ifS (tst (bin eqD (vr 1) (cn (.str "push")))) (retO (makeSO "Push" 4 mL_Row_init ([.inr (vr 2), .inr (vr 3), .inr (vr 4)] ++ csA []))) skipO)
    (seqO (ifS (tst (bin eqD (vr 1) (cn (.str "hold")))) (retO (makeSO "Hold" 4 mL_Row_init ([.inr (vr 2), .inr (vr 3), .inr (vr 4)] ++ csA []))) skipO)
    nevO))))
noncomputable def m_row_of : List Dat → Option OT := fnD 1 5 g_row_of
noncomputable def g_Net_rows : List OT → Option Out := (retG (lcE (plcI 0 (fldP "kept" tabF_kept nmP)) [1] (toN 1) yesB (mlt (callO 1 m_row_of (consA (vr 1) nilA)))))
noncomputable def mL_Net_rows : List OT → Option ResL := fnL 1 2 g_Net_rows
noncomputable def mt_rows (c : String) : Option (List OT → Option ResL) := if c = "Net" then some mL_Net_rows else none
noncomputable def g_law_objects : List OT → Option Out := (seqO (setO 2 (methSO 1 "rows" mt_rows (.inr (vr 0)) (csA [])))
    (seqO (ifE (orE (pT (notB (tst (isiD "list" (brP 2 nmP))))) (tstE (binE neD (mltE (lcE (plcI 2 nmP) [4] (toN 4) yesB (mlt (methSO 1 "told" mt_told (.inr (vr 4)) (csA []))))) (pE (vr 1))))) (retS (cn (.bl false))) skipO)
    (seqO (forS (rng1 (consA (cal lenD (consA (vr 1) nilA)) nilA)) (toN 3) (seqO (setS 4 (rdP 2 (ixP nmP (vr 3))))
    (ifS (orB (tst (bin neD (isaO tabE_Piece tabO_Piece (vr 4)) (bin eqD (bin ixD (bin ixD (vr 1) (vr 3)) (cn (.int 0))) (cn (.str "piece"))))) (tst (bin neD (isaO tabE_Hold tabO_Hold (vr 4)) (bin eqD (bin ixD (bin ixD (vr 1) (vr 3)) (cn (.int 0))) (cn (.str "hold")))))) (retS (cn (.bl false))) skipO)))
    (seqO (appS 2 (cn .non))
    (retS (cn (.bl true)))))))
noncomputable def m_law_objects : List Dat → Option OT := fnD 2 5 g_law_objects
noncomputable def g_Net_many : List OT → Option Out := (retS (rdP 0 (fldP "sizes" tabF_sizes nmP)))
noncomputable def mL_Net_many : List OT → Option ResL := fnL 1 1 g_Net_many
noncomputable def mt_many (c : String) : Option (List OT → Option ResL) := if c = "Net" then some mL_Net_many else none
noncomputable def g_Net_count : List OT → Option Out := (retS (scO (cal lenD (consA (brP 0 (fldP "kept" tabF_kept nmP)) nilA))))
noncomputable def mL_Net_count : List OT → Option ResL := fnL 1 1 g_Net_count
noncomputable def mt_count (c : String) : Option (List OT → Option ResL) := if c = "Net" then some mL_Net_count else none
noncomputable def g_law_look : List OT → Option Out := (seqO (forS (lstOf (mlt (lstD (consA (bin modD (vr 3) (cn (.int 3))) (consA (bin modD (bin sumD (vr 3) (cn (.int 1))) (cn (.int 3))) (consA (bin modD (bin sumD (vr 3) (cn (.int 2))) (cn (.int 3))) nilA)))))) (toN 4) (seqO (ifS (andB (tst (bin eqD (vr 4) (cn (.int 0)))) (orB (tst (bin neD (mlt (methSO 1 "many" mt_many (.inr (vr 0)) (csA []))) (vr 1))) (tst (bin neD (mlt (methSO 1 "count" mt_count (.inr (vr 0)) (csA []))) (cal lenD (consA (vr 2) nilA)))))) (retS (cn (.bl false))) skipO)
    (seqO (ifS (andB (tst (bin eqD (vr 4) (cn (.int 1)))) (tst (bin neD (mlt (methSO 1 "told" mt_told (.inr (vr 0)) (csA []))) (vr 2)))) (retS (cn (.bl false))) skipO)
    (ifS (andB (tst (bin eqD (vr 4) (cn (.int 2)))) (notB (tst (mlt (callO 2 m_law_objects (consA (vr 0) (consA (vr 2) nilA))))))) (retS (cn (.bl false))) skipO))))
    (retS (cn (.bl true))))
noncomputable def m_law_look : List Dat → Option OT := fnD 4 5 g_law_look
noncomputable def g_law_mix : List OT → Option Out := (seqO (ifS (tst (bin geD (vr 0) (bin powD (cn (.int 10)) (cn (.int 18))))) (seqO (setS 3 (bin shrD (vr 0) (bin sumD (cn (.int 1)) (bin prdD (cn (.int 24)) (bin modD (vr 1) (cn (.int 274)))))))
    (ifS (tst (bin gtD (vr 3) (cn (.int 0)))) (retS (bin modD (vr 3) (vr 2))) skipO)) skipO)
    (seqO (setS 4 (bin modD (bin prdD (bin sumD (bin modD (vr 0) (cn (.int 1000003))) (cn (.int 1))) (vr 1)) (cn (.int 999983))))
    (retS (bin modD (bin modD (bin prdD (vr 4) (bin sumD (vr 4) (vr 1))) (cn (.int 1000033))) (vr 2)))))
noncomputable def m_law_mix : List Dat → Option OT := fnD 3 5 g_law_mix
noncomputable def g_law_pick : List OT → Option Out := (retS (bin ixD (bin sumD (mlt (sliF (vr 0) (partS (vr 1)) (partS (bin sumD (vr 1) (cn (.int 1)))))) (mlt (lstD (consA (cn (.int 0)) nilA)))) (cn (.int 0))))
noncomputable def m_law_pick : List Dat → Option OT := fnD 2 2 g_law_pick
noncomputable def g_law_divisor : List OT → Option Out := (seqO (setS 0 (cal absD (consA (vr 0) nilA)))
    (seqO (whileS (tst (bin neD (vr 1) (cn (.int 0)))) (parS 0 1 (consA (vr 1) (consA (bin modD (vr 0) (vr 1)) nilA))))
    (retS (vr 0))))
noncomputable def m_law_divisor : List Dat → Option OT := fnD 2 2 g_law_divisor
noncomputable def g_law_size : List OT → Option Out := (seqO (setS 2 (bin subD (bin modD (bin shrD (vr 0) (cn (.int 1))) (bin sumD (bin prdD (cn (.int 2)) (bin powD (cn (.int 10)) (cn (.int 12)))) (cn (.int 1)))) (bin powD (cn (.int 10)) (cn (.int 12)))))
    (seqO (ifS (tst (bin eqD (vr 1) (cn (.str "piece")))) (setS 2 (bin sumD (cn (.int 1)) (bin modD (bin shrD (vr 0) (cn (.int 1))) (bin powD (cn (.int 10)) (cn (.int 12)))))) skipO)
    (seqO (setS 3 (bin sumD (cn (.int 1)) (mlt (callO 3 m_law_mix (consA (vr 0) (consA (cn (.int 69621)) (consA (bin ixD (mlt (lstD (consA (cn (.int 7)) (consA (cn (.int 900001)) nilA)))) (mlt (callO 3 m_law_mix (consA (vr 0) (consA (cn (.int 16807)) (consA (cn (.int 2)) nilA)))))) nilA)))))))
    (seqO (setS 4 (mlt (callO 2 m_law_divisor (consA (vr 2) (consA (vr 3) nilA)))))
    (retS (tupD (consA (bin fdvD (vr 2) (vr 4)) (consA (bin fdvD (vr 3) (vr 4)) nilA))))))))
noncomputable def m_law_size : List Dat → Option OT := fnD 2 5 g_law_size
noncomputable def g_divisor : List OT → Option Out := (seqO (setS 0 (cal absD (consA (vr 0) nilA)))
    (seqO (setS 1 (cal absD (consA (vr 1) nilA)))
    (seqO (whileS (tst (bin neD (vr 1) (cn (.int 0)))) (parS 0 1 (consA (vr 1) (consA (bin modD (vr 0) (vr 1)) nilA))))
    (retS (vr 0)))))
noncomputable def m_divisor : List Dat → Option OT := fnD 2 2 g_divisor
noncomputable def g_is_fraction : List OT → Option Out := (seqO (ifS (orB (notB (tst (isiD "tuple" (vr 0)))) (tst (bin neD (cal lenD (consA (vr 0) nilA)) (cn (.int 2))))) (retS (cn (.bl false))) skipO)
    (seqO (ifS (orB (notB (tst (mlt (callO 1 m_is_whole (consA (bin ixD (vr 0) (cn (.int 0))) nilA))))) (orB (notB (tst (mlt (callO 1 m_is_whole (consA (bin ixD (vr 0) (cn (.int 1))) nilA))))) (tst (bin ltD (bin ixD (vr 0) (cn (.int 1))) (cn (.int 1)))))) (retS (cn (.bl false))) skipO)
    (retS (bin eqD (mlt (callO 2 m_divisor (consA (bin ixD (vr 0) (cn (.int 0))) (consA (bin ixD (vr 0) (cn (.int 1))) nilA)))) (cn (.int 1))))))
noncomputable def m_is_fraction : List Dat → Option OT := fnD 1 1 g_is_fraction
noncomputable def g_fits : List OT → Option Out := (retS (bv (andB (tst (mlt (callO 1 m_is_fraction (consA (vr 1) nilA)))) (orB (tst (bin neD (vr 0) (cn (.str "piece")))) (tst (bin gtD (bin ixD (vr 1) (cn (.int 0))) (cn (.int 0))))))))
noncomputable def m_fits : List Dat → Option OT := fnD 2 2 g_fits
noncomputable def g_Net_has : List OT → Option Out := (retS (bv (andB (tst (mlt (callO 1 m_is_whole (consA (vr 1) nilA)))) (tst (chnD leD ltD (cn (.int 0)) (vr 1) (rdP 0 (fldP "sizes" tabF_sizes nmP)))))))
noncomputable def mL_Net_has : List OT → Option ResL := fnL 2 2 g_Net_has
noncomputable def mt_has (c : String) : Option (List OT → Option ResL) := if c = "Net" then some mL_Net_has else none
noncomputable def g_Net_add : List OT → Option Out := (seqO (ifE (orE (notE (tstE (mltE (gOf (methGX 2 "has" mt_has (.inl 0) ([.inr (fldD "start" tabF_start (vr 1))] ++ csA [])))))) (notE (tstE (mltE (gOf (methGX 2 "has" mt_has (.inl 0) ([.inr (fldD "goal" tabF_goal (vr 1))] ++ csA []))))))) (raiS "NoPoint") skipO)
    (seqO (ifS (notB (tst (mlt (callO 2 m_fits (consA (mlt (methSO 1 "word" mt_word (.inr (vr 1)) (csA []))) (consA (fldD "size" tabF_size (vr 1)) nilA)))))) (raiS "NoSize") skipO)
    (seqO (ifS (tst (bin geD (scO (cal lenD (consA (brP 0 (fldP "kept" tabF_kept nmP)) nilA))) (cn c_MOST_ROWS))) (raiS "TooMany") skipO)
    (seqO (appP 0 (fldP "kept" tabF_kept nmP) (mlt (methSO 1 "told" mt_told (.inr (vr 1)) (csA []))))
    (retS (bin subD (scO (cal lenD (consA (brP 0 (fldP "kept" tabF_kept nmP)) nilA))) (cn (.int 1))))))))
noncomputable def mL_Net_add : List OT → Option ResL := fnL 2 2 g_Net_add
noncomputable def mt_add (c : String) : Option (List OT → Option ResL) := if c = "Net" then some mL_Net_add else none
noncomputable def g_Net_change : List OT → Option Out := (seqO (ifS (orB (notB (tst (mlt (callO 1 m_is_whole (consA (vr 1) nilA))))) (orB (tst (bin ltD (vr 1) (cn (.int 0)))) (tst (bin geD (vr 1) (scO (cal lenD (consA (brP 0 (fldP "kept" tabF_kept nmP)) nilA))))))) (raiS "NoRow") skipO)
    (seqO (asgS (rdP 0 (ixP (fldP "kept" tabF_kept nmP) (vr 1))) (toTup 4 (toCons (toN 3) (toCons (toN 4) (toCons (toN 5) (toCons (toN 6) toNil))))))
    (seqO (ifS (notB (tst (mlt (callO 2 m_fits (consA (vr 3) (consA (vr 2) nilA)))))) (raiS "NoSize") skipO)
    (stiP 0 (fldP "kept" tabF_kept nmP) (vr 1) (tupD (consA (vr 3) (consA (vr 4) (consA (vr 5) (consA (vr 2) nilA)))))))))
noncomputable def mL_Net_change : List OT → Option ResL := fnL 3 7 g_Net_change
noncomputable def mt_change (c : String) : Option (List OT → Option ResL) := if c = "Net" then some mL_Net_change else none
noncomputable def g_law_answer : List OT → Option Out := (seqO (setS 5 (cn .non))
    (seqO (setS 6 (cn .non))
    (seqO (tryS (ifS (tst (bin eqD (vr 1) (cn (.str "add")))) (setGXM 6 (methGX 2 "add" mt_add (.inl 0) ([.inr (vr 2)] ++ csA []))) (setGXM 6 (methGX 3 "change" mt_change (.inl 0) ([.inr (vr 3), .inr (vr 4)] ++ csA [])))) [⟨tab_OhmError, some 7, (setS 5 (vr 7))⟩])
    (seqO (ifS (andB (tst (isaO tabE_NoPoint tabO_NoPoint (vr 5))) (notB (tst (isaO tabE_NoSize_NoRow_TooMany tabO_NoSize_NoRow_TooMany (vr 5))))) (retS (tupD (consA (cn (.str "refused")) (consA (cn (.str "point")) nilA)))) skipO)
    (seqO (ifS (andB (tst (isaO tabE_NoSize tabO_NoSize (vr 5))) (notB (tst (isaO tabE_NoPoint_NoRow_TooMany tabO_NoPoint_NoRow_TooMany (vr 5))))) (retS (tupD (consA (cn (.str "refused")) (consA (cn (.str "size")) nilA)))) skipO)
    (seqO (ifS (andB (tst (isaO tabE_NoRow tabO_NoRow (vr 5))) (notB (tst (isaO tabE_NoSize_NoPoint_TooMany tabO_NoSize_NoPoint_TooMany (vr 5))))) (retS (tupD (consA (cn (.str "refused")) (consA (cn (.str "row")) nilA)))) skipO)
    (retS (tupD (consA (cn (.str "told")) (consA (vr 6) (consA (isN (vr 5)) (consA (isiD "bool" (vr 6)) nilA))))))))))))
noncomputable def mL_law_answer : List OT → Option ResL := fnL 5 8 g_law_answer
noncomputable def g_law_bad_size : List OT → Option Out := (seqO (setS 3 (mlt (callO 3 m_law_mix (consA (vr 0) (consA (cn (.int 40692)) (consA (cn (.int 5)) nilA))))))
    (seqO (ifS (andB (tst (bin eqD (vr 1) (cn (.str "piece")))) (tst (bin ltD (vr 3) (cn (.int 2))))) (retS (bin ixD (mlt (lstD (consA (tupD (consA (cn (.int 0)) (consA (cn (.int 1)) nilA))) (consA (tupD (consA (bin subD (cn (.int 0)) (bin ixD (vr 2) (cn (.int 0)))) (consA (bin ixD (vr 2) (cn (.int 1))) nilA))) nilA)))) (vr 3))) skipO)
    (seqO (ifS (tst (bin eqD (vr 3) (cn (.int 3)))) (retO (lstD (consA (bin ixD (vr 2) (cn (.int 0))) (consA (bin ixD (vr 2) (cn (.int 1))) nilA)))) skipO)
    (seqO (ifS (tst (bin eqD (vr 3) (cn (.int 4)))) (seqO (setS 4 (mlt (lstD (consA (cn .non) (consA (cn (.int 3)) (consA (tupD (consA (cn (.int 1)) (consA (cn (.int 0)) nilA))) (consA (tupD (consA (cn (.bl true)) (consA (cn (.int 1)) nilA))) (consA (tupD (consA (cn (.int 3)) (consA (negD (cn (.int 2))) nilA))) (consA (tupD (consA (negD (cn (.int 1))) (consA (negD (cn (.int 2))) nilA))) (consA (tupD (consA (cn (.int 1)) (consA (cn (.bl true)) nilA))) (consA (tupD (consA (cn (.int 1)) (consA (cn (.int 2)) (consA (cn (.int 1)) nilA)))) (consA (cn (.str "1")) (consA (cn (.dct [] [])) (consA (tupD (consA (mlt (lstD (consA (cn (.int 1)) nilA))) (consA (cn (.int 2)) nilA))) (consA (tupD (consA (cn (.int 1)) (consA (mlt (lstD (consA (cn (.int 2)) nilA))) nilA))) nilA)))))))))))))))
    (retS (bin ixD (vr 4) (mlt (callO 3 m_law_mix (consA (vr 0) (consA (cn (.int 30269)) (consA (cn (.int 12)) nilA)))))))) skipO)
    (retS (tupD (consA (bin prdD (cn (.int 2)) (bin ixD (vr 2) (cn (.int 0)))) (consA (bin prdD (cn (.int 2)) (bin ixD (vr 2) (cn (.int 1)))) nilA))))))))
noncomputable def m_law_bad_size : List Dat → Option OT := fnD 3 5 g_law_bad_size
noncomputable def g_law_change : List OT → Option Out := (seqO (setS 3 (mlt (callO 3 m_law_mix (consA (vr 2) (consA (cn (.int 53668)) (consA (bin sumD (scO (cal lenD (consA (brP 1 nmP) nilA))) (cn (.int 1))) nilA))))))
    (seqO (ifS (tst (bin eqD (vr 3) (scO (cal lenD (consA (brP 1 nmP) nilA))))) (seqO (setS 3 (bin ixD (mlt (lstD (consA (scO (cal lenD (consA (brP 1 nmP) nilA))) (consA (negD (cn (.int 1))) (consA (cn (.bl true)) (consA (cn .non) (consA (cn (.str "0")) (consA (tupD (consA (cn (.int 0)) nilA)) (consA (bin powD (cn (.int 10)) (cn (.int 20))) (consA (mlt (lstD (consA (cn (.int 0)) nilA))) (consA (cn (.dct [] [])) nilA))))))))))) (mlt (callO 3 m_law_mix (consA (vr 2) (consA (cn (.int 52774)) (consA (cn (.int 9)) nilA)))))))
    (seqO (setS 4 (bin ixD (mlt (lstD (consA (tupD (consA (cn (.int 1)) (consA (cn (.int 1)) nilA))) (consA (tupD (consA (cn (.int 2)) (consA (cn (.int 2)) nilA))) nilA)))) (mlt (callO 3 m_law_mix (consA (vr 2) (consA (cn (.int 12211)) (consA (cn (.int 2)) nilA)))))))
    (retG (shG (binE eqD (mltE (gOf (callGX 5 mL_law_answer ([.inl 0, .inr (cn (.str "change")), .inr (cn .non), .inr (vr 3), .inr (vr 4)] ++ csA [])))) (pE (tupD (consA (cn (.str "refused")) (consA (cn (.str "row")) nilA))))))))) skipO)
    (seqO (asgS (rdP 1 (ixP nmP (vr 3))) (toTup 4 (toCons (toN 5) (toCons (toN 6) (toCons (toN 7) (toCons (toN 8) toNil))))))
    (seqO (setS 4 (mlt (callO 2 m_law_size (consA (vr 2) (consA (vr 5) nilA)))))
    (seqO (ifS (tst (bin eqD (mlt (callO 3 m_law_mix (consA (vr 2) (consA (cn (.int 3791)) (consA (cn (.int 3)) nilA))))) (cn (.int 1)))) (retG (shG (binE eqD (mltE (gOf (callGX 5 mL_law_answer ([.inl 0, .inr (cn (.str "change")), .inr (cn .non), .inr (vr 3), .inr (mlt (callO 3 m_law_bad_size (consA (vr 2) (consA (vr 5) (consA (vr 4) nilA)))))] ++ csA [])))) (pE (tupD (consA (cn (.str "refused")) (consA (cn (.str "size")) nilA))))))) skipO)
    (seqO (ifE (tstE (binE neD (mltE (gOf (callGX 5 mL_law_answer ([.inl 0, .inr (cn (.str "change")), .inr (cn .non), .inr (vr 3), .inr (vr 4)] ++ csA [])))) (pE (tupD (consA (cn (.str "told")) (consA (cn .non) (consA (cn (.bl true)) (consA (cn (.bl false)) nilA)))))))) (retS (cn (.bl false))) skipO)
    (seqO (stiP 1 nmP (vr 3) (tupD (consA (vr 5) (consA (vr 6) (consA (vr 7) (consA (vr 4) nilA))))))
    (retS (cn (.bl true))))))))))
noncomputable def mL_law_change : List OT → Option ResL := fnL 3 9 g_law_change
noncomputable def g_law_made : List OT → Option Out := (seqO (ifS (tst (bin eqD (vr 0) (cn (.str "piece")))) (retO (makeSO "Piece" 4 mL_Row_init ([.inr (vr 1), .inr (vr 2), .inr (vr 3)] ++ csA []))) skipO)
    (seqO (ifS (tst (bin eqD (vr 0) (cn (.str "push")))) (retO (makeSO "Push" 4 mL_Row_init ([.inr (vr 1), .inr (vr 2), .inr (vr 3)] ++ csA []))) skipO)
    (retO (makeSO "Hold" 4 mL_Row_init ([.inr (vr 1), .inr (vr 2), .inr (vr 3)] ++ csA [])))))
noncomputable def m_law_made : List Dat → Option OT := fnD 4 4 g_law_made
noncomputable def g_law_bad_point : List OT → Option Out := (retS (bin ixD (mlt (lstD (consA (vr 1) (consA (negD (cn (.int 1))) (consA (cn (.bl true)) (consA (cn .non) (consA (bin sumD (vr 1) (bin powD (cn (.int 10)) (cn (.int 20)))) (consA (cn (.str "0")) (consA (tupD (consA (cn (.int 0)) nilA)) (consA (mlt (lstD (consA (cn (.int 0)) nilA))) (consA (cn (.dct [] [])) nilA))))))))))) (mlt (callO 3 m_law_mix (consA (vr 0) (consA (cn (.int 39373)) (consA (cn (.int 9)) nilA)))))))
noncomputable def m_law_bad_point : List Dat → Option OT := fnD 2 2 g_law_bad_point
noncomputable def g_law_add : List OT → Option Out := (seqO (setS 4 (bin ixD (mlt (lstD (consA (cn (.str "piece")) (consA (cn (.str "push")) (consA (cn (.str "hold")) nilA))))) (mlt (callO 3 m_law_mix (consA (vr 2) (consA (cn (.int 48271)) (consA (cn (.int 3)) nilA)))))))
    (seqO (setG 5 (shG (mltE (callE 3 m_law_mix (consE (pE (vr 2)) (consE (pE (cn (.int 30307))) (consE (mltE (gOf (methGX 1 "many" mt_many (.inl 0) (csA [])))) nilE)))))))
    (seqO (setG 6 (shG (mltE (callE 3 m_law_mix (consE (pE (vr 2)) (consE (pE (cn (.int 30323))) (consE (mltE (gOf (methGX 1 "many" mt_many (.inl 0) (csA [])))) nilE)))))))
    (seqO (setS 7 (mlt (callO 2 m_law_size (consA (vr 2) (consA (vr 4) nilA)))))
    (seqO (setS 8 (tupD (consA (cn (.str "told")) (consA (scO (cal lenD (consA (brP 1 nmP) nilA))) (consA (cn (.bl true)) (consA (cn (.bl false)) nilA))))))
    (seqO (setS 9 (mlt (callO 3 m_law_mix (consA (vr 2) (consA (cn (.int 44488)) (consA (cn (.int 9)) nilA))))))
    (seqO (ifS (orB (tst (bin eqD (vr 9) (cn (.int 1)))) (tst (bin eqD (vr 9) (cn (.int 2))))) (seqO (setS 7 (mlt (callO 3 m_law_bad_size (consA (vr 2) (consA (vr 4) (consA (vr 7) nilA))))))
    (setS 8 (tupD (consA (cn (.str "refused")) (consA (cn (.str "size")) nilA))))) skipO)
    (seqO (ifS (orB (tst (bin eqD (vr 9) (cn (.int 0)))) (tst (bin eqD (vr 9) (cn (.int 1))))) (seqO (setG 5 (shG (mltE (callE 2 m_law_bad_point (consE (pE (vr 2)) (consE (mltE (gOf (methGX 1 "many" mt_many (.inl 0) (csA [])))) nilE))))))
    (setS 8 (tupD (consA (cn (.str "refused")) (consA (cn (.str "point")) nilA))))) skipO)
    (seqO (ifS (tst (bin eqD (vr 9) (cn (.int 3)))) (seqO (setG 6 (shG (mltE (callE 2 m_law_bad_point (consE (pE (vr 2)) (consE (mltE (gOf (methGX 1 "many" mt_many (.inl 0) (csA [])))) nilE))))))
    (setS 8 (tupD (consA (cn (.str "refused")) (consA (cn (.str "point")) nilA))))) skipO)
    (seqO (setS 10 (mlt (callO 4 m_law_made (consA (vr 4) (consA (vr 5) (consA (vr 6) (consA (vr 7) nilA)))))))
    (seqO (ifE (tstE (binE neD (mltE (gOf (callGX 5 mL_law_answer ([.inl 0, .inr (cn (.str "add")), .inr (vr 10), .inr (cn (.int 0)), .inr (vr 7)] ++ csA [])))) (pE (vr 8)))) (retS (cn (.bl false))) skipO)
    (seqO (appP 3 nmP (tupD (consA (mlt (lstD (consA (vr 10) nilA))) (consA (mlt (lstD (consA (tupD (consA (vr 4) (consA (vr 5) (consA (vr 6) (consA (vr 7) nilA))))) nilA))) nilA))))
    (seqO (ifS (tst (bin eqD (bin ixD (vr 8) (cn (.int 0))) (cn (.str "told")))) (appP 1 nmP (tupD (consA (vr 4) (consA (vr 5) (consA (vr 6) (consA (vr 7) nilA)))))) skipO)
    (retS (cn (.bl true))))))))))))))))
noncomputable def mL_law_add : List OT → Option ResL := fnL 4 11 g_law_add
noncomputable def g_law : List OT → Option Out := (seqO (setS 1 (bin sumD (cn (.int 1)) (mlt (callO 3 m_law_mix (consA (mlt (callO 2 m_law_pick (consA (vr 0) (consA (cn (.int 0)) nilA)))) (consA (cn (.int 48271)) (consA (cn (.int 20)) nilA)))))))
    (seqO (setO 2 (makeSO "Net" 2 mL_Net_init ([.inr (vr 1)] ++ csA [])))
    (seqO (setO 3 (lstD nilA))
    (seqO (setO 4 (lstD nilA))
    (seqO (setO 5 (lstD nilA))
    (seqO (forS (lstOf (mlt (sliF (vr 0) (partS (cn (.int 1))) (partS (cn (.int 32)))))) (toN 6) (seqO (ifS (tst (bin eqD (mlt (callO 3 m_law_mix (consA (vr 6) (consA (cn (.int 21701)) (consA (cn (.int 4)) nilA))))) (cn (.int 1)))) (setGXM 7 (callGX 3 mL_law_change ([.inl 2, .inl 3, .inr (vr 6)] ++ csA []))) (setGXM 7 (callGX 4 mL_law_add ([.inl 2, .inl 3, .inr (vr 6), .inl 5] ++ csA []))))
    (seqO (ifS (orB (notB (tst (vr 7))) (notB (tst (mlt (callV 4 m_law_look (consA (vwP 2 nmP) (consA (vr 1) (consA (vwP 3 nmP) (consA (mlt (callO 3 m_law_mix (consA (vr 6) (consA (cn (.int 33461)) (consA (cn (.int 3)) nilA))))) nilA))))))))) (retS (cn (.bl false))) skipO)
    (seqO (appE2 4 (tupE (consE (mltE (gOf (methGX 1 "told" mt_told (.inl 2) (csA [])))) (consE (pE (mlt (cpyP 3 nmP))) nilE))))
    (seqO (appE2 5 (tupE (consE (mltE (gOf (methGX 1 "rows" mt_rows (.inl 2) (csA [])))) (consE (pE (mlt (cpyP 3 nmP))) nilE))))
    (appVG (methGX 1 "told" mt_told (.inl 2) (csA []))))))))
    (seqO (frzS 4 (forS (lstOf (vr 4)) (toTup 2 (toCons (toN 8) (toCons (toN 9) toNil))) (ifS (orB (notB (tst (isiD "list" (vr 8)))) (tst (bin neD (vr 8) (vr 9)))) (retS (cn (.bl false))) skipO)))
    (seqO (frzS 5 (forS (lstOf (vr 5)) (toTup 2 (toCons (toN 8) (toCons (toN 9) toNil))) (ifS (tst (bin neC (mlt (lcF (lstOf (vr 8)) [10] (toN 10) yesB (mlt (methSO 1 "told" mt_told (.inr (vr 10)) (csA []))))) (vr 9))) (retS (cn (.bl false))) skipO)))
    (retS (mlt (callV 4 m_law_look (consA (vwP 2 nmP) (consA (vr 1) (consA (vwP 3 nmP) (consA (cn (.int 1)) nilA)))))))))))))))
noncomputable def m_law : List Dat → Option OT := fnD 1 11 g_law
end Pf
namespace Pf
open PySem DL L2
/-! ### the program's ratios -/
theorem fmod_lt {a b : Int} (h : b ≠ 0) : (a.fmod b).natAbs < b.natAbs := by
  rcases Int.lt_trichotomy b 0 with hb | hb | hb
  · have h1 := Int.fmod_eq_emod_of_nonneg (-a) (show (0 : Int) ≤ -b by omega)
    have h2 : a.fmod b = -((-a).fmod (-b)) := by
      have := Int.neg_fmod_neg (-a) (-b)
      simp only [Int.neg_neg] at this
      exact this
    rw [h2, h1, Int.natAbs_neg]
    have h3 := Int.emod_nonneg (-a) (show -b ≠ 0 by omega)
    have h4 := Int.emod_lt_of_pos (-a) (show (0 : Int) < -b by omega)
    omega
  · exact absurd hb h
  · rw [Int.fmod_eq_emod_of_nonneg a (by omega)]
    have h3 := Int.emod_nonneg a (show b ≠ 0 by omega)
    have h4 := Int.emod_lt_of_pos a hb
    omega
theorem gcd_fmod (a b : Int) : Int.gcd b (a.fmod b) = Int.gcd a b := by
  have h := Int.fmod_add_mul_fdiv a b
  generalize a.fmod b = r at h
  generalize a.fdiv b = q at h
  subst h
  rw [Int.gcd_comm (r + b * q) b]
  simp
/-- the loop of both divisors -/
theorem gcd_loop : ∀ (n : Nat) (a b : Int), b.natAbs ≤ n → ∃ c : Int, c.natAbs = Int.gcd a b ∧ (0 ≤ a → 0 ≤ b → 0 ≤ c) ∧
    whileS (tst (DL.bin neD (vr 1) (cn (.int 0)))) (parS 0 1 (consA (vr 1) (consA (DL.bin modD (vr 0) (vr 1)) nilA))) [.sh (.int a), .sh (.int b)] = some (.nx [.sh (.int c), .sh (.int 0)])
  | n, a, b, h => by
    by_cases hb : b = 0
    · subst hb
      refine ⟨a, by simp, fun x _ => x, while_stop rfl⟩
    · cases n with
      | zero => omega
      | succ n =>
        have hl := fmod_lt (a := a) hb
        obtain ⟨c, h1, h2, h3⟩ := gcd_loop n b (a.fmod b) (by omega)
        refine ⟨c, by rw [h1, gcd_fmod], fun x y => h2 y (by rw [Int.fmod_eq_emod_of_nonneg a y]; exact Int.emod_nonneg a hb), ?_⟩
        refine while_step (e1 := [.sh (.int b), .sh (.int (a.fmod b))]) ?_ ?_ h3
        · show some (!decide (b = 0)) = some true
          rw [decide_eq_false hb]
          rfl
        · have : modD (.int a) (.int b) = some (.int (a.fmod b)) := modD_ok hb
          simp [this]
theorem divisor_eq (a b : Int) : m_divisor [.int a, .int b] = some (.sh (.int (Int.gcd a b : Nat))) := by
  have habs : ∀ x : Int, (if x < 0 then -x else x) = (x.natAbs : Int) := fun x => by split <;> omega
  obtain ⟨c, h1, h2, h3⟩ := gcd_loop b.natAbs a.natAbs b.natAbs (by simp)
  have hc : c = (Int.gcd a b : Nat) := by
    have := h2 (by omega) (by omega)
    have e : Int.gcd (a.natAbs : Int) (b.natAbs : Int) = Int.gcd a b := by simp [Int.gcd]
    rw [e] at h1
    omega
  subst hc
  first | rw [m_divisor, fn_len (by rfl)] | rw [m_divisor, mX_divisor, okX_fn, fn_len (by rfl)]
  simp [g_divisor, habs, h3]
theorem is_whole_eq (a : Int) : m_is_whole [.int a] = some (.sh (.bl true)) := by
  first | rw [m_is_whole, fn_len (by rfl)] | rw [m_is_whole, mX_is_whole, okX_fn, fn_len (by rfl)]
  simp [g_is_whole]
theorem fdiv_exact {a : Int} {g : Nat} (hg : 0 < g) (h : (g : Int) ∣ a) : a.fdiv (g : Int) = a / (g : Int) := Int.fdiv_eq_ediv_of_nonneg a (by omega)
/-- the fraction of a by b -/
def rsum : List Rat → Rat
  | [] => 0
  | q :: qs => q + rsum qs
theorem enc0 : enc 0 = .tup [.int 0, .int 1] := rfl
theorem sz0 : Sz 0 1 := ⟨by decide, by decide⟩
theorem sz_rsum {m : Nat} : ∀ {qs : List Rat}, (∀ q ∈ qs, Sz q m) → Sz (rsum qs) (1 + qs.length * (m + 1))
  | [], _ => by simpa [rsum] using sz0
  | q :: qs, h => by
    have a := h q List.mem_cons_self
    have b := sz_rsum (qs := qs) fun y hy => h y (List.mem_cons_of_mem _ hy)
    have c := a.add b
    refine c.mono ?_
    simp only [List.length_cons, Nat.add_mul]
    omega
/-! ### steps and small sums -/
theorem fmod_range {a b : Int} (h : 0 < b) : 0 ≤ a.fmod b ∧ a.fmod b < b := by
  rw [Int.fmod_eq_emod_of_nonneg a (by omega)]
  exact ⟨Int.emod_nonneg a (by omega), Int.emod_lt_of_pos a h⟩
theorem ntst_of {f : List OT → Option Dat} {e : List OT} {b : Bool} (h : f e = some (.bl b)) : notB (tst f) e = some (!b) := by simp only [notB, tst, h, Option.map_some]
theorem tst_of {f : List OT → Option Dat} {e : List OT} {b : Bool} (h : f e = some (.bl b)) : tst f e = some b := by simp only [tst, h]
theorem app_of {i : Nat} {f : List OT → Option Dat} {e e1 : List OT} {xs : List OT} {d : Dat} (h1 : e[i]? = some (.lst xs)) (h2 : f e = some d) (hl : xs.length < 16000000) (he : e.set i (.lst (xs ++ [.sh d])) = e1) : appS i f e = some (.nx e1) := by
  simp only [appS, h1, h2, if_pos hl, he]
theorem nil_of (e : List OT) : nilA e = some [] := rfl
theorem cn_of (d : Dat) (e : List OT) : cn d e = some d := rfl
theorem fdvD_lit {i j : Int} (h : j ≠ 0) (hj : j.natAbs < 2 ^ 200) : fdvD (.int i) (.int j) = some (.int (i.fdiv j)) := fdvD_ok h (Nat.lt_of_lt_of_le hj (Nat.pow_le_pow_right (by decide) (by decide)))
theorem low_enc {a b : Int} (hb : 0 < b) : enc (Rat.divInt a b) = .tup [.int (a.fdiv ((Int.gcd a b : Nat) : Int)), .int (b.fdiv ((Int.gcd a b : Nat) : Int))] := by
  have q1 : a.fdiv ((Int.gcd a b : Nat) : Int) = b.sign * a / ((Int.gcd a b : Nat) : Int) := by
    rw [Int.sign_eq_one_of_pos hb, Int.one_mul, Int.fdiv_eq_ediv_of_nonneg _ (by omega)]
  have q2 : b.fdiv ((Int.gcd a b : Nat) : Int) = (b.natAbs / Int.gcd a b : Nat) := by
    rw [Int.fdiv_eq_ediv_of_nonneg _ (by omega)]
    have : b = (b.natAbs : Int) := by omega
    conv => lhs; rw [this]
    simp [Int.gcd]
  unfold enc
  rw [Rat.num_divInt, Rat.den_divInt, if_neg (show b ≠ 0 by omega), Int.gcd_comm b a, q1, q2]
theorem gcd_pos_r {a b : Int} (hb : b ≠ 0) : ((Int.gcd a b : Nat) : Int) ≠ 0 := by
  have : 0 < Int.gcd a b := Int.gcd_pos_iff.mpr (.inr hb)
  omega
theorem gcd_lt_r {a b : Int} {n : Nat} (hb : b ≠ 0) (hs : b.natAbs < 2 ^ n) : ((Int.gcd a b : Nat) : Int).natAbs < 2 ^ n := by
  rw [Int.natAbs_natCast]
  exact Nat.lt_of_le_of_lt (Nat.le_of_dvd (by omega) (Int.gcd_dvd_natAbs_right a b)) hs
theorem gcd_red (q : Rat) : Int.gcd q.num (q.den : Int) = 1 := q.reduced
theorem rsum_app : ∀ (xs ys : List Rat), rsum (xs ++ ys) = rsum xs + rsum ys
  | [], ys => by simp [rsum, Rat.zero_add]
  | x :: xs, ys => by simp [rsum, rsum_app xs ys, Rat.add_assoc]
theorem rsum_rev : ∀ xs : List Rat, rsum xs.reverse = rsum xs
  | [] => rfl
  | x :: xs => by simp [rsum_app, rsum_rev xs, rsum, Rat.add_comm, Rat.zero_add, Rat.add_zero]
theorem divInt_one_iff {t b : Int} (hb : 0 < b) (r : Rat) : t * (r.den : Int) = r.num * b ↔ Rat.divInt t b = r := by
  conv => rhs; rhs; rw [← divInt_self r]
  exact (Rat.divInt_eq_divInt_iff (by omega) (den_ne r)).symm
theorem plain_encs (qs : List Rat) : Plain (.lst (qs.map enc)) 2 := .lst fun d h => by
  obtain ⟨q, _, rfl⟩ := List.mem_map.mp h
  exact plain_enc q
/-! ### rows and nets -/
inductive Wd where
  | piece | push | hold
  deriving DecidableEq
def Wd.s : Wd → Str
  | .piece => "piece"
  | .push => "push"
  | .hold => "hold"
def Wd.c : Wd → String
  | .piece => "Piece"
  | .push => "Push"
  | .hold => "Hold"
structure RT where
  w : Wd
  a : Nat
  b : Nat
  q : Rat
def RT.tup (r : RT) : Dat := .tup [.str r.w.s, .int (r.a : Int), .int (r.b : Int), enc r.q]
def RT.obj (r : RT) : Dat := .obj r.w.c ["start", "goal", "size"] [.int (r.a : Int), .int (r.b : Int), enc r.q]
def RT.own (r : RT) : OT := .obj r.w.c ["start", "goal", "size"] [.sh (.int (r.a : Int)), .sh (.int (r.b : Int)), .sh (enc r.q)]
theorem RT.own_ok (r : RT) : r.own.ok = true := by simp [RT.own, OT.ok]
theorem RT.own_dat (r : RT) : r.own.dat = r.obj := by simp [RT.own, RT.obj, OT.dat]
/-- fit for a net of n points -/
structure RT.Good (r : RT) (n : Nat) : Prop where
  a : r.a < n
  b : r.b < n
  q : r.w = .piece → 0 < r.q.num
def netO (n : Nat) (rs : List RT) : OT := .obj "Net" ["sizes", "kept"] [.sh (.int (n : Int)), .lst (rs.map fun r => .sh r.tup)]
theorem pieceD_ne {w : Wd} : decide (w.s = "piece") = decide (w = .piece) := by cases w <;> decide +kernel
theorem Row_init_eq (c : String) (hc : c = "Piece" ∨ c = "Push" ∨ c = "Hold") (a b q : Dat) : mL_Row_init [.obj c [] [], .sh a, .sh b, .sh q] = some (.ok (.sh .non) [.obj c ["start", "goal", "size"] [.sh a, .sh b, .sh q], .sh a, .sh b, .sh q]) := by
  have h1 : tabF_start c = true := by rcases hc with rfl | rfl | rfl <;> decide
  have h2 : tabF_goal c = true := by rcases hc with rfl | rfl | rfl <;> decide
  have h3 : tabF_size c = true := by rcases hc with rfl | rfl | rfl <;> decide
  refine fnL_nx (e := [.lent (.obj c ["start", "goal", "size"] [.sh a, .sh b, .sh q]), .sh a, .sh b, .sh q]) rfl ?_ ?_
  · simp [g_Row_init, h1, h2, h3]
  · simp
theorem Wd.c3 (w : Wd) : w.c = "Piece" ∨ w.c = "Push" ∨ w.c = "Hold" := by cases w <;> simp [Wd.c]
theorem meth_word (r : RT) {g : List OT → Option Dat} {e : List OT} (h : g e = some r.obj) : methSO 1 "word" mt_word (.inr g) (csA []) e = some (.sh (.str r.w.s)) := by
  have a1 : argsO [.inr g] e = some [.sh r.obj] := by simp [h]
  rcases r with ⟨w, a, b, q⟩
  cases w
  · rw [methSO_of (f := mL_Piece_word) a1 (cls_sh _ _ _) (by simp) (by simp [mt_word, Wd.c])]
    exact callSO_of (os' := [.sh _]) a1 rfl rfl (fnL_rt rfl (retS_of rfl) (by rfl))
  · rw [methSO_of (f := mL_Push_word) a1 (cls_sh _ _ _) (by simp) (by simp [mt_word, Wd.c])]
    exact callSO_of (os' := [.sh _]) a1 rfl rfl (fnL_rt rfl (retS_of rfl) (by rfl))
  · rw [methSO_of (f := mL_Hold_word) a1 (cls_sh _ _ _) (by simp) (by simp [mt_word, Wd.c])]
    exact callSO_of (os' := [.sh _]) a1 rfl rfl (fnL_rt rfl (retS_of rfl) (by rfl))
theorem tabF_row (w : Wd) : tabF_start w.c = true ∧ tabF_goal w.c = true ∧ tabF_size w.c = true := by cases w <;> decide
theorem fld_start (r : RT) {g : List OT → Option Dat} {e : List OT} (h : g e = some r.obj) : fldD "start" tabF_start g e = some (.int (r.a : Int)) := by
  simp [h, RT.obj, (tabF_row r.w).1]
theorem fld_goal (r : RT) {g : List OT → Option Dat} {e : List OT} (h : g e = some r.obj) : fldD "goal" tabF_goal g e = some (.int (r.b : Int)) := by
  simp [h, RT.obj, (tabF_row r.w).2.1]
theorem fld_size (r : RT) {g : List OT → Option Dat} {e : List OT} (h : g e = some r.obj) : fldD "size" tabF_size g e = some (enc r.q) := by
  simp [h, RT.obj, (tabF_row r.w).2.2]
theorem Row_told_eq (r : RT) : mL_Row_told [.sh r.obj] = some (.ok (.sh r.tup) [.sh r.obj]) := by
  refine fnL_rt (e := [.sh r.obj]) rfl (retS_of ?_) (by rfl)
  have w := mlt_shd (meth_word r (g := vr 0) (e := [.sh r.obj]) rfl)
  have c := cons_of w (cons_of (fld_start r (g := vr 0) (e := [.sh r.obj]) rfl) (cons_of (fld_goal r (g := vr 0) (e := [.sh r.obj]) rfl) (cons_of (fld_size r (g := vr 0) (e := [.sh r.obj]) rfl) (nil_of _))))
  show tupD _ [.sh r.obj] = _
  simp only [tupD, c]
  rfl
theorem meth_told (r : RT) {g : List OT → Option Dat} {e : List OT} (h : g e = some r.obj) : methSO 1 "told" mt_told (.inr g) (csA []) e = some (.sh r.tup) := by
  have a1 : argsO [.inr g] e = some [.sh r.obj] := by simp [h]
  have mt : mt_told r.w.c = some mL_Row_told := by cases r.w <;> simp [mt_told, Wd.c]
  rw [methSO_of (f := mL_Row_told) a1 (cls_sh _ _ _) (by simp) mt]
  exact callSO_of a1 rfl rfl (Row_told_eq r)
theorem Net_init_eq (n : Nat) (h1 : 1 ≤ n) (h2 : n ≤ 20) : mL_Net_init [.obj "Net" [] [], .sh (.int (n : Int))] = some (.ok (.sh .non) [netO n [], .sh (.int (n : Int))]) := by
  refine fnL_nx (e := [.lent (netO n []), .sh (.int (n : Int))]) rfl ?_ (by simp [netO])
  have w := is_whole_eq (n : Int)
  have e1 : ¬ ((n : Int) < 1) := by omega
  have e2 : ¬ ((20 : Int) < (n : Int)) := by omega
  have t1 : tabF_sizes "Net" = true := by decide
  have t2 : tabF_kept "Net" = true := by decide
  simp [g_Net_init, netO, w, c_MOST_POINTS, e1, e2, t1, t2]
theorem tabN : tabF_sizes "Net" = true ∧ tabF_kept "Net" = true := ⟨by decide, by decide⟩
theorem whole_int (i : Int) {g : List OT → Option Dat} {e : List OT} (h : g e = some (.int i)) : mlt (callO 1 m_is_whole (consA g nilA)) e = some (.bl true) :=
  mlt_shd (call_of (cons_of h (nil_of e)) rfl (is_whole_eq i))
theorem Net_has_eq (n : Nat) (rs : List RT) (a : Int) : mL_Net_has [netO n rs, .sh (.int a)] = some (.ok (.sh (.bl (decide (0 ≤ a ∧ a < n)))) [netO n rs, .sh (.int a)]) := by
  refine fnL_rt (e := [.lent (netO n rs), .sh (.int a)]) rfl (retS_of ?_) (by simp [netO])
  have w := is_whole_eq a
  by_cases h : 0 ≤ a
  · simp [netO, w, tabN, h]
  · simp [netO, w, tabN, h]
/-- a net's methods by a lent slot -/
theorem netc (n : Nat) (rs : List RT) : (netO n rs).cls = some (("Net" : String), (["sizes", "kept"] : List Str)) := rfl
theorem is_fraction_enc (q : Rat) : m_is_fraction [enc q] = some (.sh (.bl true)) := by
  have hd := divisor_eq q.num (q.den : Int)
  rw [gcd_red] at hd
  have w1 := is_whole_eq q.num
  have w2 := is_whole_eq (q.den : Int)
  have hp : ¬ ((q.den : Int) < 1) := by have := q.den_nz; omega
  first | rw [m_is_fraction, fn_len (by rfl)] | rw [m_is_fraction, mX_is_fraction, okX_fn, fn_len (by rfl)]
  simp [g_is_fraction, enc, hd, w1, w2, hp]
theorem fits_eq (w : Wd) (q : Rat) (h : w = .piece → 0 < q.num) : m_fits [.str w.s, enc q] = some (.sh (.bl true)) := by
  have f := is_fraction_enc q
  first | rw [m_fits, fn_len (by rfl)] | rw [m_fits, mX_fits, okX_fn, fn_len (by rfl)]
  cases w
  · have := h rfl
    simp [g_fits, f, Wd.s, enc, this] at f ⊢ <;> simp [f, this]
  · simp [g_fits, f, Wd.s, enc] at f ⊢ <;> simp [f]
  · simp [g_fits, f, Wd.s, enc] at f ⊢ <;> simp [f]
theorem netO_at (n : Nat) (rs : List RT) (r : RT) : netO n (rs ++ [r]) = .obj "Net" ["sizes", "kept"] [.sh (.int (n : Int)), .lst ((rs.map fun r => .sh r.tup) ++ [.sh r.tup])] := by simp [netO]
theorem plO_kept {s n : Nat} {rs : List RT} {e : List OT} (h : e[s]? = some (.lent (netO n rs)) ∨ e[s]? = some (netO n rs)) : plO s (fldP "kept" tabF_kept nmP) e = some (.lst (rs.map fun r => .sh r.tup)) := by
  rcases h with h | h <;> simp [h, netO, tabN]
theorem plO_sizes {s n : Nat} {rs : List RT} {e : List OT} (h : e[s]? = some (.lent (netO n rs)) ∨ e[s]? = some (netO n rs)) : plO s (fldP "sizes" tabF_sizes nmP) e = some (.sh (.int (n : Int))) := by
  rcases h with h | h <;> simp [h, netO, tabN]
theorem len_kept {s n : Nat} {rs : List RT} {e : List OT} (h : e[s]? = some (.lent (netO n rs)) ∨ e[s]? = some (netO n rs)) : scO (cal lenD (consA (brP s (fldP "kept" tabF_kept nmP)) nilA)) e = some (.int (rs.length : Int)) := by
  have p := plO_kept h
  have b : brP s (fldP "kept" tabF_kept nmP) e = some (.lst (rs.map RT.tup)) := by
    simp only [brP, p, ok_lstU, okL_map, if_true, dat_lstU, datL_map]
  simp only [scO, cal, consA, b, nilA, len_lst, List.length_map, Dat.sc, if_true]
theorem Net_add_eq (n : Nat) (rs : List RT) (r : RT) (hg : r.Good n) (hl : rs.length < 40) : mL_Net_add [netO n rs, .sh r.obj] = some (.ok (.sh (.int (rs.length : Int))) [netO n (rs ++ [r]), .sh r.obj]) := by
  let E : List OT := [.lent (netO n rs), .sh r.obj]
  let E2 : List OT := [.lent (netO n (rs ++ [r])), .sh r.obj]
  refine fnL_rt (e := E2) rfl ?_ (by simp [netO, E2])
  have has : ∀ (g : List OT → Option Dat) (a : Nat), g E = some (.int (a : Int)) → a < n → notE (tstE (mltE (gOf (methGX 2 "has" mt_has (.inl 0) ([.inr g] ++ csA []))))) E = some (false, E) := fun g a h ha => by
    have H := Net_has_eq n rs (a : Int)
    rw [decide_eq_true ⟨by omega, by omega⟩] at H
    refine notE_of (b := true) (tstE_of (mltE_of (gOf_ok (o := .sh (.bl true)) ?_) rfl rfl))
    rw [methGX_of (o := netO n rs) (f := mL_Net_has) rfl (netc n rs) (by simp) (by simp [mt_has])]
    have E0 : E[0]? = some (.lent (netO n rs)) := rfl
    exact callGX_ok (os := [netO n rs, .sh (.int (a : Int))]) (by simp only [csA_nil, List.append_nil, argsO_inl, E0, argsO_inr, h, argsO_nil, core_lent]) rfl (by simp) H (by simp [E, netO])
  refine seq_nx (e1 := E) (ifE_f (e2 := E) (orE_f (has _ r.a (fld_start r (g := vr 1) (e := E) rfl) hg.a) (has _ r.b (fld_goal r (g := vr 1) (e := E) rfl) hg.b)) rfl) ?_
  refine seq_nx (e1 := E) (if_f (ntst_of (b := true) (mlt_shd (call_of (cons_of (mlt_shd (meth_word r (g := vr 1) (e := E) rfl)) (cons_of (fld_size r (g := vr 1) (e := E) rfl) (nil_of _))) rfl (fits_eq r.w r.q hg.q)))) rfl) ?_
  have l1 : bin geD (scO (cal lenD (consA (brP 0 (fldP "kept" tabF_kept nmP)) nilA))) (cn c_MOST_ROWS) E = some (.bl false) := bin_of (len_kept (n := n) (rs := rs) (.inl rfl)) (cn_of _ _) (by simp [c_MOST_ROWS]; omega)
  refine seq_nx (e1 := E) (if_f (tst_of l1) rfl) ?_
  have a1 : appP 0 (fldP "kept" tabF_kept nmP) (mlt (methSO 1 "told" mt_told (.inr (vr 1)) (csA []))) E = some (.nx E2) := by
    have p := plO_kept (s := 0) (n := n) (rs := rs) (e := E) (.inl rfl)
    have t := mlt_shd (meth_told r (g := vr 1) (e := E) rfl)
    have u : putO 0 (fldP "kept" tabF_kept nmP) (.lst ((rs.map fun r => .sh r.tup) ++ [.sh r.tup])) E = some E2 := by simp [E, E2, netO, tabN]
    simp only [appP, p, t, List.length_map]
    rw [if_pos (by omega), u]
  refine seq_nx a1 (retS_of ?_)
  refine bin_of (len_kept (n := n) (rs := rs ++ [r]) (.inl rfl)) (cn_of _ _) ?_
  simp
theorem Net_change_eq (n : Nat) (rs : List RT) (k : Nat) (r : RT) (q : Rat) (hk : rs[k]? = some r) (hq : r.w = .piece → 0 < q.num) : mL_Net_change [netO n rs, .sh (.int (k : Int)), .sh (enc q)] = some (.ok (.sh .non) [netO n (rs.set k { r with q := q }), .sh (.int (k : Int)), .sh (enc q)]) := by
  have hlt := (List.getElem?_eq_some_iff.mp hk).1
  let E : List OT := [.lent (netO n rs), .sh (.int (k : Int)), .sh (enc q), .un, .un, .un, .un]
  let E1 : List OT := [.lent (netO n rs), .sh (.int (k : Int)), .sh (enc q), .sh (.str r.w.s), .sh (.int (r.a : Int)), .sh (.int (r.b : Int)), .sh (enc r.q)]
  let E2 : List OT := [.lent (netO n (rs.set k { r with q := q })), .sh (.int (k : Int)), .sh (enc q), .sh (.str r.w.s), .sh (.int (r.a : Int)), .sh (.int (r.b : Int)), .sh (enc r.q)]
  refine fnL_nx (e := E2) rfl ?_ (by simp [netO, E2])
  have l0 := len_kept (s := 0) (n := n) (rs := rs) (e := E) (.inl rfl)
  refine seq_nx (e1 := E) (if_f ?_ rfl) ?_
  · have w := whole_int (k : Int) (g := vr 1) (e := E) rfl
    have c1 : bin ltD (vr 1) (cn (.int 0)) E = some (.bl false) := bin_of (x := .int (k : Int)) rfl (cn_of _ _) (by simp <;> omega)
    have c2 : bin geD (vr 1) (scO (cal lenD (consA (brP 0 (fldP "kept" tabF_kept nmP)) nilA))) E = some (.bl false) := bin_of (x := .int (k : Int)) rfl l0 (by simp <;> omega)
    change orB _ _ E = some false
    simp only [orB, notB, tst_of w, tst_of c1, tst_of c2, Option.map_some, Bool.not_true]
  have rd : rdP 0 (ixP (fldP "kept" tabF_kept nmP) (vr 1)) E = some r.tup := by
    simp [E, netO, tabN, ixN_nn hlt, hk]
  refine seq_nx (e1 := E1) ?_ ?_
  · simp only [asgS, rd]
    rfl
  refine seq_nx (e1 := E1) (if_f (ntst_of (b := true) (mlt_shd (call_of (cons_of (f := vr 3) rfl (cons_of (f := vr 2) rfl (nil_of _))) rfl (fits_eq r.w q hq)))) rfl) ?_
  have p := plO_kept (s := 0) (n := n) (rs := rs) (e := E1) (.inl rfl)
  have ix : L2.ixN rs.length (k : Int) = some k := ixN_nn hlt
  have u : putO 0 (fldP "kept" tabF_kept nmP) (.lst ((rs.map fun r => .sh r.tup).set k (.sh (RT.tup { r with q := q })))) E1 = some E2 := by
    simp [E1, E2, netO, tabN, List.map_set]
  have t : tupD (consA (vr 3) (consA (vr 4) (consA (vr 5) (consA (vr 2) nilA)))) E1 = some (RT.tup { r with q := q }) := rfl
  have v1 : vr 1 E1 = some (.int (k : Int)) := rfl
  simp only [stiP, t, p, v1, List.length_map, ix, u]
theorem pow18 : ((10 : Int) ^ (18 : Nat)) = 1000000000000000000 := by decide
theorem pow12 : ((10 : Int) ^ (12 : Nat)) = 1000000000000 := by decide
theorem pow30 : ((10 : Int) ^ (30 : Nat)) = 1000000000000000000000000000000 := by decide
theorem bits_of {i : Int} (n : Nat) (h : i.natAbs < 2 ^ n) : i.natAbs < 2 ^ n := h
theorem prd_nat {i j : Int} (hi : 0 ≤ i) (hj : 0 ≤ j) (h1 : i < 2 ^ 60) (h2 : j < 2 ^ 60) : prdD (.int i) (.int j) = some (.int (i * j)) :=
  prdD_ok (n := 60) (m := 60) (by have : (2 : Int) ^ 60 = ((2 ^ 60 : Nat) : Int) := by decide
                                  omega) (by have : (2 : Int) ^ 60 = ((2 ^ 60 : Nat) : Int) := by decide
                                             omega) (by decide)
theorem mix2_eq (c prime many : Int) (h0 : 0 ≤ prime) (h1 : prime < 1000000) (hm : 0 < many) : ∃ r : Int, 0 ≤ r ∧ r < many ∧ m_law_mix [.int c, .int prime, .int many] = some (.sh (.int r)) := by
  have g1 := Int.fmod_nonneg_of_pos prime (show (0 : Int) < 274 by decide)
  have g2 := Int.fmod_lt_of_pos prime (show (0 : Int) < 274 by decide)
  have p1 : prdD (.int 24) (.int (prime.fmod 274)) = some (.int (24 * prime.fmod 274)) := prd_nat (by decide) g1 (by decide) (by omega)
  have sh : 0 ≤ 1 + 24 * prime.fmod 274 := by omega
  have a1 := Int.fmod_nonneg_of_pos c (show (0 : Int) < 1000003 by decide)
  have a2 := Int.fmod_lt_of_pos c (show (0 : Int) < 1000003 by decide)
  have p2 : prdD (.int (c.fmod 1000003 + 1)) (.int prime) = some (.int ((c.fmod 1000003 + 1) * prime)) := prd_nat (by omega) h0 (by omega) (by omega)
  let m := ((c.fmod 1000003 + 1) * prime).fmod 999983
  have b1 : 0 ≤ m := Int.fmod_nonneg_of_pos _ (by decide)
  have b2 : m < 999983 := Int.fmod_lt_of_pos _ (by decide)
  have p3 : prdD (.int m) (.int (m + prime)) = some (.int (m * (m + prime))) := prd_nat b1 (by omega) (by omega) (by omega)
  have hz : many ≠ 0 := by omega
  have last : ∃ r : Int, 0 ≤ r ∧ r < many ∧ ∀ s3 : OT, (seqO (setS 4 (DL.bin modD (DL.bin prdD (DL.bin sumD (DL.bin modD (vr 0) (cn (.int 1000003))) (cn (.int 1))) (vr 1)) (cn (.int 999983))))
    (retS (DL.bin modD (DL.bin modD (DL.bin prdD (vr 4) (DL.bin sumD (vr 4) (vr 1))) (cn (.int 1000033))) (vr 2)))) [.sh (.int c), .sh (.int prime), .sh (.int many), s3, .un] = some (.rt (.sh (.int r)) [.sh (.int c), .sh (.int prime), .sh (.int many), s3, .sh (.int m)]) := by
    refine ⟨((m * (m + prime)).fmod 1000033).fmod many, Int.fmod_nonneg_of_pos _ hm, Int.fmod_lt_of_pos _ hm, fun s3 => ?_⟩
    refine seq_nx (set_of (d := .int m) ?_ rfl) (retS_of ?_)
    · refine bin_of (x := .int ((c.fmod 1000003 + 1) * prime)) (bin_of (x := .int (c.fmod 1000003 + 1)) (bin_of (x := .int (c.fmod 1000003)) (bin_of rfl (cn_of _ _) rfl) (cn_of _ _) rfl) rfl p2) (cn_of _ _) rfl
    · refine bin_of (x := .int ((m * (m + prime)).fmod 1000033)) (y := .int many) (bin_of (x := .int (m * (m + prime))) (bin_of (x := .int m) (y := .int (m + prime)) rfl (bin_of (x := .int m) rfl rfl rfl) p3) (cn_of _ _) rfl) rfl ?_
      simp [modD, hz]
  obtain ⟨r, r1, r2, r3⟩ := last
  by_cases h : (1000000000000000000 : Int) ≤ c
  · have cond : tst (DL.bin geD (vr 0) (DL.bin powD (cn (.int 10)) (cn (.int 18)))) [.sh (.int c), .sh (.int prime), .sh (.int many), .un, .un] = some true := by
      simp [powD, h]
    let q : Int := c / 2 ^ (1 + 24 * prime.fmod 274).toNat
    have st : setS 3 (DL.bin shrD (vr 0) (DL.bin sumD (cn (.int 1)) (DL.bin prdD (cn (.int 24)) (DL.bin modD (vr 1) (cn (.int 274)))))) [.sh (.int c), .sh (.int prime), .sh (.int many), .un, .un] = some (.nx [.sh (.int c), .sh (.int prime), .sh (.int many), .sh (.int q), .un]) := by
      refine set_of (d := .int q) ?_ rfl
      refine bin_of (x := .int c) (y := .int (1 + 24 * prime.fmod 274)) rfl (bin_of (y := .int (24 * prime.fmod 274)) (cn_of _ _) (bin_of (y := .int (prime.fmod 274)) (cn_of _ _) (bin_of (x := .int prime) rfl (cn_of _ _) rfl) p1) rfl) ?_
      simp only [shrD, if_pos sh]
      rfl
    by_cases hq : 0 < q
    · refine ⟨q.fmod many, Int.fmod_nonneg_of_pos _ hm, Int.fmod_lt_of_pos _ hm, fn_rt (e := [.sh (.int c), .sh (.int prime), .sh (.int many), .sh (.int q), .un]) rfl ?_⟩
      refine seq_rt (if_t cond (seq_nx st (if_t (by simp [hq]) (retS_of (bin_of (x := .int q) (y := .int many) rfl rfl ?_)))))
      simp [modD, hz]
    · refine ⟨r, r1, r2, fn_rt (e := [.sh (.int c), .sh (.int prime), .sh (.int many), .sh (.int q), .sh (.int m)]) rfl ?_⟩
      refine seq_nx (e1 := [.sh (.int c), .sh (.int prime), .sh (.int many), .sh (.int q), .un]) (if_t cond (seq_nx st (if_f (by simp [hq]) rfl))) (r3 _)
  · refine ⟨r, r1, r2, fn_rt (e := [.sh (.int c), .sh (.int prime), .sh (.int many), .un, .sh (.int m)]) rfl ?_⟩
    refine seq_nx (e1 := [.sh (.int c), .sh (.int prime), .sh (.int many), .un, .un]) (if_f (by simp [powD, h]) rfl) (r3 _)
def Rt (o : OT) (r : Option Out) : Prop := ∃ e, r = some (.rt o e)
theorem fn_rtE {n N : Nat} {g : List OT → Option Out} {ds : List Dat} {o : OT} (h : ds.length = n) (hg : Rt o (g (ds.map .sh ++ List.replicate (N - n) .un))) : fnD n N g ds = some o := by
  obtain ⟨e, hg⟩ := hg
  exact fn_rt h hg
theorem seqE_nx {g h : List OT → Option Out} {e e1 : List OT} {o : OT} (h1 : g e = some (.nx e1)) (h2 : Rt o (h e1)) : Rt o (seqO g h e) := by
  obtain ⟨e2, h2⟩ := h2
  exact ⟨e2, seq_nx h1 h2⟩
theorem seqE_rt {g h : List OT → Option Out} {e e1 : List OT} {o : OT} (h1 : g e = some (.rt o e1)) : Rt o (seqO g h e) := ⟨e1, seq_rt h1⟩
theorem seq_ex {g h : List OT → Option Out} {e e1 : List OT} {c : String} {ns : List Str} {xs : List Dat} (h1 : g e = some (.ex c ns xs e1)) : seqO g h e = some (.ex c ns xs e1) := by simp only [seqO, h1]
/-! ### rows of any points and sizes -/
theorem eq_int (i j : Int) : eqD (.int i) (.int j) = some (.bl (decide (i = j))) := rfl
abbrev gobj (w : Wd) (a b s : Dat) : Dat := .obj w.c ["start", "goal", "size"] [a, b, s]
abbrev gtup (w : Wd) (a b s : Dat) : Dat := .tup [.str w.s, a, b, s]
theorem gword (w : Wd) (a b s : Dat) {g : List OT → Option Dat} {e : List OT} (h : g e = some (gobj w a b s)) : methSO 1 "word" mt_word (.inr g) (csA []) e = some (.sh (.str w.s)) := by
  have a1 : argsO [.inr g] e = some [.sh (gobj w a b s)] := by simp [h]
  cases w
  · rw [methSO_of (f := mL_Piece_word) a1 (cls_sh _ _ _) (by simp) (by simp [mt_word, Wd.c])]
    exact callSO_of (os' := [.sh _]) a1 rfl rfl (fnL_rt rfl (retS_of rfl) (by rfl))
  · rw [methSO_of (f := mL_Push_word) a1 (cls_sh _ _ _) (by simp) (by simp [mt_word, Wd.c])]
    exact callSO_of (os' := [.sh _]) a1 rfl rfl (fnL_rt rfl (retS_of rfl) (by rfl))
  · rw [methSO_of (f := mL_Hold_word) a1 (cls_sh _ _ _) (by simp) (by simp [mt_word, Wd.c])]
    exact callSO_of (os' := [.sh _]) a1 rfl rfl (fnL_rt rfl (retS_of rfl) (by rfl))
theorem gfld (w : Wd) (a b s : Dat) {g : List OT → Option Dat} {e : List OT} (h : g e = some (gobj w a b s)) : fldD "start" tabF_start g e = some a ∧ fldD "goal" tabF_goal g e = some b ∧ fldD "size" tabF_size g e = some s := by
  have t := tabF_row w
  refine ⟨by simp [h, t.1], by simp [h, t.2.1], by simp [h, t.2.2]⟩
theorem gtold (w : Wd) (a b s : Dat) {g : List OT → Option Dat} {e : List OT} (h : g e = some (gobj w a b s)) : methSO 1 "told" mt_told (.inr g) (csA []) e = some (.sh (gtup w a b s)) := by
  have a1 : argsO [.inr g] e = some [.sh (gobj w a b s)] := by simp [h]
  have mt : mt_told w.c = some mL_Row_told := by cases w <;> simp [mt_told, Wd.c]
  rw [methSO_of (f := mL_Row_told) a1 (cls_sh _ _ _) (by simp) mt]
  refine callSO_of (os' := [.sh (gobj w a b s)]) a1 rfl rfl (fnL_rt (e := [.sh (gobj w a b s)]) rfl (retS_of ?_) (by rfl))
  have f := gfld w a b s (g := vr 0) (e := [.sh (gobj w a b s)]) rfl
  exact tup_of (cons_of (mlt_shd (gword w a b s (g := vr 0) (e := [.sh (gobj w a b s)]) rfl)) (cons_of f.1 (cons_of f.2.1 (cons_of f.2.2 (nil_of _))))) (by simp)
theorem wd_s_inj {w v : Wd} : w.s = v.s ↔ w = v := by cases w <;> cases v <;> decide +kernel
theorem gmade (w : Wd) (a b s : Dat) : m_law_made [.str w.s, a, b, s] = some (.obj w.c ["start", "goal", "size"] [.sh a, .sh b, .sh s]) := by
  let E : List OT := [.sh (.str w.s), .sh a, .sh b, .sh s]
  have cd : ∀ v : Wd, tst (DL.bin eqD (vr 0) (cn (.str v.s))) E = some (decide (w = v)) := fun v => by
    refine tst_of (bin_of (x := .str w.s) rfl (cn_of _ _) ?_)
    simp only [eqD, eqB_str, Option.map_some]
    congr 2
    exact decide_eq_decide.mpr wd_s_inj
  have mk : ∀ (w : Wd), makeSO w.c 4 mL_Row_init ([.inr (vr 1), .inr (vr 2), .inr (vr 3)] ++ csA []) E = some (.obj w.c ["start", "goal", "size"] [.sh a, .sh b, .sh s]) := fun w =>
    makeSO_of (os := [.sh a, .sh b, .sh s]) rfl rfl rfl (Row_init_eq w.c w.c3 a b s) rfl
  have c1 := cd .piece
  have c2 := cd .push
  cases w
  · exact fn_rt (e := E) rfl (seq_rt (if_t c1 (retO_of (mk .piece))))
  · exact fn_rt (e := E) rfl (seq_nx (if_f c1 rfl) (seq_rt (if_t c2 (retO_of (mk .push)))))
  · exact fn_rt (e := E) rfl (seq_nx (if_f c1 rfl) (seq_nx (if_f c2 rfl) (retO_of (mk .hold))))
theorem gmade_ok (w : Wd) (a b s : Dat) : (OT.obj w.c ["start", "goal", "size"] [.sh a, .sh b, .sh s]).ok = true ∧ (OT.obj w.c ["start", "goal", "size"] [.sh a, .sh b, .sh s]).dat = gobj w a b s := by
  constructor <;> simp [OT.ok, OT.dat]
/-! ### adding -/
/-- whether a thing is a point, as a net of n points says -/
def HasP (n : Nat) (d : Dat) (t : Bool) : Prop := ∀ rs : List RT, mL_Net_has [netO n rs, .sh d] = some (.ok (.sh (.bl t)) [netO n rs, .sh d])
theorem hasP_good {n a : Nat} (h : a < n) : HasP n (.int (a : Int)) true := fun rs => by
  have H := Net_has_eq n rs (a : Int)
  rwa [decide_eq_true ⟨by omega, by omega⟩] at H
theorem hasP_int {n : Nat} {i : Int} (h : i < 0 ∨ (n : Int) ≤ i) : HasP n (.int i) false := fun rs => by
  have H := Net_has_eq n rs i
  rwa [decide_eq_false (by omega)] at H
theorem hasP_other {n : Nat} {d : Dat} (h : m_is_whole [d] = some (.sh (.bl false))) : HasP n d false := fun rs => by
  refine fnL_rt (e := [.lent (netO n rs), .sh d]) rfl (retS_of ?_) (by simp [netO])
  simp [netO, h, tabN]
theorem has_of {n : Nat} {rs : List RT} {d x : Dat} {t : Bool} (hp : HasP n x t) {g : List OT → Option Dat} (h : g [.lent (netO n rs), .sh d] = some x) : notE (tstE (mltE (gOf (methGX 2 "has" mt_has (.inl 0) ([.inr g] ++ csA []))))) [.lent (netO n rs), .sh d] = some (!t, [.lent (netO n rs), .sh d]) := by
  refine notE_of (tstE_of (mltE_of (gOf_ok (o := .sh (.bl t)) ?_) rfl rfl))
  rw [methGX_of (o := netO n rs) (f := mL_Net_has) rfl (netc n rs) (by simp) (by simp [mt_has])]
  have E0 : ([.lent (netO n rs), .sh d] : List OT)[0]? = some (.lent (netO n rs)) := rfl
  exact callGX_ok (os := [netO n rs, .sh x]) (by simp only [csA_nil, List.append_nil, argsO_inl, E0, argsO_inr, h, argsO_nil, core_lent]) rfl (by simp) (hp rs) (by simp [netO])
theorem add_point (n : Nat) (rs : List RT) (w : Wd) (a b s : Dat) {t u : Bool} (ha : HasP n a t) (hb : HasP n b u) (h : t = false ∨ u = false) : mL_Net_add [netO n rs, .sh (gobj w a b s)] = some (.ex "NoPoint" [] [] [netO n rs, .sh (gobj w a b s)]) := by
  let E : List OT := [.lent (netO n rs), .sh (gobj w a b s)]
  refine fnL_ex (e := E) rfl ?_ (by simp [netO, E])
  have f := gfld w a b s (g := vr 1) (e := E) rfl
  have h1 := has_of (rs := rs) (d := gobj w a b s) ha f.1
  have h2 := has_of (rs := rs) (d := gobj w a b s) hb f.2.1
  cases t with
  | false => exact seq_ex (ifE_t (orE_t h1) rfl)
  | true =>
    have : u = false := by simpa using h
    subst this
    exact seq_ex (ifE_t (orE_f h1 h2) rfl)
theorem add_size (n : Nat) (rs : List RT) (w : Wd) (a b s : Dat) (ha : HasP n a true) (hb : HasP n b true) (hs : m_fits [.str w.s, s] = some (.sh (.bl false))) : mL_Net_add [netO n rs, .sh (gobj w a b s)] = some (.ex "NoSize" [] [] [netO n rs, .sh (gobj w a b s)]) := by
  let E : List OT := [.lent (netO n rs), .sh (gobj w a b s)]
  refine fnL_ex (e := E) rfl ?_ (by simp [netO, E])
  have f := gfld w a b s (g := vr 1) (e := E) rfl
  have h1 := has_of (rs := rs) (d := gobj w a b s) ha f.1
  have h2 := has_of (rs := rs) (d := gobj w a b s) hb f.2.1
  refine seq_nx (e1 := E) (ifE_f (orE_f h1 h2) rfl) ?_
  exact seq_ex (if_t (ntst_of (b := false) (mlt_shd (call_of (cons_of (mlt_shd (gword w a b s (g := vr 1) (e := E) rfl)) (cons_of f.2.2 (nil_of _))) rfl hs))) rfl)
/-! ### changing -/
/-- no row's number -/
def NoK (m : Nat) (d : Dat) : Prop := (∃ i : Int, d = .int i ∧ (i < 0 ∨ (m : Int) ≤ i)) ∨ m_is_whole [d] = some (.sh (.bl false))
theorem change_row (n : Nat) (rs : List RT) (d s : Dat) (h : NoK rs.length d) : mL_Net_change [netO n rs, .sh d, .sh s] = some (.ex "NoRow" [] [] [netO n rs, .sh d, .sh s]) := by
  let E : List OT := [.lent (netO n rs), .sh d, .sh s, .un, .un, .un, .un]
  refine fnL_ex (e := E) rfl ?_ (by simp [netO, E])
  refine seq_ex (if_t ?_ rfl)
  rcases h with ⟨i, rfl, h⟩ | h
  · have l0 := len_kept (s := 0) (n := n) (rs := rs) (e := E) (.inl rfl)
    have w := whole_int i (g := vr 1) (e := E) rfl
    have c1 : DL.bin ltD (vr 1) (cn (.int 0)) E = some (.bl (decide (i < 0))) := bin_of (x := .int i) rfl (cn_of _ _) rfl
    have c2 : DL.bin geD (vr 1) (scO (cal lenD (consA (brP 0 (fldP "kept" tabF_kept nmP)) nilA))) E = some (.bl (decide ((rs.length : Int) ≤ i))) := bin_of (x := .int i) rfl l0 rfl
    change orB _ _ E = some true
    simp only [orB, notB, tst_of w, tst_of c1, tst_of c2, Option.map_some, Bool.not_true]
    by_cases h0 : i < 0
    · simp only [decide_eq_true h0]
    · simp only [decide_eq_false h0]
      simp only [decide_eq_true (show (rs.length : Int) ≤ i by omega)]
  · have w : notB (tst (mlt (callO 1 m_is_whole (consA (vr 1) nilA)))) E = some true := ntst_of (b := false) (mlt_shd (call_of (cons_of (f := vr 1) rfl (nil_of _)) rfl h))
    change orB _ _ E = some true
    simp only [orB, w]
theorem change_size (n : Nat) (rs : List RT) (k : Nat) (r : RT) (s : Dat) (hk : rs[k]? = some r) (hs : m_fits [.str r.w.s, s] = some (.sh (.bl false))) : mL_Net_change [netO n rs, .sh (.int (k : Int)), .sh s] = some (.ex "NoSize" [] [] [netO n rs, .sh (.int (k : Int)), .sh s]) := by
  have hlt := (List.getElem?_eq_some_iff.mp hk).1
  let E : List OT := [.lent (netO n rs), .sh (.int (k : Int)), .sh s, .un, .un, .un, .un]
  let E1 : List OT := [.lent (netO n rs), .sh (.int (k : Int)), .sh s, .sh (.str r.w.s), .sh (.int (r.a : Int)), .sh (.int (r.b : Int)), .sh (enc r.q)]
  refine fnL_ex (e := E1) rfl ?_ (by simp [netO, E1])
  have l0 := len_kept (s := 0) (n := n) (rs := rs) (e := E) (.inl rfl)
  refine seq_nx (e1 := E) (if_f ?_ rfl) ?_
  · have w := whole_int (k : Int) (g := vr 1) (e := E) rfl
    have c1 : DL.bin ltD (vr 1) (cn (.int 0)) E = some (.bl false) := bin_of (x := .int (k : Int)) rfl (cn_of _ _) (by simp <;> omega)
    have c2 : DL.bin geD (vr 1) (scO (cal lenD (consA (brP 0 (fldP "kept" tabF_kept nmP)) nilA))) E = some (.bl false) := bin_of (x := .int (k : Int)) rfl l0 (by simp <;> omega)
    change orB _ _ E = some false
    simp only [orB, notB, tst_of w, tst_of c1, tst_of c2, Option.map_some, Bool.not_true]
  have rd : rdP 0 (ixP (fldP "kept" tabF_kept nmP) (vr 1)) E = some r.tup := by
    simp [E, netO, tabN, ixN_nn hlt, hk]
  refine seq_nx (e1 := E1) ?_ ?_
  · simp only [asgS, rd]
    rfl
  exact seq_ex (if_t (ntst_of (b := false) (mlt_shd (call_of (cons_of (f := vr 3) rfl (cons_of (f := vr 2) rfl (nil_of _))) rfl hs))) rfl)
/-! ### sizes that are none -/
theorem fits_no {w : Wd} {s : Dat} (h : m_is_fraction [s] = some (.sh (.bl false))) : m_fits [.str w.s, s] = some (.sh (.bl false)) := by
  rw [m_fits, fn_len (by rfl)]
  simp [g_fits, h]
theorem fits_low {q : Rat} (h : q.num ≤ 0) : m_fits [.str Wd.piece.s, enc q] = some (.sh (.bl false)) := by
  have f := is_fraction_enc q
  have n : ¬ 0 < q.num := by omega
  rw [m_fits, fn_len (by rfl)]
  simp [g_fits, f, Wd.s, enc, n] at f ⊢ <;> simp [f, n]
theorem whole_non : m_is_whole [.non] = some (.sh (.bl false)) := by
  rw [m_is_whole, fn_len (by rfl)]
  simp [g_is_whole]
theorem whole_bl (b : Bool) : m_is_whole [.bl b] = some (.sh (.bl false)) := by
  rw [m_is_whole, fn_len (by rfl)]
  simp [g_is_whole]
theorem whole_str (x : Str) : m_is_whole [.str x] = some (.sh (.bl false)) := by
  rw [m_is_whole, fn_len (by rfl)]
  simp [g_is_whole]
theorem whole_tup (ds : List Dat) : m_is_whole [.tup ds] = some (.sh (.bl false)) := by
  rw [m_is_whole, fn_len (by rfl)]
  simp [g_is_whole]
theorem whole_lst (ds : List Dat) : m_is_whole [.lst ds] = some (.sh (.bl false)) := by
  rw [m_is_whole, fn_len (by rfl)]
  simp [g_is_whole]
theorem whole_dct (ks : List L2.Key) (ds : List Dat) : m_is_whole [.dct ks ds] = some (.sh (.bl false)) := by
  rw [m_is_whole, fn_len (by rfl)]
  simp [g_is_whole]
theorem frac_two (a b : Int) (h : b < 1 ∨ Int.gcd a b ≠ 1) : m_is_fraction [.tup [.int a, .int b]] = some (.sh (.bl false)) := by
  have hd := divisor_eq a b
  have w1 := is_whole_eq a
  have w2 := is_whole_eq b
  rw [m_is_fraction, fn_len (by rfl)]
  by_cases hb : b < 1
  · simp [g_is_fraction, hd, w1, w2, hb]
  · have g : ¬ ((Int.gcd a b : Nat) : Int) = 1 := by omega
    simp [g_is_fraction, hd, w1, w2, hb, g]
theorem frac_parts (x y : Dat) (h : m_is_whole [x] = some (.sh (.bl false)) ∨ ((∃ i : Int, x = .int i) ∧ m_is_whole [y] = some (.sh (.bl false)))) : m_is_fraction [.tup [x, y]] = some (.sh (.bl false)) := by
  rw [m_is_fraction, fn_len (by rfl)]
  rcases h with h | ⟨⟨i, rfl⟩, h⟩
  · simp [g_is_fraction, h]
  · have w := is_whole_eq i
    simp [g_is_fraction, h, w]
theorem frac_no {s : Dat} (h : s = .non ∨ s = .int 3 ∨ s = .tup [.int 1, .int 2, .int 1] ∨ s = .str "1" ∨ s = .dct [] [] ∨ ∃ ds, s = .lst ds) : m_is_fraction [s] = some (.sh (.bl false)) := by
  rw [m_is_fraction, fn_len (by rfl)]
  rcases h with rfl | rfl | rfl | rfl | rfl | ⟨ds, rfl⟩ <;> simp [g_is_fraction]
/-- what is put in the place of a size -/
structure BadS (w : Wd) (s : Dat) : Prop where
  no : m_fits [.str w.s, s] = some (.sh (.bl false))
  q : Dq 5 s
theorem dq_mono {n m : Nat} {d : Dat} (h : Dq n d) (hm : n ≤ m) : Dq m d := by
  induction h generalizing m with
  | non n => exact .non _
  | bl n b => exact .bl _ _
  | int n b => exact .int _ _
  | str n b => exact .str _ _
  | tup n ds hd ih =>
    obtain ⟨m, rfl⟩ : ∃ m', m = m' + 1 := ⟨m - 1, by omega⟩
    exact .tup _ _ fun d h => ih d h (by omega)
  | lst n ds hd ih =>
    obtain ⟨m, rfl⟩ : ∃ m', m = m' + 1 := ⟨m - 1, by omega⟩
    exact .lst _ _ fun d h => ih d h (by omega)
  | dct n =>
    obtain ⟨m, rfl⟩ : ∃ m', m = m' + 1 := ⟨m - 1, by omega⟩
    exact .dct _
theorem dq_two {x y : Dat} {n : Nat} (h1 : Dq n x) (h2 : Dq n y) : Dq (n + 1) (.tup [x, y]) := .tup _ _ fun d h => by
  simp at h
  rcases h with rfl | rfl <;> assumption
theorem dq_ltwo {x y : Dat} {n : Nat} (h1 : Dq n x) (h2 : Dq n y) : Dq (n + 1) (.lst [x, y]) := .lst _ _ fun d h => by
  simp at h
  rcases h with rfl | rfl <;> assumption
theorem dq_lone {x : Dat} {n : Nat} (h1 : Dq n x) : Dq (n + 1) (.lst [x]) := .lst _ _ fun d h => by
  simp at h
  subst h
  assumption
theorem dq_enc (q : Rat) : Dq 1 (enc q) := dq_two (.int _ _) (.int _ _)
def oddL : List Dat := [.non, .int 3, .tup [.int 1, .int 0], .tup [.bl true, .int 1], .tup [.int 3, .int (-2)], .tup [.int (-1), .int (-2)], .tup [.int 1, .bl true], .tup [.int 1, .int 2, .int 1], .str "1", .dct [] [], .tup [.lst [.int 1], .int 2], .tup [.int 1, .lst [.int 2]]]
theorem odd_ok (w : Wd) : ∀ (n : Nat) (d : Dat), oddL[n]? = some d → BadS w d := fun n d h => by
  have hm := List.mem_of_getElem? h
  simp only [oddL, List.mem_cons, List.not_mem_nil, or_false] at hm
  rcases hm with rfl | rfl | rfl | rfl | rfl | rfl | rfl | rfl | rfl | rfl | rfl | rfl
  · exact ⟨fits_no (frac_no (by simp)), .non _⟩
  · exact ⟨fits_no (frac_no (by simp)), .int _ _⟩
  · exact ⟨fits_no (frac_two _ _ (by decide)), dq_two (.int _ _) (.int _ _)⟩
  · exact ⟨fits_no (frac_parts _ _ (.inl (whole_bl _))), dq_two (.bl _ _) (.int _ _)⟩
  · exact ⟨fits_no (frac_two _ _ (by decide)), dq_two (.int _ _) (.int _ _)⟩
  · exact ⟨fits_no (frac_two _ _ (by decide)), dq_two (.int _ _) (.int _ _)⟩
  · exact ⟨fits_no (frac_parts _ _ (.inr ⟨⟨_, rfl⟩, whole_bl _⟩)), dq_two (.int _ _) (.bl _ _)⟩
  · exact ⟨fits_no (frac_no (by simp)), .tup _ _ fun d h => by
      simp at h
      rcases h with rfl | rfl | rfl <;> exact .int _ _⟩
  · exact ⟨fits_no (frac_no (by simp)), .str _ _⟩
  · exact ⟨fits_no (frac_no (by simp)), .dct _⟩
  · exact ⟨fits_no (frac_parts _ _ (.inl (whole_lst _))), dq_two (dq_mono (dq_lone (.int 0 _)) (by omega)) (.int _ _)⟩
  · exact ⟨fits_no (frac_parts _ _ (.inr ⟨⟨_, rfl⟩, whole_lst _⟩)), dq_two (.int _ _) (dq_mono (dq_lone (.int 0 _)) (by omega))⟩
/-- a size that fits a word -/
structure SzOK (w : Wd) (q : Rat) : Prop where
  pos : w = .piece → 0 < q.num
  top : q.num.natAbs < 2 ^ 50
  bot : q.den < 2 ^ 50
theorem lawdiv_eq (a b : Int) (hb : 0 ≤ b) : m_law_divisor [.int a, .int b] = some (.sh (.int (Int.gcd a b : Nat))) := by
  have habs : ∀ x : Int, (if x < 0 then -x else x) = (x.natAbs : Int) := fun x => by split <;> omega
  obtain ⟨c, h1, h2, h3⟩ := gcd_loop b.natAbs a.natAbs b (by simp)
  have hc : c = (Int.gcd a b : Nat) := by
    have := h2 (by omega) hb
    have e : Int.gcd (a.natAbs : Int) b = Int.gcd a b := by simp [Int.gcd]
    rw [e] at h1
    omega
  subst hc
  rw [m_law_divisor, fn_len (by rfl)]
  simp [g_law_divisor, habs, h3]
theorem mlow {a b : Int} (hb : 0 < b) : (Rat.divInt a b).num.natAbs ≤ a.natAbs ∧ (Rat.divInt a b).den ≤ b.natAbs ∧ (0 < a → 0 < (Rat.divInt a b).num) := by
  rw [Rat.num_divInt, Rat.den_divInt, if_neg (show b ≠ 0 by omega), Int.sign_eq_one_of_pos hb, Int.one_mul]
  have g0 : 0 < Int.gcd b a := Int.gcd_pos_iff.mpr (.inl (by omega))
  refine ⟨?_, Nat.div_le_self _ _, fun ha => ?_⟩
  · exact natAbs_div_le a _
  · exact Int.ediv_pos_of_pos_of_dvd ha (by omega) (Int.gcd_dvd_right ..)
theorem size_eq (c : Int) (w : Wd) : ∃ q : Rat, SzOK w q ∧ m_law_size [.int c, .str w.s] = some (.sh (enc q)) := by
  let E (x2 x3 x4 : OT) : List OT := [.sh (.int c), .sh (.str w.s), x2, x3, x4]
  obtain ⟨r, r1, r2, r3⟩ := mix2_eq c 16807 2 (by decide) (by decide) (by decide)
  obtain ⟨m, m0, m1, hm⟩ : ∃ m : Int, 0 < m ∧ m ≤ 900001 ∧ ∀ e : List OT, vr 0 e = some (.int c) → DL.bin ixD (mlt (lstD (consA (cn (.int 7)) (consA (cn (.int 900001)) nilA)))) (mlt (callO 3 m_law_mix (consA (vr 0) (consA (cn (.int 16807)) (consA (cn (.int 2)) nilA))))) e = some (.int m) := by
    have l : ∀ e : List OT, mlt (lstD (consA (cn (.int 7)) (consA (cn (.int 900001)) nilA))) e = some (.lst [.int 7, .int 900001]) := fun e => mlt_lst (ds := [.int 7, .int 900001]) rfl
    have k : ∀ e : List OT, vr 0 e = some (.int c) → mlt (callO 3 m_law_mix (consA (vr 0) (consA (cn (.int 16807)) (consA (cn (.int 2)) nilA)))) e = some (.int r) := fun e h => mlt_shd (call_of (cons_of h (cons_of (cn_of _ _) (cons_of (cn_of _ _) (nil_of _)))) rfl r3)
    have : r = 0 ∨ r = 1 := by omega
    rcases this with rfl | rfl
    · exact ⟨7, by decide, by decide, fun e h => bin_of (l e) (k e h) (atI_0 _ _)⟩
    · exact ⟨900001, by decide, by decide, fun e h => bin_of (l e) (k e h) (atI_1 _ _ _)⟩
  obtain ⟨b, b1, b2, b3⟩ := mix2_eq c 69621 m (by decide) (by decide) m0
  have p12 : ∀ e, DL.bin powD (cn (.int 10)) (cn (.int 12)) e = some (.int 1000000000000) := fun e => by simp [powD]
  have sh : ∀ e : List OT, vr 0 e = some (.int c) → DL.bin shrD (vr 0) (cn (.int 1)) e = some (.int (c / 2)) := fun e h => bin_of h (cn_of _ _) rfl
  let t0 : Int := (c / 2).fmod 2000000000001 - 1000000000000
  have s2 : setS 2 (DL.bin subD (DL.bin modD (DL.bin shrD (vr 0) (cn (.int 1))) (DL.bin sumD (DL.bin prdD (cn (.int 2)) (DL.bin powD (cn (.int 10)) (cn (.int 12)))) (cn (.int 1)))) (DL.bin powD (cn (.int 10)) (cn (.int 12)))) (E .un .un .un) = some (.nx (E (.sh (.int t0)) .un .un)) := by
    refine set_of (bin_of (bin_of (sh _ rfl) (bin_of (y := .int 1) (bin_of (cn_of _ _) (p12 _) (mulD_l (by decide))) (cn_of _ _) (sum_int _ _)) (modD_ok (by decide))) (p12 _) rfl) rfl
  have f0 := fmod_range (a := c / 2) (b := 2000000000001) (by decide)
  have f1 := fmod_range (a := c / 2) (b := 1000000000000) (by decide)
  obtain ⟨t, ta, tp, s2'⟩ : ∃ t : Int, t.natAbs ≤ 1000000000000 ∧ (w = .piece → 0 < t) ∧ ifS (tst (DL.bin eqD (vr 1) (cn (.str "piece")))) (setS 2 (DL.bin sumD (cn (.int 1)) (DL.bin modD (DL.bin shrD (vr 0) (cn (.int 1))) (DL.bin powD (cn (.int 10)) (cn (.int 12)))))) skipO (E (.sh (.int t0)) .un .un) = some (.nx (E (.sh (.int t)) .un .un)) := by
    have cd : tst (DL.bin eqD (vr 1) (cn (.str "piece"))) (E (.sh (.int t0)) .un .un) = some (decide (w = .piece)) := by
      refine tst_of (bin_of (x := .str w.s) rfl (cn_of _ _) ?_)
      simp only [eqD, eqB_str, Option.map_some, pieceD_ne]
    by_cases hw : w = .piece
    · rw [decide_eq_true hw] at cd
      refine ⟨1 + (c / 2).fmod 1000000000000, by omega, fun _ => by omega, if_t cd (set_of (bin_of (cn_of _ _) (bin_of (sh _ rfl) (p12 _) (modD_ok (by decide))) (sum_int _ _)) rfl)⟩
    · rw [decide_eq_false hw] at cd
      exact ⟨t0, by omega, fun h => absurd h hw, if_f cd rfl⟩
  have s3 : setS 3 (DL.bin sumD (cn (.int 1)) (mlt (callO 3 m_law_mix (consA (vr 0) (consA (cn (.int 69621)) (consA (DL.bin ixD (mlt (lstD (consA (cn (.int 7)) (consA (cn (.int 900001)) nilA)))) (mlt (callO 3 m_law_mix (consA (vr 0) (consA (cn (.int 16807)) (consA (cn (.int 2)) nilA)))))) nilA)))))) (E (.sh (.int t)) .un .un) = some (.nx (E (.sh (.int t)) (.sh (.int (1 + b))) .un)) :=
    set_of (bin_of (cn_of _ _) (mlt_shd (call_of (cons_of (f := vr 0) rfl (cons_of (cn_of _ _) (cons_of (hm _ rfl) (nil_of _)))) rfl b3)) (sum_int _ _)) rfl
  have hb : 0 < 1 + b := by omega
  have ml := mlow (a := t) hb
  have g0 := gcd_pos_r (a := t) (b := 1 + b) (by omega)
  have gl := gcd_lt_r (a := t) (b := 1 + b) (n := 200) (by omega) (Nat.lt_of_lt_of_le (show (1 + b).natAbs < 2 ^ 20 by omega) (Nat.pow_le_pow_right (by decide) (by decide)))
  refine ⟨Rat.divInt t (1 + b), ⟨fun h => ml.2.2 (tp h), Nat.lt_of_le_of_lt ml.1 (by omega), Nat.lt_of_le_of_lt ml.2.1 (by omega)⟩, ?_⟩
  rw [low_enc hb]
  refine fn_rt (e := E (.sh (.int t)) (.sh (.int (1 + b))) (.sh (.int ((Int.gcd t (1 + b) : Nat) : Int)))) rfl ?_
  refine seq_nx s2 (seq_nx s2' (seq_nx s3 ?_))
  refine seq_nx (e1 := E (.sh (.int t)) (.sh (.int (1 + b))) (.sh (.int ((Int.gcd t (1 + b) : Nat) : Int)))) (set_of (mlt_shd (call_of (cons_of (f := vr 2) rfl (cons_of (f := vr 3) rfl (nil_of _))) rfl (lawdiv_eq t (1 + b) (by omega)))) rfl) (retS_of ?_)
  exact tup_of (cons_of (bin_of (fa := vr 2) (fb := vr 4) rfl rfl (fdvD_lit g0 gl)) (cons_of (bin_of (fa := vr 3) (fb := vr 4) rfl rfl (fdvD_lit g0 gl)) (nil_of _))) (by simp)
theorem bad_size_eq (c : Int) (w : Wd) (q : Rat) (hq : SzOK w q) : ∃ (o : OT) (s : Dat), o.ok = true ∧ o.dat = s ∧ BadS w s ∧ m_law_bad_size [.int c, .str w.s, enc q] = some o := by
  let E (x3 x4 : OT) : List OT := [.sh (.int c), .sh (.str w.s), .sh (enc q), x3, x4]
  obtain ⟨r, r1, r2, r3⟩ := mix2_eq c 40692 5 (by decide) (by decide) (by decide)
  let R : OT := .sh (.int r)
  have s3 : setS 3 (mlt (callO 3 m_law_mix (consA (vr 0) (consA (cn (.int 40692)) (consA (cn (.int 5)) nilA))))) (E .un .un) = some (.nx (E R .un)) :=
    set_of (mlt_shd (call_of (cons_of (f := vr 0) rfl (cons_of (cn_of _ _) (cons_of (cn_of _ _) (nil_of _)))) rfl r3)) rfl
  have q0 : DL.bin ixD (vr 2) (cn (.int 0)) (E R .un) = some (.int q.num) := bin_of (fa := vr 2) (x := enc q) rfl (cn_of _ _) (atI_0 _ _)
  have q1 : DL.bin ixD (vr 2) (cn (.int 1)) (E R .un) = some (.int (q.den : Int)) := bin_of (fa := vr 2) (x := enc q) rfl (cn_of _ _) (atI_1 _ _ _)
  have cw : tst (DL.bin eqD (vr 1) (cn (.str "piece"))) (E R .un) = some (decide (w = .piece)) := by
    refine tst_of (bin_of (x := .str w.s) rfl (cn_of _ _) ?_)
    simp only [eqD, eqB_str, Option.map_some, pieceD_ne]
  have cr : tst (DL.bin ltD (vr 3) (cn (.int 2))) (E R .un) = some (decide (r < 2)) := tst_of (bin_of (fa := vr 3) (x := .int r) rfl (cn_of _ _) rfl)
  have c1 : andB (tst (DL.bin eqD (vr 1) (cn (.str "piece")))) (tst (DL.bin ltD (vr 3) (cn (.int 2)))) (E R .un) = some (decide (w = .piece) && decide (r < 2)) := by
    simp only [andB, cw, cr]
    cases decide (w = .piece) <;> rfl
  by_cases h1 : w = .piece ∧ r < 2
  · obtain ⟨hw, hr⟩ := h1
    rw [decide_eq_true hw, decide_eq_true hr] at c1
    have l : mlt (lstD (consA (tupD (consA (cn (.int 0)) (consA (cn (.int 1)) nilA))) (consA (tupD (consA (DL.bin subD (cn (.int 0)) (DL.bin ixD (vr 2) (cn (.int 0)))) (consA (DL.bin ixD (vr 2) (cn (.int 1))) nilA))) nilA))) (E R .un) = some (.lst [.tup [.int 0, .int 1], .tup [.int (0 - q.num), .int (q.den : Int)]]) :=
      mlt_lst (lst_of (cons_of (tup_of (cons_of (cn_of _ _) (cons_of (cn_of _ _) (nil_of _))) (by simp)) (cons_of (tup_of (cons_of (bin_of (cn_of _ _) q0 rfl) (cons_of q1 (nil_of _))) (by simp)) (nil_of _))) (Nat.le_of_ble_eq_true rfl))
    have hp := hq.pos hw
    have : r = 0 ∨ r = 1 := by omega
    rcases this with rfl | rfl
    · refine ⟨.sh (.tup [.int 0, .int 1]), _, rfl, rfl, ⟨?_, dq_two (.int _ _) (.int _ _)⟩, fn_rt (e := E R .un) rfl (seq_nx s3 (seq_rt (if_t c1 (retS_of (bin_of l (fb := vr 3) rfl (atI_0 _ _))))))⟩
      rw [hw]
      exact fits_low (q := 0) (by decide)
    · refine ⟨.sh (.tup [.int (0 - q.num), .int (q.den : Int)]), _, rfl, rfl, ⟨?_, dq_two (.int _ _) (.int _ _)⟩, fn_rt (e := E R .un) rfl (seq_nx s3 (seq_rt (if_t c1 (retS_of (bin_of l (fb := vr 3) rfl (atI_1 _ _ _))))))⟩
      rw [hw]
      have e : Dat.tup [.int (0 - q.num), .int (q.den : Int)] = enc (-q) := by
        rw [Int.zero_sub]
        rfl
      rw [e]
      exact fits_low (by show -q.num ≤ 0; omega)
  · have c1' : andB (tst (DL.bin eqD (vr 1) (cn (.str "piece")))) (tst (DL.bin ltD (vr 3) (cn (.int 2)))) (E R .un) = some false := by
      rw [c1]
      congr 1
      rw [Bool.and_eq_false_iff, decide_eq_false_iff_not, decide_eq_false_iff_not]
      by_cases hw : w = .piece
      · exact .inr fun h => h1 ⟨hw, h⟩
      · exact .inl hw
    have c3 : ∀ i : Int, tst (DL.bin eqD (vr 3) (cn (.int i))) (E R .un) = some (decide (r = i)) := fun i => tst_of (bin_of (fa := vr 3) (x := .int r) rfl (cn_of _ _) (eq_int _ _))
    have c33 := c3 3
    have c34 := c3 4
    by_cases h3 : r = 3
    · rw [decide_eq_true h3] at c33
      exact ⟨.lst [.sh (.int q.num), .sh (.int (q.den : Int))], .lst [.int q.num, .int (q.den : Int)], rfl, rfl, ⟨fits_no (frac_no (.inr (.inr (.inr (.inr (.inr ⟨_, rfl⟩)))))), dq_ltwo (.int _ _) (.int _ _)⟩, fn_rt (e := E R .un) rfl (seq_nx s3 (seq_nx (if_f c1' rfl) (seq_rt (if_t c33 (retO_of (lst_of (cons_of q0 (cons_of q1 (nil_of _))) (Nat.le_of_ble_eq_true rfl)))))))⟩
    rw [decide_eq_false h3] at c33
    by_cases h4 : r = 4
    · rw [decide_eq_true h4] at c34
      obtain ⟨i, i1, i2, i3⟩ := mix2_eq c 30269 12 (by decide) (by decide) (by decide)
      obtain ⟨i, rfl⟩ := Int.eq_ofNat_of_zero_le i1
      have il : i < oddL.length := by
        show i < 12
        omega
      obtain ⟨d, hd⟩ : ∃ d, oddL[i]? = some d := ⟨_, List.getElem?_eq_getElem il⟩
      have bd := odd_ok w i d hd
      refine ⟨.sh d, d, rfl, rfl, bd, fn_rt (e := E R (.sh (.lst oddL))) rfl (seq_nx s3 (seq_nx (if_f c1' rfl) (seq_nx (if_f c33 rfl) (seq_rt (if_t c34 (seq_nx (e1 := E R (.sh (.lst oddL))) (set_of (d := .lst oddL) rfl rfl) (retS_of (bin_of (fa := vr 4) (x := .lst oddL) rfl (mlt_shd (call_of (cons_of (f := vr 0) rfl (cons_of (cn_of _ _) (cons_of (cn_of _ _) (nil_of _)))) rfl i3)) ?_))))))))⟩
      rw [ix_lst, atI_nn, hd]
    · rw [decide_eq_false h4] at c34
      refine ⟨.sh (.tup [.int (2 * q.num), .int (2 * (q.den : Int))]), _, rfl, rfl, ⟨fits_no (frac_two _ _ (.inr ?_)), dq_two (.int _ _) (.int _ _)⟩, fn_rt (e := E R .un) rfl (seq_nx s3 (seq_nx (if_f c1' rfl) (seq_nx (if_f c33 rfl) (seq_nx (if_f c34 rfl) (retS_of ?_)))))⟩
      · rw [Int.gcd_mul_left, gcd_red]
        decide
      · exact tup_of (cons_of (bin_of (cn_of _ _) q0 (mulD_l (by decide))) (cons_of (bin_of (cn_of _ _) q1 (mulD_l (by decide))) (nil_of _))) (by simp)
/-! ### points that are none -/
def pointsL (n : Nat) : List Dat := [.int (n : Int), .int (-1), .bl true, .non, .int ((n : Int) + 100000000000000000000), .str "0", .tup [.int 0], .lst [.int 0], .dct [] []]
theorem points_ok (n : Nat) : ∀ (k : Nat) (d : Dat), (pointsL n)[k]? = some d → HasP n d false ∧ Dq 5 d := fun k d h => by
  have hm := List.mem_of_getElem? h
  simp only [pointsL, List.mem_cons, List.not_mem_nil, or_false] at hm
  rcases hm with rfl | rfl | rfl | rfl | rfl | rfl | rfl | rfl | rfl
  · exact ⟨hasP_int (.inr (Int.le_refl _)), .int _ _⟩
  · exact ⟨hasP_int (.inl (by decide)), .int _ _⟩
  · exact ⟨hasP_other (whole_bl _), .bl _ _⟩
  · exact ⟨hasP_other whole_non, .non _⟩
  · exact ⟨hasP_int (.inr (by omega)), .int _ _⟩
  · exact ⟨hasP_other (whole_str _), .str _ _⟩
  · exact ⟨hasP_other (whole_tup _), .tup _ _ fun d h => by
      simp at h
      subst h
      exact .int _ _⟩
  · exact ⟨hasP_other (whole_lst _), dq_lone (.int _ _)⟩
  · exact ⟨hasP_other (whole_dct _ _), .dct _⟩
theorem bad_point_eq (c : Int) (n : Nat) : ∃ d : Dat, m_law_bad_point [.int c, .int (n : Int)] = some (.sh d) ∧ HasP n d false ∧ Dq 5 d := by
  obtain ⟨i, i1, i2, i3⟩ := mix2_eq c 39373 9 (by decide) (by decide) (by decide)
  obtain ⟨i, rfl⟩ := Int.eq_ofNat_of_zero_le i1
  have il : i < (pointsL n).length := by
    show i < 9
    omega
  obtain ⟨d, hd⟩ : ∃ d, (pointsL n)[i]? = some d := ⟨_, List.getElem?_eq_getElem il⟩
  refine ⟨d, fn_rt (e := [.sh (.int c), .sh (.int (n : Int))]) rfl (retS_of (bin_of (x := .lst (pointsL n)) ?_ (mlt_shd (call_of (cons_of (f := vr 0) rfl (cons_of (cn_of _ _) (cons_of (cn_of _ _) (nil_of _)))) rfl i3)) ?_)), points_ok n i d hd⟩
  · have p20 : ∀ e, DL.bin powD (cn (.int 10)) (cn (.int 20)) e = some (.int 100000000000000000000) := fun e => by simp [powD]
    refine mlt_lst (lst_of (ds := pointsL n) ?_ (Nat.le_of_ble_eq_true rfl))
    exact cons_of rfl (cons_of rfl (cons_of rfl (cons_of rfl (cons_of (bin_of (fa := vr 1) rfl (p20 _) (sum_int _ _)) (cons_of rfl (cons_of rfl (cons_of rfl (cons_of rfl (nil_of _)))))))))
  · rw [ix_lst, atI_nn, hd]
/-! ### answers -/
abbrev refD (s : Str) : Dat := .tup [.str "refused", .str s]
abbrev toldD (d : Dat) : Dat := .tup [.str "told", d, .bl true, .bl false]
noncomputable abbrev restA : List OT → Option Out := (seqO (ifS (andB (tst (isaO tabE_NoPoint tabO_NoPoint (vr 5))) (notB (tst (isaO tabE_NoSize_NoRow_TooMany tabO_NoSize_NoRow_TooMany (vr 5))))) (retS (tupD (consA (cn (.str "refused")) (consA (cn (.str "point")) nilA)))) skipO)
    (seqO (ifS (andB (tst (isaO tabE_NoSize tabO_NoSize (vr 5))) (notB (tst (isaO tabE_NoPoint_NoRow_TooMany tabO_NoPoint_NoRow_TooMany (vr 5))))) (retS (tupD (consA (cn (.str "refused")) (consA (cn (.str "size")) nilA)))) skipO)
    (seqO (ifS (andB (tst (isaO tabE_NoRow tabO_NoRow (vr 5))) (notB (tst (isaO tabE_NoSize_NoPoint_TooMany tabO_NoSize_NoPoint_TooMany (vr 5))))) (retS (tupD (consA (cn (.str "refused")) (consA (cn (.str "row")) nilA)))) skipO)
    (retS (tupD (consA (cn (.str "told")) (consA (vr 6) (consA (isN (vr 5)) (consA (isiD "bool" (vr 6)) nilA)))))))))
/-- a refusal's class and its word -/
inductive Refu : String → Str → Prop
  | point : Refu "NoPoint" "point"
  | size : Refu "NoSize" "size"
  | row : Refu "NoRow" "row"
theorem rest_ex {c : String} {s : Str} (h : Refu c s) (N D R K S F U : OT) : restA [N, D, R, K, S, .sh (.exn c [] []), F, U] = some (.rt (.sh (refD s)) [N, D, R, K, S, .sh (.exn c [] []), F, U]) := by
  let E : List OT := [N, D, R, K, S, .sh (.exn c [] []), F, U]
  have isa : ∀ (tE tO : String → Option Bool) (b : Bool), tE c = some b → isaO tE tO (vr 5) E = some (.bl b) := fun tE tO b h => by
    have v : vr 5 E = some (.exn c [] []) := rfl
    simp only [isaO, v, isaD, h]
  have both : ∀ (tE tO tE' tO' : String → Option Bool) (b b' : Bool), tE c = some b → tE' c = some b' → andB (tst (isaO tE tO (vr 5))) (notB (tst (isaO tE' tO' (vr 5)))) E = some (b && !b') := fun tE tO tE' tO' b b' h1 h2 => by
    simp only [andB, tst_of (isa tE tO b h1), ntst_of (isa tE' tO' b' h2)]
    cases b <;> rfl
  cases h with
  | point => exact seq_rt (if_t (both tabE_NoPoint tabO_NoPoint tabE_NoSize_NoRow_TooMany tabO_NoSize_NoRow_TooMany true false rfl rfl) (retS_of rfl))
  | size => exact seq_nx (if_f (both tabE_NoPoint tabO_NoPoint tabE_NoSize_NoRow_TooMany tabO_NoSize_NoRow_TooMany false true rfl rfl) rfl) (seq_rt (if_t (both tabE_NoSize tabO_NoSize tabE_NoPoint_NoRow_TooMany tabO_NoPoint_NoRow_TooMany true false rfl rfl) (retS_of rfl)))
  | row => exact seq_nx (if_f (both tabE_NoPoint tabO_NoPoint tabE_NoSize_NoRow_TooMany tabO_NoSize_NoRow_TooMany false true rfl rfl) rfl) (seq_nx (if_f (both tabE_NoSize tabO_NoSize tabE_NoPoint_NoRow_TooMany tabO_NoPoint_NoRow_TooMany false true rfl rfl) rfl) (seq_rt (if_t (both tabE_NoRow tabO_NoRow tabE_NoSize_NoPoint_TooMany tabO_NoSize_NoPoint_TooMany true false rfl rfl) (retS_of rfl))))
theorem rest_ok (N D R K S U : OT) (d : Dat) (hd : d = .non ∨ ∃ i : Int, d = .int i) : restA [N, D, R, K, S, .sh .non, .sh d, U] = some (.rt (.sh (toldD d)) [N, D, R, K, S, .sh .non, .sh d, U]) := by
  let E : List OT := [N, D, R, K, S, .sh .non, .sh d, U]
  have no : ∀ (tE tO tE' tO' : String → Option Bool), andB (tst (isaO tE tO (vr 5))) (notB (tst (isaO tE' tO' (vr 5)))) E = some false := fun tE tO tE' tO' => rfl
  refine seq_nx (if_f (no _ _ _ _) rfl) (seq_nx (if_f (no _ _ _ _) rfl) (seq_nx (if_f (no _ _ _ _) rfl) (retS_of ?_)))
  have v : vr 6 E = some d := rfl
  have b : isiD "bool" (vr 6) E = some (.bl false) := by
    rw [isi_eq, v]
    rcases hd with rfl | ⟨i, rfl⟩ <;> simp
  exact tup_of (cons_of (cn_of _ _) (cons_of v (cons_of rfl (cons_of b (nil_of _))))) (by simp)
noncomputable abbrev tryA : List OT → Option Out := (tryS (ifS (tst (DL.bin eqD (vr 1) (cn (.str "add")))) (setGXM 6 (methGX 2 "add" mt_add (.inl 0) ([.inr (vr 2)] ++ csA []))) (setGXM 6 (methGX 3 "change" mt_change (.inl 0) ([.inr (vr 3), .inr (vr 4)] ++ csA [])))) [⟨tab_OhmError, some 7, (setS 5 (vr 7))⟩])
theorem ohm_of {c : String} {s : Str} (h : Refu c s) : tab_OhmError c = some true := by cases h <;> rfl
theorem answer_ex {c : String} {s : Str} (h : Refu c s) {o : OT} {x r k z : Dat} (ho : o.core = o) (hm : o.mark = .lent o) (hb : ∀ (E : List OT), back (.lent o :: E) 0 [o, .sh x, .sh r, .sh k, .sh z] = some [o, .sh x, .sh r, .sh k, .sh z])
    (ht : tryA [.lent o, .sh x, .sh r, .sh k, .sh z, .sh .non, .sh .non, .un] = some (.nx [.lent o, .sh x, .sh r, .sh k, .sh z, .sh (.exn c [] []), .sh .non, .un])) :
    mL_law_answer [o, .sh x, .sh r, .sh k, .sh z] = some (.ok (.sh (refD s)) [o, .sh x, .sh r, .sh k, .sh z]) := by
  refine fnL_rt (e := [.lent o, .sh x, .sh r, .sh k, .sh z, .sh (.exn c [] []), .sh .non, .un]) rfl ?_ (hb _)
  show seqO _ _ [o.mark, .sh x, .sh r, .sh k, .sh z, .un, .un, .un] = _
  rw [hm]
  refine seq_nx (e1 := [.lent o, .sh x, .sh r, .sh k, .sh z, .sh .non, .un, .un]) (set_of (cn_of _ _) rfl) (seq_nx (e1 := [.lent o, .sh x, .sh r, .sh k, .sh z, .sh .non, .sh .non, .un]) (set_of (cn_of _ _) rfl) (seq_nx ht (rest_ex h _ _ _ _ _ _ _)))
theorem netO_back (n : Nat) (rs rs' : List RT) (x r k z : Dat) (E : List OT) : back (.lent (netO n rs') :: E) 0 [netO n rs, .sh x, .sh r, .sh k, .sh z] = some [netO n rs', .sh x, .sh r, .sh k, .sh z] := by
  simp [netO]
theorem try_of {g : List OT → Option Out} {e e1 : List OT} {c : String} {s : Str} (h : Refu c s) {N D R K S : OT} (he : e1 = [N, D, R, K, S, .sh .non, .sh .non, .un]) (hg : g e = some (.ex c [] [] e1)) : tryS g [⟨tab_OhmError, some 7, (setS 5 (vr 7))⟩] e = some (.nx [N, D, R, K, S, .sh (.exn c [] []), .sh .non, .un]) := by
  subst he
  simp only [tryS, hg]
  simp [handS, ohm_of h, unO]
theorem answer_add_ex {c : String} {s : Str} (h : Refu c s) {n : Nat} {rs : List RT} {r k z : Dat} (ha : mL_Net_add [netO n rs, .sh r] = some (.ex c [] [] [netO n rs, .sh r])) :
    mL_law_answer [netO n rs, .sh (.str "add"), .sh r, .sh k, .sh z] = some (.ok (.sh (refD s)) [netO n rs, .sh (.str "add"), .sh r, .sh k, .sh z]) := by
  refine answer_ex h rfl rfl (fun E => netO_back n rs rs _ _ _ _ E) (try_of h rfl ?_)
  refine if_t (tst_of (bin_of (fa := vr 1) (x := .str "add") rfl (cn_of _ _) rfl)) ?_
  have mk : methGX 2 "add" mt_add (.inl 0) ([.inr (vr 2)] ++ csA []) [.lent (netO n rs), .sh (.str "add"), .sh r, .sh k, .sh z, .sh .non, .sh .non, .un] = some (.ex c [] [] [.lent (netO n rs), .sh (.str "add"), .sh r, .sh k, .sh z, .sh .non, .sh .non, .un]) := by
    rw [methGX_of (o := netO n rs) (f := mL_Net_add) rfl (netc n rs) (by simp) (by simp [mt_add])]
    exact callGX_ex (os := [netO n rs, .sh r]) rfl rfl (by simp) ha rfl
  simp only [setGXM, mk]
theorem answer_change_ex {c : String} {s : Str} (h : Refu c s) {n : Nat} {rs : List RT} {r k z : Dat} (ha : mL_Net_change [netO n rs, .sh k, .sh z] = some (.ex c [] [] [netO n rs, .sh k, .sh z])) :
    mL_law_answer [netO n rs, .sh (.str "change"), .sh r, .sh k, .sh z] = some (.ok (.sh (refD s)) [netO n rs, .sh (.str "change"), .sh r, .sh k, .sh z]) := by
  refine answer_ex h rfl rfl (fun E => netO_back n rs rs _ _ _ _ E) (try_of h rfl ?_)
  refine if_f (tst_of (b := false) (bin_of (fa := vr 1) (x := .str "change") rfl (cn_of _ _) (by simp))) ?_
  have mk : methGX 3 "change" mt_change (.inl 0) ([.inr (vr 3), .inr (vr 4)] ++ csA []) [.lent (netO n rs), .sh (.str "change"), .sh r, .sh k, .sh z, .sh .non, .sh .non, .un] = some (.ex c [] [] [.lent (netO n rs), .sh (.str "change"), .sh r, .sh k, .sh z, .sh .non, .sh .non, .un]) := by
    rw [methGX_of (o := netO n rs) (f := mL_Net_change) rfl (netc n rs) (by simp) (by simp [mt_change])]
    exact callGX_ex (os := [netO n rs, .sh k, .sh z]) rfl rfl (by simp) ha rfl
  simp only [setGXM, mk]
theorem answer_add_ok {n : Nat} {rs : List RT} {r : RT} {k z : Dat} (hg : r.Good n) (hl : rs.length < 40) :
    mL_law_answer [netO n rs, .sh (.str "add"), .sh r.obj, .sh k, .sh z] = some (.ok (.sh (toldD (.int (rs.length : Int)))) [netO n (rs ++ [r]), .sh (.str "add"), .sh r.obj, .sh k, .sh z]) := by
  let E (x5 x6 : OT) : List OT := [.lent (netO n rs), .sh (.str "add"), .sh r.obj, .sh k, .sh z, x5, x6, .un]
  let E' : List OT := [.lent (netO n (rs ++ [r])), .sh (.str "add"), .sh r.obj, .sh k, .sh z, .sh .non, .sh (.int (rs.length : Int)), .un]
  refine fnL_rt (e := E') rfl ?_ (netO_back n rs (rs ++ [r]) _ _ _ _ _)
  refine seq_nx (e1 := E (.sh .non) .un) (set_of (cn_of _ _) rfl) (seq_nx (e1 := E (.sh .non) (.sh .non)) (set_of (cn_of _ _) rfl) (seq_nx (e1 := E') ?_ (rest_ok _ _ _ _ _ _ _ (.inr ⟨_, rfl⟩))))
  have mk : methGX 2 "add" mt_add (.inl 0) ([.inr (vr 2)] ++ csA []) (E (.sh .non) (.sh .non)) = some (.ok (.sh (.int (rs.length : Int))) [.lent (netO n (rs ++ [r])), .sh (.str "add"), .sh r.obj, .sh k, .sh z, .sh .non, .sh .non, .un]) := by
    rw [methGX_of (o := netO n rs) (f := mL_Net_add) rfl (netc n rs) (by simp) (by simp [mt_add])]
    exact callGX_ok (os := [netO n rs, .sh r.obj]) rfl rfl (by simp) (Net_add_eq n rs r hg hl) rfl
  have st : ifS (tst (DL.bin eqD (vr 1) (cn (.str "add")))) (setGXM 6 (methGX 2 "add" mt_add (.inl 0) ([.inr (vr 2)] ++ csA []))) (setGXM 6 (methGX 3 "change" mt_change (.inl 0) ([.inr (vr 3), .inr (vr 4)] ++ csA []))) (E (.sh .non) (.sh .non)) = some (.nx E') := by
    refine if_t (tst_of (bin_of (fa := vr 1) (x := .str "add") rfl (cn_of _ _) rfl)) (setGXM_ok mk (show 6 < 8 by decide) rfl rfl rfl)
  simp only [tryS, st]
theorem answer_change_ok {n : Nat} {rs : List RT} {k : Nat} {r : RT} {q : Rat} {x : Dat} (hk : rs[k]? = some r) (hq : r.w = .piece → 0 < q.num) :
    mL_law_answer [netO n rs, .sh (.str "change"), .sh x, .sh (.int (k : Int)), .sh (enc q)] = some (.ok (.sh (toldD .non)) [netO n (rs.set k { r with q := q }), .sh (.str "change"), .sh x, .sh (.int (k : Int)), .sh (enc q)]) := by
  let E (x5 x6 : OT) : List OT := [.lent (netO n rs), .sh (.str "change"), .sh x, .sh (.int (k : Int)), .sh (enc q), x5, x6, .un]
  let E' : List OT := [.lent (netO n (rs.set k { r with q := q })), .sh (.str "change"), .sh x, .sh (.int (k : Int)), .sh (enc q), .sh .non, .sh .non, .un]
  refine fnL_rt (e := E') rfl ?_ (netO_back n rs (rs.set k { r with q := q }) _ _ _ _ _)
  refine seq_nx (e1 := E (.sh .non) .un) (set_of (cn_of _ _) rfl) (seq_nx (e1 := E (.sh .non) (.sh .non)) (set_of (cn_of _ _) rfl) (seq_nx (e1 := E') ?_ (rest_ok _ _ _ _ _ _ _ (.inl rfl))))
  have mk : methGX 3 "change" mt_change (.inl 0) ([.inr (vr 3), .inr (vr 4)] ++ csA []) (E (.sh .non) (.sh .non)) = some (.ok (.sh .non) E') := by
    rw [methGX_of (o := netO n rs) (f := mL_Net_change) rfl (netc n rs) (by simp) (by simp [mt_change])]
    exact callGX_ok (os := [netO n rs, .sh (.int (k : Int)), .sh (enc q)]) rfl rfl (by simp) (Net_change_eq n rs k r q hk hq) rfl
  have st : ifS (tst (DL.bin eqD (vr 1) (cn (.str "add")))) (setGXM 6 (methGX 2 "add" mt_add (.inl 0) ([.inr (vr 2)] ++ csA []))) (setGXM 6 (methGX 3 "change" mt_change (.inl 0) ([.inr (vr 3), .inr (vr 4)] ++ csA []))) (E (.sh .non) (.sh .non)) = some (.nx E') := by
    refine if_f (tst_of (b := false) (bin_of (fa := vr 1) (x := .str "change") rfl (cn_of _ _) (by simp))) (setGXM_ok mk (show 6 < 8 by decide) rfl rfl rfl)
  simp only [tryS, st]
theorem lent_many (n : Nat) (rs : List RT) (r : List OT) : gOf (methGX 1 "many" mt_many (.inl 0) (csA [])) (.lent (netO n rs) :: r) = some (.sh (.int (n : Int)), .lent (netO n rs) :: r) := by
  refine gOf_ok ?_
  rw [methGX_of (o := netO n rs) (f := mL_Net_many) rfl (netc n rs) (by simp) (by simp [mt_many])]
  refine callGX_ok (os := [netO n rs]) (os' := [netO n rs]) rfl rfl (by simp) (fnL_rt (e := [.lent (netO n rs)]) rfl (retS_of ?_) (by simp [netO])) rfl
  simp [netO, tabN]
theorem shG_of {f : GD} {e e2 : List OT} {d : Dat} (h : f e = some (d, e2)) : shG f e = some (.sh d, e2) := by simp only [shG, h]
theorem plain_str {s : Str} (h : PyData.strOk s = true) : Plain (.str s) 0 := ⟨rfl, by simpa [Dat.py, PyData.canLay0] using h, by simp [Dat.py, PyData.depth]⟩
theorem refD_self {c : String} {s : Str} (h : Refu c s) : eqB (refD s) (refD s) = some true := by
  refine eqB_self (n := 1) (.tup fun d hd => ?_) (by decide)
  simp at hd
  rcases hd with rfl | rfl
  · exact plain_str (by decide +kernel)
  · cases h <;> exact plain_str (by decide +kernel)
theorem toldD_self {d : Dat} (h : d = .non ∨ ∃ i : Int, d = .int i) : eqB (toldD d) (toldD d) = some true := by
  refine eqB_self (n := 1) (.tup fun x hd => ?_) (by decide)
  simp at hd
  rcases hd with rfl | rfl | rfl | rfl
  · exact plain_str (by decide +kernel)
  · rcases h with rfl | ⟨i, rfl⟩
    · exact ⟨rfl, by simp [Dat.py, PyData.canLay0], by simp [Dat.py, PyData.depth]⟩
    · exact (Plain.int _).mono (by decide)
  · exact ⟨rfl, by simp [Dat.py, PyData.canLay0], by simp [Dat.py, PyData.depth]⟩
  · exact ⟨rfl, by simp [Dat.py, PyData.canLay0], by simp [Dat.py, PyData.depth]⟩
abbrev rsL (rs : List RT) : OT := .lst (rs.map fun r => .sh r.tup)
/-- what is kept of a row that was handed in -/
def HandE (d : Dat) : Prop := ∃ l : List (Wd × Dat × Dat × Dat), (∀ x ∈ l, Dq 5 x.2.1 ∧ Dq 5 x.2.2.1 ∧ Dq 5 x.2.2.2) ∧ l.length < 1000 ∧ d = .tup [.lst (l.map fun x => gobj x.1 x.2.1 x.2.2.1 x.2.2.2), .lst (l.map fun x => gtup x.1 x.2.1 x.2.2.1 x.2.2.2)]
def RGood (n : Nat) (r : RT) : Prop := r.Good n ∧ SzOK r.w r.q
/-- the three faults and none -/
inductive Case (n m : Nat) (w : Wd) : Dat → Dat → Dat → Dat → Prop
  | point {a b s : Dat} {t u : Bool} (ha : HasP n a t) (hb : HasP n b u) (h : t = false ∨ u = false) : Case n m w a b s (refD "point")
  | size {a b s : Dat} (ha : HasP n a true) (hb : HasP n b true) (h : BadS w s) : Case n m w a b s (refD "size")
  | good {a b : Nat} {q : Rat} (ha : a < n) (hb : b < n) (h : SzOK w q) : Case n m w (.int (a : Int)) (.int (b : Int)) (enc q) (toldD (.int (m : Int)))
theorem callA {n : Nat} {rs rs' : List RT} {x r k z d : Dat} {e : List OT} {fx fr fk fz : List OT → Option Dat} (h0 : e[0]? = some (.lent (netO n rs))) (hx : fx e = some x) (hr : fr e = some r) (hk : fk e = some k) (hz : fz e = some z)
    (h : mL_law_answer [netO n rs, .sh x, .sh r, .sh k, .sh z] = some (.ok (.sh d) [netO n rs', .sh x, .sh r, .sh k, .sh z])) :
    mltE (gOf (callGX 5 mL_law_answer ([.inl 0, .inr fx, .inr fr, .inr fk, .inr fz] ++ csA []))) e = some (d, e.set 0 (.lent (netO n rs'))) := by
  refine mltE_of (gOf_ok (callGX_ok (os := [netO n rs, .sh x, .sh r, .sh k, .sh z]) ?_ rfl (by simp) h ?_)) rfl rfl
  · simp only [List.append_nil, csA_nil, argsO_inl, h0, argsO_inr, hx, hr, hk, hz, argsO_nil, core_lent]
  · simp only [List.append_nil, csA_nil, putA_inl, h0, putA_inr, putA_nil, re_lent]
    exact if_pos rfl
theorem add_eq (n : Nat) (rs : List RT) (hn : 0 < n) (hl : rs.length < 40) (c : Int) (os : List OT) (ho : os.length < 1000) : ∃ (rs' : List RT) (x : Dat), (rs' = rs ∨ ∃ r, RGood n r ∧ rs' = rs ++ [r]) ∧ HandE x ∧
    mL_law_add [netO n rs, rsL rs, .sh (.int c), .lst os] = some (.ok (.sh (.bl true)) [netO n rs', rsL rs', .sh (.int c), .lst (os ++ [.sh x])]) := by
  let N : OT := .lent (netO n rs)
  let R : OT := .lent (rsL rs)
  let C : OT := .sh (.int c)
  let H : OT := .lent (.lst os)
  let E (x4 x5 x6 x7 x8 x9 x10 : OT) : List OT := [N, R, C, H, x4, x5, x6, x7, x8, x9, x10]
  have mix : ∀ (e : List OT) (p m r : Int), vr 2 e = some (.int c) → m_law_mix [.int c, .int p, .int m] = some (.sh (.int r)) → mlt (callO 3 m_law_mix (consA (vr 2) (consA (cn (.int p)) (consA (cn (.int m)) nilA)))) e = some (.int r) := fun e p m r h1 h2 => mlt_shd (call_of (cons_of h1 (cons_of (cn_of _ _) (cons_of (cn_of _ _) (nil_of _)))) rfl h2)
  obtain ⟨i, i1, i2, i3⟩ := mix2_eq c 48271 3 (by decide) (by decide) (by decide)
  obtain ⟨w, s4⟩ : ∃ w : Wd, setS 4 (DL.bin ixD (mlt (lstD (consA (cn (.str "piece")) (consA (cn (.str "push")) (consA (cn (.str "hold")) nilA))))) (mlt (callO 3 m_law_mix (consA (vr 2) (consA (cn (.int 48271)) (consA (cn (.int 3)) nilA)))))) (E .un .un .un .un .un .un .un) = some (.nx (E (.sh (.str w.s)) .un .un .un .un .un .un)) := by
    have l : mlt (lstD (consA (cn (.str "piece")) (consA (cn (.str "push")) (consA (cn (.str "hold")) nilA)))) (E .un .un .un .un .un .un .un) = some (.lst [.str "piece", .str "push", .str "hold"]) := mlt_lst (ds := [.str "piece", .str "push", .str "hold"]) rfl
    have : i = 0 ∨ i = 1 ∨ i = 2 := by omega
    rcases this with rfl | rfl | rfl
    · exact ⟨.piece, set_of (bin_of l (mix _ _ _ _ rfl i3) (atI_0 _ _)) rfl⟩
    · exact ⟨.push, set_of (bin_of l (mix _ _ _ _ rfl i3) (atI_1 _ _ _)) rfl⟩
    · exact ⟨.hold, set_of (bin_of l (mix _ _ _ _ rfl i3) (atI_2 _ _ _ _)) rfl⟩
  let W : OT := .sh (.str w.s)
  obtain ⟨a, a1, a2, a3⟩ := mix2_eq c 30307 n (by decide) (by decide) (by omega)
  obtain ⟨a, rfl⟩ := Int.eq_ofNat_of_zero_le a1
  obtain ⟨b, b1, b2, b3⟩ := mix2_eq c 30323 n (by decide) (by decide) (by omega)
  obtain ⟨b, rfl⟩ := Int.eq_ofNat_of_zero_le b1
  obtain ⟨q, hq, q3⟩ := size_eq c w
  obtain ⟨f, f1, f2, f3⟩ := mix2_eq c 44488 9 (by decide) (by decide) (by decide)
  let A : OT := .sh (.int (a : Int))
  let B : OT := .sh (.int (b : Int))
  let F : OT := .sh (.int f)
  have pm : ∀ (p r : Int) (x4 x5 x6 x7 x8 x9 x10 : OT), m_law_mix [.int c, .int p, .int (n : Int)] = some (.sh (.int r)) → shG (mltE (callE 3 m_law_mix (consE (pE (vr 2)) (consE (pE (cn (.int p))) (consE (mltE (gOf (methGX 1 "many" mt_many (.inl 0) (csA [])))) nilE))))) (E x4 x5 x6 x7 x8 x9 x10) = some (.sh (.int r), E x4 x5 x6 x7 x8 x9 x10) := fun p r x4 x5 x6 x7 x8 x9 x10 h =>
    shG_of (mltE_of (callE_of (consE_of (pE_of rfl) (consE_of (pE_of (cn_of _ _)) (consE_of (mltE_of (lent_many n rs _) rfl rfl) (nilE_of _)))) rfl h) rfl rfl)
  have s5 := fun x6 x7 x8 x9 x10 => setG_of (i := 5) (e3 := E W A x6 x7 x8 x9 x10) (pm 30307 a W .un x6 x7 x8 x9 x10 a3) (show 5 < 11 by decide) rfl
  have s6 := fun x7 x8 x9 x10 => setG_of (i := 6) (e3 := E W A B x7 x8 x9 x10) (pm 30323 b W A .un x7 x8 x9 x10 b3) (show 6 < 11 by decide) rfl
  have s7 : setS 7 (mlt (callO 2 m_law_size (consA (vr 2) (consA (vr 4) nilA)))) (E W A B .un .un .un .un) = some (.nx (E W A B (.sh (enc q)) .un .un .un)) :=
    set_of (mlt_shd (call_of (cons_of (f := vr 2) rfl (cons_of (f := vr 4) rfl (nil_of _))) rfl q3)) rfl
  have ln : ∀ x4 x5 x6 x7 x8 x9 x10, scO (cal lenD (consA (brP 1 nmP) nilA)) (E x4 x5 x6 x7 x8 x9 x10) = some (.int (rs.length : Int)) := fun x4 x5 x6 x7 x8 x9 x10 => by
    have p : brP 1 nmP (E x4 x5 x6 x7 x8 x9 x10) = some (.lst (rs.map RT.tup)) := by simp [E, R, okL_map, datL_map]
    simp only [scO, cal, consA, p, nilA, len_lst, List.length_map, Dat.sc, if_true]
  let TD : Dat := toldD (.int (rs.length : Int))
  have s8 : setS 8 (tupD (consA (cn (.str "told")) (consA (scO (cal lenD (consA (brP 1 nmP) nilA))) (consA (cn (.bl true)) (consA (cn (.bl false)) nilA))))) (E W A B (.sh (enc q)) .un .un .un) = some (.nx (E W A B (.sh (enc q)) (.sh TD) .un .un)) :=
    set_of (tup_of (cons_of (cn_of _ _) (cons_of (ln _ _ _ _ _ _ _) (cons_of (cn_of _ _) (cons_of (cn_of _ _) (nil_of _))))) (by simp)) rfl
  have s9 : setS 9 (mlt (callO 3 m_law_mix (consA (vr 2) (consA (cn (.int 44488)) (consA (cn (.int 9)) nilA))))) (E W A B (.sh (enc q)) (.sh TD) .un .un) = some (.nx (E W A B (.sh (enc q)) (.sh TD) F .un)) := set_of (mix _ _ _ _ rfl f3) rfl
  have cd : ∀ (j : Int) (x4 x5 x6 x7 x8 x10 : OT), tst (DL.bin eqD (vr 9) (cn (.int j))) (E x4 x5 x6 x7 x8 F x10) = some (decide (f = j)) := fun j x4 x5 x6 x7 x8 x10 => tst_of (bin_of (fa := vr 9) (x := .int f) rfl (cn_of _ _) (eq_int _ _))
  have co : ∀ (j k : Int) (x4 x5 x6 x7 x8 x10 : OT), orB (tst (DL.bin eqD (vr 9) (cn (.int j)))) (tst (DL.bin eqD (vr 9) (cn (.int k)))) (E x4 x5 x6 x7 x8 F x10) = some (decide (f = j) || decide (f = k)) := fun j k x4 x5 x6 x7 x8 x10 => by
    simp only [orB, cd]
    cases decide (f = j) <;> rfl
  obtain ⟨s, d1, st1, k1, k1'⟩ : ∃ s d1 : Dat, ifS (orB (tst (DL.bin eqD (vr 9) (cn (.int 1)))) (tst (DL.bin eqD (vr 9) (cn (.int 2))))) (seqO (setS 7 (mlt (callO 3 m_law_bad_size (consA (vr 2) (consA (vr 4) (consA (vr 7) nilA))))))
    (setS 8 (tupD (consA (cn (.str "refused")) (consA (cn (.str "size")) nilA))))) skipO (E W A B (.sh (enc q)) (.sh TD) F .un) = some (.nx (E W A B (.sh s) (.sh d1) F .un)) ∧ ((f = 1 ∨ f = 2) → BadS w s ∧ d1 = refD "size") ∧ (¬ (f = 1 ∨ f = 2) → s = enc q ∧ d1 = TD) := by
    have cc := co 1 2 W A B (.sh (enc q)) (.sh TD) .un
    by_cases h : f = 1 ∨ f = 2
    · obtain ⟨o, s, o1, o2, o3, o4⟩ := bad_size_eq c w q hq
      have : (decide (f = 1) || decide (f = 2)) = true := by simpa using h
      rw [this] at cc
      exact ⟨s, refD "size", if_t cc (seq_nx (e1 := E W A B (.sh s) (.sh TD) F .un) (set_of (mlt_of (call_of (cons_of (f := vr 2) rfl (cons_of (f := vr 4) rfl (cons_of (f := vr 7) rfl (nil_of _)))) rfl o4) o1 o2) rfl) (set_of rfl rfl)), fun _ => ⟨o3, rfl⟩, fun h' => absurd h h'⟩
    · have : (decide (f = 1) || decide (f = 2)) = false := by simpa using h
      rw [this] at cc
      exact ⟨enc q, TD, if_f cc rfl, fun h' => absurd h' h, fun _ => ⟨rfl, rfl⟩⟩
  have bp : ∀ (d : Dat) (x4 x5 x6 x7 x8 x9 x10 : OT), m_law_bad_point [.int c, .int (n : Int)] = some (.sh d) → shG (mltE (callE 2 m_law_bad_point (consE (pE (vr 2)) (consE (mltE (gOf (methGX 1 "many" mt_many (.inl 0) (csA [])))) nilE)))) (E x4 x5 x6 x7 x8 x9 x10) = some (.sh d, E x4 x5 x6 x7 x8 x9 x10) := fun d x4 x5 x6 x7 x8 x9 x10 h =>
    shG_of (mltE_of (callE_of (consE_of (pE_of rfl) (consE_of (mltE_of (lent_many n rs _) rfl rfl) (nilE_of _))) rfl h) rfl rfl)
  obtain ⟨bad, hbad, hb1, hb2⟩ := bad_point_eq c n
  obtain ⟨a', d2, st2, k2, k2'⟩ : ∃ a' d2 : Dat, ifS (orB (tst (DL.bin eqD (vr 9) (cn (.int 0)))) (tst (DL.bin eqD (vr 9) (cn (.int 1))))) (seqO (setG 5 (shG (mltE (callE 2 m_law_bad_point (consE (pE (vr 2)) (consE (mltE (gOf (methGX 1 "many" mt_many (.inl 0) (csA [])))) nilE))))))
    (setS 8 (tupD (consA (cn (.str "refused")) (consA (cn (.str "point")) nilA))))) skipO (E W A B (.sh s) (.sh d1) F .un) = some (.nx (E W (.sh a') B (.sh s) (.sh d2) F .un)) ∧ ((f = 0 ∨ f = 1) → a' = bad ∧ d2 = refD "point") ∧ (¬ (f = 0 ∨ f = 1) → a' = .int (a : Int) ∧ d2 = d1) := by
    have cc := co 0 1 W A B (.sh s) (.sh d1) .un
    by_cases h : f = 0 ∨ f = 1
    · have : (decide (f = 0) || decide (f = 1)) = true := by simpa using h
      rw [this] at cc
      exact ⟨bad, refD "point", if_t cc (seq_nx (e1 := E W (.sh bad) B (.sh s) (.sh d1) F .un) (setG_of (bp bad _ _ _ _ _ _ _ hbad) (show 5 < 11 by decide) rfl) (set_of rfl rfl)), fun _ => ⟨rfl, rfl⟩, fun h' => absurd h h'⟩
    · have : (decide (f = 0) || decide (f = 1)) = false := by simpa using h
      rw [this] at cc
      exact ⟨_, d1, if_f cc rfl, fun h' => absurd h' h, fun _ => ⟨rfl, rfl⟩⟩
  obtain ⟨b', d3, st3, k3, k3'⟩ : ∃ b' d3 : Dat, ifS (tst (DL.bin eqD (vr 9) (cn (.int 3)))) (seqO (setG 6 (shG (mltE (callE 2 m_law_bad_point (consE (pE (vr 2)) (consE (mltE (gOf (methGX 1 "many" mt_many (.inl 0) (csA [])))) nilE))))))
    (setS 8 (tupD (consA (cn (.str "refused")) (consA (cn (.str "point")) nilA))))) skipO (E W (.sh a') B (.sh s) (.sh d2) F .un) = some (.nx (E W (.sh a') (.sh b') (.sh s) (.sh d3) F .un)) ∧ (f = 3 → b' = bad ∧ d3 = refD "point") ∧ (¬ f = 3 → b' = .int (b : Int) ∧ d3 = d2) := by
    have cc := cd 3 W (.sh a') B (.sh s) (.sh d2) .un
    by_cases h : f = 3
    · rw [decide_eq_true h] at cc
      exact ⟨bad, refD "point", if_t cc (seq_nx (e1 := E W (.sh a') (.sh bad) (.sh s) (.sh d2) F .un) (setG_of (bp bad _ _ _ _ _ _ _ hbad) (show 6 < 11 by decide) rfl) (set_of rfl rfl)), fun _ => ⟨rfl, rfl⟩, fun h' => absurd h h'⟩
    · rw [decide_eq_false h] at cc
      exact ⟨_, d2, if_f cc rfl, fun h' => absurd h' h, fun _ => ⟨rfl, rfl⟩⟩
  have ga : HasP n (.int (a : Int)) true := hasP_good (by omega)
  have gb : HasP n (.int (b : Int)) true := hasP_good (by omega)
  obtain ⟨cs, dq⟩ : Case n rs.length w a' b' s d3 ∧ (Dq 5 a' ∧ Dq 5 b' ∧ Dq 5 s) := by
    by_cases f3' : f = 3
    · obtain ⟨rfl, rfl⟩ := k3 f3'
      obtain ⟨rfl, rfl⟩ := k2' (by omega)
      obtain ⟨rfl, rfl⟩ := k1' (by omega)
      exact ⟨.point ga hb1 (.inr rfl), .int _ _, hb2, dq_mono (dq_enc q) (by decide)⟩
    · obtain ⟨rfl, rfl⟩ := k3' f3'
      by_cases f01 : f = 0 ∨ f = 1
      · obtain ⟨rfl, rfl⟩ := k2 f01
        refine ⟨.point hb1 gb (.inl rfl), hb2, .int _ _, ?_⟩
        by_cases f12 : f = 1 ∨ f = 2
        · exact (k1 f12).1.q
        · rw [(k1' f12).1]
          exact dq_mono (dq_enc q) (by decide)
      · obtain ⟨rfl, rfl⟩ := k2' f01
        by_cases f12 : f = 1 ∨ f = 2
        · obtain ⟨h1, rfl⟩ := k1 f12
          exact ⟨.size ga gb h1, .int _ _, .int _ _, h1.q⟩
        · obtain ⟨rfl, rfl⟩ := k1' f12
          exact ⟨.good (by omega) (by omega) hq, .int _ _, .int _ _, dq_mono (dq_enc q) (by decide)⟩
  let M : OT := .sh (gobj w a' b' s)
  let E0 : List OT := E W (.sh a') (.sh b') (.sh s) (.sh d3) F .un
  let E1 : List OT := E W (.sh a') (.sh b') (.sh s) (.sh d3) F M
  have s10 : setS 10 (mlt (callO 4 m_law_made (consA (vr 4) (consA (vr 5) (consA (vr 6) (consA (vr 7) nilA)))))) E0 = some (.nx E1) :=
    set_of (mlt_of (call_of (cons_of (f := vr 4) rfl (cons_of (f := vr 5) rfl (cons_of (f := vr 6) rfl (cons_of (f := vr 7) rfl (nil_of _))))) rfl (gmade w a' b' s)) (gmade_ok w a' b' s).1 (gmade_ok w a' b' s).2) rfl
  let x : Dat := .tup [.lst [gobj w a' b' s], .lst [gtup w a' b' s]]
  have hx : HandE x := ⟨[(w, a', b', s)], fun y hy => by
    rw [List.mem_singleton.mp hy]
    exact dq, by show 1 < 1000; decide, rfl⟩
  -- what the net answers
  obtain ⟨rs', c1, ans, c3⟩ : ∃ rs' : List RT, (rs' = rs ∨ ∃ r, RGood n r ∧ rs' = rs ++ [r]) ∧
      tstE (binE neD (mltE (gOf (callGX 5 mL_law_answer ([.inl 0, .inr (cn (.str "add")), .inr (vr 10), .inr (cn (.int 0)), .inr (vr 7)] ++ csA [])))) (pE (vr 8))) E1 = some (false, E1.set 0 (.lent (netO n rs'))) ∧
      ((∃ t, d3 = refD t ∧ rs' = rs) ∨ (d3 = TD ∧ ∃ r : RT, rs' = rs ++ [r] ∧ gtup w a' b' s = r.tup)) := by
    have fin : ∀ rs' : List RT, mL_law_answer [netO n rs, .sh (.str "add"), .sh (gobj w a' b' s), .sh (.int 0), .sh s] = some (.ok (.sh d3) [netO n rs', .sh (.str "add"), .sh (gobj w a' b' s), .sh (.int 0), .sh s]) → eqB d3 d3 = some true → tstE (binE neD (mltE (gOf (callGX 5 mL_law_answer ([.inl 0, .inr (cn (.str "add")), .inr (vr 10), .inr (cn (.int 0)), .inr (vr 7)] ++ csA [])))) (pE (vr 8))) E1 = some (false, E1.set 0 (.lent (netO n rs'))) := fun rs' h1 h2 => by
      refine tstE_of (binE_of (callA (e := E1) (rs := rs) rfl (cn_of _ _) rfl (cn_of _ _) rfl h1) (pE_of (d := d3) rfl) ?_)
      simp only [neD, h2, Option.map_some]
      rfl
    cases cs with
    | point ha hb h => exact ⟨rs, .inl rfl, fin rs (answer_add_ex .point (add_point n rs w a' b' s ha hb h)) (refD_self .point), .inl ⟨_, rfl, rfl⟩⟩
    | size ha hb h => exact ⟨rs, .inl rfl, fin rs (answer_add_ex .size (add_size n rs w a' b' s ha hb h.no)) (refD_self .size), .inl ⟨_, rfl, rfl⟩⟩
    | @good a b q ha hb h =>
      let r : RT := ⟨w, a, b, q⟩
      have rg : r.Good n := ⟨ha, hb, h.pos⟩
      exact ⟨rs ++ [r], .inr ⟨r, ⟨rg, h⟩, rfl⟩, fin (rs ++ [r]) (answer_add_ok (r := r) rg hl) (toldD_self (.inr ⟨_, rfl⟩)), .inr ⟨rfl, r, rfl, rfl⟩⟩
  refine ⟨rs', x, c1, hx, ?_⟩
  let N' : OT := .lent (netO n rs')
  let H' : OT := .lent (.lst (os ++ [.sh x]))
  let G (y1 y3 : OT) : List OT := [N', y1, C, y3, W, .sh a', .sh b', .sh s, .sh d3, F, M]
  have s11 : appP 3 nmP (tupD (consA (mlt (lstD (consA (vr 10) nilA))) (consA (mlt (lstD (consA (tupD (consA (vr 4) (consA (vr 5) (consA (vr 6) (consA (vr 7) nilA))))) nilA))) nilA))) (G R H) = some (.nx (G R H')) := by
    have v : tupD (consA (mlt (lstD (consA (vr 10) nilA))) (consA (mlt (lstD (consA (tupD (consA (vr 4) (consA (vr 5) (consA (vr 6) (consA (vr 7) nilA))))) nilA))) nilA)) (G R H) = some x := rfl
    have p : plO 3 nmP (G R H) = some (.lst os) := by simp [G, H]
    have u : putO 3 nmP (.lst (os ++ [.sh x])) (G R H) = some (G R H') := by simp [G, H, H']
    simp only [appP, p, v]
    rw [if_pos (by omega), u]
  have s12 : ifS (tst (DL.bin eqD (DL.bin ixD (vr 8) (cn (.int 0))) (cn (.str "told")))) (appP 1 nmP (tupD (consA (vr 4) (consA (vr 5) (consA (vr 6) (consA (vr 7) nilA)))))) skipO (G R H') = some (.nx (G (.lent (rsL rs')) H')) := by
    rcases c3 with ⟨t, ht, rfl⟩ | ⟨ht, r, rfl, hr⟩
    · have v : DL.bin ixD (vr 8) (cn (.int 0)) (G R H') = some (.str "refused") := by
        refine bin_of (fa := vr 8) (x := refD t) ?_ (cn_of _ _) (atI_0 _ _)
        rw [← ht]
        rfl
      exact if_f (tst_of (b := false) (bin_of v (cn_of _ _) (by simp))) rfl
    · have v : DL.bin ixD (vr 8) (cn (.int 0)) (G R H') = some (.str "told") := by
        refine bin_of (fa := vr 8) (x := TD) ?_ (cn_of _ _) (atI_0 _ _)
        rw [← ht]
        rfl
      refine if_t (tst_of (b := true) (bin_of v (cn_of _ _) (by simp))) ?_
      have v2 : tupD (consA (vr 4) (consA (vr 5) (consA (vr 6) (consA (vr 7) nilA)))) (G R H') = some r.tup := by
        rw [← hr]
        rfl
      have p : plO 1 nmP (G R H') = some (rsL rs) := by simp [G, R]
      have u : putO 1 nmP (.lst ((rs.map fun r => .sh r.tup) ++ [.sh r.tup])) (G R H') = some (G (.lent (rsL (rs ++ [r]))) H') := by simp [G, R, rsL]
      simp only [appP, p, rsL, v2, List.length_map]
      rw [if_pos (by omega), u]
  refine fnL_rt (e := G (.lent (rsL rs')) H') rfl ?_ (by simp [G, N', H', netO, rsL, C])
  refine seq_nx s4 (seq_nx (s5 _ _ _ _ _) (seq_nx (s6 _ _ _ _) (seq_nx s7 (seq_nx s8 (seq_nx s9 (seq_nx st1 (seq_nx st2 (seq_nx st3 (seq_nx s10 ?_)))))))))
  exact seq_nx (e1 := G R H) (ifE_f ans rfl) (seq_nx s11 (seq_nx s12 (retS_of (cn_of _ _))))
/-! ### a row's size changed -/
def numsL (m : Nat) : List Dat := [.int (m : Int), .int (-1), .bl true, .non, .str "0", .tup [.int 0], .int 100000000000000000000, .lst [.int 0], .dct [] []]
theorem nums_ok (m : Nat) (hm : m < 1000) : ∀ (k : Nat) (d : Dat), (numsL m)[k]? = some d → NoK m d := fun k d h => by
  have h' := List.mem_of_getElem? h
  simp only [numsL, List.mem_cons, List.not_mem_nil, or_false] at h'
  rcases h' with rfl | rfl | rfl | rfl | rfl | rfl | rfl | rfl | rfl
  · exact .inl ⟨_, rfl, .inr (Int.le_refl _)⟩
  · exact .inl ⟨_, rfl, .inl (by decide)⟩
  · exact .inr (whole_bl _)
  · exact .inr whole_non
  · exact .inr (whole_str _)
  · exact .inr (whole_tup _)
  · exact .inl ⟨_, rfl, .inr (by omega)⟩
  · exact .inr (whole_lst _)
  · exact .inr (whole_dct _ _)
theorem rs_at' {s a : Nat} {rs : List RT} {k : Nat} {r : RT} {e : List OT} (h : e[s]? = some (.lent (.lst (rs.map fun r => .sh r.tup)))) (ha : e[a]? = some (.sh (.int (k : Int)))) (hk : rs[k]? = some r) : rdP s (ixP nmP (vr a)) e = some r.tup := by
  have hl := (List.getElem?_eq_some_iff.mp hk).1
  simp [h, ha, ixN_nn hl, hk]
theorem change_eq (n : Nat) (rs : List RT) (hg : ∀ r ∈ rs, RGood n r) (hl : rs.length < 1000) (c : Int) : ∃ rs' : List RT, rs'.length = rs.length ∧ (∀ r ∈ rs', RGood n r) ∧
    mL_law_change [netO n rs, rsL rs, .sh (.int c)] = some (.ok (.sh (.bl true)) [netO n rs', rsL rs', .sh (.int c)]) := by
  let N : OT := .lent (netO n rs)
  let R : OT := .lent (rsL rs)
  let C : OT := .sh (.int c)
  let E (x3 x4 x5 x6 x7 x8 : OT) : List OT := [N, R, C, x3, x4, x5, x6, x7, x8]
  have mix : ∀ (e : List OT) (p m r : Int), vr 2 e = some (.int c) → m_law_mix [.int c, .int p, .int m] = some (.sh (.int r)) → mlt (callO 3 m_law_mix (consA (vr 2) (consA (cn (.int p)) (consA (cn (.int m)) nilA)))) e = some (.int r) := fun e p m r h1 h2 => mlt_shd (call_of (cons_of h1 (cons_of (cn_of _ _) (cons_of (cn_of _ _) (nil_of _)))) rfl h2)
  have ln : ∀ x3 x4 x5 x6 x7 x8, scO (cal lenD (consA (brP 1 nmP) nilA)) (E x3 x4 x5 x6 x7 x8) = some (.int (rs.length : Int)) := fun x3 x4 x5 x6 x7 x8 => by
    have p : brP 1 nmP (E x3 x4 x5 x6 x7 x8) = some (.lst (rs.map RT.tup)) := by simp [E, R, okL_map, datL_map]
    simp only [scO, cal, consA, p, nilA, len_lst, List.length_map, Dat.sc, if_true]
  obtain ⟨k, k1, k2, k3⟩ := mix2_eq c 53668 ((rs.length : Int) + 1) (by decide) (by decide) (by omega)
  obtain ⟨k, rfl⟩ := Int.eq_ofNat_of_zero_le k1
  let K : OT := .sh (.int (k : Int))
  have s3 : setS 3 (mlt (callO 3 m_law_mix (consA (vr 2) (consA (cn (.int 53668)) (consA (DL.bin sumD (scO (cal lenD (consA (brP 1 nmP) nilA))) (cn (.int 1))) nilA))))) (E .un .un .un .un .un .un) = some (.nx (E K .un .un .un .un .un)) :=
    set_of (mlt_shd (call_of (cons_of (f := vr 2) rfl (cons_of (cn_of _ _) (cons_of (bin_of (ln _ _ _ _ _ _) (cn_of _ _) (sum_int _ _)) (nil_of _)))) rfl k3)) rfl
  have ck : tst (DL.bin eqD (vr 3) (scO (cal lenD (consA (brP 1 nmP) nilA)))) (E K .un .un .un .un .un) = some (decide ((k : Int) = rs.length)) := tst_of (bin_of (fa := vr 3) (x := .int (k : Int)) rfl (ln _ _ _ _ _ _) (eq_int _ _))
  by_cases hk : (k : Int) = rs.length
  · rw [decide_eq_true hk] at ck
    obtain ⟨i, i1, i2, i3⟩ := mix2_eq c 52774 9 (by decide) (by decide) (by decide)
    obtain ⟨i, rfl⟩ := Int.eq_ofNat_of_zero_le i1
    have il : i < (numsL rs.length).length := by
      show i < 9
      omega
    obtain ⟨d, hd⟩ : ∃ d, (numsL rs.length)[i]? = some d := ⟨_, List.getElem?_eq_getElem il⟩
    have bd := nums_ok rs.length hl i d hd
    have p20 : ∀ e, DL.bin powD (cn (.int 10)) (cn (.int 20)) e = some (.int 100000000000000000000) := fun e => by simp [powD]
    have t3 : setS 3 (DL.bin ixD (mlt (lstD (consA (scO (cal lenD (consA (brP 1 nmP) nilA))) (consA (negD (cn (.int 1))) (consA (cn (.bl true)) (consA (cn .non) (consA (cn (.str "0")) (consA (tupD (consA (cn (.int 0)) nilA)) (consA (DL.bin powD (cn (.int 10)) (cn (.int 20))) (consA (mlt (lstD (consA (cn (.int 0)) nilA))) (consA (cn (.dct [] [])) nilA))))))))))) (mlt (callO 3 m_law_mix (consA (vr 2) (consA (cn (.int 52774)) (consA (cn (.int 9)) nilA)))))) (E K .un .un .un .un .un) = some (.nx (E (.sh d) .un .un .un .un .un)) := by
      refine set_of (bin_of (x := .lst (numsL rs.length)) (mlt_lst (lst_of (ds := numsL rs.length) ?_ (Nat.le_of_ble_eq_true rfl))) (mix _ _ _ _ rfl i3) ?_) rfl
      · exact cons_of (ln _ _ _ _ _ _) (cons_of rfl (cons_of rfl (cons_of rfl (cons_of rfl (cons_of rfl (cons_of (p20 _) (cons_of rfl (cons_of rfl (nil_of _)))))))))
      · rw [ix_lst, atI_nn, hd]
    obtain ⟨j, j1, j2, j3⟩ := mix2_eq c 12211 2 (by decide) (by decide) (by decide)
    obtain ⟨z, t4⟩ : ∃ z : Dat, setS 4 (DL.bin ixD (mlt (lstD (consA (tupD (consA (cn (.int 1)) (consA (cn (.int 1)) nilA))) (consA (tupD (consA (cn (.int 2)) (consA (cn (.int 2)) nilA))) nilA)))) (mlt (callO 3 m_law_mix (consA (vr 2) (consA (cn (.int 12211)) (consA (cn (.int 2)) nilA)))))) (E (.sh d) .un .un .un .un .un) = some (.nx (E (.sh d) (.sh z) .un .un .un .un)) := by
      have l : mlt (lstD (consA (tupD (consA (cn (.int 1)) (consA (cn (.int 1)) nilA))) (consA (tupD (consA (cn (.int 2)) (consA (cn (.int 2)) nilA))) nilA))) (E (.sh d) .un .un .un .un .un) = some (.lst [.tup [.int 1, .int 1], .tup [.int 2, .int 2]]) := mlt_lst (ds := [.tup [.int 1, .int 1], .tup [.int 2, .int 2]]) rfl
      have : j = 0 ∨ j = 1 := by omega
      rcases this with rfl | rfl
      · exact ⟨_, set_of (bin_of l (mix _ _ _ _ rfl j3) (atI_0 _ _)) rfl⟩
      · exact ⟨_, set_of (bin_of l (mix _ _ _ _ rfl j3) (atI_1 _ _ _)) rfl⟩
    refine ⟨rs, rfl, hg, ?_⟩
    let F : List OT := E (.sh d) (.sh z) .un .un .un .un
    refine fnL_rt (e := F.set 0 (.lent (netO n rs))) rfl ?_ (by simp [F, E, N, R, C, netO, rsL])
    refine seq_nx s3 (seq_rt (if_t ck (seq_nx t3 (seq_nx t4 (retG_of (shG_of (binE_of (callA (e := F) (rs := rs) rfl (cn_of _ _) (cn_of _ _) rfl rfl (answer_change_ex .row (change_row n rs d z bd))) (pE_of (d := refD "row") rfl) ?_)))))))
    simp only [eqD, refD_self .row, Option.map_some]
  · rw [decide_eq_false hk] at ck
    have kl : k < rs.length := by omega
    obtain ⟨r, hr⟩ : ∃ r, rs[k]? = some r := ⟨_, List.getElem?_eq_getElem kl⟩
    have rm : r ∈ rs := List.mem_of_getElem? hr
    have rg := hg r rm
    let W : OT := .sh (.str r.w.s)
    let A : OT := .sh (.int (r.a : Int))
    let B : OT := .sh (.int (r.b : Int))
    let Q : OT := .sh (enc r.q)
    have s5 : asgS (rdP 1 (ixP nmP (vr 3))) (toTup 4 (toCons (toN 5) (toCons (toN 6) (toCons (toN 7) (toCons (toN 8) toNil))))) (E K .un .un .un .un .un) = some (.nx (E K .un W A B Q)) := by
      have rd := rs_at' (s := 1) (a := 3) (e := E K .un .un .un .un .un) rfl rfl hr
      simp only [asgS, rd]
      rfl
    obtain ⟨q, hq, q3⟩ := size_eq c r.w
    let Z : OT := .sh (enc q)
    have s4 : setS 4 (mlt (callO 2 m_law_size (consA (vr 2) (consA (vr 5) nilA)))) (E K .un W A B Q) = some (.nx (E K Z W A B Q)) :=
      set_of (mlt_shd (call_of (cons_of (f := vr 2) rfl (cons_of (f := vr 5) rfl (nil_of _))) rfl q3)) rfl
    let F : List OT := E K Z W A B Q
    obtain ⟨j, j1, j2, j3⟩ := mix2_eq c 3791 3 (by decide) (by decide) (by decide)
    have cj : tst (DL.bin eqD (mlt (callO 3 m_law_mix (consA (vr 2) (consA (cn (.int 3791)) (consA (cn (.int 3)) nilA))))) (cn (.int 1))) F = some (decide (j = 1)) := tst_of (bin_of (mix _ _ _ _ rfl j3) (cn_of _ _) (eq_int _ _))
    by_cases hj : j = 1
    · rw [decide_eq_true hj] at cj
      obtain ⟨o, s, o1, o2, o3, o4⟩ := bad_size_eq c r.w q hq
      have zs : mlt (callO 3 m_law_bad_size (consA (vr 2) (consA (vr 5) (consA (vr 4) nilA)))) F = some s := mlt_of (call_of (cons_of (f := vr 2) rfl (cons_of (f := vr 5) rfl (cons_of (f := vr 4) rfl (nil_of _)))) rfl o4) o1 o2
      refine ⟨rs, rfl, hg, ?_⟩
      refine fnL_rt (e := F.set 0 (.lent (netO n rs))) rfl ?_ (by simp [F, E, N, R, C, netO, rsL])
      refine seq_nx s3 (seq_nx (if_f ck rfl) (seq_nx s5 (seq_nx s4 (seq_rt (if_t cj (retG_of (shG_of (binE_of (callA (e := F) (rs := rs) rfl (cn_of _ _) (cn_of _ _) rfl zs (answer_change_ex .size (change_size n rs k r s hr o3.no))) (pE_of (d := refD "size") rfl) ?_))))))))
      simp only [eqD, refD_self .size, Option.map_some]
    · rw [decide_eq_false hj] at cj
      let r' : RT := { r with q := q }
      let rs' : List RT := rs.set k r'
      refine ⟨rs', by simp [rs'], fun x hx => ?_, ?_⟩
      · rcases List.mem_or_eq_of_mem_set hx with h | rfl
        · exact hg x h
        · exact ⟨⟨rg.1.a, rg.1.b, hq.pos⟩, hq⟩
      let F1 : List OT := F.set 0 (.lent (netO n rs'))
      have an : tstE (binE neD (mltE (gOf (callGX 5 mL_law_answer ([.inl 0, .inr (cn (.str "change")), .inr (cn .non), .inr (vr 3), .inr (vr 4)] ++ csA [])))) (pE (tupD (consA (cn (.str "told")) (consA (cn .non) (consA (cn (.bl true)) (consA (cn (.bl false)) nilA))))))) F = some (false, F1) := by
        refine tstE_of (binE_of (callA (e := F) (rs := rs) rfl (cn_of _ _) (cn_of _ _) rfl rfl (answer_change_ok hr hq.pos)) (pE_of (d := toldD .non) rfl) ?_)
        simp only [neD, toldD_self (.inl rfl), Option.map_some]
        rfl
      let F2 : List OT := [.lent (netO n rs'), .lent (rsL rs'), C, K, Z, W, A, B, Q]
      have st : stiP 1 nmP (vr 3) (tupD (consA (vr 5) (consA (vr 6) (consA (vr 7) (consA (vr 4) nilA))))) F1 = some (.nx F2) := by
        have v : tupD (consA (vr 5) (consA (vr 6) (consA (vr 7) (consA (vr 4) nilA)))) F1 = some r'.tup := rfl
        have p : plO 1 nmP F1 = some (rsL rs) := by simp [F1, F, E, R]
        have v1 : vr 3 F1 = some (.int (k : Int)) := rfl
        have ix : L2.ixN rs.length (k : Int) = some k := ixN_nn kl
        have u : putO 1 nmP (.lst ((rs.map fun r => .sh r.tup).set k (.sh r'.tup))) F1 = some F2 := by
          simp [F1, F2, F, E, R, rsL, rs', List.map_set]
        simp only [stiP, v, p, rsL, v1, List.length_map, ix, u]
      refine fnL_rt (e := F2) rfl ?_ (by simp [F2, C, netO, rsL])
      exact seq_nx s3 (seq_nx (if_f ck rfl) (seq_nx s5 (seq_nx s4 (seq_nx (if_f cj rfl) (seq_nx (e1 := F1) (ifE_f an rfl) (seq_nx st (retS_of (cn_of _ _))))))))
/-! ### what is looked at -/
abbrev netD (n : Nat) (rs : List RT) : Dat := .obj "Net" ["sizes", "kept"] [.int (n : Int), .lst (rs.map RT.tup)]
theorem netO_dat (n : Nat) (rs : List RT) : (netO n rs).ok = true ∧ (netO n rs).dat = netD n rs := by
  constructor <;> simp [netO, okL_map, datL_map, OT.ok, OT.dat]
theorem v_many (n : Nat) (rs : List RT) (e : List OT) {g : List OT → Option Dat} (h : g e = some (netD n rs)) : methSO 1 "many" mt_many (.inr g) (csA []) e = some (.sh (.int (n : Int))) := by
  have a1 : argsO [.inr g] e = some [.sh (netD n rs)] := by simp [h]
  rw [methSO_of (f := mL_Net_many) a1 (cls_sh _ _ _) (by simp) (by simp [mt_many])]
  refine callSO_of (os' := [.sh _]) a1 rfl rfl (fnL_rt (e := [.sh (netD n rs)]) rfl (retS_of ?_) (by rfl))
  simp [tabN, OT.core, OT.mark]
theorem v_told (n : Nat) (rs : List RT) (e : List OT) {g : List OT → Option Dat} (h : g e = some (netD n rs)) : methSO 1 "told" mt_told (.inr g) (csA []) e = some (.lst (rs.map fun r => .sh r.tup)) := by
  have a1 : argsO [.inr g] e = some [.sh (netD n rs)] := by simp [h]
  rw [methSO_of (f := mL_Net_told) a1 (cls_sh _ _ _) (by simp) (by simp [mt_told])]
  refine callSO_of (os' := [.sh (netD n rs)]) a1 rfl rfl (fnL_rt (e := [.sh (netD n rs)]) rfl (retO_of ?_) ?_)
  · simp [tabN, OT.core, OT.mark]
  · simp [okL_map]
theorem v_count (n : Nat) (rs : List RT) (e : List OT) {g : List OT → Option Dat} (h : g e = some (netD n rs)) : methSO 1 "count" mt_count (.inr g) (csA []) e = some (.sh (.int (rs.length : Int))) := by
  have a1 : argsO [.inr g] e = some [.sh (netD n rs)] := by simp [h]
  rw [methSO_of (f := mL_Net_count) a1 (cls_sh _ _ _) (by simp) (by simp [mt_count])]
  refine callSO_of (os' := [.sh (netD n rs)]) a1 rfl rfl (fnL_rt (e := [.sh (netD n rs)]) rfl (retS_of ?_) (by rfl))
  have p : brP 0 (fldP "kept" tabF_kept nmP) [.sh (netD n rs)] = some (.lst (rs.map RT.tup)) := by simp [tabN]
  show scO (cal lenD (consA (brP 0 (fldP "kept" tabF_kept nmP)) nilA)) [.sh (netD n rs)] = _
  simp only [scO, cal, consA, p, nilA, len_lst, List.length_map, Dat.sc, if_true]
theorem row_of_eq (r : RT) : m_row_of [r.tup] = some r.own := by
  have h := fun c hc => Row_init_eq c hc (.int (r.a : Int)) (.int (r.b : Int)) (enc r.q)
  have mk : ∀ c (hc : c = "Piece" ∨ c = "Push" ∨ c = "Hold"), makeSO c 4 mL_Row_init ([.inr (vr 2), .inr (vr 3), .inr (vr 4)] ++ csA []) [.sh r.tup, .sh (.str r.w.s), .sh (.int (r.a : Int)), .sh (.int (r.b : Int)), .sh (enc r.q)] = some (.obj c ["start", "goal", "size"] [.sh (.int (r.a : Int)), .sh (.int (r.b : Int)), .sh (enc r.q)]) := fun c hc =>
    makeSO_of (os := [.sh (.int (r.a : Int)), .sh (.int (r.b : Int)), .sh (enc r.q)]) rfl rfl rfl (h c hc) (by simp [OT.ok])
  first | rw [m_row_of, fn_len (by rfl)] | rw [m_row_of, mX_row_of, okX_fn, fn_len (by rfl)]
  have m1 := mk "Piece" (by simp)
  have m2 := mk "Push" (by simp)
  have m3 := mk "Hold" (by simp)
  rcases r with ⟨w, a, b, q⟩
  cases w
  · simp only [RT.tup, Wd.s] at m1 m2 m3 ⊢
    simp [g_row_of, -makeSO] at m1 ⊢
    simp [m1, RT.own, Wd.c]
  · have n1 : ¬ (("push" : Str) = "piece") := by decide +kernel
    simp only [RT.tup, Wd.s] at m1 m2 m3 ⊢
    simp [g_row_of] at m2 ⊢
    simp [m2, n1, RT.own, Wd.c]
  · have n1 : ¬ (("hold" : Str) = "piece") := by decide +kernel
    have n2 : ¬ (("hold" : Str) = "push") := by decide +kernel
    simp only [RT.tup, Wd.s] at m1 m2 m3 ⊢
    simp [g_row_of] at m3 ⊢
    simp [m3, n1, n2, RT.own, Wd.c]
abbrev obL (rs : List RT) : OT := .lst (rs.map fun r => .sh r.obj)
theorem v_rows (n : Nat) (rs : List RT) (hl : rs.length < 1000) {g : List OT → Option Dat} {e : List OT} (h : g e = some (netD n rs)) : methSO 1 "rows" mt_rows (.inr g) (csA []) e = some (obL rs) := by
  have a1 : argsO [.inr g] e = some [.sh (netD n rs)] := by simp [h]
  rw [methSO_of (f := mL_Net_rows) a1 (cls_sh _ _ _) (by simp) (by simp [mt_rows])]
  let E : List OT := [.sh (netD n rs), .un]
  refine callSO_of (os' := [.sh (netD n rs)]) a1 rfl rfl (fnL_rt (e := E) rfl (retG_of ?_) rfl)
  have p : plO 0 (fldP "kept" tabF_kept nmP) E = some (.sh (.lst (rs.map RT.tup))) := by simp [E, tabN]
  have s : plcI 0 (fldP "kept" tabF_kept nmP) E = some (rs.map RT.tup, E) := by simp only [plcI, p]
  have := lcE_of (own := [1]) (st := toN 1) (elt := mlt (callO 1 m_row_of (consA (vr 1) nilA))) (c := RT.tup) RT.obj s (by omega) (fun r _ => ⟨[.sh (netD n rs), .sh r.tup], rfl, mlt_of (call_of (cons_of (f := vr 1) rfl (nil_of _)) rfl (row_of_eq r)) (r.own_ok) (r.own_dat)⟩)
  rw [List.map_map] at this
  exact this
theorem g_rows (n : Nat) (rs : List RT) (hl : rs.length < 1000) : mL_Net_rows [netO n rs] = some (.ok (obL rs) [netO n rs]) := by
  let E : List OT := [.lent (netO n rs), .un]
  refine fnL_rt (e := E) rfl (retG_of ?_) (by simp [E, netO])
  have p := plO_kept (s := 0) (n := n) (rs := rs) (e := E) (.inl rfl)
  have s : plcI 0 (fldP "kept" tabF_kept nmP) E = some (rs.map RT.tup, E) := by simp only [plcI, p, shs_mapf]
  have := lcE_of (own := [1]) (st := toN 1) (elt := mlt (callO 1 m_row_of (consA (vr 1) nilA))) (c := RT.tup) RT.obj s (by omega) (fun r _ => ⟨[.lent (netO n rs), .sh r.tup], rfl, mlt_of (call_of (cons_of (f := vr 1) rfl (nil_of _)) rfl (row_of_eq r)) (r.own_ok) (r.own_dat)⟩)
  rw [List.map_map] at this
  exact this
theorem g_told (n : Nat) (rs : List RT) : mL_Net_told [netO n rs] = some (.ok (rsL rs) [netO n rs]) := by
  refine fnL_rt (e := [.lent (netO n rs)]) rfl (retO_of ?_) (by simp [netO])
  have p := plO_kept (s := 0) (n := n) (rs := rs) (e := [.lent (netO n rs)]) (.inl rfl)
  show cpyP 0 (fldP "kept" tabF_kept nmP) [.lent (netO n rs)] = _
  simp only [cpyP, p, shs_mapf]
  simp [rsL]
theorem RT.plain (r : RT) : Plain r.tup 2 := .tup fun d h => by
  simp at h
  rcases h with rfl | rfl | rfl | rfl
  · exact (plain_str (by cases r.w <;> decide +kernel)).mono (by decide)
  · exact (Plain.int _).mono (by decide)
  · exact (Plain.int _).mono (by decide)
  · exact plain_enc _
theorem plain_rs (rs : List RT) : Plain (.lst (rs.map RT.tup)) 3 := .lst fun d h => by
  obtain ⟨r, _, rfl⟩ := List.mem_map.mp h
  exact r.plain
theorem rs_self (rs : List RT) : eqB (.lst (rs.map RT.tup)) (.lst (rs.map RT.tup)) = some true := eqB_self (plain_rs rs) (by decide)
theorem objects_eq (n : Nat) (rs : List RT) (hl : rs.length < 1000) : m_law_objects [netD n rs, .lst (rs.map RT.tup)] = some (.sh (.bl true)) := by
  let D : OT := .sh (netD n rs)
  let L : OT := .sh (.lst (rs.map RT.tup))
  let E (x2 x3 x4 : OT) : List OT := [D, L, x2, x3, x4]
  let O : OT := obL rs
  have s2 : setO 2 (methSO 1 "rows" mt_rows (.inr (vr 0)) (csA [])) (E .un .un .un) = some (.nx (E O .un .un)) := setO_of (v_rows n rs hl (g := vr 0) rfl) (show 2 < 5 by decide) rfl
  have b2 : ∀ x3 x4, brP 2 nmP (E O x3 x4) = some (.lst (rs.map RT.obj)) := fun x3 x4 => by simp [E, O, okL_map, datL_map]
  have c1 : orE (pT (notB (tst (isiD "list" (brP 2 nmP))))) (tstE (binE neD (mltE (lcE (plcI 2 nmP) [4] (toN 4) yesB (mlt (methSO 1 "told" mt_told (.inr (vr 4)) (csA []))))) (pE (vr 1)))) (E O .un .un) = some (false, E O .un .un) := by
    refine orE_f (pT_of (ntst_of (b := true) ?_)) (tstE_of (binE_of (x := .lst (rs.map RT.tup)) (y := .lst (rs.map RT.tup)) (mltE_of (o := .lst ((rs.map RT.tup).map .sh)) ?_ (by rw [ok_lstU]; exact oks_sh _) (by rw [dat_lstU, dats_sh])) (pE_of rfl) ?_))
    · rw [isi_eq, b2]
      simp
    · have p : plO 2 nmP (E O .un .un) = some O := by simp [E, O]
      have s : plcI 2 nmP (E O .un .un) = some (rs.map RT.obj, E O .un .un) := by simp only [plcI, p, O, shs_mapf]
      exact lcE_of (own := [4]) (st := toN 4) (elt := mlt (methSO 1 "told" mt_told (.inr (vr 4)) (csA []))) (c := RT.obj) RT.tup s (by omega) (fun r _ => ⟨E O .un (.sh r.obj), rfl, mlt_shd (gtold r.w (.int (r.a : Int)) (.int (r.b : Int)) (enc r.q) (g := vr 4) rfl)⟩)
    · simp only [neD, rs_self, Option.map_some]
      rfl
  have body : ∀ (k : Nat) (x4 : OT), k < rs.length → ∃ y4, (seqO (setS 4 (rdP 2 (ixP nmP (vr 3))))
    (ifS (orB (tst (DL.bin neD (isaO tabE_Piece tabO_Piece (vr 4)) (DL.bin eqD (DL.bin ixD (DL.bin ixD (vr 1) (vr 3)) (cn (.int 0))) (cn (.str "piece"))))) (tst (DL.bin neD (isaO tabE_Hold tabO_Hold (vr 4)) (DL.bin eqD (DL.bin ixD (DL.bin ixD (vr 1) (vr 3)) (cn (.int 0))) (cn (.str "hold")))))) (retS (cn (.bl false))) skipO)) (E O (.sh (.int (k : Int))) x4) = some (.nx (E O (.sh (.int (k : Int))) y4)) := fun k x4 hk => by
    obtain ⟨r, hr⟩ : ∃ r, rs[k]? = some r := ⟨_, List.getElem?_eq_getElem hk⟩
    let F : List OT := E O (.sh (.int (k : Int))) (.sh r.obj)
    have rd : rdP 2 (ixP nmP (vr 3)) (E O (.sh (.int (k : Int))) x4) = some r.obj := by
      simp [E, O, ixN_nn hk, hr]
    refine ⟨.sh r.obj, seq_nx (e1 := F) (set_of rd rfl) (if_f ?_ rfl)⟩
    have w0 : DL.bin ixD (DL.bin ixD (vr 1) (vr 3)) (cn (.int 0)) F = some (.str r.w.s) := by
      refine bin_of (x := r.tup) (bin_of (fa := vr 1) (fb := vr 3) (x := .lst (rs.map RT.tup)) (y := .int (k : Int)) rfl rfl ?_) (cn_of _ _) (atI_0 _ _)
      rw [ix_lst, atI_nn, List.getElem?_map, hr]
      rfl
    have isa : ∀ (tE tO : String → Option Bool) (b : Bool), tO r.w.c = some b → isaO tE tO (vr 4) F = some (.bl b) := fun tE tO b h => by
      have v : vr 4 F = some (.obj r.w.c ["start", "goal", "size"] [.int (r.a : Int), .int (r.b : Int), enc r.q]) := rfl
      simp only [isaO, v, isaD, h]
    have eqw : ∀ u : Wd, DL.bin eqD (DL.bin ixD (DL.bin ixD (vr 1) (vr 3)) (cn (.int 0))) (cn (.str u.s)) F = some (.bl (decide (r.w = u))) := fun u => by
      refine bin_of w0 (cn_of _ _) ?_
      simp only [eqD, eqB_str, Option.map_some]
      congr 2
      exact decide_eq_decide.mpr wd_s_inj
    have both : ∀ (tE tO : String → Option Bool) (u : Wd), tO r.w.c = some (decide (r.w = u)) → tst (DL.bin neD (isaO tE tO (vr 4)) (DL.bin eqD (DL.bin ixD (DL.bin ixD (vr 1) (vr 3)) (cn (.int 0))) (cn (.str u.s)))) F = some false := fun tE tO u h => by
      refine tst_of (bin_of (isa tE tO _ h) (eqw u) ?_)
      simp only [neD, eqB_bl, decide_true, Option.map_some]
      rfl
    have k1 := both tabE_Piece tabO_Piece .piece (by cases r.w <;> rfl)
    have k2 := both tabE_Hold tabO_Hold .hold (by cases r.w <;> rfl)
    simp only [Wd.s] at k1 k2
    simp only [orB, k1, k2]
  have loop : ∀ (ks : List Nat) (x3 x4 : OT), (∀ k ∈ ks, k < rs.length) → ∃ y3 y4, loopS (toN 3) (seqO (setS 4 (rdP 2 (ixP nmP (vr 3))))
    (ifS (orB (tst (DL.bin neD (isaO tabE_Piece tabO_Piece (vr 4)) (DL.bin eqD (DL.bin ixD (DL.bin ixD (vr 1) (vr 3)) (cn (.int 0))) (cn (.str "piece"))))) (tst (DL.bin neD (isaO tabE_Hold tabO_Hold (vr 4)) (DL.bin eqD (DL.bin ixD (DL.bin ixD (vr 1) (vr 3)) (cn (.int 0))) (cn (.str "hold")))))) (retS (cn (.bl false))) skipO)) (ks.map fun (k : Nat) => Dat.int (k : Int)) (E O x3 x4) = some (.nx (E O y3 y4)) := by
    intro ks
    induction ks with
    | nil => intro x3 x4 _; exact ⟨x3, x4, rfl⟩
    | cons k ks ih =>
      intro x3 x4 hk
      obtain ⟨y4, b⟩ := body k x4 (hk k List.mem_cons_self)
      obtain ⟨z3, z4, h⟩ := ih (.sh (.int (k : Int))) y4 fun k h => hk k (List.mem_cons_of_mem _ h)
      refine ⟨z3, z4, ?_⟩
      rw [List.map_cons, loop_cons (e1 := E O (.sh (.int (k : Int))) x4) rfl, b]
      exact h
  obtain ⟨y3, y4, lp⟩ := loop (List.range rs.length) .un .un fun k h => List.mem_range.mp h
  have src : consA (cal lenD (consA (vr 1) nilA)) nilA (E O .un .un) = some [.int (rs.length : Int)] := by simp [E, L]
  refine fn_rt (e := [D, L, .lst ((rs.map fun r => .sh r.obj) ++ [.sh .non]), y3, y4]) rfl ?_
  refine seq_nx s2 (seq_nx (e1 := E O .un .un) (ifE_f c1 rfl) (seq_nx (e1 := E O y3 y4) (for_of (rng1_eq (n := rs.length) src (by omega)) lp) ?_))
  exact seq_nx (e1 := [D, L, .lst ((rs.map fun r => .sh r.obj) ++ [.sh .non]), y3, y4]) (app_of (xs := rs.map fun r => .sh r.obj) rfl (cn_of _ _) (by simp; omega) rfl) (retS_of (cn_of _ _))
theorem look_eq (n : Nat) (rs : List RT) (hl : rs.length < 1000) (f : Int) : m_law_look [netD n rs, .int (n : Int), .lst (rs.map RT.tup), .int f] = some (.sh (.bl true)) := by
  let D : OT := .sh (netD n rs)
  let M : OT := .sh (.int (n : Int))
  let L : OT := .sh (.lst (rs.map RT.tup))
  let F : OT := .sh (.int f)
  let E (x4 : OT) : List OT := [D, M, L, F, x4]
  have body : ∀ w : Int, (seqO (ifS (andB (tst (DL.bin eqD (vr 4) (cn (.int 0)))) (orB (tst (DL.bin neD (mlt (methSO 1 "many" mt_many (.inr (vr 0)) (csA []))) (vr 1))) (tst (DL.bin neD (mlt (methSO 1 "count" mt_count (.inr (vr 0)) (csA []))) (cal lenD (consA (vr 2) nilA)))))) (retS (cn (.bl false))) skipO)
    (seqO (ifS (andB (tst (DL.bin eqD (vr 4) (cn (.int 1)))) (tst (DL.bin neD (mlt (methSO 1 "told" mt_told (.inr (vr 0)) (csA []))) (vr 2)))) (retS (cn (.bl false))) skipO)
    (ifS (andB (tst (DL.bin eqD (vr 4) (cn (.int 2)))) (notB (tst (mlt (callO 2 m_law_objects (consA (vr 0) (consA (vr 2) nilA))))))) (retS (cn (.bl false))) skipO))) (E (.sh (.int w))) = some (.nx (E (.sh (.int w)))) := fun w => by
    have cd : ∀ j : Int, tst (DL.bin eqD (vr 4) (cn (.int j))) (E (.sh (.int w))) = some (decide (w = j)) := fun j => tst_of (bin_of (fa := vr 4) (x := .int w) rfl (cn_of _ _) (eq_int _ _))
    have an : ∀ (j : Int) (c : List OT → Option Bool), c (E (.sh (.int w))) = some false → andB (tst (DL.bin eqD (vr 4) (cn (.int j)))) c (E (.sh (.int w))) = some false := fun j c h => by
      simp only [andB, cd, h]
      cases decide (w = j) <;> rfl
    have k1 : tst (DL.bin neD (mlt (methSO 1 "many" mt_many (.inr (vr 0)) (csA []))) (vr 1)) (E (.sh (.int w))) = some false :=
      tst_of (bin_of (y := .int (n : Int)) (mlt_shd (v_many n rs _ (g := vr 0) rfl)) rfl (by simp))
    have k2 : tst (DL.bin neD (mlt (methSO 1 "count" mt_count (.inr (vr 0)) (csA []))) (cal lenD (consA (vr 2) nilA))) (E (.sh (.int w))) = some false :=
      tst_of (bin_of (y := .int (rs.length : Int)) (mlt_shd (v_count n rs _ (g := vr 0) rfl)) (by simp [E, L]) (by simp))
    have k3 : tst (DL.bin neD (mlt (methSO 1 "told" mt_told (.inr (vr 0)) (csA []))) (vr 2)) (E (.sh (.int w))) = some false := by
      refine tst_of (bin_of (x := .lst (rs.map RT.tup)) (y := .lst (rs.map RT.tup)) (mlt_of (v_told n rs _ (g := vr 0) rfl) (by simp [okL_map]) (by simp [datL_map])) rfl ?_)
      simp only [neD, rs_self, Option.map_some]
      rfl
    have k4 : notB (tst (mlt (callO 2 m_law_objects (consA (vr 0) (consA (vr 2) nilA))))) (E (.sh (.int w))) = some false :=
      ntst_of (b := true) (mlt_shd (call_of (cons_of (f := vr 0) rfl (cons_of (f := vr 2) rfl (nil_of _))) rfl (objects_eq n rs hl)))
    refine seq_nx (if_f (an 0 _ ?_) rfl) (seq_nx (if_f (an 1 _ k3) rfl) (if_f (an 2 _ k4) rfl))
    simp only [orB, k1, k2]
  have md : ∀ (i : Int), modD (.int i) (.int 3) = some (.int (i.fmod 3)) := fun i => modD_ok (by decide)
  have src : lstOf (mlt (lstD (consA (DL.bin modD (vr 3) (cn (.int 3))) (consA (DL.bin modD (DL.bin sumD (vr 3) (cn (.int 1))) (cn (.int 3))) (consA (DL.bin modD (DL.bin sumD (vr 3) (cn (.int 2))) (cn (.int 3))) nilA))))) (E .un) = some [.int (f.fmod 3), .int ((f + 1).fmod 3), .int ((f + 2).fmod 3)] := by
    have h : mlt (lstD (consA (DL.bin modD (vr 3) (cn (.int 3))) (consA (DL.bin modD (DL.bin sumD (vr 3) (cn (.int 1))) (cn (.int 3))) (consA (DL.bin modD (DL.bin sumD (vr 3) (cn (.int 2))) (cn (.int 3))) nilA)))) (E .un) = some (.lst [.int (f.fmod 3), .int ((f + 1).fmod 3), .int ((f + 2).fmod 3)]) :=
      mlt_lst (lst_of (cons_of (bin_of (fa := vr 3) (x := .int f) rfl (cn_of _ _) (md _)) (cons_of (bin_of (bin_of (fa := vr 3) (x := .int f) rfl (cn_of _ _) (sum_int _ _)) (cn_of _ _) (md _)) (cons_of (bin_of (bin_of (fa := vr 3) (x := .int f) rfl (cn_of _ _) (sum_int _ _)) (cn_of _ _) (md _)) (nil_of _)))) (Nat.le_of_ble_eq_true rfl))
    simp only [lstOf, h]
  refine fn_rt (e := E (.sh (.int ((f + 2).fmod 3)))) rfl (seq_nx (e1 := E (.sh (.int ((f + 2).fmod 3)))) (for_of src ?_) (retS_of (cn_of _ _)))
  rw [loop_cons (e1 := E (.sh (.int (f.fmod 3)))) rfl, body]
  simp only
  rw [loop_cons (e1 := E (.sh (.int ((f + 1).fmod 3)))) rfl, body]
  simp only
  rw [loop_cons (e1 := E (.sh (.int ((f + 2).fmod 3)))) rfl, body]
  rfl
theorem cut_at {α : Type} (xs : List α) (k : Nat) : cutD xs (some (k : Int)) (some ((k : Int) + 1)) = xs[k]?.toList := by
  have e : (k : Int) + 1 = ((k + 1 : Nat) : Int) := by omega
  unfold cutD
  rw [e, HT.sIx_nat, HT.sIx_nat]
  by_cases h : k < xs.length
  · have h1 : min k xs.length = k := by omega
    have h2 : min (k + 1) xs.length = k + 1 := by omega
    have h3 : k + 1 - k = 1 := by omega
    rw [h1, h2, h3, List.drop_eq_getElem_cons h, List.getElem?_eq_getElem h]
    rfl
  · have h1 : min k xs.length = xs.length := by omega
    have h2 : min (k + 1) xs.length = xs.length := by omega
    have h3 : xs[k]? = none := List.getElem?_eq_none_iff.mpr (by omega)
    rw [h1, h2, h3]
    simp
theorem pick_eq (ns : List Int) (h63 : ns.length ≤ 63) (k : Nat) : ∃ c : Int, m_law_pick [.lst (ns.map .int), .int (k : Int)] = some (.sh (.int c)) := by
  let E : List OT := [.sh (.lst (ns.map .int)), .sh (.int (k : Int))]
  have z : mlt (lstD (consA (cn (.int 0)) nilA)) E = some (.lst [.int 0]) := mlt_lst (ds := [.int 0]) rfl
  have m : mlt (sliF (vr 0) (partS (vr 1)) (partS (DL.bin sumD (vr 1) (cn (.int 1))))) E = some (.lst (ns.map Dat.int)[k]?.toList) := by
    have hc := cut_at (ns.map Dat.int) k
    refine mlt_lst ?_
    show some (OT.lst ((cutD (ns.map Dat.int) (some (k : Int)) (some ((k : Int) + 1))).map .sh)) = _
    rw [hc]
  cases h : ns[k]? with
  | none =>
    have e : (ns.map Dat.int)[k]? = none := by rw [List.getElem?_map, h]; rfl
    rw [e] at m
    exact ⟨0, fn_rt (e := E) rfl (retS_of (bin_of (bin_of m z (r := some (.lst [.int 0])) rfl) (cn_of _ _) (atI_0 _ _)))⟩
  | some c =>
    have e : (ns.map Dat.int)[k]? = some (.int c) := by rw [List.getElem?_map, h]; rfl
    rw [e] at m
    exact ⟨c, fn_rt (e := E) rfl (retS_of (bin_of (bin_of m z (r := some (.lst [.int c, .int 0])) rfl) (cn_of _ _) (atI_0 _ _)))⟩
theorem nts_map {α : Type} (f : α → Dat) : ∀ xs : List α, OT.nts (xs.map fun x => .sh (f x)) = true
  | [] => rfl
  | x :: xs => by
    simp only [List.map_cons, OT.nts, OT.nt, Bool.true_and]
    exact nts_map f xs
theorem netO_nt (n : Nat) (rs : List RT) : (netO n rs).nt = true ∧ (netO n rs).dat = netD n rs := by
  constructor
  · simp only [netO, OT.nt, OT.nts, Bool.true_and, Bool.and_true]
    exact nts_map RT.tup rs
  · simp [netO, datL_map, OT.dat]
theorem rsL_nt (rs : List RT) : (rsL rs).nt = true ∧ (rsL rs).dat = .lst (rs.map RT.tup) := by
  constructor
  · simp only [rsL, OT.nt]
    exact nts_map RT.tup rs
  · simp [datL_map, OT.dat]
theorem callV_of {n : Nat} {f : List Dat → Option OT} {fs : List OT → Option (List Dat)} {e : List OT} {ds : List Dat} {o : OT} (h1 : fs e = some ds) (hl : ds.length = n) (h2 : f ds = some o) (ht : o.tlo = true) : callV n f fs e = some o := by
  simp only [callV, h1, if_pos hl, h2, if_pos ht]
theorem vwP_of {s : Nat} {ps : List OT → Option (List Stp)} {e : List OT} {t : OT} {d : Dat} (h : plO s ps e = some t) (hn : t.nt = true) (hd : t.dat = d) : vwP s ps e = some d := by
  subst hd
  simp only [vwP, h, hn, if_true]
theorem appE2_of {i : Nat} {f : GD} {e e2 e3 : List OT} {xs0 xs : List OT} {d : Dat} (h1 : e[i]? = some (.lst xs0)) (h2 : f e = some (d, e2)) (h3 : e2[i]? = some (.lst xs)) (hl : xs.length < 16000000) (he : e2.set i (.lst (xs ++ [.sh d])) = e3) : appE2 i f e = some (.nx e3) := by
  simp only [appE2, h1, core_lst, h2, h3, if_pos hl, re_lst, he]
theorem tupE_of {fs : GA} {e e2 : List OT} {ds : List Dat} (h : fs e = some (ds, e2)) (hl : ds.length ≤ 16000000) : tupE fs e = some (.tup ds, e2) := by
  simp only [tupE, h, if_pos hl]
theorem own_told (n : Nat) (rs : List RT) (s0 s1 : OT) (r : List OT) : gOf (methGX 1 "told" mt_told (.inl 2) (csA [])) (s0 :: s1 :: netO n rs :: r) = some (rsL rs, s0 :: s1 :: netO n rs :: r) := by
  refine gOf_ok ?_
  rw [methGX_of (o := netO n rs) (f := mL_Net_told) rfl (netc n rs) (by simp) (by simp [mt_told])]
  exact callGX_ok (os := [netO n rs]) (os' := [netO n rs]) rfl rfl (by simp) (g_told n rs) rfl
theorem own_rows (n : Nat) (rs : List RT) (hl : rs.length < 1000) (s0 s1 : OT) (r : List OT) : gOf (methGX 1 "rows" mt_rows (.inl 2) (csA [])) (s0 :: s1 :: netO n rs :: r) = some (obL rs, s0 :: s1 :: netO n rs :: r) := by
  refine gOf_ok ?_
  rw [methGX_of (o := netO n rs) (f := mL_Net_rows) rfl (netc n rs) (by simp) (by simp [mt_rows])]
  exact callGX_ok (os := [netO n rs]) (os' := [netO n rs]) rfl rfl (by simp) (g_rows n rs hl) rfl
theorem rsL_ok (rs : List RT) : (rsL rs).ok = true ∧ (rsL rs).dat = .lst (rs.map RT.tup) := by
  constructor <;> simp [rsL, okL_map, datL_map]
theorem obL_ok (rs : List RT) : (obL rs).ok = true ∧ (obL rs).dat = .lst (rs.map RT.obj) := by
  constructor <;> simp [obL, okL_map, datL_map]
/-- what is kept of what was told -/
def HeldE (d : Dat) : Prop := ∃ rs : List RT, d = .tup [.lst (rs.map RT.tup), .lst (rs.map RT.tup)]
theorem handE_rs (rs : List RT) (hl : rs.length < 1000) : HandE (.tup [.lst (rs.map RT.obj), .lst (rs.map RT.tup)]) := by
  refine ⟨rs.map fun r => (r.w, .int (r.a : Int), .int (r.b : Int), enc r.q), fun x hx => ?_, by simpa using hl, ?_⟩
  · obtain ⟨r, _, rfl⟩ := List.mem_map.mp hx
    exact ⟨.int _ _, .int _ _, dq_mono (dq_enc r.q) (by decide)⟩
  · rw [List.map_map, List.map_map]
    rfl
noncomputable abbrev bodyL : List OT → Option Out := (seqO (ifS (tst (DL.bin eqD (mlt (callO 3 m_law_mix (consA (vr 6) (consA (cn (.int 21701)) (consA (cn (.int 4)) nilA))))) (cn (.int 1)))) (setGXM 7 (callGX 3 mL_law_change ([.inl 2, .inl 3, .inr (vr 6)] ++ csA []))) (setGXM 7 (callGX 4 mL_law_add ([.inl 2, .inl 3, .inr (vr 6), .inl 5] ++ csA []))))
    (seqO (ifS (orB (notB (tst (vr 7))) (notB (tst (mlt (callV 4 m_law_look (consA (vwP 2 nmP) (consA (vr 1) (consA (vwP 3 nmP) (consA (mlt (callO 3 m_law_mix (consA (vr 6) (consA (cn (.int 33461)) (consA (cn (.int 3)) nilA))))) nilA))))))))) (retS (cn (.bl false))) skipO)
    (seqO (appE2 4 (tupE (consE (mltE (gOf (methGX 1 "told" mt_told (.inl 2) (csA [])))) (consE (pE (mlt (cpyP 3 nmP))) nilE))))
    (seqO (appE2 5 (tupE (consE (mltE (gOf (methGX 1 "rows" mt_rows (.inl 2) (csA [])))) (consE (pE (mlt (cpyP 3 nmP))) nilE))))
    (appVG (methGX 1 "told" mt_told (.inl 2) (csA [])))))))
theorem look_of (n : Nat) (rs : List RT) (hl : rs.length < 1000) {fh : List OT → Option Dat} {f : Int} {e : List OT} (h2 : e[2]? = some (netO n rs)) (h1 : vr 1 e = some (.int (n : Int))) (h3 : e[3]? = some (rsL rs)) (hf : fh e = some (.int f)) :
    mlt (callV 4 m_law_look (consA (vwP 2 nmP) (consA (vr 1) (consA (vwP 3 nmP) (consA fh nilA))))) e = some (.bl true) := by
  have v2 : vwP 2 nmP e = some (netD n rs) := vwP_of (t := netO n rs) (by simp [h2, netO]) (netO_nt n rs).1 (netO_nt n rs).2
  have v3 : vwP 3 nmP e = some (.lst (rs.map RT.tup)) := vwP_of (t := rsL rs) (by simp [h3]) (rsL_nt rs).1 (rsL_nt rs).2
  exact mlt_shd (callV_of (cons_of v2 (cons_of h1 (cons_of v3 (cons_of hf (nil_of _))))) rfl (look_eq n rs hl f) rfl)
theorem step_eq (n : Nat) (h0 : 0 < n) (rs : List RT) (hg : ∀ r ∈ rs, RGood n r) (hl : rs.length < 40) (c : Int) (S x7 : OT) (hd od : List Dat) (hh : ∀ d ∈ hd, HeldE d) (ho : ∀ d ∈ od, HandE d) (hhl : hd.length < 500) (hol : od.length < 500) :
    ∃ (rs' : List RT) (y7 : OT) (hd' od' : List Dat), (∀ r ∈ rs', RGood n r) ∧ rs'.length ≤ rs.length + 1 ∧ (∀ d ∈ hd', HeldE d) ∧ (∀ d ∈ od', HandE d) ∧ hd'.length ≤ hd.length + 1 ∧ od'.length ≤ od.length + 2 ∧
      bodyL [S, .sh (.int (n : Int)), netO n rs, rsL rs, .lst (hd.map .sh), .lst (od.map .sh), .sh (.int c), x7, .un, .un, .un] = some (.nx [S, .sh (.int (n : Int)), netO n rs', rsL rs', .lst (hd'.map .sh), .lst (od'.map .sh), .sh (.int c), y7, .un, .un, .un]) := by
  let M : OT := .sh (.int (n : Int))
  let C : OT := .sh (.int c)
  let H : OT := .lst (hd.map .sh)
  let E (x2 x3 x5 x7 : OT) : List OT := [S, M, x2, x3, H, x5, C, x7, .un, .un, .un]
  have mix : ∀ (e : List OT) (p m r : Int), vr 6 e = some (.int c) → m_law_mix [.int c, .int p, .int m] = some (.sh (.int r)) → mlt (callO 3 m_law_mix (consA (vr 6) (consA (cn (.int p)) (consA (cn (.int m)) nilA)))) e = some (.int r) := fun e p m r h1 h2 => mlt_shd (call_of (cons_of h1 (cons_of (cn_of _ _) (cons_of (cn_of _ _) (nil_of _)))) rfl h2)
  obtain ⟨i, i1, i2, i3⟩ := mix2_eq c 21701 4 (by decide) (by decide) (by decide)
  let O : OT := .lst (od.map .sh)
  have cd : tst (DL.bin eqD (mlt (callO 3 m_law_mix (consA (vr 6) (consA (cn (.int 21701)) (consA (cn (.int 4)) nilA))))) (cn (.int 1))) (E (netO n rs) (rsL rs) O x7) = some (decide (i = 1)) := tst_of (bin_of (mix _ _ _ _ rfl i3) (cn_of _ _) (eq_int _ _))
  obtain ⟨rs', od1, a1, a2, a3, a4, a5⟩ : ∃ (rs' : List RT) (od1 : List Dat), (∀ r ∈ rs', RGood n r) ∧ rs'.length ≤ rs.length + 1 ∧ (∀ d ∈ od1, HandE d) ∧ od1.length ≤ od.length + 1 ∧
      ifS (tst (DL.bin eqD (mlt (callO 3 m_law_mix (consA (vr 6) (consA (cn (.int 21701)) (consA (cn (.int 4)) nilA))))) (cn (.int 1)))) (setGXM 7 (callGX 3 mL_law_change ([.inl 2, .inl 3, .inr (vr 6)] ++ csA []))) (setGXM 7 (callGX 4 mL_law_add ([.inl 2, .inl 3, .inr (vr 6), .inl 5] ++ csA []))) (E (netO n rs) (rsL rs) O x7) = some (.nx (E (netO n rs') (rsL rs') (.lst (od1.map .sh)) (.sh (.bl true)))) := by
    by_cases h : i = 1
    · rw [decide_eq_true h] at cd
      obtain ⟨rs', b1, b2, b3⟩ := change_eq n rs hg (by omega) c
      refine ⟨rs', od, b2, by omega, ho, by omega, if_t cd (setGXM_ok (callGX_ok (os := [netO n rs, rsL rs, .sh (.int c)]) rfl rfl (by simp) b3 (e2 := E (netO n rs') (rsL rs') O x7) rfl) (show 7 < 11 by decide) rfl rfl rfl)⟩
    · rw [decide_eq_false h] at cd
      obtain ⟨rs', x, b1, b2, b3⟩ := add_eq n rs h0 hl c (od.map .sh) (by simp; omega)
      have em : od.map OT.sh ++ [.sh x] = (od ++ [x]).map .sh := by simp
      rw [em] at b3
      refine ⟨rs', od ++ [x], ?_, ?_, ?_, by simp, if_f cd (setGXM_ok (callGX_ok (os := [netO n rs, rsL rs, .sh (.int c), O]) rfl rfl (by simp) b3 (e2 := E (netO n rs') (rsL rs') (.lst ((od ++ [x]).map .sh)) x7) rfl) (show 7 < 11 by decide) rfl rfl rfl)⟩
      · rcases b1 with rfl | ⟨r, hr, rfl⟩
        · exact hg
        · intro y hy
          rcases List.mem_append.mp hy with hy | hy
          · exact hg y hy
          · rw [List.mem_singleton.mp hy]
            exact hr
      · rcases b1 with rfl | ⟨r, hr, rfl⟩ <;> simp
      · intro d hd
        rcases List.mem_append.mp hd with hd | hd
        · exact ho d hd
        · rw [List.mem_singleton.mp hd]
          exact b2
  let O1 : OT := .lst (od1.map .sh)
  let E1 : List OT := E (netO n rs') (rsL rs') O1 (.sh (.bl true))
  obtain ⟨f, f1, f2, f3⟩ := mix2_eq c 33461 3 (by decide) (by decide) (by decide)
  have lk := look_of n rs' (by omega) (fh := mlt (callO 3 m_law_mix (consA (vr 6) (consA (cn (.int 33461)) (consA (cn (.int 3)) nilA))))) (f := f) (e := E1) rfl rfl rfl (mix _ _ _ _ rfl f3)
  have c2 : orB (notB (tst (vr 7))) (notB (tst (mlt (callV 4 m_law_look (consA (vwP 2 nmP) (consA (vr 1) (consA (vwP 3 nmP) (consA (mlt (callO 3 m_law_mix (consA (vr 6) (consA (cn (.int 33461)) (consA (cn (.int 3)) nilA))))) nilA)))))))) E1 = some false := by
    have k1 : notB (tst (vr 7)) E1 = some false := ntst_of (b := true) rfl
    simp only [orB, k1, ntst_of lk]
    rfl
  let x : Dat := .tup [.lst (rs'.map RT.tup), .lst (rs'.map RT.tup)]
  let y : Dat := .tup [.lst (rs'.map RT.obj), .lst (rs'.map RT.tup)]
  let H1 : OT := .lst ((hd ++ [x]).map .sh)
  let O2 : OT := .lst ((od1 ++ [y]).map .sh)
  let G (x4 x5 : OT) : List OT := [S, M, netO n rs', rsL rs', x4, x5, C, .sh (.bl true), .un, .un, .un]
  have cp : ∀ x4 x5, mlt (cpyP 3 nmP) (G x4 x5) = some (.lst (rs'.map RT.tup)) := fun x4 x5 => by
    have p : plO 3 nmP (G x4 x5) = some (rsL rs') := by simp [G]
    refine mlt_lst ?_
    simp only [cpyP, p, rsL, shs_mapf]
  have s4 : appE2 4 (tupE (consE (mltE (gOf (methGX 1 "told" mt_told (.inl 2) (csA [])))) (consE (pE (mlt (cpyP 3 nmP))) nilE))) (G H O1) = some (.nx (G H1 O1)) :=
    appE2_of (xs0 := hd.map .sh) (xs := hd.map .sh) (d := x) rfl (tupE_of (consE_of (mltE_of (own_told n rs' S M _) (rsL_ok rs').1 (rsL_ok rs').2) (consE_of (pE_of (cp H O1)) (nilE_of _))) (Nat.le_of_ble_eq_true rfl)) rfl (by simp; omega) (by simp [G, H1])
  have s5 : appE2 5 (tupE (consE (mltE (gOf (methGX 1 "rows" mt_rows (.inl 2) (csA [])))) (consE (pE (mlt (cpyP 3 nmP))) nilE))) (G H1 O1) = some (.nx (G H1 O2)) :=
    appE2_of (xs0 := od1.map .sh) (xs := od1.map .sh) (d := y) rfl (tupE_of (consE_of (mltE_of (own_rows n rs' (by omega) S M _) (obL_ok rs').1 (obL_ok rs').2) (consE_of (pE_of (cp H1 O1)) (nilE_of _))) (Nat.le_of_ble_eq_true rfl)) rfl (by simp; omega) (by simp [G, O2])
  have s6 : appVG (methGX 1 "told" mt_told (.inl 2) (csA [])) (G H1 O2) = some (.nx (G H1 O2)) := by
    have g := own_told n rs' S M [rsL rs', H1, O2, C, .sh (.bl true), .un, .un, .un]
    show appVG (methGX 1 "told" mt_told (.inl 2) (csA [])) (S :: M :: netO n rs' :: [rsL rs', H1, O2, C, .sh (.bl true), .un, .un, .un]) = _
    unfold appVG
    rw [g]
    exact if_pos (by simp; omega)
  refine ⟨rs', .sh (.bl true), hd ++ [x], od1 ++ [y], a1, a2, ?_, ?_, by simp, by simp; omega, ?_⟩
  · intro d hd'
    rcases List.mem_append.mp hd' with h | h
    · exact hh d h
    · rw [List.mem_singleton.mp h]
      exact ⟨rs', rfl⟩
  · intro d hd'
    rcases List.mem_append.mp hd' with h | h
    · exact a3 d h
    · rw [List.mem_singleton.mp h]
      exact handE_rs rs' (by omega)
  · exact seq_nx (e1 := E1) a5 (seq_nx (e1 := E1) (if_f c2 rfl) (seq_nx s4 (seq_nx s5 s6)))
theorem main_loop (n : Nat) (h0 : 0 < n) (S : OT) : ∀ (cs : List Int) (rs : List RT) (x6 x7 : OT) (hd od : List Dat), (∀ r ∈ rs, RGood n r) → rs.length + cs.length ≤ 40 → (∀ d ∈ hd, HeldE d) → (∀ d ∈ od, HandE d) → hd.length + cs.length ≤ 100 → od.length + 2 * cs.length ≤ 100 →
    ∃ (rs' : List RT) (y6 y7 : OT) (hd' od' : List Dat), (∀ r ∈ rs', RGood n r) ∧ rs'.length ≤ 40 ∧ (∀ d ∈ hd', HeldE d) ∧ (∀ d ∈ od', HandE d) ∧
      loopS (toN 6) bodyL (cs.map .int) [S, .sh (.int (n : Int)), netO n rs, rsL rs, .lst (hd.map .sh), .lst (od.map .sh), x6, x7, .un, .un, .un] = some (.nx [S, .sh (.int (n : Int)), netO n rs', rsL rs', .lst (hd'.map .sh), .lst (od'.map .sh), y6, y7, .un, .un, .un])
  | [], rs, x6, x7, hd, od, hg, hl, hh, ho, l1, l2 => ⟨rs, x6, x7, hd, od, hg, by simpa using hl, hh, ho, rfl⟩
  | c :: cs, rs, x6, x7, hd, od, hg, hl, hh, ho, l1, l2 => by
    simp only [List.length_cons] at hl l1 l2
    obtain ⟨rs1, y7, hd1, od1, b1, b2, b3, b4, b5, b6, b7⟩ := step_eq n h0 rs hg (by omega) c S x7 hd od hh ho (by omega) (by omega)
    obtain ⟨rs2, z6, z7, hd2, od2, c1, c2, c3, c4, c5⟩ := main_loop n h0 S cs rs1 (.sh (.int c)) y7 hd1 od1 b1 (by omega) b3 b4 (by omega) (by omega)
    refine ⟨rs2, z6, z7, hd2, od2, c1, c2, c3, c4, ?_⟩
    rw [List.map_cons, loop_cons (e1 := [S, .sh (.int (n : Int)), netO n rs, rsL rs, .lst (hd.map .sh), .lst (od.map .sh), .sh (.int c), x7, .un, .un, .un]) rfl, b7]
    exact c5
theorem eqv_all : ∀ (d : Dat), d.noobj = true → PyData.eqv d.py d.py = true := eqv_self
theorem neC_self {ds : List Dat} (h : Dq 60 (.lst ds)) : neC (.lst ds) (.lst ds) = some (.bl false) := by
  unfold neC
  cases e : neD (.lst ds) (.lst ds) with
  | none =>
    simp only
    rw [if_pos ⟨rfl, rfl, h⟩]
  | some d =>
    simp only
    have s : scEq (.lst ds) (.lst ds) = none := rfl
    simp only [neD, eqB, s] at e
    split at e
    · rename_i z
      rw [Bool.and_self] at z
      have no : (Dat.lst ds).noobj = true := by
        unfold okEq at z
        rw [Bool.and_eq_true] at z
        exact z.1
      rw [eqv_self _ no] at e
      simpa using e.symm
    · cases e
theorem law_true (ns : List Int) (h63 : ns.length ≤ 63) : m_law [.lst (ns.map .int)] = some (.sh (.bl true)) := by
  let S : OT := .sh (.lst (ns.map .int))
  obtain ⟨c0, hc0⟩ := pick_eq ns h63 0
  obtain ⟨m, m1, m2, m3⟩ := mix2_eq c0 48271 20 (by decide) (by decide) (by decide)
  obtain ⟨m, rfl⟩ := Int.eq_ofNat_of_zero_le m1
  let n : Nat := 1 + m
  have n0 : 0 < n := by show 0 < 1 + m; omega
  have n20 : n ≤ 20 := by show 1 + m ≤ 20; omega
  let M : OT := .sh (.int (n : Int))
  let E (x1 x2 x3 x4 x5 : OT) : List OT := [S, x1, x2, x3, x4, x5, .un, .un, .un, .un, .un]
  have s1 : setS 1 (DL.bin sumD (cn (.int 1)) (mlt (callO 3 m_law_mix (consA (mlt (callO 2 m_law_pick (consA (vr 0) (consA (cn (.int 0)) nilA)))) (consA (cn (.int 48271)) (consA (cn (.int 20)) nilA)))))) (E .un .un .un .un .un) = some (.nx (E M .un .un .un .un)) := by
    refine set_of (bin_of (cn_of _ _) (mlt_shd (call_of (cons_of (mlt_shd (call_of (cons_of (f := vr 0) rfl (cons_of (cn_of _ _) (nil_of _))) rfl hc0)) (cons_of (cn_of _ _) (cons_of (cn_of _ _) (nil_of _)))) rfl m3)) (sum_int _ _)) ?_
    show E (.sh (.int (1 + (m : Int)))) .un .un .un .un = E M .un .un .un .un
    rw [show (1 + (m : Int)) = ((n : Nat) : Int) from by show _ = ((1 + m : Nat) : Int); omega]
  have s2 : setO 2 (makeSO "Net" 2 mL_Net_init ([.inr (vr 1)] ++ csA [])) (E M .un .un .un .un) = some (.nx (E M (netO n []) .un .un .un)) :=
    setO_of (makeSO_of (os := [.sh (.int (n : Int))]) rfl rfl rfl (Net_init_eq n n0 n20) rfl) (show 2 < 11 by decide) rfl
  let cs : List Int := cutD ns (some 1) (some 32)
  have csl : cs.length ≤ 31 := by
    show (cutD ns (some ((1 : Nat) : Int)) (some ((32 : Nat) : Int))).length ≤ 31
    unfold cutD
    rw [HT.sIx_nat, HT.sIx_nat, List.length_take, List.length_drop]
    omega
  have src : lstOf (mlt (sliF (vr 0) (partS (cn (.int 1))) (partS (cn (.int 32))))) (E M (netO n []) (rsL []) (.lst []) (.lst [])) = some (cs.map .int) := by
    have h : mlt (sliF (vr 0) (partS (cn (.int 1))) (partS (cn (.int 32)))) (E M (netO n []) (rsL []) (.lst []) (.lst [])) = some (.lst (cs.map .int)) := by
      refine mlt_lst ?_
      show some (OT.lst ((cutD (ns.map Dat.int) (some 1) (some 32)).map .sh)) = _
      have e : cutD (ns.map Dat.int) (some 1) (some 32) = cs.map .int := by
        show cutD (ns.map Dat.int) (some 1) (some 32) = (cutD ns (some 1) (some 32)).map .int
        unfold cutD
        rw [List.length_map, List.map_take, List.map_drop]
      rw [e]
    simp only [lstOf, h]
  obtain ⟨rs, y6, y7, hd, od, g1, g2, g3, g4, lp⟩ := main_loop n n0 S cs [] .un .un [] [] (fun r h => nomatch h) (by simp; omega) (fun d h => nomatch h) (fun d h => nomatch h) (by simp; omega) (by simp; omega)
  let N : OT := netO n rs
  let R : OT := rsL rs
  let G (x4 x5 x8 x9 : OT) : List OT := [S, M, N, R, x4, x5, y6, y7, x8, x9, .un]
  let H : OT := .sh (.lst hd)
  let O : OT := .sh (.lst od)
  have l1 : ∀ (ds : List Dat) (x8 x9 : OT), (∀ d ∈ ds, HeldE d) → ∃ z8 z9, loopS (toTup 2 (toCons (toN 8) (toCons (toN 9) toNil))) (ifS (orB (notB (tst (isiD "list" (vr 8)))) (tst (DL.bin neD (vr 8) (vr 9)))) (retS (cn (.bl false))) skipO) ds (G H (.lst (od.map .sh)) x8 x9) = some (.nx (G H (.lst (od.map .sh)) z8 z9)) := by
    intro ds
    induction ds with
    | nil => intro x8 x9 _; exact ⟨x8, x9, rfl⟩
    | cons d ds ih =>
      intro x8 x9 hd
      obtain ⟨qs, rfl⟩ := hd d List.mem_cons_self
      let T : OT := .sh (.lst (qs.map RT.tup))
      obtain ⟨z8, z9, h⟩ := ih T T fun d h => hd d (List.mem_cons_of_mem _ h)
      refine ⟨z8, z9, ?_⟩
      rw [loop_cons (e1 := G H (.lst (od.map .sh)) T T) rfl]
      have c : orB (notB (tst (isiD "list" (vr 8)))) (tst (DL.bin neD (vr 8) (vr 9))) (G H (.lst (od.map .sh)) T T) = some false := by
        have k1 : notB (tst (isiD "list" (vr 8))) (G H (.lst (od.map .sh)) T T) = some false := ntst_of (b := true) (by simp [G, T])
        have k2 : tst (DL.bin neD (vr 8) (vr 9)) (G H (.lst (od.map .sh)) T T) = some false := by
          refine tst_of (bin_of (fa := vr 8) (fb := vr 9) (x := .lst (qs.map RT.tup)) (y := .lst (qs.map RT.tup)) rfl rfl ?_)
          simp only [neD, rs_self, Option.map_some]
          rfl
        simp only [orB, k1, k2]
      rw [if_f c rfl]
      exact h
  have l2 : ∀ (ds : List Dat) (x8 x9 : OT), (∀ d ∈ ds, HandE d) → ∃ z8 z9, loopS (toTup 2 (toCons (toN 8) (toCons (toN 9) toNil))) (ifS (tst (DL.bin neC (mlt (lcF (lstOf (vr 8)) [10] (toN 10) yesB (mlt (methSO 1 "told" mt_told (.inr (vr 10)) (csA []))))) (vr 9))) (retS (cn (.bl false))) skipO) ds (G H O x8 x9) = some (.nx (G H O z8 z9)) := by
    intro ds
    induction ds with
    | nil => intro x8 x9 _; exact ⟨x8, x9, rfl⟩
    | cons d ds ih =>
      intro x8 x9 hd
      obtain ⟨l, hq, hl, rfl⟩ := hd d List.mem_cons_self
      let T : OT := .sh (.lst (l.map fun x => gobj x.1 x.2.1 x.2.2.1 x.2.2.2))
      let U : Dat := .lst (l.map fun x => gtup x.1 x.2.1 x.2.2.1 x.2.2.2)
      obtain ⟨z8, z9, h⟩ := ih T (.sh U) fun d h => hd d (List.mem_cons_of_mem _ h)
      refine ⟨z8, z9, ?_⟩
      rw [loop_cons (e1 := G H O T (.sh U)) rfl]
      have dq : Dq 60 U := .lst 59 _ fun y hy => by
        obtain ⟨x, hx, rfl⟩ := List.mem_map.mp hy
        obtain ⟨q1, q2, q3⟩ := hq x hx
        exact .tup 58 _ fun z hz => by
          simp at hz
          rcases hz with rfl | rfl | rfl | rfl
          · exact .str _ _
          · exact dq_mono q1 (by decide)
          · exact dq_mono q2 (by decide)
          · exact dq_mono q3 (by decide)
      have c : tst (DL.bin neC (mlt (lcF (lstOf (vr 8)) [10] (toN 10) yesB (mlt (methSO 1 "told" mt_told (.inr (vr 10)) (csA []))))) (vr 9)) (G H O T (.sh U)) = some false := by
        refine tst_of (bin_of (x := U) (y := U) (mlt_lst ?_) rfl (neC_self dq))
        exact lcF_of (own := [10]) (st := toN 10) (elt := mlt (methSO 1 "told" mt_told (.inr (vr 10)) (csA []))) (c := fun x : Wd × Dat × Dat × Dat => gobj x.1 x.2.1 x.2.2.1 x.2.2.2) (fun x : Wd × Dat × Dat × Dat => gtup x.1 x.2.1 x.2.2.1 x.2.2.2) (xs := l) rfl (by omega) (fun x _ => ⟨[S, M, N, R, H, O, y6, y7, T, .sh U, .sh (gobj x.1 x.2.1 x.2.2.1 x.2.2.2)], rfl, mlt_shd (gtold x.1 x.2.1 x.2.2.1 x.2.2.2 (g := vr 10) rfl)⟩)
      rw [if_f c rfl]
      exact h
  obtain ⟨z8, z9, lp1⟩ := l1 hd .un .un g3
  obtain ⟨w8, w9, lp2⟩ := l2 od z8 z9 g4
  refine fn_rt (e := G H O w8 w9) rfl ?_
  refine seq_nx s1 (seq_nx s2 ?_)
  refine seq_nx (e1 := E M (netO n []) (rsL []) .un .un) (setO_of (o := .lst []) rfl (show 3 < 11 by decide) rfl) ?_
  refine seq_nx (e1 := E M (netO n []) (rsL []) (.lst []) .un) (setO_of (o := .lst []) rfl (show 4 < 11 by decide) rfl) ?_
  refine seq_nx (e1 := E M (netO n []) (rsL []) (.lst []) (.lst [])) (setO_of (o := .lst []) rfl (show 5 < 11 by decide) rfl) ?_
  refine seq_nx (for_of src lp) ?_
  have frz : ∀ (i : Nat) (g : List OT → Option Out) (e : List OT) (ds : List Dat) (o : Option Out), e[i]? = some (.lst (ds.map .sh)) → g (e.set i (.sh (.lst ds))) = o → frzS i g e = o := fun i g e ds o h1 h2 => by
    have k1 : (OT.lst (ds.map .sh)).ok = true := by rw [ok_lstU]; exact oks_sh _
    have k2 : (OT.lst (ds.map .sh)).dat = .lst ds := by rw [dat_lstU, dats_sh]
    simp only [frzS, frzO, h1, k1, if_true, k2, h2]
  refine seq_nx (e1 := G H (.lst (od.map .sh)) z8 z9) (frz 4 _ _ hd _ rfl (for_of (ds := hd) rfl lp1)) ?_
  refine seq_nx (e1 := G H O w8 w9) (frz 5 _ _ od _ rfl (for_of (ds := od) rfl lp2)) ?_
  exact retS_of (look_of n rs (by omega) (f := 1) rfl rfl rfl (cn_of _ _))
end Pf
namespace Pf
open PySem L2 DL PyProof.Rows

def top (i : Nat) : Stmt := PySem.Challenge.pw_ohmyard_k13_a_net_walked.main.body.getD i (.Pass ⟨0, 0, 0, 0⟩)
abbrev s_is_whole : Stmt := top 9
abbrev N_is_whole : List Str := ["thing"]
theorem sc_is_whole : FnScope N_is_whole ["thing"] (defScope s_is_whole) := ⟨rfl, rfl, rfl, by decide +kernel, rfl, by decide +kernel, by decide +kernel⟩
abbrev s_Net_init : Stmt := inClass (top 22) 0
abbrev N_Net_init : List Str := ["self", "many"]
theorem sc_Net_init : FnScope N_Net_init ["self", "many"] (defScope s_Net_init) := ⟨rfl, rfl, rfl, by decide +kernel, rfl, by decide +kernel, by decide +kernel⟩
abbrev s_Piece_word : Stmt := inClass (top 14) 0
abbrev N_Piece_word : List Str := ["self"]
theorem sc_Piece_word : FnScope N_Piece_word ["self"] (defScope s_Piece_word) := ⟨rfl, rfl, rfl, by decide +kernel, rfl, by decide +kernel, by decide +kernel⟩
abbrev s_Push_word : Stmt := inClass (top 15) 0
abbrev N_Push_word : List Str := ["self"]
theorem sc_Push_word : FnScope N_Push_word ["self"] (defScope s_Push_word) := ⟨rfl, rfl, rfl, by decide +kernel, rfl, by decide +kernel, by decide +kernel⟩
abbrev s_Hold_word : Stmt := inClass (top 16) 0
abbrev N_Hold_word : List Str := ["self"]
theorem sc_Hold_word : FnScope N_Hold_word ["self"] (defScope s_Hold_word) := ⟨rfl, rfl, rfl, by decide +kernel, rfl, by decide +kernel, by decide +kernel⟩
abbrev s_Row_told : Stmt := inClass (top 13) 3
abbrev N_Row_told : List Str := ["self"]
theorem sc_Row_told : FnScope N_Row_told ["self"] (defScope s_Row_told) := ⟨rfl, rfl, rfl, by decide +kernel, rfl, by decide +kernel, by decide +kernel⟩
abbrev s_Net_told : Stmt := inClass (top 22) 7
abbrev N_Net_told : List Str := ["self"]
theorem sc_Net_told : FnScope N_Net_told ["self"] (defScope s_Net_told) := ⟨rfl, rfl, rfl, by decide +kernel, rfl, by decide +kernel, by decide +kernel⟩
abbrev s_Row_init : Stmt := inClass (top 13) 0
abbrev N_Row_init : List Str := ["self", "start", "goal", "size"]
theorem sc_Row_init : FnScope N_Row_init ["self", "start", "goal", "size"] (defScope s_Row_init) := ⟨rfl, rfl, rfl, by decide +kernel, rfl, by decide +kernel, by decide +kernel⟩
abbrev s_row_of : Stmt := top 17
abbrev N_row_of : List Str := ["told", "word", "start", "goal", "size"]
theorem sc_row_of : FnScope N_row_of ["told"] (defScope s_row_of) := ⟨rfl, rfl, rfl, by decide +kernel, rfl, by decide +kernel, by decide +kernel⟩
abbrev s_Net_rows : Stmt := inClass (top 22) 6
abbrev N_Net_rows : List Str := ["self", "told"]
theorem sc_Net_rows : FnScope N_Net_rows ["self"] (defScope s_Net_rows) := ⟨rfl, rfl, rfl, by decide +kernel, rfl, by decide +kernel, by decide +kernel⟩
abbrev s_law_objects : Stmt := top 34
abbrev N_law_objects : List Str := ["net", "rows", "found", "k", "row"]
theorem sc_law_objects : FnScope N_law_objects ["net", "rows"] (defScope s_law_objects) := ⟨rfl, rfl, rfl, by decide +kernel, rfl, by decide +kernel, by decide +kernel⟩
abbrev s_Net_many : Stmt := inClass (top 22) 1
abbrev N_Net_many : List Str := ["self"]
theorem sc_Net_many : FnScope N_Net_many ["self"] (defScope s_Net_many) := ⟨rfl, rfl, rfl, by decide +kernel, rfl, by decide +kernel, by decide +kernel⟩
abbrev s_Net_count : Stmt := inClass (top 22) 2
abbrev N_Net_count : List Str := ["self"]
theorem sc_Net_count : FnScope N_Net_count ["self"] (defScope s_Net_count) := ⟨rfl, rfl, rfl, by decide +kernel, rfl, by decide +kernel, by decide +kernel⟩
abbrev s_law_look : Stmt := top 35
abbrev N_law_look : List Str := ["net", "many", "rows", "first", "way"]
theorem sc_law_look : FnScope N_law_look ["net", "many", "rows", "first"] (defScope s_law_look) := ⟨rfl, rfl, rfl, by decide +kernel, rfl, by decide +kernel, by decide +kernel⟩
abbrev s_law_mix : Stmt := top 25
abbrev N_law_mix : List Str := ["cell", "prime", "many", "rest", "number"]
theorem sc_law_mix : FnScope N_law_mix ["cell", "prime", "many"] (defScope s_law_mix) := ⟨rfl, rfl, rfl, by decide +kernel, rfl, by decide +kernel, by decide +kernel⟩
abbrev s_law_pick : Stmt := top 24
abbrev N_law_pick : List Str := ["script", "k"]
theorem sc_law_pick : FnScope N_law_pick ["script", "k"] (defScope s_law_pick) := ⟨rfl, rfl, rfl, by decide +kernel, rfl, by decide +kernel, by decide +kernel⟩
abbrev s_law_divisor : Stmt := top 26
abbrev N_law_divisor : List Str := ["one", "other"]
theorem sc_law_divisor : FnScope N_law_divisor ["one", "other"] (defScope s_law_divisor) := ⟨rfl, rfl, rfl, by decide +kernel, rfl, by decide +kernel, by decide +kernel⟩
abbrev s_law_size : Stmt := top 27
abbrev N_law_size : List Str := ["cell", "word", "top", "bottom", "share"]
theorem sc_law_size : FnScope N_law_size ["cell", "word"] (defScope s_law_size) := ⟨rfl, rfl, rfl, by decide +kernel, rfl, by decide +kernel, by decide +kernel⟩
abbrev s_divisor : Stmt := top 10
abbrev N_divisor : List Str := ["one", "other"]
theorem sc_divisor : FnScope N_divisor ["one", "other"] (defScope s_divisor) := ⟨rfl, rfl, rfl, by decide +kernel, rfl, by decide +kernel, by decide +kernel⟩
abbrev s_is_fraction : Stmt := top 11
abbrev N_is_fraction : List Str := ["thing"]
theorem sc_is_fraction : FnScope N_is_fraction ["thing"] (defScope s_is_fraction) := ⟨rfl, rfl, rfl, by decide +kernel, rfl, by decide +kernel, by decide +kernel⟩
abbrev s_fits : Stmt := top 21
abbrev N_fits : List Str := ["word", "size"]
theorem sc_fits : FnScope N_fits ["word", "size"] (defScope s_fits) := ⟨rfl, rfl, rfl, by decide +kernel, rfl, by decide +kernel, by decide +kernel⟩
abbrev s_Net_has : Stmt := inClass (top 22) 3
abbrev N_Net_has : List Str := ["self", "point"]
theorem sc_Net_has : FnScope N_Net_has ["self", "point"] (defScope s_Net_has) := ⟨rfl, rfl, rfl, by decide +kernel, rfl, by decide +kernel, by decide +kernel⟩
abbrev s_Net_add : Stmt := inClass (top 22) 4
abbrev N_Net_add : List Str := ["self", "row"]
theorem sc_Net_add : FnScope N_Net_add ["self", "row"] (defScope s_Net_add) := ⟨rfl, rfl, rfl, by decide +kernel, rfl, by decide +kernel, by decide +kernel⟩
abbrev s_Net_change : Stmt := inClass (top 22) 5
abbrev N_Net_change : List Str := ["self", "k", "size", "word", "start", "goal", "old"]
theorem sc_Net_change : FnScope N_Net_change ["self", "k", "size"] (defScope s_Net_change) := ⟨rfl, rfl, rfl, by decide +kernel, rfl, by decide +kernel, by decide +kernel⟩
abbrev s_law_answer : Stmt := top 31
abbrev N_law_answer : List Str := ["net", "deed", "row", "k", "size", "kept", "found", "e"]
theorem sc_law_answer : FnScope N_law_answer ["net", "deed", "row", "k", "size"] (defScope s_law_answer) := ⟨rfl, rfl, rfl, by decide +kernel, rfl, by decide +kernel, by decide +kernel⟩
abbrev s_law_bad_size : Stmt := top 28
abbrev N_law_bad_size : List Str := ["cell", "word", "size", "way", "some"]
theorem sc_law_bad_size : FnScope N_law_bad_size ["cell", "word", "size"] (defScope s_law_bad_size) := ⟨rfl, rfl, rfl, by decide +kernel, rfl, by decide +kernel, by decide +kernel⟩
abbrev s_law_change : Stmt := top 33
abbrev N_law_change : List Str := ["net", "rows", "cell", "k", "size", "word", "start", "goal", "old"]
theorem sc_law_change : FnScope N_law_change ["net", "rows", "cell"] (defScope s_law_change) := ⟨rfl, rfl, rfl, by decide +kernel, rfl, by decide +kernel, by decide +kernel⟩
abbrev s_law_made : Stmt := top 30
abbrev N_law_made : List Str := ["word", "start", "goal", "size"]
theorem sc_law_made : FnScope N_law_made ["word", "start", "goal", "size"] (defScope s_law_made) := ⟨rfl, rfl, rfl, by decide +kernel, rfl, by decide +kernel, by decide +kernel⟩
abbrev s_law_bad_point : Stmt := top 29
abbrev N_law_bad_point : List Str := ["cell", "many"]
theorem sc_law_bad_point : FnScope N_law_bad_point ["cell", "many"] (defScope s_law_bad_point) := ⟨rfl, rfl, rfl, by decide +kernel, rfl, by decide +kernel, by decide +kernel⟩
abbrev s_law_add : Stmt := top 32
abbrev N_law_add : List Str := ["net", "rows", "cell", "handed", "word", "start", "goal", "size", "due", "fault", "row"]
theorem sc_law_add : FnScope N_law_add ["net", "rows", "cell", "handed"] (defScope s_law_add) := ⟨rfl, rfl, rfl, by decide +kernel, rfl, by decide +kernel, by decide +kernel⟩
abbrev s_law : Stmt := top 36
abbrev N_law : List Str := ["script", "many", "net", "rows", "held", "objects", "cell", "good", "told", "due", "row"]
theorem sc_law : FnScope N_law ["script"] (defScope s_law) := ⟨rfl, rfl, rfl, by decide +kernel, rfl, by decide +kernel, by decide +kernel⟩
structure Txt (kc : KC) (mg : Str → Option Value) : Prop where
  b_abs : mg "abs" = none
  b_bool : mg "bool" = none
  b_int : mg "int" = none
  b_isinstance : mg "isinstance" = none
  b_len : mg "len" = none
  b_list : mg "list" = none
  b_range : mg "range" = none
  b_tuple : mg "tuple" = none
  e_NoPoint : ExcF kc mg "NoPoint" "NoPoint"
  e_NoRow : ExcF kc mg "NoRow" "NoRow"
  e_NoSize : ExcF kc mg "NoSize" "NoSize"
  e_TooMany : ExcF kc mg "TooMany" "TooMany"
  g_Hold : mg "Hold" = some (.ref (kc.cl "Hold"))
  g_NoPoint : mg "NoPoint" = some (.ref (kc.cl "NoPoint"))
  g_NoRow : mg "NoRow" = some (.ref (kc.cl "NoRow"))
  g_NoSize : mg "NoSize" = some (.ref (kc.cl "NoSize"))
  g_OhmError : mg "OhmError" = some (.ref (kc.cl "OhmError"))
  g_Piece : mg "Piece" = some (.ref (kc.cl "Piece"))
  g_TooMany : mg "TooMany" = some (.ref (kc.cl "TooMany"))
  u_OhmError : Subs kc (.ref (kc.cl "OhmError")) tab_OhmError
  k_Hold : KitA kc (kc.cl "Hold") tabE_Hold tabO_Hold
  k_NoPoint : KitA kc (kc.cl "NoPoint") tabE_NoPoint tabO_NoPoint
  k_NoRow : KitA kc (kc.cl "NoRow") tabE_NoRow tabO_NoRow
  k_NoSize : KitA kc (kc.cl "NoSize") tabE_NoSize tabO_NoSize
  k_Piece : KitA kc (kc.cl "Piece") tabE_Piece tabO_Piece
  t_NoPoint_NoRow_TooMany : KitAT kc [(.ref (kc.cl "NoPoint")), (.ref (kc.cl "NoRow")), (.ref (kc.cl "TooMany"))] tabE_NoPoint_NoRow_TooMany tabO_NoPoint_NoRow_TooMany
  t_NoSize_NoPoint_TooMany : KitAT kc [(.ref (kc.cl "NoSize")), (.ref (kc.cl "NoPoint")), (.ref (kc.cl "TooMany"))] tabE_NoSize_NoPoint_TooMany tabO_NoSize_NoPoint_TooMany
  t_NoSize_NoRow_TooMany : KitAT kc [(.ref (kc.cl "NoSize")), (.ref (kc.cl "NoRow")), (.ref (kc.cl "TooMany"))] tabE_NoSize_NoRow_TooMany tabO_NoSize_NoRow_TooMany
  f_goal : AF kc "goal" tabF_goal
  f_kept : AF kc "kept" tabF_kept
  f_size : AF kc "size" tabF_size
  f_sizes : AF kc "sizes" tabF_sizes
  f_start : AF kc "start" tabF_start
  v_MOST_POINTS : ∃ (v : V) (u : Value), mg "MOST_POINTS" = some u ∧ RelV v u ∧ ∀ B, Rep kc B c_MOST_POINTS v
  v_MOST_ROWS : ∃ (v : V) (u : Value), mg "MOST_ROWS" = some u ∧ RelV v u ∧ ∀ B, Rep kc B c_MOST_ROWS v
section
variable {P : Program} {w : World} {kc : KC} {mg : Str → Option Value} {base : Heap}
theorem ok_is_whole {f : Addr} {fd : FuncData} (F : Fun kc.K "is_whole" "is_whole" s_is_whole f fd) (T : Txt kc mg)  : FnOk P w kc.K mg base CX0 1 f fd ["thing"] (spP kc 1 m_is_whole) := okN (k := kc) (j := 0) (g := g_is_whole) F sc_is_whole rfl rfl (by decide) fun cdv A outer s H E hr => by
  have hu := hr.units
  have nd := sc_is_whole.nd
  unfold g_is_whole
  exact (s_one (s_ret (v_and (v_val (d_isi "int" rfl T.b_isinstance T.b_int boot_int (dv 0))) (v_one (v_not (v_val (d_isi "bool" rfl T.b_isinstance T.b_bool boot_bool (dv 0))))))))
theorem ok_Net_init {f : Addr} {fd : FuncData} (F : Fun kc.K "__init__" "Net.__init__" s_Net_init f fd) (T : Txt kc mg) (C_is_whole : Fn P w kc.K mg base kc 1 "is_whole" 1 m_is_whole) : FnOk P w kc.K mg base (L2.CX P w) 2 f fd ["self", "many"] (spL kc 2 mL_Net_init) := okL (k := kc) (j := 1) (g := g_Net_init) F sc_Net_init rfl rfl (by decide) fun cdv A outer s H E W hr tk hpo => by
  have hu := hr.units
  have nd := sc_Net_init.nd
  obtain ⟨cv_MOST_POINTS, cu_MOST_POINTS, cm_MOST_POINTS, cr_MOST_POINTS, cp_MOST_POINTS⟩ := T.v_MOST_POINTS
  unfold g_Net_init
  exact (s_cons (s_if (w_or (t_not (t_val (d_mlt (f_call C_is_whole (hr.mono (by decide)) (a_cons (dv 1) a_nil))))) (w_or (t_lt (dv 1) di) (w_or1 (t_gt (dv 1) (dg cm_MOST_POINTS cr_MOST_POINTS cp_MOST_POINTS))))).pt (s_one s_never) s_nil)
      (s_cons (s_fstS rfl T.f_sizes (p_nm 0) (dv 1))
      (s_one (s_fstO rfl T.f_kept (p0_nm 0) (f_lst a_nil)))))
theorem ok_Piece_word {f : Addr} {fd : FuncData} (F : Fun kc.K "word" "Piece.word" s_Piece_word f fd) (T : Txt kc mg)  : FnOk P w kc.K mg base (L2.CX P w) 1 f fd ["self"] (spL kc 1 mL_Piece_word) := okL (k := kc) (j := 0) (g := g_Piece_word) F sc_Piece_word rfl rfl (by decide) fun cdv A outer s H E W hr tk hpo => by
  have hu := hr.units
  have nd := sc_Piece_word.nd
  unfold g_Piece_word
  exact (s_one (s_ret ds))
theorem ok_Push_word {f : Addr} {fd : FuncData} (F : Fun kc.K "word" "Push.word" s_Push_word f fd) (T : Txt kc mg)  : FnOk P w kc.K mg base (L2.CX P w) 1 f fd ["self"] (spL kc 1 mL_Push_word) := okL (k := kc) (j := 0) (g := g_Push_word) F sc_Push_word rfl rfl (by decide) fun cdv A outer s H E W hr tk hpo => by
  have hu := hr.units
  have nd := sc_Push_word.nd
  unfold g_Push_word
  exact (s_one (s_ret ds))
theorem ok_Hold_word {f : Addr} {fd : FuncData} (F : Fun kc.K "word" "Hold.word" s_Hold_word f fd) (T : Txt kc mg)  : FnOk P w kc.K mg base (L2.CX P w) 1 f fd ["self"] (spL kc 1 mL_Hold_word) := okL (k := kc) (j := 0) (g := g_Hold_word) F sc_Hold_word rfl rfl (by decide) fun cdv A outer s H E W hr tk hpo => by
  have hu := hr.units
  have nd := sc_Hold_word.nd
  unfold g_Hold_word
  exact (s_one (s_ret ds))
theorem ok_Row_told {f : Addr} {fd : FuncData} (F : Fun kc.K "told" "Row.told" s_Row_told f fd) (T : Txt kc mg) (M_word : ∀ c f, mt_word c = some f → MtL P w kc.K mg base kc 1 c "word" 1 [] f) : FnOk P w kc.K mg base (L2.CX P w) 2 f fd ["self"] (spL kc 1 mL_Row_told) := okL (k := kc) (j := 1) (g := g_Row_told) F sc_Row_told rfl rfl (by decide) fun cdv A outer s H E W hr tk hpo => by
  have hu := hr.units
  have nd := sc_Row_told.nd
  unfold g_Row_told
  exact (s_one (s_ret (d_tup (a_cons (d_mlt (f_methS0 (dds := []) M_word (hr.mono (by decide)) (ob_s (dv 0)))) (a_cons (d_fld rfl T.f_start (dv 0)) (a_cons (d_fld rfl T.f_goal (dv 0)) (a_cons (d_fld rfl T.f_size (dv 0)) a_nil)))))))
theorem ok_Net_told {f : Addr} {fd : FuncData} (F : Fun kc.K "told" "Net.told" s_Net_told f fd) (T : Txt kc mg)  : FnOk P w kc.K mg base (L2.CX P w) 1 f fd ["self"] (spL kc 1 mL_Net_told) := okL (k := kc) (j := 0) (g := g_Net_told) F sc_Net_told rfl rfl (by decide) fun cdv A outer s H E W hr tk hpo => by
  have hu := hr.units
  have nd := sc_Net_told.nd
  unfold g_Net_told
  exact (s_one (s_retO (f_cpyP rfl T.b_list (p_fld rfl T.f_kept (p_nm 0)))))
theorem ok_Row_init {f : Addr} {fd : FuncData} (F : Fun kc.K "__init__" "Row.__init__" s_Row_init f fd) (T : Txt kc mg)  : FnOk P w kc.K mg base (L2.CX P w) 1 f fd ["self", "start", "goal", "size"] (spL kc 4 mL_Row_init) := okL (k := kc) (j := 0) (g := g_Row_init) F sc_Row_init rfl rfl (by decide) fun cdv A outer s H E W hr tk hpo => by
  have hu := hr.units
  have nd := sc_Row_init.nd
  unfold g_Row_init
  exact (s_cons (s_fstS rfl T.f_start (p_nm 0) (dv 1))
      (s_cons (s_fstS rfl T.f_goal (p_nm 0) (dv 2))
      (s_one (s_fstS rfl T.f_size (p_nm 0) (dv 3)))))
theorem ok_row_of {f : Addr} {fd : FuncData} (F : Fun kc.K "row_of" "row_of" s_row_of f fd) (T : Txt kc mg) (K_Hold : MkL P w kc.K mg base kc 1 "Hold" "Hold" 4 [] mL_Row_init) (K_Piece : MkL P w kc.K mg base kc 1 "Piece" "Piece" 4 [] mL_Row_init) (K_Push : MkL P w kc.K mg base kc 1 "Push" "Push" 4 [] mL_Row_init) : FnOk P w kc.K mg base CX0 3 f fd ["told"] (spP kc 1 m_row_of) := okN (k := kc) (j := 2) (g := g_row_of) F sc_row_of rfl rfl (by decide) fun cdv A outer s H E hr => by
  have hu := hr.units
  have nd := sc_row_of.nd
  unfold g_row_of
  exact (s_cons (s_asg (dv 0) (g_tup rfl rfl (g_cons (g_name (i := 1) nd) (g_cons (g_name (i := 2) nd) (g_cons (g_name (i := 3) nd) (g_cons (g_name (i := 4) nd) g_nil))))))
      (s_cons (s_if (t_eq rfl hu (dv 1) ds) (s_one (s_retO (f_makeS (dds := []) K_Piece (hr.mono (by decide)) (al_s (dv 2) (al_s (dv 3) (al_s (dv 4) al_nil)))))) s_nil)
      (s_cons (s_if (t_eq rfl hu (dv 1) ds) (s_one (s_retO (f_makeS (dds := []) K_Push (hr.mono (by decide)) (al_s (dv 2) (al_s (dv 3) (al_s (dv 4) al_nil)))))) s_nil)
      (s_cons (s_if (t_eq rfl hu (dv 1) ds) (s_one (s_retO (f_makeS (dds := []) K_Hold (hr.mono (by decide)) (al_s (dv 2) (al_s (dv 3) (al_s (dv 4) al_nil)))))) s_nil)
      (s_one s_never)))))
theorem ok_Net_rows {f : Addr} {fd : FuncData} (F : Fun kc.K "rows" "Net.rows" s_Net_rows f fd) (T : Txt kc mg) (C_row_of : Fn P w kc.K mg base kc 3 "row_of" 1 m_row_of) : FnOk P w kc.K mg base (L2.CX P w) 4 f fd ["self"] (spL kc 1 mL_Net_rows) := okL (k := kc) (j := 3) (g := g_Net_rows) F sc_Net_rows rfl rfl (by decide) fun cdv A outer s H E W hr tk hpo => by
  have hu := hr.units
  have nd := sc_Net_rows.nd
  unfold g_Net_rows
  exact (s_one (s_retG (g_lc [("told", 1)] rfl nd (ih_plc rfl (p_fld rfl T.f_kept (p_nm 0))) (blkOk_by (N := N_Net_rows) (sc := defScope s_Net_rows) (by decide +kernel)) (fun _ _ _ _ _ => (pg_name (i := 1) nd rfl (Or.inl rfl))) (in_name (i := 1) (vs := [1]) (by decide)) (fun _ _ _ _ _ => c_yes) (fun _ _ _ _ _ => (d_mlt (f_call C_row_of (hr.mono (by decide)) (a_cons (dv 1) a_nil)))))))
theorem ok_law_objects {f : Addr} {fd : FuncData} (F : Fun kc.K "_law_objects" "_law_objects" s_law_objects f fd) (T : Txt kc mg) (M_rows : ∀ c f, mt_rows c = some f → MtL P w kc.K mg base kc 4 c "rows" 1 [] f) (M_told : ∀ c f, mt_told c = some f → MtL P w kc.K mg base kc 2 c "told" 1 [] f) : FnOk P w kc.K mg base CX0 5 f fd ["net", "rows"] (spP kc 2 m_law_objects) := okN (k := kc) (j := 4) (g := g_law_objects) F sc_law_objects rfl rfl (by decide) fun cdv A outer s H E hr => by
  have hu := hr.units
  have nd := sc_law_objects.nd
  unfold g_law_objects
  exact (s_cons (s_setO 2 nd (f_methS0 (dds := []) M_rows (hr.mono (by decide)) (ob_s (dv 0))))
      (s_cons (s_ifE (we_or (te_of (t_not (t_val (d_isiB "list" rfl T.b_isinstance T.b_list boot_list (b_brP (p_nm 2)))))) (we_or1 (te_ne rfl hu (e_g (g_lc [("row", 4)] rfl nd (ih_plc rfl (p_nm 2)) (blkOk_by (N := N_law_objects) (sc := defScope s_law_objects) (by decide +kernel)) (fun _ _ _ _ _ => (pg_name (i := 4) nd rfl (Or.inl rfl))) (in_name (i := 4) (vs := [4]) (by decide)) (fun _ _ _ _ _ => c_yes) (fun _ _ _ _ _ => (d_mlt (f_methS0 (dds := []) M_told (hr.mono (by decide)) (ob_s (dv 4))))))) (e_of (dv 1))))).pt (s_one (s_ret dbl)) s_nil)
      (s_cons (s_for PassesOwn.never rfl (i_rng1 T.b_range (a_cons (d_len rfl T.b_len (a_cons (dv 1) a_nil)) a_nil)) (g_name (i := 3) nd) (s_cons (s_set 4 nd (d_rdP (p_ix rfl (p_nm 2) (dv 3))))
      (s_one (s_if (w_or (t_ne rfl hu (d_isA rfl T.b_isinstance T.g_Piece T.k_Piece (dv 4)) (d_eq rfl hu (d_ix rfl (d_ix rfl (dv 1) (dv 3)) di) ds)) (w_or1 (t_ne rfl hu (d_isA rfl T.b_isinstance T.g_Hold T.k_Hold (dv 4)) (d_eq rfl hu (d_ix rfl (d_ix rfl (dv 1) (dv 3)) di) ds)))).pt (s_one (s_ret dbl)) s_nil))))
      (s_cons (s_app 2 rfl dn)
      (s_one (s_ret dbl))))))
theorem ok_Net_many {f : Addr} {fd : FuncData} (F : Fun kc.K "many" "Net.many" s_Net_many f fd) (T : Txt kc mg)  : FnOk P w kc.K mg base (L2.CX P w) 1 f fd ["self"] (spL kc 1 mL_Net_many) := okL (k := kc) (j := 0) (g := g_Net_many) F sc_Net_many rfl rfl (by decide) fun cdv A outer s H E W hr tk hpo => by
  have hu := hr.units
  have nd := sc_Net_many.nd
  unfold g_Net_many
  exact (s_one (s_ret (d_rdP (p_fld rfl T.f_sizes (p_nm 0)))))
theorem ok_Net_count {f : Addr} {fd : FuncData} (F : Fun kc.K "count" "Net.count" s_Net_count f fd) (T : Txt kc mg)  : FnOk P w kc.K mg base (L2.CX P w) 1 f fd ["self"] (spL kc 1 mL_Net_count) := okL (k := kc) (j := 0) (g := g_Net_count) F sc_Net_count rfl rfl (by decide) fun cdv A outer s H E W hr tk hpo => by
  have hu := hr.units
  have nd := sc_Net_count.nd
  unfold g_Net_count
  exact (s_one (s_ret (d_lenB rfl T.b_len (a_consB (b_brP (p_fld rfl T.f_kept (p_nm 0))) a_nilB))))
theorem ok_law_look {f : Addr} {fd : FuncData} (F : Fun kc.K "_law_look" "_law_look" s_law_look f fd) (T : Txt kc mg) (C_law_objects : Fn P w kc.K mg base kc 5 "_law_objects" 2 m_law_objects) (M_count : ∀ c f, mt_count c = some f → MtL P w kc.K mg base kc 1 c "count" 1 [] f) (M_many : ∀ c f, mt_many c = some f → MtL P w kc.K mg base kc 1 c "many" 1 [] f) (M_told : ∀ c f, mt_told c = some f → MtL P w kc.K mg base kc 2 c "told" 1 [] f) : FnOk P w kc.K mg base CX0 6 f fd ["net", "many", "rows", "first"] (spP kc 4 m_law_look) := okN (k := kc) (j := 5) (g := g_law_look) F sc_law_look rfl rfl (by decide) fun cdv A outer s H E hr => by
  have hu := hr.units
  have nd := sc_law_look.nd
  unfold g_law_look
  exact (s_cons (s_for PassesOwn.never rfl (i_list rfl (d_mlt (f_lst (a_cons (d_mod (dv 3) di) (a_cons (d_mod (d_sum rfl (dv 3) di) di) (a_cons (d_mod (d_sum rfl (dv 3) di) di) a_nil)))))) (g_name (i := 4) nd) (s_cons (s_if (w_and (t_eq rfl hu (dv 4) di) (w_and1 (w_or (t_ne rfl hu (d_mlt (f_methS0 (dds := []) M_many (hr.mono (by decide)) (ob_s (dv 0)))) (dv 1)) (w_or1 (t_ne rfl hu (d_mlt (f_methS0 (dds := []) M_count (hr.mono (by decide)) (ob_s (dv 0)))) (d_len rfl T.b_len (a_cons (dv 2) a_nil))))).pt)).pt (s_one (s_ret dbl)) s_nil)
      (s_cons (s_if (w_and (t_eq rfl hu (dv 4) di) (w_and1 (t_ne rfl hu (d_mlt (f_methS0 (dds := []) M_told (hr.mono (by decide)) (ob_s (dv 0)))) (dv 2)))).pt (s_one (s_ret dbl)) s_nil)
      (s_one (s_if (w_and (t_eq rfl hu (dv 4) di) (w_and1 (t_not (t_val (d_mlt (f_call C_law_objects (hr.mono (by decide)) (a_cons (dv 0) (a_cons (dv 2) a_nil)))))))).pt (s_one (s_ret dbl)) s_nil)))))
      (s_one (s_ret dbl)))
theorem ok_law_mix {f : Addr} {fd : FuncData} (F : Fun kc.K "_law_mix" "_law_mix" s_law_mix f fd) (T : Txt kc mg)  : FnOk P w kc.K mg base CX0 1 f fd ["cell", "prime", "many"] (spP kc 3 m_law_mix) := okN (k := kc) (j := 0) (g := g_law_mix) F sc_law_mix rfl rfl (by decide) fun cdv A outer s H E hr => by
  have hu := hr.units
  have nd := sc_law_mix.nd
  unfold g_law_mix
  exact (s_cons (s_if (t_ge (dv 0) (d_pow di di)) (s_cons (s_set 3 nd (d_shr (dv 0) (d_sum rfl di (d_prd rfl di (d_mod (dv 1) di)))))
      (s_one (s_if (t_gt (dv 3) di) (s_one (s_ret (d_mod (dv 3) (dv 2)))) s_nil))) s_nil)
      (s_cons (s_set 4 nd (d_mod (d_prd rfl (d_sum rfl (d_mod (dv 0) di) di) (dv 1)) di))
      (s_one (s_ret (d_mod (d_mod (d_prd rfl (dv 4) (d_sum rfl (dv 4) (dv 1))) di) (dv 2))))))
theorem ok_law_pick {f : Addr} {fd : FuncData} (F : Fun kc.K "_law_pick" "_law_pick" s_law_pick f fd) (T : Txt kc mg)  : FnOk P w kc.K mg base CX0 1 f fd ["script", "k"] (spP kc 2 m_law_pick) := okN (k := kc) (j := 0) (g := g_law_pick) F sc_law_pick rfl rfl (by decide) fun cdv A outer s H E hr => by
  have hu := hr.units
  have nd := sc_law_pick.nd
  unfold g_law_pick
  exact (s_one (s_ret (d_ix rfl (d_sum rfl (d_mlt (f_sli rfl (dv 0) (o_so (dv 1)) (o_so (d_sum rfl (dv 1) di)))) (d_mlt (f_lst (a_cons di a_nil)))) di)))
theorem ok_law_divisor {f : Addr} {fd : FuncData} (F : Fun kc.K "_law_divisor" "_law_divisor" s_law_divisor f fd) (T : Txt kc mg)  : FnOk P w kc.K mg base CX0 1 f fd ["one", "other"] (spP kc 2 m_law_divisor) := okN (k := kc) (j := 0) (g := g_law_divisor) F sc_law_divisor rfl rfl (by decide) fun cdv A outer s H E hr => by
  have hu := hr.units
  have nd := sc_law_divisor.nd
  unfold g_law_divisor
  exact (s_cons (s_set 0 nd (d_abs T.b_abs (a_cons (dv 0) a_nil)))
      (s_cons (s_while PassesOwn.never (t_ne rfl hu (dv 1) di) (s_one (s_par (i := 0) (j := 1) rfl nd (a_cons (dv 1) (a_cons (d_mod (dv 0) (dv 1)) a_nil)))))
      (s_one (s_ret (dv 0)))))
theorem ok_law_size {f : Addr} {fd : FuncData} (F : Fun kc.K "_law_size" "_law_size" s_law_size f fd) (T : Txt kc mg) (C_law_divisor : Fn P w kc.K mg base kc 1 "_law_divisor" 2 m_law_divisor) (C_law_mix : Fn P w kc.K mg base kc 1 "_law_mix" 3 m_law_mix) : FnOk P w kc.K mg base CX0 2 f fd ["cell", "word"] (spP kc 2 m_law_size) := okN (k := kc) (j := 1) (g := g_law_size) F sc_law_size rfl rfl (by decide) fun cdv A outer s H E hr => by
  have hu := hr.units
  have nd := sc_law_size.nd
  unfold g_law_size
  exact (s_cons (s_set 2 nd (d_sub (d_mod (d_shr (dv 0) di) (d_sum rfl (d_prd rfl di (d_pow di di)) di)) (d_pow di di)))
      (s_cons (s_if (t_eq rfl hu (dv 1) ds) (s_one (s_set 2 nd (d_sum rfl di (d_mod (d_shr (dv 0) di) (d_pow di di))))) s_nil)
      (s_cons (s_set 3 nd (d_sum rfl di (d_mlt (f_call C_law_mix (hr.mono (by decide)) (a_cons (dv 0) (a_cons di (a_cons (d_ix rfl (d_mlt (f_lst (a_cons di (a_cons di a_nil)))) (d_mlt (f_call C_law_mix (hr.mono (by decide)) (a_cons (dv 0) (a_cons di (a_cons di a_nil)))))) a_nil)))))))
      (s_cons (s_set 4 nd (d_mlt (f_call C_law_divisor (hr.mono (by decide)) (a_cons (dv 2) (a_cons (dv 3) a_nil)))))
      (s_one (s_ret (d_tup (a_cons (d_fdv (dv 2) (dv 4)) (a_cons (d_fdv (dv 3) (dv 4)) a_nil)))))))))
theorem ok_divisor {f : Addr} {fd : FuncData} (F : Fun kc.K "divisor" "divisor" s_divisor f fd) (T : Txt kc mg)  : FnOk P w kc.K mg base CX0 1 f fd ["one", "other"] (spP kc 2 m_divisor) := okN (k := kc) (j := 0) (g := g_divisor) F sc_divisor rfl rfl (by decide) fun cdv A outer s H E hr => by
  have hu := hr.units
  have nd := sc_divisor.nd
  unfold g_divisor
  exact (s_cons (s_set 0 nd (d_abs T.b_abs (a_cons (dv 0) a_nil)))
      (s_cons (s_set 1 nd (d_abs T.b_abs (a_cons (dv 1) a_nil)))
      (s_cons (s_while PassesOwn.never (t_ne rfl hu (dv 1) di) (s_one (s_par (i := 0) (j := 1) rfl nd (a_cons (dv 1) (a_cons (d_mod (dv 0) (dv 1)) a_nil)))))
      (s_one (s_ret (dv 0))))))
theorem ok_is_fraction {f : Addr} {fd : FuncData} (F : Fun kc.K "is_fraction" "is_fraction" s_is_fraction f fd) (T : Txt kc mg) (C_divisor : Fn P w kc.K mg base kc 1 "divisor" 2 m_divisor) (C_is_whole : Fn P w kc.K mg base kc 1 "is_whole" 1 m_is_whole) : FnOk P w kc.K mg base CX0 2 f fd ["thing"] (spP kc 1 m_is_fraction) := okN (k := kc) (j := 1) (g := g_is_fraction) F sc_is_fraction rfl rfl (by decide) fun cdv A outer s H E hr => by
  have hu := hr.units
  have nd := sc_is_fraction.nd
  unfold g_is_fraction
  exact (s_cons (s_if (w_or (t_not (t_val (d_isi "tuple" rfl T.b_isinstance T.b_tuple boot_tuple (dv 0)))) (w_or1 (t_ne rfl hu (d_len rfl T.b_len (a_cons (dv 0) a_nil)) di))).pt (s_one (s_ret dbl)) s_nil)
      (s_cons (s_if (w_or (t_not (t_val (d_mlt (f_call C_is_whole (hr.mono (by decide)) (a_cons (d_ix rfl (dv 0) di) a_nil))))) (w_or (t_not (t_val (d_mlt (f_call C_is_whole (hr.mono (by decide)) (a_cons (d_ix rfl (dv 0) di) a_nil))))) (w_or1 (t_lt (d_ix rfl (dv 0) di) di)))).pt (s_one (s_ret dbl)) s_nil)
      (s_one (s_ret (d_eq rfl hu (d_mlt (f_call C_divisor (hr.mono (by decide)) (a_cons (d_ix rfl (dv 0) di) (a_cons (d_ix rfl (dv 0) di) a_nil)))) di)))))
theorem ok_fits {f : Addr} {fd : FuncData} (F : Fun kc.K "fits" "fits" s_fits f fd) (T : Txt kc mg) (C_is_fraction : Fn P w kc.K mg base kc 2 "is_fraction" 1 m_is_fraction) : FnOk P w kc.K mg base CX0 3 f fd ["word", "size"] (spP kc 2 m_fits) := okN (k := kc) (j := 2) (g := g_fits) F sc_fits rfl rfl (by decide) fun cdv A outer s H E hr => by
  have hu := hr.units
  have nd := sc_fits.nd
  unfold g_fits
  exact (s_one (s_ret (v_and (v_val (d_mlt (f_call C_is_fraction (hr.mono (by decide)) (a_cons (dv 1) a_nil)))) (v_one (v_or (v_val (d_ne rfl hu (dv 0) ds)) (v_one (v_val (d_gt (d_ix rfl (dv 1) di) di))))))))
theorem ok_Net_has {f : Addr} {fd : FuncData} (F : Fun kc.K "has" "Net.has" s_Net_has f fd) (T : Txt kc mg) (C_is_whole : Fn P w kc.K mg base kc 1 "is_whole" 1 m_is_whole) : FnOk P w kc.K mg base (L2.CX P w) 2 f fd ["self", "point"] (spL kc 2 mL_Net_has) := okL (k := kc) (j := 1) (g := g_Net_has) F sc_Net_has rfl rfl (by decide) fun cdv A outer s H E W hr tk hpo => by
  have hu := hr.units
  have nd := sc_Net_has.nd
  unfold g_Net_has
  exact (s_one (s_ret (v_and (v_val (d_mlt (f_call C_is_whole (hr.mono (by decide)) (a_cons (dv 1) a_nil)))) (v_one (v_val (d_chn_lelt di (dv 1) (d_rdP (p_fld rfl T.f_sizes (p_nm 0)))))))))
theorem ok_Net_add {f : Addr} {fd : FuncData} (F : Fun kc.K "add" "Net.add" s_Net_add f fd) (T : Txt kc mg) (C_fits : Fn P w kc.K mg base kc 3 "fits" 2 m_fits) (M_has : ∀ c f, mt_has c = some f → MtL P w kc.K mg base kc 2 c "has" 2 [] f) (M_told : ∀ c f, mt_told c = some f → MtL P w kc.K mg base kc 2 c "told" 1 [] f) (M_word : ∀ c f, mt_word c = some f → MtL P w kc.K mg base kc 1 c "word" 1 [] f) : FnOk P w kc.K mg base (L2.CX P w) 4 f fd ["self", "row"] (spL kc 2 mL_Net_add) := okL (k := kc) (j := 3) (g := g_Net_add) F sc_Net_add rfl rfl (by decide) fun cdv A outer s H E W hr tk hpo => by
  have hu := hr.units
  have nd := sc_Net_add.nd
  obtain ⟨cv_MOST_ROWS, cu_MOST_ROWS, cm_MOST_ROWS, cr_MOST_ROWS, cp_MOST_ROWS⟩ := T.v_MOST_ROWS
  unfold g_Net_add
  exact (s_cons (s_ifE (we_or (te_not (te_val (e_g (g_ofX (pe_methL (dds := []) M_has (hr.mono (by decide)) takes0 (ob_o 0) (al_s (d_fld rfl T.f_start (dv 1)) al_nil)))))) (we_or1 (te_not (te_val (e_g (g_ofX (pe_methL (dds := []) M_has (hr.mono (by decide)) takes0 (ob_o 0) (al_s (d_fld rfl T.f_goal (dv 1)) al_nil)))))))).pt (s_one (s_raise rfl rfl tk T.e_NoPoint)) s_nil)
      (s_cons (s_if (t_not (t_val (d_mlt (f_call C_fits (hr.mono (by decide)) (a_cons (d_mlt (f_methS0 (dds := []) M_word (hr.mono (by decide)) (ob_s (dv 1)))) (a_cons (d_fld rfl T.f_size (dv 1)) a_nil)))))) (s_one (s_raise rfl rfl tk T.e_NoSize)) s_nil)
      (s_cons (s_if (t_ge (d_lenB rfl T.b_len (a_consB (b_brP (p_fld rfl T.f_kept (p_nm 0))) a_nilB)) (dg cm_MOST_ROWS cr_MOST_ROWS cp_MOST_ROWS)) (s_one (s_raise rfl rfl tk T.e_TooMany)) s_nil)
      (s_cons (s_appP rfl (p_fld rfl T.f_kept (p_nm 0)) (d_mlt (f_methS0 (dds := []) M_told (hr.mono (by decide)) (ob_s (dv 1)))))
      (s_one (s_ret (d_sub (d_lenB rfl T.b_len (a_consB (b_brP (p_fld rfl T.f_kept (p_nm 0))) a_nilB)) di)))))))
theorem ok_Net_change {f : Addr} {fd : FuncData} (F : Fun kc.K "change" "Net.change" s_Net_change f fd) (T : Txt kc mg) (C_fits : Fn P w kc.K mg base kc 3 "fits" 2 m_fits) (C_is_whole : Fn P w kc.K mg base kc 1 "is_whole" 1 m_is_whole) : FnOk P w kc.K mg base (L2.CX P w) 4 f fd ["self", "k", "size"] (spL kc 3 mL_Net_change) := okL (k := kc) (j := 3) (g := g_Net_change) F sc_Net_change rfl rfl (by decide) fun cdv A outer s H E W hr tk hpo => by
  have hu := hr.units
  have nd := sc_Net_change.nd
  unfold g_Net_change
  exact (s_cons (s_if (w_or (t_not (t_val (d_mlt (f_call C_is_whole (hr.mono (by decide)) (a_cons (dv 1) a_nil))))) (w_or (t_lt (dv 1) di) (w_or1 (t_ge (dv 1) (d_lenB rfl T.b_len (a_consB (b_brP (p_fld rfl T.f_kept (p_nm 0))) a_nilB)))))).pt (s_one (s_raise rfl rfl tk T.e_NoRow)) s_nil)
      (s_cons (s_asg (d_rdP (p_ix rfl (p_fld rfl T.f_kept (p_nm 0)) (dv 1))) (g_tup rfl rfl (g_cons (g_name (i := 3) nd) (g_cons (g_name (i := 4) nd) (g_cons (g_name (i := 5) nd) (g_cons (g_name (i := 6) nd) g_nil))))))
      (s_cons (s_if (t_not (t_val (d_mlt (f_call C_fits (hr.mono (by decide)) (a_cons (dv 3) (a_cons (dv 2) a_nil)))))) (s_one (s_raise rfl rfl tk T.e_NoSize)) s_nil)
      (s_one (s_stiP rfl (p_fld rfl T.f_kept (p_nm 0)) (d_tup (a_cons (dv 3) (a_cons (dv 4) (a_cons (dv 5) (a_cons (dv 2) a_nil))))) (dv 1))))))
theorem ok_law_answer {f : Addr} {fd : FuncData} (F : Fun kc.K "_law_answer" "_law_answer" s_law_answer f fd) (T : Txt kc mg) (M_add : ∀ c f, mt_add c = some f → MtL P w kc.K mg base kc 4 c "add" 2 [] f) (M_change : ∀ c f, mt_change c = some f → MtL P w kc.K mg base kc 4 c "change" 3 [] f) : FnOk P w kc.K mg base (L2.CX P w) 5 f fd ["net", "deed", "row", "k", "size"] (spL kc 5 mL_law_answer) := okL (k := kc) (j := 4) (g := g_law_answer) F sc_law_answer rfl rfl (by decide) fun cdv A outer s H E W hr tk hpo => by
  have hu := hr.units
  have nd := sc_law_answer.nd
  unfold g_law_answer
  exact (s_cons (s_set 5 nd dn)
      (s_cons (s_set 6 nd dn)
      (s_cons (s_try rfl tk (fun W tp xe tk hpo => (s_one (s_if (t_eq rfl hu (dv 1) ds) (s_one (s_setGXM 6 nd (pe_methL (dds := []) M_add (hr.mono (by decide)) tk (ob_o 0) (al_s (dv 2) al_nil)))) (s_one (s_setGXM 6 nd (pe_methL (dds := []) M_change (hr.mono (by decide)) tk (ob_o 0) (al_s (dv 3) (al_s (dv 4) al_nil)))))))) (.named (i := 7) nd rfl rfl ⟨rfl, by decide, .inl T.g_OhmError⟩ T.u_OhmError (fun _ _ => (s_one (s_set 5 nd (dv 7)))) .nil))
      (s_cons (s_if (w_and (t_val (d_isA rfl T.b_isinstance T.g_NoPoint T.k_NoPoint (dv 5))) (w_and1 (t_not (t_val (d_isAT rfl T.b_isinstance (pcs_own T.g_NoSize (pcs_own T.g_NoRow (pcs_own T.g_TooMany pcs_nil))) T.t_NoSize_NoRow_TooMany (by simp) (dv 5)))))).pt (s_one (s_ret (d_tup (a_cons ds (a_cons ds a_nil))))) s_nil)
      (s_cons (s_if (w_and (t_val (d_isA rfl T.b_isinstance T.g_NoSize T.k_NoSize (dv 5))) (w_and1 (t_not (t_val (d_isAT rfl T.b_isinstance (pcs_own T.g_NoPoint (pcs_own T.g_NoRow (pcs_own T.g_TooMany pcs_nil))) T.t_NoPoint_NoRow_TooMany (by simp) (dv 5)))))).pt (s_one (s_ret (d_tup (a_cons ds (a_cons ds a_nil))))) s_nil)
      (s_cons (s_if (w_and (t_val (d_isA rfl T.b_isinstance T.g_NoRow T.k_NoRow (dv 5))) (w_and1 (t_not (t_val (d_isAT rfl T.b_isinstance (pcs_own T.g_NoSize (pcs_own T.g_NoPoint (pcs_own T.g_TooMany pcs_nil))) T.t_NoSize_NoPoint_TooMany (by simp) (dv 5)))))).pt (s_one (s_ret (d_tup (a_cons ds (a_cons ds a_nil))))) s_nil)
      (s_one (s_ret (d_tup (a_cons ds (a_cons (dv 6) (a_cons (d_isN (dv 5)) (a_cons (d_isi "bool" rfl T.b_isinstance T.b_bool boot_bool (dv 6)) a_nil)))))))))))))
theorem ok_law_bad_size {f : Addr} {fd : FuncData} (F : Fun kc.K "_law_bad_size" "_law_bad_size" s_law_bad_size f fd) (T : Txt kc mg) (C_law_mix : Fn P w kc.K mg base kc 1 "_law_mix" 3 m_law_mix) : FnOk P w kc.K mg base CX0 2 f fd ["cell", "word", "size"] (spP kc 3 m_law_bad_size) := okN (k := kc) (j := 1) (g := g_law_bad_size) F sc_law_bad_size rfl rfl (by decide) fun cdv A outer s H E hr => by
  have hu := hr.units
  have nd := sc_law_bad_size.nd
  unfold g_law_bad_size
  exact (s_cons (s_set 3 nd (d_mlt (f_call C_law_mix (hr.mono (by decide)) (a_cons (dv 0) (a_cons di (a_cons di a_nil))))))
      (s_cons (s_if (w_and (t_eq rfl hu (dv 1) ds) (w_and1 (t_lt (dv 3) di))).pt (s_one (s_ret (d_ix rfl (d_mlt (f_lst (a_cons (d_tup (a_cons di (a_cons di a_nil))) (a_cons (d_tup (a_cons (d_sub di (d_ix rfl (dv 2) di)) (a_cons (d_ix rfl (dv 2) di) a_nil))) a_nil)))) (dv 3)))) s_nil)
      (s_cons (s_if (t_eq rfl hu (dv 3) di) (s_one (s_retO (f_lst (a_cons (d_ix rfl (dv 2) di) (a_cons (d_ix rfl (dv 2) di) a_nil))))) s_nil)
      (s_cons (s_if (t_eq rfl hu (dv 3) di) (s_cons (s_set 4 nd (d_mlt (f_lst (a_cons dn (a_cons di (a_cons (d_tup (a_cons di (a_cons di a_nil))) (a_cons (d_tup (a_cons dbl (a_cons di a_nil))) (a_cons (d_tup (a_cons di (a_cons (d_neg di) a_nil))) (a_cons (d_tup (a_cons (d_neg di) (a_cons (d_neg di) a_nil))) (a_cons (d_tup (a_cons di (a_cons dbl a_nil))) (a_cons (d_tup (a_cons di (a_cons di (a_cons di a_nil)))) (a_cons ds (a_cons d_dnew (a_cons (d_tup (a_cons (d_mlt (f_lst (a_cons di a_nil))) (a_cons di a_nil))) (a_cons (d_tup (a_cons di (a_cons (d_mlt (f_lst (a_cons di a_nil))) a_nil))) a_nil)))))))))))))))
      (s_one (s_ret (d_ix rfl (dv 4) (d_mlt (f_call C_law_mix (hr.mono (by decide)) (a_cons (dv 0) (a_cons di (a_cons di a_nil))))))))) s_nil)
      (s_one (s_ret (d_tup (a_cons (d_prd rfl di (d_ix rfl (dv 2) di)) (a_cons (d_prd rfl di (d_ix rfl (dv 2) di)) a_nil)))))))))
theorem ok_law_change {f : Addr} {fd : FuncData} (F : Fun kc.K "_law_change" "_law_change" s_law_change f fd) (T : Txt kc mg) (C_law_bad_size : Fn P w kc.K mg base kc 2 "_law_bad_size" 3 m_law_bad_size) (C_law_mix : Fn P w kc.K mg base kc 1 "_law_mix" 3 m_law_mix) (C_law_size : Fn P w kc.K mg base kc 2 "_law_size" 2 m_law_size) (L_law_answer : FnL P w kc.K mg base kc 5 "_law_answer" 5 [] mL_law_answer) : FnOk P w kc.K mg base (L2.CX P w) 6 f fd ["net", "rows", "cell"] (spL kc 3 mL_law_change) := okL (k := kc) (j := 5) (g := g_law_change) F sc_law_change rfl rfl (by decide) fun cdv A outer s H E W hr tk hpo => by
  have hu := hr.units
  have nd := sc_law_change.nd
  unfold g_law_change
  exact (s_cons (s_set 3 nd (d_mlt (f_call C_law_mix (hr.mono (by decide)) (a_cons (dv 2) (a_cons di (a_cons (d_sum rfl (d_lenB rfl T.b_len (a_consB (b_brP (p_nm 1)) a_nilB)) di) a_nil))))))
      (s_cons (s_if (t_eq rfl hu (dv 3) (d_lenB rfl T.b_len (a_consB (b_brP (p_nm 1)) a_nilB))) (s_cons (s_set 3 nd (d_ix rfl (d_mlt (f_lst (a_cons (d_lenB rfl T.b_len (a_consB (b_brP (p_nm 1)) a_nilB)) (a_cons (d_neg di) (a_cons dbl (a_cons dn (a_cons ds (a_cons (d_tup (a_cons di a_nil)) (a_cons (d_pow di di) (a_cons (d_mlt (f_lst (a_cons di a_nil))) (a_cons d_dnew a_nil))))))))))) (d_mlt (f_call C_law_mix (hr.mono (by decide)) (a_cons (dv 2) (a_cons di (a_cons di a_nil)))))))
      (s_cons (s_set 4 nd (d_ix rfl (d_mlt (f_lst (a_cons (d_tup (a_cons di (a_cons di a_nil))) (a_cons (d_tup (a_cons di (a_cons di a_nil))) a_nil)))) (d_mlt (f_call C_law_mix (hr.mono (by decide)) (a_cons (dv 2) (a_cons di (a_cons di a_nil)))))))
      (s_one (s_retG (g_ofE (e_eq rfl hu (e_g (g_ofX (pe_callL (dds := []) L_law_answer (hr.mono (by decide)) takes0 (al_o 0 (al_s ds (al_s dn (al_s (dv 3) (al_s (dv 4) al_nil)))))))) (e_of (d_tup (a_cons ds (a_cons ds a_nil)))))))))) s_nil)
      (s_cons (s_asg (d_rdP (p_ix rfl (p_nm 1) (dv 3))) (g_tup rfl rfl (g_cons (g_name (i := 5) nd) (g_cons (g_name (i := 6) nd) (g_cons (g_name (i := 7) nd) (g_cons (g_name (i := 8) nd) g_nil))))))
      (s_cons (s_set 4 nd (d_mlt (f_call C_law_size (hr.mono (by decide)) (a_cons (dv 2) (a_cons (dv 5) a_nil)))))
      (s_cons (s_if (t_eq rfl hu (d_mlt (f_call C_law_mix (hr.mono (by decide)) (a_cons (dv 2) (a_cons di (a_cons di a_nil))))) di) (s_one (s_retG (g_ofE (e_eq rfl hu (e_g (g_ofX (pe_callL (dds := []) L_law_answer (hr.mono (by decide)) takes0 (al_o 0 (al_s ds (al_s dn (al_s (dv 3) (al_s (d_mlt (f_call C_law_bad_size (hr.mono (by decide)) (a_cons (dv 2) (a_cons (dv 5) (a_cons (dv 4) a_nil))))) al_nil)))))))) (e_of (d_tup (a_cons ds (a_cons ds a_nil)))))))) s_nil)
      (s_cons (s_ifE (te_ne rfl hu (e_g (g_ofX (pe_callL (dds := []) L_law_answer (hr.mono (by decide)) takes0 (al_o 0 (al_s ds (al_s dn (al_s (dv 3) (al_s (dv 4) al_nil)))))))) (e_of (d_tup (a_cons ds (a_cons dn (a_cons dbl (a_cons dbl a_nil))))))) (s_one (s_ret dbl)) s_nil)
      (s_cons (s_stiP rfl (p_nm 1) (d_tup (a_cons (dv 5) (a_cons (dv 6) (a_cons (dv 7) (a_cons (dv 4) a_nil))))) (dv 3))
      (s_one (s_ret dbl)))))))))
theorem ok_law_made {f : Addr} {fd : FuncData} (F : Fun kc.K "_law_made" "_law_made" s_law_made f fd) (T : Txt kc mg) (K_Hold : MkL P w kc.K mg base kc 1 "Hold" "Hold" 4 [] mL_Row_init) (K_Piece : MkL P w kc.K mg base kc 1 "Piece" "Piece" 4 [] mL_Row_init) (K_Push : MkL P w kc.K mg base kc 1 "Push" "Push" 4 [] mL_Row_init) : FnOk P w kc.K mg base CX0 3 f fd ["word", "start", "goal", "size"] (spP kc 4 m_law_made) := okN (k := kc) (j := 2) (g := g_law_made) F sc_law_made rfl rfl (by decide) fun cdv A outer s H E hr => by
  have hu := hr.units
  have nd := sc_law_made.nd
  unfold g_law_made
  exact (s_cons (s_if (t_eq rfl hu (dv 0) ds) (s_one (s_retO (f_makeS (dds := []) K_Piece (hr.mono (by decide)) (al_s (dv 1) (al_s (dv 2) (al_s (dv 3) al_nil)))))) s_nil)
      (s_cons (s_if (t_eq rfl hu (dv 0) ds) (s_one (s_retO (f_makeS (dds := []) K_Push (hr.mono (by decide)) (al_s (dv 1) (al_s (dv 2) (al_s (dv 3) al_nil)))))) s_nil)
      (s_one (s_retO (f_makeS (dds := []) K_Hold (hr.mono (by decide)) (al_s (dv 1) (al_s (dv 2) (al_s (dv 3) al_nil))))))))
theorem ok_law_bad_point {f : Addr} {fd : FuncData} (F : Fun kc.K "_law_bad_point" "_law_bad_point" s_law_bad_point f fd) (T : Txt kc mg) (C_law_mix : Fn P w kc.K mg base kc 1 "_law_mix" 3 m_law_mix) : FnOk P w kc.K mg base CX0 2 f fd ["cell", "many"] (spP kc 2 m_law_bad_point) := okN (k := kc) (j := 1) (g := g_law_bad_point) F sc_law_bad_point rfl rfl (by decide) fun cdv A outer s H E hr => by
  have hu := hr.units
  have nd := sc_law_bad_point.nd
  unfold g_law_bad_point
  exact (s_one (s_ret (d_ix rfl (d_mlt (f_lst (a_cons (dv 1) (a_cons (d_neg di) (a_cons dbl (a_cons dn (a_cons (d_sum rfl (dv 1) (d_pow di di)) (a_cons ds (a_cons (d_tup (a_cons di a_nil)) (a_cons (d_mlt (f_lst (a_cons di a_nil))) (a_cons d_dnew a_nil))))))))))) (d_mlt (f_call C_law_mix (hr.mono (by decide)) (a_cons (dv 0) (a_cons di (a_cons di a_nil))))))))
theorem ok_law_add {f : Addr} {fd : FuncData} (F : Fun kc.K "_law_add" "_law_add" s_law_add f fd) (T : Txt kc mg) (C_law_bad_point : Fn P w kc.K mg base kc 2 "_law_bad_point" 2 m_law_bad_point) (C_law_bad_size : Fn P w kc.K mg base kc 2 "_law_bad_size" 3 m_law_bad_size) (C_law_made : Fn P w kc.K mg base kc 3 "_law_made" 4 m_law_made) (C_law_mix : Fn P w kc.K mg base kc 1 "_law_mix" 3 m_law_mix) (C_law_size : Fn P w kc.K mg base kc 2 "_law_size" 2 m_law_size) (L_law_answer : FnL P w kc.K mg base kc 5 "_law_answer" 5 [] mL_law_answer) (M_many : ∀ c f, mt_many c = some f → MtL P w kc.K mg base kc 1 c "many" 1 [] f) : FnOk P w kc.K mg base (L2.CX P w) 6 f fd ["net", "rows", "cell", "handed"] (spL kc 4 mL_law_add) := okL (k := kc) (j := 5) (g := g_law_add) F sc_law_add rfl rfl (by decide) fun cdv A outer s H E W hr tk hpo => by
  have hu := hr.units
  have nd := sc_law_add.nd
  unfold g_law_add
  exact (s_cons (s_set 4 nd (d_ix rfl (d_mlt (f_lst (a_cons ds (a_cons ds (a_cons ds a_nil))))) (d_mlt (f_call C_law_mix (hr.mono (by decide)) (a_cons (dv 2) (a_cons di (a_cons di a_nil)))))))
      (s_cons (s_setG 5 nd (g_ofE (e_g (g_callE C_law_mix (hr.mono (by decide)) (ea_cons (e_of (dv 2)) (ea_cons (e_of di) (ea_cons (e_g (g_ofX (pe_methL0 (dds := []) M_many (hr.mono (by decide)) takes0 (ob_o 0)))) ea_nil)))))))
      (s_cons (s_setG 6 nd (g_ofE (e_g (g_callE C_law_mix (hr.mono (by decide)) (ea_cons (e_of (dv 2)) (ea_cons (e_of di) (ea_cons (e_g (g_ofX (pe_methL0 (dds := []) M_many (hr.mono (by decide)) takes0 (ob_o 0)))) ea_nil)))))))
      (s_cons (s_set 7 nd (d_mlt (f_call C_law_size (hr.mono (by decide)) (a_cons (dv 2) (a_cons (dv 4) a_nil)))))
      (s_cons (s_set 8 nd (d_tup (a_cons ds (a_cons (d_lenB rfl T.b_len (a_consB (b_brP (p_nm 1)) a_nilB)) (a_cons dbl (a_cons dbl a_nil))))))
      (s_cons (s_set 9 nd (d_mlt (f_call C_law_mix (hr.mono (by decide)) (a_cons (dv 2) (a_cons di (a_cons di a_nil))))))
      (s_cons (s_if (w_or (t_eq rfl hu (dv 9) di) (w_or1 (t_eq rfl hu (dv 9) di))).pt (s_cons (s_set 7 nd (d_mlt (f_call C_law_bad_size (hr.mono (by decide)) (a_cons (dv 2) (a_cons (dv 4) (a_cons (dv 7) a_nil))))))
      (s_one (s_set 8 nd (d_tup (a_cons ds (a_cons ds a_nil)))))) s_nil)
      (s_cons (s_if (w_or (t_eq rfl hu (dv 9) di) (w_or1 (t_eq rfl hu (dv 9) di))).pt (s_cons (s_setG 5 nd (g_ofE (e_g (g_callE C_law_bad_point (hr.mono (by decide)) (ea_cons (e_of (dv 2)) (ea_cons (e_g (g_ofX (pe_methL0 (dds := []) M_many (hr.mono (by decide)) takes0 (ob_o 0)))) ea_nil))))))
      (s_one (s_set 8 nd (d_tup (a_cons ds (a_cons ds a_nil)))))) s_nil)
      (s_cons (s_if (t_eq rfl hu (dv 9) di) (s_cons (s_setG 6 nd (g_ofE (e_g (g_callE C_law_bad_point (hr.mono (by decide)) (ea_cons (e_of (dv 2)) (ea_cons (e_g (g_ofX (pe_methL0 (dds := []) M_many (hr.mono (by decide)) takes0 (ob_o 0)))) ea_nil))))))
      (s_one (s_set 8 nd (d_tup (a_cons ds (a_cons ds a_nil)))))) s_nil)
      (s_cons (s_set 10 nd (d_mlt (f_call C_law_made (hr.mono (by decide)) (a_cons (dv 4) (a_cons (dv 5) (a_cons (dv 6) (a_cons (dv 7) a_nil)))))))
      (s_cons (s_ifE (te_ne rfl hu (e_g (g_ofX (pe_callL (dds := []) L_law_answer (hr.mono (by decide)) takes0 (al_o 0 (al_s ds (al_s (dv 10) (al_s di (al_s (dv 7) al_nil)))))))) (e_of (dv 8))) (s_one (s_ret dbl)) s_nil)
      (s_cons (s_appP rfl (p_nm 3) (d_tup (a_cons (d_mlt (f_lst (a_cons (dv 10) a_nil))) (a_cons (d_mlt (f_lst (a_cons (d_tup (a_cons (dv 4) (a_cons (dv 5) (a_cons (dv 6) (a_cons (dv 7) a_nil))))) a_nil))) a_nil))))
      (s_cons (s_if (t_eq rfl hu (d_ix rfl (dv 8) di) ds) (s_one (s_appP rfl (p_nm 1) (d_tup (a_cons (dv 4) (a_cons (dv 5) (a_cons (dv 6) (a_cons (dv 7) a_nil))))))) s_nil)
      (s_one (s_ret dbl)))))))))))))))
theorem ok_law {f : Addr} {fd : FuncData} (F : Fun kc.K "law" "law" s_law f fd) (T : Txt kc mg) (C_law_look : Fn P w kc.K mg base kc 6 "_law_look" 4 m_law_look) (C_law_mix : Fn P w kc.K mg base kc 1 "_law_mix" 3 m_law_mix) (C_law_pick : Fn P w kc.K mg base kc 1 "_law_pick" 2 m_law_pick) (L_law_add : FnL P w kc.K mg base kc 6 "_law_add" 4 [] mL_law_add) (L_law_change : FnL P w kc.K mg base kc 6 "_law_change" 3 [] mL_law_change) (M_rows : ∀ c f, mt_rows c = some f → MtL P w kc.K mg base kc 4 c "rows" 1 [] f) (M_told : ∀ c f, mt_told c = some f → MtL P w kc.K mg base kc 2 c "told" 1 [] f) (K_Net : MkL P w kc.K mg base kc 2 "Net" "Net" 2 [] mL_Net_init) : FnOk P w kc.K mg base CX0 7 f fd ["script"] (spP kc 1 m_law) := okN (k := kc) (j := 6) (g := g_law) F sc_law rfl rfl (by decide) fun cdv A outer s H E hr => by
  have hu := hr.units
  have nd := sc_law.nd
  unfold g_law
  exact (s_cons (s_set 1 nd (d_sum rfl di (d_mlt (f_call C_law_mix (hr.mono (by decide)) (a_cons (d_mlt (f_call C_law_pick (hr.mono (by decide)) (a_cons (dv 0) (a_cons di a_nil)))) (a_cons di (a_cons di a_nil)))))))
      (s_cons (s_setO 2 nd (f_makeS (dds := []) K_Net (hr.mono (by decide)) (al_s (dv 1) al_nil)))
      (s_cons (s_setO 3 nd (f_lst a_nil))
      (s_cons (s_setO 4 nd (f_lst a_nil))
      (s_cons (s_setO 5 nd (f_lst a_nil))
      (s_cons (s_for PassesOwn.never rfl (i_list rfl (d_mlt (f_sli rfl (dv 0) (o_so di) (o_so di)))) (g_name (i := 6) nd) (s_cons (s_if (t_eq rfl hu (d_mlt (f_call C_law_mix (hr.mono (by decide)) (a_cons (dv 6) (a_cons di (a_cons di a_nil))))) di) (s_one (s_setGXM 7 nd (pe_callL (dds := []) L_law_change (hr.mono (by decide)) takes0 (al_o 2 (al_o 3 (al_s (dv 6) al_nil)))))) (s_one (s_setGXM 7 nd (pe_callL (dds := []) L_law_add (hr.mono (by decide)) takes0 (al_o 2 (al_o 3 (al_s (dv 6) (al_o 5 al_nil))))))))
      (s_cons (s_if (w_or (t_not (t_val (dv 7))) (w_or1 (t_not (t_val (d_mlt (f_callV C_law_look (hr.mono (by decide)) (av_cons (v_vwP (p_nm 2)) (av_cons (v_of (dv 1)) (av_cons (v_vwP (p_nm 3)) (av_cons (v_of (d_mlt (f_call C_law_mix (hr.mono (by decide)) (a_cons (dv 6) (a_cons di (a_cons di a_nil)))))) av_nil)))))))))).pt (s_one (s_ret dbl)) s_nil)
      (s_cons (s_appE 4 rfl (e_tup (ea_cons (e_g (g_ofX (pe_methL0 (dds := []) M_told (hr.mono (by decide)) takes0 (ob_o 2)))) (ea_cons (e_of (d_mlt (f_cpyP rfl T.b_list (p_nm 3)))) ea_nil))))
      (s_cons (s_appE 5 rfl (e_tup (ea_cons (e_g (g_ofX (pe_methL0 (dds := []) M_rows (hr.mono (by decide)) takes0 (ob_o 2)))) (ea_cons (e_of (d_mlt (f_cpyP rfl T.b_list (p_nm 3)))) ea_nil))))
      (s_one (s_appVG rfl (pe_methL0 (dds := []) M_told (hr.mono (by decide)) takes0 (ob_o 2)))))))))
      (s_cons (s_frz 4 (s_for PassesOwn.never rfl (i_list rfl (dv 4)) (g_tup rfl rfl (g_cons (g_name (i := 8) nd) (g_cons (g_name (i := 9) nd) g_nil))) (s_one (s_if (w_or (t_not (t_val (d_isi "list" rfl T.b_isinstance T.b_list boot_list (dv 8)))) (w_or1 (t_ne rfl hu (dv 8) (dv 9)))).pt (s_one (s_ret dbl)) s_nil))))
      (s_cons (s_frz 5 (s_for PassesOwn.never rfl (i_list rfl (dv 5)) (g_tup rfl rfl (g_cons (g_name (i := 8) nd) (g_cons (g_name (i := 9) nd) g_nil))) (s_one (s_if (t_neC rfl hu (d_mlt (f_lc [("row", 10)] rfl nd (i_list rfl (dv 8)) (blkOk_by (N := N_law) (sc := defScope s_law) (by decide +kernel)) (fun _ _ _ _ _ => (pg_name (i := 10) nd rfl (Or.inl rfl))) (in_name (i := 10) (vs := [10]) (by decide)) (fun _ _ _ _ _ => c_yes) (fun _ _ _ _ _ => (d_mlt (f_methS0 (dds := []) M_told (hr.mono (by decide)) (ob_s (dv 10))))))) (dv 9)) (s_one (s_ret dbl)) s_nil))))
      (s_one (s_ret (d_mlt (f_callV C_law_look (hr.mono (by decide)) (av_cons (v_vwP (p_nm 2)) (av_cons (v_of (dv 1)) (av_cons (v_vwP (p_nm 3)) (av_cons (v_of di) av_nil))))))))))))))))
end
end Pf
namespace Pf
open PySem L2 DL PyProof.Rows

def clf (A_Hold A_Net A_NoPoint A_NoRow A_NoSize A_OhmError A_Piece A_Push A_TooMany : Addr) : String → Addr := fun c => if c = "Hold" then A_Hold else if c = "Net" then A_Net else if c = "NoPoint" then A_NoPoint else if c = "NoRow" then A_NoRow else if c = "NoSize" then A_NoSize else if c = "OhmError" then A_OhmError else if c = "Piece" then A_Piece else if c = "Push" then A_Push else if c = "TooMany" then A_TooMany else 0
theorem all_mk {P : Program} {w : World} {K : PySem.W.Frag} {h : Heap} {mg : Str → Option Value} {fa : Addr} (X : K.In h) (G : h.Ns mainGlobals mg) (hfa : mg "law" = some (.ref fa))
    {A_Hold A_Net A_NoPoint A_NoRow A_NoSize A_OhmError A_Piece A_Push A_TooMany : Addr}
    {Gt_MOST_POINTS : Tok}
    {Gt_MOST_ROWS : Tok}
    {f0 : Addr} {od0 an0 : Option Addr} {sl0 : Array (Option Value)} {oc0 kV0 dc0 pm0 cd0 ct0 : Value}
    {f1 : Addr} {od1 an1 : Option Addr} {sl1 : Array (Option Value)} {oc1 kV1 dc1 pm1 cd1 ct1 : Value}
    {f2 : Addr} {od2 an2 : Option Addr} {sl2 : Array (Option Value)} {oc2 kV2 dc2 pm2 cd2 ct2 : Value}
    {f3 : Addr} {od3 an3 : Option Addr} {sl3 : Array (Option Value)} {oc3 kV3 dc3 pm3 cd3 ct3 : Value}
    {f4 : Addr} {od4 an4 : Option Addr} {sl4 : Array (Option Value)} {oc4 kV4 dc4 pm4 cd4 ct4 : Value}
    {f5 : Addr} {od5 an5 : Option Addr} {sl5 : Array (Option Value)} {oc5 kV5 dc5 pm5 cd5 ct5 : Value}
    {f6 : Addr} {od6 an6 : Option Addr} {sl6 : Array (Option Value)} {oc6 kV6 dc6 pm6 cd6 ct6 : Value}
    {f7 : Addr} {od7 an7 : Option Addr} {sl7 : Array (Option Value)} {oc7 kV7 dc7 pm7 cd7 ct7 : Value}
    {f8 : Addr} {od8 an8 : Option Addr} {sl8 : Array (Option Value)} {oc8 kV8 dc8 pm8 cd8 ct8 : Value}
    {f9 : Addr} {od9 an9 : Option Addr} {sl9 : Array (Option Value)} {oc9 kV9 dc9 pm9 cd9 ct9 : Value}
    {f10 : Addr} {od10 an10 : Option Addr} {sl10 : Array (Option Value)} {oc10 kV10 dc10 pm10 cd10 ct10 : Value}
    {f11 : Addr} {od11 an11 : Option Addr} {sl11 : Array (Option Value)} {oc11 kV11 dc11 pm11 cd11 ct11 : Value}
    {f12 : Addr} {od12 an12 : Option Addr} {sl12 : Array (Option Value)} {oc12 kV12 dc12 pm12 cd12 ct12 : Value}
    {f13 : Addr} {od13 an13 : Option Addr} {sl13 : Array (Option Value)} {oc13 kV13 dc13 pm13 cd13 ct13 : Value}
    {f14 : Addr} {od14 an14 : Option Addr} {sl14 : Array (Option Value)} {oc14 kV14 dc14 pm14 cd14 ct14 : Value}
    {f15 : Addr} {od15 an15 : Option Addr} {sl15 : Array (Option Value)} {oc15 kV15 dc15 pm15 cd15 ct15 : Value}
    {f16 : Addr} {od16 an16 : Option Addr} {sl16 : Array (Option Value)} {oc16 kV16 dc16 pm16 cd16 ct16 : Value}
    {f17 : Addr} {od17 an17 : Option Addr} {sl17 : Array (Option Value)} {oc17 kV17 dc17 pm17 cd17 ct17 : Value}
    {f18 : Addr} {od18 an18 : Option Addr} {sl18 : Array (Option Value)} {oc18 kV18 dc18 pm18 cd18 ct18 : Value}
    {f19 : Addr} {od19 an19 : Option Addr} {sl19 : Array (Option Value)} {oc19 kV19 dc19 pm19 cd19 ct19 : Value}
    {f20 : Addr} {od20 an20 : Option Addr} {sl20 : Array (Option Value)} {oc20 kV20 dc20 pm20 cd20 ct20 : Value}
    {f21 : Addr} {od21 an21 : Option Addr} {sl21 : Array (Option Value)} {oc21 kV21 dc21 pm21 cd21 ct21 : Value}
    {f22 : Addr} {od22 an22 : Option Addr} {sl22 : Array (Option Value)} {oc22 kV22 dc22 pm22 cd22 ct22 : Value}
    {f23 : Addr} {od23 an23 : Option Addr} {sl23 : Array (Option Value)} {oc23 kV23 dc23 pm23 cd23 ct23 : Value}
    {f24 : Addr} {od24 an24 : Option Addr} {sl24 : Array (Option Value)} {oc24 kV24 dc24 pm24 cd24 ct24 : Value}
    {f25 : Addr} {od25 an25 : Option Addr} {sl25 : Array (Option Value)} {oc25 kV25 dc25 pm25 cd25 ct25 : Value}
    {f26 : Addr} {od26 an26 : Option Addr} {sl26 : Array (Option Value)} {oc26 kV26 dc26 pm26 cd26 ct26 : Value}
    {f27 : Addr} {od27 an27 : Option Addr} {sl27 : Array (Option Value)} {oc27 kV27 dc27 pm27 cd27 ct27 : Value}
    {f28 : Addr} {od28 an28 : Option Addr} {sl28 : Array (Option Value)} {oc28 kV28 dc28 pm28 cd28 ct28 : Value}
    {f29 : Addr} {od29 an29 : Option Addr} {sl29 : Array (Option Value)} {oc29 kV29 dc29 pm29 cd29 ct29 : Value}
    {f30 : Addr} {od30 an30 : Option Addr} {sl30 : Array (Option Value)} {oc30 kV30 dc30 pm30 cd30 ct30 : Value}
    (x_Hold : PySem.W.nsIn K mainGlobals "Hold" = some (some (.ref A_Hold)))
    (x_Net : PySem.W.nsIn K mainGlobals "Net" = some (some (.ref A_Net)))
    (x_NoPoint : PySem.W.nsIn K mainGlobals "NoPoint" = some (some (.ref A_NoPoint)))
    (x_NoRow : PySem.W.nsIn K mainGlobals "NoRow" = some (some (.ref A_NoRow)))
    (x_NoSize : PySem.W.nsIn K mainGlobals "NoSize" = some (some (.ref A_NoSize)))
    (x_OhmError : PySem.W.nsIn K mainGlobals "OhmError" = some (some (.ref A_OhmError)))
    (x_Piece : PySem.W.nsIn K mainGlobals "Piece" = some (some (.ref A_Piece)))
    (x_Push : PySem.W.nsIn K mainGlobals "Push" = some (some (.ref A_Push)))
    (x_TooMany : PySem.W.nsIn K mainGlobals "TooMany" = some (some (.ref A_TooMany)))
    (q_NoPoint : PySem.W.excIn K A_NoPoint [Value.type "ValueError", Value.type "Exception", Value.type "BaseException", Value.type "object"] "ValueError.__new__" = true)
    (kp_NoPoint : PySem.W.keepIn K (.ref A_NoPoint) = true)
    (sb_NoPoint : PySem.W.subIn K (.ref A_NoPoint) (.type "BaseException") = some true)
    (ty_NoPoint : PySem.W.typeIn K (.ref A_NoPoint) = some (.type "type"))
    (cl_NoPoint : PySem.W.isClsIn K A_NoPoint = true)
    (ga_NoPoint : PySem.W.findIn K (.ref A_NoPoint) "__getattribute__" = some (some (.builtin "BaseException.__getattribute__")))
    (gg_NoPoint : PySem.W.findIn K (.ref A_NoPoint) "__getattr__" = some none)
    (hd_NoPoint : PySem.W.hasDictIn K A_NoPoint = true)
    (ca_NoPoint : PySem.W.findIn K (.ref A_NoPoint) "__class__" = some (some (.builtin "object.__class__")))
    (mo_NoPoint : PySem.W.mroIn K A_NoPoint (.type "object") = some true)
    (em_NoPoint_OhmError : PySem.W.exmOne K (.ref A_NoPoint) (.ref A_OhmError) = some true)
    (s_NoPoint_Hold : PySem.W.subIn K (.ref A_NoPoint) (.ref A_Hold) = some false)
    (s_NoPoint_NoPoint : PySem.W.subIn K (.ref A_NoPoint) (.ref A_NoPoint) = some true)
    (s_NoPoint_NoRow : PySem.W.subIn K (.ref A_NoPoint) (.ref A_NoRow) = some false)
    (s_NoPoint_NoSize : PySem.W.subIn K (.ref A_NoPoint) (.ref A_NoSize) = some false)
    (s_NoPoint_Piece : PySem.W.subIn K (.ref A_NoPoint) (.ref A_Piece) = some false)
    (s_NoPoint_TooMany : PySem.W.subIn K (.ref A_NoPoint) (.ref A_TooMany) = some false)
    (q_NoRow : PySem.W.excIn K A_NoRow [Value.type "ValueError", Value.type "Exception", Value.type "BaseException", Value.type "object"] "ValueError.__new__" = true)
    (kp_NoRow : PySem.W.keepIn K (.ref A_NoRow) = true)
    (sb_NoRow : PySem.W.subIn K (.ref A_NoRow) (.type "BaseException") = some true)
    (ty_NoRow : PySem.W.typeIn K (.ref A_NoRow) = some (.type "type"))
    (cl_NoRow : PySem.W.isClsIn K A_NoRow = true)
    (ga_NoRow : PySem.W.findIn K (.ref A_NoRow) "__getattribute__" = some (some (.builtin "BaseException.__getattribute__")))
    (gg_NoRow : PySem.W.findIn K (.ref A_NoRow) "__getattr__" = some none)
    (hd_NoRow : PySem.W.hasDictIn K A_NoRow = true)
    (ca_NoRow : PySem.W.findIn K (.ref A_NoRow) "__class__" = some (some (.builtin "object.__class__")))
    (mo_NoRow : PySem.W.mroIn K A_NoRow (.type "object") = some true)
    (em_NoRow_OhmError : PySem.W.exmOne K (.ref A_NoRow) (.ref A_OhmError) = some true)
    (s_NoRow_Hold : PySem.W.subIn K (.ref A_NoRow) (.ref A_Hold) = some false)
    (s_NoRow_NoPoint : PySem.W.subIn K (.ref A_NoRow) (.ref A_NoPoint) = some false)
    (s_NoRow_NoRow : PySem.W.subIn K (.ref A_NoRow) (.ref A_NoRow) = some true)
    (s_NoRow_NoSize : PySem.W.subIn K (.ref A_NoRow) (.ref A_NoSize) = some false)
    (s_NoRow_Piece : PySem.W.subIn K (.ref A_NoRow) (.ref A_Piece) = some false)
    (s_NoRow_TooMany : PySem.W.subIn K (.ref A_NoRow) (.ref A_TooMany) = some false)
    (q_NoSize : PySem.W.excIn K A_NoSize [Value.type "ValueError", Value.type "Exception", Value.type "BaseException", Value.type "object"] "ValueError.__new__" = true)
    (kp_NoSize : PySem.W.keepIn K (.ref A_NoSize) = true)
    (sb_NoSize : PySem.W.subIn K (.ref A_NoSize) (.type "BaseException") = some true)
    (ty_NoSize : PySem.W.typeIn K (.ref A_NoSize) = some (.type "type"))
    (cl_NoSize : PySem.W.isClsIn K A_NoSize = true)
    (ga_NoSize : PySem.W.findIn K (.ref A_NoSize) "__getattribute__" = some (some (.builtin "BaseException.__getattribute__")))
    (gg_NoSize : PySem.W.findIn K (.ref A_NoSize) "__getattr__" = some none)
    (hd_NoSize : PySem.W.hasDictIn K A_NoSize = true)
    (ca_NoSize : PySem.W.findIn K (.ref A_NoSize) "__class__" = some (some (.builtin "object.__class__")))
    (mo_NoSize : PySem.W.mroIn K A_NoSize (.type "object") = some true)
    (em_NoSize_OhmError : PySem.W.exmOne K (.ref A_NoSize) (.ref A_OhmError) = some true)
    (s_NoSize_Hold : PySem.W.subIn K (.ref A_NoSize) (.ref A_Hold) = some false)
    (s_NoSize_NoPoint : PySem.W.subIn K (.ref A_NoSize) (.ref A_NoPoint) = some false)
    (s_NoSize_NoRow : PySem.W.subIn K (.ref A_NoSize) (.ref A_NoRow) = some false)
    (s_NoSize_NoSize : PySem.W.subIn K (.ref A_NoSize) (.ref A_NoSize) = some true)
    (s_NoSize_Piece : PySem.W.subIn K (.ref A_NoSize) (.ref A_Piece) = some false)
    (s_NoSize_TooMany : PySem.W.subIn K (.ref A_NoSize) (.ref A_TooMany) = some false)
    (q_TooMany : PySem.W.excIn K A_TooMany [Value.type "ValueError", Value.type "Exception", Value.type "BaseException", Value.type "object"] "ValueError.__new__" = true)
    (kp_TooMany : PySem.W.keepIn K (.ref A_TooMany) = true)
    (sb_TooMany : PySem.W.subIn K (.ref A_TooMany) (.type "BaseException") = some true)
    (ty_TooMany : PySem.W.typeIn K (.ref A_TooMany) = some (.type "type"))
    (cl_TooMany : PySem.W.isClsIn K A_TooMany = true)
    (ga_TooMany : PySem.W.findIn K (.ref A_TooMany) "__getattribute__" = some (some (.builtin "BaseException.__getattribute__")))
    (gg_TooMany : PySem.W.findIn K (.ref A_TooMany) "__getattr__" = some none)
    (hd_TooMany : PySem.W.hasDictIn K A_TooMany = true)
    (ca_TooMany : PySem.W.findIn K (.ref A_TooMany) "__class__" = some (some (.builtin "object.__class__")))
    (mo_TooMany : PySem.W.mroIn K A_TooMany (.type "object") = some true)
    (em_TooMany_OhmError : PySem.W.exmOne K (.ref A_TooMany) (.ref A_OhmError) = some true)
    (s_TooMany_Hold : PySem.W.subIn K (.ref A_TooMany) (.ref A_Hold) = some false)
    (s_TooMany_NoPoint : PySem.W.subIn K (.ref A_TooMany) (.ref A_NoPoint) = some false)
    (s_TooMany_NoRow : PySem.W.subIn K (.ref A_TooMany) (.ref A_NoRow) = some false)
    (s_TooMany_NoSize : PySem.W.subIn K (.ref A_TooMany) (.ref A_NoSize) = some false)
    (s_TooMany_Piece : PySem.W.subIn K (.ref A_TooMany) (.ref A_Piece) = some false)
    (s_TooMany_TooMany : PySem.W.subIn K (.ref A_TooMany) (.ref A_TooMany) = some true)
    (pg_Hold : PySem.W.plainGet K A_Hold Str.empty = true)
    (dh_Hold : PySem.W.hasDictIn K A_Hold = true)
    (po_Hold : PySem.W.plainOver K A_Hold = true)
    (sa_Hold : PySem.W.findIn K (.ref A_Hold) "__setattr__" = some (some (.builtin "object.__setattr__")))
    (mk_Hold : PySem.W.makesIn K A_Hold = true)
    (kc_Hold : PySem.W.keepIn K (.ref A_Hold) = true)
    (oa_Hold : PySem.W.findIn K (.ref A_Hold) "__class__" = some (some (.builtin "object.__class__")))
    (om_Hold : PySem.W.mroIn K A_Hold (.type "object") = some true)
    (s_Hold_Hold : PySem.W.subIn K (.ref A_Hold) (.ref A_Hold) = some true)
    (s_Hold_NoPoint : PySem.W.subIn K (.ref A_Hold) (.ref A_NoPoint) = some false)
    (s_Hold_NoRow : PySem.W.subIn K (.ref A_Hold) (.ref A_NoRow) = some false)
    (s_Hold_NoSize : PySem.W.subIn K (.ref A_Hold) (.ref A_NoSize) = some false)
    (s_Hold_Piece : PySem.W.subIn K (.ref A_Hold) (.ref A_Piece) = some false)
    (s_Hold_TooMany : PySem.W.subIn K (.ref A_Hold) (.ref A_TooMany) = some false)
    (pg_Net : PySem.W.plainGet K A_Net Str.empty = true)
    (dh_Net : PySem.W.hasDictIn K A_Net = true)
    (po_Net : PySem.W.plainOver K A_Net = true)
    (sa_Net : PySem.W.findIn K (.ref A_Net) "__setattr__" = some (some (.builtin "object.__setattr__")))
    (mk_Net : PySem.W.makesIn K A_Net = true)
    (kc_Net : PySem.W.keepIn K (.ref A_Net) = true)
    (oa_Net : PySem.W.findIn K (.ref A_Net) "__class__" = some (some (.builtin "object.__class__")))
    (om_Net : PySem.W.mroIn K A_Net (.type "object") = some true)
    (s_Net_Hold : PySem.W.subIn K (.ref A_Net) (.ref A_Hold) = some false)
    (s_Net_Net : PySem.W.subIn K (.ref A_Net) (.ref A_Net) = some true)
    (s_Net_NoPoint : PySem.W.subIn K (.ref A_Net) (.ref A_NoPoint) = some false)
    (s_Net_NoRow : PySem.W.subIn K (.ref A_Net) (.ref A_NoRow) = some false)
    (s_Net_NoSize : PySem.W.subIn K (.ref A_Net) (.ref A_NoSize) = some false)
    (s_Net_Piece : PySem.W.subIn K (.ref A_Net) (.ref A_Piece) = some false)
    (s_Net_TooMany : PySem.W.subIn K (.ref A_Net) (.ref A_TooMany) = some false)
    (pg_Piece : PySem.W.plainGet K A_Piece Str.empty = true)
    (dh_Piece : PySem.W.hasDictIn K A_Piece = true)
    (po_Piece : PySem.W.plainOver K A_Piece = true)
    (sa_Piece : PySem.W.findIn K (.ref A_Piece) "__setattr__" = some (some (.builtin "object.__setattr__")))
    (mk_Piece : PySem.W.makesIn K A_Piece = true)
    (kc_Piece : PySem.W.keepIn K (.ref A_Piece) = true)
    (oa_Piece : PySem.W.findIn K (.ref A_Piece) "__class__" = some (some (.builtin "object.__class__")))
    (om_Piece : PySem.W.mroIn K A_Piece (.type "object") = some true)
    (s_Piece_Hold : PySem.W.subIn K (.ref A_Piece) (.ref A_Hold) = some false)
    (s_Piece_NoPoint : PySem.W.subIn K (.ref A_Piece) (.ref A_NoPoint) = some false)
    (s_Piece_NoRow : PySem.W.subIn K (.ref A_Piece) (.ref A_NoRow) = some false)
    (s_Piece_NoSize : PySem.W.subIn K (.ref A_Piece) (.ref A_NoSize) = some false)
    (s_Piece_Piece : PySem.W.subIn K (.ref A_Piece) (.ref A_Piece) = some true)
    (s_Piece_TooMany : PySem.W.subIn K (.ref A_Piece) (.ref A_TooMany) = some false)
    (pg_Push : PySem.W.plainGet K A_Push Str.empty = true)
    (dh_Push : PySem.W.hasDictIn K A_Push = true)
    (po_Push : PySem.W.plainOver K A_Push = true)
    (sa_Push : PySem.W.findIn K (.ref A_Push) "__setattr__" = some (some (.builtin "object.__setattr__")))
    (mk_Push : PySem.W.makesIn K A_Push = true)
    (kc_Push : PySem.W.keepIn K (.ref A_Push) = true)
    (oa_Push : PySem.W.findIn K (.ref A_Push) "__class__" = some (some (.builtin "object.__class__")))
    (om_Push : PySem.W.mroIn K A_Push (.type "object") = some true)
    (s_Push_Hold : PySem.W.subIn K (.ref A_Push) (.ref A_Hold) = some false)
    (s_Push_NoPoint : PySem.W.subIn K (.ref A_Push) (.ref A_NoPoint) = some false)
    (s_Push_NoRow : PySem.W.subIn K (.ref A_Push) (.ref A_NoRow) = some false)
    (s_Push_NoSize : PySem.W.subIn K (.ref A_Push) (.ref A_NoSize) = some false)
    (s_Push_Piece : PySem.W.subIn K (.ref A_Push) (.ref A_Piece) = some false)
    (s_Push_Push : PySem.W.subIn K (.ref A_Push) (.ref A_Push) = some true)
    (s_Push_TooMany : PySem.W.subIn K (.ref A_Push) (.ref A_TooMany) = some false)
    (no_Hold_goal : PySem.W.findIn K (.ref A_Hold) "goal" = some none)
    (no_Piece_goal : PySem.W.findIn K (.ref A_Piece) "goal" = some none)
    (no_Push_goal : PySem.W.findIn K (.ref A_Push) "goal" = some none)
    (no_Net_kept : PySem.W.findIn K (.ref A_Net) "kept" = some none)
    (no_Hold_size : PySem.W.findIn K (.ref A_Hold) "size" = some none)
    (no_Piece_size : PySem.W.findIn K (.ref A_Piece) "size" = some none)
    (no_Push_size : PySem.W.findIn K (.ref A_Push) "size" = some none)
    (no_Net_sizes : PySem.W.findIn K (.ref A_Net) "sizes" = some none)
    (no_Hold_start : PySem.W.findIn K (.ref A_Hold) "start" = some none)
    (no_Piece_start : PySem.W.findIn K (.ref A_Piece) "start" = some none)
    (no_Push_start : PySem.W.findIn K (.ref A_Push) "start" = some none)
    (i_Hold : PySem.W.isClsIn K A_Hold = true)
    (tD_Hold : PySem.W.typeIn K (.ref A_Hold) = some (.type "type"))
    (i_NoPoint : PySem.W.isClsIn K A_NoPoint = true)
    (tD_NoPoint : PySem.W.typeIn K (.ref A_NoPoint) = some (.type "type"))
    (i_NoRow : PySem.W.isClsIn K A_NoRow = true)
    (tD_NoRow : PySem.W.typeIn K (.ref A_NoRow) = some (.type "type"))
    (i_NoSize : PySem.W.isClsIn K A_NoSize = true)
    (tD_NoSize : PySem.W.typeIn K (.ref A_NoSize) = some (.type "type"))
    (i_Piece : PySem.W.isClsIn K A_Piece = true)
    (tD_Piece : PySem.W.typeIn K (.ref A_Piece) = some (.type "type"))
    (i_TooMany : PySem.W.isClsIn K A_TooMany = true)
    (tD_TooMany : PySem.W.typeIn K (.ref A_TooMany) = some (.type "type"))
    (hn : PySem.W.specialIn K (.builtin "object.__class__") "__get__" = some (some (.builtin "getset_descriptor.__get__")))
    (ht : PySem.W.takesIn K (.builtin "object.__class__") = some true)
    (z_abs : PySem.W.nsIn K mainGlobals "abs" = some none)
    (z_bool : PySem.W.nsIn K mainGlobals "bool" = some none)
    (z_int : PySem.W.nsIn K mainGlobals "int" = some none)
    (z_isinstance : PySem.W.nsIn K mainGlobals "isinstance" = some none)
    (z_len : PySem.W.nsIn K mainGlobals "len" = some none)
    (z_list : PySem.W.nsIn K mainGlobals "list" = some none)
    (z_range : PySem.W.nsIn K mainGlobals "range" = some none)
    (z_tuple : PySem.W.nsIn K mainGlobals "tuple" = some none)
    (gx_MOST_POINTS : PySem.W.nsIn K mainGlobals "MOST_POINTS" = some (some (.int 20 Gt_MOST_POINTS)))
    (gx_MOST_ROWS : PySem.W.nsIn K mainGlobals "MOST_ROWS" = some (some (.int 40 Gt_MOST_ROWS)))
    (a0 : PySem.W.nsIn K mainGlobals "is_whole" = some (some (.ref f0)))
    (l0 : K.lookup f0 = some ⟨oc0, od0, .func (PySem.W.fnOf "is_whole" "is_whole" (defArgs s_is_whole) (defBody s_is_whole) (defScope s_is_whole) .none kV0 dc0 pm0 an0 cd0 ct0), sl0⟩)
    (c0 : PySem.W.codeIn K cd0 "is_whole" = true)
    (k0 : PySem.W.keepIn K (.ref f0) = true)
    (a1_Net : PySem.W.findIn K (.ref A_Net) "__init__" = some (some (.ref f1)))
    (if1 : PySem.W.isFn K (.ref f1) = true)
    (l1 : K.lookup f1 = some ⟨oc1, od1, .func (PySem.W.fnOf "__init__" "Net.__init__" (defArgs s_Net_init) (defBody s_Net_init) (defScope s_Net_init) .none kV1 dc1 pm1 an1 cd1 ct1), sl1⟩)
    (c1 : PySem.W.codeIn K cd1 "Net.__init__" = true)
    (k1 : PySem.W.keepIn K (.ref f1) = true)
    (a2_Piece : PySem.W.findIn K (.ref A_Piece) "word" = some (some (.ref f2)))
    (if2 : PySem.W.isFn K (.ref f2) = true)
    (l2 : K.lookup f2 = some ⟨oc2, od2, .func (PySem.W.fnOf "word" "Piece.word" (defArgs s_Piece_word) (defBody s_Piece_word) (defScope s_Piece_word) .none kV2 dc2 pm2 an2 cd2 ct2), sl2⟩)
    (c2 : PySem.W.codeIn K cd2 "Piece.word" = true)
    (k2 : PySem.W.keepIn K (.ref f2) = true)
    (a3_Push : PySem.W.findIn K (.ref A_Push) "word" = some (some (.ref f3)))
    (if3 : PySem.W.isFn K (.ref f3) = true)
    (l3 : K.lookup f3 = some ⟨oc3, od3, .func (PySem.W.fnOf "word" "Push.word" (defArgs s_Push_word) (defBody s_Push_word) (defScope s_Push_word) .none kV3 dc3 pm3 an3 cd3 ct3), sl3⟩)
    (c3 : PySem.W.codeIn K cd3 "Push.word" = true)
    (k3 : PySem.W.keepIn K (.ref f3) = true)
    (a4_Hold : PySem.W.findIn K (.ref A_Hold) "word" = some (some (.ref f4)))
    (if4 : PySem.W.isFn K (.ref f4) = true)
    (l4 : K.lookup f4 = some ⟨oc4, od4, .func (PySem.W.fnOf "word" "Hold.word" (defArgs s_Hold_word) (defBody s_Hold_word) (defScope s_Hold_word) .none kV4 dc4 pm4 an4 cd4 ct4), sl4⟩)
    (c4 : PySem.W.codeIn K cd4 "Hold.word" = true)
    (k4 : PySem.W.keepIn K (.ref f4) = true)
    (a5_Piece : PySem.W.findIn K (.ref A_Piece) "told" = some (some (.ref f5)))
    (a5_Push : PySem.W.findIn K (.ref A_Push) "told" = some (some (.ref f5)))
    (a5_Hold : PySem.W.findIn K (.ref A_Hold) "told" = some (some (.ref f5)))
    (if5 : PySem.W.isFn K (.ref f5) = true)
    (l5 : K.lookup f5 = some ⟨oc5, od5, .func (PySem.W.fnOf "told" "Row.told" (defArgs s_Row_told) (defBody s_Row_told) (defScope s_Row_told) .none kV5 dc5 pm5 an5 cd5 ct5), sl5⟩)
    (c5 : PySem.W.codeIn K cd5 "Row.told" = true)
    (k5 : PySem.W.keepIn K (.ref f5) = true)
    (a6_Net : PySem.W.findIn K (.ref A_Net) "told" = some (some (.ref f6)))
    (if6 : PySem.W.isFn K (.ref f6) = true)
    (l6 : K.lookup f6 = some ⟨oc6, od6, .func (PySem.W.fnOf "told" "Net.told" (defArgs s_Net_told) (defBody s_Net_told) (defScope s_Net_told) .none kV6 dc6 pm6 an6 cd6 ct6), sl6⟩)
    (c6 : PySem.W.codeIn K cd6 "Net.told" = true)
    (k6 : PySem.W.keepIn K (.ref f6) = true)
    (a7_Hold : PySem.W.findIn K (.ref A_Hold) "__init__" = some (some (.ref f7)))
    (a7_Piece : PySem.W.findIn K (.ref A_Piece) "__init__" = some (some (.ref f7)))
    (a7_Push : PySem.W.findIn K (.ref A_Push) "__init__" = some (some (.ref f7)))
    (if7 : PySem.W.isFn K (.ref f7) = true)
    (l7 : K.lookup f7 = some ⟨oc7, od7, .func (PySem.W.fnOf "__init__" "Row.__init__" (defArgs s_Row_init) (defBody s_Row_init) (defScope s_Row_init) .none kV7 dc7 pm7 an7 cd7 ct7), sl7⟩)
    (c7 : PySem.W.codeIn K cd7 "Row.__init__" = true)
    (k7 : PySem.W.keepIn K (.ref f7) = true)
    (a8 : PySem.W.nsIn K mainGlobals "row_of" = some (some (.ref f8)))
    (l8 : K.lookup f8 = some ⟨oc8, od8, .func (PySem.W.fnOf "row_of" "row_of" (defArgs s_row_of) (defBody s_row_of) (defScope s_row_of) .none kV8 dc8 pm8 an8 cd8 ct8), sl8⟩)
    (c8 : PySem.W.codeIn K cd8 "row_of" = true)
    (k8 : PySem.W.keepIn K (.ref f8) = true)
    (a9_Net : PySem.W.findIn K (.ref A_Net) "rows" = some (some (.ref f9)))
    (if9 : PySem.W.isFn K (.ref f9) = true)
    (l9 : K.lookup f9 = some ⟨oc9, od9, .func (PySem.W.fnOf "rows" "Net.rows" (defArgs s_Net_rows) (defBody s_Net_rows) (defScope s_Net_rows) .none kV9 dc9 pm9 an9 cd9 ct9), sl9⟩)
    (c9 : PySem.W.codeIn K cd9 "Net.rows" = true)
    (k9 : PySem.W.keepIn K (.ref f9) = true)
    (a10 : PySem.W.nsIn K mainGlobals "_law_objects" = some (some (.ref f10)))
    (l10 : K.lookup f10 = some ⟨oc10, od10, .func (PySem.W.fnOf "_law_objects" "_law_objects" (defArgs s_law_objects) (defBody s_law_objects) (defScope s_law_objects) .none kV10 dc10 pm10 an10 cd10 ct10), sl10⟩)
    (c10 : PySem.W.codeIn K cd10 "_law_objects" = true)
    (k10 : PySem.W.keepIn K (.ref f10) = true)
    (a11_Net : PySem.W.findIn K (.ref A_Net) "many" = some (some (.ref f11)))
    (if11 : PySem.W.isFn K (.ref f11) = true)
    (l11 : K.lookup f11 = some ⟨oc11, od11, .func (PySem.W.fnOf "many" "Net.many" (defArgs s_Net_many) (defBody s_Net_many) (defScope s_Net_many) .none kV11 dc11 pm11 an11 cd11 ct11), sl11⟩)
    (c11 : PySem.W.codeIn K cd11 "Net.many" = true)
    (k11 : PySem.W.keepIn K (.ref f11) = true)
    (a12_Net : PySem.W.findIn K (.ref A_Net) "count" = some (some (.ref f12)))
    (if12 : PySem.W.isFn K (.ref f12) = true)
    (l12 : K.lookup f12 = some ⟨oc12, od12, .func (PySem.W.fnOf "count" "Net.count" (defArgs s_Net_count) (defBody s_Net_count) (defScope s_Net_count) .none kV12 dc12 pm12 an12 cd12 ct12), sl12⟩)
    (c12 : PySem.W.codeIn K cd12 "Net.count" = true)
    (k12 : PySem.W.keepIn K (.ref f12) = true)
    (a13 : PySem.W.nsIn K mainGlobals "_law_look" = some (some (.ref f13)))
    (l13 : K.lookup f13 = some ⟨oc13, od13, .func (PySem.W.fnOf "_law_look" "_law_look" (defArgs s_law_look) (defBody s_law_look) (defScope s_law_look) .none kV13 dc13 pm13 an13 cd13 ct13), sl13⟩)
    (c13 : PySem.W.codeIn K cd13 "_law_look" = true)
    (k13 : PySem.W.keepIn K (.ref f13) = true)
    (a14 : PySem.W.nsIn K mainGlobals "_law_mix" = some (some (.ref f14)))
    (l14 : K.lookup f14 = some ⟨oc14, od14, .func (PySem.W.fnOf "_law_mix" "_law_mix" (defArgs s_law_mix) (defBody s_law_mix) (defScope s_law_mix) .none kV14 dc14 pm14 an14 cd14 ct14), sl14⟩)
    (c14 : PySem.W.codeIn K cd14 "_law_mix" = true)
    (k14 : PySem.W.keepIn K (.ref f14) = true)
    (a15 : PySem.W.nsIn K mainGlobals "_law_pick" = some (some (.ref f15)))
    (l15 : K.lookup f15 = some ⟨oc15, od15, .func (PySem.W.fnOf "_law_pick" "_law_pick" (defArgs s_law_pick) (defBody s_law_pick) (defScope s_law_pick) .none kV15 dc15 pm15 an15 cd15 ct15), sl15⟩)
    (c15 : PySem.W.codeIn K cd15 "_law_pick" = true)
    (k15 : PySem.W.keepIn K (.ref f15) = true)
    (a16 : PySem.W.nsIn K mainGlobals "_law_divisor" = some (some (.ref f16)))
    (l16 : K.lookup f16 = some ⟨oc16, od16, .func (PySem.W.fnOf "_law_divisor" "_law_divisor" (defArgs s_law_divisor) (defBody s_law_divisor) (defScope s_law_divisor) .none kV16 dc16 pm16 an16 cd16 ct16), sl16⟩)
    (c16 : PySem.W.codeIn K cd16 "_law_divisor" = true)
    (k16 : PySem.W.keepIn K (.ref f16) = true)
    (a17 : PySem.W.nsIn K mainGlobals "_law_size" = some (some (.ref f17)))
    (l17 : K.lookup f17 = some ⟨oc17, od17, .func (PySem.W.fnOf "_law_size" "_law_size" (defArgs s_law_size) (defBody s_law_size) (defScope s_law_size) .none kV17 dc17 pm17 an17 cd17 ct17), sl17⟩)
    (c17 : PySem.W.codeIn K cd17 "_law_size" = true)
    (k17 : PySem.W.keepIn K (.ref f17) = true)
    (a18 : PySem.W.nsIn K mainGlobals "divisor" = some (some (.ref f18)))
    (l18 : K.lookup f18 = some ⟨oc18, od18, .func (PySem.W.fnOf "divisor" "divisor" (defArgs s_divisor) (defBody s_divisor) (defScope s_divisor) .none kV18 dc18 pm18 an18 cd18 ct18), sl18⟩)
    (c18 : PySem.W.codeIn K cd18 "divisor" = true)
    (k18 : PySem.W.keepIn K (.ref f18) = true)
    (a19 : PySem.W.nsIn K mainGlobals "is_fraction" = some (some (.ref f19)))
    (l19 : K.lookup f19 = some ⟨oc19, od19, .func (PySem.W.fnOf "is_fraction" "is_fraction" (defArgs s_is_fraction) (defBody s_is_fraction) (defScope s_is_fraction) .none kV19 dc19 pm19 an19 cd19 ct19), sl19⟩)
    (c19 : PySem.W.codeIn K cd19 "is_fraction" = true)
    (k19 : PySem.W.keepIn K (.ref f19) = true)
    (a20 : PySem.W.nsIn K mainGlobals "fits" = some (some (.ref f20)))
    (l20 : K.lookup f20 = some ⟨oc20, od20, .func (PySem.W.fnOf "fits" "fits" (defArgs s_fits) (defBody s_fits) (defScope s_fits) .none kV20 dc20 pm20 an20 cd20 ct20), sl20⟩)
    (c20 : PySem.W.codeIn K cd20 "fits" = true)
    (k20 : PySem.W.keepIn K (.ref f20) = true)
    (a21_Net : PySem.W.findIn K (.ref A_Net) "has" = some (some (.ref f21)))
    (if21 : PySem.W.isFn K (.ref f21) = true)
    (l21 : K.lookup f21 = some ⟨oc21, od21, .func (PySem.W.fnOf "has" "Net.has" (defArgs s_Net_has) (defBody s_Net_has) (defScope s_Net_has) .none kV21 dc21 pm21 an21 cd21 ct21), sl21⟩)
    (c21 : PySem.W.codeIn K cd21 "Net.has" = true)
    (k21 : PySem.W.keepIn K (.ref f21) = true)
    (a22_Net : PySem.W.findIn K (.ref A_Net) "add" = some (some (.ref f22)))
    (if22 : PySem.W.isFn K (.ref f22) = true)
    (l22 : K.lookup f22 = some ⟨oc22, od22, .func (PySem.W.fnOf "add" "Net.add" (defArgs s_Net_add) (defBody s_Net_add) (defScope s_Net_add) .none kV22 dc22 pm22 an22 cd22 ct22), sl22⟩)
    (c22 : PySem.W.codeIn K cd22 "Net.add" = true)
    (k22 : PySem.W.keepIn K (.ref f22) = true)
    (a23_Net : PySem.W.findIn K (.ref A_Net) "change" = some (some (.ref f23)))
    (if23 : PySem.W.isFn K (.ref f23) = true)
    (l23 : K.lookup f23 = some ⟨oc23, od23, .func (PySem.W.fnOf "change" "Net.change" (defArgs s_Net_change) (defBody s_Net_change) (defScope s_Net_change) .none kV23 dc23 pm23 an23 cd23 ct23), sl23⟩)
    (c23 : PySem.W.codeIn K cd23 "Net.change" = true)
    (k23 : PySem.W.keepIn K (.ref f23) = true)
    (a24 : PySem.W.nsIn K mainGlobals "_law_answer" = some (some (.ref f24)))
    (l24 : K.lookup f24 = some ⟨oc24, od24, .func (PySem.W.fnOf "_law_answer" "_law_answer" (defArgs s_law_answer) (defBody s_law_answer) (defScope s_law_answer) .none kV24 dc24 pm24 an24 cd24 ct24), sl24⟩)
    (c24 : PySem.W.codeIn K cd24 "_law_answer" = true)
    (k24 : PySem.W.keepIn K (.ref f24) = true)
    (a25 : PySem.W.nsIn K mainGlobals "_law_bad_size" = some (some (.ref f25)))
    (l25 : K.lookup f25 = some ⟨oc25, od25, .func (PySem.W.fnOf "_law_bad_size" "_law_bad_size" (defArgs s_law_bad_size) (defBody s_law_bad_size) (defScope s_law_bad_size) .none kV25 dc25 pm25 an25 cd25 ct25), sl25⟩)
    (c25 : PySem.W.codeIn K cd25 "_law_bad_size" = true)
    (k25 : PySem.W.keepIn K (.ref f25) = true)
    (a26 : PySem.W.nsIn K mainGlobals "_law_change" = some (some (.ref f26)))
    (l26 : K.lookup f26 = some ⟨oc26, od26, .func (PySem.W.fnOf "_law_change" "_law_change" (defArgs s_law_change) (defBody s_law_change) (defScope s_law_change) .none kV26 dc26 pm26 an26 cd26 ct26), sl26⟩)
    (c26 : PySem.W.codeIn K cd26 "_law_change" = true)
    (k26 : PySem.W.keepIn K (.ref f26) = true)
    (a27 : PySem.W.nsIn K mainGlobals "_law_made" = some (some (.ref f27)))
    (l27 : K.lookup f27 = some ⟨oc27, od27, .func (PySem.W.fnOf "_law_made" "_law_made" (defArgs s_law_made) (defBody s_law_made) (defScope s_law_made) .none kV27 dc27 pm27 an27 cd27 ct27), sl27⟩)
    (c27 : PySem.W.codeIn K cd27 "_law_made" = true)
    (k27 : PySem.W.keepIn K (.ref f27) = true)
    (a28 : PySem.W.nsIn K mainGlobals "_law_bad_point" = some (some (.ref f28)))
    (l28 : K.lookup f28 = some ⟨oc28, od28, .func (PySem.W.fnOf "_law_bad_point" "_law_bad_point" (defArgs s_law_bad_point) (defBody s_law_bad_point) (defScope s_law_bad_point) .none kV28 dc28 pm28 an28 cd28 ct28), sl28⟩)
    (c28 : PySem.W.codeIn K cd28 "_law_bad_point" = true)
    (k28 : PySem.W.keepIn K (.ref f28) = true)
    (a29 : PySem.W.nsIn K mainGlobals "_law_add" = some (some (.ref f29)))
    (l29 : K.lookup f29 = some ⟨oc29, od29, .func (PySem.W.fnOf "_law_add" "_law_add" (defArgs s_law_add) (defBody s_law_add) (defScope s_law_add) .none kV29 dc29 pm29 an29 cd29 ct29), sl29⟩)
    (c29 : PySem.W.codeIn K cd29 "_law_add" = true)
    (k29 : PySem.W.keepIn K (.ref f29) = true)
    (a30 : PySem.W.nsIn K mainGlobals "law" = some (some (.ref f30)))
    (l30 : K.lookup f30 = some ⟨oc30, od30, .func (PySem.W.fnOf "law" "law" (defArgs s_law) (defBody s_law) (defScope s_law) .none kV30 dc30 pm30 an30 cd30 ct30), sl30⟩)
    (c30 : PySem.W.codeIn K cd30 "law" = true)
    (k30 : PySem.W.keepIn K (.ref f30) = true) :
    ∃ fd : FuncData, (∀ (s : Shared) (v : Value), BindsTo s fd ⟨[v], []⟩ [("script", v)]) ∧ ∀ base : Heap, K.In base → base.Ns mainGlobals mg → FnOk P w K mg base CX0 7 fa fd ["script"] (spP ⟨K, (clf A_Hold A_Net A_NoPoint A_NoRow A_NoSize A_OhmError A_Piece A_Push A_TooMany)⟩ 1 m_law) := by
  have e := hfa.symm.trans (PySem.W.mg_of X G a30)
  cases e
  have l_Hold : (clf A_Hold A_Net A_NoPoint A_NoRow A_NoSize A_OhmError A_Piece A_Push A_TooMany) "Hold" = A_Hold := by simp [clf]
  have l_Net : (clf A_Hold A_Net A_NoPoint A_NoRow A_NoSize A_OhmError A_Piece A_Push A_TooMany) "Net" = A_Net := by simp [clf]
  have l_NoPoint : (clf A_Hold A_Net A_NoPoint A_NoRow A_NoSize A_OhmError A_Piece A_Push A_TooMany) "NoPoint" = A_NoPoint := by simp [clf]
  have l_NoRow : (clf A_Hold A_Net A_NoPoint A_NoRow A_NoSize A_OhmError A_Piece A_Push A_TooMany) "NoRow" = A_NoRow := by simp [clf]
  have l_NoSize : (clf A_Hold A_Net A_NoPoint A_NoRow A_NoSize A_OhmError A_Piece A_Push A_TooMany) "NoSize" = A_NoSize := by simp [clf]
  have l_OhmError : (clf A_Hold A_Net A_NoPoint A_NoRow A_NoSize A_OhmError A_Piece A_Push A_TooMany) "OhmError" = A_OhmError := by simp [clf]
  have l_Piece : (clf A_Hold A_Net A_NoPoint A_NoRow A_NoSize A_OhmError A_Piece A_Push A_TooMany) "Piece" = A_Piece := by simp [clf]
  have l_Push : (clf A_Hold A_Net A_NoPoint A_NoRow A_NoSize A_OhmError A_Piece A_Push A_TooMany) "Push" = A_Push := by simp [clf]
  have l_TooMany : (clf A_Hold A_Net A_NoPoint A_NoRow A_NoSize A_OhmError A_Piece A_Push A_TooMany) "TooMany" = A_TooMany := by simp [clf]
  have A_at_NoPoint : ExcA K ((clf A_Hold A_Net A_NoPoint A_NoRow A_NoSize A_OhmError A_Piece A_Push A_TooMany) "NoPoint") := by rw [l_NoPoint]; exact ⟨cl_NoPoint, ga_NoPoint, gg_NoPoint, sb_NoPoint, hd_NoPoint, ca_NoPoint, mo_NoPoint⟩
  have A_at_NoRow : ExcA K ((clf A_Hold A_Net A_NoPoint A_NoRow A_NoSize A_OhmError A_Piece A_Push A_TooMany) "NoRow") := by rw [l_NoRow]; exact ⟨cl_NoRow, ga_NoRow, gg_NoRow, sb_NoRow, hd_NoRow, ca_NoRow, mo_NoRow⟩
  have A_at_NoSize : ExcA K ((clf A_Hold A_Net A_NoPoint A_NoRow A_NoSize A_OhmError A_Piece A_Push A_TooMany) "NoSize") := by rw [l_NoSize]; exact ⟨cl_NoSize, ga_NoSize, gg_NoSize, sb_NoSize, hd_NoSize, ca_NoSize, mo_NoSize⟩
  have A_at_TooMany : ExcA K ((clf A_Hold A_Net A_NoPoint A_NoRow A_NoSize A_OhmError A_Piece A_Push A_TooMany) "TooMany") := by rw [l_TooMany]; exact ⟨cl_TooMany, ga_TooMany, gg_TooMany, sb_TooMany, hd_TooMany, ca_TooMany, mo_TooMany⟩
  have Cl_Hold : Cls K ((clf A_Hold A_Net A_NoPoint A_NoRow A_NoSize A_OhmError A_Piece A_Push A_TooMany) "Hold") := by rw [l_Hold]; exact ⟨pg_Hold, dh_Hold, po_Hold, sa_Hold⟩
  have In_Hold : InsA K ((clf A_Hold A_Net A_NoPoint A_NoRow A_NoSize A_OhmError A_Piece A_Push A_TooMany) "Hold") := ⟨Cl_Hold, by rw [l_Hold]; exact oa_Hold, by rw [l_Hold]; exact om_Hold⟩
  have Cl_Net : Cls K ((clf A_Hold A_Net A_NoPoint A_NoRow A_NoSize A_OhmError A_Piece A_Push A_TooMany) "Net") := by rw [l_Net]; exact ⟨pg_Net, dh_Net, po_Net, sa_Net⟩
  have In_Net : InsA K ((clf A_Hold A_Net A_NoPoint A_NoRow A_NoSize A_OhmError A_Piece A_Push A_TooMany) "Net") := ⟨Cl_Net, by rw [l_Net]; exact oa_Net, by rw [l_Net]; exact om_Net⟩
  have Cl_Piece : Cls K ((clf A_Hold A_Net A_NoPoint A_NoRow A_NoSize A_OhmError A_Piece A_Push A_TooMany) "Piece") := by rw [l_Piece]; exact ⟨pg_Piece, dh_Piece, po_Piece, sa_Piece⟩
  have In_Piece : InsA K ((clf A_Hold A_Net A_NoPoint A_NoRow A_NoSize A_OhmError A_Piece A_Push A_TooMany) "Piece") := ⟨Cl_Piece, by rw [l_Piece]; exact oa_Piece, by rw [l_Piece]; exact om_Piece⟩
  have Cl_Push : Cls K ((clf A_Hold A_Net A_NoPoint A_NoRow A_NoSize A_OhmError A_Piece A_Push A_TooMany) "Push") := by rw [l_Push]; exact ⟨pg_Push, dh_Push, po_Push, sa_Push⟩
  have In_Push : InsA K ((clf A_Hold A_Net A_NoPoint A_NoRow A_NoSize A_OhmError A_Piece A_Push A_TooMany) "Push") := ⟨Cl_Push, by rw [l_Push]; exact oa_Push, by rw [l_Push]; exact om_Push⟩
  have T_e_NoPoint : ExcF ⟨K, (clf A_Hold A_Net A_NoPoint A_NoRow A_NoSize A_OhmError A_Piece A_Push A_TooMany)⟩ mg "NoPoint" "NoPoint" := by
    have z : (⟨K, (clf A_Hold A_Net A_NoPoint A_NoRow A_NoSize A_OhmError A_Piece A_Push A_TooMany)⟩ : KC).cl "NoPoint" = A_NoPoint := l_NoPoint
    exact ⟨by rw [z]; exact PySem.W.mg_of X G x_NoPoint, by rw [z]; exact q_NoPoint, by rw [z]; exact kp_NoPoint, by rw [z]; exact sb_NoPoint, by rw [z]; exact ty_NoPoint⟩
  have T_e_NoRow : ExcF ⟨K, (clf A_Hold A_Net A_NoPoint A_NoRow A_NoSize A_OhmError A_Piece A_Push A_TooMany)⟩ mg "NoRow" "NoRow" := by
    have z : (⟨K, (clf A_Hold A_Net A_NoPoint A_NoRow A_NoSize A_OhmError A_Piece A_Push A_TooMany)⟩ : KC).cl "NoRow" = A_NoRow := l_NoRow
    exact ⟨by rw [z]; exact PySem.W.mg_of X G x_NoRow, by rw [z]; exact q_NoRow, by rw [z]; exact kp_NoRow, by rw [z]; exact sb_NoRow, by rw [z]; exact ty_NoRow⟩
  have T_e_NoSize : ExcF ⟨K, (clf A_Hold A_Net A_NoPoint A_NoRow A_NoSize A_OhmError A_Piece A_Push A_TooMany)⟩ mg "NoSize" "NoSize" := by
    have z : (⟨K, (clf A_Hold A_Net A_NoPoint A_NoRow A_NoSize A_OhmError A_Piece A_Push A_TooMany)⟩ : KC).cl "NoSize" = A_NoSize := l_NoSize
    exact ⟨by rw [z]; exact PySem.W.mg_of X G x_NoSize, by rw [z]; exact q_NoSize, by rw [z]; exact kp_NoSize, by rw [z]; exact sb_NoSize, by rw [z]; exact ty_NoSize⟩
  have T_e_TooMany : ExcF ⟨K, (clf A_Hold A_Net A_NoPoint A_NoRow A_NoSize A_OhmError A_Piece A_Push A_TooMany)⟩ mg "TooMany" "TooMany" := by
    have z : (⟨K, (clf A_Hold A_Net A_NoPoint A_NoRow A_NoSize A_OhmError A_Piece A_Push A_TooMany)⟩ : KC).cl "TooMany" = A_TooMany := l_TooMany
    exact ⟨by rw [z]; exact PySem.W.mg_of X G x_TooMany, by rw [z]; exact q_TooMany, by rw [z]; exact kp_TooMany, by rw [z]; exact sb_TooMany, by rw [z]; exact ty_TooMany⟩
  have T_u_OhmError : Subs ⟨K, (clf A_Hold A_Net A_NoPoint A_NoRow A_NoSize A_OhmError A_Piece A_Push A_TooMany)⟩ (.ref ((clf A_Hold A_Net A_NoPoint A_NoRow A_NoSize A_OhmError A_Piece A_Push A_TooMany) "OhmError")) tab_OhmError := (fun c b h => by
    unfold tab_OhmError at h
    by_cases h_NoPoint : c = "NoPoint"
    · subst h_NoPoint
      simp at h
      subst h; show PySem.W.exmOne K (.ref ((clf A_Hold A_Net A_NoPoint A_NoRow A_NoSize A_OhmError A_Piece A_Push A_TooMany) "NoPoint")) (.ref ((clf A_Hold A_Net A_NoPoint A_NoRow A_NoSize A_OhmError A_Piece A_Push A_TooMany) "OhmError")) = _; rw [l_NoPoint, l_OhmError]; exact em_NoPoint_OhmError
    rw [if_neg h_NoPoint] at h
    by_cases h_NoRow : c = "NoRow"
    · subst h_NoRow
      simp at h
      subst h; show PySem.W.exmOne K (.ref ((clf A_Hold A_Net A_NoPoint A_NoRow A_NoSize A_OhmError A_Piece A_Push A_TooMany) "NoRow")) (.ref ((clf A_Hold A_Net A_NoPoint A_NoRow A_NoSize A_OhmError A_Piece A_Push A_TooMany) "OhmError")) = _; rw [l_NoRow, l_OhmError]; exact em_NoRow_OhmError
    rw [if_neg h_NoRow] at h
    by_cases h_NoSize : c = "NoSize"
    · subst h_NoSize
      simp at h
      subst h; show PySem.W.exmOne K (.ref ((clf A_Hold A_Net A_NoPoint A_NoRow A_NoSize A_OhmError A_Piece A_Push A_TooMany) "NoSize")) (.ref ((clf A_Hold A_Net A_NoPoint A_NoRow A_NoSize A_OhmError A_Piece A_Push A_TooMany) "OhmError")) = _; rw [l_NoSize, l_OhmError]; exact em_NoSize_OhmError
    rw [if_neg h_NoSize] at h
    by_cases h_TooMany : c = "TooMany"
    · subst h_TooMany
      simp at h
      subst h; show PySem.W.exmOne K (.ref ((clf A_Hold A_Net A_NoPoint A_NoRow A_NoSize A_OhmError A_Piece A_Push A_TooMany) "TooMany")) (.ref ((clf A_Hold A_Net A_NoPoint A_NoRow A_NoSize A_OhmError A_Piece A_Push A_TooMany) "OhmError")) = _; rw [l_TooMany, l_OhmError]; exact em_TooMany_OhmError
    rw [if_neg h_TooMany] at h
    cases h)
  have T_k_Hold : KitA ⟨K, (clf A_Hold A_Net A_NoPoint A_NoRow A_NoSize A_OhmError A_Piece A_Push A_TooMany)⟩ ((clf A_Hold A_Net A_NoPoint A_NoRow A_NoSize A_OhmError A_Piece A_Push A_TooMany) "Hold") tabE_Hold tabO_Hold := ⟨(fun c b h => by
    unfold tabE_Hold at h
    by_cases h_NoPoint : c = "NoPoint"
    · subst h_NoPoint
      simp at h
      subst h; refine ⟨?_, A_at_NoPoint⟩; show PySem.W.kitOne K (.ref ((clf A_Hold A_Net A_NoPoint A_NoRow A_NoSize A_OhmError A_Piece A_Push A_TooMany) "NoPoint")) (.ref ((clf A_Hold A_Net A_NoPoint A_NoRow A_NoSize A_OhmError A_Piece A_Push A_TooMany) "Hold")) = _; rw [l_NoPoint, l_Hold]; exact (kit_ref s_NoPoint_NoPoint s_NoPoint_Hold i_Hold tD_Hold)
    rw [if_neg h_NoPoint] at h
    by_cases h_NoRow : c = "NoRow"
    · subst h_NoRow
      simp at h
      subst h; refine ⟨?_, A_at_NoRow⟩; show PySem.W.kitOne K (.ref ((clf A_Hold A_Net A_NoPoint A_NoRow A_NoSize A_OhmError A_Piece A_Push A_TooMany) "NoRow")) (.ref ((clf A_Hold A_Net A_NoPoint A_NoRow A_NoSize A_OhmError A_Piece A_Push A_TooMany) "Hold")) = _; rw [l_NoRow, l_Hold]; exact (kit_ref s_NoRow_NoRow s_NoRow_Hold i_Hold tD_Hold)
    rw [if_neg h_NoRow] at h
    by_cases h_NoSize : c = "NoSize"
    · subst h_NoSize
      simp at h
      subst h; refine ⟨?_, A_at_NoSize⟩; show PySem.W.kitOne K (.ref ((clf A_Hold A_Net A_NoPoint A_NoRow A_NoSize A_OhmError A_Piece A_Push A_TooMany) "NoSize")) (.ref ((clf A_Hold A_Net A_NoPoint A_NoRow A_NoSize A_OhmError A_Piece A_Push A_TooMany) "Hold")) = _; rw [l_NoSize, l_Hold]; exact (kit_ref s_NoSize_NoSize s_NoSize_Hold i_Hold tD_Hold)
    rw [if_neg h_NoSize] at h
    by_cases h_TooMany : c = "TooMany"
    · subst h_TooMany
      simp at h
      subst h; refine ⟨?_, A_at_TooMany⟩; show PySem.W.kitOne K (.ref ((clf A_Hold A_Net A_NoPoint A_NoRow A_NoSize A_OhmError A_Piece A_Push A_TooMany) "TooMany")) (.ref ((clf A_Hold A_Net A_NoPoint A_NoRow A_NoSize A_OhmError A_Piece A_Push A_TooMany) "Hold")) = _; rw [l_TooMany, l_Hold]; exact (kit_ref s_TooMany_TooMany s_TooMany_Hold i_Hold tD_Hold)
    rw [if_neg h_TooMany] at h
    cases h), (fun c b h => by
    unfold tabO_Hold at h
    by_cases h_Hold : c = "Hold"
    · subst h_Hold
      simp at h
      subst h; refine ⟨?_, In_Hold⟩; show PySem.W.kitOne K (.ref ((clf A_Hold A_Net A_NoPoint A_NoRow A_NoSize A_OhmError A_Piece A_Push A_TooMany) "Hold")) (.ref ((clf A_Hold A_Net A_NoPoint A_NoRow A_NoSize A_OhmError A_Piece A_Push A_TooMany) "Hold")) = _; rw [l_Hold]; exact (kit_ref s_Hold_Hold s_Hold_Hold i_Hold tD_Hold)
    rw [if_neg h_Hold] at h
    by_cases h_Net : c = "Net"
    · subst h_Net
      simp at h
      subst h; refine ⟨?_, In_Net⟩; show PySem.W.kitOne K (.ref ((clf A_Hold A_Net A_NoPoint A_NoRow A_NoSize A_OhmError A_Piece A_Push A_TooMany) "Net")) (.ref ((clf A_Hold A_Net A_NoPoint A_NoRow A_NoSize A_OhmError A_Piece A_Push A_TooMany) "Hold")) = _; rw [l_Net, l_Hold]; exact (kit_ref s_Net_Net s_Net_Hold i_Hold tD_Hold)
    rw [if_neg h_Net] at h
    by_cases h_Piece : c = "Piece"
    · subst h_Piece
      simp at h
      subst h; refine ⟨?_, In_Piece⟩; show PySem.W.kitOne K (.ref ((clf A_Hold A_Net A_NoPoint A_NoRow A_NoSize A_OhmError A_Piece A_Push A_TooMany) "Piece")) (.ref ((clf A_Hold A_Net A_NoPoint A_NoRow A_NoSize A_OhmError A_Piece A_Push A_TooMany) "Hold")) = _; rw [l_Piece, l_Hold]; exact (kit_ref s_Piece_Piece s_Piece_Hold i_Hold tD_Hold)
    rw [if_neg h_Piece] at h
    by_cases h_Push : c = "Push"
    · subst h_Push
      simp at h
      subst h; refine ⟨?_, In_Push⟩; show PySem.W.kitOne K (.ref ((clf A_Hold A_Net A_NoPoint A_NoRow A_NoSize A_OhmError A_Piece A_Push A_TooMany) "Push")) (.ref ((clf A_Hold A_Net A_NoPoint A_NoRow A_NoSize A_OhmError A_Piece A_Push A_TooMany) "Hold")) = _; rw [l_Push, l_Hold]; exact (kit_ref s_Push_Push s_Push_Hold i_Hold tD_Hold)
    rw [if_neg h_Push] at h
    cases h), (fun t h => by rw [l_Hold]; exact basic_not h i_Hold tD_Hold), ⟨hn, ht⟩⟩
  have T_k_NoPoint : KitA ⟨K, (clf A_Hold A_Net A_NoPoint A_NoRow A_NoSize A_OhmError A_Piece A_Push A_TooMany)⟩ ((clf A_Hold A_Net A_NoPoint A_NoRow A_NoSize A_OhmError A_Piece A_Push A_TooMany) "NoPoint") tabE_NoPoint tabO_NoPoint := ⟨(fun c b h => by
    unfold tabE_NoPoint at h
    by_cases h_NoPoint : c = "NoPoint"
    · subst h_NoPoint
      simp at h
      subst h; refine ⟨?_, A_at_NoPoint⟩; show PySem.W.kitOne K (.ref ((clf A_Hold A_Net A_NoPoint A_NoRow A_NoSize A_OhmError A_Piece A_Push A_TooMany) "NoPoint")) (.ref ((clf A_Hold A_Net A_NoPoint A_NoRow A_NoSize A_OhmError A_Piece A_Push A_TooMany) "NoPoint")) = _; rw [l_NoPoint]; exact (kit_ref s_NoPoint_NoPoint s_NoPoint_NoPoint i_NoPoint tD_NoPoint)
    rw [if_neg h_NoPoint] at h
    by_cases h_NoRow : c = "NoRow"
    · subst h_NoRow
      simp at h
      subst h; refine ⟨?_, A_at_NoRow⟩; show PySem.W.kitOne K (.ref ((clf A_Hold A_Net A_NoPoint A_NoRow A_NoSize A_OhmError A_Piece A_Push A_TooMany) "NoRow")) (.ref ((clf A_Hold A_Net A_NoPoint A_NoRow A_NoSize A_OhmError A_Piece A_Push A_TooMany) "NoPoint")) = _; rw [l_NoRow, l_NoPoint]; exact (kit_ref s_NoRow_NoRow s_NoRow_NoPoint i_NoPoint tD_NoPoint)
    rw [if_neg h_NoRow] at h
    by_cases h_NoSize : c = "NoSize"
    · subst h_NoSize
      simp at h
      subst h; refine ⟨?_, A_at_NoSize⟩; show PySem.W.kitOne K (.ref ((clf A_Hold A_Net A_NoPoint A_NoRow A_NoSize A_OhmError A_Piece A_Push A_TooMany) "NoSize")) (.ref ((clf A_Hold A_Net A_NoPoint A_NoRow A_NoSize A_OhmError A_Piece A_Push A_TooMany) "NoPoint")) = _; rw [l_NoSize, l_NoPoint]; exact (kit_ref s_NoSize_NoSize s_NoSize_NoPoint i_NoPoint tD_NoPoint)
    rw [if_neg h_NoSize] at h
    by_cases h_TooMany : c = "TooMany"
    · subst h_TooMany
      simp at h
      subst h; refine ⟨?_, A_at_TooMany⟩; show PySem.W.kitOne K (.ref ((clf A_Hold A_Net A_NoPoint A_NoRow A_NoSize A_OhmError A_Piece A_Push A_TooMany) "TooMany")) (.ref ((clf A_Hold A_Net A_NoPoint A_NoRow A_NoSize A_OhmError A_Piece A_Push A_TooMany) "NoPoint")) = _; rw [l_TooMany, l_NoPoint]; exact (kit_ref s_TooMany_TooMany s_TooMany_NoPoint i_NoPoint tD_NoPoint)
    rw [if_neg h_TooMany] at h
    cases h), (fun c b h => by
    unfold tabO_NoPoint at h
    by_cases h_Hold : c = "Hold"
    · subst h_Hold
      simp at h
      subst h; refine ⟨?_, In_Hold⟩; show PySem.W.kitOne K (.ref ((clf A_Hold A_Net A_NoPoint A_NoRow A_NoSize A_OhmError A_Piece A_Push A_TooMany) "Hold")) (.ref ((clf A_Hold A_Net A_NoPoint A_NoRow A_NoSize A_OhmError A_Piece A_Push A_TooMany) "NoPoint")) = _; rw [l_Hold, l_NoPoint]; exact (kit_ref s_Hold_Hold s_Hold_NoPoint i_NoPoint tD_NoPoint)
    rw [if_neg h_Hold] at h
    by_cases h_Net : c = "Net"
    · subst h_Net
      simp at h
      subst h; refine ⟨?_, In_Net⟩; show PySem.W.kitOne K (.ref ((clf A_Hold A_Net A_NoPoint A_NoRow A_NoSize A_OhmError A_Piece A_Push A_TooMany) "Net")) (.ref ((clf A_Hold A_Net A_NoPoint A_NoRow A_NoSize A_OhmError A_Piece A_Push A_TooMany) "NoPoint")) = _; rw [l_Net, l_NoPoint]; exact (kit_ref s_Net_Net s_Net_NoPoint i_NoPoint tD_NoPoint)
    rw [if_neg h_Net] at h
    by_cases h_Piece : c = "Piece"
    · subst h_Piece
      simp at h
      subst h; refine ⟨?_, In_Piece⟩; show PySem.W.kitOne K (.ref ((clf A_Hold A_Net A_NoPoint A_NoRow A_NoSize A_OhmError A_Piece A_Push A_TooMany) "Piece")) (.ref ((clf A_Hold A_Net A_NoPoint A_NoRow A_NoSize A_OhmError A_Piece A_Push A_TooMany) "NoPoint")) = _; rw [l_Piece, l_NoPoint]; exact (kit_ref s_Piece_Piece s_Piece_NoPoint i_NoPoint tD_NoPoint)
    rw [if_neg h_Piece] at h
    by_cases h_Push : c = "Push"
    · subst h_Push
      simp at h
      subst h; refine ⟨?_, In_Push⟩; show PySem.W.kitOne K (.ref ((clf A_Hold A_Net A_NoPoint A_NoRow A_NoSize A_OhmError A_Piece A_Push A_TooMany) "Push")) (.ref ((clf A_Hold A_Net A_NoPoint A_NoRow A_NoSize A_OhmError A_Piece A_Push A_TooMany) "NoPoint")) = _; rw [l_Push, l_NoPoint]; exact (kit_ref s_Push_Push s_Push_NoPoint i_NoPoint tD_NoPoint)
    rw [if_neg h_Push] at h
    cases h), (fun t h => by rw [l_NoPoint]; exact basic_not h i_NoPoint tD_NoPoint), ⟨hn, ht⟩⟩
  have T_k_NoRow : KitA ⟨K, (clf A_Hold A_Net A_NoPoint A_NoRow A_NoSize A_OhmError A_Piece A_Push A_TooMany)⟩ ((clf A_Hold A_Net A_NoPoint A_NoRow A_NoSize A_OhmError A_Piece A_Push A_TooMany) "NoRow") tabE_NoRow tabO_NoRow := ⟨(fun c b h => by
    unfold tabE_NoRow at h
    by_cases h_NoPoint : c = "NoPoint"
    · subst h_NoPoint
      simp at h
      subst h; refine ⟨?_, A_at_NoPoint⟩; show PySem.W.kitOne K (.ref ((clf A_Hold A_Net A_NoPoint A_NoRow A_NoSize A_OhmError A_Piece A_Push A_TooMany) "NoPoint")) (.ref ((clf A_Hold A_Net A_NoPoint A_NoRow A_NoSize A_OhmError A_Piece A_Push A_TooMany) "NoRow")) = _; rw [l_NoPoint, l_NoRow]; exact (kit_ref s_NoPoint_NoPoint s_NoPoint_NoRow i_NoRow tD_NoRow)
    rw [if_neg h_NoPoint] at h
    by_cases h_NoRow : c = "NoRow"
    · subst h_NoRow
      simp at h
      subst h; refine ⟨?_, A_at_NoRow⟩; show PySem.W.kitOne K (.ref ((clf A_Hold A_Net A_NoPoint A_NoRow A_NoSize A_OhmError A_Piece A_Push A_TooMany) "NoRow")) (.ref ((clf A_Hold A_Net A_NoPoint A_NoRow A_NoSize A_OhmError A_Piece A_Push A_TooMany) "NoRow")) = _; rw [l_NoRow]; exact (kit_ref s_NoRow_NoRow s_NoRow_NoRow i_NoRow tD_NoRow)
    rw [if_neg h_NoRow] at h
    by_cases h_NoSize : c = "NoSize"
    · subst h_NoSize
      simp at h
      subst h; refine ⟨?_, A_at_NoSize⟩; show PySem.W.kitOne K (.ref ((clf A_Hold A_Net A_NoPoint A_NoRow A_NoSize A_OhmError A_Piece A_Push A_TooMany) "NoSize")) (.ref ((clf A_Hold A_Net A_NoPoint A_NoRow A_NoSize A_OhmError A_Piece A_Push A_TooMany) "NoRow")) = _; rw [l_NoSize, l_NoRow]; exact (kit_ref s_NoSize_NoSize s_NoSize_NoRow i_NoRow tD_NoRow)
    rw [if_neg h_NoSize] at h
    by_cases h_TooMany : c = "TooMany"
    · subst h_TooMany
      simp at h
      subst h; refine ⟨?_, A_at_TooMany⟩; show PySem.W.kitOne K (.ref ((clf A_Hold A_Net A_NoPoint A_NoRow A_NoSize A_OhmError A_Piece A_Push A_TooMany) "TooMany")) (.ref ((clf A_Hold A_Net A_NoPoint A_NoRow A_NoSize A_OhmError A_Piece A_Push A_TooMany) "NoRow")) = _; rw [l_TooMany, l_NoRow]; exact (kit_ref s_TooMany_TooMany s_TooMany_NoRow i_NoRow tD_NoRow)
    rw [if_neg h_TooMany] at h
    cases h), (fun c b h => by
    unfold tabO_NoRow at h
    by_cases h_Hold : c = "Hold"
    · subst h_Hold
      simp at h
      subst h; refine ⟨?_, In_Hold⟩; show PySem.W.kitOne K (.ref ((clf A_Hold A_Net A_NoPoint A_NoRow A_NoSize A_OhmError A_Piece A_Push A_TooMany) "Hold")) (.ref ((clf A_Hold A_Net A_NoPoint A_NoRow A_NoSize A_OhmError A_Piece A_Push A_TooMany) "NoRow")) = _; rw [l_Hold, l_NoRow]; exact (kit_ref s_Hold_Hold s_Hold_NoRow i_NoRow tD_NoRow)
    rw [if_neg h_Hold] at h
    by_cases h_Net : c = "Net"
    · subst h_Net
      simp at h
      subst h; refine ⟨?_, In_Net⟩; show PySem.W.kitOne K (.ref ((clf A_Hold A_Net A_NoPoint A_NoRow A_NoSize A_OhmError A_Piece A_Push A_TooMany) "Net")) (.ref ((clf A_Hold A_Net A_NoPoint A_NoRow A_NoSize A_OhmError A_Piece A_Push A_TooMany) "NoRow")) = _; rw [l_Net, l_NoRow]; exact (kit_ref s_Net_Net s_Net_NoRow i_NoRow tD_NoRow)
    rw [if_neg h_Net] at h
    by_cases h_Piece : c = "Piece"
    · subst h_Piece
      simp at h
      subst h; refine ⟨?_, In_Piece⟩; show PySem.W.kitOne K (.ref ((clf A_Hold A_Net A_NoPoint A_NoRow A_NoSize A_OhmError A_Piece A_Push A_TooMany) "Piece")) (.ref ((clf A_Hold A_Net A_NoPoint A_NoRow A_NoSize A_OhmError A_Piece A_Push A_TooMany) "NoRow")) = _; rw [l_Piece, l_NoRow]; exact (kit_ref s_Piece_Piece s_Piece_NoRow i_NoRow tD_NoRow)
    rw [if_neg h_Piece] at h
    by_cases h_Push : c = "Push"
    · subst h_Push
      simp at h
      subst h; refine ⟨?_, In_Push⟩; show PySem.W.kitOne K (.ref ((clf A_Hold A_Net A_NoPoint A_NoRow A_NoSize A_OhmError A_Piece A_Push A_TooMany) "Push")) (.ref ((clf A_Hold A_Net A_NoPoint A_NoRow A_NoSize A_OhmError A_Piece A_Push A_TooMany) "NoRow")) = _; rw [l_Push, l_NoRow]; exact (kit_ref s_Push_Push s_Push_NoRow i_NoRow tD_NoRow)
    rw [if_neg h_Push] at h
    cases h), (fun t h => by rw [l_NoRow]; exact basic_not h i_NoRow tD_NoRow), ⟨hn, ht⟩⟩
  have T_k_NoSize : KitA ⟨K, (clf A_Hold A_Net A_NoPoint A_NoRow A_NoSize A_OhmError A_Piece A_Push A_TooMany)⟩ ((clf A_Hold A_Net A_NoPoint A_NoRow A_NoSize A_OhmError A_Piece A_Push A_TooMany) "NoSize") tabE_NoSize tabO_NoSize := ⟨(fun c b h => by
    unfold tabE_NoSize at h
    by_cases h_NoPoint : c = "NoPoint"
    · subst h_NoPoint
      simp at h
      subst h; refine ⟨?_, A_at_NoPoint⟩; show PySem.W.kitOne K (.ref ((clf A_Hold A_Net A_NoPoint A_NoRow A_NoSize A_OhmError A_Piece A_Push A_TooMany) "NoPoint")) (.ref ((clf A_Hold A_Net A_NoPoint A_NoRow A_NoSize A_OhmError A_Piece A_Push A_TooMany) "NoSize")) = _; rw [l_NoPoint, l_NoSize]; exact (kit_ref s_NoPoint_NoPoint s_NoPoint_NoSize i_NoSize tD_NoSize)
    rw [if_neg h_NoPoint] at h
    by_cases h_NoRow : c = "NoRow"
    · subst h_NoRow
      simp at h
      subst h; refine ⟨?_, A_at_NoRow⟩; show PySem.W.kitOne K (.ref ((clf A_Hold A_Net A_NoPoint A_NoRow A_NoSize A_OhmError A_Piece A_Push A_TooMany) "NoRow")) (.ref ((clf A_Hold A_Net A_NoPoint A_NoRow A_NoSize A_OhmError A_Piece A_Push A_TooMany) "NoSize")) = _; rw [l_NoRow, l_NoSize]; exact (kit_ref s_NoRow_NoRow s_NoRow_NoSize i_NoSize tD_NoSize)
    rw [if_neg h_NoRow] at h
    by_cases h_NoSize : c = "NoSize"
    · subst h_NoSize
      simp at h
      subst h; refine ⟨?_, A_at_NoSize⟩; show PySem.W.kitOne K (.ref ((clf A_Hold A_Net A_NoPoint A_NoRow A_NoSize A_OhmError A_Piece A_Push A_TooMany) "NoSize")) (.ref ((clf A_Hold A_Net A_NoPoint A_NoRow A_NoSize A_OhmError A_Piece A_Push A_TooMany) "NoSize")) = _; rw [l_NoSize]; exact (kit_ref s_NoSize_NoSize s_NoSize_NoSize i_NoSize tD_NoSize)
    rw [if_neg h_NoSize] at h
    by_cases h_TooMany : c = "TooMany"
    · subst h_TooMany
      simp at h
      subst h; refine ⟨?_, A_at_TooMany⟩; show PySem.W.kitOne K (.ref ((clf A_Hold A_Net A_NoPoint A_NoRow A_NoSize A_OhmError A_Piece A_Push A_TooMany) "TooMany")) (.ref ((clf A_Hold A_Net A_NoPoint A_NoRow A_NoSize A_OhmError A_Piece A_Push A_TooMany) "NoSize")) = _; rw [l_TooMany, l_NoSize]; exact (kit_ref s_TooMany_TooMany s_TooMany_NoSize i_NoSize tD_NoSize)
    rw [if_neg h_TooMany] at h
    cases h), (fun c b h => by
    unfold tabO_NoSize at h
    by_cases h_Hold : c = "Hold"
    · subst h_Hold
      simp at h
      subst h; refine ⟨?_, In_Hold⟩; show PySem.W.kitOne K (.ref ((clf A_Hold A_Net A_NoPoint A_NoRow A_NoSize A_OhmError A_Piece A_Push A_TooMany) "Hold")) (.ref ((clf A_Hold A_Net A_NoPoint A_NoRow A_NoSize A_OhmError A_Piece A_Push A_TooMany) "NoSize")) = _; rw [l_Hold, l_NoSize]; exact (kit_ref s_Hold_Hold s_Hold_NoSize i_NoSize tD_NoSize)
    rw [if_neg h_Hold] at h
    by_cases h_Net : c = "Net"
    · subst h_Net
      simp at h
      subst h; refine ⟨?_, In_Net⟩; show PySem.W.kitOne K (.ref ((clf A_Hold A_Net A_NoPoint A_NoRow A_NoSize A_OhmError A_Piece A_Push A_TooMany) "Net")) (.ref ((clf A_Hold A_Net A_NoPoint A_NoRow A_NoSize A_OhmError A_Piece A_Push A_TooMany) "NoSize")) = _; rw [l_Net, l_NoSize]; exact (kit_ref s_Net_Net s_Net_NoSize i_NoSize tD_NoSize)
    rw [if_neg h_Net] at h
    by_cases h_Piece : c = "Piece"
    · subst h_Piece
      simp at h
      subst h; refine ⟨?_, In_Piece⟩; show PySem.W.kitOne K (.ref ((clf A_Hold A_Net A_NoPoint A_NoRow A_NoSize A_OhmError A_Piece A_Push A_TooMany) "Piece")) (.ref ((clf A_Hold A_Net A_NoPoint A_NoRow A_NoSize A_OhmError A_Piece A_Push A_TooMany) "NoSize")) = _; rw [l_Piece, l_NoSize]; exact (kit_ref s_Piece_Piece s_Piece_NoSize i_NoSize tD_NoSize)
    rw [if_neg h_Piece] at h
    by_cases h_Push : c = "Push"
    · subst h_Push
      simp at h
      subst h; refine ⟨?_, In_Push⟩; show PySem.W.kitOne K (.ref ((clf A_Hold A_Net A_NoPoint A_NoRow A_NoSize A_OhmError A_Piece A_Push A_TooMany) "Push")) (.ref ((clf A_Hold A_Net A_NoPoint A_NoRow A_NoSize A_OhmError A_Piece A_Push A_TooMany) "NoSize")) = _; rw [l_Push, l_NoSize]; exact (kit_ref s_Push_Push s_Push_NoSize i_NoSize tD_NoSize)
    rw [if_neg h_Push] at h
    cases h), (fun t h => by rw [l_NoSize]; exact basic_not h i_NoSize tD_NoSize), ⟨hn, ht⟩⟩
  have T_k_Piece : KitA ⟨K, (clf A_Hold A_Net A_NoPoint A_NoRow A_NoSize A_OhmError A_Piece A_Push A_TooMany)⟩ ((clf A_Hold A_Net A_NoPoint A_NoRow A_NoSize A_OhmError A_Piece A_Push A_TooMany) "Piece") tabE_Piece tabO_Piece := ⟨(fun c b h => by
    unfold tabE_Piece at h
    by_cases h_NoPoint : c = "NoPoint"
    · subst h_NoPoint
      simp at h
      subst h; refine ⟨?_, A_at_NoPoint⟩; show PySem.W.kitOne K (.ref ((clf A_Hold A_Net A_NoPoint A_NoRow A_NoSize A_OhmError A_Piece A_Push A_TooMany) "NoPoint")) (.ref ((clf A_Hold A_Net A_NoPoint A_NoRow A_NoSize A_OhmError A_Piece A_Push A_TooMany) "Piece")) = _; rw [l_NoPoint, l_Piece]; exact (kit_ref s_NoPoint_NoPoint s_NoPoint_Piece i_Piece tD_Piece)
    rw [if_neg h_NoPoint] at h
    by_cases h_NoRow : c = "NoRow"
    · subst h_NoRow
      simp at h
      subst h; refine ⟨?_, A_at_NoRow⟩; show PySem.W.kitOne K (.ref ((clf A_Hold A_Net A_NoPoint A_NoRow A_NoSize A_OhmError A_Piece A_Push A_TooMany) "NoRow")) (.ref ((clf A_Hold A_Net A_NoPoint A_NoRow A_NoSize A_OhmError A_Piece A_Push A_TooMany) "Piece")) = _; rw [l_NoRow, l_Piece]; exact (kit_ref s_NoRow_NoRow s_NoRow_Piece i_Piece tD_Piece)
    rw [if_neg h_NoRow] at h
    by_cases h_NoSize : c = "NoSize"
    · subst h_NoSize
      simp at h
      subst h; refine ⟨?_, A_at_NoSize⟩; show PySem.W.kitOne K (.ref ((clf A_Hold A_Net A_NoPoint A_NoRow A_NoSize A_OhmError A_Piece A_Push A_TooMany) "NoSize")) (.ref ((clf A_Hold A_Net A_NoPoint A_NoRow A_NoSize A_OhmError A_Piece A_Push A_TooMany) "Piece")) = _; rw [l_NoSize, l_Piece]; exact (kit_ref s_NoSize_NoSize s_NoSize_Piece i_Piece tD_Piece)
    rw [if_neg h_NoSize] at h
    by_cases h_TooMany : c = "TooMany"
    · subst h_TooMany
      simp at h
      subst h; refine ⟨?_, A_at_TooMany⟩; show PySem.W.kitOne K (.ref ((clf A_Hold A_Net A_NoPoint A_NoRow A_NoSize A_OhmError A_Piece A_Push A_TooMany) "TooMany")) (.ref ((clf A_Hold A_Net A_NoPoint A_NoRow A_NoSize A_OhmError A_Piece A_Push A_TooMany) "Piece")) = _; rw [l_TooMany, l_Piece]; exact (kit_ref s_TooMany_TooMany s_TooMany_Piece i_Piece tD_Piece)
    rw [if_neg h_TooMany] at h
    cases h), (fun c b h => by
    unfold tabO_Piece at h
    by_cases h_Hold : c = "Hold"
    · subst h_Hold
      simp at h
      subst h; refine ⟨?_, In_Hold⟩; show PySem.W.kitOne K (.ref ((clf A_Hold A_Net A_NoPoint A_NoRow A_NoSize A_OhmError A_Piece A_Push A_TooMany) "Hold")) (.ref ((clf A_Hold A_Net A_NoPoint A_NoRow A_NoSize A_OhmError A_Piece A_Push A_TooMany) "Piece")) = _; rw [l_Hold, l_Piece]; exact (kit_ref s_Hold_Hold s_Hold_Piece i_Piece tD_Piece)
    rw [if_neg h_Hold] at h
    by_cases h_Net : c = "Net"
    · subst h_Net
      simp at h
      subst h; refine ⟨?_, In_Net⟩; show PySem.W.kitOne K (.ref ((clf A_Hold A_Net A_NoPoint A_NoRow A_NoSize A_OhmError A_Piece A_Push A_TooMany) "Net")) (.ref ((clf A_Hold A_Net A_NoPoint A_NoRow A_NoSize A_OhmError A_Piece A_Push A_TooMany) "Piece")) = _; rw [l_Net, l_Piece]; exact (kit_ref s_Net_Net s_Net_Piece i_Piece tD_Piece)
    rw [if_neg h_Net] at h
    by_cases h_Piece : c = "Piece"
    · subst h_Piece
      simp at h
      subst h; refine ⟨?_, In_Piece⟩; show PySem.W.kitOne K (.ref ((clf A_Hold A_Net A_NoPoint A_NoRow A_NoSize A_OhmError A_Piece A_Push A_TooMany) "Piece")) (.ref ((clf A_Hold A_Net A_NoPoint A_NoRow A_NoSize A_OhmError A_Piece A_Push A_TooMany) "Piece")) = _; rw [l_Piece]; exact (kit_ref s_Piece_Piece s_Piece_Piece i_Piece tD_Piece)
    rw [if_neg h_Piece] at h
    by_cases h_Push : c = "Push"
    · subst h_Push
      simp at h
      subst h; refine ⟨?_, In_Push⟩; show PySem.W.kitOne K (.ref ((clf A_Hold A_Net A_NoPoint A_NoRow A_NoSize A_OhmError A_Piece A_Push A_TooMany) "Push")) (.ref ((clf A_Hold A_Net A_NoPoint A_NoRow A_NoSize A_OhmError A_Piece A_Push A_TooMany) "Piece")) = _; rw [l_Push, l_Piece]; exact (kit_ref s_Push_Push s_Push_Piece i_Piece tD_Piece)
    rw [if_neg h_Push] at h
    cases h), (fun t h => by rw [l_Piece]; exact basic_not h i_Piece tD_Piece), ⟨hn, ht⟩⟩
  have T_t_NoPoint_NoRow_TooMany : KitAT ⟨K, (clf A_Hold A_Net A_NoPoint A_NoRow A_NoSize A_OhmError A_Piece A_Push A_TooMany)⟩ [(.ref ((clf A_Hold A_Net A_NoPoint A_NoRow A_NoSize A_OhmError A_Piece A_Push A_TooMany) "NoPoint")), (.ref ((clf A_Hold A_Net A_NoPoint A_NoRow A_NoSize A_OhmError A_Piece A_Push A_TooMany) "NoRow")), (.ref ((clf A_Hold A_Net A_NoPoint A_NoRow A_NoSize A_OhmError A_Piece A_Push A_TooMany) "TooMany"))] tabE_NoPoint_NoRow_TooMany tabO_NoPoint_NoRow_TooMany := ⟨(fun c b h => by
    unfold tabE_NoPoint_NoRow_TooMany at h
    by_cases h_NoPoint : c = "NoPoint"
    · subst h_NoPoint
      simp at h
      subst h; refine ⟨?_, A_at_NoPoint⟩; show PySem.W.kitAny K (.ref ((clf A_Hold A_Net A_NoPoint A_NoRow A_NoSize A_OhmError A_Piece A_Push A_TooMany) "NoPoint")) [(.ref ((clf A_Hold A_Net A_NoPoint A_NoRow A_NoSize A_OhmError A_Piece A_Push A_TooMany) "NoPoint")), (.ref ((clf A_Hold A_Net A_NoPoint A_NoRow A_NoSize A_OhmError A_Piece A_Push A_TooMany) "NoRow")), (.ref ((clf A_Hold A_Net A_NoPoint A_NoRow A_NoSize A_OhmError A_Piece A_Push A_TooMany) "TooMany"))] = _; rw [l_NoPoint, l_NoRow, l_TooMany]; exact (kitAny_cons (kit_ref s_NoPoint_NoPoint s_NoPoint_NoPoint i_NoPoint tD_NoPoint) (fun z => nomatch z) (fun _ => rfl))
    rw [if_neg h_NoPoint] at h
    by_cases h_NoRow : c = "NoRow"
    · subst h_NoRow
      simp at h
      subst h; refine ⟨?_, A_at_NoRow⟩; show PySem.W.kitAny K (.ref ((clf A_Hold A_Net A_NoPoint A_NoRow A_NoSize A_OhmError A_Piece A_Push A_TooMany) "NoRow")) [(.ref ((clf A_Hold A_Net A_NoPoint A_NoRow A_NoSize A_OhmError A_Piece A_Push A_TooMany) "NoPoint")), (.ref ((clf A_Hold A_Net A_NoPoint A_NoRow A_NoSize A_OhmError A_Piece A_Push A_TooMany) "NoRow")), (.ref ((clf A_Hold A_Net A_NoPoint A_NoRow A_NoSize A_OhmError A_Piece A_Push A_TooMany) "TooMany"))] = _; rw [l_NoRow, l_NoPoint, l_TooMany]; exact (kitAny_cons (kit_ref s_NoRow_NoRow s_NoRow_NoPoint i_NoPoint tD_NoPoint) (fun _ => (kitAny_cons (kit_ref s_NoRow_NoRow s_NoRow_NoRow i_NoRow tD_NoRow) (fun z => nomatch z) (fun _ => rfl))) (fun z => nomatch z))
    rw [if_neg h_NoRow] at h
    by_cases h_NoSize : c = "NoSize"
    · subst h_NoSize
      simp at h
      subst h; refine ⟨?_, A_at_NoSize⟩; show PySem.W.kitAny K (.ref ((clf A_Hold A_Net A_NoPoint A_NoRow A_NoSize A_OhmError A_Piece A_Push A_TooMany) "NoSize")) [(.ref ((clf A_Hold A_Net A_NoPoint A_NoRow A_NoSize A_OhmError A_Piece A_Push A_TooMany) "NoPoint")), (.ref ((clf A_Hold A_Net A_NoPoint A_NoRow A_NoSize A_OhmError A_Piece A_Push A_TooMany) "NoRow")), (.ref ((clf A_Hold A_Net A_NoPoint A_NoRow A_NoSize A_OhmError A_Piece A_Push A_TooMany) "TooMany"))] = _; rw [l_NoSize, l_NoPoint, l_NoRow, l_TooMany]; exact (kitAny_cons (kit_ref s_NoSize_NoSize s_NoSize_NoPoint i_NoPoint tD_NoPoint) (fun _ => (kitAny_cons (kit_ref s_NoSize_NoSize s_NoSize_NoRow i_NoRow tD_NoRow) (fun _ => (kitAny_cons (kit_ref s_NoSize_NoSize s_NoSize_TooMany i_TooMany tD_TooMany) (fun _ => kitAny_nil) (fun z => nomatch z))) (fun z => nomatch z))) (fun z => nomatch z))
    rw [if_neg h_NoSize] at h
    by_cases h_TooMany : c = "TooMany"
    · subst h_TooMany
      simp at h
      subst h; refine ⟨?_, A_at_TooMany⟩; show PySem.W.kitAny K (.ref ((clf A_Hold A_Net A_NoPoint A_NoRow A_NoSize A_OhmError A_Piece A_Push A_TooMany) "TooMany")) [(.ref ((clf A_Hold A_Net A_NoPoint A_NoRow A_NoSize A_OhmError A_Piece A_Push A_TooMany) "NoPoint")), (.ref ((clf A_Hold A_Net A_NoPoint A_NoRow A_NoSize A_OhmError A_Piece A_Push A_TooMany) "NoRow")), (.ref ((clf A_Hold A_Net A_NoPoint A_NoRow A_NoSize A_OhmError A_Piece A_Push A_TooMany) "TooMany"))] = _; rw [l_TooMany, l_NoPoint, l_NoRow]; exact (kitAny_cons (kit_ref s_TooMany_TooMany s_TooMany_NoPoint i_NoPoint tD_NoPoint) (fun _ => (kitAny_cons (kit_ref s_TooMany_TooMany s_TooMany_NoRow i_NoRow tD_NoRow) (fun _ => (kitAny_cons (kit_ref s_TooMany_TooMany s_TooMany_TooMany i_TooMany tD_TooMany) (fun z => nomatch z) (fun _ => rfl))) (fun z => nomatch z))) (fun z => nomatch z))
    rw [if_neg h_TooMany] at h
    cases h), (fun c b h => by
    unfold tabO_NoPoint_NoRow_TooMany at h
    by_cases h_Hold : c = "Hold"
    · subst h_Hold
      simp at h
      subst h; refine ⟨?_, In_Hold⟩; show PySem.W.kitAny K (.ref ((clf A_Hold A_Net A_NoPoint A_NoRow A_NoSize A_OhmError A_Piece A_Push A_TooMany) "Hold")) [(.ref ((clf A_Hold A_Net A_NoPoint A_NoRow A_NoSize A_OhmError A_Piece A_Push A_TooMany) "NoPoint")), (.ref ((clf A_Hold A_Net A_NoPoint A_NoRow A_NoSize A_OhmError A_Piece A_Push A_TooMany) "NoRow")), (.ref ((clf A_Hold A_Net A_NoPoint A_NoRow A_NoSize A_OhmError A_Piece A_Push A_TooMany) "TooMany"))] = _; rw [l_Hold, l_NoPoint, l_NoRow, l_TooMany]; exact (kitAny_cons (kit_ref s_Hold_Hold s_Hold_NoPoint i_NoPoint tD_NoPoint) (fun _ => (kitAny_cons (kit_ref s_Hold_Hold s_Hold_NoRow i_NoRow tD_NoRow) (fun _ => (kitAny_cons (kit_ref s_Hold_Hold s_Hold_TooMany i_TooMany tD_TooMany) (fun _ => kitAny_nil) (fun z => nomatch z))) (fun z => nomatch z))) (fun z => nomatch z))
    rw [if_neg h_Hold] at h
    by_cases h_Net : c = "Net"
    · subst h_Net
      simp at h
      subst h; refine ⟨?_, In_Net⟩; show PySem.W.kitAny K (.ref ((clf A_Hold A_Net A_NoPoint A_NoRow A_NoSize A_OhmError A_Piece A_Push A_TooMany) "Net")) [(.ref ((clf A_Hold A_Net A_NoPoint A_NoRow A_NoSize A_OhmError A_Piece A_Push A_TooMany) "NoPoint")), (.ref ((clf A_Hold A_Net A_NoPoint A_NoRow A_NoSize A_OhmError A_Piece A_Push A_TooMany) "NoRow")), (.ref ((clf A_Hold A_Net A_NoPoint A_NoRow A_NoSize A_OhmError A_Piece A_Push A_TooMany) "TooMany"))] = _; rw [l_Net, l_NoPoint, l_NoRow, l_TooMany]; exact (kitAny_cons (kit_ref s_Net_Net s_Net_NoPoint i_NoPoint tD_NoPoint) (fun _ => (kitAny_cons (kit_ref s_Net_Net s_Net_NoRow i_NoRow tD_NoRow) (fun _ => (kitAny_cons (kit_ref s_Net_Net s_Net_TooMany i_TooMany tD_TooMany) (fun _ => kitAny_nil) (fun z => nomatch z))) (fun z => nomatch z))) (fun z => nomatch z))
    rw [if_neg h_Net] at h
    by_cases h_Piece : c = "Piece"
    · subst h_Piece
      simp at h
      subst h; refine ⟨?_, In_Piece⟩; show PySem.W.kitAny K (.ref ((clf A_Hold A_Net A_NoPoint A_NoRow A_NoSize A_OhmError A_Piece A_Push A_TooMany) "Piece")) [(.ref ((clf A_Hold A_Net A_NoPoint A_NoRow A_NoSize A_OhmError A_Piece A_Push A_TooMany) "NoPoint")), (.ref ((clf A_Hold A_Net A_NoPoint A_NoRow A_NoSize A_OhmError A_Piece A_Push A_TooMany) "NoRow")), (.ref ((clf A_Hold A_Net A_NoPoint A_NoRow A_NoSize A_OhmError A_Piece A_Push A_TooMany) "TooMany"))] = _; rw [l_Piece, l_NoPoint, l_NoRow, l_TooMany]; exact (kitAny_cons (kit_ref s_Piece_Piece s_Piece_NoPoint i_NoPoint tD_NoPoint) (fun _ => (kitAny_cons (kit_ref s_Piece_Piece s_Piece_NoRow i_NoRow tD_NoRow) (fun _ => (kitAny_cons (kit_ref s_Piece_Piece s_Piece_TooMany i_TooMany tD_TooMany) (fun _ => kitAny_nil) (fun z => nomatch z))) (fun z => nomatch z))) (fun z => nomatch z))
    rw [if_neg h_Piece] at h
    by_cases h_Push : c = "Push"
    · subst h_Push
      simp at h
      subst h; refine ⟨?_, In_Push⟩; show PySem.W.kitAny K (.ref ((clf A_Hold A_Net A_NoPoint A_NoRow A_NoSize A_OhmError A_Piece A_Push A_TooMany) "Push")) [(.ref ((clf A_Hold A_Net A_NoPoint A_NoRow A_NoSize A_OhmError A_Piece A_Push A_TooMany) "NoPoint")), (.ref ((clf A_Hold A_Net A_NoPoint A_NoRow A_NoSize A_OhmError A_Piece A_Push A_TooMany) "NoRow")), (.ref ((clf A_Hold A_Net A_NoPoint A_NoRow A_NoSize A_OhmError A_Piece A_Push A_TooMany) "TooMany"))] = _; rw [l_Push, l_NoPoint, l_NoRow, l_TooMany]; exact (kitAny_cons (kit_ref s_Push_Push s_Push_NoPoint i_NoPoint tD_NoPoint) (fun _ => (kitAny_cons (kit_ref s_Push_Push s_Push_NoRow i_NoRow tD_NoRow) (fun _ => (kitAny_cons (kit_ref s_Push_Push s_Push_TooMany i_TooMany tD_TooMany) (fun _ => kitAny_nil) (fun z => nomatch z))) (fun z => nomatch z))) (fun z => nomatch z))
    rw [if_neg h_Push] at h
    cases h), (fun t h => basic_any (fun u hu => by
      simp only [List.mem_cons, List.not_mem_nil, or_false] at hu
      rcases hu with rfl | rfl | rfl
      · rw [l_NoPoint]; exact basic_not h i_NoPoint tD_NoPoint
      · rw [l_NoRow]; exact basic_not h i_NoRow tD_NoRow
      · rw [l_TooMany]; exact basic_not h i_TooMany tD_TooMany)), ⟨hn, ht⟩⟩
  have T_t_NoSize_NoPoint_TooMany : KitAT ⟨K, (clf A_Hold A_Net A_NoPoint A_NoRow A_NoSize A_OhmError A_Piece A_Push A_TooMany)⟩ [(.ref ((clf A_Hold A_Net A_NoPoint A_NoRow A_NoSize A_OhmError A_Piece A_Push A_TooMany) "NoSize")), (.ref ((clf A_Hold A_Net A_NoPoint A_NoRow A_NoSize A_OhmError A_Piece A_Push A_TooMany) "NoPoint")), (.ref ((clf A_Hold A_Net A_NoPoint A_NoRow A_NoSize A_OhmError A_Piece A_Push A_TooMany) "TooMany"))] tabE_NoSize_NoPoint_TooMany tabO_NoSize_NoPoint_TooMany := ⟨(fun c b h => by
    unfold tabE_NoSize_NoPoint_TooMany at h
    by_cases h_NoPoint : c = "NoPoint"
    · subst h_NoPoint
      simp at h
      subst h; refine ⟨?_, A_at_NoPoint⟩; show PySem.W.kitAny K (.ref ((clf A_Hold A_Net A_NoPoint A_NoRow A_NoSize A_OhmError A_Piece A_Push A_TooMany) "NoPoint")) [(.ref ((clf A_Hold A_Net A_NoPoint A_NoRow A_NoSize A_OhmError A_Piece A_Push A_TooMany) "NoSize")), (.ref ((clf A_Hold A_Net A_NoPoint A_NoRow A_NoSize A_OhmError A_Piece A_Push A_TooMany) "NoPoint")), (.ref ((clf A_Hold A_Net A_NoPoint A_NoRow A_NoSize A_OhmError A_Piece A_Push A_TooMany) "TooMany"))] = _; rw [l_NoPoint, l_NoSize, l_TooMany]; exact (kitAny_cons (kit_ref s_NoPoint_NoPoint s_NoPoint_NoSize i_NoSize tD_NoSize) (fun _ => (kitAny_cons (kit_ref s_NoPoint_NoPoint s_NoPoint_NoPoint i_NoPoint tD_NoPoint) (fun z => nomatch z) (fun _ => rfl))) (fun z => nomatch z))
    rw [if_neg h_NoPoint] at h
    by_cases h_NoRow : c = "NoRow"
    · subst h_NoRow
      simp at h
      subst h; refine ⟨?_, A_at_NoRow⟩; show PySem.W.kitAny K (.ref ((clf A_Hold A_Net A_NoPoint A_NoRow A_NoSize A_OhmError A_Piece A_Push A_TooMany) "NoRow")) [(.ref ((clf A_Hold A_Net A_NoPoint A_NoRow A_NoSize A_OhmError A_Piece A_Push A_TooMany) "NoSize")), (.ref ((clf A_Hold A_Net A_NoPoint A_NoRow A_NoSize A_OhmError A_Piece A_Push A_TooMany) "NoPoint")), (.ref ((clf A_Hold A_Net A_NoPoint A_NoRow A_NoSize A_OhmError A_Piece A_Push A_TooMany) "TooMany"))] = _; rw [l_NoRow, l_NoSize, l_NoPoint, l_TooMany]; exact (kitAny_cons (kit_ref s_NoRow_NoRow s_NoRow_NoSize i_NoSize tD_NoSize) (fun _ => (kitAny_cons (kit_ref s_NoRow_NoRow s_NoRow_NoPoint i_NoPoint tD_NoPoint) (fun _ => (kitAny_cons (kit_ref s_NoRow_NoRow s_NoRow_TooMany i_TooMany tD_TooMany) (fun _ => kitAny_nil) (fun z => nomatch z))) (fun z => nomatch z))) (fun z => nomatch z))
    rw [if_neg h_NoRow] at h
    by_cases h_NoSize : c = "NoSize"
    · subst h_NoSize
      simp at h
      subst h; refine ⟨?_, A_at_NoSize⟩; show PySem.W.kitAny K (.ref ((clf A_Hold A_Net A_NoPoint A_NoRow A_NoSize A_OhmError A_Piece A_Push A_TooMany) "NoSize")) [(.ref ((clf A_Hold A_Net A_NoPoint A_NoRow A_NoSize A_OhmError A_Piece A_Push A_TooMany) "NoSize")), (.ref ((clf A_Hold A_Net A_NoPoint A_NoRow A_NoSize A_OhmError A_Piece A_Push A_TooMany) "NoPoint")), (.ref ((clf A_Hold A_Net A_NoPoint A_NoRow A_NoSize A_OhmError A_Piece A_Push A_TooMany) "TooMany"))] = _; rw [l_NoSize, l_NoPoint, l_TooMany]; exact (kitAny_cons (kit_ref s_NoSize_NoSize s_NoSize_NoSize i_NoSize tD_NoSize) (fun z => nomatch z) (fun _ => rfl))
    rw [if_neg h_NoSize] at h
    by_cases h_TooMany : c = "TooMany"
    · subst h_TooMany
      simp at h
      subst h; refine ⟨?_, A_at_TooMany⟩; show PySem.W.kitAny K (.ref ((clf A_Hold A_Net A_NoPoint A_NoRow A_NoSize A_OhmError A_Piece A_Push A_TooMany) "TooMany")) [(.ref ((clf A_Hold A_Net A_NoPoint A_NoRow A_NoSize A_OhmError A_Piece A_Push A_TooMany) "NoSize")), (.ref ((clf A_Hold A_Net A_NoPoint A_NoRow A_NoSize A_OhmError A_Piece A_Push A_TooMany) "NoPoint")), (.ref ((clf A_Hold A_Net A_NoPoint A_NoRow A_NoSize A_OhmError A_Piece A_Push A_TooMany) "TooMany"))] = _; rw [l_TooMany, l_NoSize, l_NoPoint]; exact (kitAny_cons (kit_ref s_TooMany_TooMany s_TooMany_NoSize i_NoSize tD_NoSize) (fun _ => (kitAny_cons (kit_ref s_TooMany_TooMany s_TooMany_NoPoint i_NoPoint tD_NoPoint) (fun _ => (kitAny_cons (kit_ref s_TooMany_TooMany s_TooMany_TooMany i_TooMany tD_TooMany) (fun z => nomatch z) (fun _ => rfl))) (fun z => nomatch z))) (fun z => nomatch z))
    rw [if_neg h_TooMany] at h
    cases h), (fun c b h => by
    unfold tabO_NoSize_NoPoint_TooMany at h
    by_cases h_Hold : c = "Hold"
    · subst h_Hold
      simp at h
      subst h; refine ⟨?_, In_Hold⟩; show PySem.W.kitAny K (.ref ((clf A_Hold A_Net A_NoPoint A_NoRow A_NoSize A_OhmError A_Piece A_Push A_TooMany) "Hold")) [(.ref ((clf A_Hold A_Net A_NoPoint A_NoRow A_NoSize A_OhmError A_Piece A_Push A_TooMany) "NoSize")), (.ref ((clf A_Hold A_Net A_NoPoint A_NoRow A_NoSize A_OhmError A_Piece A_Push A_TooMany) "NoPoint")), (.ref ((clf A_Hold A_Net A_NoPoint A_NoRow A_NoSize A_OhmError A_Piece A_Push A_TooMany) "TooMany"))] = _; rw [l_Hold, l_NoSize, l_NoPoint, l_TooMany]; exact (kitAny_cons (kit_ref s_Hold_Hold s_Hold_NoSize i_NoSize tD_NoSize) (fun _ => (kitAny_cons (kit_ref s_Hold_Hold s_Hold_NoPoint i_NoPoint tD_NoPoint) (fun _ => (kitAny_cons (kit_ref s_Hold_Hold s_Hold_TooMany i_TooMany tD_TooMany) (fun _ => kitAny_nil) (fun z => nomatch z))) (fun z => nomatch z))) (fun z => nomatch z))
    rw [if_neg h_Hold] at h
    by_cases h_Net : c = "Net"
    · subst h_Net
      simp at h
      subst h; refine ⟨?_, In_Net⟩; show PySem.W.kitAny K (.ref ((clf A_Hold A_Net A_NoPoint A_NoRow A_NoSize A_OhmError A_Piece A_Push A_TooMany) "Net")) [(.ref ((clf A_Hold A_Net A_NoPoint A_NoRow A_NoSize A_OhmError A_Piece A_Push A_TooMany) "NoSize")), (.ref ((clf A_Hold A_Net A_NoPoint A_NoRow A_NoSize A_OhmError A_Piece A_Push A_TooMany) "NoPoint")), (.ref ((clf A_Hold A_Net A_NoPoint A_NoRow A_NoSize A_OhmError A_Piece A_Push A_TooMany) "TooMany"))] = _; rw [l_Net, l_NoSize, l_NoPoint, l_TooMany]; exact (kitAny_cons (kit_ref s_Net_Net s_Net_NoSize i_NoSize tD_NoSize) (fun _ => (kitAny_cons (kit_ref s_Net_Net s_Net_NoPoint i_NoPoint tD_NoPoint) (fun _ => (kitAny_cons (kit_ref s_Net_Net s_Net_TooMany i_TooMany tD_TooMany) (fun _ => kitAny_nil) (fun z => nomatch z))) (fun z => nomatch z))) (fun z => nomatch z))
    rw [if_neg h_Net] at h
    by_cases h_Piece : c = "Piece"
    · subst h_Piece
      simp at h
      subst h; refine ⟨?_, In_Piece⟩; show PySem.W.kitAny K (.ref ((clf A_Hold A_Net A_NoPoint A_NoRow A_NoSize A_OhmError A_Piece A_Push A_TooMany) "Piece")) [(.ref ((clf A_Hold A_Net A_NoPoint A_NoRow A_NoSize A_OhmError A_Piece A_Push A_TooMany) "NoSize")), (.ref ((clf A_Hold A_Net A_NoPoint A_NoRow A_NoSize A_OhmError A_Piece A_Push A_TooMany) "NoPoint")), (.ref ((clf A_Hold A_Net A_NoPoint A_NoRow A_NoSize A_OhmError A_Piece A_Push A_TooMany) "TooMany"))] = _; rw [l_Piece, l_NoSize, l_NoPoint, l_TooMany]; exact (kitAny_cons (kit_ref s_Piece_Piece s_Piece_NoSize i_NoSize tD_NoSize) (fun _ => (kitAny_cons (kit_ref s_Piece_Piece s_Piece_NoPoint i_NoPoint tD_NoPoint) (fun _ => (kitAny_cons (kit_ref s_Piece_Piece s_Piece_TooMany i_TooMany tD_TooMany) (fun _ => kitAny_nil) (fun z => nomatch z))) (fun z => nomatch z))) (fun z => nomatch z))
    rw [if_neg h_Piece] at h
    by_cases h_Push : c = "Push"
    · subst h_Push
      simp at h
      subst h; refine ⟨?_, In_Push⟩; show PySem.W.kitAny K (.ref ((clf A_Hold A_Net A_NoPoint A_NoRow A_NoSize A_OhmError A_Piece A_Push A_TooMany) "Push")) [(.ref ((clf A_Hold A_Net A_NoPoint A_NoRow A_NoSize A_OhmError A_Piece A_Push A_TooMany) "NoSize")), (.ref ((clf A_Hold A_Net A_NoPoint A_NoRow A_NoSize A_OhmError A_Piece A_Push A_TooMany) "NoPoint")), (.ref ((clf A_Hold A_Net A_NoPoint A_NoRow A_NoSize A_OhmError A_Piece A_Push A_TooMany) "TooMany"))] = _; rw [l_Push, l_NoSize, l_NoPoint, l_TooMany]; exact (kitAny_cons (kit_ref s_Push_Push s_Push_NoSize i_NoSize tD_NoSize) (fun _ => (kitAny_cons (kit_ref s_Push_Push s_Push_NoPoint i_NoPoint tD_NoPoint) (fun _ => (kitAny_cons (kit_ref s_Push_Push s_Push_TooMany i_TooMany tD_TooMany) (fun _ => kitAny_nil) (fun z => nomatch z))) (fun z => nomatch z))) (fun z => nomatch z))
    rw [if_neg h_Push] at h
    cases h), (fun t h => basic_any (fun u hu => by
      simp only [List.mem_cons, List.not_mem_nil, or_false] at hu
      rcases hu with rfl | rfl | rfl
      · rw [l_NoSize]; exact basic_not h i_NoSize tD_NoSize
      · rw [l_NoPoint]; exact basic_not h i_NoPoint tD_NoPoint
      · rw [l_TooMany]; exact basic_not h i_TooMany tD_TooMany)), ⟨hn, ht⟩⟩
  have T_t_NoSize_NoRow_TooMany : KitAT ⟨K, (clf A_Hold A_Net A_NoPoint A_NoRow A_NoSize A_OhmError A_Piece A_Push A_TooMany)⟩ [(.ref ((clf A_Hold A_Net A_NoPoint A_NoRow A_NoSize A_OhmError A_Piece A_Push A_TooMany) "NoSize")), (.ref ((clf A_Hold A_Net A_NoPoint A_NoRow A_NoSize A_OhmError A_Piece A_Push A_TooMany) "NoRow")), (.ref ((clf A_Hold A_Net A_NoPoint A_NoRow A_NoSize A_OhmError A_Piece A_Push A_TooMany) "TooMany"))] tabE_NoSize_NoRow_TooMany tabO_NoSize_NoRow_TooMany := ⟨(fun c b h => by
    unfold tabE_NoSize_NoRow_TooMany at h
    by_cases h_NoPoint : c = "NoPoint"
    · subst h_NoPoint
      simp at h
      subst h; refine ⟨?_, A_at_NoPoint⟩; show PySem.W.kitAny K (.ref ((clf A_Hold A_Net A_NoPoint A_NoRow A_NoSize A_OhmError A_Piece A_Push A_TooMany) "NoPoint")) [(.ref ((clf A_Hold A_Net A_NoPoint A_NoRow A_NoSize A_OhmError A_Piece A_Push A_TooMany) "NoSize")), (.ref ((clf A_Hold A_Net A_NoPoint A_NoRow A_NoSize A_OhmError A_Piece A_Push A_TooMany) "NoRow")), (.ref ((clf A_Hold A_Net A_NoPoint A_NoRow A_NoSize A_OhmError A_Piece A_Push A_TooMany) "TooMany"))] = _; rw [l_NoPoint, l_NoSize, l_NoRow, l_TooMany]; exact (kitAny_cons (kit_ref s_NoPoint_NoPoint s_NoPoint_NoSize i_NoSize tD_NoSize) (fun _ => (kitAny_cons (kit_ref s_NoPoint_NoPoint s_NoPoint_NoRow i_NoRow tD_NoRow) (fun _ => (kitAny_cons (kit_ref s_NoPoint_NoPoint s_NoPoint_TooMany i_TooMany tD_TooMany) (fun _ => kitAny_nil) (fun z => nomatch z))) (fun z => nomatch z))) (fun z => nomatch z))
    rw [if_neg h_NoPoint] at h
    by_cases h_NoRow : c = "NoRow"
    · subst h_NoRow
      simp at h
      subst h; refine ⟨?_, A_at_NoRow⟩; show PySem.W.kitAny K (.ref ((clf A_Hold A_Net A_NoPoint A_NoRow A_NoSize A_OhmError A_Piece A_Push A_TooMany) "NoRow")) [(.ref ((clf A_Hold A_Net A_NoPoint A_NoRow A_NoSize A_OhmError A_Piece A_Push A_TooMany) "NoSize")), (.ref ((clf A_Hold A_Net A_NoPoint A_NoRow A_NoSize A_OhmError A_Piece A_Push A_TooMany) "NoRow")), (.ref ((clf A_Hold A_Net A_NoPoint A_NoRow A_NoSize A_OhmError A_Piece A_Push A_TooMany) "TooMany"))] = _; rw [l_NoRow, l_NoSize, l_TooMany]; exact (kitAny_cons (kit_ref s_NoRow_NoRow s_NoRow_NoSize i_NoSize tD_NoSize) (fun _ => (kitAny_cons (kit_ref s_NoRow_NoRow s_NoRow_NoRow i_NoRow tD_NoRow) (fun z => nomatch z) (fun _ => rfl))) (fun z => nomatch z))
    rw [if_neg h_NoRow] at h
    by_cases h_NoSize : c = "NoSize"
    · subst h_NoSize
      simp at h
      subst h; refine ⟨?_, A_at_NoSize⟩; show PySem.W.kitAny K (.ref ((clf A_Hold A_Net A_NoPoint A_NoRow A_NoSize A_OhmError A_Piece A_Push A_TooMany) "NoSize")) [(.ref ((clf A_Hold A_Net A_NoPoint A_NoRow A_NoSize A_OhmError A_Piece A_Push A_TooMany) "NoSize")), (.ref ((clf A_Hold A_Net A_NoPoint A_NoRow A_NoSize A_OhmError A_Piece A_Push A_TooMany) "NoRow")), (.ref ((clf A_Hold A_Net A_NoPoint A_NoRow A_NoSize A_OhmError A_Piece A_Push A_TooMany) "TooMany"))] = _; rw [l_NoSize, l_NoRow, l_TooMany]; exact (kitAny_cons (kit_ref s_NoSize_NoSize s_NoSize_NoSize i_NoSize tD_NoSize) (fun z => nomatch z) (fun _ => rfl))
    rw [if_neg h_NoSize] at h
    by_cases h_TooMany : c = "TooMany"
    · subst h_TooMany
      simp at h
      subst h; refine ⟨?_, A_at_TooMany⟩; show PySem.W.kitAny K (.ref ((clf A_Hold A_Net A_NoPoint A_NoRow A_NoSize A_OhmError A_Piece A_Push A_TooMany) "TooMany")) [(.ref ((clf A_Hold A_Net A_NoPoint A_NoRow A_NoSize A_OhmError A_Piece A_Push A_TooMany) "NoSize")), (.ref ((clf A_Hold A_Net A_NoPoint A_NoRow A_NoSize A_OhmError A_Piece A_Push A_TooMany) "NoRow")), (.ref ((clf A_Hold A_Net A_NoPoint A_NoRow A_NoSize A_OhmError A_Piece A_Push A_TooMany) "TooMany"))] = _; rw [l_TooMany, l_NoSize, l_NoRow]; exact (kitAny_cons (kit_ref s_TooMany_TooMany s_TooMany_NoSize i_NoSize tD_NoSize) (fun _ => (kitAny_cons (kit_ref s_TooMany_TooMany s_TooMany_NoRow i_NoRow tD_NoRow) (fun _ => (kitAny_cons (kit_ref s_TooMany_TooMany s_TooMany_TooMany i_TooMany tD_TooMany) (fun z => nomatch z) (fun _ => rfl))) (fun z => nomatch z))) (fun z => nomatch z))
    rw [if_neg h_TooMany] at h
    cases h), (fun c b h => by
    unfold tabO_NoSize_NoRow_TooMany at h
    by_cases h_Hold : c = "Hold"
    · subst h_Hold
      simp at h
      subst h; refine ⟨?_, In_Hold⟩; show PySem.W.kitAny K (.ref ((clf A_Hold A_Net A_NoPoint A_NoRow A_NoSize A_OhmError A_Piece A_Push A_TooMany) "Hold")) [(.ref ((clf A_Hold A_Net A_NoPoint A_NoRow A_NoSize A_OhmError A_Piece A_Push A_TooMany) "NoSize")), (.ref ((clf A_Hold A_Net A_NoPoint A_NoRow A_NoSize A_OhmError A_Piece A_Push A_TooMany) "NoRow")), (.ref ((clf A_Hold A_Net A_NoPoint A_NoRow A_NoSize A_OhmError A_Piece A_Push A_TooMany) "TooMany"))] = _; rw [l_Hold, l_NoSize, l_NoRow, l_TooMany]; exact (kitAny_cons (kit_ref s_Hold_Hold s_Hold_NoSize i_NoSize tD_NoSize) (fun _ => (kitAny_cons (kit_ref s_Hold_Hold s_Hold_NoRow i_NoRow tD_NoRow) (fun _ => (kitAny_cons (kit_ref s_Hold_Hold s_Hold_TooMany i_TooMany tD_TooMany) (fun _ => kitAny_nil) (fun z => nomatch z))) (fun z => nomatch z))) (fun z => nomatch z))
    rw [if_neg h_Hold] at h
    by_cases h_Net : c = "Net"
    · subst h_Net
      simp at h
      subst h; refine ⟨?_, In_Net⟩; show PySem.W.kitAny K (.ref ((clf A_Hold A_Net A_NoPoint A_NoRow A_NoSize A_OhmError A_Piece A_Push A_TooMany) "Net")) [(.ref ((clf A_Hold A_Net A_NoPoint A_NoRow A_NoSize A_OhmError A_Piece A_Push A_TooMany) "NoSize")), (.ref ((clf A_Hold A_Net A_NoPoint A_NoRow A_NoSize A_OhmError A_Piece A_Push A_TooMany) "NoRow")), (.ref ((clf A_Hold A_Net A_NoPoint A_NoRow A_NoSize A_OhmError A_Piece A_Push A_TooMany) "TooMany"))] = _; rw [l_Net, l_NoSize, l_NoRow, l_TooMany]; exact (kitAny_cons (kit_ref s_Net_Net s_Net_NoSize i_NoSize tD_NoSize) (fun _ => (kitAny_cons (kit_ref s_Net_Net s_Net_NoRow i_NoRow tD_NoRow) (fun _ => (kitAny_cons (kit_ref s_Net_Net s_Net_TooMany i_TooMany tD_TooMany) (fun _ => kitAny_nil) (fun z => nomatch z))) (fun z => nomatch z))) (fun z => nomatch z))
    rw [if_neg h_Net] at h
    by_cases h_Piece : c = "Piece"
    · subst h_Piece
      simp at h
      subst h; refine ⟨?_, In_Piece⟩; show PySem.W.kitAny K (.ref ((clf A_Hold A_Net A_NoPoint A_NoRow A_NoSize A_OhmError A_Piece A_Push A_TooMany) "Piece")) [(.ref ((clf A_Hold A_Net A_NoPoint A_NoRow A_NoSize A_OhmError A_Piece A_Push A_TooMany) "NoSize")), (.ref ((clf A_Hold A_Net A_NoPoint A_NoRow A_NoSize A_OhmError A_Piece A_Push A_TooMany) "NoRow")), (.ref ((clf A_Hold A_Net A_NoPoint A_NoRow A_NoSize A_OhmError A_Piece A_Push A_TooMany) "TooMany"))] = _; rw [l_Piece, l_NoSize, l_NoRow, l_TooMany]; exact (kitAny_cons (kit_ref s_Piece_Piece s_Piece_NoSize i_NoSize tD_NoSize) (fun _ => (kitAny_cons (kit_ref s_Piece_Piece s_Piece_NoRow i_NoRow tD_NoRow) (fun _ => (kitAny_cons (kit_ref s_Piece_Piece s_Piece_TooMany i_TooMany tD_TooMany) (fun _ => kitAny_nil) (fun z => nomatch z))) (fun z => nomatch z))) (fun z => nomatch z))
    rw [if_neg h_Piece] at h
    by_cases h_Push : c = "Push"
    · subst h_Push
      simp at h
      subst h; refine ⟨?_, In_Push⟩; show PySem.W.kitAny K (.ref ((clf A_Hold A_Net A_NoPoint A_NoRow A_NoSize A_OhmError A_Piece A_Push A_TooMany) "Push")) [(.ref ((clf A_Hold A_Net A_NoPoint A_NoRow A_NoSize A_OhmError A_Piece A_Push A_TooMany) "NoSize")), (.ref ((clf A_Hold A_Net A_NoPoint A_NoRow A_NoSize A_OhmError A_Piece A_Push A_TooMany) "NoRow")), (.ref ((clf A_Hold A_Net A_NoPoint A_NoRow A_NoSize A_OhmError A_Piece A_Push A_TooMany) "TooMany"))] = _; rw [l_Push, l_NoSize, l_NoRow, l_TooMany]; exact (kitAny_cons (kit_ref s_Push_Push s_Push_NoSize i_NoSize tD_NoSize) (fun _ => (kitAny_cons (kit_ref s_Push_Push s_Push_NoRow i_NoRow tD_NoRow) (fun _ => (kitAny_cons (kit_ref s_Push_Push s_Push_TooMany i_TooMany tD_TooMany) (fun _ => kitAny_nil) (fun z => nomatch z))) (fun z => nomatch z))) (fun z => nomatch z))
    rw [if_neg h_Push] at h
    cases h), (fun t h => basic_any (fun u hu => by
      simp only [List.mem_cons, List.not_mem_nil, or_false] at hu
      rcases hu with rfl | rfl | rfl
      · rw [l_NoSize]; exact basic_not h i_NoSize tD_NoSize
      · rw [l_NoRow]; exact basic_not h i_NoRow tD_NoRow
      · rw [l_TooMany]; exact basic_not h i_TooMany tD_TooMany)), ⟨hn, ht⟩⟩
  have T_f_goal : AF ⟨K, (clf A_Hold A_Net A_NoPoint A_NoRow A_NoSize A_OhmError A_Piece A_Push A_TooMany)⟩ "goal" tabF_goal := fun c h => by
    unfold tabF_goal at h
    simp only [Bool.or_eq_true, decide_eq_true_eq] at h
    rcases h with (rfl | rfl) | rfl
    · exact ⟨Cl_Hold, by show PySem.W.findIn K (.ref ((clf A_Hold A_Net A_NoPoint A_NoRow A_NoSize A_OhmError A_Piece A_Push A_TooMany) "Hold")) _ = _; rw [l_Hold]; exact no_Hold_goal⟩
    · exact ⟨Cl_Piece, by show PySem.W.findIn K (.ref ((clf A_Hold A_Net A_NoPoint A_NoRow A_NoSize A_OhmError A_Piece A_Push A_TooMany) "Piece")) _ = _; rw [l_Piece]; exact no_Piece_goal⟩
    · exact ⟨Cl_Push, by show PySem.W.findIn K (.ref ((clf A_Hold A_Net A_NoPoint A_NoRow A_NoSize A_OhmError A_Piece A_Push A_TooMany) "Push")) _ = _; rw [l_Push]; exact no_Push_goal⟩
  have T_f_kept : AF ⟨K, (clf A_Hold A_Net A_NoPoint A_NoRow A_NoSize A_OhmError A_Piece A_Push A_TooMany)⟩ "kept" tabF_kept := fun c h => by
    unfold tabF_kept at h
    simp only [Bool.or_eq_true, decide_eq_true_eq] at h
    subst h
    exact ⟨Cl_Net, by show PySem.W.findIn K (.ref ((clf A_Hold A_Net A_NoPoint A_NoRow A_NoSize A_OhmError A_Piece A_Push A_TooMany) "Net")) _ = _; rw [l_Net]; exact no_Net_kept⟩
  have T_f_size : AF ⟨K, (clf A_Hold A_Net A_NoPoint A_NoRow A_NoSize A_OhmError A_Piece A_Push A_TooMany)⟩ "size" tabF_size := fun c h => by
    unfold tabF_size at h
    simp only [Bool.or_eq_true, decide_eq_true_eq] at h
    rcases h with (rfl | rfl) | rfl
    · exact ⟨Cl_Hold, by show PySem.W.findIn K (.ref ((clf A_Hold A_Net A_NoPoint A_NoRow A_NoSize A_OhmError A_Piece A_Push A_TooMany) "Hold")) _ = _; rw [l_Hold]; exact no_Hold_size⟩
    · exact ⟨Cl_Piece, by show PySem.W.findIn K (.ref ((clf A_Hold A_Net A_NoPoint A_NoRow A_NoSize A_OhmError A_Piece A_Push A_TooMany) "Piece")) _ = _; rw [l_Piece]; exact no_Piece_size⟩
    · exact ⟨Cl_Push, by show PySem.W.findIn K (.ref ((clf A_Hold A_Net A_NoPoint A_NoRow A_NoSize A_OhmError A_Piece A_Push A_TooMany) "Push")) _ = _; rw [l_Push]; exact no_Push_size⟩
  have T_f_sizes : AF ⟨K, (clf A_Hold A_Net A_NoPoint A_NoRow A_NoSize A_OhmError A_Piece A_Push A_TooMany)⟩ "sizes" tabF_sizes := fun c h => by
    unfold tabF_sizes at h
    simp only [Bool.or_eq_true, decide_eq_true_eq] at h
    subst h
    exact ⟨Cl_Net, by show PySem.W.findIn K (.ref ((clf A_Hold A_Net A_NoPoint A_NoRow A_NoSize A_OhmError A_Piece A_Push A_TooMany) "Net")) _ = _; rw [l_Net]; exact no_Net_sizes⟩
  have T_f_start : AF ⟨K, (clf A_Hold A_Net A_NoPoint A_NoRow A_NoSize A_OhmError A_Piece A_Push A_TooMany)⟩ "start" tabF_start := fun c h => by
    unfold tabF_start at h
    simp only [Bool.or_eq_true, decide_eq_true_eq] at h
    rcases h with (rfl | rfl) | rfl
    · exact ⟨Cl_Hold, by show PySem.W.findIn K (.ref ((clf A_Hold A_Net A_NoPoint A_NoRow A_NoSize A_OhmError A_Piece A_Push A_TooMany) "Hold")) _ = _; rw [l_Hold]; exact no_Hold_start⟩
    · exact ⟨Cl_Piece, by show PySem.W.findIn K (.ref ((clf A_Hold A_Net A_NoPoint A_NoRow A_NoSize A_OhmError A_Piece A_Push A_TooMany) "Piece")) _ = _; rw [l_Piece]; exact no_Piece_start⟩
    · exact ⟨Cl_Push, by show PySem.W.findIn K (.ref ((clf A_Hold A_Net A_NoPoint A_NoRow A_NoSize A_OhmError A_Piece A_Push A_TooMany) "Push")) _ = _; rw [l_Push]; exact no_Push_start⟩
  have T : Txt ⟨K, (clf A_Hold A_Net A_NoPoint A_NoRow A_NoSize A_OhmError A_Piece A_Push A_TooMany)⟩ mg := ⟨PySem.W.mg_none_of X G z_abs, PySem.W.mg_none_of X G z_bool, PySem.W.mg_none_of X G z_int, PySem.W.mg_none_of X G z_isinstance, PySem.W.mg_none_of X G z_len, PySem.W.mg_none_of X G z_list, PySem.W.mg_none_of X G z_range, PySem.W.mg_none_of X G z_tuple, T_e_NoPoint, T_e_NoRow, T_e_NoSize, T_e_TooMany, (by show mg "Hold" = some (.ref ((clf A_Hold A_Net A_NoPoint A_NoRow A_NoSize A_OhmError A_Piece A_Push A_TooMany) "Hold")); rw [l_Hold]; exact PySem.W.mg_of X G x_Hold), (by show mg "NoPoint" = some (.ref ((clf A_Hold A_Net A_NoPoint A_NoRow A_NoSize A_OhmError A_Piece A_Push A_TooMany) "NoPoint")); rw [l_NoPoint]; exact PySem.W.mg_of X G x_NoPoint), (by show mg "NoRow" = some (.ref ((clf A_Hold A_Net A_NoPoint A_NoRow A_NoSize A_OhmError A_Piece A_Push A_TooMany) "NoRow")); rw [l_NoRow]; exact PySem.W.mg_of X G x_NoRow), (by show mg "NoSize" = some (.ref ((clf A_Hold A_Net A_NoPoint A_NoRow A_NoSize A_OhmError A_Piece A_Push A_TooMany) "NoSize")); rw [l_NoSize]; exact PySem.W.mg_of X G x_NoSize), (by show mg "OhmError" = some (.ref ((clf A_Hold A_Net A_NoPoint A_NoRow A_NoSize A_OhmError A_Piece A_Push A_TooMany) "OhmError")); rw [l_OhmError]; exact PySem.W.mg_of X G x_OhmError), (by show mg "Piece" = some (.ref ((clf A_Hold A_Net A_NoPoint A_NoRow A_NoSize A_OhmError A_Piece A_Push A_TooMany) "Piece")); rw [l_Piece]; exact PySem.W.mg_of X G x_Piece), (by show mg "TooMany" = some (.ref ((clf A_Hold A_Net A_NoPoint A_NoRow A_NoSize A_OhmError A_Piece A_Push A_TooMany) "TooMany")); rw [l_TooMany]; exact PySem.W.mg_of X G x_TooMany), T_u_OhmError, T_k_Hold, T_k_NoPoint, T_k_NoRow, T_k_NoSize, T_k_Piece, T_t_NoPoint_NoRow_TooMany, T_t_NoSize_NoPoint_TooMany, T_t_NoSize_NoRow_TooMany, T_f_goal, T_f_kept, T_f_size, T_f_sizes, T_f_start, ⟨.int 20, .int 20 Gt_MOST_POINTS, PySem.W.mg_of X G gx_MOST_POINTS, ⟨_, rfl⟩, fun B => by unfold c_MOST_POINTS; simp only [Rep]⟩, ⟨.int 40, .int 40 Gt_MOST_ROWS, PySem.W.mg_of X G gx_MOST_ROWS, ⟨_, rfl⟩, fun B => by unfold c_MOST_ROWS; simp only [Rep]⟩⟩
  have F0 := fun_mk (st := s_is_whole) l0 c0 k0
  have b0 := F0.binds (ps := ["thing"]) fun _ _ _ _ _ _ us hl => match us, hl with | [_], _ => rfl
  have F1 := fun_mk (st := s_Net_init) l1 c1 k1
  have b1 := F1.binds (ps := ["self", "many"]) fun _ _ _ _ _ _ us hl => match us, hl with | [_, _], _ => rfl
  have F2 := fun_mk (st := s_Piece_word) l2 c2 k2
  have b2 := F2.binds (ps := ["self"]) fun _ _ _ _ _ _ us hl => match us, hl with | [_], _ => rfl
  have F3 := fun_mk (st := s_Push_word) l3 c3 k3
  have b3 := F3.binds (ps := ["self"]) fun _ _ _ _ _ _ us hl => match us, hl with | [_], _ => rfl
  have F4 := fun_mk (st := s_Hold_word) l4 c4 k4
  have b4 := F4.binds (ps := ["self"]) fun _ _ _ _ _ _ us hl => match us, hl with | [_], _ => rfl
  have F5 := fun_mk (st := s_Row_told) l5 c5 k5
  have b5 := F5.binds (ps := ["self"]) fun _ _ _ _ _ _ us hl => match us, hl with | [_], _ => rfl
  have F6 := fun_mk (st := s_Net_told) l6 c6 k6
  have b6 := F6.binds (ps := ["self"]) fun _ _ _ _ _ _ us hl => match us, hl with | [_], _ => rfl
  have F7 := fun_mk (st := s_Row_init) l7 c7 k7
  have b7 := F7.binds (ps := ["self", "start", "goal", "size"]) fun _ _ _ _ _ _ us hl => match us, hl with | [_, _, _, _], _ => rfl
  have F8 := fun_mk (st := s_row_of) l8 c8 k8
  have b8 := F8.binds (ps := ["told"]) fun _ _ _ _ _ _ us hl => match us, hl with | [_], _ => rfl
  have F9 := fun_mk (st := s_Net_rows) l9 c9 k9
  have b9 := F9.binds (ps := ["self"]) fun _ _ _ _ _ _ us hl => match us, hl with | [_], _ => rfl
  have F10 := fun_mk (st := s_law_objects) l10 c10 k10
  have b10 := F10.binds (ps := ["net", "rows"]) fun _ _ _ _ _ _ us hl => match us, hl with | [_, _], _ => rfl
  have F11 := fun_mk (st := s_Net_many) l11 c11 k11
  have b11 := F11.binds (ps := ["self"]) fun _ _ _ _ _ _ us hl => match us, hl with | [_], _ => rfl
  have F12 := fun_mk (st := s_Net_count) l12 c12 k12
  have b12 := F12.binds (ps := ["self"]) fun _ _ _ _ _ _ us hl => match us, hl with | [_], _ => rfl
  have F13 := fun_mk (st := s_law_look) l13 c13 k13
  have b13 := F13.binds (ps := ["net", "many", "rows", "first"]) fun _ _ _ _ _ _ us hl => match us, hl with | [_, _, _, _], _ => rfl
  have F14 := fun_mk (st := s_law_mix) l14 c14 k14
  have b14 := F14.binds (ps := ["cell", "prime", "many"]) fun _ _ _ _ _ _ us hl => match us, hl with | [_, _, _], _ => rfl
  have F15 := fun_mk (st := s_law_pick) l15 c15 k15
  have b15 := F15.binds (ps := ["script", "k"]) fun _ _ _ _ _ _ us hl => match us, hl with | [_, _], _ => rfl
  have F16 := fun_mk (st := s_law_divisor) l16 c16 k16
  have b16 := F16.binds (ps := ["one", "other"]) fun _ _ _ _ _ _ us hl => match us, hl with | [_, _], _ => rfl
  have F17 := fun_mk (st := s_law_size) l17 c17 k17
  have b17 := F17.binds (ps := ["cell", "word"]) fun _ _ _ _ _ _ us hl => match us, hl with | [_, _], _ => rfl
  have F18 := fun_mk (st := s_divisor) l18 c18 k18
  have b18 := F18.binds (ps := ["one", "other"]) fun _ _ _ _ _ _ us hl => match us, hl with | [_, _], _ => rfl
  have F19 := fun_mk (st := s_is_fraction) l19 c19 k19
  have b19 := F19.binds (ps := ["thing"]) fun _ _ _ _ _ _ us hl => match us, hl with | [_], _ => rfl
  have F20 := fun_mk (st := s_fits) l20 c20 k20
  have b20 := F20.binds (ps := ["word", "size"]) fun _ _ _ _ _ _ us hl => match us, hl with | [_, _], _ => rfl
  have F21 := fun_mk (st := s_Net_has) l21 c21 k21
  have b21 := F21.binds (ps := ["self", "point"]) fun _ _ _ _ _ _ us hl => match us, hl with | [_, _], _ => rfl
  have F22 := fun_mk (st := s_Net_add) l22 c22 k22
  have b22 := F22.binds (ps := ["self", "row"]) fun _ _ _ _ _ _ us hl => match us, hl with | [_, _], _ => rfl
  have F23 := fun_mk (st := s_Net_change) l23 c23 k23
  have b23 := F23.binds (ps := ["self", "k", "size"]) fun _ _ _ _ _ _ us hl => match us, hl with | [_, _, _], _ => rfl
  have F24 := fun_mk (st := s_law_answer) l24 c24 k24
  have b24 := F24.binds (ps := ["net", "deed", "row", "k", "size"]) fun _ _ _ _ _ _ us hl => match us, hl with | [_, _, _, _, _], _ => rfl
  have F25 := fun_mk (st := s_law_bad_size) l25 c25 k25
  have b25 := F25.binds (ps := ["cell", "word", "size"]) fun _ _ _ _ _ _ us hl => match us, hl with | [_, _, _], _ => rfl
  have F26 := fun_mk (st := s_law_change) l26 c26 k26
  have b26 := F26.binds (ps := ["net", "rows", "cell"]) fun _ _ _ _ _ _ us hl => match us, hl with | [_, _, _], _ => rfl
  have F27 := fun_mk (st := s_law_made) l27 c27 k27
  have b27 := F27.binds (ps := ["word", "start", "goal", "size"]) fun _ _ _ _ _ _ us hl => match us, hl with | [_, _, _, _], _ => rfl
  have F28 := fun_mk (st := s_law_bad_point) l28 c28 k28
  have b28 := F28.binds (ps := ["cell", "many"]) fun _ _ _ _ _ _ us hl => match us, hl with | [_, _], _ => rfl
  have F29 := fun_mk (st := s_law_add) l29 c29 k29
  have b29 := F29.binds (ps := ["net", "rows", "cell", "handed"]) fun _ _ _ _ _ _ us hl => match us, hl with | [_, _, _, _], _ => rfl
  have F30 := fun_mk (st := s_law) l30 c30 k30
  refine ⟨PySem.W.fnOf "law" "law" (defArgs s_law) (defBody s_law) (defScope s_law) .none kV30 dc30 pm30 an30 cd30 ct30, fun s v => .of_eq rfl, fun base KB GB => ?_⟩
  have O_is_whole : FnOk P w K mg base CX0 1 f0 _ ["thing"] (spP ⟨K, (clf A_Hold A_Net A_NoPoint A_NoRow A_NoSize A_OhmError A_Piece A_Push A_TooMany)⟩ 1 m_is_whole) := ok_is_whole (kc := ⟨K, (clf A_Hold A_Net A_NoPoint A_NoRow A_NoSize A_OhmError A_Piece A_Push A_TooMany)⟩) F0 T 
  have C_is_whole : Fn P w K mg base ⟨K, (clf A_Hold A_Net A_NoPoint A_NoRow A_NoSize A_OhmError A_Piece A_Push A_TooMany)⟩ 1 "is_whole" 1 m_is_whole := .mk0 O_is_whole (PySem.W.mg_of X G a0) k0 b0
  have O_Net_init : FnOk P w K mg base (L2.CX P w) 2 f1 _ ["self", "many"] (spL ⟨K, (clf A_Hold A_Net A_NoPoint A_NoRow A_NoSize A_OhmError A_Piece A_Push A_TooMany)⟩ 2 mL_Net_init) := ok_Net_init (kc := ⟨K, (clf A_Hold A_Net A_NoPoint A_NoRow A_NoSize A_OhmError A_Piece A_Push A_TooMany)⟩) F1 T C_is_whole
  have K_Net : MkL P w K mg base ⟨K, (clf A_Hold A_Net A_NoPoint A_NoRow A_NoSize A_OhmError A_Piece A_Push A_TooMany)⟩ 2 "Net" "Net" 2 [] mL_Net_init := .mk0 O_Net_init (by show Mk K ((clf A_Hold A_Net A_NoPoint A_NoRow A_NoSize A_OhmError A_Piece A_Push A_TooMany) "Net") _; rw [l_Net]; exact ⟨mk_Net, a1_Net, if1, kc_Net⟩) (by show mg "Net" = some (.ref ((clf A_Hold A_Net A_NoPoint A_NoRow A_NoSize A_OhmError A_Piece A_Push A_TooMany) "Net")); rw [l_Net]; exact PySem.W.mg_of X G x_Net) b1
  have O_Piece_word : FnOk P w K mg base (L2.CX P w) 1 f2 _ ["self"] (spL ⟨K, (clf A_Hold A_Net A_NoPoint A_NoRow A_NoSize A_OhmError A_Piece A_Push A_TooMany)⟩ 1 mL_Piece_word) := ok_Piece_word (kc := ⟨K, (clf A_Hold A_Net A_NoPoint A_NoRow A_NoSize A_OhmError A_Piece A_Push A_TooMany)⟩) F2 T 
  have O_Push_word : FnOk P w K mg base (L2.CX P w) 1 f3 _ ["self"] (spL ⟨K, (clf A_Hold A_Net A_NoPoint A_NoRow A_NoSize A_OhmError A_Piece A_Push A_TooMany)⟩ 1 mL_Push_word) := ok_Push_word (kc := ⟨K, (clf A_Hold A_Net A_NoPoint A_NoRow A_NoSize A_OhmError A_Piece A_Push A_TooMany)⟩) F3 T 
  have O_Hold_word : FnOk P w K mg base (L2.CX P w) 1 f4 _ ["self"] (spL ⟨K, (clf A_Hold A_Net A_NoPoint A_NoRow A_NoSize A_OhmError A_Piece A_Push A_TooMany)⟩ 1 mL_Hold_word) := ok_Hold_word (kc := ⟨K, (clf A_Hold A_Net A_NoPoint A_NoRow A_NoSize A_OhmError A_Piece A_Push A_TooMany)⟩) F4 T 
  have M_word : ∀ c f, mt_word c = some f → MtL P w K mg base ⟨K, (clf A_Hold A_Net A_NoPoint A_NoRow A_NoSize A_OhmError A_Piece A_Push A_TooMany)⟩ 1 c "word" 1 [] f := fun c f h => by
    unfold mt_word at h
    by_cases h_Piece : c = "Piece"
    · subst h_Piece
      simp at h
      subst h
      exact (MtL.mk0 O_Piece_word Cl_Piece (by show Meth K ((clf A_Hold A_Net A_NoPoint A_NoRow A_NoSize A_OhmError A_Piece A_Push A_TooMany) "Piece") _ _; rw [l_Piece]; exact ⟨a2_Piece, if2, k2⟩) b2).mono (by decide)
    rw [if_neg h_Piece] at h
    by_cases h_Push : c = "Push"
    · subst h_Push
      simp at h
      subst h
      exact (MtL.mk0 O_Push_word Cl_Push (by show Meth K ((clf A_Hold A_Net A_NoPoint A_NoRow A_NoSize A_OhmError A_Piece A_Push A_TooMany) "Push") _ _; rw [l_Push]; exact ⟨a3_Push, if3, k3⟩) b3).mono (by decide)
    rw [if_neg h_Push] at h
    by_cases h_Hold : c = "Hold"
    · subst h_Hold
      simp at h
      subst h
      exact (MtL.mk0 O_Hold_word Cl_Hold (by show Meth K ((clf A_Hold A_Net A_NoPoint A_NoRow A_NoSize A_OhmError A_Piece A_Push A_TooMany) "Hold") _ _; rw [l_Hold]; exact ⟨a4_Hold, if4, k4⟩) b4).mono (by decide)
    rw [if_neg h_Hold] at h
    cases h
  have O_Row_told : FnOk P w K mg base (L2.CX P w) 2 f5 _ ["self"] (spL ⟨K, (clf A_Hold A_Net A_NoPoint A_NoRow A_NoSize A_OhmError A_Piece A_Push A_TooMany)⟩ 1 mL_Row_told) := ok_Row_told (kc := ⟨K, (clf A_Hold A_Net A_NoPoint A_NoRow A_NoSize A_OhmError A_Piece A_Push A_TooMany)⟩) F5 T M_word
  have O_Net_told : FnOk P w K mg base (L2.CX P w) 1 f6 _ ["self"] (spL ⟨K, (clf A_Hold A_Net A_NoPoint A_NoRow A_NoSize A_OhmError A_Piece A_Push A_TooMany)⟩ 1 mL_Net_told) := ok_Net_told (kc := ⟨K, (clf A_Hold A_Net A_NoPoint A_NoRow A_NoSize A_OhmError A_Piece A_Push A_TooMany)⟩) F6 T 
  have M_told : ∀ c f, mt_told c = some f → MtL P w K mg base ⟨K, (clf A_Hold A_Net A_NoPoint A_NoRow A_NoSize A_OhmError A_Piece A_Push A_TooMany)⟩ 2 c "told" 1 [] f := fun c f h => by
    unfold mt_told at h
    by_cases h_Piece : c = "Piece"
    · subst h_Piece
      simp at h
      subst h
      exact (MtL.mk0 O_Row_told Cl_Piece (by show Meth K ((clf A_Hold A_Net A_NoPoint A_NoRow A_NoSize A_OhmError A_Piece A_Push A_TooMany) "Piece") _ _; rw [l_Piece]; exact ⟨a5_Piece, if5, k5⟩) b5).mono (by decide)
    rw [if_neg h_Piece] at h
    by_cases h_Push : c = "Push"
    · subst h_Push
      simp at h
      subst h
      exact (MtL.mk0 O_Row_told Cl_Push (by show Meth K ((clf A_Hold A_Net A_NoPoint A_NoRow A_NoSize A_OhmError A_Piece A_Push A_TooMany) "Push") _ _; rw [l_Push]; exact ⟨a5_Push, if5, k5⟩) b5).mono (by decide)
    rw [if_neg h_Push] at h
    by_cases h_Hold : c = "Hold"
    · subst h_Hold
      simp at h
      subst h
      exact (MtL.mk0 O_Row_told Cl_Hold (by show Meth K ((clf A_Hold A_Net A_NoPoint A_NoRow A_NoSize A_OhmError A_Piece A_Push A_TooMany) "Hold") _ _; rw [l_Hold]; exact ⟨a5_Hold, if5, k5⟩) b5).mono (by decide)
    rw [if_neg h_Hold] at h
    by_cases h_Net : c = "Net"
    · subst h_Net
      simp at h
      subst h
      exact (MtL.mk0 O_Net_told Cl_Net (by show Meth K ((clf A_Hold A_Net A_NoPoint A_NoRow A_NoSize A_OhmError A_Piece A_Push A_TooMany) "Net") _ _; rw [l_Net]; exact ⟨a6_Net, if6, k6⟩) b6).mono (by decide)
    rw [if_neg h_Net] at h
    cases h
  have O_Row_init : FnOk P w K mg base (L2.CX P w) 1 f7 _ ["self", "start", "goal", "size"] (spL ⟨K, (clf A_Hold A_Net A_NoPoint A_NoRow A_NoSize A_OhmError A_Piece A_Push A_TooMany)⟩ 4 mL_Row_init) := ok_Row_init (kc := ⟨K, (clf A_Hold A_Net A_NoPoint A_NoRow A_NoSize A_OhmError A_Piece A_Push A_TooMany)⟩) F7 T 
  have K_Hold : MkL P w K mg base ⟨K, (clf A_Hold A_Net A_NoPoint A_NoRow A_NoSize A_OhmError A_Piece A_Push A_TooMany)⟩ 1 "Hold" "Hold" 4 [] mL_Row_init := .mk0 O_Row_init (by show Mk K ((clf A_Hold A_Net A_NoPoint A_NoRow A_NoSize A_OhmError A_Piece A_Push A_TooMany) "Hold") _; rw [l_Hold]; exact ⟨mk_Hold, a7_Hold, if7, kc_Hold⟩) (by show mg "Hold" = some (.ref ((clf A_Hold A_Net A_NoPoint A_NoRow A_NoSize A_OhmError A_Piece A_Push A_TooMany) "Hold")); rw [l_Hold]; exact PySem.W.mg_of X G x_Hold) b7
  have K_Piece : MkL P w K mg base ⟨K, (clf A_Hold A_Net A_NoPoint A_NoRow A_NoSize A_OhmError A_Piece A_Push A_TooMany)⟩ 1 "Piece" "Piece" 4 [] mL_Row_init := .mk0 O_Row_init (by show Mk K ((clf A_Hold A_Net A_NoPoint A_NoRow A_NoSize A_OhmError A_Piece A_Push A_TooMany) "Piece") _; rw [l_Piece]; exact ⟨mk_Piece, a7_Piece, if7, kc_Piece⟩) (by show mg "Piece" = some (.ref ((clf A_Hold A_Net A_NoPoint A_NoRow A_NoSize A_OhmError A_Piece A_Push A_TooMany) "Piece")); rw [l_Piece]; exact PySem.W.mg_of X G x_Piece) b7
  have K_Push : MkL P w K mg base ⟨K, (clf A_Hold A_Net A_NoPoint A_NoRow A_NoSize A_OhmError A_Piece A_Push A_TooMany)⟩ 1 "Push" "Push" 4 [] mL_Row_init := .mk0 O_Row_init (by show Mk K ((clf A_Hold A_Net A_NoPoint A_NoRow A_NoSize A_OhmError A_Piece A_Push A_TooMany) "Push") _; rw [l_Push]; exact ⟨mk_Push, a7_Push, if7, kc_Push⟩) (by show mg "Push" = some (.ref ((clf A_Hold A_Net A_NoPoint A_NoRow A_NoSize A_OhmError A_Piece A_Push A_TooMany) "Push")); rw [l_Push]; exact PySem.W.mg_of X G x_Push) b7
  have O_row_of : FnOk P w K mg base CX0 3 f8 _ ["told"] (spP ⟨K, (clf A_Hold A_Net A_NoPoint A_NoRow A_NoSize A_OhmError A_Piece A_Push A_TooMany)⟩ 1 m_row_of) := ok_row_of (kc := ⟨K, (clf A_Hold A_Net A_NoPoint A_NoRow A_NoSize A_OhmError A_Piece A_Push A_TooMany)⟩) F8 T K_Hold K_Piece K_Push
  have C_row_of : Fn P w K mg base ⟨K, (clf A_Hold A_Net A_NoPoint A_NoRow A_NoSize A_OhmError A_Piece A_Push A_TooMany)⟩ 3 "row_of" 1 m_row_of := .mk0 O_row_of (PySem.W.mg_of X G a8) k8 b8
  have O_Net_rows : FnOk P w K mg base (L2.CX P w) 4 f9 _ ["self"] (spL ⟨K, (clf A_Hold A_Net A_NoPoint A_NoRow A_NoSize A_OhmError A_Piece A_Push A_TooMany)⟩ 1 mL_Net_rows) := ok_Net_rows (kc := ⟨K, (clf A_Hold A_Net A_NoPoint A_NoRow A_NoSize A_OhmError A_Piece A_Push A_TooMany)⟩) F9 T C_row_of
  have M_rows : ∀ c f, mt_rows c = some f → MtL P w K mg base ⟨K, (clf A_Hold A_Net A_NoPoint A_NoRow A_NoSize A_OhmError A_Piece A_Push A_TooMany)⟩ 4 c "rows" 1 [] f := fun c f h => by
    unfold mt_rows at h
    by_cases h_Net : c = "Net"
    · subst h_Net
      simp at h
      subst h
      exact (MtL.mk0 O_Net_rows Cl_Net (by show Meth K ((clf A_Hold A_Net A_NoPoint A_NoRow A_NoSize A_OhmError A_Piece A_Push A_TooMany) "Net") _ _; rw [l_Net]; exact ⟨a9_Net, if9, k9⟩) b9).mono (by decide)
    rw [if_neg h_Net] at h
    cases h
  have O_law_objects : FnOk P w K mg base CX0 5 f10 _ ["net", "rows"] (spP ⟨K, (clf A_Hold A_Net A_NoPoint A_NoRow A_NoSize A_OhmError A_Piece A_Push A_TooMany)⟩ 2 m_law_objects) := ok_law_objects (kc := ⟨K, (clf A_Hold A_Net A_NoPoint A_NoRow A_NoSize A_OhmError A_Piece A_Push A_TooMany)⟩) F10 T M_rows M_told
  have C_law_objects : Fn P w K mg base ⟨K, (clf A_Hold A_Net A_NoPoint A_NoRow A_NoSize A_OhmError A_Piece A_Push A_TooMany)⟩ 5 "_law_objects" 2 m_law_objects := .mk0 O_law_objects (PySem.W.mg_of X G a10) k10 b10
  have O_Net_many : FnOk P w K mg base (L2.CX P w) 1 f11 _ ["self"] (spL ⟨K, (clf A_Hold A_Net A_NoPoint A_NoRow A_NoSize A_OhmError A_Piece A_Push A_TooMany)⟩ 1 mL_Net_many) := ok_Net_many (kc := ⟨K, (clf A_Hold A_Net A_NoPoint A_NoRow A_NoSize A_OhmError A_Piece A_Push A_TooMany)⟩) F11 T 
  have M_many : ∀ c f, mt_many c = some f → MtL P w K mg base ⟨K, (clf A_Hold A_Net A_NoPoint A_NoRow A_NoSize A_OhmError A_Piece A_Push A_TooMany)⟩ 1 c "many" 1 [] f := fun c f h => by
    unfold mt_many at h
    by_cases h_Net : c = "Net"
    · subst h_Net
      simp at h
      subst h
      exact (MtL.mk0 O_Net_many Cl_Net (by show Meth K ((clf A_Hold A_Net A_NoPoint A_NoRow A_NoSize A_OhmError A_Piece A_Push A_TooMany) "Net") _ _; rw [l_Net]; exact ⟨a11_Net, if11, k11⟩) b11).mono (by decide)
    rw [if_neg h_Net] at h
    cases h
  have O_Net_count : FnOk P w K mg base (L2.CX P w) 1 f12 _ ["self"] (spL ⟨K, (clf A_Hold A_Net A_NoPoint A_NoRow A_NoSize A_OhmError A_Piece A_Push A_TooMany)⟩ 1 mL_Net_count) := ok_Net_count (kc := ⟨K, (clf A_Hold A_Net A_NoPoint A_NoRow A_NoSize A_OhmError A_Piece A_Push A_TooMany)⟩) F12 T 
  have M_count : ∀ c f, mt_count c = some f → MtL P w K mg base ⟨K, (clf A_Hold A_Net A_NoPoint A_NoRow A_NoSize A_OhmError A_Piece A_Push A_TooMany)⟩ 1 c "count" 1 [] f := fun c f h => by
    unfold mt_count at h
    by_cases h_Net : c = "Net"
    · subst h_Net
      simp at h
      subst h
      exact (MtL.mk0 O_Net_count Cl_Net (by show Meth K ((clf A_Hold A_Net A_NoPoint A_NoRow A_NoSize A_OhmError A_Piece A_Push A_TooMany) "Net") _ _; rw [l_Net]; exact ⟨a12_Net, if12, k12⟩) b12).mono (by decide)
    rw [if_neg h_Net] at h
    cases h
  have O_law_look : FnOk P w K mg base CX0 6 f13 _ ["net", "many", "rows", "first"] (spP ⟨K, (clf A_Hold A_Net A_NoPoint A_NoRow A_NoSize A_OhmError A_Piece A_Push A_TooMany)⟩ 4 m_law_look) := ok_law_look (kc := ⟨K, (clf A_Hold A_Net A_NoPoint A_NoRow A_NoSize A_OhmError A_Piece A_Push A_TooMany)⟩) F13 T C_law_objects M_count M_many M_told
  have C_law_look : Fn P w K mg base ⟨K, (clf A_Hold A_Net A_NoPoint A_NoRow A_NoSize A_OhmError A_Piece A_Push A_TooMany)⟩ 6 "_law_look" 4 m_law_look := .mk0 O_law_look (PySem.W.mg_of X G a13) k13 b13
  have O_law_mix : FnOk P w K mg base CX0 1 f14 _ ["cell", "prime", "many"] (spP ⟨K, (clf A_Hold A_Net A_NoPoint A_NoRow A_NoSize A_OhmError A_Piece A_Push A_TooMany)⟩ 3 m_law_mix) := ok_law_mix (kc := ⟨K, (clf A_Hold A_Net A_NoPoint A_NoRow A_NoSize A_OhmError A_Piece A_Push A_TooMany)⟩) F14 T 
  have C_law_mix : Fn P w K mg base ⟨K, (clf A_Hold A_Net A_NoPoint A_NoRow A_NoSize A_OhmError A_Piece A_Push A_TooMany)⟩ 1 "_law_mix" 3 m_law_mix := .mk0 O_law_mix (PySem.W.mg_of X G a14) k14 b14
  have O_law_pick : FnOk P w K mg base CX0 1 f15 _ ["script", "k"] (spP ⟨K, (clf A_Hold A_Net A_NoPoint A_NoRow A_NoSize A_OhmError A_Piece A_Push A_TooMany)⟩ 2 m_law_pick) := ok_law_pick (kc := ⟨K, (clf A_Hold A_Net A_NoPoint A_NoRow A_NoSize A_OhmError A_Piece A_Push A_TooMany)⟩) F15 T 
  have C_law_pick : Fn P w K mg base ⟨K, (clf A_Hold A_Net A_NoPoint A_NoRow A_NoSize A_OhmError A_Piece A_Push A_TooMany)⟩ 1 "_law_pick" 2 m_law_pick := .mk0 O_law_pick (PySem.W.mg_of X G a15) k15 b15
  have O_law_divisor : FnOk P w K mg base CX0 1 f16 _ ["one", "other"] (spP ⟨K, (clf A_Hold A_Net A_NoPoint A_NoRow A_NoSize A_OhmError A_Piece A_Push A_TooMany)⟩ 2 m_law_divisor) := ok_law_divisor (kc := ⟨K, (clf A_Hold A_Net A_NoPoint A_NoRow A_NoSize A_OhmError A_Piece A_Push A_TooMany)⟩) F16 T 
  have C_law_divisor : Fn P w K mg base ⟨K, (clf A_Hold A_Net A_NoPoint A_NoRow A_NoSize A_OhmError A_Piece A_Push A_TooMany)⟩ 1 "_law_divisor" 2 m_law_divisor := .mk0 O_law_divisor (PySem.W.mg_of X G a16) k16 b16
  have O_law_size : FnOk P w K mg base CX0 2 f17 _ ["cell", "word"] (spP ⟨K, (clf A_Hold A_Net A_NoPoint A_NoRow A_NoSize A_OhmError A_Piece A_Push A_TooMany)⟩ 2 m_law_size) := ok_law_size (kc := ⟨K, (clf A_Hold A_Net A_NoPoint A_NoRow A_NoSize A_OhmError A_Piece A_Push A_TooMany)⟩) F17 T C_law_divisor C_law_mix
  have C_law_size : Fn P w K mg base ⟨K, (clf A_Hold A_Net A_NoPoint A_NoRow A_NoSize A_OhmError A_Piece A_Push A_TooMany)⟩ 2 "_law_size" 2 m_law_size := .mk0 O_law_size (PySem.W.mg_of X G a17) k17 b17
  have O_divisor : FnOk P w K mg base CX0 1 f18 _ ["one", "other"] (spP ⟨K, (clf A_Hold A_Net A_NoPoint A_NoRow A_NoSize A_OhmError A_Piece A_Push A_TooMany)⟩ 2 m_divisor) := ok_divisor (kc := ⟨K, (clf A_Hold A_Net A_NoPoint A_NoRow A_NoSize A_OhmError A_Piece A_Push A_TooMany)⟩) F18 T 
  have C_divisor : Fn P w K mg base ⟨K, (clf A_Hold A_Net A_NoPoint A_NoRow A_NoSize A_OhmError A_Piece A_Push A_TooMany)⟩ 1 "divisor" 2 m_divisor := .mk0 O_divisor (PySem.W.mg_of X G a18) k18 b18
  have O_is_fraction : FnOk P w K mg base CX0 2 f19 _ ["thing"] (spP ⟨K, (clf A_Hold A_Net A_NoPoint A_NoRow A_NoSize A_OhmError A_Piece A_Push A_TooMany)⟩ 1 m_is_fraction) := ok_is_fraction (kc := ⟨K, (clf A_Hold A_Net A_NoPoint A_NoRow A_NoSize A_OhmError A_Piece A_Push A_TooMany)⟩) F19 T C_divisor C_is_whole
  have C_is_fraction : Fn P w K mg base ⟨K, (clf A_Hold A_Net A_NoPoint A_NoRow A_NoSize A_OhmError A_Piece A_Push A_TooMany)⟩ 2 "is_fraction" 1 m_is_fraction := .mk0 O_is_fraction (PySem.W.mg_of X G a19) k19 b19
  have O_fits : FnOk P w K mg base CX0 3 f20 _ ["word", "size"] (spP ⟨K, (clf A_Hold A_Net A_NoPoint A_NoRow A_NoSize A_OhmError A_Piece A_Push A_TooMany)⟩ 2 m_fits) := ok_fits (kc := ⟨K, (clf A_Hold A_Net A_NoPoint A_NoRow A_NoSize A_OhmError A_Piece A_Push A_TooMany)⟩) F20 T C_is_fraction
  have C_fits : Fn P w K mg base ⟨K, (clf A_Hold A_Net A_NoPoint A_NoRow A_NoSize A_OhmError A_Piece A_Push A_TooMany)⟩ 3 "fits" 2 m_fits := .mk0 O_fits (PySem.W.mg_of X G a20) k20 b20
  have O_Net_has : FnOk P w K mg base (L2.CX P w) 2 f21 _ ["self", "point"] (spL ⟨K, (clf A_Hold A_Net A_NoPoint A_NoRow A_NoSize A_OhmError A_Piece A_Push A_TooMany)⟩ 2 mL_Net_has) := ok_Net_has (kc := ⟨K, (clf A_Hold A_Net A_NoPoint A_NoRow A_NoSize A_OhmError A_Piece A_Push A_TooMany)⟩) F21 T C_is_whole
  have M_has : ∀ c f, mt_has c = some f → MtL P w K mg base ⟨K, (clf A_Hold A_Net A_NoPoint A_NoRow A_NoSize A_OhmError A_Piece A_Push A_TooMany)⟩ 2 c "has" 2 [] f := fun c f h => by
    unfold mt_has at h
    by_cases h_Net : c = "Net"
    · subst h_Net
      simp at h
      subst h
      exact (MtL.mk0 O_Net_has Cl_Net (by show Meth K ((clf A_Hold A_Net A_NoPoint A_NoRow A_NoSize A_OhmError A_Piece A_Push A_TooMany) "Net") _ _; rw [l_Net]; exact ⟨a21_Net, if21, k21⟩) b21).mono (by decide)
    rw [if_neg h_Net] at h
    cases h
  have O_Net_add : FnOk P w K mg base (L2.CX P w) 4 f22 _ ["self", "row"] (spL ⟨K, (clf A_Hold A_Net A_NoPoint A_NoRow A_NoSize A_OhmError A_Piece A_Push A_TooMany)⟩ 2 mL_Net_add) := ok_Net_add (kc := ⟨K, (clf A_Hold A_Net A_NoPoint A_NoRow A_NoSize A_OhmError A_Piece A_Push A_TooMany)⟩) F22 T C_fits M_has M_told M_word
  have M_add : ∀ c f, mt_add c = some f → MtL P w K mg base ⟨K, (clf A_Hold A_Net A_NoPoint A_NoRow A_NoSize A_OhmError A_Piece A_Push A_TooMany)⟩ 4 c "add" 2 [] f := fun c f h => by
    unfold mt_add at h
    by_cases h_Net : c = "Net"
    · subst h_Net
      simp at h
      subst h
      exact (MtL.mk0 O_Net_add Cl_Net (by show Meth K ((clf A_Hold A_Net A_NoPoint A_NoRow A_NoSize A_OhmError A_Piece A_Push A_TooMany) "Net") _ _; rw [l_Net]; exact ⟨a22_Net, if22, k22⟩) b22).mono (by decide)
    rw [if_neg h_Net] at h
    cases h
  have O_Net_change : FnOk P w K mg base (L2.CX P w) 4 f23 _ ["self", "k", "size"] (spL ⟨K, (clf A_Hold A_Net A_NoPoint A_NoRow A_NoSize A_OhmError A_Piece A_Push A_TooMany)⟩ 3 mL_Net_change) := ok_Net_change (kc := ⟨K, (clf A_Hold A_Net A_NoPoint A_NoRow A_NoSize A_OhmError A_Piece A_Push A_TooMany)⟩) F23 T C_fits C_is_whole
  have M_change : ∀ c f, mt_change c = some f → MtL P w K mg base ⟨K, (clf A_Hold A_Net A_NoPoint A_NoRow A_NoSize A_OhmError A_Piece A_Push A_TooMany)⟩ 4 c "change" 3 [] f := fun c f h => by
    unfold mt_change at h
    by_cases h_Net : c = "Net"
    · subst h_Net
      simp at h
      subst h
      exact (MtL.mk0 O_Net_change Cl_Net (by show Meth K ((clf A_Hold A_Net A_NoPoint A_NoRow A_NoSize A_OhmError A_Piece A_Push A_TooMany) "Net") _ _; rw [l_Net]; exact ⟨a23_Net, if23, k23⟩) b23).mono (by decide)
    rw [if_neg h_Net] at h
    cases h
  have O_law_answer : FnOk P w K mg base (L2.CX P w) 5 f24 _ ["net", "deed", "row", "k", "size"] (spL ⟨K, (clf A_Hold A_Net A_NoPoint A_NoRow A_NoSize A_OhmError A_Piece A_Push A_TooMany)⟩ 5 mL_law_answer) := ok_law_answer (kc := ⟨K, (clf A_Hold A_Net A_NoPoint A_NoRow A_NoSize A_OhmError A_Piece A_Push A_TooMany)⟩) F24 T M_add M_change
  have L_law_answer : FnL P w K mg base ⟨K, (clf A_Hold A_Net A_NoPoint A_NoRow A_NoSize A_OhmError A_Piece A_Push A_TooMany)⟩ 5 "_law_answer" 5 [] mL_law_answer := .mk0 O_law_answer (PySem.W.mg_of X G a24) k24 b24
  have O_law_bad_size : FnOk P w K mg base CX0 2 f25 _ ["cell", "word", "size"] (spP ⟨K, (clf A_Hold A_Net A_NoPoint A_NoRow A_NoSize A_OhmError A_Piece A_Push A_TooMany)⟩ 3 m_law_bad_size) := ok_law_bad_size (kc := ⟨K, (clf A_Hold A_Net A_NoPoint A_NoRow A_NoSize A_OhmError A_Piece A_Push A_TooMany)⟩) F25 T C_law_mix
  have C_law_bad_size : Fn P w K mg base ⟨K, (clf A_Hold A_Net A_NoPoint A_NoRow A_NoSize A_OhmError A_Piece A_Push A_TooMany)⟩ 2 "_law_bad_size" 3 m_law_bad_size := .mk0 O_law_bad_size (PySem.W.mg_of X G a25) k25 b25
  have O_law_change : FnOk P w K mg base (L2.CX P w) 6 f26 _ ["net", "rows", "cell"] (spL ⟨K, (clf A_Hold A_Net A_NoPoint A_NoRow A_NoSize A_OhmError A_Piece A_Push A_TooMany)⟩ 3 mL_law_change) := ok_law_change (kc := ⟨K, (clf A_Hold A_Net A_NoPoint A_NoRow A_NoSize A_OhmError A_Piece A_Push A_TooMany)⟩) F26 T C_law_bad_size C_law_mix C_law_size L_law_answer
  have L_law_change : FnL P w K mg base ⟨K, (clf A_Hold A_Net A_NoPoint A_NoRow A_NoSize A_OhmError A_Piece A_Push A_TooMany)⟩ 6 "_law_change" 3 [] mL_law_change := .mk0 O_law_change (PySem.W.mg_of X G a26) k26 b26
  have O_law_made : FnOk P w K mg base CX0 3 f27 _ ["word", "start", "goal", "size"] (spP ⟨K, (clf A_Hold A_Net A_NoPoint A_NoRow A_NoSize A_OhmError A_Piece A_Push A_TooMany)⟩ 4 m_law_made) := ok_law_made (kc := ⟨K, (clf A_Hold A_Net A_NoPoint A_NoRow A_NoSize A_OhmError A_Piece A_Push A_TooMany)⟩) F27 T K_Hold K_Piece K_Push
  have C_law_made : Fn P w K mg base ⟨K, (clf A_Hold A_Net A_NoPoint A_NoRow A_NoSize A_OhmError A_Piece A_Push A_TooMany)⟩ 3 "_law_made" 4 m_law_made := .mk0 O_law_made (PySem.W.mg_of X G a27) k27 b27
  have O_law_bad_point : FnOk P w K mg base CX0 2 f28 _ ["cell", "many"] (spP ⟨K, (clf A_Hold A_Net A_NoPoint A_NoRow A_NoSize A_OhmError A_Piece A_Push A_TooMany)⟩ 2 m_law_bad_point) := ok_law_bad_point (kc := ⟨K, (clf A_Hold A_Net A_NoPoint A_NoRow A_NoSize A_OhmError A_Piece A_Push A_TooMany)⟩) F28 T C_law_mix
  have C_law_bad_point : Fn P w K mg base ⟨K, (clf A_Hold A_Net A_NoPoint A_NoRow A_NoSize A_OhmError A_Piece A_Push A_TooMany)⟩ 2 "_law_bad_point" 2 m_law_bad_point := .mk0 O_law_bad_point (PySem.W.mg_of X G a28) k28 b28
  have O_law_add : FnOk P w K mg base (L2.CX P w) 6 f29 _ ["net", "rows", "cell", "handed"] (spL ⟨K, (clf A_Hold A_Net A_NoPoint A_NoRow A_NoSize A_OhmError A_Piece A_Push A_TooMany)⟩ 4 mL_law_add) := ok_law_add (kc := ⟨K, (clf A_Hold A_Net A_NoPoint A_NoRow A_NoSize A_OhmError A_Piece A_Push A_TooMany)⟩) F29 T C_law_bad_point C_law_bad_size C_law_made C_law_mix C_law_size L_law_answer M_many
  have L_law_add : FnL P w K mg base ⟨K, (clf A_Hold A_Net A_NoPoint A_NoRow A_NoSize A_OhmError A_Piece A_Push A_TooMany)⟩ 6 "_law_add" 4 [] mL_law_add := .mk0 O_law_add (PySem.W.mg_of X G a29) k29 b29
  exact ok_law (kc := ⟨K, (clf A_Hold A_Net A_NoPoint A_NoRow A_NoSize A_OhmError A_Piece A_Push A_TooMany)⟩) F30 T C_law_look C_law_mix C_law_pick L_law_add L_law_change M_rows M_told K_Net
end Pf
namespace Pf
open PySem L2 DL PyProof.Rows

theorem all_ints {k : KC} {B : Hp} : ∀ ns : List Int, Reps k B (ns.map .int) (ns.map V.int)
  | [] => .nil
  | n :: ns => .cons (by simp only [Rep]) (all_ints ns)
theorem walk {cl : String → Addr} {l : PySem.W.OpenLaw} {q : Program} {loose : List Str} {XP : (Str → Option Value) → Heap → Prop} {YP : World → Heap → Prop} {d : DefRec} {K : Params → PySem.W.Frag} (hn : l.most = some 63) (hdf : d.params.defaults = [])
    (hY : ∀ (w : World) (h : Heap), YP w h → (K w.params).In h)
    (F : ∀ (w : World) (mg : Str → Option Value) (fa : Addr) (h : Heap), (K w.params).In h → h.Ns mainGlobals mg → mg d.name = some (.ref fa) →
      ∃ fd : FuncData, (∀ (s : Shared) (u : Value), BindsTo s fd ⟨[u], []⟩ [("script", u)]) ∧ ∀ base : Heap, (K w.params).In base → base.Ns mainGlobals mg → FnOk l.prog w (K w.params) mg base CX0 7 fa fd ["script"] (spP ⟨K w.params, cl⟩ 1 m_law)) :
    PySem.W.WalkO q loose XP YP l.row.toRowW d [] (fun f vs => PySem.call f vs) :=
  L2.walk_of (n := 63) (k := 7) (x := "script") (CX := fun _ => CX0) (sp := fun w => spP ⟨K w.params, cl⟩ 1 m_law) hn (by decide) hdf ⟨rfl, by decide, by decide⟩ hY F (fun w H a ns hl _ hS =>
    ⟨H, [.lst (ns.map .int)], .sh (.bl true), .refl _, .one (by simp only [Rep]; exact ⟨a, _, rfl, hS, all_ints ns⟩), rfl, law_true ns hl, fun v B' H' w1 _ _ _ _ _ r _ => by simpa only [ORep, Rep] using r⟩) fun _ _ _ _ _ z => z
end Pf
open PySem PySem.W PyProof.Rows
set_option maxRecDepth 100000 in
set_option maxHeartbeats 0 in
theorem PySem.Challenge.cw_ohmyard_k13_a_net_walked_holds : PySem.Challenge.rw_ohmyard_k13_a_net_walked.Holds := by
  w_on; o_law; k_head; (case hw => w_witness2)
  k_fill
  refine' Pf.walk (cl := Pf.clf _ _ _ _ _ _ _ _ _) (l := PySem.Challenge.rw_ohmyard_k13_a_net_walked) rfl rfl (fun w h Y => PySem.W.kIn_of Y) ?F
  case F =>
    intro w mg fa h KX G hmg
    refine' Pf.all_mk KX G hmg ?x_Hold ?x_Net ?x_NoPoint ?x_NoRow ?x_NoSize ?x_OhmError ?x_Piece ?x_Push ?x_TooMany ?q_NoPoint ?kp_NoPoint ?sb_NoPoint ?ty_NoPoint ?cl_NoPoint ?ga_NoPoint ?gg_NoPoint ?hd_NoPoint ?ca_NoPoint ?mo_NoPoint ?em_NoPoint_OhmError ?s_NoPoint_Hold ?s_NoPoint_NoPoint ?s_NoPoint_NoRow ?s_NoPoint_NoSize ?s_NoPoint_Piece ?s_NoPoint_TooMany ?q_NoRow ?kp_NoRow ?sb_NoRow ?ty_NoRow ?cl_NoRow ?ga_NoRow ?gg_NoRow ?hd_NoRow ?ca_NoRow ?mo_NoRow ?em_NoRow_OhmError ?s_NoRow_Hold ?s_NoRow_NoPoint ?s_NoRow_NoRow ?s_NoRow_NoSize ?s_NoRow_Piece ?s_NoRow_TooMany ?q_NoSize ?kp_NoSize ?sb_NoSize ?ty_NoSize ?cl_NoSize ?ga_NoSize ?gg_NoSize ?hd_NoSize ?ca_NoSize ?mo_NoSize ?em_NoSize_OhmError ?s_NoSize_Hold ?s_NoSize_NoPoint ?s_NoSize_NoRow ?s_NoSize_NoSize ?s_NoSize_Piece ?s_NoSize_TooMany ?q_TooMany ?kp_TooMany ?sb_TooMany ?ty_TooMany ?cl_TooMany ?ga_TooMany ?gg_TooMany ?hd_TooMany ?ca_TooMany ?mo_TooMany ?em_TooMany_OhmError ?s_TooMany_Hold ?s_TooMany_NoPoint ?s_TooMany_NoRow ?s_TooMany_NoSize ?s_TooMany_Piece ?s_TooMany_TooMany ?pg_Hold ?dh_Hold ?po_Hold ?sa_Hold ?mk_Hold ?kc_Hold ?oa_Hold ?om_Hold ?s_Hold_Hold ?s_Hold_NoPoint ?s_Hold_NoRow ?s_Hold_NoSize ?s_Hold_Piece ?s_Hold_TooMany ?pg_Net ?dh_Net ?po_Net ?sa_Net ?mk_Net ?kc_Net ?oa_Net ?om_Net ?s_Net_Hold ?s_Net_Net ?s_Net_NoPoint ?s_Net_NoRow ?s_Net_NoSize ?s_Net_Piece ?s_Net_TooMany ?pg_Piece ?dh_Piece ?po_Piece ?sa_Piece ?mk_Piece ?kc_Piece ?oa_Piece ?om_Piece ?s_Piece_Hold ?s_Piece_NoPoint ?s_Piece_NoRow ?s_Piece_NoSize ?s_Piece_Piece ?s_Piece_TooMany ?pg_Push ?dh_Push ?po_Push ?sa_Push ?mk_Push ?kc_Push ?oa_Push ?om_Push ?s_Push_Hold ?s_Push_NoPoint ?s_Push_NoRow ?s_Push_NoSize ?s_Push_Piece ?s_Push_Push ?s_Push_TooMany ?no_Hold_goal ?no_Piece_goal ?no_Push_goal ?no_Net_kept ?no_Hold_size ?no_Piece_size ?no_Push_size ?no_Net_sizes ?no_Hold_start ?no_Piece_start ?no_Push_start ?i_Hold ?tD_Hold ?i_NoPoint ?tD_NoPoint ?i_NoRow ?tD_NoRow ?i_NoSize ?tD_NoSize ?i_Piece ?tD_Piece ?i_TooMany ?tD_TooMany ?hn ?ht ?z_abs ?z_bool ?z_int ?z_isinstance ?z_len ?z_list ?z_range ?z_tuple ?gx_MOST_POINTS ?gx_MOST_ROWS ?a0 ?l0 ?c0 ?k0 ?a1_Net ?if1 ?l1 ?c1 ?k1 ?a2_Piece ?if2 ?l2 ?c2 ?k2 ?a3_Push ?if3 ?l3 ?c3 ?k3 ?a4_Hold ?if4 ?l4 ?c4 ?k4 ?a5_Piece ?a5_Push ?a5_Hold ?if5 ?l5 ?c5 ?k5 ?a6_Net ?if6 ?l6 ?c6 ?k6 ?a7_Hold ?a7_Piece ?a7_Push ?if7 ?l7 ?c7 ?k7 ?a8 ?l8 ?c8 ?k8 ?a9_Net ?if9 ?l9 ?c9 ?k9 ?a10 ?l10 ?c10 ?k10 ?a11_Net ?if11 ?l11 ?c11 ?k11 ?a12_Net ?if12 ?l12 ?c12 ?k12 ?a13 ?l13 ?c13 ?k13 ?a14 ?l14 ?c14 ?k14 ?a15 ?l15 ?c15 ?k15 ?a16 ?l16 ?c16 ?k16 ?a17 ?l17 ?c17 ?k17 ?a18 ?l18 ?c18 ?k18 ?a19 ?l19 ?c19 ?k19 ?a20 ?l20 ?c20 ?k20 ?a21_Net ?if21 ?l21 ?c21 ?k21 ?a22_Net ?if22 ?l22 ?c22 ?k22 ?a23_Net ?if23 ?l23 ?c23 ?k23 ?a24 ?l24 ?c24 ?k24 ?a25 ?l25 ?c25 ?k25 ?a26 ?l26 ?c26 ?k26 ?a27 ?l27 ?c27 ?k27 ?a28 ?l28 ?c28 ?k28 ?a29 ?l29 ?c29 ?k29 ?a30 ?l30 ?c30 ?k30
    (case x_Hold => k_is)
    (case x_Net => k_is)
    (case x_NoPoint => k_is)
    (case x_NoRow => k_is)
    (case x_NoSize => k_is)
    (case x_OhmError => k_is)
    (case x_Piece => k_is)
    (case x_Push => k_is)
    (case x_TooMany => k_is)
    (case q_NoPoint => k_exc)
    (case kp_NoPoint => k_is)
    (case sb_NoPoint => k_is)
    (case ty_NoPoint => k_is)
    (case cl_NoPoint => k_is)
    (case ga_NoPoint => k_is)
    (case gg_NoPoint => k_is)
    (case hd_NoPoint => k_is)
    (case ca_NoPoint => k_is)
    (case mo_NoPoint => k_is)
    (case em_NoPoint_OhmError => kts_exm)
    (case s_NoPoint_Hold => k_is)
    (case s_NoPoint_NoPoint => k_is)
    (case s_NoPoint_NoRow => k_is)
    (case s_NoPoint_NoSize => k_is)
    (case s_NoPoint_Piece => k_is)
    (case s_NoPoint_TooMany => k_is)
    (case q_NoRow => k_exc)
    (case kp_NoRow => k_is)
    (case sb_NoRow => k_is)
    (case ty_NoRow => k_is)
    (case cl_NoRow => k_is)
    (case ga_NoRow => k_is)
    (case gg_NoRow => k_is)
    (case hd_NoRow => k_is)
    (case ca_NoRow => k_is)
    (case mo_NoRow => k_is)
    (case em_NoRow_OhmError => kts_exm)
    (case s_NoRow_Hold => k_is)
    (case s_NoRow_NoPoint => k_is)
    (case s_NoRow_NoRow => k_is)
    (case s_NoRow_NoSize => k_is)
    (case s_NoRow_Piece => k_is)
    (case s_NoRow_TooMany => k_is)
    (case q_NoSize => k_exc)
    (case kp_NoSize => k_is)
    (case sb_NoSize => k_is)
    (case ty_NoSize => k_is)
    (case cl_NoSize => k_is)
    (case ga_NoSize => k_is)
    (case gg_NoSize => k_is)
    (case hd_NoSize => k_is)
    (case ca_NoSize => k_is)
    (case mo_NoSize => k_is)
    (case em_NoSize_OhmError => kts_exm)
    (case s_NoSize_Hold => k_is)
    (case s_NoSize_NoPoint => k_is)
    (case s_NoSize_NoRow => k_is)
    (case s_NoSize_NoSize => k_is)
    (case s_NoSize_Piece => k_is)
    (case s_NoSize_TooMany => k_is)
    (case q_TooMany => k_exc)
    (case kp_TooMany => k_is)
    (case sb_TooMany => k_is)
    (case ty_TooMany => k_is)
    (case cl_TooMany => k_is)
    (case ga_TooMany => k_is)
    (case gg_TooMany => k_is)
    (case hd_TooMany => k_is)
    (case ca_TooMany => k_is)
    (case mo_TooMany => k_is)
    (case em_TooMany_OhmError => kts_exm)
    (case s_TooMany_Hold => k_is)
    (case s_TooMany_NoPoint => k_is)
    (case s_TooMany_NoRow => k_is)
    (case s_TooMany_NoSize => k_is)
    (case s_TooMany_Piece => k_is)
    (case s_TooMany_TooMany => k_is)
    (case pg_Hold => k_is)
    (case dh_Hold => k_is)
    (case po_Hold => k_is)
    (case sa_Hold => k_is)
    (case mk_Hold => k_is)
    (case kc_Hold => k_is)
    (case oa_Hold => k_is)
    (case om_Hold => k_is)
    (case s_Hold_Hold => k_is)
    (case s_Hold_NoPoint => k_is)
    (case s_Hold_NoRow => k_is)
    (case s_Hold_NoSize => k_is)
    (case s_Hold_Piece => k_is)
    (case s_Hold_TooMany => k_is)
    (case pg_Net => k_is)
    (case dh_Net => k_is)
    (case po_Net => k_is)
    (case sa_Net => k_is)
    (case mk_Net => k_is)
    (case kc_Net => k_is)
    (case oa_Net => k_is)
    (case om_Net => k_is)
    (case s_Net_Hold => k_is)
    (case s_Net_Net => k_is)
    (case s_Net_NoPoint => k_is)
    (case s_Net_NoRow => k_is)
    (case s_Net_NoSize => k_is)
    (case s_Net_Piece => k_is)
    (case s_Net_TooMany => k_is)
    (case pg_Piece => k_is)
    (case dh_Piece => k_is)
    (case po_Piece => k_is)
    (case sa_Piece => k_is)
    (case mk_Piece => k_is)
    (case kc_Piece => k_is)
    (case oa_Piece => k_is)
    (case om_Piece => k_is)
    (case s_Piece_Hold => k_is)
    (case s_Piece_NoPoint => k_is)
    (case s_Piece_NoRow => k_is)
    (case s_Piece_NoSize => k_is)
    (case s_Piece_Piece => k_is)
    (case s_Piece_TooMany => k_is)
    (case pg_Push => k_is)
    (case dh_Push => k_is)
    (case po_Push => k_is)
    (case sa_Push => k_is)
    (case mk_Push => k_is)
    (case kc_Push => k_is)
    (case oa_Push => k_is)
    (case om_Push => k_is)
    (case s_Push_Hold => k_is)
    (case s_Push_NoPoint => k_is)
    (case s_Push_NoRow => k_is)
    (case s_Push_NoSize => k_is)
    (case s_Push_Piece => k_is)
    (case s_Push_Push => k_is)
    (case s_Push_TooMany => k_is)
    (case no_Hold_goal => k_is)
    (case no_Piece_goal => k_is)
    (case no_Push_goal => k_is)
    (case no_Net_kept => k_is)
    (case no_Hold_size => k_is)
    (case no_Piece_size => k_is)
    (case no_Push_size => k_is)
    (case no_Net_sizes => k_is)
    (case no_Hold_start => k_is)
    (case no_Piece_start => k_is)
    (case no_Push_start => k_is)
    (case i_Hold => k_is)
    (case tD_Hold => k_is)
    (case i_NoPoint => k_is)
    (case tD_NoPoint => k_is)
    (case i_NoRow => k_is)
    (case tD_NoRow => k_is)
    (case i_NoSize => k_is)
    (case tD_NoSize => k_is)
    (case i_Piece => k_is)
    (case tD_Piece => k_is)
    (case i_TooMany => k_is)
    (case tD_TooMany => k_is)
    (case hn => k_is)
    (case ht => k_is)
    (case z_abs => k_is)
    (case z_bool => k_is)
    (case z_int => k_is)
    (case z_isinstance => k_is)
    (case z_len => k_is)
    (case z_list => k_is)
    (case z_range => k_is)
    (case z_tuple => k_is)
    (case gx_MOST_POINTS => k_is)
    (case gx_MOST_ROWS => k_is)
    (case a0 => k_is)
    (case l0 => k_is)
    (case c0 => k_is)
    (case k0 => k_is)
    (case a1_Net => k_is)
    (case if1 => k_is)
    (case l1 => k_is)
    (case c1 => k_is)
    (case k1 => k_is)
    (case a2_Piece => k_is)
    (case if2 => k_is)
    (case l2 => k_is)
    (case c2 => k_is)
    (case k2 => k_is)
    (case a3_Push => k_is)
    (case if3 => k_is)
    (case l3 => k_is)
    (case c3 => k_is)
    (case k3 => k_is)
    (case a4_Hold => k_is)
    (case if4 => k_is)
    (case l4 => k_is)
    (case c4 => k_is)
    (case k4 => k_is)
    (case a5_Piece => k_is)
    (case a5_Push => k_is)
    (case a5_Hold => k_is)
    (case if5 => k_is)
    (case l5 => k_is)
    (case c5 => k_is)
    (case k5 => k_is)
    (case a6_Net => k_is)
    (case if6 => k_is)
    (case l6 => k_is)
    (case c6 => k_is)
    (case k6 => k_is)
    (case a7_Hold => k_is)
    (case a7_Piece => k_is)
    (case a7_Push => k_is)
    (case if7 => k_is)
    (case l7 => k_is)
    (case c7 => k_is)
    (case k7 => k_is)
    (case a8 => k_is)
    (case l8 => k_is)
    (case c8 => k_is)
    (case k8 => k_is)
    (case a9_Net => k_is)
    (case if9 => k_is)
    (case l9 => k_is)
    (case c9 => k_is)
    (case k9 => k_is)
    (case a10 => k_is)
    (case l10 => k_is)
    (case c10 => k_is)
    (case k10 => k_is)
    (case a11_Net => k_is)
    (case if11 => k_is)
    (case l11 => k_is)
    (case c11 => k_is)
    (case k11 => k_is)
    (case a12_Net => k_is)
    (case if12 => k_is)
    (case l12 => k_is)
    (case c12 => k_is)
    (case k12 => k_is)
    (case a13 => k_is)
    (case l13 => k_is)
    (case c13 => k_is)
    (case k13 => k_is)
    (case a14 => k_is)
    (case l14 => k_is)
    (case c14 => k_is)
    (case k14 => k_is)
    (case a15 => k_is)
    (case l15 => k_is)
    (case c15 => k_is)
    (case k15 => k_is)
    (case a16 => k_is)
    (case l16 => k_is)
    (case c16 => k_is)
    (case k16 => k_is)
    (case a17 => k_is)
    (case l17 => k_is)
    (case c17 => k_is)
    (case k17 => k_is)
    (case a18 => k_is)
    (case l18 => k_is)
    (case c18 => k_is)
    (case k18 => k_is)
    (case a19 => k_is)
    (case l19 => k_is)
    (case c19 => k_is)
    (case k19 => k_is)
    (case a20 => k_is)
    (case l20 => k_is)
    (case c20 => k_is)
    (case k20 => k_is)
    (case a21_Net => k_is)
    (case if21 => k_is)
    (case l21 => k_is)
    (case c21 => k_is)
    (case k21 => k_is)
    (case a22_Net => k_is)
    (case if22 => k_is)
    (case l22 => k_is)
    (case c22 => k_is)
    (case k22 => k_is)
    (case a23_Net => k_is)
    (case if23 => k_is)
    (case l23 => k_is)
    (case c23 => k_is)
    (case k23 => k_is)
    (case a24 => k_is)
    (case l24 => k_is)
    (case c24 => k_is)
    (case k24 => k_is)
    (case a25 => k_is)
    (case l25 => k_is)
    (case c25 => k_is)
    (case k25 => k_is)
    (case a26 => k_is)
    (case l26 => k_is)
    (case c26 => k_is)
    (case k26 => k_is)
    (case a27 => k_is)
    (case l27 => k_is)
    (case c27 => k_is)
    (case k27 => k_is)
    (case a28 => k_is)
    (case l28 => k_is)
    (case c28 => k_is)
    (case k28 => k_is)
    (case a29 => k_is)
    (case l29 => k_is)
    (case c29 => k_is)
    (case k29 => k_is)
    (case a30 => k_is)
    (case l30 => k_is)
    (case c30 => k_is)
    (case k30 => k_is)
