import PyProof.Rows.All
import Wide.All
import OpenK.AllK
import Wide.FinOn
import HandS.ForMost
import HandS.ForExc
import HandS.ClsMeth
import HandS.ExcIs
import HandS.ExcField
import HandS.ExcInit
import HandS.TryOnly
import HandS.Walk
import HandS.Wide
import HandS.IsInst
import HandS.CallSlots
import HandS.Defaults
import HandS.Deep
import HandS.Flow
import HandS.NoneIn
import HandS.Style
import HandS.Rev
import HandS.RevRange
import HandS.WideBits
import PyProof.ZipIter
import KE.KItemsList
import HandS.ListItems
import KE.KStateDown
import HandS.Ends
import HandS.HeadEnd
import HandS.Head0
import HandS.Head1
import HandS.Head2
import HandS.HeadHook1
import HandS.HeadHook2
import KE.KExcIs
import KE.KIsAll
import HandS.ExcInitHot
import HandS.Finally
import KE.DataFind
import HandS.Iter
import HandS.SortInts
import HandS.More
import KE.DatumOrd
import HandS.SortKw
import HandS.Flt
import HandS.DeepEq
import HandS.Text
import HandS.FStr
import HandS.TupAny
import HandS.RaiseMore
import KE.LtData
import HandS.Conv
import PyProof.NeKinds
import PySem.Challenge.RW_beadframe_k01_what_is_a_layout
set_option Elab.async false
set_option linter.all false
set_option maxRecDepth 100000
set_option maxHeartbeats 4000000
/-! An exception of an own class that is kept behind its except suite. -/
namespace HX
open PySem PySem.Spec PyProof.Rows L2
/-- an exception of the class cls with the dict d, kept at a -/
def HEx (cls : Value) (d : Option Addr) (a : Addr) : HO := .ext fun h => ∃ (oe : Obj) (vs : Array Value), h.get? a = some oe ∧ Zc cls d oe ∧ oe.data = .fields vs
theorem hex_ok {P : Program} {w : World} {H : Hp} {h : Heap} {a : Addr} {cls : Value} {d : Option Addr} {oe : Obj} {vs : Array Value} (e : h.get? a = some oe) (z : Zc cls d oe) (q : oe.data = .fields vs) : ObjOk P w H h a (HEx cls d a) :=
  ⟨⟨oe, vs, e, z, q⟩, ⟨oe, e⟩, fun _ _ ⟨o, v, q, r⟩ k => ⟨o, v, k o q, r⟩⟩
theorem hex_at {P : Program} {w : World} {H : Hp} {h : Heap} {a : Addr} {cls : Value} {d : Option Addr} (x : HOk P w H h) (e : H a = some (HEx cls d a)) : ∃ (oe : Obj) (vs : Array Value), h.get? a = some oe ∧ Zc cls d oe ∧ oe.data = .fields vs := (x a _ e).1
section
variable {X : Cx} {pins : List (Addr × Obj)} {σ : L2.St} {H : Hp} {s : Shared} {a : Addr} {cls : Value} {d : Option Addr} {oe : Obj} {vs : Array Value}
theorem track (I : Inv X pins σ H s) (he : s.heap.get? a = some oe) (hz : Zc cls d oe) (hd : oe.data = .fields vs) (na : H a = none) (n0 : X.s_0.heap.get? a = none) (nL : a ≠ X.env.locals)
    (nC : ∀ x c, X.env.cells.lookup x = some c → c ≠ a) (nP : ∀ p ∈ X.pn ++ pins, p.1 ≠ a) : Inv X pins σ (upd H a (HEx cls d a)) s := by
  have up : ∀ {b : Addr} {o : HO}, H b = some o → upd H a (HEx cls d a) b = some o := fun {b o} e => by rw [upd_ne (ne_of_none e na)]; exact e
  refine ⟨I.ok, I.os, I.bare, ⟨I.base.keep, I.base.slot, fun b o e n hx => ?_, I.base.there, fun b xs e => up (I.base.tups b xs e), fun b o u e => up (I.base.frzs b o u e), fun b ps e => ?_⟩, I.loc, I.cell, ?_, fun x c e => ?_, fun p hp => ?_, fun b u e => ?_, I.len⟩
  · rw [upd_ne (fun z => by rw [z, n0] at e; cases e)]
    exact I.base.free b o e n hx
  · obtain ⟨m, q⟩ := I.base.tbls b ps e
    exact ⟨m, up q⟩
  · rw [upd_ne (Ne.symm nL)]
    exact I.free
  · rw [upd_ne (nC x c e)]
    exact I.freeC x c e
  · obtain ⟨q1, q2, q3⟩ := I.pin p hp
    exact ⟨q1, by rw [upd_ne (nP p hp)]; exact q2, q3⟩
  · by_cases hb : b = a
    · subst hb
      rw [upd_same] at e
      cases e
      exact hex_ok he hz hd
    · rw [upd_ne hb] at e
      exact (I.hok b u e).stay (fun c v _ q => q) (fun c q => up q) fun c xs q => up q
end
/-- what 'except x as n', its suite keeping the exception, wishes of an exception of the body: slot i is n's -/
def wAsK (K : PySem.W.Frag) (c : Value) (i : Nat) (ts : Addr → Value → Option Addr → TS) (Wout : WX) (D : Ends) : WX := fun cls d σ H =>
  ∃ b, PySem.W.exmOne K cls c = some b ∧ (b = true → ∀ a, H a = none → ts a cls d { nx := fun σ' H' => D.nx (σ'.set i none) (upd H' a (HEx cls d a)), rt := D.rt, bk := fun σ' H' => D.bk (σ'.set i none) H', ct := fun σ' H' => D.ct (σ'.set i none) H' } (σ.set i (some (.ref a))) H) ∧
    (b = false → Wout cls d σ H)
section
variable {X : Cx} {x n : Str} {c : Value} {i : Nat} {body suite : List Stmt} {b₀ : Stmt} {np pos pos' : Pos} {tb : WX → TS} {ts : Addr → Value → Option Addr → TS} {Wout : WX}
theorem ps_try_keep (hs : X.stack = X.env :: X.outer) (hf : X.env.frame = some X.env.locals) (hN : X.N.Nodup) (hi : X.N[i]? = some n) (hln : X.env.kindOf n = some .local) (hex : X.ex = []) (hc : Names X x c) (tk : Takes X Wout)
    (hb : ∀ (W : WX) (pn : List (Addr × Obj)) (xe : Value → Shared → Prop), Takes (X.tr pn xe) W → PassesOwn (model X.prog X.w) X.A X.env xe → PSs (X.tr pn xe) body (tb W))
    (hsu : ∀ (a : Addr) (oe : Obj) (cls : Value) (d : Option Addr) (pn : List (Addr × Obj)), Zc cls d oe → (∃ vs, oe.data = .fields vs) → PSs (X.suite a ((a, oe) :: pn)) (b₀ :: suite) (ts a cls d)) :
    PS X (.Try body [.ExceptHandler (some (.Name x np)) (some n) (b₀ :: suite) pos'] [] [] pos) (fun D σ H => tb (wAsK X.K c i ts Wout D) D σ H) := by
  refine ⟨fun pins s σ H D I h => ?_⟩
  have ok := I.ok
  have frm : X.A.frames = some (X.env :: X.outer) := by rw [ok.frames, hs]
  have lcl : Loc X.env.scope n := .inl hln
  refine wpAny_Try_except ?_
  refine wpAny_mono ((hb (wAsK X.K c i ts Wout D) (X.pn ++ pins) (fun e s₁ => wpAny (model X.prog X.w) X.A (noteFrame e X.env) (fun _ s₂ => wpAny (model X.prog X.w) X.A (setFlight e none) (fun _ s₃ =>
    wpAny (model X.prog X.w) X.A (handleBy e X.env [.ExceptHandler (some (.Name x np)) (some n) (b₀ :: suite) pos']) (SP X pins D) X.xe s₃) X.xe s₂) X.xe s₁) (fun u s' xx => ?_) PassesOwn.looking).run [] s σ H D (I.toTry _) h) (fun f s1 hsp => ?_) (fun e s1 he => he)
  · -- what is caught
    obtain ⟨a, B, sI, pins', σ', H', cls, d, rfl, J', nb, up, sky, na, os, ag, b, hb1, hyes, hno⟩ := xx
    have J : Inv X pins σ' H' sI := J'.ofTry ok
    have sky2 : Sky B (X.env :: X.outer) a (Zc cls d) X.env.locals s'.heap := by rw [← hs]; exact sky
    show wpAny (model X.prog X.w) X.A (noteFrame (.ref a) X.env) _ _ _
    refine Sky.land Zc.steady frm hf sky2 fun g3 fl3 up3 => ?_
    have J3 : Inv X pins σ' H' { s' with heap := g3 } := J.landed nb fl3.1 (up.trans up3) os ag
    obtain ⟨o3, w3, he3, hz3, hd3⟩ := fl3.there
    have nfr : a ∉ frs (X.env :: X.outer) := fun hm => by
      obtain ⟨_, o', e', hnf⟩ := fl3.2.2.1.mem hm
      rw [he3] at e'; cases e'
      exact hnf _ hd3
    have nL : a ≠ X.env.locals := fun z => nfr (List.mem_filterMap.mpr ⟨X.env, List.mem_cons_self, by rw [hf, z]⟩)
    have nF : a ∉ X.fs := fun hm => by
      obtain ⟨e, he, q⟩ := List.mem_filterMap.mp hm
      exact nfr (List.mem_filterMap.mpr ⟨e, List.mem_cons_of_mem _ he, q⟩)
    have nB : B.get? a = none := fl3.2.1
    have nI : sI.heap.get? a = none := by
      cases q : sI.heap.get? a with
      | none => rfl
      | some o =>
        have := nb a o q (by rw [hs]; exact nfr)
        rw [nB] at this
        cases this
    have n0 : X.s_0.heap.get? a = none := by
      cases q : X.s_0.heap.get? a with
      | none => rfl
      | some o =>
        obtain ⟨o', q'⟩ := J.base.there a o q (by rw [hex]; exact fun z => nomatch z)
        rw [nI] at q'
        cases q'
    have nC : ∀ x c, X.env.cells.lookup x = some c → c ≠ a := fun x c e z => by
      obtain ⟨v, o, q, _⟩ := J.cell x c e
      rw [z, nI] at q
      cases q
    have nP : ∀ p ∈ X.pn ++ pins, p.1 ≠ a := fun p hp z => by
      have q := (J.pin p hp).1
      rw [z, nI] at q
      cases q
    have S3 := J3.suite he3 hd3 na nL nF
    refine wpAny_handleBy_cons (codeAny_handlers_test ?_) (by intro q; cases q)
    have LT : PySem.W.Looks (model X.prog X.w) g3 (typeOf (.ref a)) cls := fun A Q E s k q => wpAny_typeOf_ref (k _ _ he3) (by rw [hz3.1]; exact q)
    have LM := PySem.W.exm_one (M := model X.prog X.w) (J3.kIn) LT hb1
    have tst : ∀ {Q : Value → Shared → Prop} {E : Value → Shared → Prop}, Q c { s' with heap := g3 } → wpAny (model X.prog X.w) (X.A.mark (some (.ref a))) (eval (.Name x np) X.env) Q E { s' with heap := g3 } := fun {Q E} q => by
      obtain ⟨hg, hdbg, hm | ⟨hm, hv, hnn⟩⟩ := hc
      · exact ld_glob (X := X.suite a ((a, o3) :: (X.pn ++ pins))) S3 hg hm q hdbg
      · exact ld_blt (X := X.suite a ((a, o3) :: (X.pn ++ pins))) S3 hg hm hv q hnn hdbg
    refine tst (LM.here ?_)
    cases b with
    | true =>
      refine codeAny_handlers_suite_as ?_
      refine HandSPX.lands_againZ fl3 fun g4 fl4 up4 => ?_
      have J4 : Inv X pins σ' H' { s' with heap := g4 } := J.landed nb fl4.1 ((up.trans up3).trans up4) os ag
      obtain ⟨o4, w4, he4, hz4, hd4⟩ := fl4.there
      have S4 := J4.suite he4 hd4 na nL nF
      refine store_ok (X := X.suite a ((a, o4) :: (X.pn ++ pins))) (v := .ref a) S4 hN hi lcl rfl (fun s5 S5 => ?_) (.inr hln)
      refine wpAny_mono ((hsu a o4 cls d (X.pn ++ pins) hz4 ⟨_, hd4⟩).run [] s5 _ H' _ S5 (hyes rfl a na)) (fun f s6 hsp => ?_) (fun _ _ z => False.elim z)
      have fin : ∀ {σ6 : L2.St} {H6 : Hp} {Q : Shared → Prop}, Inv (X.suite a ((a, o4) :: (X.pn ++ pins))) [] σ6 H6 s6 → (∀ s7, Inv X pins (σ6.set i none) H6 s7 → Q s7) →
          wpAny (model X.prog X.w) X.A (do bindName X.env n .none; unbindBehindTheSuite X.env n pos') (fun _ s7 => Q s7) X.xe s6 := fun {σ6 H6 Q} S6 hq => gone_ok (S6.unsuite ok) hN hi hln hq
      cases f with
      | next =>
        obtain ⟨σ6, H6, S6, q6⟩ := hsp
        obtain ⟨r1, r2, _⟩ := S6.pin (a, o4) (List.mem_append_left _ List.mem_cons_self)
        have T6 := track (cls := cls) (d := d) (S6.unsuite ok) r1 hz4 hd4 r2 n0 nL nC nP
        exact gone_ok T6 hN hi hln fun s7 J7 => ⟨_, _, J7, q6⟩
      | brk =>
        obtain ⟨σ6, H6, S6, q6⟩ := hsp
        exact fin S6 fun s7 J7 => ⟨_, _, J7, q6⟩
      | cont =>
        obtain ⟨σ6, H6, S6, q6⟩ := hsp
        exact fin S6 fun s7 J7 => ⟨_, _, J7, q6⟩
      | ret u =>
        obtain ⟨v6, σ6, H6, S6, r6, q6⟩ := hsp
        exact fin S6 fun s7 J7 => ⟨_, _, _, J7, r6, q6⟩
    | false =>
      show wpAny _ X.A (handleBy (.ref a) X.env []) _ _ _
      refine wpAny_handleBy_nil ?_
      obtain ⟨k1, k2, k3, oe, vs, T, oT, ts', he, hz, hd, h1, hr⟩ := id fl3
      unfold PySem.passOn
      refine wpAny_bind (wpAny_field he hd h1 ?_)
      rw [if_neg (show ¬ ((Value.ref T == Value.none) = true) from by simp)]
      have out : wpAny (model X.prog X.w) X.A (setFlight (.ref a) X.env.frame) (fun _ s4 => wpAny (model X.prog X.w) X.A (throw (.ref a) : Sem Flow) (SP X pins D) X.xe s4) X.xe { s' with heap := g3 } := by
        rw [hf]
        refine HandSPX.setFlight_upZ fl3 fun g4 hh4 up4 => wpAny_throw (tk _ _ ?_)
        exact ⟨a, B, sI, pins, σ', H', cls, d, rfl, J, nb, (up.trans up3).trans up4, .inr (.inr (by rw [hs]; exact hh4)), na, os, ag, hno rfl⟩
      first
        | exact wpAny_bind (wpAny_pure (wpAny_bind out))
        | exact wpAny_bind out
  cases f with
  | next =>
    obtain ⟨σ', H', J', q⟩ := hsp
    exact wpAny_execs_nil ⟨σ', H', J'.ofTry ok, q⟩
  | brk =>
    obtain ⟨σ', H', J', q⟩ := hsp
    exact ⟨σ', H', J'.ofTry ok, q⟩
  | cont =>
    obtain ⟨σ', H', J', q⟩ := hsp
    exact ⟨σ', H', J'.ofTry ok, q⟩
  | ret u =>
    obtain ⟨v, σ', H', J', r, q⟩ := hsp
    exact ⟨v, σ', H', J'.ofTry ok, r, q⟩
end
end HX
set_option Elab.async false
set_option linter.all false
set_option maxRecDepth 100000
set_option maxHeartbeats 4000000
/-! The data layer, core: values as trees without a heap, how they lie in the heap, the judgements over them. -/
namespace DL
open PySem PySem.Spec L2

/-- a value as a tree -/
inductive D where
  | non | bl (b : Bool) | int (i : Int) | str (x : Str)
  | lst (xs : List D) | tup (xs : List D)
  | scr (ns : List Int)
  | dk (ks : List Key) (vs : List D)
  | obj (c : Str) (ns : List Str) (vs : List D)
  | exc (c : Str) (ns : List Str) (vs : List D)
  | cls (c : Str) | ty (n : String)
instance : Inhabited D := ⟨.non⟩

inductive R (α : Type) where
  | ok (a : α) | exc (x : D) | stuck
namespace R
variable {α β : Type}
def bind : R α → (α → R β) → R β
  | .ok a, k => k a
  | .exc x, _ => .exc x
  | .stuck, _ => .stuck
def map (g : α → β) : R α → R β
  | .ok a => .ok (g a)
  | .exc x => .exc x
  | .stuck => .stuck
end R

/-- a field of an object that this frame alone holds -/
inductive Fl where
  | val (d : D) | own (ds : List D) | dic (ks : List Key) (vs : List D)
def Fl.isOwn : Fl → Bool
  | .val _ => false
  | _ => true
/-- a slot: a value that nobody changes; a list, a dict, an object that this frame alone holds (b: the one that a method was handed) -/
inductive Slot where
  | val (d : D) | own (ds : List D) | dic (ks : List Key) (vs : List D) | oob (b : Bool) (c : Str) (ns : List Str) (fs : List Fl)
def Slot.isOwn : Slot → Bool
  | .val _ => false
  | _ => true
/-- what an object at v holds besides: its own address, its own fields' -/
def OFoot (H : Hp) (ns : List Str) (fs : List Fl) (v : V) (l : Addr) : Prop := v = V.ref l ∨ ∃ (a C dx : Addr) (vs : List V) (i : Nat) (f : Fl), v = V.ref a ∧ H a = some (HO.ins C dx (ns.zip vs)) ∧ ns.length = vs.length ∧ fs[i]? = some f ∧ f.isOwn = true ∧ vs[i]? = some (V.ref l)
/-- the addresses that a slot holds alone -/
def foot (H : Hp) : Slot → V → Addr → Prop
  | .val _, _, _ => False
  | .own _, v, l => v = V.ref l
  | .dic _ _, v, l => v = V.ref l
  | .oob _ _ ns fs, v, l => OFoot H ns fs v l
abbrev Env := List (Option Slot)

section
variable (K : PySem.W.Frag) (mg : Str → Option Value)
mutual
/-- v in the heap F is the tree d -/
def Rp (F : Hp) : D → V → Prop
  | .non, v => v = .non
  | .bl b, v => v = .bl b
  | .int i, v => v = .int i
  | .str x, v => v = .str x
  | .lst ds, v => ∃ a vs, v = .ref a ∧ F a = some (.lst vs) ∧ RpL F ds vs
  | .tup ds, v => ∃ a vs, v = .ref a ∧ F a = some (.tup vs) ∧ RpL F ds vs
  | .scr ns, v => ∃ a, v = .ref a ∧ SqL K F a (ns.map V.int)
  | .dk ks ds, v => ∃ a vs, v = .ref a ∧ F a = some (.dK (ks.zip vs)) ∧ ks.length = vs.length ∧ RpL F ds vs
  | .obj c ns ds, v => ∃ a C dx vs, v = .ref a ∧ mg c = some (.ref C) ∧ F a = some (.ins C dx (ns.zip vs)) ∧ ns.length = vs.length ∧ RpL F ds vs
  | .exc c ns ds, v => ∃ a C od, v = .ref a ∧ mg c = some (.ref C) ∧ F a = some (HX.HEx (.ref C) od a) ∧
      ((ns = [] ∧ ds = [] ∧ od = none) ∨ ∃ dd vs, od = some dd ∧ F dd = some (.xd (ns.zip vs)) ∧ ns.length = vs.length ∧ RpL F ds vs)
  | .cls c, v => ∃ C, v = .ref C ∧ mg c = some (.ref C)
  | .ty n, v => v = .ty n
def RpL (F : Hp) : List D → List V → Prop
  | [], vs => vs = []
  | d :: ds, vs => ∃ v us, vs = v :: us ∧ Rp F d v ∧ RpL F ds us
end
/-- an exception in the air: its class, its dict -/
def RpX (F : Hp) : D → Value → Option Addr → Prop
  | .exc c ns ds, cls, od => ∃ C, cls = .ref C ∧ mg c = some (.ref C) ∧
      ((ns = [] ∧ ds = [] ∧ od = none) ∨ ∃ dd vs, od = some dd ∧ F dd = some (.xd (ns.zip vs)) ∧ ns.length = vs.length ∧ RpL K mg F ds vs)
  | _, _, _ => False
end

/-- what F says stands in H (a dict perhaps locked) -/
def Fz (F H : Hp) : Prop := ∀ a o, F a = some o → H a = some o ∨ ((∃ kvs, o = .dK kvs) ∧ ∃ ob, H a = some (.frz ob o))
theorem Fz.refl (H : Hp) : Fz H H := fun _ _ h => .inl h
theorem Fz.free {F H : Hp} (h : Fz F H) {a : Addr} (n : H a = none) : F a = none := by
  cases q : F a with
  | none => rfl
  | some o =>
    rcases h a o q with z | ⟨_, _, z⟩
    · rw [n] at z; cases z
    · rw [n] at z; cases z
theorem Fz.sub {F F1 H : Hp} (h : Fz F1 H) (s : Same F F1) : Fz F H := fun a o e => h a o (s a o e)
theorem Fz.lst {F H : Hp} (h : Fz F H) {a : Addr} {vs : List V} (e : F a = some (.lst vs)) : H a = some (.lst vs) := by
  rcases h a _ e with z | ⟨⟨_, z⟩, _⟩
  · exact z
  · cases z
theorem Fz.tup {F H : Hp} (h : Fz F H) {a : Addr} {vs : List V} (e : F a = some (.tup vs)) : H a = some (.tup vs) := by
  rcases h a _ e with z | ⟨⟨_, z⟩, _⟩
  · exact z
  · cases z
theorem Fz.ins {F H : Hp} (h : Fz F H) {a C dx : Addr} {fs : List (Str × V)} (e : F a = some (.ins C dx fs)) : H a = some (.ins C dx fs) := by
  rcases h a _ e with z | ⟨⟨_, z⟩, _⟩
  · exact z
  · cases z
theorem Fz.xd {F H : Hp} (h : Fz F H) {a : Addr} {fs : List (Str × V)} (e : F a = some (.xd fs)) : H a = some (.xd fs) := by
  rcases h a _ e with z | ⟨⟨_, z⟩, _⟩
  · exact z
  · cases z
theorem Fz.seq {K : PySem.W.Frag} {F H : Hp} (h : Fz F H) {a : Addr} {vs : List V} (e : SqL K F a vs) : SqL K H a vs := by
  rcases e with (e | ⟨o, e⟩) | e
  · exact .inl (.inl (h.lst e))
  · rcases h a _ e with z | ⟨⟨_, z⟩, _⟩
    · exact .inl (.inr ⟨o, z⟩)
    · cases z
  · exact .inr e

/-- from (F, H) to (F', H'): what was known is known, what was tracked is as it was, what is known newly is new -/
structure Ext (F H F' H' : Hp) : Prop where
  ff : Same F F'
  fh : Fz F' H'
  hh : Same H H'
  new : ∀ a o, F' a = some o → F a = some o ∨ H a = none
theorem Ext.refl {F H : Hp} (h : Fz F H) : Ext F H F H := ⟨Same.refl _, h, Same.refl _, fun _ _ e => .inl e⟩
theorem Ext.trans {F H F1 H1 F2 H2 : Hp} (a : Ext F H F1 H1) (b : Ext F1 H1 F2 H2) : Ext F H F2 H2 :=
  ⟨a.ff.trans b.ff, b.fh, a.hh.trans b.hh, fun c o e => by
    rcases b.new c o e with z | z
    · exact a.new c o z
    · exact .inr (a.hh.free z)⟩
theorem Ext.laid {F H : Hp} (h : Fz F H) {p : Addr} {o : HO} (n : H p = none) : Ext F H (upd F p o) (upd H p o) := by
  have nF := h.free n
  refine ⟨fun a u e => by rw [upd_ne (ne_of_none e nF)]; exact e, fun a u e => ?_, fun a u e => by rw [upd_ne (ne_of_none e n)]; exact e, fun a u e => ?_⟩
  · by_cases q : a = p
    · subst q
      rw [upd_same] at e ⊢
      exact .inl e
    · rw [upd_ne q] at e ⊢
      exact h a u e
  · by_cases q : a = p
    · subst q
      exact .inr n
    · rw [upd_ne q] at e
      exact .inl e
theorem Ext.heap {F H : Hp} (h : Fz F H) {p : Addr} {o : HO} (n : H p = none) : Ext F H F (upd H p o) := by
  have nF := h.free n
  refine ⟨Same.refl _, fun a u e => ?_, fun a u e => by rw [upd_ne (ne_of_none e n)]; exact e, fun a u e => .inl e⟩
  rw [upd_ne (ne_of_none e nF)]
  exact h a u e

section
variable {K : PySem.W.Frag} {mg : Str → Option Value} {F F' : Hp}
theorem SqL.mono (s : Same F F') {a : Addr} {xs : List V} (h : SqL K F a xs) : SqL K F' a xs := s.seq h
mutual
theorem Rp.mono (s : Same F F') : ∀ (d : D) (v : V), Rp K mg F d v → Rp K mg F' d v
  | .non, _, h => h
  | .bl _, _, h => h
  | .int _, _, h => h
  | .str _, _, h => h
  | .lst ds, _, h => by
    unfold Rp at h ⊢
    obtain ⟨a, vs, e, ea, r⟩ := h
    exact ⟨a, vs, e, s _ _ ea, RpL.mono s ds vs r⟩
  | .tup ds, _, h => by
    unfold Rp at h ⊢
    obtain ⟨a, vs, e, ea, r⟩ := h
    exact ⟨a, vs, e, s _ _ ea, RpL.mono s ds vs r⟩
  | .scr ns, _, h => by
    unfold Rp at h ⊢
    obtain ⟨a, e, q⟩ := h
    exact ⟨a, e, s.seq q⟩
  | .dk ks ds, _, h => by
    unfold Rp at h ⊢
    obtain ⟨a, vs, e, ea, l, r⟩ := h
    exact ⟨a, vs, e, s _ _ ea, l, RpL.mono s ds vs r⟩
  | .obj c ns ds, _, h => by
    unfold Rp at h ⊢
    obtain ⟨a, C, dx, vs, e, ec, ea, l, r⟩ := h
    exact ⟨a, C, dx, vs, e, ec, s _ _ ea, l, RpL.mono s ds vs r⟩
  | .exc c ns ds, _, h => by
    unfold Rp at h ⊢
    obtain ⟨a, C, od, e, ec, ea, q⟩ := h
    refine ⟨a, C, od, e, ec, s _ _ ea, ?_⟩
    rcases q with q | ⟨dd, vs, e1, e2, l, r⟩
    · exact .inl q
    · exact .inr ⟨dd, vs, e1, s _ _ e2, l, RpL.mono s ds vs r⟩
  | .cls c, _, h => by unfold Rp at h ⊢; exact h
  | .ty n, _, h => by unfold Rp at h ⊢; exact h
theorem RpL.mono (s : Same F F') : ∀ (ds : List D) (vs : List V), RpL K mg F ds vs → RpL K mg F' ds vs
  | [], _, h => by unfold RpL at h ⊢; exact h
  | d :: ds, _, h => by
    unfold RpL at h ⊢
    obtain ⟨v, us, e, r, rr⟩ := h
    exact ⟨v, us, e, Rp.mono s d v r, RpL.mono s ds us rr⟩
end
theorem RpX.mono (s : Same F F') {x : D} {cls : Value} {od : Option Addr} (h : RpX K mg F x cls od) : RpX K mg F' x cls od := by
  cases x with
  | exc c ns ds =>
    obtain ⟨C, e, ec, q⟩ := h
    refine ⟨C, e, ec, ?_⟩
    rcases q with q | ⟨dd, vs, e1, e2, l, r⟩
    · exact .inl q
    · exact .inr ⟨dd, vs, e1, s _ _ e2, l, RpL.mono s _ _ r⟩
  | _ => exact h.elim
theorem RpL.nil_iff {vs : List V} (h : RpL K mg F [] vs) : vs = [] := by unfold RpL at h; exact h
theorem RpL.cons_iff {d : D} {ds : List D} {vs : List V} (h : RpL K mg F (d :: ds) vs) : ∃ v us, vs = v :: us ∧ Rp K mg F d v ∧ RpL K mg F ds us := by unfold RpL at h; exact h
theorem RpL.nil : RpL K mg F [] [] := by unfold RpL; rfl
theorem RpL.cons {d : D} {ds : List D} {v : V} {vs : List V} (h : Rp K mg F d v) (t : RpL K mg F ds vs) : RpL K mg F (d :: ds) (v :: vs) := by unfold RpL; exact ⟨v, vs, rfl, h, t⟩
theorem RpL.length : ∀ {ds : List D} {vs : List V}, RpL K mg F ds vs → ds.length = vs.length
  | [], vs, h => by rw [h.nil_iff]; rfl
  | d :: ds, vs, h => by
    obtain ⟨v, us, e, _, r⟩ := h.cons_iff
    rw [e, List.length_cons, List.length_cons, RpL.length r]
theorem RpL.append : ∀ {ds es : List D} {vs us : List V}, RpL K mg F ds vs → RpL K mg F es us → RpL K mg F (ds ++ es) (vs ++ us)
  | [], es, vs, us, h, t => by rw [h.nil_iff]; exact t
  | d :: ds, es, vs, us, h, t => by
    obtain ⟨v, ws, e, r, rr⟩ := h.cons_iff
    rw [e]
    exact RpL.cons r (RpL.append rr t)
theorem RpL.get : ∀ {ds : List D} {vs : List V} {i : Nat} {d : D}, RpL K mg F ds vs → ds[i]? = some d → ∃ v, vs[i]? = some v ∧ Rp K mg F d v
  | [], _, _, _, _, e => by simp at e
  | d :: ds, vs, 0, d', h, e => by
    obtain ⟨v, ws, e', r, rr⟩ := h.cons_iff
    rw [e']
    simp at e
    subst e
    exact ⟨v, rfl, r⟩
  | d :: ds, vs, i + 1, d', h, e => by
    obtain ⟨v, ws, e', r, rr⟩ := h.cons_iff
    rw [e']
    obtain ⟨u, h1, h2⟩ := RpL.get (i := i) rr (by simpa using e)
    exact ⟨u, by simpa using h1, h2⟩
theorem RpL.getV : ∀ {ds : List D} {vs : List V} {i : Nat} {v : V}, RpL K mg F ds vs → vs[i]? = some v → ∃ d, ds[i]? = some d ∧ Rp K mg F d v := by
  intro ds vs i v h e
  have hl := h.length
  have hi : i < ds.length := by rw [hl]; exact (List.getElem?_eq_some_iff.mp e).1
  obtain ⟨u, h1, h2⟩ := h.get (i := i) (d := ds[i]) (by simp [hi])
  rw [e] at h1
  cases h1
  exact ⟨ds[i], by simp [hi], h2⟩
theorem RpL.set : ∀ {ds : List D} {vs : List V} {d : D} {v : V} (i : Nat), RpL K mg F ds vs → Rp K mg F d v → RpL K mg F (ds.set i d) (vs.set i v)
  | [], vs, _, _, _, h, _ => by rw [h.nil_iff]; exact RpL.nil
  | d :: ds, vs, d', v', 0, h, r' => by
    obtain ⟨v, ws, e', r, rr⟩ := h.cons_iff
    rw [e']
    exact RpL.cons r' rr
  | d :: ds, vs, d', v', i + 1, h, r' => by
    obtain ⟨v, ws, e', r, rr⟩ := h.cons_iff
    rw [e']
    exact RpL.cons r (RpL.set i rr r')
theorem RpL.take : ∀ {ds : List D} {vs : List V} (n : Nat), RpL K mg F ds vs → RpL K mg F (ds.take n) (vs.take n)
  | ds, vs, 0, h => by simp; exact RpL.nil
  | [], vs, n + 1, h => by rw [h.nil_iff]; exact RpL.nil
  | d :: ds, vs, n + 1, h => by
    obtain ⟨v, ws, e', r, rr⟩ := h.cons_iff
    rw [e']
    exact RpL.cons r (RpL.take n rr)
theorem RpL.drop : ∀ {ds : List D} {vs : List V} (n : Nat), RpL K mg F ds vs → RpL K mg F (ds.drop n) (vs.drop n)
  | ds, vs, 0, h => by simpa using h
  | [], vs, n + 1, h => by rw [h.nil_iff]; exact RpL.nil
  | d :: ds, vs, n + 1, h => by
    obtain ⟨v, ws, e', r, rr⟩ := h.cons_iff
    rw [e']
    exact RpL.drop n rr
theorem RpL.reverse : ∀ {ds : List D} {vs : List V}, RpL K mg F ds vs → RpL K mg F ds.reverse vs.reverse
  | [], vs, h => by rw [h.nil_iff]; exact RpL.nil
  | d :: ds, vs, h => by
    obtain ⟨v, ws, e', r, rr⟩ := h.cons_iff
    rw [e', List.reverse_cons, List.reverse_cons]
    exact RpL.append (RpL.reverse rr) (RpL.cons r RpL.nil)
theorem RpL.ints : ∀ {ns : List Int}, RpL K mg F (ns.map D.int) (ns.map V.int)
  | [] => RpL.nil
  | n :: ns => RpL.cons (by unfold Rp; rfl) RpL.ints
/-- two trees at one value -/
theorem RpL.rep {ds : List D} {vs : List V} (h : RpL K mg F ds vs) : ∀ k : Nat, RpL K mg F (List.replicate k ds).flatten (List.replicate k vs).flatten
  | 0 => by simp; exact RpL.nil
  | k + 1 => by
    rw [List.replicate_succ, List.replicate_succ, List.flatten_cons, List.flatten_cons]
    exact RpL.append h (RpL.rep h k)
end

/-! ### slots -/
section
variable (K : PySem.W.Frag) (mg : Str → Option Value)
def OwnL (H0 F H : Hp) (ds : List D) (v : V) : Prop := ∃ l vs, v = .ref l ∧ H l = some (.lst vs) ∧ F l = none ∧ H0 l = none ∧ RpL K mg F ds vs
def OwnD (H0 F H : Hp) (ks : List Key) (ds : List D) (v : V) : Prop := ∃ l vs, v = .ref l ∧ H l = some (.dK (ks.zip vs)) ∧ ks.length = vs.length ∧ F l = none ∧ H0 l = none ∧ RpL K mg F ds vs
def FlOk (H0 F H : Hp) : Fl → V → Prop
  | .val d, v => Rp K mg F d v
  | .own ds, v => OwnL K mg H0 F H ds v
  | .dic ks ds, v => OwnD K mg H0 F H ks ds v
def ObOk (H0 F H : Hp) (c : Str) (ns : List Str) (fs : List Fl) (v : V) : Prop := ∃ a C dx vs, v = .ref a ∧ mg c = some (.ref C) ∧ H a = some (.ins C dx (ns.zip vs)) ∧ ns.length = vs.length ∧ fs.length = vs.length ∧ F a = none ∧ H0 a = none ∧
  (∀ (i : Nat) (f : Fl) (u : V), fs[i]? = some f → vs[i]? = some u → FlOk K mg H0 F H f u) ∧
  ∀ (i j : Nat) (f g : Fl) (u : V), fs[i]? = some f → fs[j]? = some g → f.isOwn = true → g.isOwn = true → vs[i]? = some u → vs[j]? = some u → i = j
def SlotOk (H0 F H : Hp) : Slot → V → Prop
  | .val d, v => Rp K mg F d v
  | .own ds, v => OwnL K mg H0 F H ds v
  | .dic ks ds, v => OwnD K mg H0 F H ks ds v
  | .oob _ c ns fs, v => ObOk K mg H0 F H c ns fs v
/-- a frame's entry: what was known, and the object that its method was handed -/
structure Fe where
  hp : Hp
  sv : V
instance : Coe Fe Hp := ⟨Fe.hp⟩
instance : CoeFun Fe (fun _ => Addr → Option HO) := ⟨Fe.hp⟩
def Slf (F0 : Fe) (σ : St) (Γ : Env) : Prop := ∀ (i : Nat) (c : Str) (ns : List Str) (fs : List Fl) (v : V), Γ[i]? = some (some (.oob true c ns fs)) → σ[i]? = some (some v) → v = F0.sv
/-- the frame's slots by trees; F0, H0: the frame's entry -/
structure Rel (F0 : Fe) (H0 F H : Hp) (σ : St) (Γ : Env) : Prop where
  ext : Ext F0 H0 F H
  len : σ.length = Γ.length
  slot : ∀ (i : Nat) (s : Slot), Γ[i]? = some (some s) → ∃ v, σ[i]? = some (some v) ∧ SlotOk K mg H0 F H s v
  inj : ∀ (i j : Nat) (s t : Slot) (v u : V) (l : Addr), Γ[i]? = some (some s) → Γ[j]? = some (some t) → σ[i]? = some (some v) → σ[j]? = some (some u) → foot H s v l → foot H t u l → i = j
  slf : Slf F0 σ Γ
/-- what is wanted behind -/
def PostG {α β : Type} (rep : Hp → Hp → Hp → α → β → Prop) (F H : Hp) (E : XK) (Q : β → Hp → Prop) : R α → Prop
  | .ok a => ∀ b F' H', Ext F H F' H' → rep H F' H' a b → Q b H'
  | .exc x => ∀ cls od F' H', Ext F H F' H' → RpX K mg F' x cls od → E cls od H'
  | .stuck => False
abbrev repV : Hp → Hp → Hp → D → V → Prop := fun _ F' _ d v => Rp K mg F' d v
abbrev repL : Hp → Hp → Hp → List D → List V → Prop := fun _ F' _ d v => RpL K mg F' d v
abbrev repO : Hp → Hp → Hp → List D → V → Prop := fun H F' H' d v => OwnL K mg H F' H' d v
abbrev repD : Hp → Hp → Hp → (List Key × List D) → V → Prop := fun H F' H' d v => OwnD K mg H F' H' d.1 d.2 v
abbrev repB {β : Type} : Hp → Hp → Hp → β → β → Prop := fun _ _ _ d v => v = d
end
section
variable {K : PySem.W.Frag} {mg : Str → Option Value} {F0 : Fe} {H0 F H F' H' : Hp} {σ : St} {Γ : Env} {α β : Type}
theorem Slf.set (h : Slf F0 σ Γ) (i : Nat) {x : Option Slot} {y : Option V} (nx : ∀ c ns fs, x ≠ some (.oob true c ns fs)) : Slf F0 (σ.set i y) (Γ.set i x) := by
  intro j c ns fs v e1 e2
  by_cases q : i = j
  · subst q
    have hi : i < Γ.length := by
      have := (List.getElem?_eq_some_iff.mp e1).1
      rwa [List.length_set] at this
    rw [List.getElem?_set_self hi] at e1
    injection e1 with e1
    exact absurd e1 (nx c ns fs)
  · rw [List.getElem?_set_ne q] at e1 e2
    exact h j c ns fs v e1 e2
theorem Slf.setE (h : Slf F0 σ Γ) {i : Nat} {s s' : Slot} (ei : Γ[i]? = some (some s)) (hb : ∀ c ns fs, s' = .oob true c ns fs → ∃ c2 ns2 fs2, s = .oob true c2 ns2 fs2) : Slf F0 σ (Γ.set i (some s')) := by
  intro j c ns fs v e1 e2
  by_cases q : i = j
  · subst q
    have hi : i < Γ.length := (List.getElem?_eq_some_iff.mp ei).1
    rw [List.getElem?_set_self hi] at e1
    injection e1 with e1
    injection e1 with e1
    obtain ⟨c2, ns2, fs2, e3⟩ := hb c ns fs e1
    subst e3
    exact h i c2 ns2 fs2 v ei e2
  · rw [List.getElem?_set_ne q] at e1
    exact h j c ns fs v e1 e2
theorem OwnL.ext {ds : List D} {v : V} (h : OwnL K mg H0 F H ds v) (x : Ext F H F' H') : OwnL K mg H0 F' H' ds v := by
  obtain ⟨l, vs, e, eh, ef, e0, r⟩ := h
  refine ⟨l, vs, e, x.hh _ _ eh, ?_, e0, RpL.mono x.ff _ _ r⟩
  cases q : F' l with
  | none => rfl
  | some o =>
    rcases x.new l o q with z | z
    · rw [ef] at z; cases z
    · rw [eh] at z; cases z
theorem OwnD.ext {ks : List Key} {ds : List D} {v : V} (h : OwnD K mg H0 F H ks ds v) (x : Ext F H F' H') : OwnD K mg H0 F' H' ks ds v := by
  obtain ⟨l, vs, e, eh, el, ef, e0, r⟩ := h
  refine ⟨l, vs, e, x.hh _ _ eh, el, ?_, e0, RpL.mono x.ff _ _ r⟩
  cases q : F' l with
  | none => rfl
  | some o =>
    rcases x.new l o q with z | z
    · rw [ef] at z; cases z
    · rw [eh] at z; cases z
theorem zip_snd : ∀ {ns : List Str} {vs us : List V}, ns.length = vs.length → ns.length = us.length → ns.zip vs = ns.zip us → vs = us
  | [], vs, us, h, h', _ => by
    rw [List.length_eq_zero_iff.mp h.symm, List.length_eq_zero_iff.mp h'.symm]
  | n :: ns, [], _, h, _, _ => by cases h
  | n :: ns, _ :: _, [], _, h, _ => by cases h
  | n :: ns, v :: vs, u :: us, h, h', e => by
    rw [List.zip_cons_cons, List.zip_cons_cons] at e
    injection e with e1 e2
    injection e1 with _ e1
    rw [e1, zip_snd (by simpa using h) (by simpa using h') e2]
theorem FlOk.own_at {f : Fl} {v : V} (o : f.isOwn = true) (h : FlOk K mg H0 F H f v) : ∃ l ob, v = .ref l ∧ H l = some ob ∧ F l = none ∧ H0 l = none := by
  cases f with
  | val d => cases o
  | own ds =>
    obtain ⟨l, vs, e, eh, ef, e0, _⟩ := h
    exact ⟨l, _, e, eh, ef, e0⟩
  | dic ks ds =>
    obtain ⟨l, vs, e, eh, _, ef, e0, _⟩ := h
    exact ⟨l, _, e, eh, ef, e0⟩
theorem FlOk.gen {H0' : Hp} {f : Fl} {v : V} (h : FlOk K mg H0 F H f v) (sF : Same F F') (nF : ∀ l, f.isOwn = true → v = .ref l → F' l = none) (sH : ∀ l ob, f.isOwn = true → v = .ref l → H l = some ob → H' l = some ob) (nH : ∀ l, f.isOwn = true → v = .ref l → H0' l = none) : FlOk K mg H0' F' H' f v := by
  cases f with
  | val d => exact Rp.mono sF d v h
  | own ds =>
    obtain ⟨l, vs, e, eh, ef, e0, r⟩ := h
    exact ⟨l, vs, e, sH l _ rfl e eh, nF l rfl e, nH l rfl e, RpL.mono sF _ _ r⟩
  | dic ks ds =>
    obtain ⟨l, vs, e, eh, el, ef, e0, r⟩ := h
    exact ⟨l, vs, e, sH l _ rfl e eh, el, nF l rfl e, nH l rfl e, RpL.mono sF _ _ r⟩
theorem foot_at {s : Slot} {v : V} {l : Addr} (h : SlotOk K mg H0 F H s v) (q : foot H s v l) : ∃ ob, H l = some ob ∧ F l = none ∧ H0 l = none := by
  cases s with
  | val d => exact q.elim
  | own ds =>
    obtain ⟨l2, vs, e, eh, ef, e0, _⟩ := h
    have q : v = .ref l := q
    rw [e] at q
    cases q
    exact ⟨_, eh, ef, e0⟩
  | dic ks ds =>
    obtain ⟨l2, vs, e, eh, _, ef, e0, _⟩ := h
    have q : v = .ref l := q
    rw [e] at q
    cases q
    exact ⟨_, eh, ef, e0⟩
  | oob b c ns fs =>
    obtain ⟨a, C, dx, vs, e, ec, eh, el, el2, ef, e0, hf, hi⟩ := h
    rcases q with q | ⟨a2, C2, dx2, vs2, i, f, q1, q2, q3, q4, q5, q6⟩
    · rw [e] at q
      cases q
      exact ⟨_, eh, ef, e0⟩
    · rw [e] at q1
      cases q1
      rw [eh] at q2
      injection q2 with q2
      injection q2 with _ _ q2
      have := zip_snd el q3 q2
      subst this
      obtain ⟨l', ob, e1, e2, e3, e4⟩ := FlOk.own_at q5 (hf i f _ q4 q6)
      cases e1
      exact ⟨ob, e2, e3, e4⟩
theorem foot_gen {s : Slot} {v : V} {l : Addr} (h : SlotOk K mg H0 F H s v) (sH : ∀ l ob, foot H s v l → H l = some ob → H' l = some ob) (q : foot H' s v l) : foot H s v l := by
  cases s with
  | val d => exact q
  | own ds => exact q
  | dic ks ds => exact q
  | oob b c ns fs =>
    obtain ⟨a, C, dx, vs, e, ec, eh, el, el2, ef, e0, hf, hi⟩ := h
    rcases q with q | ⟨a2, C2, dx2, vs2, i, f, q1, q2, q3, q4, q5, q6⟩
    · exact Or.inl q
    · rw [e] at q1
      cases q1
      rw [sH a _ (Or.inl e) eh] at q2
      injection q2 with q2
      injection q2 with _ _ q2
      have := zip_snd el q3 q2
      subst this
      exact Or.inr ⟨a, C, dx, vs, i, f, e, eh, el, q4, q5, q6⟩
theorem SlotOk.gen {H0' : Hp} {s : Slot} {v : V} (h : SlotOk K mg H0 F H s v) (sF : Same F F') (nF : ∀ l, foot H s v l → F' l = none) (sH : ∀ l ob, foot H s v l → H l = some ob → H' l = some ob) (nH : ∀ l, foot H s v l → H0' l = none) : SlotOk K mg H0' F' H' s v := by
  cases s with
  | val d => exact Rp.mono sF d v h
  | own ds => exact FlOk.gen (f := .own ds) h sF (fun l _ e => nF l e) (fun l ob _ e => sH l ob e) (fun l _ e => nH l e)
  | dic ks ds => exact FlOk.gen (f := .dic ks ds) h sF (fun l _ e => nF l e) (fun l ob _ e => sH l ob e) (fun l _ e => nH l e)
  | oob b c ns fs =>
    obtain ⟨a, C, dx, vs, e, ec, eh, el, el2, ef, e0, hf, hi⟩ := h
    have inn : ∀ (i : Nat) (f : Fl) (l : Addr), fs[i]? = some f → f.isOwn = true → vs[i]? = some (.ref l) → foot H (.oob b c ns fs) v l := fun i f l q1 q2 q3 => Or.inr ⟨a, C, dx, vs, i, f, e, eh, el, q1, q2, q3⟩
    refine ⟨a, C, dx, vs, e, ec, sH a _ (Or.inl e) eh, el, el2, nF a (Or.inl e), nH a (Or.inl e), fun i f u q1 q2 => ?_, hi⟩
    exact FlOk.gen (hf i f u q1 q2) sF (fun l o z => nF l (inn i f l q1 o (by rw [q2, z]))) (fun l ob o z => sH l ob (inn i f l q1 o (by rw [q2, z]))) (fun l o z => nH l (inn i f l q1 o (by rw [q2, z])))
theorem SlotOk.ext {s : Slot} {v : V} (h : SlotOk K mg H0 F H s v) (x : Ext F H F' H') : SlotOk K mg H0 F' H' s v :=
  h.gen x.ff (fun l q => by
    obtain ⟨ob, e1, e2, e3⟩ := foot_at h q
    cases z : F' l with
    | none => rfl
    | some o =>
      rcases x.new l o z with y | y
      · rw [e2] at y; cases y
      · rw [e1] at y; cases y) (fun l ob _ e => x.hh l ob e) (fun l q => (foot_at h q).choose_spec.2.2)
theorem foot_ext {s : Slot} {v : V} {l : Addr} (h : SlotOk K mg H0 F H s v) (x : Ext F H F' H') (q : foot H' s v l) : foot H s v l := foot_gen h (fun l ob _ e => x.hh l ob e) q
/-- what two slots hold alone are two things, in another heap too -/
theorem Rel.injG {H' : Hp} (r : Rel K mg F0 H0 F H σ Γ) (sH : ∀ (i : Nat) (s : Slot) (v : V) (l : Addr) (ob : HO), Γ[i]? = some (some s) → σ[i]? = some (some v) → foot H s v l → H l = some ob → H' l = some ob) :
    ∀ (i j : Nat) (s t : Slot) (v u : V) (l : Addr), Γ[i]? = some (some s) → Γ[j]? = some (some t) → σ[i]? = some (some v) → σ[j]? = some (some u) → foot H' s v l → foot H' t u l → i = j := by
  intro i j s t v u l ei ej hi hj fi fj
  obtain ⟨v', h1, h2⟩ := r.slot i s ei
  rw [hi] at h1
  cases h1
  obtain ⟨u', h3, h4⟩ := r.slot j t ej
  rw [hj] at h3
  cases h3
  exact r.inj i j s t v u l ei ej hi hj (foot_gen h2 (fun l ob q e => sH i s v l ob ei hi q e) fi) (foot_gen h4 (fun l ob q e => sH j t u l ob ej hj q e) fj)
theorem Rel.step (r : Rel K mg F0 H0 F H σ Γ) (x : Ext F H F' H') : Rel K mg F0 H0 F' H' σ Γ :=
  ⟨r.ext.trans x, r.len, fun i s e => by
    obtain ⟨v, h1, h2⟩ := r.slot i s e
    exact ⟨v, h1, h2.ext x⟩, r.injG fun _ _ _ l ob _ _ _ e => x.hh l ob e, r.slf⟩
theorem Rel.fz (r : Rel K mg F0 H0 F H σ Γ) : Fz F H := r.ext.fh
/-- a value stored in a slot -/
theorem Rel.setV (r : Rel K mg F0 H0 F H σ Γ) {i : Nat} {d : D} {v : V} (h : Rp K mg F d v) : Rel K mg F0 H0 F H (σ.set i (some v)) (Γ.set i (some (.val d))) := by
  refine ⟨r.ext, by rw [List.length_set, List.length_set]; exact r.len, fun j s e => ?_, fun j k s t u w l ej ek hj hk os ot => ?_, r.slf.set i fun _ _ _ z => nomatch z⟩
  · by_cases q : i = j
    · subst q
      have hi : i < Γ.length := by
        have := (List.getElem?_eq_some_iff.mp e).1
        rwa [List.length_set] at this
      rw [List.getElem?_set_self hi] at e
      cases e
      exact ⟨v, List.getElem?_set_self (by rw [r.len]; exact hi), h⟩
    · rw [List.getElem?_set_ne q] at e ⊢
      exact r.slot j s e
  · have nj : i ≠ j := fun q => by
      subst q
      have hi : i < Γ.length := by
        have := (List.getElem?_eq_some_iff.mp ej).1
        rwa [List.length_set] at this
      rw [List.getElem?_set_self hi] at ej
      cases ej
      cases os
    have nk : i ≠ k := fun q => by
      subst q
      have hi : i < Γ.length := by
        have := (List.getElem?_eq_some_iff.mp ek).1
        rwa [List.length_set] at this
      rw [List.getElem?_set_self hi] at ek
      cases ek
      cases ot
    rw [List.getElem?_set_ne nj] at ej hj
    rw [List.getElem?_set_ne nk] at ek hk
    exact r.inj j k s t u w l ej ek hj hk os ot
theorem Slot.own_at {s : Slot} {v : V} (o : s.isOwn = true) (h : SlotOk K mg H0 F H s v) : ∃ l ob, v = .ref l ∧ H l = some ob ∧ F l = none ∧ H0 l = none := by
  cases s with
  | val d => cases o
  | own ds =>
    obtain ⟨l, vs, e, eh, ef, e0, _⟩ := h
    exact ⟨l, _, e, eh, ef, e0⟩
  | dic ks ds =>
    obtain ⟨l, vs, e, eh, _, ef, e0, _⟩ := h
    exact ⟨l, _, e, eh, ef, e0⟩
  | oob b c ns fs =>
    obtain ⟨l, C, dx, vs, e, _, eh, _, _, ef, e0, _⟩ := h
    exact ⟨l, _, e, eh, ef, e0⟩
/-- a fresh owned thing stored in a slot: r of the heap ahead, x the step -/
theorem Rel.setO (r : Rel K mg F0 H0 F H σ Γ) (x : Ext F H F' H') {i : Nat} {s : Slot} {v : V} (o : s.isOwn = true) (h : SlotOk K mg H F' H' s v) (nb : ∀ c ns fs, s ≠ .oob true c ns fs := by exact fun _ _ _ z => nomatch z) : Rel K mg F0 H0 F' H' (σ.set i (some v)) (Γ.set i (some s)) := by
  have r' := r.step x
  have h0 : ∀ {l : Addr}, H l = none → H0 l = none := fun e => r.ext.hh.free e
  have hs : SlotOk K mg H0 F' H' s v := h.gen (Same.refl _) (fun l q => (foot_at h q).choose_spec.2.1) (fun l ob _ e => e) (fun l q => h0 (foot_at h q).choose_spec.2.2)
  have fresh : ∀ (j : Nat) (t : Slot) (u : V) (l : Addr), Γ[j]? = some (some t) → σ[j]? = some (some u) → foot H' t u l → foot H' s v l → False := fun j t u l ej hj q1 q2 => by
    obtain ⟨w, hw, sw⟩ := r.slot j t ej
    rw [hj] at hw
    cases hw
    obtain ⟨ob, e1, _, _⟩ := foot_at sw (foot_ext sw x q1)
    obtain ⟨_, _, _, e2⟩ := foot_at h q2
    rw [e2] at e1
    cases e1
  refine ⟨r'.ext, by rw [List.length_set, List.length_set]; exact r.len, fun j t e => ?_, fun j k t t' u w l ej ek hj hk os ot => ?_, r.slf.set i fun c ns fs z => nb c ns fs (Option.some.inj z)⟩
  · by_cases q : i = j
    · subst q
      have hi : i < Γ.length := by
        have := (List.getElem?_eq_some_iff.mp e).1
        rwa [List.length_set] at this
      rw [List.getElem?_set_self hi] at e
      cases e
      exact ⟨v, List.getElem?_set_self (by rw [r.len]; exact hi), hs⟩
    · rw [List.getElem?_set_ne q] at e ⊢
      exact r'.slot j t e
  · have own : ∀ {m : Nat} {z : Slot} {y : V}, i = m → (Γ.set i (some s))[m]? = some (some z) → (σ.set i (some v))[m]? = some (some y) → z = s ∧ y = v := fun {m z y} e h1 h2 => by
      subst e
      have hi : i < σ.length := by
        have := (List.getElem?_eq_some_iff.mp h2).1
        rwa [List.length_set] at this
      rw [List.getElem?_set_self (by rw [← r.len]; exact hi)] at h1
      rw [List.getElem?_set_self hi] at h2
      cases h1
      cases h2
      exact ⟨rfl, rfl⟩
    by_cases qj : i = j
    · by_cases qk : i = k
      · rw [← qj, ← qk]
      · obtain ⟨rfl, rfl⟩ := own qj ej hj
        rw [List.getElem?_set_ne qk] at ek hk
        exact (fresh k t' w l ek hk ot os).elim
    · by_cases qk : i = k
      · obtain ⟨rfl, rfl⟩ := own qk ek hk
        rw [List.getElem?_set_ne qj] at ej hj
        exact (fresh j t u l ej hj os ot).elim
      · rw [List.getElem?_set_ne qj] at ej hj
        rw [List.getElem?_set_ne qk] at ek hk
        exact r'.inj j k t t' u w l ej ek hj hk os ot
/-- the thing at slot i changed: the heap at places that it alone holds -/
theorem Rel.mutG (r : Rel K mg F0 H0 F H σ Γ) {i : Nat} {s s' : Slot} {v : V} (ei : Γ[i]? = some (some s)) (hv : σ[i]? = some (some v)) {H1 : Hp}
    (hH : ∀ a ob, ¬ foot H s v a → H a = some ob → H1 a = some ob) (h : SlotOk K mg H0 F H1 s' v) (hf : ∀ l, foot H1 s' v l → foot H s v l ∨ H l = none) (hb : ∀ c ns fs, s' = .oob true c ns fs → ∃ c2 ns2 fs2, s = .oob true c2 ns2 fs2) : Rel K mg F0 H0 F H1 σ (Γ.set i (some s')) := by
  obtain ⟨v', hv', sv⟩ := r.slot i s ei
  rw [hv] at hv'
  cases hv'
  have hi : i < Γ.length := (List.getElem?_eq_some_iff.mp ei).1
  have off : ∀ (j : Nat) (t : Slot) (u : V) (l : Addr), i ≠ j → Γ[j]? = some (some t) → σ[j]? = some (some u) → foot H t u l → ¬ foot H s v l := fun j t u l q ej hj f1 f2 => q (r.inj i j s t v u l ei ej hv hj f2 f1)
  have back : ∀ (j : Nat) (t : Slot) (u : V) (l : Addr), i ≠ j → Γ[j]? = some (some t) → σ[j]? = some (some u) → foot H1 t u l → foot H t u l := fun j t u l q ej hj f1 => by
    obtain ⟨w, h1, h2⟩ := r.slot j t ej
    rw [hj] at h1
    cases h1
    exact foot_gen h2 (fun l2 ob q2 e => hH l2 ob (off j t _ l2 q ej hj q2) e) f1
  have apart : ∀ (j : Nat) (t : Slot) (u : V) (l : Addr), i ≠ j → Γ[j]? = some (some t) → σ[j]? = some (some u) → foot H1 t u l → foot H1 s' v l → False := fun j t u l q ej hj f1 f2 => by
    have b := back j t u l q ej hj f1
    rcases hf l f2 with z | z
    · exact off j t u l q ej hj b z
    · obtain ⟨w, h1, h2⟩ := r.slot j t ej
      rw [hj] at h1
      cases h1
      obtain ⟨ob, e1, _, _⟩ := foot_at h2 b
      rw [z] at e1
      cases e1
  refine ⟨⟨r.ext.ff, fun a u e => ?_, fun a u e => ?_, r.ext.new⟩, by rw [List.length_set]; exact r.len, fun j t e => ?_, fun j k t t' u w l ej ek hj hk os ot => ?_, r.slf.setE ei hb⟩
  · have nf : ¬ foot H s v a := fun q => by
      obtain ⟨_, _, z, _⟩ := foot_at sv q
      rw [e] at z
      cases z
    rcases r.ext.fh a u e with z | ⟨z1, ob, z2⟩
    · exact .inl (hH a u nf z)
    · exact .inr ⟨z1, ob, hH a _ nf z2⟩
  · exact hH a u (fun q => by
      obtain ⟨_, _, _, z⟩ := foot_at sv q
      rw [e] at z
      cases z) (r.ext.hh a u e)
  · by_cases q : i = j
    · subst q
      rw [List.getElem?_set_self hi] at e
      cases e
      exact ⟨v, hv, h⟩
    · rw [List.getElem?_set_ne q] at e
      obtain ⟨w, h1, h2⟩ := r.slot j t e
      exact ⟨w, h1, h2.gen (Same.refl _) (fun l z => (foot_at h2 z).choose_spec.2.1) (fun l ob z e2 => hH l ob (off j t w l q e h1 z) e2) (fun l z => (foot_at h2 z).choose_spec.2.2)⟩
  · by_cases qj : i = j
    · by_cases qk : i = k
      · rw [← qj, ← qk]
      · subst qj
        rw [List.getElem?_set_self hi] at ej
        cases ej
        rw [hv] at hj
        cases hj
        rw [List.getElem?_set_ne qk] at ek
        exact (apart k t' w l qk ek hk ot os).elim
    · by_cases qk : i = k
      · subst qk
        rw [List.getElem?_set_self hi] at ek
        cases ek
        rw [hv] at hk
        cases hk
        rw [List.getElem?_set_ne qj] at ej
        exact (apart j t u l qj ej hj os ot).elim
      · rw [List.getElem?_set_ne qj] at ej
        rw [List.getElem?_set_ne qk] at ek
        exact r.inj j k t t' u w l ej ek hj hk (back j t u l qj ej hj os) (back k t' w l qk ek hk ot)
/-- a list, a dict at slot i changed: the heap at its place -/
theorem Rel.mutO (r : Rel K mg F0 H0 F H σ Γ) {i : Nat} {s s' : Slot} {l : Addr} {ob : HO} (ei : Γ[i]? = some (some s)) (o : s.isOwn = true) (hv : σ[i]? = some (some (.ref l)))
    (o' : s'.isOwn = true) (h : SlotOk K mg H0 F (upd H l ob) s' (.ref l)) (so : (match s' with | .oob _ _ _ _ => false | _ => true) = true := by rfl) : Rel K mg F0 H0 F (upd H l ob) σ (Γ.set i (some s')) := by
  have fl : foot H s (.ref l) l := by
    cases s with
    | val d => cases o
    | own ds => rfl
    | dic ks ds => rfl
    | oob b c ns fs => exact Or.inl rfl
  refine r.mutG ei hv (fun a u nf e => ?_) h (fun l2 z => ?_) fun c ns fs z => by subst z; cases so
  · rw [upd_ne (fun q => nf (by rw [q]; exact fl))]
    exact e
  · left
    have e : (V.ref l : V) = .ref l2 := by
      cases s' with
      | val d => exact z.elim
      | own ds => exact z
      | dic ks ds => exact z
      | oob b c ns fs => cases so
    cases e
    exact fl
/-- a list's tree that this frame alone holds becomes one that nobody changes -/
theorem Rel.freeze (r : Rel K mg F0 H0 F H σ Γ) {i : Nat} {ds : List D} (ei : Γ[i]? = some (some (.own ds))) : ∃ F', Rel K mg F0 H0 F' H σ (Γ.set i (some (.val (.lst ds)))) ∧ Same F F' := by
  obtain ⟨v, hv, l, vs, e1, e2, e3, e4, e5⟩ := r.slot i _ ei
  subst e1
  have hi : i < Γ.length := (List.getElem?_eq_some_iff.mp ei).1
  have ss : Same F (upd F l (.lst vs)) := fun a u e => by rw [upd_ne (fun q => by rw [q, e3] at e; cases e)]; exact e
  refine ⟨upd F l (.lst vs), ⟨⟨r.ext.ff.trans ss, fun a u e => ?_, r.ext.hh, fun a u e => ?_⟩, by rw [List.length_set]; exact r.len, fun j t e => ?_, fun j k t t' u w m ej ek hj hk os ot => ?_, r.slf.setE ei fun _ _ _ z => nomatch z⟩, ss⟩
  · by_cases q : a = l
    · subst q
      rw [upd_same] at e
      cases e
      exact .inl e2
    · rw [upd_ne q] at e
      exact r.ext.fh a u e
  · by_cases q : a = l
    · subst q
      exact .inr e4
    · rw [upd_ne q] at e
      exact r.ext.new a u e
  · by_cases q : i = j
    · subst q
      rw [List.getElem?_set_self hi] at e
      cases e
      refine ⟨.ref l, hv, ?_⟩
      show Rp K mg _ (.lst ds) _
      unfold Rp
      exact ⟨l, vs, rfl, upd_same, RpL.mono ss _ _ e5⟩
    · rw [List.getElem?_set_ne q] at e
      obtain ⟨v, h1, h2⟩ := r.slot j t e
      refine ⟨v, h1, h2.gen ss (fun m z => ?_) (fun m ob _ e => e) (fun m z => (foot_at h2 z).choose_spec.2.2)⟩
      have nl : m ≠ l := fun y => q (r.inj i j _ t (.ref l) v m ei e hv h1 (by rw [y]; rfl) z)
      rw [upd_ne nl]
      exact (foot_at h2 z).choose_spec.2.1
  · have nj : i ≠ j := fun q => by
      subst q
      rw [List.getElem?_set_self hi] at ej
      cases ej
      cases os
    have nk : i ≠ k := fun q => by
      subst q
      rw [List.getElem?_set_self hi] at ek
      cases ek
      cases ot
    rw [List.getElem?_set_ne nj] at ej
    rw [List.getElem?_set_ne nk] at ek
    exact r.inj j k t t' u w m ej ek hj hk os ot
theorem Rel.freezeD (r : Rel K mg F0 H0 F H σ Γ) {i : Nat} {ks : List Key} {ds : List D} (ei : Γ[i]? = some (some (.dic ks ds))) : ∃ F', Rel K mg F0 H0 F' H σ (Γ.set i (some (.val (.dk ks ds)))) ∧ Same F F' := by
  obtain ⟨v, hv, l, vs, e1, e2, e6, e3, e4, e5⟩ := r.slot i _ ei
  subst e1
  have hi : i < Γ.length := (List.getElem?_eq_some_iff.mp ei).1
  have ss : Same F (upd F l (.dK (ks.zip vs))) := fun a u e => by rw [upd_ne (fun q => by rw [q, e3] at e; cases e)]; exact e
  refine ⟨upd F l (.dK (ks.zip vs)), ⟨⟨r.ext.ff.trans ss, fun a u e => ?_, r.ext.hh, fun a u e => ?_⟩, by rw [List.length_set]; exact r.len, fun j t e => ?_, fun j k t t' u w m ej ek hj hk os ot => ?_, r.slf.setE ei fun _ _ _ z => nomatch z⟩, ss⟩
  · by_cases q : a = l
    · subst q
      rw [upd_same] at e
      cases e
      exact .inl e2
    · rw [upd_ne q] at e
      exact r.ext.fh a u e
  · by_cases q : a = l
    · subst q
      exact .inr e4
    · rw [upd_ne q] at e
      exact r.ext.new a u e
  · by_cases q : i = j
    · subst q
      rw [List.getElem?_set_self hi] at e
      cases e
      refine ⟨.ref l, hv, ?_⟩
      show Rp K mg _ (.dk ks ds) _
      unfold Rp
      exact ⟨l, vs, rfl, upd_same, e6, RpL.mono ss _ _ e5⟩
    · rw [List.getElem?_set_ne q] at e
      obtain ⟨v, h1, h2⟩ := r.slot j t e
      refine ⟨v, h1, h2.gen ss (fun m z => ?_) (fun m ob _ e => e) (fun m z => (foot_at h2 z).choose_spec.2.2)⟩
      have nl : m ≠ l := fun y => q (r.inj i j _ t (.ref l) v m ei e hv h1 (by rw [y]; rfl) z)
      rw [upd_ne nl]
      exact (foot_at h2 z).choose_spec.2.1
  · have nj : i ≠ j := fun q => by
      subst q
      rw [List.getElem?_set_self hi] at ej
      cases ej
      cases os
    have nk : i ≠ k := fun q => by
      subst q
      rw [List.getElem?_set_self hi] at ek
      cases ek
      cases ot
    rw [List.getElem?_set_ne nj] at ej
    rw [List.getElem?_set_ne nk] at ek
    exact r.inj j k t t' u w m ej ek hj hk os ot

/-! ### what is wanted, step by step -/
variable {rep : Hp → Hp → Hp → α → β → Prop} {E : XK} {Q Q' : β → Hp → Prop}
theorem PostG.imp {r : R α} (h : PostG K mg rep F H E Q r) (hQ : ∀ b H', Q b H' → Q' b H') : PostG K mg rep F H E Q' r := by
  cases r with
  | ok a => exact fun b F' H' x p => hQ b H' (h b F' H' x p)
  | exc x => exact h
  | stuck => exact h
theorem PostG.bind {α' β' : Type} {rep' : Hp → Hp → Hp → α' → β' → Prop} {Q' : β' → Hp → Prop} {r : R α} {k : α → R α'} (h : PostG K mg rep' F H E Q' (r.bind k))
    (hk : ∀ a b F' H', r = .ok a → Ext F H F' H' → rep H F' H' a b → PostG K mg rep' F' H' E Q' (k a) → Q b H')
    (up : ∀ {F' H'} (x : Ext F H F' H') a' b' F2 H2, rep' H' F2 H2 a' b' → rep' H F2 H2 a' b') : PostG K mg rep F H E Q r := by
  cases r with
  | ok a =>
    intro b F' H' x p
    refine hk a b F' H' rfl x p ?_
    have h' : PostG K mg rep' F H E Q' (k a) := h
    revert h'
    cases k a with
    | ok a' => exact fun h' b' F2 H2 y q => h' b' F2 H2 (x.trans y) (up x a' b' F2 H2 q)
    | exc z => exact fun h' cls od F2 H2 y q => h' cls od F2 H2 (x.trans y) q
    | stuck => exact fun h' => h'
  | exc x => exact h
  | stuck => exact h
end
end DL
set_option Elab.async false
set_option linter.all false
set_option maxRecDepth 100000
set_option maxHeartbeats 4000000
/-! The data layer: expressions, tests, arguments. -/
namespace DL
open PySem PySem.Spec L2

def LIM : Nat := 16777216
theorem LIM_eq : sizeLine = LIM := sizeLine_eq

/-! ### judgements -/
def tD (X : Cx) (W : WX) (f : Env → R D) : TE := fun σ H Q => ∃ F0 H0 F Γ, Rel X.K X.mg F0 H0 F H σ Γ ∧ PostG X.K X.mg (repV X.K X.mg) F H (WE W σ) Q (f Γ)
def tDO (X : Cx) (W : WX) (f : Env → R (List D)) : TE := fun σ H Q => ∃ F0 H0 F Γ, Rel X.K X.mg F0 H0 F H σ Γ ∧ PostG X.K X.mg (repO X.K X.mg) F H (WE W σ) Q (f Γ)
def tDD (X : Cx) (W : WX) (f : Env → R (List Key × List D)) : TE := fun σ H Q => ∃ F0 H0 F Γ, Rel X.K X.mg F0 H0 F H σ Γ ∧ PostG X.K X.mg (repD X.K X.mg) F H (WE W σ) Q (f Γ)
def tDT (X : Cx) (W : WX) (f : Env → R Bool) : TT := fun σ H Q => ∃ F0 H0 F Γ, Rel X.K X.mg F0 H0 F H σ Γ ∧ PostG X.K X.mg repB F H (WE W σ) Q (f Γ)
def tDA (X : Cx) (W : WX) (f : Env → R (List D)) : TA := fun σ H Q => ∃ F0 H0 F Γ, Rel X.K X.mg F0 H0 F H σ Γ ∧ PostG X.K X.mg (repL X.K X.mg) F H (WE W σ) Q (f Γ)
/-- an expression's value is f's tree -/
abbrev DE (X : Cx) (W : WX) (e : Expr) (f : Env → R D) : Prop := PE X e (tD X W f)
/-- .. a new list of f's trees -/
abbrev DO (X : Cx) (W : WX) (e : Expr) (f : Env → R (List D)) : Prop := PE X e (tDO X W f)
abbrev DDt (X : Cx) (W : WX) (e : Expr) (f : Env → R (List Key × List D)) : Prop := PE X e (tDD X W f)
abbrev DT (X : Cx) (W : WX) (e : Expr) (f : Env → R Bool) : Prop := PT X e (tDT X W f)
abbrev DW (X : Cx) (W : WX) (e : Expr) (f : Env → R Bool) : Prop := PW X e (tDT X W f)
abbrev DA (X : Cx) (W : WX) (es : List Expr) (f : Env → R (List D)) : Prop := PA X es (tDA X W f)

section
variable {X : Cx} {e : Expr} {es : List Expr}
theorem PE.weak {t t' : TE} (h : PE X e t) (w : ∀ σ H Q, t' σ H Q → t σ H Q) : PE X e t' := ⟨fun pins s σ H Q I q => h.run pins s σ H Q I (w σ H Q q)⟩
theorem PT.weak {t t' : TT} (h : PT X e t) (w : ∀ σ H Q, t' σ H Q → t σ H Q) : PT X e t' := ⟨fun pins s σ H Q I q => h.run pins s σ H Q I (w σ H Q q)⟩
theorem PW.weak {t t' : TT} (h : PW X e t) (w : ∀ σ H Q, t' σ H Q → t σ H Q) : PW X e t' := ⟨fun wh pins s σ H Q I q => h.run wh pins s σ H Q I (w σ H Q q)⟩
theorem PA.weak {t t' : TA} (h : PA X es t) (w : ∀ σ H Q, t' σ H Q → t σ H Q) : PA X es t' := ⟨fun pos pins s σ H Q I q => h.run pos pins s σ H Q I (w σ H Q q)⟩
end

/-! ### what the operations do to trees -/
/-- data that == tells apart, to a depth -/
def D.sh : Nat → D → Bool
  | _, .non => true | _, .bl _ => true | _, .int _ => true | _, .str x => PyData.canLay0 (.str x)
  | n + 1, .lst xs => xs.all (D.sh n)
  | n + 1, .tup xs => xs.all (D.sh n)
  | _ + 1, .scr _ => true
  | _, _ => false
mutual
def D.pd : D → PyData
  | .bl b => .bool b
  | .int i => .int i
  | .str x => .str x
  | .lst xs => .list (D.pdL xs)
  | .tup xs => .tuple (D.pdL xs)
  | .scr ns => .list (ns.map PyData.int)
  | _ => .none
def D.pdL : List D → List PyData
  | [] => []
  | d :: ds => D.pd d :: D.pdL ds
end
theorem D.pdL_map (ds : List D) : D.pdL ds = ds.map D.pd := by
  induction ds with
  | nil => rfl
  | cons d ds ih => show D.pd d :: D.pdL ds = _; rw [ih]; rfl
def dEqB (x y : D) : Bool := PyData.eqv x.pd y.pd
def dEqV (x y : D) : R Bool := match x, y with
  | .int i, .int j => .ok (decide (i = j))
  | .str i, .str j => .ok (decide (i = j))
  | x, y => if x.sh 60 && y.sh 60 then .ok (dEqB x y) else .stuck
def dEq (x y : D) : R D := (dEqV x y).bind fun b => .ok (.bl b)
def dNe (x y : D) : R D := (dEqV x y).bind fun b => .ok (.bl (!b))
def smallI (i : Int) : Bool := decide (-18446744073709551616 < i) && decide (i < 18446744073709551616)
def dMul : D → D → R D
  | .int i, .int j => if smallI j || (smallI i || decide (i.natAbs.log2 + j.natAbs.log2 < 1000000)) then .ok (.int (i * j)) else .stuck
  | _, _ => .stuck
def dAdd : D → D → R D
  | .int i, .int j => .ok (.int (i + j))
  | .str x, .str y => if x.length + y.length ≤ LIM then .ok (.str (x ++ y)) else .stuck
  | .tup (x :: xs), .tup ys => if (x :: xs).length + ys.length ≤ LIM then .ok (.tup ((x :: xs) ++ ys)) else .stuck
  | .lst xs, .lst ys => if xs.length + ys.length ≤ LIM then .ok (.lst (xs ++ ys)) else .stuck
  | _, _ => .stuck
def oAdd : D → D → R (List D)
  | .lst xs, .lst ys => if xs.length + ys.length ≤ LIM then .ok (xs ++ ys) else .stuck
  | _, _ => .stuck
def oMul : D → D → R (List D)
  | .lst xs, .int k => if decide (k < 1000000000) && decide (-1000000000 < k) && decide (xs.length * k.toNat ≤ LIM) then .ok (List.replicate k.toNat xs).flatten else .stuck
  | _, _ => .stuck
def dSub : D → D → R D
  | .int i, .int j => .ok (.int (i - j))
  | _, _ => .stuck
def dDiv : D → D → R D
  | .int i, .int j => if decide (0 < j) && decide (j.natAbs.log2 < 9000) then .ok (.int (i / j)) else .stuck
  | _, _ => .stuck
def dMod : D → D → R D
  | .int i, .int j => if 0 < j then .ok (.int (i % j)) else .stuck
  | _, _ => .stuck
def dPow : D → D → R D
  | .int i, .int j => if decide (0 ≤ j) && decide (j ≤ 1000000) && smallI i then .ok (.int (i ^ j.toNat)) else .stuck
  | _, _ => .stuck
def dLt : D → D → R D
  | .int i, .int j => .ok (.bl (decide (i < j)))
  | _, _ => .stuck
def dLe : D → D → R D
  | .int i, .int j => .ok (.bl (decide (i ≤ j)))
  | _, _ => .stuck
def dGt : D → D → R D
  | .int i, .int j => .ok (.bl (decide (j < i)))
  | _, _ => .stuck
def dGe : D → D → R D
  | .int i, .int j => .ok (.bl (decide (j ≤ i)))
  | _, _ => .stuck
def D.isNon : D → Bool
  | .non => true
  | _ => false
def dIs : D → D → R D
  | x, .non => .ok (.bl x.isNon)
  | _, _ => .stuck
def dIsNot : D → D → R D
  | x, .non => .ok (.bl (!x.isNon))
  | _, _ => .stuck
def dIx : D → D → R D
  | .lst xs, .int i => match atI xs i with | some d => .ok d | none => .stuck
  | .tup xs, .int i => match atI xs i with | some d => .ok d | none => .stuck
  | .scr ns, .int i => match atI ns i with | some d => .ok (.int d) | none => .stuck
  | .str z, .int i => if z.length ≤ LIM then (match atI z.cps.toList i with | some c => .ok (.str ⟨#[c]⟩) | none => .stuck) else .stuck
  | _, _ => .stuck
def un1 (g : D → R D) : List D → R D
  | [x] => g x
  | _ => .stuck
def un2 (g : D → D → R D) : List D → R D
  | [x, y] => g x y
  | _ => .stuck
def dLen1 : D → R D
  | .lst xs => .ok (.int xs.length)
  | .tup xs => .ok (.int xs.length)
  | .scr xs => .ok (.int xs.length)
  | .str x => if x.length ≤ LIM then .ok (.int x.length) else .stuck
  | _ => .stuck
abbrev dLen := un1 dLen1
def dMinB : D → D → R D
  | .int i, .int j => .ok (.int (if j < i then j else i))
  | _, _ => .stuck
abbrev dMin2 := un2 dMinB
def dMaxB : D → D → R D
  | .int i, .int j => .ok (.int (if j > i then j else i))
  | _, _ => .stuck
abbrev dMax2 := un2 dMaxB
def dAbs1 : D → R D
  | .int i => .ok (.int (if i < 0 then -i else i))
  | _ => .stuck
abbrev dAbs := un1 dAbs1
def dStr1 : D → R D
  | .int i => if i.natAbs.log2 < 1920 then .ok (.str (toString i)) else .stuck
  | _ => .stuck
abbrev dStr := un1 dStr1
def dNeg : D → R D
  | .int i => .ok (.int (-i))
  | _ => .stuck
/-- the class of a tree, a built-in's name -/
def D.tyOf : D → Option String
  | .non => some "NoneType" | .bl _ => some "bool" | .int _ => some "int" | .str _ => some "str"
  | .lst _ => some "list" | .scr _ => some "list" | .tup _ => some "tuple" | .dk _ _ => some "dict"
  | _ => none
def dIsiB : D → D → R D
  | x, .ty n => match x.tyOf with
    | some t => (match kitB t n with | some b => .ok (.bl b) | none => .stuck)
    | none => .stuck
  | _, _ => .stuck
abbrev dIsi := un2 dIsiB
def asB : D → R Bool
  | .bl b => .ok b
  | _ => .stuck
/-- a truth value by any tree -/
def dTru : D → R Bool
  | .bl b => .ok b
  | .non => .ok false
  | .int i => .ok (i != 0)
  | .str x => if x.length ≤ LIM then .ok ((x.length : Int) != 0) else .stuck
  | .lst xs => .ok (!xs.isEmpty)
  | .tup xs => .ok (!xs.isEmpty)
  | .scr xs => .ok (!xs.isEmpty)
  | _ => .stuck

/-! ### functions of expressions -/
def Env.at_ (Γ : Env) (i : Nat) : Option Slot := match Γ[i]? with
  | some s => s
  | none => none
def eV (i : Nat) : Env → R D := fun Γ => match Env.at_ Γ i with
  | some (.val d) => .ok d
  | _ => .stuck
def eC (d : D) : Env → R D := fun _ => .ok d
def eOp (g : D → D → R D) (fa fb : Env → R D) : Env → R D := fun Γ => (fa Γ).bind fun x => (fb Γ).bind fun y => g x y
def eUn (g : D → R D) (fa : Env → R D) : Env → R D := fun Γ => (fa Γ).bind g
def eChain (g g' : D → D → R D) (fa fb fc : Env → R D) : Env → R D := fun Γ => (fa Γ).bind fun x => (fb Γ).bind fun y => (g x y).bind fun z => (asB z).bind fun k =>
  match k with
  | true => (fc Γ).bind fun w => g' y w
  | false => .ok (.bl false)
def eAnd (fa fb : Env → R D) : Env → R D := fun Γ => (fa Γ).bind fun x => (asB x).bind fun k => match k with
  | true => fb Γ
  | false => .ok (.bl false)
def eOr (fa fb : Env → R D) : Env → R D := fun Γ => (fa Γ).bind fun x => (asB x).bind fun k => match k with
  | true => .ok (.bl true)
  | false => fb Γ
def eNot (fa : Env → R D) : Env → R D := fun Γ => (fa Γ).bind fun x => (asB x).bind fun k => .ok (.bl (!k))
def eIf (ft : Env → R Bool) (fa fb : Env → R D) : Env → R D := fun Γ => (ft Γ).bind fun k => match k with
  | true => fa Γ
  | false => fb Γ
def eB (fa : Env → R D) : Env → R Bool := fun Γ => (fa Γ).bind asB
def eTru (fa : Env → R D) : Env → R Bool := fun Γ => (fa Γ).bind dTru
def bNot (f : Env → R Bool) : Env → R Bool := fun Γ => (f Γ).bind fun k => .ok (!k)
def bAnd (f g : Env → R Bool) : Env → R Bool := fun Γ => (f Γ).bind fun k => match k with
  | true => g Γ
  | false => .ok false
def bOr (f g : Env → R Bool) : Env → R Bool := fun Γ => (f Γ).bind fun k => match k with
  | true => .ok true
  | false => g Γ
def aNil : Env → R (List D) := fun _ => .ok []
def aCons (f : Env → R D) (g : Env → R (List D)) : Env → R (List D) := fun Γ => (f Γ).bind fun d => (g Γ).bind fun ds => .ok (d :: ds)
def eCall (g : List D → R D) (f : Env → R (List D)) : Env → R D := fun Γ => (f Γ).bind g
def eTup (f : Env → R (List D)) : Env → R D := fun Γ => (f Γ).bind fun ds => if ds.length ≤ LIM then .ok (.tup ds) else .stuck
def oLst (f : Env → R (List D)) : Env → R (List D) := fun Γ => (f Γ).bind fun ds => if ds.length ≤ LIM then .ok ds else .stuck
def eFrz (f : Env → R (List D)) : Env → R D := fun Γ => (f Γ).bind fun ds => .ok (.lst ds)
def eFrzD (f : Env → R (List Key × List D)) : Env → R D := fun Γ => (f Γ).bind fun ds => .ok (.dk ds.1 ds.2)
def oOp (g : D → D → R (List D)) (fa fb : Env → R D) : Env → R (List D) := fun Γ => (fa Γ).bind fun x => (fb Γ).bind fun y => g x y
def oCall (g : List D → R (List D)) (f : Env → R (List D)) : Env → R (List D) := fun Γ => (f Γ).bind g
/-- the own list at slot i read as a value within e, where what comes holds nothing of it -/
def D.scal : D → Bool
  | .non => true | .bl _ => true | .int _ => true | .str _ => true
  | _ => false
def Fl.frz : Fl → D
  | .val d => d
  | .own ds => .lst ds
  | .dic ks ds => .dk ks ds
def Slot.frz : Slot → Slot
  | .own ds => .val (.lst ds)
  | .dic ks ds => .val (.dk ks ds)
  | .oob _ c ns fs => .val (.obj c ns (fs.map Fl.frz))
  | .val d => .val d
def Env.frz (Γ : Env) (i : Nat) : Env := match Env.at_ Γ i with
  | some s => Γ.set i (some s.frz)
  | none => Γ
def eBor (i : Nat) (f : Env → R D) : Env → R D := fun Γ => match f (Env.frz Γ i) with
  | .ok d => if d.scal then .ok d else .stuck
  | _ => .stuck
def bBor (i : Nat) (f : Env → R Bool) : Env → R Bool := fun Γ => match f (Env.frz Γ i) with
  | .ok d => .ok d
  | _ => .stuck
/-- xs[..] of the own list at slot i -/
def eOwnIx (i : Nat) (f : Env → R D) : Env → R D := fun Γ => match Env.at_ Γ i with
  | some (.own ds) => (f Γ).bind fun k => dIx (.lst ds) k
  | some (.val d) => (f Γ).bind fun k => dIx d k
  | _ => .stuck

section
variable {K : PySem.W.Frag} {mg : Str → Option Value} {F0 : Fe} {H0 F H F' H' : Hp} {σ : L2.St} {Γ : Env} {α β : Type} {E : XK} {Q : β → Hp → Prop}
theorem PostG.ok {rep : Hp → Hp → Hp → α → β → Prop} {a : α} {b : β} (h : PostG K mg rep F H E Q (.ok a)) (z : Fz F H) (r : rep H F H a b) : Q b H := h b F H (Ext.refl z) r
theorem PostG.at {rep : Hp → Hp → Hp → α → β → Prop} {a : α} {b : β} (h : PostG K mg rep F H E Q (.ok a)) (x : Ext F H F' H') (r : rep H F' H' a b) : Q b H' := h b F' H' x r
theorem at_get {s : Slot} {i : Nat} (h : Env.at_ Γ i = some s) : Γ[i]? = some (some s) := by
  unfold Env.at_ at h
  split at h
  · rename_i t e
    rw [e, h]
  · cases h
theorem Rel.val (r : Rel K mg F0 H0 F H σ Γ) {i : Nat} {d : D} (h : Env.at_ Γ i = some (.val d)) : ∃ v, σ[i]? = some (some v) ∧ Rp K mg F d v := r.slot i _ (at_get h)
end

section
variable {X : Cx} {W : WX} {a b c : Expr} {es : List Expr} {fa fb fc : Env → R D} {ft fu : Env → R Bool} {fs : Env → R (List D)} {pos p : Pos}

theorem de_var (i : Nat) {x : Str} (hN : X.N[i]? = some x := by rfl) (hv : Vis X.env.scope x := by first | exact Or.inl (by kernel_rfl) | exact Or.inr (Or.inl (by kernel_rfl)) | exact Or.inr (Or.inr (by kernel_rfl))) (hd : (x == ("__debug__" : Str)) = false := by kernel_rfl)
    (hcd : (x == ("__classdict__" : Str)) = false := by kernel_rfl) : DE X W (.Name x pos) (eV i) := by
  refine PE.weak (pe_var hN hv hd hcd) ?_
  rintro σ H Q ⟨F0, H0, F, Γ, r, p⟩
  revert p
  unfold eV
  cases e : Env.at_ Γ i with
  | none => exact fun p => p.elim
  | some s =>
    cases s with
    | oob b c ns fs => exact fun p => p.elim
    | val d =>
      intro p
      obtain ⟨v, h1, h2⟩ := r.val e
      exact ⟨v, h1, PostG.ok p r.fz h2⟩
    | own ds => exact fun p => p.elim
    | dic ks ds => exact fun p => p.elim
theorem de_int {i j} : DE X W (.Constant (.int i) j pos) (eC (.int i)) := by
  refine PE.weak pe_int ?_
  rintro σ H Q ⟨F0, H0, F, Γ, r, p⟩
  exact PostG.ok p r.fz (by show Rp _ _ _ _ _; unfold Rp; rfl)
theorem de_bl {i j} : DE X W (.Constant (.bool i) j pos) (eC (.bl i)) := by
  refine PE.weak pe_bl ?_
  rintro σ H Q ⟨F0, H0, F, Γ, r, p⟩
  exact PostG.ok p r.fz (by show Rp _ _ _ _ _; unfold Rp; rfl)
theorem de_non {j} : DE X W (.Constant .none j pos) (eC .non) := by
  refine PE.weak pe_non ?_
  rintro σ H Q ⟨F0, H0, F, Γ, r, p⟩
  exact PostG.ok p r.fz (by show Rp _ _ _ _ _; unfold Rp; rfl)
theorem de_str {i j} : DE X W (.Constant (.str i) j pos) (eC (.str i)) := by
  refine PE.weak pe_str ?_
  rintro σ H Q ⟨F0, H0, F, Γ, r, p⟩
  exact PostG.ok p r.fz (by show Rp _ _ _ _ _; unfold Rp; rfl)
/-- a built-in class as a value -/
theorem de_ty {x : Str} {n : String} (hg : Gl X x) (hm : X.mg x = none) (hv : bootBuiltins x = some (.type n)) (hn : x ≠ "__name__" := by decide +kernel) (hd : (x == ("__debug__" : Str)) = false := by kernel_rfl) : DE X W (.Name x pos) (eC (.ty n)) := by
  refine PE.weak (pe_bltn (v := .ty n) hg hm hv rfl hn hd) ?_
  rintro σ H Q ⟨F0, H0, F, Γ, r, p⟩
  exact PostG.ok p r.fz (by show Rp _ _ _ _ _; unfold Rp; rfl)
/-- an own class as a value -/
theorem de_cls {x : Str} {C : Addr} (hg : Gl X x) (hm : X.mg x = some (.ref C)) (hd : (x == ("__debug__" : Str)) = false := by kernel_rfl) : DE X W (.Name x pos) (eC (.cls x)) := by
  refine PE.weak (pe_glob (v := .ref C) hg hm rfl hd) ?_
  rintro σ H Q ⟨F0, H0, F, Γ, r, p⟩
  exact PostG.ok p r.fz (by show Rp _ _ _ _ _; unfold Rp; exact ⟨C, rfl, hm⟩)
/-- a module's constant, a number or a text -/
theorem de_gint {x : Str} {i : Int} {u : Tok} (hg : Gl X x) (hm : X.mg x = some (.int i u)) (hd : (x == ("__debug__" : Str)) = false := by kernel_rfl) : DE X W (.Name x pos) (eC (.int i)) := by
  refine PE.weak (pe_glob (v := .int i) hg hm ⟨u, rfl⟩ hd) ?_
  rintro σ H Q ⟨F0, H0, F, Γ, r, p⟩
  exact PostG.ok p r.fz (by show Rp _ _ _ _ _; unfold Rp; rfl)
theorem de_gstr {x : Str} {i : Str} {u : Tok} (hg : Gl X x) (hm : X.mg x = some (.str i u)) (hd : (x == ("__debug__" : Str)) = false := by kernel_rfl) : DE X W (.Name x pos) (eC (.str i)) := by
  refine PE.weak (pe_glob (v := .str i) hg hm ⟨u, rfl⟩ hd) ?_
  rintro σ H Q ⟨F0, H0, F, Γ, r, p⟩
  exact PostG.ok p r.fz (by show Rp _ _ _ _ _; unfold Rp; rfl)

/-- what a reading of two values must do -/
def Sat2 (X : Cx) (r : R2) (g : D → D → R D) : Prop := ∀ (F H : Hp) (x y : D) (v u : V) (E : XK) (Q : VK), Fz F H → Rp X.K X.mg F x v → Rp X.K X.mg F y u → PostG X.K X.mg (repV X.K X.mg) F H E Q (g x y) → r v u H Q
def Sat2O (X : Cx) (r : R2) (g : D → D → R (List D)) : Prop := ∀ (F H : Hp) (x y : D) (v u : V) (E : XK) (Q : VK), Fz F H → Rp X.K X.mg F x v → Rp X.K X.mg F y u → PostG X.K X.mg (repO X.K X.mg) F H E Q (g x y) → r v u H Q
def Sat1 (X : Cx) (r : V → Hp → VK → Prop) (g : D → R D) : Prop := ∀ (F H : Hp) (x : D) (v : V) (E : XK) (Q : VK), Fz F H → Rp X.K X.mg F x v → PostG X.K X.mg (repV X.K X.mg) F H E Q (g x) → r v H Q
def SatL (X : Cx) (r : List V → Hp → VK → Prop) (g : List D → R D) : Prop := ∀ (F H : Hp) (ds : List D) (vs : List V) (E : XK) (Q : VK), Fz F H → RpL X.K X.mg F ds vs → PostG X.K X.mg (repV X.K X.mg) F H E Q (g ds) → r vs H Q
def SatLO (X : Cx) (r : List V → Hp → VK → Prop) (g : List D → R (List D)) : Prop := ∀ (F H : Hp) (ds : List D) (vs : List V) (E : XK) (Q : VK), Fz F H → RpL X.K X.mg F ds vs → PostG X.K X.mg (repO X.K X.mg) F H E Q (g ds) → r vs H Q

theorem upV {K : PySem.W.Frag} {mg : Str → Option Value} {H F' H' : Hp} {x : Ext F H F' H'} : ∀ (a' : D) (b' : V) (F2 H2 : Hp), repV K mg H' F2 H2 a' b' → repV K mg H F2 H2 a' b' := fun _ _ _ _ h => h
theorem bind2 {F H : Hp} {σ : L2.St} {Γ : Env} {F0 : Fe} {H0 : Hp} {α β : Type} {rep : Hp → Hp → Hp → α → β → Prop} {Q : β → Hp → Prop} {g : D → D → R α} {Q2 : V → V → Hp → Prop}
    (up : ∀ {F H F' H'} (x : Ext F H F' H') a' b' F2 H2, rep H' F2 H2 a' b' → rep H F2 H2 a' b') (r : Rel X.K X.mg F0 H0 F H σ Γ) (p : PostG X.K X.mg rep F H (WE W σ) Q ((fa Γ).bind fun x => (fb Γ).bind fun y => g x y))
    (k : ∀ x y v u F2 H2, Ext F H F2 H2 → Rp X.K X.mg F2 x v → Rp X.K X.mg F2 y u → PostG X.K X.mg rep F2 H2 (WE W σ) Q (g x y) → Q2 v u H2) :
    tD X W fa σ H (fun v H1 => tD X W fb σ H1 fun u H2 => Q2 v u H2) := by
  refine ⟨F0, H0, F, Γ, r, PostG.bind p (fun x v F1 H1 _ x1 r1 p1 => ?_) fun x => up x⟩
  refine ⟨F0, H0, F1, Γ, r.step x1, PostG.bind p1 (fun y u F2 H2 _ x2 r2 p2 => ?_) fun x => up x⟩
  exact k x y v u F2 H2 (x1.trans x2) (Rp.mono x2.ff _ _ r1) r2 p2
theorem de_op {op : Operator} {r : R2} {g : D → D → R D} (ho : OpR X (binaryOp op) r) (hs : Sat2 X r g) (ha : DE X W a fa) (hb : DE X W b fb) : DE X W (.BinOp a op b pos) (eOp g fa fb) := by
  refine PE.weak (pe_op ho ha hb) ?_
  rintro σ H Q ⟨F0, H0, F, Γ, rl, p⟩
  exact bind2 (fun _ _ _ _ _ h => h) rl p fun x y v u F2 H2 x2 r1 r2 p2 => hs F2 H2 x y v u _ _ x2.fh r1 r2 p2
theorem upO {K : PySem.W.Frag} {mg : Str → Option Value} {F H F' H' : Hp} (x : Ext F H F' H') (a' : List D) (b' : V) (F2 H2 : Hp) (h : repO K mg H' F2 H2 a' b') : repO K mg H F2 H2 a' b' := by
  obtain ⟨l, vs, e, eh, ef, e0, r⟩ := h
  exact ⟨l, vs, e, eh, ef, x.hh.free e0, r⟩
theorem upD {K : PySem.W.Frag} {mg : Str → Option Value} {F H F' H' : Hp} (x : Ext F H F' H') (a' : List Key × List D) (b' : V) (F2 H2 : Hp) (h : repD K mg H' F2 H2 a' b') : repD K mg H F2 H2 a' b' := by
  obtain ⟨l, vs, e, eh, el, ef, e0, r⟩ := h
  exact ⟨l, vs, e, eh, el, ef, x.hh.free e0, r⟩
theorem do_op {op : Operator} {r : R2} {g : D → D → R (List D)} (ho : OpR X (binaryOp op) r) (hs : Sat2O X r g) (ha : DE X W a fa) (hb : DE X W b fb) : DO X W (.BinOp a op b pos) (oOp g fa fb) := by
  refine PE.weak (pe_op ho ha hb) ?_
  rintro σ H Q ⟨F0, H0, F, Γ, rl, p⟩
  exact bind2 upO rl p fun x y v u F2 H2 x2 r1 r2 p2 => hs F2 H2 x y v u _ _ x2.fh r1 r2 p2
theorem de_un {op : UnaryOp} {r : V → Hp → VK → Prop} {g : D → R D} (ho : UnR X (unaryOp op) r) (hs : Sat1 X r g) (ha : DE X W a fa) : DE X W (.UnaryOp op a pos) (eUn g fa) := by
  refine PE.weak (pe_un ho ha) ?_
  rintro σ H Q ⟨F0, H0, F, Γ, rl, p⟩
  exact ⟨F0, H0, F, Γ, rl, PostG.bind p (fun x v F1 H1 _ x1 r1 p1 => hs F1 H1 x v _ _ x1.fh r1 p1) fun _ _ _ _ _ h => h⟩
theorem de_cmp {op : CmpOp} {r : R2} {g : D → D → R D} (ho : OpR X (compareOp op) r) (hs : Sat2 X r g) (ha : DE X W a fa) (hb : DE X W b fb) (hm : behindInMarks op b = false) : DE X W (.Compare a [op] [b] pos) (eOp g fa fb) := by
  refine PE.weak (pe_cmpR ho ha hb hm) ?_
  rintro σ H Q ⟨F0, H0, F, Γ, rl, p⟩
  exact bind2 (fun _ _ _ _ _ h => h) rl p fun x y v u F2 H2 x2 r1 r2 p2 => hs F2 H2 x y v u _ _ x2.fh r1 r2 p2
/-- a truth value as a test's -/
theorem postB {K : PySem.W.Frag} {mg : Str → Option Value} {F H : Hp} {E : XK} {Q : Bool → Hp → Prop} {r : R D} (h : PostG K mg repB F H E Q (r.bind asB)) : PostG K mg (repV K mg) F H E (fun x H' => ∃ k, x = .bl k ∧ Q k H') r := by
  refine PostG.bind h (fun d v F1 H1 _ x1 r1 p1 => ?_) fun _ _ _ _ _ h => h
  cases d with
  | bl k =>
    refine ⟨k, ?_, PostG.ok p1 x1.fh rfl⟩
    have z : Rp K mg F1 (.bl k) v := r1
    unfold Rp at z
    exact z
  | _ => exact p1.elim
theorem dt_cmp {op : CmpOp} {r : R2} {g : D → D → R D} (ho : OpR X (compareOp op) r) (hs : Sat2 X r g) (ha : DE X W a fa) (hb : DE X W b fb) (hm : behindInMarks op b = false) : DT X W (.Compare a [op] [b] pos) (eB (eOp g fa fb)) := by
  refine PT.weak (pt_cmpR ho ha hb hm) ?_
  rintro σ H Q ⟨F0, H0, F, Γ, rl, p⟩
  have p' := postB p
  exact bind2 (fun _ _ _ _ _ h => h) rl p' fun x y v u F2 H2 x2 r1 r2 p2 => hs F2 H2 x y v u _ _ x2.fh r1 r2 p2
theorem de_chain {op op' : CmpOp} {r r' : R2} {g g' : D → D → R D} (ho : OpR X (compareOp op) r) (hs : Sat2 X r g) (ho' : OpR X (compareOp op') r') (hs' : Sat2 X r' g') (ha : DE X W a fa) (hb : DE X W b fb) (hc : DE X W c fc)
    (hm : lastMarks [op, op'] [b, c] = false := by with_unfolding_all rfl) : DE X W (.Compare a [op, op'] [b, c] pos) (eChain g g' fa fb fc) := by
  refine PE.weak (pe_chain ho ho' ha hb hc hm) ?_
  rintro σ H Q ⟨F0, H0, F, Γ, rl, p⟩
  refine bind2 (fun _ _ _ _ _ h => h) rl p fun x y v u F2 H2 x2 r1 r2 p2 => hs F2 H2 x y v u (WE W σ) _ x2.fh r1 r2 (PostG.bind p2 (fun d z F3 H3 _ x3 r3 p3 => ?_) fun _ _ _ _ _ h => h)
  cases d with
  | bl k =>
    have ez : Rp X.K X.mg F3 (.bl k) z := r3
    unfold Rp at ez
    refine ⟨k, ez, ?_⟩
    cases k with
    | false => exact iteF (PostG.ok p3 x3.fh (by show Rp _ _ _ _ _; unfold Rp; rfl))
    | true =>
      refine iteT ⟨F0, H0, F3, Γ, (rl.step x2).step x3, PostG.bind p3 (fun w' t F4 H4 _ x4 r4 p4 => ?_) fun _ _ _ _ _ h => h⟩
      exact hs' F4 H4 y w' u t _ _ x4.fh (Rp.mono (x3.ff.trans x4.ff) _ _ r2) r4 p4
  | _ => exact p3.elim
theorem dt_chain {op op' : CmpOp} {r r' : R2} {g g' : D → D → R D} (ho : OpR X (compareOp op) r) (hs : Sat2 X r g) (ho' : OpR X (compareOp op') r') (hs' : Sat2 X r' g') (ha : DE X W a fa) (hb : DE X W b fb) (hc : DE X W c fc)
    (hm : lastMarks [op, op'] [b, c] = false := by with_unfolding_all rfl) : DT X W (.Compare a [op, op'] [b, c] pos) (eB (eChain g g' fa fb fc)) := by
  refine PT.weak (pt_chain ho ho' ha hb hc hm) ?_
  rintro σ H Q ⟨F0, H0, F, Γ, rl, p⟩
  have p' := postB p
  refine bind2 (fun _ _ _ _ _ h => h) rl p' fun x y v u F2 H2 x2 r1 r2 p2 => hs F2 H2 x y v u (WE W σ) _ x2.fh r1 r2 (PostG.bind p2 (fun d z F3 H3 _ x3 r3 p3 => ?_) fun _ _ _ _ _ h => h)
  cases d with
  | bl k =>
    have ez : Rp X.K X.mg F3 (.bl k) z := r3
    unfold Rp at ez
    refine ⟨k, ez, ?_⟩
    cases k with
    | false => exact iteF (PostG.ok p3 x3.fh (by show Rp _ _ _ _ _; unfold Rp; rfl))
    | true =>
      refine iteT ⟨F0, H0, F3, Γ, (rl.step x2).step x3, PostG.bind p3 (fun w' t F4 H4 _ x4 r4 p4 => ?_) fun _ _ _ _ _ h => h⟩
      exact hs' F4 H4 y w' u t _ _ x4.fh (Rp.mono (x3.ff.trans x4.ff) _ _ r2) r4 p4
  | _ => exact p3.elim
/-- an expression that gives a truth, as a test -/
theorem dt_val (h : DE X W a fa) (he : ∀ whole, isTrue a X.env whole = (do let v ← whole; standAt a.pos; holding [v] (truthy v)) := by intro _; rfl) : DT X W a (eB fa) := by
  refine PT.weak (pt_val h he) ?_
  rintro σ H Q ⟨F0, H0, F, Γ, rl, p⟩
  exact ⟨F0, H0, F, Γ, rl, postB p⟩
theorem postTru {K : PySem.W.Frag} {mg : Str → Option Value} {F H : Hp} {E : XK} {Q : Bool → Hp → Prop} {r : R D} (h : PostG K mg repB F H E Q (r.bind dTru)) : PostG K mg (repV K mg) F H E (fun x H' => ∃ k, TruV K x H' k ∧ Q k H') r := by
  refine PostG.bind h (fun d v F1 H1 _ x1 r1 p1 => ?_) fun _ _ _ _ _ h => h
  have z : Rp K mg F1 d v := r1
  cases d with
  | bl k => unfold Rp at z; subst z; exact ⟨k, rfl, PostG.ok p1 x1.fh rfl⟩
  | non => unfold Rp at z; subst z; exact ⟨false, rfl, PostG.ok p1 x1.fh rfl⟩
  | int i => unfold Rp at z; subst z; exact ⟨_, rfl, PostG.ok p1 x1.fh rfl⟩
  | str x =>
    unfold Rp at z; subst z
    by_cases hl : x.length ≤ LIM
    · have p1' : PostG K mg repB F1 H1 E Q (if x.length ≤ LIM then R.ok ((x.length : Int) != 0) else R.stuck) := p1
      rw [if_pos hl] at p1'
      exact ⟨_, ⟨by rw [LIM_eq]; exact hl, rfl⟩, PostG.ok p1' x1.fh rfl⟩
    · have p1' : PostG K mg repB F1 H1 E Q (if x.length ≤ LIM then R.ok ((x.length : Int) != 0) else R.stuck) := p1
      rw [if_neg hl] at p1'
      exact p1'.elim
  | lst xs =>
    unfold Rp at z
    obtain ⟨l, vs, rfl, el, rv⟩ := z
    refine ⟨!vs.isEmpty, .inl ⟨vs, SqL.of (x1.fh.lst el), rfl⟩, ?_⟩
    have ee : (!vs.isEmpty) = !xs.isEmpty := by
      have hl := rv.length
      cases xs <;> cases vs <;> first | rfl | (simp at hl)
    rw [ee]
    exact PostG.ok p1 x1.fh rfl
  | tup xs =>
    unfold Rp at z
    obtain ⟨l, vs, rfl, el, rv⟩ := z
    refine ⟨!vs.isEmpty, .inr (.inl ⟨vs, SqT.of (x1.fh.tup el), rfl⟩), ?_⟩
    have ee : (!vs.isEmpty) = !xs.isEmpty := by
      have hl := rv.length
      cases xs <;> cases vs <;> first | rfl | (simp at hl)
    rw [ee]
    exact PostG.ok p1 x1.fh rfl
  | scr xs =>
    unfold Rp at z
    obtain ⟨l, rfl, el⟩ := z
    refine ⟨!(xs.map V.int).isEmpty, .inl ⟨_, x1.fh.seq el, rfl⟩, ?_⟩
    have ee : (!(xs.map V.int).isEmpty) = !xs.isEmpty := by cases xs <;> rfl
    rw [ee]
    exact PostG.ok p1 x1.fh rfl
  | _ => exact p1.elim
/-- any expression by its value's truth -/
theorem dt_tru (h : DE X W a fa) (he : ∀ whole, isTrue a X.env whole = (do let v ← whole; standAt a.pos; holding [v] (truthy v)) := by intro _; rfl) : DT X W a (eTru fa) := by
  refine PT.weak (pt_truth h he) ?_
  rintro σ H Q ⟨F0, H0, F, Γ, rl, p⟩
  exact ⟨F0, H0, F, Γ, rl, postTru p⟩
theorem dt_not (h : DT X W a ft) : DT X W (.UnaryOp .Not a pos) (bNot ft) := by
  refine PT.weak (pt_not h) ?_
  rintro σ H Q ⟨F0, H0, F, Γ, rl, p⟩
  refine ⟨F0, H0, F, Γ, rl, PostG.bind p (fun k k' F1 H1 _ x1 r1 p1 => ?_) fun _ _ _ _ _ h => h⟩
  have e : k' = k := r1
  subst e
  exact PostG.ok p1 x1.fh rfl
theorem dw_and1 (h : DT X W a ft) : DW X W (.BoolOp .And [a] pos) ft := pw_and1 h
theorem dw_or1 (h : DT X W a ft) : DW X W (.BoolOp .Or [a] pos) ft := pw_or1 h
theorem dw_and {rest : List Expr} (h : DT X W a ft) (h' : DW X W (.BoolOp .And (b :: rest) pos) fu) : DW X W (.BoolOp .And (a :: b :: rest) pos) (bAnd ft fu) := by
  refine PW.weak (pw_and h h') ?_
  rintro σ H Q ⟨F0, H0, F, Γ, rl, p⟩
  refine ⟨F0, H0, F, Γ, rl, PostG.bind p (fun k k' F1 H1 _ x1 r1 p1 => ?_) fun _ _ _ _ _ h => h⟩
  have e : k' = k := r1
  subst e
  cases k' with
  | true => exact iteT ⟨F0, H0, F1, Γ, rl.step x1, p1⟩
  | false => exact iteF (PostG.ok p1 x1.fh rfl)
theorem dw_or {rest : List Expr} (h : DT X W a ft) (h' : DW X W (.BoolOp .Or (b :: rest) pos) fu) : DW X W (.BoolOp .Or (a :: b :: rest) pos) (bOr ft fu) := by
  refine PW.weak (pw_or h h') ?_
  rintro σ H Q ⟨F0, H0, F, Γ, rl, p⟩
  refine ⟨F0, H0, F, Γ, rl, PostG.bind p (fun k k' F1 H1 _ x1 r1 p1 => ?_) fun _ _ _ _ _ h => h⟩
  have e : k' = k := r1
  subst e
  cases k' with
  | true => exact iteT (PostG.ok p1 x1.fh rfl)
  | false => exact iteF ⟨F0, H0, F1, Γ, rl.step x1, p1⟩
theorem dt_w (h : DW X W a ft) : DT X W a ft := PW.pt h
theorem de_one {op} (h : DE X W a fa) : DE X W (.BoolOp op [a] pos) fa := pe_one h
theorem bindB {K : PySem.W.Frag} {mg : Str → Option Value} {F H : Hp} {E : XK} {Q Q' : VK} {r : R D} {k : Bool → R D} (h : PostG K mg (repV K mg) F H E Q (r.bind fun x => (asB x).bind k))
    (hk : ∀ c F' H', Ext F H F' H' → PostG K mg (repV K mg) F' H' E Q (k c) → Q' (.bl c) H') : PostG K mg (repV K mg) F H E Q' r := by
  refine PostG.bind h (fun d v F1 H1 _ x1 r1 p1 => ?_) fun _ _ _ _ _ h => h
  cases d with
  | bl c =>
    have z : Rp K mg F1 (.bl c) v := r1
    unfold Rp at z
    subst z
    exact hk c F1 H1 x1 p1
  | _ => exact p1.elim
theorem de_and {rest : List Expr} (h : DE X W a fa) (h' : DE X W (.BoolOp .And (b :: rest) pos) fb) : DE X W (.BoolOp .And (a :: b :: rest) pos) (eAnd fa fb) := by
  refine PE.weak (pe_and h h') ?_
  rintro σ H Q ⟨F0, H0, F, Γ, rl, p⟩
  refine ⟨F0, H0, F, Γ, rl, bindB p fun k F1 H1 x1 p1 => ⟨k, rfl, ?_⟩⟩
  cases k with
  | true => exact iteT ⟨F0, H0, F1, Γ, rl.step x1, p1⟩
  | false => exact iteF (PostG.ok p1 x1.fh (by show Rp _ _ _ _ _; unfold Rp; rfl))
theorem de_or {rest : List Expr} (h : DE X W a fa) (h' : DE X W (.BoolOp .Or (b :: rest) pos) fb) : DE X W (.BoolOp .Or (a :: b :: rest) pos) (eOr fa fb) := by
  refine PE.weak (pe_or h h') ?_
  rintro σ H Q ⟨F0, H0, F, Γ, rl, p⟩
  refine ⟨F0, H0, F, Γ, rl, bindB p fun k F1 H1 x1 p1 => ⟨k, rfl, ?_⟩⟩
  cases k with
  | true => exact iteT (PostG.ok p1 x1.fh (by show Rp _ _ _ _ _; unfold Rp; rfl))
  | false => exact iteF ⟨F0, H0, F1, Γ, rl.step x1, p1⟩
theorem de_not (h : DE X W a fa) : DE X W (.UnaryOp .Not a pos) (eNot fa) := by
  refine PE.weak (pe_not h) ?_
  rintro σ H Q ⟨F0, H0, F, Γ, rl, p⟩
  exact ⟨F0, H0, F, Γ, rl, bindB p fun k F1 H1 x1 p1 => ⟨k, rfl, PostG.ok p1 x1.fh (by show Rp _ _ _ _ _; unfold Rp; rfl)⟩⟩
theorem de_ifExp (h : DT X W c ft) (ha : DE X W a fa) (hb : DE X W b fb) : DE X W (.IfExp c a b pos) (eIf ft fa fb) := by
  refine PE.weak (pe_ifExp h ha hb) ?_
  rintro σ H Q ⟨F0, H0, F, Γ, rl, p⟩
  refine ⟨F0, H0, F, Γ, rl, PostG.bind p (fun k k' F1 H1 _ x1 r1 p1 => ?_) fun _ _ _ _ _ h => h⟩
  have e : k' = k := r1
  subst e
  cases k' with
  | true => exact iteT ⟨F0, H0, F1, Γ, rl.step x1, p1⟩
  | false => exact iteF ⟨F0, H0, F1, Γ, rl.step x1, p1⟩

/-! ### arguments, displays -/
theorem da_nil : DA X W [] aNil := by
  refine PA.weak pa_nil ?_
  rintro σ H Q ⟨F0, H0, F, Γ, rl, p⟩
  exact PostG.ok p rl.fz RpL.nil
theorem da_cons (h : DE X W a fa) (h' : DA X W es fs) (hs : starEach (a :: es) X.env = (false, eval a X.env) :: starEach es X.env := by rfl) : DA X W (a :: es) (aCons fa fs) := by
  refine PA.weak (pa_cons h h' hs) ?_
  rintro σ H Q ⟨F0, H0, F, Γ, rl, p⟩
  refine ⟨F0, H0, F, Γ, rl, PostG.bind p (fun d v F1 H1 _ x1 r1 p1 => ?_) fun _ _ _ _ _ h => h⟩
  refine ⟨F0, H0, F1, Γ, rl.step x1, PostG.bind p1 (fun ds vs F2 H2 _ x2 r2 p2 => ?_) fun _ _ _ _ _ h => h⟩
  exact PostG.ok p2 x2.fh (RpL.cons (Rp.mono x2.ff _ _ r1) r2)
theorem ifR {α : Type} {c : Prop} [Decidable c] {K : PySem.W.Frag} {mg : Str → Option Value} {β : Type} {rep : Hp → Hp → Hp → α → β → Prop} {F H : Hp} {E : XK} {Q : β → Hp → Prop} {r : R α}
    (h : PostG K mg rep F H E Q (if c then r else .stuck)) : c ∧ PostG K mg rep F H E Q r := by
  by_cases hc : c
  · rw [if_pos hc] at h
    exact ⟨hc, h⟩
  · rw [if_neg hc] at h
    exact h.elim
theorem de_tup {k} (h : DA X W es fs) : DE X W (.Tuple es k pos) (eTup fs) := by
  refine PE.weak (pe_tup h) ?_
  rintro σ H Q ⟨F0, H0, F, Γ, rl, p⟩
  refine ⟨F0, H0, F, Γ, rl, PostG.bind p (fun ds vs F1 H1 _ x1 r1 p1 => ?_) fun _ _ _ _ _ h => h⟩
  obtain ⟨hl, p2⟩ := ifR p1
  refine ⟨by rw [LIM_eq, ← RpL.length r1]; exact hl, fun q hq => PostG.at p2 (Ext.laid x1.fh hq) ?_⟩
  show Rp _ _ _ (.tup ds) _
  unfold Rp
  exact ⟨q, vs, rfl, upd_same, RpL.mono (Ext.laid (o := .tup vs) x1.fh hq).ff _ _ r1⟩
theorem do_lst (h : DA X W es fs) : DO X W (.List es pos) (oLst fs) := by
  refine PE.weak (pe_lst h) ?_
  rintro σ H Q ⟨F0, H0, F, Γ, rl, p⟩
  refine ⟨F0, H0, F, Γ, rl, PostG.bind p (fun ds vs F1 H1 _ x1 r1 p1 => ?_) upO⟩
  obtain ⟨hl, p2⟩ := ifR p1
  exact ⟨by rw [LIM_eq, ← RpL.length r1]; exact hl, fun q hq => PostG.at p2 (Ext.heap x1.fh hq) ⟨q, vs, rfl, upd_same, x1.fh.free hq, hq, r1⟩⟩
/-- a new list that nobody will change -/
theorem frzO {K : PySem.W.Frag} {mg : Str → Option Value} {F H F' H' : Hp} {ds : List D} {v : V} (x : Ext F H F' H') (h : OwnL K mg H F' H' ds v) : ∃ F2, Ext F H F2 H' ∧ Rp K mg F2 (.lst ds) v ∧ Same F' F2 := by
  obtain ⟨l, vs, e, eh, ef, e0, r⟩ := h
  have ss : Same F' (upd F' l (.lst vs)) := fun a u q => by rw [upd_ne (fun z => by rw [z, ef] at q; cases q)]; exact q
  refine ⟨upd F' l (.lst vs), ⟨x.ff.trans ss, fun a u q => ?_, x.hh, fun a u q => ?_⟩, ?_, ss⟩
  · by_cases z : a = l
    · subst z
      rw [upd_same] at q
      cases q
      exact .inl eh
    · rw [upd_ne z] at q
      exact x.fh a u q
  · by_cases z : a = l
    · subst z
      exact .inr e0
    · rw [upd_ne z] at q
      exact x.new a u q
  · unfold Rp
    exact ⟨l, vs, e, upd_same, RpL.mono ss _ _ r⟩
theorem frzDD {K : PySem.W.Frag} {mg : Str → Option Value} {F H F' H' : Hp} {ks : List Key} {ds : List D} {v : V} (x : Ext F H F' H') (h : OwnD K mg H F' H' ks ds v) : ∃ F2, Ext F H F2 H' ∧ Rp K mg F2 (.dk ks ds) v ∧ Same F' F2 := by
  obtain ⟨l, vs, e, eh, el, ef, e0, r⟩ := h
  have ss : Same F' (upd F' l (.dK (ks.zip vs))) := fun a u q => by rw [upd_ne (fun z => by rw [z, ef] at q; cases q)]; exact q
  refine ⟨upd F' l (.dK (ks.zip vs)), ⟨x.ff.trans ss, fun a u q => ?_, x.hh, fun a u q => ?_⟩, ?_, ss⟩
  · by_cases z : a = l
    · subst z
      rw [upd_same] at q
      cases q
      exact .inl eh
    · rw [upd_ne z] at q
      exact x.fh a u q
  · by_cases z : a = l
    · subst z
      exact .inr e0
    · rw [upd_ne z] at q
      exact x.new a u q
  · unfold Rp
    exact ⟨l, vs, e, upd_same, el, RpL.mono ss _ _ r⟩
theorem de_frz (h : DO X W a fs) : DE X W a (eFrz fs) := by
  refine PE.weak h ?_
  rintro σ H Q ⟨F0, H0, F, Γ, rl, p⟩
  refine ⟨F0, H0, F, Γ, rl, ?_⟩
  revert p
  unfold eFrz
  cases fs Γ with
  | ok ds =>
    intro p v F1 H1 x1 r1
    obtain ⟨F2, x2, r2, _⟩ := frzO x1 r1
    exact PostG.at p x2 r2
  | exc x => exact fun p => p
  | stuck => exact fun p => p
theorem de_frzD {fd : Env → R (List Key × List D)} (h : DDt X W a fd) : DE X W a (eFrzD fd) := by
  refine PE.weak h ?_
  rintro σ H Q ⟨F0, H0, F, Γ, rl, p⟩
  refine ⟨F0, H0, F, Γ, rl, ?_⟩
  revert p
  unfold eFrzD
  cases fd Γ with
  | ok ds =>
    intro p v F1 H1 x1 r1
    obtain ⟨F2, x2, r2, _⟩ := frzDD x1 r1
    exact PostG.at p x2 r2
  | exc x => exact fun p => p
  | stuck => exact fun p => p
theorem de_ix {r : R2} {g : D → D → R D} (hr : IxR X r) (hs : Sat2 X r g) (ha : DE X W a fa) (hb : DE X W b fb) (hx : PlainIx b) : DE X W (.Subscript a b pos) (eOp g fa fb) := by
  refine PE.weak (pe_ix hr ha hb hx) ?_
  rintro σ H Q ⟨F0, H0, F, Γ, rl, p⟩
  exact bind2 (fun _ _ _ _ _ h => h) rl p fun x y v u F2 H2 x2 r1 r2 p2 => hs F2 H2 x y v u _ _ x2.fh r1 r2 p2
theorem de_callB {x : Str} {id : String} {r : List V → Hp → VK → Prop} {g : List D → R D} (hc : CallR X (.builtin id) r) (hs : SatL X r g) (hg : Gl X x) (hm : X.mg x = none) (hv : bootBuiltins x = some (.builtin id)) (ha : DA X W (a :: es) fs)
    (hn : x ≠ "__name__" := by decide +kernel) (hdb : (x == ("__debug__" : Str)) = false := by kernel_rfl)
    (he : starEach (a :: es) X.env = (false, eval a X.env) :: starEach es X.env := by rfl) (hpl : (backTo pos (starEach es X.env)).any (·.1) = false := by rfl) : DE X W (.Call (.Name x p) (a :: es) [] pos) (eCall g fs) := by
  refine PE.weak (pe_callB hc hg hm hv ha hn hdb he hpl) ?_
  rintro σ H Q ⟨F0, H0, F, Γ, rl, p⟩
  exact ⟨F0, H0, F, Γ, rl, PostG.bind p (fun ds vs F1 H1 _ x1 r1 p1 => hs F1 H1 ds vs _ _ x1.fh r1 p1) fun _ _ _ _ _ h => h⟩
theorem de_callTy {x : Str} {T : String} {r : List V → Hp → VK → Prop} {g : List D → R D} (hc : CallR X (.type T) r) (hs : SatL X r g) (hg : Gl X x) (hm : X.mg x = none) (hv : bootBuiltins x = some (.type T)) (ha : DA X W (a :: es) fs)
    (hn : x ≠ "__name__" := by decide +kernel) (hdb : (x == ("__debug__" : Str)) = false := by kernel_rfl)
    (he : starEach (a :: es) X.env = (false, eval a X.env) :: starEach es X.env := by rfl) (hpl : (backTo pos (starEach es X.env)).any (·.1) = false := by rfl) : DE X W (.Call (.Name x p) (a :: es) [] pos) (eCall g fs) := by
  refine PE.weak (pe_callTy hc hg hm hv ha hn hdb he hpl) ?_
  rintro σ H Q ⟨F0, H0, F, Γ, rl, p⟩
  exact ⟨F0, H0, F, Γ, rl, PostG.bind p (fun ds vs F1 H1 _ x1 r1 p1 => hs F1 H1 ds vs _ _ x1.fh r1 p1) fun _ _ _ _ _ h => h⟩
theorem do_callTy {x : Str} {T : String} {r : List V → Hp → VK → Prop} {g : List D → R (List D)} (hc : CallR X (.type T) r) (hs : SatLO X r g) (hg : Gl X x) (hm : X.mg x = none) (hv : bootBuiltins x = some (.type T)) (ha : DA X W (a :: es) fs)
    (hn : x ≠ "__name__" := by decide +kernel) (hdb : (x == ("__debug__" : Str)) = false := by kernel_rfl)
    (he : starEach (a :: es) X.env = (false, eval a X.env) :: starEach es X.env := by rfl) (hpl : (backTo pos (starEach es X.env)).any (·.1) = false := by rfl) : DO X W (.Call (.Name x p) (a :: es) [] pos) (oCall g fs) := by
  refine PE.weak (pe_callTy hc hg hm hv ha hn hdb he hpl) ?_
  rintro σ H Q ⟨F0, H0, F, Γ, rl, p⟩
  exact ⟨F0, H0, F, Γ, rl, PostG.bind p (fun ds vs F1 H1 _ x1 r1 p1 => hs F1 H1 ds vs _ _ x1.fh r1 p1) upO⟩
end
end DL
set_option Elab.async false
set_option linter.all false
set_option maxRecDepth 100000
set_option maxHeartbeats 4000000
/-! The data layer: what the operations' readings do to trees. -/
namespace DL
open PySem PySem.Spec L2

section
variable {K : PySem.W.Frag} {mg : Str → Option Value} {F H : Hp} {v : V}
theorem Rp.int_iff {i : Int} (h : Rp K mg F (.int i) v) : v = .int i := by unfold Rp at h; exact h
theorem Rp.bl_iff {i : Bool} (h : Rp K mg F (.bl i) v) : v = .bl i := by unfold Rp at h; exact h
theorem Rp.str_iff {i : Str} (h : Rp K mg F (.str i) v) : v = .str i := by unfold Rp at h; exact h
theorem Rp.non_iff (h : Rp K mg F .non v) : v = .non := by unfold Rp at h; exact h
theorem Rp.ty_iff {n : String} (h : Rp K mg F (.ty n) v) : v = .ty n := by unfold Rp at h; exact h
theorem Rp.lst_iff {ds : List D} (h : Rp K mg F (.lst ds) v) : ∃ a vs, v = .ref a ∧ F a = some (.lst vs) ∧ RpL K mg F ds vs := by unfold Rp at h; exact h
theorem Rp.tup_iff {ds : List D} (h : Rp K mg F (.tup ds) v) : ∃ a vs, v = .ref a ∧ F a = some (.tup vs) ∧ RpL K mg F ds vs := by unfold Rp at h; exact h
theorem Rp.scr_iff {ns : List Int} (h : Rp K mg F (.scr ns) v) : ∃ a, v = .ref a ∧ SqL K F a (ns.map V.int) := by unfold Rp at h; exact h
theorem Rp.dk_iff {ks : List Key} {ds : List D} (h : Rp K mg F (.dk ks ds) v) : ∃ a vs, v = .ref a ∧ F a = some (.dK (ks.zip vs)) ∧ ks.length = vs.length ∧ RpL K mg F ds vs := by unfold Rp at h; exact h
theorem Rp.obj_iff {c : Str} {ns : List Str} {ds : List D} (h : Rp K mg F (.obj c ns ds) v) : ∃ a C dx vs, v = .ref a ∧ mg c = some (.ref C) ∧ F a = some (.ins C dx (ns.zip vs)) ∧ ns.length = vs.length ∧ RpL K mg F ds vs := by unfold Rp at h; exact h
theorem Rp.int {i : Int} : Rp K mg F (.int i) (.int i) := by unfold Rp; rfl
theorem Rp.bl {i : Bool} : Rp K mg F (.bl i) (.bl i) := by unfold Rp; rfl
theorem Rp.str {i : Str} : Rp K mg F (.str i) (.str i) := by unfold Rp; rfl
theorem Rp.non : Rp K mg F .non .non := by unfold Rp; rfl
theorem Rp.lst {ds : List D} {a : Addr} {vs : List V} (h : F a = some (.lst vs)) (r : RpL K mg F ds vs) : Rp K mg F (.lst ds) (.ref a) := by unfold Rp; exact ⟨a, vs, rfl, h, r⟩
theorem Rp.tup {ds : List D} {a : Addr} {vs : List V} (h : F a = some (.tup vs)) (r : RpL K mg F ds vs) : Rp K mg F (.tup ds) (.ref a) := by unfold Rp; exact ⟨a, vs, rfl, h, r⟩
/-- a list, its address in the heap -/
theorem Rp.lstH (z : Fz F H) {ds : List D} (h : Rp K mg F (.lst ds) v) : ∃ a vs, v = .ref a ∧ H a = some (.lst vs) ∧ RpL K mg F ds vs := by
  obtain ⟨a, vs, e, ea, r⟩ := h.lst_iff
  exact ⟨a, vs, e, z.lst ea, r⟩
theorem Rp.tupH (z : Fz F H) {ds : List D} (h : Rp K mg F (.tup ds) v) : ∃ a vs, v = .ref a ∧ H a = some (.tup vs) ∧ RpL K mg F ds vs := by
  obtain ⟨a, vs, e, ea, r⟩ := h.tup_iff
  exact ⟨a, vs, e, z.tup ea, r⟩
end

/-! ### == over trees -/
section
variable {K : PySem.W.Frag} {mg : Str → Option Value} {F H : Hp}
theorem dp_scr : ∀ ns : List Int, DpAll K H (ns.map V.int) (ns.map PyData.int)
  | [] => .nil
  | n :: ns => .cons (.int n) (dp_scr ns)
mutual
theorem dp_of (z : Fz F H) : ∀ (n : Nat) (d : D) (v : V), d.sh n = true → Rp K mg F d v → Dp K H v d.pd
  | _, .non, v, _, h => by rw [h.non_iff]; exact .non
  | _, .bl b, v, _, h => by rw [h.bl_iff]; exact .bl b
  | _, .int i, v, _, h => by rw [h.int_iff]; exact .int i
  | _, .str x, v, _, h => by rw [h.str_iff]; exact .str x
  | n + 1, .lst ds, v, s, h => by
    obtain ⟨a, vs, e, ea, r⟩ := h.lstH z
    rw [e]
    exact .lst (SqL.of ea) (dp_all z n ds vs (by simpa [D.sh] using s) r)
  | n + 1, .tup ds, v, s, h => by
    obtain ⟨a, vs, e, ea, r⟩ := h.tupH z
    rw [e]
    exact .tup (SqT.of ea) (dp_all z n ds vs (by simpa [D.sh] using s) r)
  | n + 1, .scr ns, v, s, h => by
    obtain ⟨a, e, ea⟩ := h.scr_iff
    rw [e]
    exact .lst (z.seq ea) (dp_scr ns)
  | 0, .lst _, _, s, _ => by simp [D.sh] at s
  | 0, .tup _, _, s, _ => by simp [D.sh] at s
  | 0, .scr _, _, s, _ => by simp [D.sh] at s
  | 0, .dk _ _, _, s, _ => by simp [D.sh] at s
  | 0, .obj _ _ _, _, s, _ => by simp [D.sh] at s
  | 0, .exc _ _ _, _, s, _ => by simp [D.sh] at s
  | 0, .cls _, _, s, _ => by simp [D.sh] at s
  | 0, .ty _, _, s, _ => by simp [D.sh] at s
  | _ + 1, .dk _ _, _, s, _ => by simp [D.sh] at s
  | _ + 1, .obj _ _ _, _, s, _ => by simp [D.sh] at s
  | _ + 1, .exc _ _ _, _, s, _ => by simp [D.sh] at s
  | _ + 1, .cls _, _, s, _ => by simp [D.sh] at s
  | _ + 1, .ty _, _, s, _ => by simp [D.sh] at s
theorem dp_all (z : Fz F H) : ∀ (n : Nat) (ds : List D) (vs : List V), (∀ d ∈ ds, d.sh n = true) → RpL K mg F ds vs → DpAll K H vs (D.pdL ds)
  | _, [], vs, _, h => by rw [h.nil_iff]; exact .nil
  | n, d :: ds, vs, s, h => by
    obtain ⟨v, us, e, r, rr⟩ := h.cons_iff
    rw [e]
    exact .cons (dp_of z n d v (s d List.mem_cons_self) r) (dp_all z n ds us (fun x hx => s x (List.mem_cons_of_mem _ hx)) rr)
end

mutual
theorem sh_ok : ∀ (n : Nat) (d : D), d.sh n = true → d.pd.canLay0 = true ∧ d.pd.depth ≤ n
  | _, .non, _ => ⟨rfl, Nat.zero_le _⟩
  | _, .bl b, _ => ⟨rfl, Nat.zero_le _⟩
  | _, .int i, _ => ⟨rfl, Nat.zero_le _⟩
  | _, .str x, s => ⟨by show (PyData.str x).canLay0 = true; simpa [D.sh] using s, Nat.zero_le _⟩
  | n + 1, .lst ds, s => by
    obtain ⟨h1, h2⟩ := sh_all n ds (by simpa [D.sh] using s)
    exact ⟨by simpa [D.pd, PyData.canLay0] using h1, by simpa [D.pd, PyData.depth] using h2⟩
  | n + 1, .tup ds, s => by
    obtain ⟨h1, h2⟩ := sh_all n ds (by simpa [D.sh] using s)
    exact ⟨by simpa [D.pd, PyData.canLay0] using h1, by simpa [D.pd, PyData.depth] using h2⟩
  | n + 1, .scr ns, s => by
    obtain ⟨h1, h2⟩ := sh_scr n ns
    exact ⟨by simpa [D.pd, PyData.canLay0] using h1, by simpa [D.pd, PyData.depth] using h2⟩
  | 0, .lst _, s => by simp [D.sh] at s
  | 0, .tup _, s => by simp [D.sh] at s
  | 0, .scr _, s => by simp [D.sh] at s
  | 0, .dk _ _, s => by simp [D.sh] at s
  | 0, .obj _ _ _, s => by simp [D.sh] at s
  | 0, .exc _ _ _, s => by simp [D.sh] at s
  | 0, .cls _, s => by simp [D.sh] at s
  | 0, .ty _, s => by simp [D.sh] at s
  | _ + 1, .dk _ _, s => by simp [D.sh] at s
  | _ + 1, .obj _ _ _, s => by simp [D.sh] at s
  | _ + 1, .exc _ _ _, s => by simp [D.sh] at s
  | _ + 1, .cls _, s => by simp [D.sh] at s
  | _ + 1, .ty _, s => by simp [D.sh] at s
theorem sh_all : ∀ (n : Nat) (ds : List D), (∀ d ∈ ds, d.sh n = true) → PyData.canLayAll0 (D.pdL ds) = true ∧ PyData.depthAll (D.pdL ds) ≤ n
  | _, [], _ => ⟨rfl, Nat.zero_le _⟩
  | n, d :: ds, s => by
    obtain ⟨h1, h2⟩ := sh_ok n d (s d List.mem_cons_self)
    obtain ⟨h3, h4⟩ := sh_all n ds fun x hx => s x (List.mem_cons_of_mem _ hx)
    refine ⟨by simp [D.pdL, PyData.canLayAll0, h1, h3], ?_⟩
    simp only [D.pdL, PyData.depthAll]
    omega
theorem sh_scr : ∀ (n : Nat) (ns : List Int), PyData.canLayAll0 (ns.map PyData.int) = true ∧ PyData.depthAll (ns.map PyData.int) ≤ n
  | _, [] => ⟨rfl, Nat.zero_le _⟩
  | n, i :: ns => by
    obtain ⟨h3, h4⟩ := sh_scr n ns
    refine ⟨by simp [PyData.canLayAll0, PyData.canLay0, h3], ?_⟩
    simp only [List.map_cons, PyData.depthAll, PyData.depth]
    omega
end
theorem shaped_of {d : D} (h : d.sh 60 = true) : SeqAt.shaped d.pd = true := by
  obtain ⟨h1, h2⟩ := sh_ok 60 d h
  show (d.pd.canLay0 && decide (d.pd.depth ≤ 64)) = true
  rw [h1, decide_eq_true (by omega)]
  rfl
end
section
variable {X : Cx}
theorem opEq (hu : X.A.units + 64 < cLine) : OpR X (compareOp .Eq) (fun x y H Q => rEq x y H Q ∨ rEqD X.K x y H Q) := op_eq.or (op_eqD hu)
theorem opNe (hu : X.A.units + 64 < cLine) : OpR X (compareOp .NotEq) (fun x y H Q => rNe x y H Q ∨ rNeD X.K x y H Q) := op_ne.or (op_neD hu)
theorem andB {a b : Bool} (h : (a && b) = true) : a = true ∧ b = true := Bool.and_eq_true_iff.mp h
theorem eqCore {F H : Hp} {x y : D} {v u : V} (z : Fz F H) (rx : Rp X.K X.mg F x v) (ry : Rp X.K X.mg F y u) {k : Bool} (h : dEqV x y = .ok k) :
    (scal v u = true ∧ decide (v = u) = k) ∨ (∃ d e, Dp X.K H v d ∧ Dp X.K H u e ∧ SeqAt.shaped d = true ∧ SeqAt.shaped e = true ∧ PyData.eqv d e = k) := by
  have dat : (if x.sh 60 && y.sh 60 then R.ok (dEqB x y) else R.stuck) = .ok k → (∃ d e, Dp X.K H v d ∧ Dp X.K H u e ∧ SeqAt.shaped d = true ∧ SeqAt.shaped e = true ∧ PyData.eqv d e = k) := fun h => by
    by_cases c : (x.sh 60 && y.sh 60) = true
    · rw [if_pos c] at h
      obtain ⟨c1, c2⟩ := andB c
      injection h with h
      exact ⟨x.pd, y.pd, dp_of z 60 x v c1 rx, dp_of z 60 y u c2 ry, shaped_of c1, shaped_of c2, h⟩
    · rw [if_neg c] at h
      cases h
  unfold dEqV at h
  split at h
  · rw [rx.int_iff, ry.int_iff]
    injection h with h
    refine .inl ⟨rfl, ?_⟩
    rw [← h]
    exact decide_eq_decide.mpr ⟨fun e => V.int.inj e, fun e => by rw [e]⟩
  · rw [rx.str_iff, ry.str_iff]
    injection h with h
    refine .inl ⟨rfl, ?_⟩
    rw [← h]
    exact decide_eq_decide.mpr ⟨fun e => V.str.inj e, fun e => by rw [e]⟩
  · exact .inr (dat h)
theorem sat_eq : Sat2 X (fun x y H Q => rEq x y H Q ∨ rEqD X.K x y H Q) dEq := by
  intro F H x y v u E Q z rx ry p
  unfold dEq at p
  cases e : dEqV x y with
  | ok k =>
    rw [e] at p
    have q : Q (.bl k) H := PostG.ok p z (Rp.bl)
    rcases eqCore z rx ry e with ⟨h1, h2⟩ | ⟨d, e, h1, h2, h3, h4, h5⟩
    · exact .inl ⟨h1, by rw [h2]; exact q⟩
    · exact .inr ⟨d, e, h1, h2, h3, h4, by rw [h5]; exact q⟩
  | exc x => unfold dEqV at e; split at e <;> first | cases e | (split at e <;> cases e)
  | stuck => rw [e] at p; exact p.elim
theorem sat_ne : Sat2 X (fun x y H Q => rNe x y H Q ∨ rNeD X.K x y H Q) dNe := by
  intro F H x y v u E Q z rx ry p
  unfold dNe at p
  cases e : dEqV x y with
  | ok k =>
    rw [e] at p
    have q : Q (.bl (!k)) H := PostG.ok p z (Rp.bl)
    rcases eqCore z rx ry e with ⟨h1, h2⟩ | ⟨d, e, h1, h2, h3, h4, h5⟩
    · exact .inl ⟨h1, by rw [h2]; exact q⟩
    · exact .inr ⟨d, e, h1, h2, h3, h4, by rw [h5]; exact q⟩
  | exc x => unfold dEqV at e; split at e <;> first | cases e | (split at e <;> cases e)
  | stuck => rw [e] at p; exact p.elim

/-! ### numbers -/
theorem opMul : OpR X (binaryOp .Mult) (fun x y H Q => rI CMul (fun i j => .int (i * j)) x y H Q ∨ rI CMulW (fun i j => .int (i * j)) x y H Q) := op_mul.or op_mulW
theorem small_iff {i : Int} (h : smallI i = true) : -(2 ^ 64) < i ∧ i < 2 ^ 64 := by
  obtain ⟨h1, h2⟩ := andB h
  have h1 := of_decide_eq_true h1
  have h2 := of_decide_eq_true h2
  omega
theorem sat_mul : Sat2 X (fun x y H Q => rI CMul (fun i j => .int (i * j)) x y H Q ∨ rI CMulW (fun i j => .int (i * j)) x y H Q) dMul := by
  intro F H x y v u E Q z rx ry p
  cases x with
  | int i =>
    cases y with
    | int j =>
      rw [rx.int_iff, ry.int_iff]
      obtain ⟨c, p⟩ := ifR p
      have q : Q (.int (i * j)) H := PostG.ok p z Rp.int
      rcases Bool.or_eq_true_iff.mp c with c | c
      · exact .inl ⟨i, j, rfl, rfl, .inr (small_iff c), q⟩
      · rcases Bool.or_eq_true_iff.mp c with c | c
        · exact .inl ⟨i, j, rfl, rfl, .inl (small_iff c), q⟩
        · exact .inr ⟨i, j, rfl, rfl, (show i.natAbs.log2 + j.natAbs.log2 < 1000000 from of_decide_eq_true c), q⟩
    | _ => exact p.elim
  | _ => exact p.elim
theorem sat_sub : Sat2 X (rI0 fun i j => .int (i - j)) dSub := by
  intro F H x y v u E Q z rx ry p
  cases x with
  | int i =>
    cases y with
    | int j =>
      rw [rx.int_iff, ry.int_iff]
      exact ⟨i, j, rfl, rfl, PostG.ok p z Rp.int⟩
    | _ => exact p.elim
  | _ => exact p.elim
theorem sat_div : Sat2 X (rI CDivW fun i j => .int (i / j)) dDiv := by
  intro F H x y v u E Q z rx ry p
  cases x with
  | int i =>
    cases y with
    | int j =>
      rw [rx.int_iff, ry.int_iff]
      obtain ⟨c, p⟩ := ifR p
      obtain ⟨c1, c2⟩ := andB c
      exact ⟨i, j, rfl, rfl, ⟨of_decide_eq_true c1, of_decide_eq_true c2⟩, PostG.ok p z Rp.int⟩
    | _ => exact p.elim
  | _ => exact p.elim
theorem sat_mod : Sat2 X (rI (fun _ j => 0 < j) fun i j => .int (i % j)) dMod := by
  intro F H x y v u E Q z rx ry p
  cases x with
  | int i =>
    cases y with
    | int j =>
      rw [rx.int_iff, ry.int_iff]
      obtain ⟨c, p⟩ := ifR p
      exact ⟨i, j, rfl, rfl, c, PostG.ok p z Rp.int⟩
    | _ => exact p.elim
  | _ => exact p.elim
theorem sat_pow : Sat2 X (rI CPow fun i j => .int (i ^ j.toNat)) dPow := by
  intro F H x y v u E Q z rx ry p
  cases x with
  | int i =>
    cases y with
    | int j =>
      rw [rx.int_iff, ry.int_iff]
      obtain ⟨c, p⟩ := ifR p
      obtain ⟨c1, c2⟩ := andB c
      obtain ⟨c3, c4⟩ := andB c1
      have c5 := small_iff c2
      exact ⟨i, j, rfl, rfl, ⟨of_decide_eq_true c3, of_decide_eq_true c4, by omega⟩, PostG.ok p z Rp.int⟩
    | _ => exact p.elim
  | _ => exact p.elim
theorem sat_neg : Sat1 X (rU fun i => .int (-i)) dNeg := by
  intro F H x v E Q z rx p
  cases x with
  | int i =>
    rw [rx.int_iff]
    exact ⟨i, rfl, PostG.ok p z Rp.int⟩
  | _ => exact p.elim
theorem sat_lt : Sat2 X (rI0 fun i j => .bl (decide (i < j))) dLt := by
  intro F H x y v u E Q z rx ry p
  cases x with
  | int i =>
    cases y with
    | int j =>
      rw [rx.int_iff, ry.int_iff]
      exact ⟨i, j, rfl, rfl, PostG.ok p z Rp.bl⟩
    | _ => exact p.elim
  | _ => exact p.elim
theorem sat_le : Sat2 X (rI0 fun i j => .bl (decide (i ≤ j))) dLe := by
  intro F H x y v u E Q z rx ry p
  cases x with
  | int i =>
    cases y with
    | int j =>
      rw [rx.int_iff, ry.int_iff]
      exact ⟨i, j, rfl, rfl, PostG.ok p z Rp.bl⟩
    | _ => exact p.elim
  | _ => exact p.elim
theorem sat_gt : Sat2 X (rI0 fun i j => .bl (decide (j < i))) dGt := by
  intro F H x y v u E Q z rx ry p
  cases x with
  | int i =>
    cases y with
    | int j =>
      rw [rx.int_iff, ry.int_iff]
      exact ⟨i, j, rfl, rfl, PostG.ok p z Rp.bl⟩
    | _ => exact p.elim
  | _ => exact p.elim
theorem sat_ge : Sat2 X (rI0 fun i j => .bl (decide (j ≤ i))) dGe := by
  intro F H x y v u E Q z rx ry p
  cases x with
  | int i =>
    cases y with
    | int j =>
      rw [rx.int_iff, ry.int_iff]
      exact ⟨i, j, rfl, rfl, PostG.ok p z Rp.bl⟩
    | _ => exact p.elim
  | _ => exact p.elim
theorem isNon_iff {K : PySem.W.Frag} {mg : Str → Option Value} {F : Hp} {x : D} {v : V} (h : Rp K mg F x v) : decide (v = .non) = x.isNon := by
  cases x with
  | non => rw [h.non_iff]; rfl
  | bl b => rw [h.bl_iff]; rfl
  | int b => rw [h.int_iff]; rfl
  | str b => rw [h.str_iff]; rfl
  | lst b => obtain ⟨_, _, e, _⟩ := h.lst_iff; rw [e]; rfl
  | tup b => obtain ⟨_, _, e, _⟩ := h.tup_iff; rw [e]; rfl
  | scr b => obtain ⟨_, e, _⟩ := h.scr_iff; rw [e]; rfl
  | dk b c => obtain ⟨_, _, e, _⟩ := h.dk_iff; rw [e]; rfl
  | obj b c d => obtain ⟨_, _, _, _, e, _⟩ := h.obj_iff; rw [e]; rfl
  | exc b c d => unfold Rp at h; obtain ⟨_, _, _, e, _⟩ := h; rw [e]; rfl
  | cls c => unfold Rp at h; obtain ⟨_, e, _⟩ := h; rw [e]; rfl
  | ty c => rw [h.ty_iff]; rfl
theorem sat_is : Sat2 X (fun x y H Q => y = .non ∧ Q (.bl (decide (x = .non))) H) dIs := by
  intro F H x y v u E Q z rx ry p
  cases y with
  | non =>
    refine ⟨ry.non_iff, ?_⟩
    rw [isNon_iff rx]
    have p' : PostG X.K X.mg (repV X.K X.mg) F H E Q (.ok (.bl x.isNon)) := by cases x <;> exact p
    exact PostG.ok p' z Rp.bl
  | _ => exact (by cases x <;> exact p.elim)
theorem sat_isnot : Sat2 X (fun x y H Q => y = .non ∧ Q (.bl (!decide (x = .non))) H) dIsNot := by
  intro F H x y v u E Q z rx ry p
  cases y with
  | non =>
    refine ⟨ry.non_iff, ?_⟩
    rw [isNon_iff rx]
    have p' : PostG X.K X.mg (repV X.K X.mg) F H E Q (.ok (.bl (!x.isNon))) := by cases x <;> exact p
    exact PostG.ok p' z Rp.bl
  | _ => exact (by cases x <;> exact p.elim)

/-! ### + -/
def rAddA (K : PySem.W.Frag) : R2 := fun x y H Q => ((rI0 fun i j => .int (i + j)) x y H Q ∨ (∃ i j, x = .str i ∧ y = .str j ∧ i.length + j.length ≤ sizeLine ∧ Q (.str (i ++ j)) H)) ∨ (rCatT K x y H Q ∨ rCat x y H Q)
theorem opAdd : OpR X (binaryOp .Add) (rAddA X.K) := (op_add.or op_add_str).or (op_catT.or op_cat)
theorem sat_add : Sat2 X (rAddA X.K) dAdd := by
  intro F H x y v u E Q z rx ry p
  cases x with
  | int i =>
    cases y with
    | int j =>
      rw [rx.int_iff, ry.int_iff]
      exact .inl (.inl ⟨i, j, rfl, rfl, PostG.ok p z Rp.int⟩)
    | _ => exact p.elim
  | str i =>
    cases y with
    | str j =>
      rw [rx.str_iff, ry.str_iff]
      obtain ⟨c, p⟩ := ifR p
      exact .inl (.inr ⟨i, j, rfl, rfl, by rw [LIM_eq]; exact c, PostG.ok p z Rp.str⟩)
    | _ => exact p.elim
  | tup xs =>
    cases xs with
    | nil => cases y <;> exact p.elim
    | cons d ds =>
      cases y with
      | tup ys =>
        obtain ⟨c, p⟩ := ifR p
        obtain ⟨a, vs, e1, e2, r1⟩ := rx.tupH z
        obtain ⟨b, us, e3, e4, r2⟩ := ry.tupH z
        rw [e1, e3]
        obtain ⟨w, ws, e5, _, _⟩ := r1.cons_iff
        have l1 := r1.length
        have l2 := r2.length
        refine .inr (.inl ⟨a, b, vs, us, rfl, rfl, SqT.of e2, SqT.of e4, by rw [e5]; exact List.cons_ne_nil _ _, by rw [LIM_eq, ← l1, ← l2]; exact c, ?_, ?_⟩)
        · intro en
          rw [en] at r2
          have : ys = [] := by
            cases ys with
            | nil => rfl
            | cons q qs => obtain ⟨_, _, e, _⟩ := r2.cons_iff; cases e
          subst this
          have p' : PostG X.K X.mg (repV X.K X.mg) F H E Q (.ok (.tup (d :: ds))) := by simpa using p
          exact PostG.ok p' z (by rw [← e1]; exact rx)
        · intro _ q hq
          refine PostG.at p (Ext.laid (o := .tup (vs ++ us)) z hq) (Rp.tup upd_same ?_)
          exact RpL.mono (Ext.laid (o := .tup (vs ++ us)) z hq).ff _ _ (RpL.append r1 r2)
      | _ => exact p.elim
  | lst xs =>
    cases y with
    | lst ys =>
      obtain ⟨c, p⟩ := ifR p
      obtain ⟨a, vs, e1, e2, r1⟩ := rx.lstH z
      obtain ⟨b, us, e3, e4, r2⟩ := ry.lstH z
      rw [e1, e3]
      refine .inr (.inr ⟨a, b, vs, us, rfl, rfl, e2, e4, by rw [LIM_eq, ← r1.length, ← r2.length]; exact c, fun q hq => ?_⟩)
      refine PostG.at p (Ext.laid (o := .lst (vs ++ us)) z hq) (Rp.lst upd_same ?_)
      exact RpL.mono (Ext.laid (o := .lst (vs ++ us)) z hq).ff _ _ (RpL.append r1 r2)
    | _ => exact p.elim
  | _ => exact p.elim
theorem satO_add : Sat2O X (rAddA X.K) oAdd := by
  intro F H x y v u E Q z rx ry p
  cases x with
  | lst xs =>
    cases y with
    | lst ys =>
      obtain ⟨c, p⟩ := ifR p
      obtain ⟨a, vs, e1, e2, r1⟩ := rx.lstH z
      obtain ⟨b, us, e3, e4, r2⟩ := ry.lstH z
      rw [e1, e3]
      refine .inr (.inr ⟨a, b, vs, us, rfl, rfl, e2, e4, by rw [LIM_eq, ← r1.length, ← r2.length]; exact c, fun q hq => ?_⟩)
      exact PostG.at p (Ext.heap z hq) ⟨q, _, rfl, upd_same, z.free hq, hq, RpL.append r1 r2⟩
    | _ => exact p.elim
  | _ => exact p.elim
theorem satO_mul : Sat2O X rRep oMul := by
  intro F H x y v u E Q z rx ry p
  cases x with
  | lst xs =>
    cases y with
    | int k =>
      obtain ⟨c, p⟩ := ifR p
      obtain ⟨c1, c2⟩ := andB c
      obtain ⟨c3, c4⟩ := andB c1
      have c3 := of_decide_eq_true c3
      have c4 := of_decide_eq_true c4
      have c2 := of_decide_eq_true c2
      obtain ⟨a, vs, e1, e2, r1⟩ := rx.lstH z
      rw [e1, ry.int_iff]
      refine ⟨a, k, vs, rfl, rfl, e2, by omega, by omega, by rw [LIM_eq, ← r1.length]; exact c2, fun q hq => ?_⟩
      exact PostG.at p (Ext.heap z hq) ⟨q, _, rfl, upd_same, z.free hq, hq, RpL.rep r1 _⟩
    | _ => exact p.elim
  | _ => exact p.elim

/-! ### places -/
theorem atI_rp {K : PySem.W.Frag} {mg : Str → Option Value} {F : Hp} {ds : List D} {vs : List V} {i : Int} {d : D} (r : RpL K mg F ds vs) (h : atI ds i = some d) : ∃ v, atI vs i = some v ∧ Rp K mg F d v := by
  unfold atI at h ⊢
  rw [← r.length]
  cases e : ixN ds.length i with
  | none => rw [e] at h; cases h
  | some j =>
    rw [e] at h
    exact r.get (show ds[j]? = some d from h)
theorem ixN_map {α β : Type} (f : α → β) (xs : List α) (i : Int) : atI (xs.map f) i = (atI xs i).map f := by
  unfold atI
  rw [List.length_map]
  cases ixN xs.length i with
  | none => rfl
  | some j => exact List.getElem?_map
theorem sat_ix : Sat2 X (rIx X.K) dIx := by
  intro F H x y v u E Q z rx ry p
  cases x with
  | lst ds =>
    cases y with
    | int i =>
      obtain ⟨a, vs, e1, e2, r1⟩ := rx.lstH z
      rw [e1, ry.int_iff]
      have p' : PostG X.K X.mg (repV X.K X.mg) F H E Q (match atI ds i with | some d => .ok d | none => .stuck) := p
      cases e : atI ds i with
      | none => rw [e] at p'; exact p'.elim
      | some d =>
        rw [e] at p'
        obtain ⟨w, h1, h2⟩ := atI_rp r1 e
        exact .inl ⟨a, vs, i, w, rfl, rfl, SqL.of e2, h1, PostG.ok p' z h2⟩
    | _ => exact p.elim
  | tup ds =>
    cases y with
    | int i =>
      obtain ⟨a, vs, e1, e2, r1⟩ := rx.tupH z
      rw [e1, ry.int_iff]
      have p' : PostG X.K X.mg (repV X.K X.mg) F H E Q (match atI ds i with | some d => .ok d | none => .stuck) := p
      cases e : atI ds i with
      | none => rw [e] at p'; exact p'.elim
      | some d =>
        rw [e] at p'
        obtain ⟨w, h1, h2⟩ := atI_rp r1 e
        exact .inr (.inl ⟨a, vs, i, w, rfl, rfl, SqT.of e2, h1, PostG.ok p' z h2⟩)
    | _ => exact p.elim
  | scr ns =>
    cases y with
    | int i =>
      obtain ⟨a, e1, e2⟩ := rx.scr_iff
      rw [e1, ry.int_iff]
      have p' : PostG X.K X.mg (repV X.K X.mg) F H E Q (match atI ns i with | some d => .ok (.int d) | none => .stuck) := p
      cases e : atI ns i with
      | none => rw [e] at p'; exact p'.elim
      | some d =>
        rw [e] at p'
        exact .inl ⟨a, _, i, .int d, rfl, rfl, z.seq e2, by rw [ixN_map, e]; rfl, PostG.ok p' z Rp.int⟩
    | _ => exact p.elim
  | str s =>
    cases y with
    | int i =>
      rw [rx.str_iff, ry.int_iff]
      obtain ⟨c, p⟩ := ifR p
      have p' : PostG X.K X.mg (repV X.K X.mg) F H E Q (match atI s.cps.toList i with | some c => .ok (.str ⟨#[c]⟩) | none => .stuck) := p
      cases e : atI s.cps.toList i with
      | none => rw [e] at p'; exact p'.elim
      | some d =>
        rw [e] at p'
        exact .inr (.inr ⟨s, i, d, rfl, rfl, by rw [LIM_eq]; exact c, e, PostG.ok p' z Rp.str⟩)
    | _ => exact p.elim
  | _ => exact p.elim

/-! ### built-in functions -/
theorem RpL.one {K : PySem.W.Frag} {mg : Str → Option Value} {F : Hp} {x : D} {vs : List V} (r : RpL K mg F [x] vs) : ∃ v, vs = [v] ∧ Rp K mg F x v := by
  obtain ⟨v, us, e, r1, rn⟩ := r.cons_iff
  have := rn.nil_iff
  subst this
  exact ⟨v, e, r1⟩
theorem RpL.two {K : PySem.W.Frag} {mg : Str → Option Value} {F : Hp} {x y : D} {vs : List V} (r : RpL K mg F [x, y] vs) : ∃ v u, vs = [v, u] ∧ Rp K mg F x v ∧ Rp K mg F y u := by
  obtain ⟨v, us, e, r1, rn⟩ := r.cons_iff
  obtain ⟨u, e', r2⟩ := rn.one
  subst e'
  exact ⟨v, u, e, r1, r2⟩
theorem sat_un1 {r : List V → Hp → VK → Prop} {g : D → R D} (h : ∀ (F H : Hp) (x : D) (v : V) (E : XK) (Q : VK), Fz F H → Rp X.K X.mg F x v → PostG X.K X.mg (repV X.K X.mg) F H E Q (g x) → r [v] H Q) : SatL X r (un1 g) := by
  intro F H ds vs E Q z r p
  cases ds with
  | nil => exact p.elim
  | cons x xs =>
    cases xs with
    | nil =>
      obtain ⟨v, e, r1⟩ := r.one
      rw [e]
      exact h F H x v E Q z r1 p
    | cons y ys => exact p.elim
theorem sat_un2 {r : List V → Hp → VK → Prop} {g : D → D → R D} (h : ∀ (F H : Hp) (x y : D) (v u : V) (E : XK) (Q : VK), Fz F H → Rp X.K X.mg F x v → Rp X.K X.mg F y u → PostG X.K X.mg (repV X.K X.mg) F H E Q (g x y) → r [v, u] H Q) : SatL X r (un2 g) := by
  intro F H ds vs E Q z r p
  cases ds with
  | nil => exact p.elim
  | cons x xs =>
    cases xs with
    | nil => exact p.elim
    | cons y ys =>
      cases ys with
      | nil =>
        obtain ⟨v, u, e, r1, r2⟩ := r.two
        rw [e]
        exact h F H x y v u E Q z r1 r2 p
      | cons a b => exact p.elim
theorem sat_len : SatL X (fun xs H Q => ∃ x n, xs = [x] ∧ LenV X.K x H n ∧ Q (.int n) H) dLen := sat_un1 fun F H x v E Q z r1 p => by
  cases x with
  | lst xs =>
    obtain ⟨a, ws, e1, e2, r2⟩ := r1.lstH z
    exact ⟨v, xs.length, rfl, by rw [e1]; exact .inl ⟨ws, SqL.of e2, r2.length⟩, PostG.ok p z Rp.int⟩
  | tup xs =>
    obtain ⟨a, ws, e1, e2, r2⟩ := r1.tupH z
    exact ⟨v, xs.length, rfl, by rw [e1]; exact .inr ⟨ws, SqT.of e2, r2.length⟩, PostG.ok p z Rp.int⟩
  | scr xs =>
    obtain ⟨a, e1, e2⟩ := r1.scr_iff
    exact ⟨v, xs.length, rfl, by rw [e1]; exact .inl ⟨_, z.seq e2, by rw [List.length_map]⟩, PostG.ok p z Rp.int⟩
  | str x =>
    obtain ⟨c, p⟩ := ifR p
    exact ⟨v, x.length, rfl, by rw [r1.str_iff]; exact ⟨by rw [LIM_eq]; exact c, rfl⟩, PostG.ok p z Rp.int⟩
  | _ => exact p.elim
theorem sat_min2 : SatL X (fun xs H Q => ∃ i j, xs = [.int i, .int j] ∧ Q (.int (if j < i then j else i)) H) dMin2 := sat_un2 fun F H x y v u E Q z r1 r2 p => by
  cases x with
  | int i =>
    cases y with
    | int j => exact ⟨i, j, by rw [r1.int_iff, r2.int_iff], PostG.ok p z Rp.int⟩
    | _ => exact p.elim
  | _ => exact p.elim
theorem sat_max2 : SatL X (fun xs H Q => ∃ i j, xs = [.int i, .int j] ∧ Q (.int (if j > i then j else i)) H) dMax2 := sat_un2 fun F H x y v u E Q z r1 r2 p => by
  cases x with
  | int i =>
    cases y with
    | int j => exact ⟨i, j, by rw [r1.int_iff, r2.int_iff], PostG.ok p z Rp.int⟩
    | _ => exact p.elim
  | _ => exact p.elim
theorem sat_abs : SatL X (fun xs H Q => ∃ i, xs = [.int i] ∧ Q (.int (if i < 0 then -i else i)) H) dAbs := sat_un1 fun F H x v E Q z r1 p => by
  cases x with
  | int i => exact ⟨i, by rw [r1.int_iff], PostG.ok p z Rp.int⟩
  | _ => exact p.elim
theorem sat_str : SatL X (fun xs H Q => ∃ i, xs = [.int i] ∧ i.natAbs.log2 < 1920 ∧ Q (.str (toString i)) H) dStr := sat_un1 fun F H x v E Q z r1 p => by
  cases x with
  | int i =>
    obtain ⟨c, p⟩ := ifR p
    exact ⟨i, by rw [r1.int_iff], c, PostG.ok p z Rp.str⟩
  | _ => exact p.elim
/-- the class of a tree's value -/
theorem ty_ok {F H : Hp} {x : D} {v : V} {t : String} (z : Fz F H) (r : Rp X.K X.mg F x v) (h : x.tyOf = some t) : TyX X.K H v (.type t) := by
  cases x with
  | non => cases h; rw [r.non_iff]; exact .base .non
  | bl b => cases h; rw [r.bl_iff]; exact .base (.bl b)
  | int b => cases h; rw [r.int_iff]; exact .base (.int b)
  | str b => cases h; rw [r.str_iff]; exact .base (.str b)
  | lst b => cases h; obtain ⟨a, vs, e, ea, _⟩ := r.lstH z; rw [e]; exact .base (.lst ea)
  | tup b => cases h; obtain ⟨a, vs, e, ea, _⟩ := r.tupH z; rw [e]; exact .base (.tup ea)
  | scr b =>
    cases h
    obtain ⟨a, e, ea⟩ := r.scr_iff
    rw [e]
    rcases z.seq ea with (q | ⟨o, q⟩) | ⟨o, its, n, q, c, _⟩
    · exact .base (.lst q)
    · exact .base (.frz q)
    · exact .kList q c
  | dk b c =>
    cases h
    obtain ⟨a, vs, e, ea, _⟩ := r.dk_iff
    rw [e]
    rcases z a _ ea with q | ⟨_, ob, q⟩
    · exact .base (.dK q)
    · exact .fDict q
  | obj b c d => cases h
  | exc b c d => cases h
  | cls c => cases h
  | ty c => cases h
theorem sat_isi : SatL X (rIsi X.K) dIsi := sat_un2 fun F H x y v u E Q z r1 r2 p => by
  cases y with
  | ty n =>
    have p' : PostG X.K X.mg (repV X.K X.mg) F H E Q (match x.tyOf with | some t => (match kitB t n with | some b => .ok (.bl b) | none => .stuck) | none => .stuck) := p
    cases et : x.tyOf with
    | none => rw [et] at p'; exact p'.elim
    | some t =>
      rw [et] at p'
      have p2 : PostG X.K X.mg (repV X.K X.mg) F H E Q (match kitB t n with | some b => .ok (.bl b) | none => .stuck) := p'
      cases ek : kitB t n with
      | none => rw [ek] at p2; exact p2.elim
      | some b =>
        rw [ek] at p2
        exact ⟨v, .ty n, .type t, .type n, b, by rw [r2.ty_iff], .ty n, ty_ok z r1 et, kit_ty ek, PostG.ok p2 z Rp.bl⟩
  | _ => exact p.elim
end
end DL
set_option Elab.async false
set_option linter.all false
set_option maxRecDepth 100000
set_option maxHeartbeats 4000000
/-! The data layer: statements, loops, comprehensions, defs. -/
namespace DL
open PySem PySem.Spec L2

/-- where a statement leads -/
inductive Out where
  | nx (Γ : DL.Env) | rt (d : D) | ro (ds : List D) | bk (Γ : DL.Env) | ct (Γ : DL.Env) | exc (x : D) (Γ : DL.Env) | stuck
def R.out {α : Type} (Γ : DL.Env) (r : R α) (k : α → Out) : Out := match r with
  | .ok a => k a
  | .exc x => .exc x Γ
  | .stuck => .stuck

def PostS (X : Cx) (W : WX) (F0 : Fe) (H0 : Hp) (Dn : Ends) : Out → Prop
  | .nx Γ => ∀ σ F H, Rel X.K X.mg F0 H0 F H σ Γ → Dn.nx σ H
  | .bk Γ => ∀ σ F H, Rel X.K X.mg F0 H0 F H σ Γ → Dn.bk σ H
  | .ct Γ => ∀ σ F H, Rel X.K X.mg F0 H0 F H σ Γ → Dn.ct σ H
  | .rt d => ∀ v F H, Ext F0 H0 F H → Rp X.K X.mg F d v → Dn.rt v H
  | .ro ds => ∀ v F H, Ext F0 H0 F H → OwnL X.K X.mg H0 F H ds v → Dn.rt v H
  | .exc x Γ => ∀ cls od σ F H, Rel X.K X.mg F0 H0 F H σ Γ → RpX X.K X.mg F x cls od → W cls od σ H
  | .stuck => False
def tDS (X : Cx) (W : WX) (g : DL.Env → Out) : TS := fun Dn σ H => ∃ F0 H0 F Γ, Rel X.K X.mg F0 H0 F H σ Γ ∧ PostS X W F0 H0 Dn (g Γ)
abbrev DS (X : Cx) (W : WX) (st : Stmt) (g : DL.Env → Out) : Prop := PS X st (tDS X W g)
abbrev DSs (X : Cx) (W : WX) (st : List Stmt) (g : DL.Env → Out) : Prop := PSs X st (tDS X W g)
section
variable {X : Cx} {st : Stmt} {sts : List Stmt}
theorem PS.weak {t t' : TS} (h : PS X st t) (w : ∀ Dn σ H, t' Dn σ H → t Dn σ H) : PS X st t' := ⟨fun pins s σ H Dn I q => h.run pins s σ H Dn I (w Dn σ H q)⟩
theorem PSs.weak {t t' : TS} (h : PSs X sts t) (w : ∀ Dn σ H, t' Dn σ H → t Dn σ H) : PSs X sts t' := ⟨fun pins s σ H Dn I q => h.run pins s σ H Dn I (w Dn σ H q)⟩
end

/-! ### functions of statements -/
def sNx : DL.Env → Out := fun Γ => .nx Γ
def sBk : DL.Env → Out := fun Γ => .bk Γ
def sCt : DL.Env → Out := fun Γ => .ct Γ
def Out.andThen (o : Out) (g : DL.Env → Out) : Out := match o with
  | .nx Γ => g Γ
  | o => o
def sSeq (g1 g2 : DL.Env → Out) : DL.Env → Out := fun Γ => (g1 Γ).andThen g2
def sRet (f : DL.Env → R D) : DL.Env → Out := fun Γ => (f Γ).out Γ .rt
def sRetO (f : DL.Env → R (List D)) : DL.Env → Out := fun Γ => (f Γ).out Γ .ro
def sRetN : DL.Env → Out := fun _ => .rt .non
def sRetS (i : Nat) : DL.Env → Out := fun Γ => match Env.at_ Γ i with
  | some (.own ds) => .ro ds
  | _ => .stuck
def sDrop (f : DL.Env → R D) : DL.Env → Out := fun Γ => (f Γ).out Γ fun _ => .nx Γ
def sIf (f : DL.Env → R Bool) (g h : DL.Env → Out) : DL.Env → Out := fun Γ => (f Γ).out Γ fun b => match b with
  | true => g Γ
  | false => h Γ
def sFrz (i : Nat) (g : DL.Env → Out) : DL.Env → Out := fun Γ => g (Env.frz Γ i)
abbrev Tg := D → DL.Env → Option DL.Env
abbrev Tgs := List D → DL.Env → Option DL.Env
def gNm (i : Nat) : Tg := fun d Γ => some (Γ.set i (some (.val d)))
def gsNil : Tgs := fun ds Γ => match ds with
  | [] => some Γ
  | _ => none
def gsCons (h : Tg) (hs : Tgs) : Tgs := fun ds Γ => match ds with
  | d :: r => (h d Γ).bind fun Γ1 => hs r Γ1
  | [] => none
def gTp (n : Nat) (hs : Tgs) : Tg := fun d Γ => match d with
  | .tup ds => if ds.length = n then hs ds Γ else none
  | _ => none
def sSet (h : Tg) (f : DL.Env → R D) : DL.Env → Out := fun Γ => (f Γ).out Γ fun d => match h d Γ with
  | some Γ' => .nx Γ'
  | none => .stuck
def sSetO (i : Nat) (f : DL.Env → R (List D)) : DL.Env → Out := fun Γ => (f Γ).out Γ fun ds => .nx (Γ.set i (some (.own ds)))
def sSetD (i : Nat) (f : DL.Env → R (List Key × List D)) : DL.Env → Out := fun Γ => (f Γ).out Γ fun ds => .nx (Γ.set i (some (.dic ds.1 ds.2)))
def sApp (i : Nat) (f : DL.Env → R D) : DL.Env → Out := fun Γ => match Env.at_ Γ i with
  | some (.own ds) => (f Γ).out Γ fun d => if ds.length < LIM then .nx (Γ.set i (some (.own (ds ++ [d])))) else .stuck
  | _ => .stuck
def sSetIx (i : Nat) (fk fv : DL.Env → R D) : DL.Env → Out := fun Γ => (fv Γ).out Γ fun d => match Env.at_ Γ i with
  | some (.own ds) => (fk Γ).out Γ fun k => match k with
    | .int k => (match ixN ds.length k with | some j => .nx (Γ.set i (some (.own (ds.set j d)))) | none => .stuck)
    | _ => .stuck
  | _ => .stuck
def loopF (h : Tg) (g : DL.Env → Out) : List D → DL.Env → Out
  | [], Γ => .nx Γ
  | d :: ds, Γ => match h d Γ with
    | none => .stuck
    | some Γ1 => match g Γ1 with
      | .nx Γ2 => loopF h g ds Γ2
      | .ct Γ2 => loopF h g ds Γ2
      | .bk Γ2 => .nx Γ2
      | o => o
def sFor (fi : DL.Env → R (List D)) (h : Tg) (g : DL.Env → Out) : DL.Env → Out := fun Γ => (fi Γ).out Γ fun ds => loopF h g ds Γ
def loopW (f : DL.Env → R Bool) (g : DL.Env → Out) : Nat → DL.Env → Out
  | 0, _ => .stuck
  | n + 1, Γ => (f Γ).out Γ fun b => match b with
    | false => .nx Γ
    | true => match g Γ with
      | .nx Γ2 => loopW f g n Γ2
      | .ct Γ2 => loopW f g n Γ2
      | .bk Γ2 => .nx Γ2
      | o => o
def sWhile (n : DL.Env → Nat) (f : DL.Env → R Bool) (g : DL.Env → Out) : DL.Env → Out := fun Γ => loopW f g (n Γ) Γ
def wipeE (Γ : DL.Env) : List Nat → DL.Env
  | [] => Γ
  | v :: vs => (wipeE Γ vs).set v none
/-- the items of a comprehension over ds: the frame is Γ, its own names wiped -/
def lcF (h : Tg) (ft : DL.Env → R Bool) (fe : DL.Env → R D) (Γ : DL.Env) : List D → R (List D)
  | [] => .ok []
  | d :: ds => match h d Γ with
    | none => .stuck
    | some Γ1 => match ft Γ1 with
      | .ok true => (match fe Γ1 with
        | .ok e => (match lcF h ft fe Γ ds with
          | .ok es => .ok (e :: es)
          | _ => .stuck)
        | _ => .stuck)
      | .ok false => lcF h ft fe Γ ds
      | _ => .stuck
def oLc (vs : List Nat) (fi : DL.Env → R (List D)) (h : Tg) (ft : DL.Env → R Bool) (fe : DL.Env → R D) : DL.Env → R (List D) := fun Γ => (fi Γ).bind fun ds =>
  match lcF h ft fe (wipeE Γ vs) ds with
  | .ok es => if ds.length ≤ LIM then .ok es else .stuck
  | _ => .stuck

section
variable {X : Cx} {W : WX} {F0 : Fe} {H0 F H : Hp} {σ : L2.St} {Γ : DL.Env} {Dn : Ends} {st : Stmt} {rest : List Stmt} {e a b : Expr} {es : List Expr} {g g1 g2 : DL.Env → Out} {f fa fb : DL.Env → R D} {fo : DL.Env → R (List D)} {ft : DL.Env → R Bool} {pos p : Pos}
/-- an expression's reading, then the statement's -/
theorem PostS.out {α β : Type} {rep : Hp → Hp → Hp → α → β → Prop} {r : R α} {k : α → Out} {Q : β → Hp → Prop} (rl : Rel X.K X.mg F0 H0 F H σ Γ) (p : PostS X W F0 H0 Dn (r.out Γ k))
    (h : ∀ a b F' H', r = .ok a → Ext F H F' H' → rep H F' H' a b → PostS X W F0 H0 Dn (k a) → Q b H') : PostG X.K X.mg rep F H (WE W σ) Q r := by
  cases r with
  | ok a => exact fun b F' H' x q => h a b F' H' rfl x q p
  | exc x => exact fun cls od F' H' y q => p cls od σ F' H' (rl.step y) q
  | stuck => exact p
theorem ds_pass : DS X W (.Pass pos) sNx := PS.weak ps_pass fun _ _ _ ⟨_, _, _, _, r, p⟩ => p _ _ _ r
theorem ds_break : DS X W (.Break pos) sBk := PS.weak ps_break fun _ _ _ ⟨_, _, _, _, r, p⟩ => p _ _ _ r
theorem ds_continue : DS X W (.Continue pos) sCt := PS.weak ps_continue fun _ _ _ ⟨_, _, _, _, r, p⟩ => p _ _ _ r
theorem ds_doc {x j pos'} : DS X W (.Expr (.Constant (.str x) j pos) pos') sNx := PS.weak ps_doc fun _ _ _ ⟨_, _, _, _, r, p⟩ => p _ _ _ r
theorem dss_nil : DSs X W [] sNx := PSs.weak pss_nil fun _ _ _ ⟨_, _, _, _, r, p⟩ => p _ _ _ r
theorem dss_one (h : DS X W st g) : DSs X W [st] g := pss_one h
theorem dss_cons (h1 : DS X W st g1) (h2 : DSs X W rest g2) : DSs X W (st :: rest) (sSeq g1 g2) := by
  refine PSs.weak (pss_cons h1 h2) ?_
  rintro Dn σ H ⟨F0, H0, F, Γ, r, p⟩
  refine ⟨F0, H0, F, Γ, r, ?_⟩
  revert p
  unfold sSeq
  cases g1 Γ with
  | nx Γ' => exact fun p σ' F' H' r' => ⟨F0, H0, F', Γ', r', p⟩
  | _ => exact fun p => p
/-- what the proof never comes to -/
theorem ds_never : DS X W st (fun _ => .stuck) := PS.weak ps_never fun _ _ _ ⟨_, _, _, _, _, p⟩ => p
theorem dss_never {sts : List Stmt} : DSs X W sts (fun _ => .stuck) := PSs.weak pss_never fun _ _ _ ⟨_, _, _, _, _, p⟩ => p
theorem ds_ret (h : DE X W e f) : DS X W (.Return (some e) pos) (sRet f) := by
  refine PS.weak (ps_ret h) ?_
  rintro Dn σ H ⟨F0, H0, F, Γ, r, p⟩
  exact ⟨F0, H0, F, Γ, r, PostS.out r p fun d v F' H' _ x q p' => p' v F' H' (r.ext.trans x) q⟩
theorem ds_retO (h : DO X W e fo) : DS X W (.Return (some e) pos) (sRetO fo) := by
  refine PS.weak (ps_ret h) ?_
  rintro Dn σ H ⟨F0, H0, F, Γ, r, p⟩
  refine ⟨F0, H0, F, Γ, r, PostS.out r p fun d v F' H' _ x q p' => p' v F' H' (r.ext.trans x) ?_⟩
  obtain ⟨l, vs, e1, e2, e3, e4, e5⟩ := q
  exact ⟨l, vs, e1, e2, e3, r.ext.hh.free e4, e5⟩
theorem ds_retN : DS X W (.Return none pos) sRetN := PS.weak ps_retN fun _ _ _ ⟨_, _, _, _, r, p⟩ => p _ _ _ r.ext Rp.non
theorem ds_retS (i : Nat) {x : Str} (hN : X.N[i]? = some x := by rfl) (hv : Vis X.env.scope x := by first | exact Or.inl (by kernel_rfl) | exact Or.inr (Or.inl (by kernel_rfl)) | exact Or.inr (Or.inr (by kernel_rfl))) (hd : (x == ("__debug__" : Str)) = false := by kernel_rfl)
    (hcd : (x == ("__classdict__" : Str)) = false := by kernel_rfl) : DS X W (.Return (some (.Name x p)) pos) (sRetS i) := by
  refine PS.weak (ps_ret (pe_var hN hv hd hcd)) ?_
  rintro Dn σ H ⟨F0, H0, F, Γ, r, p⟩
  revert p
  unfold sRetS
  cases e : Env.at_ Γ i with
  | none => exact fun p => p.elim
  | some s =>
    cases s with
    | oob b c ns fs => exact fun p => p.elim
    | val d => exact fun p => p.elim
    | own ds =>
      intro p
      obtain ⟨v, h1, h2⟩ := r.slot i _ (at_get e)
      exact ⟨v, h1, p v F H r.ext h2⟩
    | dic ks ds => exact fun p => p.elim
theorem ds_expr (h : DE X W e f) (hs : swapsWith e none pos.line X.env = pure false := by rfl) : DS X W (.Expr e pos) (sDrop f) := by
  refine PS.weak (ps_expr h hs) ?_
  rintro Dn σ H ⟨F0, H0, F, Γ, r, p⟩
  exact ⟨F0, H0, F, Γ, r, PostS.out r p fun d v F' H' _ x q p' => p' _ _ _ (r.step x)⟩
theorem ds_if {c : Expr} {as bs : List Stmt} (hc : DT X W c ft) (ha : DSs X W as g1) (hb : DSs X W bs g2) : DS X W (.If c as bs pos) (sIf ft g1 g2) := by
  refine PS.weak (ps_if hc ha hb) ?_
  rintro Dn σ H ⟨F0, H0, F, Γ, r, p⟩
  refine ⟨F0, H0, F, Γ, r, PostS.out r p fun k k' F' H' _ x q p' => ?_⟩
  have e : k' = k := q
  subst e
  cases k' with
  | true => exact iteT ⟨F0, H0, F', Γ, r.step x, p'⟩
  | false => exact iteF ⟨F0, H0, F', Γ, r.step x, p'⟩
theorem RpL.of {K : PySem.W.Frag} {mg : Str → Option Value} {F : Hp} : ∀ {ds : List D} {vs : List V}, ds.length = vs.length → (∀ (i : Nat) (d : D) (v : V), ds[i]? = some d → vs[i]? = some v → Rp K mg F d v) → RpL K mg F ds vs
  | [], [], _, _ => RpL.nil
  | [], _ :: _, h, _ => by cases h
  | _ :: _, [], h, _ => by cases h
  | d :: ds, v :: vs, h, k => RpL.cons (k 0 d v rfl rfl) (RpL.of (by simpa using h) fun i d' v' e1 e2 => k (i + 1) d' v' (by simpa using e1) (by simpa using e2))
open Classical in
/-- an object that this frame alone holds, with its own lists and dicts, becomes one that nobody changes -/
theorem Rel.freezeB {K : PySem.W.Frag} {mg : Str → Option Value} {F0 : Fe} {H0 F H : Hp} {σ : L2.St} {Γ : DL.Env} (r : Rel K mg F0 H0 F H σ Γ) {i : Nat} {b : Bool} {c : Str} {ns : List Str} {fs : List Fl} (ei : Γ[i]? = some (some (.oob b c ns fs))) :
    ∃ F', Rel K mg F0 H0 F' H σ (Γ.set i (some (.val (.obj c ns (fs.map Fl.frz))))) ∧ Same F F' := by
  obtain ⟨v, hv, sv⟩ := r.slot i _ ei
  have sv0 := sv
  obtain ⟨a, C, dx, vs, e, ec, eh, el, el2, ef, e0, hf, hi2⟩ := sv
  have hi : i < Γ.length := (List.getElem?_eq_some_iff.mp ei).1
  let F1 : Hp := fun l => if foot H (.oob b c ns fs) v l then H l else F l
  have inF : ∀ l, foot H (.oob b c ns fs) v l → F1 l = H l := fun l q => if_pos q
  have outF : ∀ l, ¬ foot H (.oob b c ns fs) v l → F1 l = F l := fun l q => if_neg q
  have ss : Same F F1 := fun l o q => by
    rw [outF l fun z => by
      have := (foot_at sv0 z).choose_spec.2.1
      rw [q] at this
      cases this]
    exact q
  refine ⟨F1, ⟨⟨r.ext.ff.trans ss, fun l o q => ?_, r.ext.hh, fun l o q => ?_⟩, by rw [List.length_set]; exact r.len, fun j t q => ?_, fun j k t t' u w m ej ek hj hk os ot => ?_, r.slf.setE ei fun _ _ _ z => nomatch z⟩, ss⟩
  · by_cases z : foot H (.oob b c ns fs) v l
    · rw [inF l z] at q
      exact .inl q
    · rw [outF l z] at q
      exact r.ext.fh l o q
  · by_cases z : foot H (.oob b c ns fs) v l
    · exact .inr (foot_at sv0 z).choose_spec.2.2
    · rw [outF l z] at q
      exact r.ext.new l o q
  · by_cases z : i = j
    · subst z
      rw [List.getElem?_set_self hi] at q
      cases q
      refine ⟨v, hv, ?_⟩
      show Rp K mg F1 (.obj c ns (fs.map Fl.frz)) v
      unfold Rp
      refine ⟨a, C, dx, vs, e, ec, by rw [inF a (Or.inl e)]; exact eh, el, RpL.of (by rw [List.length_map, el2]) fun k d u h1 h2 => ?_⟩
      rw [List.getElem?_map, Option.map_eq_some_iff] at h1
      obtain ⟨f, h3, rfl⟩ := h1
      have hk := hf k f u h3 h2
      cases f with
      | val d => exact Rp.mono ss _ _ hk
      | own ds =>
        obtain ⟨l, us, g1, g2, g3, g4, g5⟩ := hk
        show Rp K mg F1 (.lst ds) u
        unfold Rp
        exact ⟨l, us, g1, by rw [inF l (Or.inr ⟨a, C, dx, vs, k, _, e, eh, el, h3, rfl, by rw [h2, g1]⟩)]; exact g2, RpL.mono ss _ _ g5⟩
      | dic ks ds =>
        obtain ⟨l, us, g1, g2, gl, g3, g4, g5⟩ := hk
        show Rp K mg F1 (.dk ks ds) u
        unfold Rp
        exact ⟨l, us, g1, by rw [inF l (Or.inr ⟨a, C, dx, vs, k, _, e, eh, el, h3, rfl, by rw [h2, g1]⟩)]; exact g2, gl, RpL.mono ss _ _ g5⟩
    · rw [List.getElem?_set_ne z] at q
      obtain ⟨w, h1, h2⟩ := r.slot j t q
      refine ⟨w, h1, h2.gen ss (fun m y => ?_) (fun m ob _ y => y) fun m y => (foot_at h2 y).choose_spec.2.2⟩
      rw [outF m fun y2 => z (r.inj i j _ t v w m ei q hv h1 y2 y)]
      exact (foot_at h2 y).choose_spec.2.1
  · have nj : i ≠ j := fun q => by
      subst q
      rw [List.getElem?_set_self hi] at ej
      cases ej
      exact os
    have nk : i ≠ k := fun q => by
      subst q
      rw [List.getElem?_set_self hi] at ek
      cases ek
      exact ot
    rw [List.getElem?_set_ne nj] at ej
    rw [List.getElem?_set_ne nk] at ek
    exact r.inj j k t t' u w m ej ek hj hk os ot
theorem frz_rel (r : Rel X.K X.mg F0 H0 F H σ Γ) (i : Nat) : ∃ F', Rel X.K X.mg F0 H0 F' H σ (Env.frz Γ i) ∧ Same F F' := by
  unfold Env.frz
  cases e : Env.at_ Γ i with
  | none => exact ⟨F, r, Same.refl _⟩
  | some s =>
    cases s with
    | val d =>
      have e' : Γ.set i (some (Slot.frz (.val d))) = Γ := by
        have q := at_get e
        apply List.ext_getElem?
        intro j
        by_cases h : i = j
        · subst h
          rw [List.getElem?_set_self (List.getElem?_eq_some_iff.mp q).1, q]
          rfl
        · rw [List.getElem?_set_ne h]
      show ∃ F', Rel X.K X.mg F0 H0 F' H σ (Γ.set i (some (Slot.frz (.val d)))) ∧ Same F F'
      rw [e']
      exact ⟨F, r, Same.refl _⟩
    | own ds => exact r.freeze (at_get e)
    | dic ks ds => exact r.freezeD (at_get e)
    | oob b c ns fs => exact r.freezeB (at_get e)
theorem ds_frz (i : Nat) (h : DS X W st g) : DS X W st (sFrz i g) := by
  refine PS.weak h ?_
  rintro Dn σ H ⟨F0, H0, F, Γ, r, p⟩
  obtain ⟨F', r', _⟩ := frz_rel r i
  exact ⟨F0, H0, F', _, r', p⟩
/-- the own thing at slot i read within e -/
theorem de_bor (i : Nat) (h : DE X W e f) : DE X W e (eBor i f) := by
  refine PE.weak h ?_
  rintro σ H Q ⟨F0, H0, F, Γ, r, p⟩
  obtain ⟨F', r', ss⟩ := frz_rel r i
  refine ⟨F0, H0, F', _, r', ?_⟩
  revert p
  unfold eBor
  cases f (Env.frz Γ i) with
  | ok d =>
    intro p
    obtain ⟨c, p⟩ := ifR p
    intro v F1 H1 x q
    have x' : Ext F H F H1 := ⟨Same.refl _, x.fh.sub (ss.trans x.ff), x.hh, fun _ _ z => .inl z⟩
    refine PostG.at p x' ?_
    have q' : Rp X.K X.mg F1 d v := q
    show Rp X.K X.mg F d v
    cases d with
    | non => rw [q'.non_iff]; exact Rp.non
    | bl b => rw [q'.bl_iff]; exact Rp.bl
    | int b => rw [q'.int_iff]; exact Rp.int
    | str b => rw [q'.str_iff]; exact Rp.str
    | _ => exact absurd c (by simp [D.scal])
  | exc x => exact fun p => p.elim
  | stuck => exact fun p => p.elim
theorem dt_bor (i : Nat) (h : DT X W e ft) : DT X W e (bBor i ft) := by
  refine PT.weak h ?_
  rintro σ H Q ⟨F0, H0, F, Γ, r, p⟩
  obtain ⟨F', r', ss⟩ := frz_rel r i
  refine ⟨F0, H0, F', _, r', ?_⟩
  revert p
  unfold bBor
  cases ft (Env.frz Γ i) with
  | ok d =>
    intro p v F1 H1 x q
    have x' : Ext F H F H1 := ⟨Same.refl _, x.fh.sub (ss.trans x.ff), x.hh, fun _ _ z => .inl z⟩
    exact PostG.at p x' q
  | exc x => exact fun p => p.elim
  | stuck => exact fun p => p.elim
/-- xs[k] of the own list at slot i -/
theorem de_ownIx (i : Nat) {x : Str} (hb : DE X W b f) (hx : PlainIx b) (hN : X.N[i]? = some x := by rfl) (hv : Vis X.env.scope x := by first | exact Or.inl (by kernel_rfl) | exact Or.inr (Or.inl (by kernel_rfl)) | exact Or.inr (Or.inr (by kernel_rfl))) (hd : (x == ("__debug__" : Str)) = false := by kernel_rfl)
    (hcd : (x == ("__classdict__" : Str)) = false := by kernel_rfl) : DE X W (.Subscript (.Name x p) b pos) (eOwnIx i f) := by
  refine PE.weak (pe_ix ix_seq (pe_var hN hv hd hcd) hb hx) ?_
  rintro σ H Q ⟨F0, H0, F, Γ, r, p⟩
  revert p
  unfold eOwnIx
  cases e : Env.at_ Γ i with
  | none => exact fun p => p.elim
  | some s =>
    cases s with
    | oob b c ns fs => exact fun p => p.elim
    | val d =>
      intro p
      obtain ⟨v, h1, rp⟩ := r.slot i _ (at_get e)
      have rp : Rp X.K X.mg F d v := rp
      exact ⟨v, h1, F0, H0, F, Γ, r, PostG.bind p (fun k w F1 H1 _ x1 r1 p1 => sat_ix F1 H1 d k v w _ _ x1.fh (Rp.mono x1.ff _ _ rp) r1 p1) fun _ _ _ _ _ h => h⟩
    | dic ks ds => exact fun p => p.elim
    | own ds =>
      intro p
      obtain ⟨v, h1, l, vs, e1, e2, e3, e4, e5⟩ := r.slot i _ (at_get e)
      subst e1
      refine ⟨_, h1, F0, H0, F, Γ, r, PostG.bind p (fun k w F1 H1 _ x1 r1 p1 => ?_) fun _ _ _ _ _ h => h⟩
      cases k with
      | int k =>
        rw [(show Rp X.K X.mg F1 (.int k) w from r1).int_iff]
        have p' : PostG X.K X.mg (repV X.K X.mg) F1 H1 (WE W σ) Q (match atI ds k with | some d => .ok d | none => .stuck) := p1
        cases ek : atI ds k with
        | none => rw [ek] at p'; exact p'.elim
        | some d =>
          rw [ek] at p'
          obtain ⟨w, h1, h2⟩ := atI_rp (RpL.mono x1.ff _ _ e5) ek
          exact .inl ⟨l, vs, k, w, rfl, rfl, SqL.of (x1.hh _ _ e2), h1, PostG.ok p' x1.fh h2⟩
      | _ => exact p1.elim

/-! ### targets -/
def tDG (X : Cx) (vs : List Nat) (h : Tg) : TG := fun v σ H Q => ∃ F0 H0 F Γ d, Rel X.K X.mg F0 H0 F H σ Γ ∧ Rp X.K X.mg F d v ∧ ∃ Γ', h d Γ = some Γ' ∧ ∀ σ', σ'.length = σ.length → (∀ j, j ∉ vs → σ'[j]? = σ[j]?) → Rel X.K X.mg F0 H0 F H σ' Γ' → Q σ' H
def tDGs (X : Cx) (vs : List Nat) (h : Tgs) : TGs := fun us σ H Q => ∃ F0 H0 F Γ ds, Rel X.K X.mg F0 H0 F H σ Γ ∧ RpL X.K X.mg F ds us ∧ ∃ Γ', h ds Γ = some Γ' ∧ ∀ σ', σ'.length = σ.length → (∀ j, j ∉ vs → σ'[j]? = σ[j]?) → Rel X.K X.mg F0 H0 F H σ' Γ' → Q σ' H
abbrev DG (X : Cx) (tg : Expr) (vs : List Nat) (h : Tg) : Prop := PG X tg (tDG X vs h)
abbrev DGs (X : Cx) (tg : List Expr) (vs : List Nat) (h : Tgs) : Prop := PGs X tg (tDGs X vs h)
theorem PG.weak {X : Cx} {tg : Expr} {t t' : TG} (h : PG X tg t) (w : ∀ v σ H Q, t' v σ H Q → t v σ H Q) : PG X tg t' := ⟨fun pins s σ H v u Q I r q => h.run pins s σ H v u Q I r (w v σ H Q q)⟩
theorem PGs.weak {X : Cx} {tg : List Expr} {t t' : TGs} (h : PGs X tg t) (w : ∀ v σ H Q, t' v σ H Q → t v σ H Q) : PGs X tg t' := ⟨fun pins s σ H v u Q I r q => h.run pins s σ H v u Q I r (w v σ H Q q)⟩
theorem dg_name (i : Nat) {x : Str} (hN : X.N.Nodup) (hi : X.N[i]? = some x := by rfl) (hx : Loc X.env.scope x := by first | exact Or.inl (by kernel_rfl) | exact Or.inr (by kernel_rfl)) (hf : X.fn x = true ∨ X.env.scope.names.lookup x = some .local := by first | exact .inl rfl | exact .inr (by kernel_rfl) | exact .inl (by kernel_rfl)) :
    DG X (.Name x pos) [i] (gNm i) := by
  refine PG.weak (pg_name hN hi hx hf) ?_
  rintro v σ H Q ⟨F0, H0, F, Γ, d, r, q, Γ', e, k⟩
  cases e
  exact k _ (by rw [List.length_set]) (fun j hj => List.getElem?_set_ne (fun z => hj (by simp [z]))) (r.setV q)
theorem dgs_nil : DGs X [] [] gsNil := by
  refine PGs.weak pgs_nil ?_
  rintro us σ H Q ⟨F0, H0, F, Γ, ds, r, q, Γ', e, k⟩
  cases ds with
  | nil =>
    cases e
    exact ⟨q.nil_iff, k σ rfl (fun _ _ => rfl) r⟩
  | cons d r => cases e
theorem dgs_cons {vs ws : List Nat} {h : Tg} {hs : Tgs} (h1 : DG X e vs h) (h2 : DGs X es ws hs) (hst : (assignEach (e :: es) X.env).map (·.2) = assign e X.env :: (assignEach es X.env).map (·.2) := by rfl) : DGs X (e :: es) (vs ++ ws) (gsCons h hs) := by
  refine PGs.weak (pgs_cons h1 h2 hst) ?_
  rintro us σ H Q ⟨F0, H0, F, Γ, ds, r, q, Γ', e, k⟩
  cases ds with
  | nil => cases e
  | cons d ds =>
    obtain ⟨v, us', eu, r1, rr⟩ := q.cons_iff
    have e' : ((h d Γ).bind fun Γ1 => hs ds Γ1) = some Γ' := e
    cases eh : h d Γ with
    | none => rw [eh] at e'; cases e'
    | some Γ1 =>
      rw [eh] at e'
      refine ⟨v, us', eu, F0, H0, F, Γ, d, r, r1, Γ1, eh, fun σ1 l1 k1 rl1 => ?_⟩
      refine ⟨F0, H0, F, Γ1, ds, rl1, rr, Γ', e', fun σ2 l2 k2 rl2 => ?_⟩
      exact k σ2 (l2.trans l1) (fun j hj => (k2 j fun z => hj (List.mem_append_right _ z)).trans (k1 j fun z => hj (List.mem_append_left _ z))) rl2
theorem dg_tup {vs : List Nat} {k n : Nat} {hs : Tgs} (hc : X.calm = true) (h : DGs X es vs hs) (hn : (assignEach es X.env).length = n := by rfl) (hst : (assignEach es X.env).findIdx? (·.1) = none := by rfl) : DG X (.Tuple es k pos) vs (gTp n hs) := by
  refine PG.weak (pg_tup hc h hn hst) ?_
  rintro v σ H Q ⟨F0, H0, F, Γ, d, r, q, Γ', e, k⟩
  cases d with
  | tup ds =>
    obtain ⟨a, us, e1, e2, e3⟩ := q.tupH r.fz
    have e' : (if ds.length = n then hs ds Γ else none) = some Γ' := e
    by_cases hl : ds.length = n
    · rw [if_pos hl] at e'
      exact ⟨a, us, e1, SqT.of e2, by rw [← e3.length]; exact hl, F0, H0, F, Γ, ds, r, e3, Γ', e', k⟩
    · rw [if_neg hl] at e'
      cases e'
  | _ => cases e
theorem ds_asg {tg : Expr} {vs : List Nat} {h : Tg} (he : DE X W e f) (hg : DG X tg vs h) (hs : swapsWithSole [tg] e pos.line X.env = pure false := by rfl) (hw : swappedStores [tg] e X.env = pure none := by rfl)
    (h1 : (assignEach [tg] X.env).map (·.2) = [assign tg X.env] := by rfl) : DS X W (.Assign [tg] e pos) (sSet h f) := by
  refine PS.weak (ps_asg he hg hs hw h1) ?_
  rintro Dn σ H ⟨F0, H0, F, Γ, r, p⟩
  refine ⟨F0, H0, F, Γ, r, PostS.out r p fun d v F' H' _ x q p' => ?_⟩
  cases eh : h d Γ with
  | none => rw [eh] at p'; exact p'.elim
  | some Γ' =>
    rw [eh] at p'
    exact ⟨F0, H0, F', Γ, d, r.step x, q, Γ', eh, fun σ' _ _ r' => p' _ _ _ r'⟩
theorem ds_setO (i : Nat) {x : Str} (hN : X.N.Nodup) (he : DO X W e fo) (hi : X.N[i]? = some x := by rfl) (hx : Loc X.env.scope x := by first | exact Or.inl (by kernel_rfl) | exact Or.inr (by kernel_rfl)) (hf : X.fn x = true ∨ X.env.scope.names.lookup x = some .local := by first | exact .inl rfl | exact .inr (by kernel_rfl) | exact .inl (by kernel_rfl))
    (hs : swapsWithSole [.Name x p] e pos.line X.env = pure false := by rfl) (hw : swappedStores [.Name x p] e X.env = pure none := by rfl)
    (h1 : (assignEach [.Name x p] X.env).map (·.2) = [assign (.Name x p) X.env] := by rfl) : DS X W (.Assign [.Name x p] e pos) (sSetO i fo) := by
  refine PS.weak (ps_asg he (pg_name hN hi hx hf) hs hw h1) ?_
  rintro Dn σ H ⟨F0, H0, F, Γ, r, p⟩
  exact ⟨F0, H0, F, Γ, r, PostS.out r p fun ds v F' H' _ x q p' => p' _ _ _ (r.setO x (s := .own ds) rfl q)⟩
theorem ds_setD (i : Nat) {x : Str} {fd : DL.Env → R (List Key × List D)} (hN : X.N.Nodup) (he : DDt X W e fd) (hi : X.N[i]? = some x := by rfl) (hx : Loc X.env.scope x := by first | exact Or.inl (by kernel_rfl) | exact Or.inr (by kernel_rfl)) (hf : X.fn x = true ∨ X.env.scope.names.lookup x = some .local := by first | exact .inl rfl | exact .inr (by kernel_rfl) | exact .inl (by kernel_rfl))
    (hs : swapsWithSole [.Name x p] e pos.line X.env = pure false := by rfl) (hw : swappedStores [.Name x p] e X.env = pure none := by rfl)
    (h1 : (assignEach [.Name x p] X.env).map (·.2) = [assign (.Name x p) X.env] := by rfl) : DS X W (.Assign [.Name x p] e pos) (sSetD i fd) := by
  refine PS.weak (ps_asg he (pg_name hN hi hx hf) hs hw h1) ?_
  rintro Dn σ H ⟨F0, H0, F, Γ, r, p⟩
  exact ⟨F0, H0, F, Γ, r, PostS.out r p fun ds v F' H' _ x q p' => p' _ _ _ (r.setO x (s := .dic ds.1 ds.2) rfl q)⟩
/-- xs.append(e), xs the own list at slot i -/
theorem ds_append (i : Nat) {x : Str} {p1 p2 cpos : Pos} (he : DE X W e f) (hN : X.N[i]? = some x := by rfl) (hv : Vis X.env.scope x := by first | exact Or.inl (by kernel_rfl) | exact Or.inr (Or.inl (by kernel_rfl)) | exact Or.inr (Or.inr (by kernel_rfl))) (hd : (x == ("__debug__" : Str)) = false := by kernel_rfl)
    (hcd : (x == ("__classdict__" : Str)) = false := by kernel_rfl) (hs1 : starEach [e] X.env = (false, eval e X.env) :: starEach [] X.env := by rfl) (hline : (p2.endLine == cpos.line) = true := by rfl)
    (hfew : ((backTo cpos (starEach [e] X.env)).all (fun x => !x.1) && (backToKw cpos (keywordEach [] X.env)).all (fun x => x.1.isSome)
      && decide (([e] : List Expr).length + ([] : List Keyword).length + (if ([] : List Keyword).isEmpty then 0 else 1) < 30)) = true := by rfl)
    (hs : swapsWith (.Call (.Attribute (.Name x p1) "append" p2) [e] [] cpos) none pos.line X.env = pure false := by rfl) :
    DS X W (.Expr (.Call (.Attribute (.Name x p1) "append" p2) [e] [] cpos) pos) (sApp i f) := by
  refine PS.weak (ps_expr (pe_bm PySem.F.plainAttrs_list PySem.F.slot_list_append PySem.F.type_list_append mt_append (pe_var hN hv hd hcd) (pa_cons he pa_nil hs1) rfl hfew hline hs1) hs) ?_
  rintro Dn σ H ⟨F0, H0, F, Γ, r, p⟩
  revert p
  unfold sApp
  cases ei : Env.at_ Γ i with
  | none => exact fun p => p.elim
  | some s =>
    cases s with
    | oob b c ns fs => exact fun p => p.elim
    | val d => exact fun p => p.elim
    | dic ks ds => exact fun p => p.elim
    | own ds =>
      intro p
      obtain ⟨v, h1, l, vs, e1, e2, e3, e4, e5⟩ := r.slot i _ (at_get ei)
      subst e1
      refine ⟨_, h1, .inl ⟨rfl, _, SqL.of e2⟩, F0, H0, F, Γ, r, PostS.out r p fun d w F1 H1 _ x1 r1 p1 => ?_⟩
      by_cases hl : ds.length < LIM
      · rw [if_pos hl] at p1
        refine ⟨l, vs, w, rfl, rfl, x1.hh _ _ e2, by rw [LIM_eq, ← e5.length]; exact hl, p1 _ F1 _ ?_⟩
        have r' := r.step x1
        obtain ⟨_, _, l', vs', f1, f2, f3, f4, f5⟩ := r'.slot i _ (at_get ei)
        refine r'.mutO (at_get ei) rfl h1 rfl ?_
        refine ⟨l, vs ++ [w], rfl, upd_same, ?_, e4, RpL.append (RpL.mono x1.ff _ _ e5) (RpL.cons r1 RpL.nil)⟩
        cases q : F1 l with
        | none => rfl
        | some o =>
          rcases x1.new l o q with z | z
          · rw [e3] at z; cases z
          · rw [e2] at z; cases z
      · rw [if_neg hl] at p1
        exact p1.elim

/-! ### loops -/
/-- a walk gives the trees ds, one by one, while F' stands -/
def WalkD (K : PySem.W.Frag) (mg : Str → Option Value) (F' : Hp) (ds : List D) (J : It) : Prop :=
  Walk J ds.length (fun H => Fz F' H) (fun i H x H'' => ∀ Fc, Same F' Fc → Fz Fc H → ∃ Fi d, Ext Fc H Fi H'' ∧ ds[i]? = some d ∧ Rp K mg Fi d x)
def tDI (X : Cx) (W : WX) (f : DL.Env → R (List D)) : TI := fun σ H Rr => ∃ F0 H0 F Γ, Rel X.K X.mg F0 H0 F H σ Γ ∧ PostG X.K X.mg (fun _ F' _ ds J => WalkD X.K X.mg F' ds J) F H (WE W σ) Rr (f Γ)
abbrev DI (X : Cx) (W : WX) (tg iter : Expr) (f : DL.Env → R (List D)) : Prop := PI X tg iter (tDI X W f)
theorem PI.weak {X : Cx} {tg iter : Expr} {t t' : TI} (h : PI X tg iter t) (w : ∀ σ H Q, t' σ H Q → t σ H Q) : PI X tg iter t' := ⟨fun pins s σ H Q I q => h.run pins s σ H Q I (w σ H Q q)⟩
/-- the entry's knowledge grown by what is known now -/
theorem Rel.rebase {F' : Hp} (r : Rel X.K X.mg F0 H0 F H σ Γ) (s0 : Same F0 F') (s : Same F' F) : Rel X.K X.mg ⟨F', F0.sv⟩ H0 F H σ Γ :=
  ⟨⟨s, r.ext.fh, r.ext.hh, fun a o e => by
    rcases r.ext.new a o e with z | z
    · exact .inl (s0 _ _ z)
    · exact .inr z⟩, r.len, r.slot, r.inj, r.slf⟩
theorem Rel.unbase {F' : Hp} (r : Rel X.K X.mg ⟨F', F0.sv⟩ H0 F H σ Γ) (s0 : Same F0 F') (h : ∀ a o, F' a = some o → F0 a = some o ∨ H0 a = none) : Rel X.K X.mg F0 H0 F H σ Γ :=
  ⟨⟨s0.trans r.ext.ff, r.ext.fh, r.ext.hh, fun a o e => by
    rcases r.ext.new a o e with z | z
    · exact h a o z
    · exact .inr z⟩, r.len, r.slot, r.inj, r.slf⟩
theorem Ext.unbase {F' F2 H2 : Hp} (r : Ext F' H0 F2 H2) (s0 : Same F0 F') (h : ∀ a o, F' a = some o → F0 a = some o ∨ H0 a = none) : Ext F0 H0 F2 H2 :=
  ⟨s0.trans r.ff, r.fh, r.hh, fun a o e => by
    rcases r.new a o e with z | z
    · exact h a o z
    · exact .inr z⟩
/-- the wish of a grown entry by that of the entry -/
theorem PostS.unbase {F' : Hp} {o : Out} (s0 : Same F0 F') (h : ∀ a o, F' a = some o → F0 a = some o ∨ H0 a = none) (p : PostS X W F0 H0 Dn o) : PostS X W ⟨F', F0.sv⟩ H0 Dn o := by
  cases o with
  | nx Γ => exact fun σ F H r => p σ F H (r.unbase s0 h)
  | bk Γ => exact fun σ F H r => p σ F H (r.unbase s0 h)
  | ct Γ => exact fun σ F H r => p σ F H (r.unbase s0 h)
  | rt d => exact fun v F H r q => p v F H (r.unbase s0 h) q
  | ro d => exact fun v F H r q => p v F H (r.unbase s0 h) q
  | exc x Γ => exact fun cls od σ F H r q => p cls od σ F H (r.unbase s0 h) q
  | stuck => exact p
theorem ds_for {tg iter : Expr} {body : List Stmt} {vs : List Nat} {h : Tg} (hp : PassesOwn (model X.prog X.w) X.A X.env X.xe) (hc : X.calm = true) (hi : DI X W tg iter fo) (hg : DG X tg vs h) (hb : DSs X W body g)
    (hs : ∀ x, foldedSetIterable iter X.env x = pure x := by intro _; rfl) : DS X W (.For tg iter body [] pos) (sFor fo h g) := by
  refine PS.weak (ps_for hp hc hi hg hb hs) ?_
  rintro Dn σ H ⟨F0, H0, F, Γ, r, p⟩
  refine ⟨F0, H0, F, Γ, r, PostS.out r p fun ds J F' H' _ x w p' => ?_⟩
  have s0 : Same F0 F' := r.ext.ff.trans x.ff
  have n0 : ∀ a o, F' a = some o → F0 a = some o ∨ H0 a = none := (r.ext.trans x).new
  refine for_it w (fun i σ H => ∃ F Γ, Rel X.K X.mg ⟨F', F0.sv⟩ H0 F H σ Γ ∧ PostS X W F0 H0 Dn (loopF h g (ds.drop i) Γ)) ⟨F', Γ, (r.step x).rebase s0 (Same.refl _), by simpa using p'⟩ (fun i σ H _ ⟨F1, Γ1, r1, _⟩ => r1.ext.fh.sub r1.ext.ff) ?_ ?_
  · rintro i xv σ1 H1 H2 hi ⟨F1, Γ1, r1, p1⟩ y
    obtain ⟨F2, d, x2, ed, rd⟩ := y F1 r1.ext.ff r1.ext.fh
    have edr : ds.drop i = d :: ds.drop (i + 1) := by
      obtain ⟨hlt, he⟩ := List.getElem?_eq_some_iff.mp ed
      rw [← he]
      exact List.drop_eq_getElem_cons hlt
    rw [edr] at p1
    unfold loopF at p1
    cases eh : h d Γ1 with
    | none => rw [eh] at p1; exact p1.elim
    | some Γ2 =>
      rw [eh] at p1
      refine ⟨⟨F', F0.sv⟩, H0, F2, Γ1, d, r1.step x2, rd, Γ2, eh, fun σ2 _ _ r2 => ?_⟩
      refine ⟨⟨F', F0.sv⟩, H0, F2, Γ2, r2, ?_⟩
      revert p1
      dsimp only
      cases eg : g Γ2 with
      | nx Γ3 => exact fun p1 σ3 F3 H3 r3 => ⟨F3, Γ3, r3, p1⟩
      | ct Γ3 => exact fun p1 σ3 F3 H3 r3 => ⟨F3, Γ3, r3, p1⟩
      | bk Γ3 => exact fun p1 σ3 F3 H3 r3 => p1 σ3 F3 H3 (r3.unbase s0 n0)
      | rt d => exact fun p1 => PostS.unbase (o := .rt d) s0 n0 p1
      | ro d => exact fun p1 => PostS.unbase (o := .ro d) s0 n0 p1
      | exc x Γ => exact fun p1 => PostS.unbase (o := .exc x Γ) s0 n0 p1
      | stuck => exact fun p1 => p1
  · rintro σ1 H1 ⟨F1, Γ1, r1, p1⟩
    have ed : ds.drop ds.length = [] := List.drop_length
    rw [ed] at p1
    exact p1 σ1 F1 H1 (r1.unbase s0 n0)
theorem ds_while {c : Expr} {body : List Stmt} (n : DL.Env → Nat) (hp : PassesOwn (model X.prog X.w) X.A X.env X.xe) (hc : DT X W c ft) (hb : DSs X W body g) : DS X W (.While c body [] pos) (sWhile n ft g) := by
  refine PS.weak (ps_while hp hc hb) ?_
  rintro Dn σ H ⟨F0, H0, F, Γ, r, p⟩
  refine ⟨fun m σ H => ∃ F Γ, Rel X.K X.mg F0 H0 F H σ Γ ∧ PostS X W F0 H0 Dn (loopW ft g m Γ), ⟨n Γ, F, Γ, r, p⟩, ?_⟩
  rintro m σ H ⟨F1, Γ1, r1, p1⟩
  cases m with
  | zero => exact p1.elim
  | succ m =>
    refine ⟨F0, H0, F1, Γ1, r1, PostS.out r1 p1 fun k k' F' H' _ x q p' => ?_⟩
    have e : k' = k := q
    subst e
    cases k' with
    | false => exact iteF (p' _ _ _ (r1.step x))
    | true =>
      refine iteT ⟨fun σ' H' => ∃ F Γ, Rel X.K X.mg F0 H0 F H' σ' Γ ∧ PostS X W F0 H0 Dn (loopW ft g m Γ), fun σ' H' h => ⟨m, Nat.lt_succ_self m, h⟩, F0, H0, F', Γ1, r1.step x, ?_⟩
      revert p'
      dsimp only
      cases eg : g Γ1 with
      | nx Γ3 => exact fun p1 σ3 F3 H3 r3 => ⟨F3, Γ3, r3, p1⟩
      | ct Γ3 => exact fun p1 σ3 F3 H3 r3 => ⟨F3, Γ3, r3, p1⟩
      | bk Γ3 => exact fun p1 σ3 F3 H3 r3 => p1 σ3 F3 H3 r3
      | rt d => exact fun p1 => p1
      | ro d => exact fun p1 => p1
      | exc x Γ => exact fun p1 => p1
      | stuck => exact fun p1 => p1

/-! ### what is walked -/
theorem walkD_list {K : PySem.W.Frag} {mg : Str → Option Value} {F' : Hp} {ds : List D} {vs : List V} {a : Addr} (e : F' a = some (.lst vs)) (r : RpL K mg F' ds vs) : WalkD K mg F' ds (Itl K a) := by
  have w := walk_list (K := K) (a := a) (xs := vs)
  unfold WalkD
  rw [r.length]
  refine w.mono (fun H z => SqL.of (z.lst e)) fun i H x H' hi z y Fc s zc => ?_
  obtain ⟨rfl, ex⟩ := y
  obtain ⟨d, ed, rd⟩ := r.getV ex
  exact ⟨Fc, d, Ext.refl zc, ed, Rp.mono s _ _ rd⟩
theorem walkD_scr {K : PySem.W.Frag} {mg : Str → Option Value} {F' : Hp} {ns : List Int} {a : Addr} (e : SqL K F' a (ns.map V.int)) : WalkD K mg F' (ns.map D.int) (Itl K a) := by
  have w := walk_list (K := K) (a := a) (xs := ns.map V.int)
  unfold WalkD
  rw [List.length_map] at w ⊢
  refine w.mono (fun H z => z.seq e) fun i H x H' hi z y Fc s zc => ?_
  obtain ⟨rfl, ex⟩ := y
  rw [List.getElem?_map] at ex
  cases en : ns[i]? with
  | none => rw [en] at ex; cases ex
  | some n =>
    rw [en] at ex
    cases ex
    exact ⟨Fc, .int n, Ext.refl zc, by rw [List.getElem?_map, en]; rfl, Rp.int⟩
theorem walkD_tup {K : PySem.W.Frag} {mg : Str → Option Value} {F' : Hp} {ds : List D} {vs : List V} {a : Addr} (e : F' a = some (.tup vs)) (r : RpL K mg F' ds vs) : WalkD K mg F' ds (Itt K a) := by
  have w := walk_tup (K := K) (a := a) (xs := vs)
  unfold WalkD
  rw [r.length]
  refine w.mono (fun H z => SqT.of (z.tup e)) fun i H x H' hi z y Fc s zc => ?_
  obtain ⟨rfl, ex⟩ := y
  obtain ⟨d, ed, rd⟩ := r.getV ex
  exact ⟨Fc, d, Ext.refl zc, ed, Rp.mono s _ _ rd⟩
def D.items : D → R (List D)
  | .lst ds => .ok ds
  | .scr ns => .ok (ns.map D.int)
  | _ => .stuck
def D.itemsT : D → R (List D)
  | .tup ds => .ok ds
  | _ => .stuck
def iOf (f : DL.Env → R D) : DL.Env → R (List D) := fun Γ => (f Γ).bind D.items
def iOfT (f : DL.Env → R D) : DL.Env → R (List D) := fun Γ => (f Γ).bind D.itemsT
theorem di_list {tg : Expr} (h : DE X W e f) : DI X W tg e (iOf f) := by
  refine PI.weak (pi_list h) ?_
  rintro σ H Q ⟨F0, H0, F, Γ, r, p⟩
  refine ⟨F0, H0, F, Γ, r, PostG.bind p (fun d v F1 H1 _ x1 r1 p1 => ?_) fun _ _ _ _ _ h => h⟩
  have r1 : Rp X.K X.mg F1 d v := r1
  cases d with
  | lst ds =>
    obtain ⟨a, vs, e1, e2, e3⟩ := r1.lst_iff
    exact ⟨a, e1, ⟨vs, SqL.of (x1.fh.lst e2)⟩, PostG.ok p1 x1.fh (walkD_list e2 e3)⟩
  | scr ns =>
    obtain ⟨a, e1, e2⟩ := r1.scr_iff
    exact ⟨a, e1, ⟨_, x1.fh.seq e2⟩, PostG.ok p1 x1.fh (walkD_scr e2)⟩
  | _ => exact p1.elim
theorem di_tup {tg : Expr} (h : DE X W e f) : DI X W tg e (iOfT f) := by
  refine PI.weak (pi_tup h) ?_
  rintro σ H Q ⟨F0, H0, F, Γ, r, p⟩
  refine ⟨F0, H0, F, Γ, r, PostG.bind p (fun d v F1 H1 _ x1 r1 p1 => ?_) fun _ _ _ _ _ h => h⟩
  have r1 : Rp X.K X.mg F1 d v := r1
  cases d with
  | tup ds =>
    obtain ⟨a, vs, e1, e2, e3⟩ := r1.tup_iff
    exact ⟨a, e1, ⟨vs, SqT.of (x1.fh.tup e2)⟩, PostG.ok p1 x1.fh (walkD_tup e2 e3)⟩
  | _ => exact p1.elim
/-- range(n), range(a, b) -/
def rngL (lo : Int) (n : Nat) : List D := (List.range n).map fun (i : Nat) => D.int (lo + i)
def inR62 (i : Int) : Bool := decide (-4611686018427387904 ≤ i) && decide (i < 4611686018427387904)
def iRange1 : List D → R (List D)
  | [.int j] => if inR62 j then .ok (rngL 0 j.toNat) else .stuck
  | _ => .stuck
def iRange2 : List D → R (List D)
  | [.int i, .int j] => if inR62 i && inR62 j then .ok (rngL i (j - i).toNat) else .stuck
  | _ => .stuck
def iCall (g : List D → R (List D)) (f : DL.Env → R (List D)) : DL.Env → R (List D) := fun Γ => (f Γ).bind g
theorem rngL_len (lo : Int) (n : Nat) : (rngL lo n).length = n := by unfold rngL; rw [List.length_map, List.length_range]
theorem walkD_range {K : PySem.W.Frag} {mg : Str → Option Value} {F' : Hp} {lo : Int} {n : Nat} : WalkD K mg F' (rngL lo n) (Itr lo n) := by
  have w := walk_range (lo := lo) (n := n)
  unfold WalkD
  rw [rngL_len]
  refine w.mono (fun H z => trivial) fun i H x H' hi z y Fc s zc => ?_
  obtain ⟨rfl, rfl⟩ := y
  refine ⟨Fc, .int (lo + i), Ext.refl zc, ?_, Rp.int⟩
  unfold rngL
  rw [List.getElem?_map, List.getElem?_range hi]
  rfl
theorem in62 {i : Int} (h : inR62 i = true) : -(2 ^ 62) ≤ i ∧ i < 2 ^ 62 := by
  obtain ⟨h1, h2⟩ := andB h
  have h1 := of_decide_eq_true h1
  have h2 := of_decide_eq_true h2
  omega
theorem di_range1 {tg : Expr} (hg : Gl X "range") (hm : X.mg "range" = none) (ha : DA X W [a] fo) (hs : starEach [a] X.env = [(false, eval a X.env)] := by rfl) : DI X W tg (.Call (.Name "range" p) [a] [] pos) (iCall iRange1 fo) := by
  refine PI.weak (pi_range1 hg hm ha hs) ?_
  rintro σ H Q ⟨F0, H0, F, Γ, r, p⟩
  refine ⟨F0, H0, F, Γ, r, PostG.bind p (fun ds vs F1 H1 _ x1 r1 p1 => ?_) fun _ _ _ _ _ h => h⟩
  cases ds with
  | nil => exact p1.elim
  | cons d ds =>
    cases ds with
    | cons _ _ => exact (by cases d <;> exact p1.elim)
    | nil =>
      obtain ⟨v, e1, r2⟩ := (show RpL X.K X.mg F1 [d] vs from r1).one
      cases d with
      | int j =>
        obtain ⟨c, p2⟩ := ifR p1
        obtain ⟨c1, c2⟩ := in62 c
        exact ⟨j, by rw [e1, r2.int_iff], c1, c2, PostG.ok p2 x1.fh walkD_range⟩
      | _ => exact p1.elim
theorem di_range2 {tg : Expr} (hg : Gl X "range") (hm : X.mg "range" = none) (ha : DA X W [a, b] fo) (hs : starEach [a, b] X.env = [(false, eval a X.env), (false, eval b X.env)] := by rfl) (hs2 : starEach [b] X.env = [(false, eval b X.env)] := by rfl) :
    DI X W tg (.Call (.Name "range" p) [a, b] [] pos) (iCall iRange2 fo) := by
  refine PI.weak (pi_range2 hg hm ha hs hs2) ?_
  rintro σ H Q ⟨F0, H0, F, Γ, r, p⟩
  refine ⟨F0, H0, F, Γ, r, PostG.bind p (fun ds vs F1 H1 _ x1 r1 p1 => ?_) fun _ _ _ _ _ h => h⟩
  have r1 : RpL X.K X.mg F1 ds vs := r1
  cases ds with
  | nil => exact p1.elim
  | cons d ds =>
    cases ds with
    | nil => exact (by cases d <;> exact p1.elim)
    | cons d' ds =>
      cases ds with
      | cons _ _ => exact (by cases d <;> cases d' <;> exact p1.elim)
      | nil =>
        obtain ⟨v, u, e1, r2, r3⟩ := r1.two
        cases d with
        | int i =>
          cases d' with
          | int j =>
            obtain ⟨c, p2⟩ := ifR p1
            obtain ⟨ca, cb⟩ := andB c
            obtain ⟨c1, c2⟩ := in62 ca
            obtain ⟨c3, c4⟩ := in62 cb
            exact ⟨i, j, by rw [e1, r2.int_iff, r3.int_iff], ⟨c1, c2, c3, c4⟩, PostG.ok p2 x1.fh walkD_range⟩
          | _ => exact p1.elim
        | _ => exact p1.elim
end

/-! ### comprehensions -/
theorem wipeE_len (Γ : DL.Env) : ∀ vs : List Nat, (wipeE Γ vs).length = Γ.length
  | [] => rfl
  | v :: vs => by unfold wipeE; rw [List.length_set, wipeE_len Γ vs]
theorem wipeE_get {Γ : DL.Env} {i : Nat} {s : Slot} : ∀ {vs : List Nat}, (wipeE Γ vs)[i]? = some (some s) → Γ[i]? = some (some s) ∧ i ∉ vs
  | [], h => ⟨h, by simp⟩
  | v :: vs, h => by
    unfold wipeE at h
    by_cases hi : v = i
    · subst hi
      by_cases hv : v < (wipeE Γ vs).length
      · rw [List.getElem?_set_self hv] at h; cases h
      · rw [List.getElem?_eq_none (by simpa using hv)] at h; cases h
    · rw [List.getElem?_set_ne hi] at h
      obtain ⟨h1, h2⟩ := wipeE_get h
      exact ⟨h1, by simp only [List.mem_cons, not_or]; exact ⟨fun e => hi e.symm, h2⟩⟩
theorem wipe_out {σ : L2.St} {i : Nat} : ∀ {vs : List Nat}, i ∉ vs → (wipe σ vs)[i]? = σ[i]?
  | [], _ => rfl
  | v :: vs, h => by
    simp only [List.mem_cons, not_or] at h
    unfold wipe
    rw [List.getElem?_set_ne (fun e => h.1 e.symm)]
    exact wipe_out h.2
theorem wipe_in {σ : L2.St} {i : Nat} : ∀ {vs : List Nat}, i ∈ vs → (wipe σ vs)[i]? = if i < σ.length then some none else none
  | [], h => by cases h
  | v :: vs, h => by
    unfold wipe
    by_cases e : v = i
    · subst e
      by_cases hl : v < σ.length
      · rw [if_pos hl, List.getElem?_set_self (by rw [wipe_length]; exact hl)]
      · rw [if_neg hl, List.getElem?_eq_none (by rw [List.length_set, wipe_length]; omega)]
    · rw [List.getElem?_set_ne e]
      rcases List.mem_cons.mp h with z | z
      · exact absurd z.symm e
      · exact wipe_in z
theorem wipe_same {σ σ' : L2.St} {vs : List Nat} (l : σ'.length = σ.length) (h : ∀ j, j ∉ vs → σ'[j]? = σ[j]?) : wipe σ' vs = wipe σ vs := by
  apply List.ext_getElem?
  intro j
  by_cases hj : j ∈ vs
  · rw [wipe_in hj, wipe_in hj, l]
  · rw [wipe_out hj, wipe_out hj, h j hj]
theorem wipe_wipe {σ : L2.St} {vs : List Nat} : wipe (wipe σ vs) vs = wipe σ vs := by
  apply List.ext_getElem?
  intro j
  by_cases hj : j ∈ vs
  · rw [wipe_in hj, wipe_in hj, wipe_length]
  · rw [wipe_out hj, wipe_out hj]
section
variable {K : PySem.W.Frag} {mg : Str → Option Value} {F0 : Fe} {H0 F H : Hp} {σ : L2.St} {Γ : DL.Env}
theorem Rel.wipe (r : Rel K mg F0 H0 F H σ Γ) (vs : List Nat) : Rel K mg F0 H0 F H (L2.wipe σ vs) (wipeE Γ vs) := by
  have back : ∀ {j : Nat} {v : V}, (L2.wipe σ vs)[j]? = some (some v) → σ[j]? = some (some v) := fun h => (wipe_some h).1
  refine ⟨r.ext, by rw [wipe_length, wipeE_len]; exact r.len, fun i s e => ?_, fun i j s t v u l ei ej hi hj os ot => ?_, fun i c ns fs v e1 e2 => r.slf i c ns fs v (wipeE_get e1).1 (back e2)⟩
  · obtain ⟨e1, e2⟩ := wipeE_get e
    obtain ⟨v, h1, h2⟩ := r.slot i s e1
    exact ⟨v, by rw [wipe_out e2]; exact h1, h2⟩
  · exact r.inj i j s t v u l (wipeE_get ei).1 (wipeE_get ej).1 (back hi) (back hj) os ot
end
section
variable {X : Cx} {W : WX}
abbrev DTs (X : Cx) (W : WX) (ifs : List Expr) (f : DL.Env → R Bool) : Prop := PTs X ifs (tDT X W f)
def bYes : DL.Env → R Bool := fun _ => .ok true
theorem PTs.weak {X : Cx} {ifs : List Expr} {t t' : TT} (h : PTs X ifs t) (w : ∀ σ H Q, t' σ H Q → t σ H Q) : PTs X ifs t' := ⟨fun pins s σ H Q I q => h.run pins s σ H Q I (w σ H Q q)⟩
theorem dts_nil : DTs X W [] bYes := PTs.weak pts_nil fun σ H Q ⟨_, _, _, _, r, p⟩ => PostG.ok p r.fz rfl
theorem dts_one {c : Expr} {f : DL.Env → R Bool} (h : DT X W c f) : DTs X W [c] f := pts_one h
abbrev W0 : WX := fun _ _ _ _ => False
/-- a comprehension's reading by trees -/
theorem lc_read {own : List (Str × Nat)} {fi : DL.Env → R (List D)} {h : Tg} {ft : DL.Env → R Bool} {fe : DL.Env → R D} : ∀ (σ : L2.St) (H : Hp) (Q : VK), tDO X W (oLc (own.map (·.2)) fi h ft fe) σ H Q →
    tLc (tDI X W fi) (tDG X (own.map (fun q : Str × Nat => q.2)) h) (tDT X W0 ft) (tD X W0 fe) (own.map (·.2)) σ H Q := by
  rintro σ H Q ⟨F0, H0, F, Γ, r, p⟩
  refine ⟨F0, H0, F, Γ, r, PostG.bind p (fun ds J F1 H1 _ x1 w p1 => ?_) upO⟩
  intro A hA
  have p1 : PostG X.K X.mg (repO X.K X.mg) F1 H1 (WE W σ) Q (match lcF h ft fe (wipeE Γ (own.map (·.2))) ds with | .ok es => if ds.length ≤ LIM then .ok es else .stuck | _ => .stuck) := p1
  cases el : lcF h ft fe (wipeE Γ (own.map (·.2))) ds with
  | exc x => rw [el] at p1; exact p1.elim
  | stuck => rw [el] at p1; exact p1.elim
  | ok es =>
    rw [el] at p1
    obtain ⟨hlen, p2⟩ := ifR p1
    have rw0 := (r.step x1).wipe (own.map (·.2))
    have nFA : F1 A = none := x1.fh.free hA
    -- behind i turns: the list at A holds the trees made so far
    refine lc_it w (fun i Hc => ∃ Fc acc ws, Fz Fc Hc ∧ Same F1 Fc ∧ (∀ b o, H1 b = some o → Hc b = some o) ∧ (∀ b o, Fc b = some o → F1 b = some o ∨ H1 b = none) ∧ Hc A = some (.lst ws) ∧ Fc A = none ∧ RpL X.K X.mg Fc acc ws ∧ acc.length ≤ i ∧
        (match lcF h ft fe (wipeE Γ (own.map (·.2))) (ds.drop i) with | .ok r => acc ++ r = es | _ => False)) ?_ (fun i Hc _ ⟨Fc, _, _, z, s, _⟩ => z.sub s) ?_ ?_
    · refine ⟨F1, [], [], (Ext.heap x1.fh hA).fh, Same.refl _, (Ext.heap (o := .lst []) x1.fh hA).hh, fun _ _ e => .inl e, upd_same, nFA, RpL.nil, Nat.le_refl _, ?_⟩
      show (match lcF h ft fe (wipeE Γ (own.map (·.2))) ds with | .ok r => [] ++ r = es | _ => False)
      rw [el]
      rfl
    · rintro i xv Hc Hc2 hi ⟨Fc, acc, ws, z, s, hh, nw, eA, fA, racc, la, eq⟩ y
      obtain ⟨F2, d, x2, ed, rd⟩ := y Fc s z
      have edr : ds.drop i = d :: ds.drop (i + 1) := by
        obtain ⟨hlt, he⟩ := List.getElem?_eq_some_iff.mp ed
        rw [← he]
        exact List.drop_eq_getElem_cons hlt
      rw [edr] at eq
      have rel1 : Rel X.K X.mg F0 H0 F2 Hc2 (L2.wipe σ (own.map (·.2))) (wipeE Γ (own.map (·.2))) := by
        have e1 : Ext F1 H1 F2 Hc2 := ⟨s.trans x2.ff, x2.fh, fun b o e => x2.hh _ _ (hh _ _ e), fun b o e => by
          rcases x2.new b o e with q | q
          · exact nw b o q
          · exact .inr (by
              cases e3 : H1 b with
              | none => rfl
              | some u => rw [hh _ _ e3] at q; cases q)⟩
        exact rw0.step e1
      have hA2 : Hc2 A = some (.lst ws) := x2.hh _ _ eA
      have fA2 : F2 A = none := by
        cases q : F2 A with
        | none => rfl
        | some o =>
          rcases x2.new A o q with z | z
          · rw [fA] at z; cases z
          · rw [eA] at z; cases z
      unfold lcF at eq
      cases eh : h d (wipeE Γ (own.map (·.2))) with
      | none => rw [eh] at eq; exact eq.elim
      | some Γ1 =>
        rw [eh] at eq
        refine ⟨F0, H0, F2, wipeE Γ (own.map (·.2)), d, rel1, rd, Γ1, eh, fun σ2 l2 k2 r2 => ⟨(wipe_same l2 k2).trans wipe_wipe, ?_⟩⟩
        cases et : ft Γ1 with
        | exc x => simp only [et] at eq
        | stuck => simp only [et] at eq
        | ok k =>
          refine ⟨F0, H0, F2, Γ1, r2, ?_⟩
          rw [et]
          intro k' F3 H3 x3 ek
          have ek : k' = k := ek
          subst ek
          have up3 : Ext Fc Hc F3 H3 := x2.trans x3
          have fA3 : F3 A = none := by
            cases q : F3 A with
            | none => rfl
            | some o =>
              rcases up3.new A o q with z | z
              · rw [fA] at z; cases z
              · rw [eA] at z; cases z
          have nw3 : ∀ b o, F3 b = some o → F1 b = some o ∨ H1 b = none := fun b o e => by
            rcases up3.new b o e with q | q
            · exact nw b o q
            · exact .inr (by
                cases e3 : H1 b with
                | none => rfl
                | some u => rw [hh _ _ e3] at q; cases q)
          cases k' with
          | false =>
            simp only [et] at eq
            exact iteF ⟨F3, acc, ws, up3.fh, s.trans up3.ff, fun b o e => up3.hh _ _ (hh _ _ e), nw3, up3.hh _ _ eA, fA3, RpL.mono up3.ff _ _ racc, Nat.le_succ_of_le la, eq⟩
          | true =>
            simp only [et] at eq
            refine iteT ⟨F0, H0, F3, Γ1, r2.step x3, ?_⟩
            cases ee : fe Γ1 with
            | exc x => simp only [ee] at eq
            | stuck => simp only [ee] at eq
            | ok e =>
              simp only [ee] at eq
              intro v F4 H4 x4 rv
              have up4 := up3.trans x4
              have fA4 : F4 A = none := by
                cases q : F4 A with
                | none => rfl
                | some o =>
                  rcases up4.new A o q with z | z
                  · rw [fA] at z; cases z
                  · rw [eA] at z; cases z
              have hA4 := up4.hh _ _ eA
              refine ⟨ws, hA4, ?_, ?_⟩
              · rw [LIM_eq, ← racc.length]
                have : i < LIM := Nat.lt_of_lt_of_le hi hlen
                omega
              · have nA : ∀ {b : Addr} {o : HO}, F4 b = some o → b ≠ A := fun e q => by rw [q, fA4] at e; cases e
                refine ⟨F4, acc ++ [e], ws ++ [v], fun b o q => ?_, s.trans up4.ff, fun b o q => ?_, fun b o q => ?_, upd_same, fA4, RpL.append (RpL.mono up4.ff _ _ racc) (RpL.cons rv RpL.nil), by simp; omega, ?_⟩
                · rw [upd_ne (nA q)]
                  exact up4.fh b o q
                · rw [upd_ne (fun z => by rw [z, hA] at q; cases q)]
                  exact up4.hh _ _ (hh _ _ q)
                · rcases up4.new b o q with z | z
                  · exact nw b o z
                  · exact .inr (by
                      cases e3 : H1 b with
                      | none => rfl
                      | some u => rw [hh _ _ e3] at z; cases z)
                · cases er : lcF h ft fe (wipeE Γ (own.map (·.2))) (ds.drop (i + 1)) with
                  | exc x => simp only [er] at eq
                  | stuck => simp only [er] at eq
                  | ok r =>
                    simp only [er] at eq ⊢
                    rw [← eq]
                    simp
    · rintro Hc ⟨Fc, acc, ws, z, s, hh, nw, eA, fA, racc, la, eq⟩
      have ed : ds.drop ds.length = [] := List.drop_length
      rw [ed] at eq
      have eq : acc ++ [] = es := eq
      rw [List.append_nil] at eq
      subst eq
      exact PostG.at p2 ⟨s, z, hh, nw⟩ ⟨A, ws, rfl, eA, fA, hA, racc⟩
theorem do_lc {elt tg iter : Expr} {ifs : List Expr} {scope : Scope} {own : List (Str × Nat)} {pos : Pos} {fi : DL.Env → R (List D)} {h : Tg} {ft : DL.Env → R Bool} {fe : DL.Env → R D} (hc : X.calm = true) (hN : X.N.Nodup) (hi : DI X W tg iter fi) (ok : BlkOk X.N X.env.scope scope own)
    (hg : ∀ (s : Shared) (H : Hp) (C : Addr) (cl : List (Str × Addr)) (fp : List Addr), DG (X.blk s H scope (compEnvC scope cl C X.env) fp) tg (own.map (·.2)) h) (ht : ∀ (s : Shared) (H : Hp) (C : Addr) (cl : List (Str × Addr)) (fp : List Addr), DTs (X.blk s H scope (compEnvC scope cl C X.env) fp) W0 ifs ft)
    (he : ∀ (s : Shared) (H : Hp) (C : Addr) (cl : List (Str × Addr)) (fp : List Addr), DE (X.blk s H scope (compEnvC scope cl C X.env) fp) W0 elt fe) (hs : ∀ x, foldedSetIterable iter X.env x = pure x := by intro _; rfl) :
    DO X W (.ListComp elt [⟨tg, iter, ifs, 0⟩] scope pos) (oLc (own.map (·.2)) fi h ft fe) := by
  exact PE.weak (pe_lc (g := tDG X (own.map (fun q : Str × Nat => q.2)) h) (tt := tDT X W0 ft) (te := tD X W0 fe) hc hN hi ok (fun s H C cl fp => hg s H C cl fp) (fun s H C cl fp => ht s H C cl fp) (fun s H C cl fp => he s H C cl fp) hs) lc_read
/-- name = [..]: the list is this frame's own -/
theorem ds_setLc (i : Nat) {y : Str} {py : Pos} {elt tg iter : Expr} {ifs : List Expr} {scope : Scope} {own : List (Str × Nat)} {pos spos : Pos} {fi : DL.Env → R (List D)} {h : Tg} {ft : DL.Env → R Bool} {fe : DL.Env → R D} (hc : X.calm = true) (hN : X.N.Nodup) (hyl : X.env.scope.names.lookup y = some .local)
    (hsw : swapsWith (.ListComp elt [⟨tg, iter, ifs, 0⟩] scope pos) (some (.Name y py)) spos.line X.env = pure true) (hi : DI X W tg iter fi) (ok : BlkOk X.N X.env.scope scope own)
    (hg : ∀ (s : Shared) (H : Hp) (C : Addr) (cl : List (Str × Addr)) (fp : List Addr), DG (X.blk s H scope (compEnvC scope cl C X.env) fp) tg (own.map (·.2)) h) (ht : ∀ (s : Shared) (H : Hp) (C : Addr) (cl : List (Str × Addr)) (fp : List Addr), DTs (X.blk s H scope (compEnvC scope cl C X.env) fp) W0 ifs ft)
    (he : ∀ (s : Shared) (H : Hp) (C : Addr) (cl : List (Str × Addr)) (fp : List Addr), DE (X.blk s H scope (compEnvC scope cl C X.env) fp) W0 elt fe) (hy : X.N[i]? = some y := by rfl) (hs : ∀ x, foldedSetIterable iter X.env x = pure x := by intro _; rfl) :
    DS X W (.Assign [.Name y py] (.ListComp elt [⟨tg, iter, ifs, 0⟩] scope pos) spos) (sSetO i (oLc (own.map (·.2)) fi h ft fe)) := by
  refine PS.weak (ps_setLc (g := tDG X (own.map (fun q : Str × Nat => q.2)) h) (tt := tDT X W0 ft) (te := tD X W0 fe) hc hN hy hyl hsw hi ok (fun s H C cl fp => hg s H C cl fp) (fun s H C cl fp => ht s H C cl fp) (fun s H C cl fp => he s H C cl fp) hs) ?_
  rintro Dn σ H ⟨F0, H0, F, Γ, r, p⟩
  exact lc_read (X := X) (W := W) (fi := fi) (ft := ft) (fe := fe) (h := h) σ H _ ⟨F0, H0, F, Γ, r, PostS.out r p fun ds v F' H' _ x q p' => p' _ _ _ (r.setO x (s := .own ds) rfl q)⟩
end

/-! ### defs -/
/-- what a def whose body is g gives for arguments' trees -/
def Out.fin : Out → R D
  | .nx _ => .ok .non
  | .rt d => .ok d
  | .ro ds => .ok (.lst ds)
  | .exc x _ => .exc x
  | _ => .stuck
def Out.finO : Out → R (List D)
  | .ro ds => .ok ds
  | .exc x _ => .exc x
  | _ => .stuck
def stE (N : Nat) (ds : List D) : DL.Env := (ds.map fun d => some (Slot.val d)) ++ List.replicate (N - ds.length) none
def mk (N : Nat) (g : DL.Env → Out) : List D → R D := fun ds => (g (stE N ds)).fin
def mkO (N : Nat) (g : DL.Env → Out) : List D → R (List D) := fun ds => (g (stE N ds)).finO
/-- a def's promise by trees -/
def spD (K : PySem.W.Frag) (mg : Str → Option Value) (n : Nat) (m : List D → R D) : Sp := fun vs H Q E => ∃ F ds, ds.length = n ∧ Fz F H ∧ RpL K mg F ds vs ∧ PostG K mg (repV K mg) F H E Q (m ds)
def spO (K : PySem.W.Frag) (mg : Str → Option Value) (n : Nat) (m : List D → R (List D)) : Sp := fun vs H Q E => ∃ F ds, ds.length = n ∧ Fz F H ∧ RpL K mg F ds vs ∧ PostG K mg (repO K mg) F H E Q (m ds)
theorem spD_len {K : PySem.W.Frag} {mg : Str → Option Value} {n : Nat} {m : List D → R D} {vs : List V} {H : Hp} {Q : VK} {E : XK} (h : spD K mg n m vs H Q E) : vs.length = n := by
  obtain ⟨F, ds, l, _, r, _⟩ := h
  rw [← r.length, l]
theorem spO_len {K : PySem.W.Frag} {mg : Str → Option Value} {n : Nat} {m : List D → R (List D)} {vs : List V} {H : Hp} {Q : VK} {E : XK} (h : spO K mg n m vs H Q E) : vs.length = n := by
  obtain ⟨F, ds, l, _, r, _⟩ := h
  rw [← r.length, l]
theorem start_rel {K : PySem.W.Frag} {mg : Str → Option Value} {F H : Hp} {sv : V} {N : List Str} {ds : List D} {vs : List V} (z : Fz F H) (r : RpL K mg F ds vs) (hl : ds.length ≤ N.length) : Rel K mg ⟨F, sv⟩ H F H (L2.start N vs) (stE N.length ds) := by
  have hv : ∀ (i : Nat) (s : Slot), (stE N.length ds)[i]? = some (some s) → ∃ d, ds[i]? = some d ∧ s = .val d := fun i s e => by
    unfold stE at e
    by_cases hi : i < ds.length
    · rw [List.getElem?_append_left (by simpa using hi), List.getElem?_map] at e
      cases ed : ds[i]? with
      | none => rw [ed] at e; cases e
      | some d =>
        rw [ed] at e
        cases e
        exact ⟨d, rfl, rfl⟩
    · rw [List.getElem?_append_right (by simpa using hi), List.getElem?_replicate] at e
      split at e <;> cases e
  refine ⟨Ext.refl z, ?_, fun i s e => ?_, fun i j s t v u l ei ej hi hj os => ?_, fun i c ns fs v e1 _ => by
    obtain ⟨_, _, e⟩ := hv i _ e1
    cases e⟩
  · unfold L2.start stE
    simp only [List.length_append, List.length_map, List.length_replicate]
    rw [r.length]
  · obtain ⟨d, ed, rfl⟩ := hv i s e
    obtain ⟨v, ev, rv⟩ := r.get ed
    refine ⟨v, ?_, rv⟩
    unfold L2.start
    rw [List.getElem?_append_left (by simpa using (List.getElem?_eq_some_iff.mp ev).1), List.getElem?_map, ev]
    rfl
  · obtain ⟨d, _, rfl⟩ := hv i s ei
    cases os
abbrev WOf (E : XK) : WX := fun cls d _ H => E cls d H
section
variable {P : Program} {w : World} {K : PySem.W.Frag} {mg : Str → Option Value} {base : Heap} {x qual : Str} {params : Arguments} {body : List Stmt} {scope : Scope} {f : Addr} {fd : FuncData} {N ps : List Str} {k : Nat} {g : DL.Env → Out}
theorem fn_ok (Fd : FunD K x qual params body scope [] [] f fd) (S : FnScope N ps scope) (hl : ps.length ≤ N.length)
    (hb : ∀ (cdv : Value) (A : Around) (outer : List PySem.Env) (s : Shared) (H : Hp) (E : XK), Room k (A.deeper (PyProof.Rows.envOfC qual scope s.heap.objs.size f cdv)) → DSs (cxOf (L2.CX P w) P w K mg base N qual scope f cdv A outer s H E) (WOf E) body g) :
    FnOk P w K mg base (L2.CX P w) (k + 1) f fd ps (spD K mg ps.length (mk N.length g)) := by
  refine Fd.ok S (fun vs H Q E h => spD_len h) fun cdv A outer s H vs Q E hr h => ?_
  obtain ⟨F, ds, l, z, r, p⟩ := h
  refine ⟨_, hb cdv A outer s H E hr, ⟨F, .non⟩, H, F, stE N.length ds, start_rel z r (by rw [l]; exact hl), ?_⟩
  revert p
  unfold mk
  cases g (stE N.length ds) with
  | nx Γ => exact fun p σ F1 H1 r1 => p _ F1 H1 r1.ext Rp.non
  | rt d => exact fun p v F1 H1 x1 r1 => p v F1 H1 x1 r1
  | ro ds =>
    intro p v F1 H1 x1 r1
    obtain ⟨F2, x2, r2, _⟩ := frzO x1 r1
    exact p v F2 H1 x2 r2
  | exc x Γ => exact fun p cls od σ F1 H1 r1 q => p cls od F1 H1 r1.ext q
  | bk Γ => exact fun p => p.elim
  | ct Γ => exact fun p => p.elim
  | stuck => exact fun p => p.elim
theorem fn_okO (Fd : FunD K x qual params body scope [] [] f fd) (S : FnScope N ps scope) (hl : ps.length ≤ N.length)
    (hb : ∀ (cdv : Value) (A : Around) (outer : List PySem.Env) (s : Shared) (H : Hp) (E : XK), Room k (A.deeper (PyProof.Rows.envOfC qual scope s.heap.objs.size f cdv)) → DSs (cxOf (L2.CX P w) P w K mg base N qual scope f cdv A outer s H E) (WOf E) body g) :
    FnOk P w K mg base (L2.CX P w) (k + 1) f fd ps (spO K mg ps.length (mkO N.length g)) := by
  refine Fd.ok S (fun vs H Q E h => spO_len h) fun cdv A outer s H vs Q E hr h => ?_
  obtain ⟨F, ds, l, z, r, p⟩ := h
  refine ⟨_, hb cdv A outer s H E hr, ⟨F, .non⟩, H, F, stE N.length ds, start_rel z r (by rw [l]; exact hl), ?_⟩
  revert p
  unfold mkO
  cases g (stE N.length ds) with
  | ro ds => exact fun p v F1 H1 x1 r1 => p v F1 H1 x1 r1
  | exc x Γ => exact fun p cls od σ F1 H1 r1 q => p cls od F1 H1 r1.ext q
  | nx Γ => exact fun p => p.elim
  | rt d => exact fun p => p.elim
  | bk Γ => exact fun p => p.elim
  | ct Γ => exact fun p => p.elim
  | stuck => exact fun p => p.elim
end
section
variable {X : Cx} {W : WX} {k : Nat} {f : Addr} {fd : FuncData} {ps : List Str} {n : Nat} {x : Str} {e : Expr} {es : List Expr} {p pos : Pos} {fs : DL.Env → R (List D)}
def eFn (n : Nat) (m : List D → R D) (f : DL.Env → R (List D)) : DL.Env → R D := fun Γ => (f Γ).bind fun ds => if ds.length = n then m ds else .stuck
def oFn (n : Nat) (m : List D → R (List D)) (f : DL.Env → R (List D)) : DL.Env → R (List D) := fun Γ => (f Γ).bind fun ds => if ds.length = n then m ds else .stuck
/-- what a context lets out as W says -/
abbrev OkW (X : Cx) (W : WX) : Prop := ∀ σ, PassesAt (L2.CX X.prog X.w) X σ (WE W σ)
theorem okW0 {X : Cx} : OkW X W0 := fun σ _ _ _ _ _ _ h => by
  obtain ⟨_, _, _, _, _, _, _, _, _, _, _, _, z⟩ := h
  exact z.elim
theorem de_fn {m : List D → R D} (G : FnOk X.prog X.w X.K X.mg X.base (L2.CX X.prog X.w) k f fd ps (spD X.K X.mg n m)) (hr : Room k X.A) (hg : Gl X x) (hm : X.mg x = some (.ref f)) (hk : PySem.W.keepIn X.K (.ref f) = true) (hb : Binds X.K fd ps []) (hx : OkW X W)
    (ha : DA X W (e :: es) fs) (hdb : (x == ("__debug__" : Str)) = false := by kernel_rfl) (he : starEach (e :: es) X.env = (false, eval e X.env) :: starEach es X.env := by rfl) (hpl : (backTo pos (starEach es X.env)).any (·.1) = false := by rfl) :
    DE X W (.Call (.Name x p) (e :: es) [] pos) (eFn n m fs) := by
  refine PE.weak (pe_callSD G hr hg hm hk hb .nil hx ha hdb he hpl) ?_
  rintro σ H Q ⟨F0, H0, F, Γ, r, p⟩
  refine ⟨F0, H0, F, Γ, r, PostG.bind p (fun ds vs F1 H1 _ x1 r1 p1 => ?_) fun _ _ _ _ _ h => h⟩
  obtain ⟨hl, p2⟩ := ifR p1
  rw [List.append_nil]
  exact ⟨F1, ds, hl, x1.fh, r1, p2⟩
theorem do_fn {m : List D → R (List D)} (G : FnOk X.prog X.w X.K X.mg X.base (L2.CX X.prog X.w) k f fd ps (spO X.K X.mg n m)) (hr : Room k X.A) (hg : Gl X x) (hm : X.mg x = some (.ref f)) (hk : PySem.W.keepIn X.K (.ref f) = true) (hb : Binds X.K fd ps []) (hx : OkW X W)
    (ha : DA X W (e :: es) fs) (hdb : (x == ("__debug__" : Str)) = false := by kernel_rfl) (he : starEach (e :: es) X.env = (false, eval e X.env) :: starEach es X.env := by rfl) (hpl : (backTo pos (starEach es X.env)).any (·.1) = false := by rfl) :
    DO X W (.Call (.Name x p) (e :: es) [] pos) (oFn n m fs) := by
  refine PE.weak (pe_callSD G hr hg hm hk hb .nil hx ha hdb he hpl) ?_
  rintro σ H Q ⟨F0, H0, F, Γ, r, p⟩
  refine ⟨F0, H0, F, Γ, r, PostG.bind p (fun ds vs F1 H1 _ x1 r1 p1 => ?_) upO⟩
  obtain ⟨hl, p2⟩ := ifR p1
  rw [List.append_nil]
  exact ⟨F1, ds, hl, x1.fh, r1, p2⟩
/-- a def's body: what leaves it -/
theorem okWOf {P : Program} {w : World} {K : PySem.W.Frag} {mg : Str → Option Value} {base : Heap} {N : List Str} {qual : Str} {scope : Scope} {f : Addr} {cdv : Value} {A : Around} {outer : List PySem.Env} {s : Shared} {H : Hp} {E : XK} :
    OkW (cxOf (L2.CX P w) P w K mg base N qual scope f cdv A outer s H E) (WOf E) := fun σ => passAt (takes_of rfl rfl rfl rfl) σ
theorem passOwnOf {P : Program} {w : World} {K : PySem.W.Frag} {mg : Str → Option Value} {base : Heap} {N : List Str} {qual : Str} {scope : Scope} {f : Addr} {cdv : Value} {A : Around} {outer : List PySem.Env} {s : Shared} {H : Hp} {E : XK} :
    PassesOwn (model P w) (cxOf (L2.CX P w) P w K mg base N qual scope f cdv A outer s H E).A (cxOf (L2.CX P w) P w K mg base N qual scope f cdv A outer s H E).env (cxOf (L2.CX P w) P w K mg base N qual scope f cdv A outer s H E).xe := passes_of rfl
end
end DL
set_option Elab.async false
set_option linter.all false
set_option maxRecDepth 100000
set_option maxHeartbeats 4000000
/-! The data layer: further walks, slices, comprehensions given to a name, defs by name. -/
namespace DL
open PySem PySem.Spec L2

section
variable {X : Cx} {W : WX} {F0 : Fe} {H0 F H : Hp} {σ : L2.St} {Γ : DL.Env} {Dn : Ends} {e a b c : Expr} {es : List Expr} {g : DL.Env → Out} {f fa fb : DL.Env → R D} {fo : DL.Env → R (List D)} {ft : DL.Env → R Bool} {pos p : Pos}

/-! ### enumerate, zip, reversed -/
/-- a list's trees, the script's too -/
theorem items_rp {K : PySem.W.Frag} {mg : Str → Option Value} {F : Hp} {d : D} {v : V} {ds : List D} (r : Rp K mg F d v) (h : d.items = .ok ds) : ∃ a vs, v = .ref a ∧ SqL K F a vs ∧ RpL K mg F ds vs := by
  cases d with
  | lst xs =>
    cases h
    obtain ⟨a, vs, e1, e2, e3⟩ := r.lst_iff
    exact ⟨a, vs, e1, SqL.of e2, e3⟩
  | scr ns =>
    cases h
    obtain ⟨a, e1, e2⟩ := r.scr_iff
    exact ⟨a, _, e1, e2, RpL.ints⟩
  | _ => cases h
def enumL : Nat → List D → List D
  | _, [] => []
  | i, d :: ds => .tup [.int i, d] :: enumL (i + 1) ds
theorem enumL_len (i : Nat) (ds : List D) : (enumL i ds).length = ds.length := by
  induction ds generalizing i with
  | nil => rfl
  | cons d ds ih => show (enumL (i + 1) ds).length + 1 = _; rw [ih]; rfl
theorem enumL_get {i j : Nat} {ds : List D} {d : D} (h : ds[j]? = some d) : (enumL i ds)[j]? = some (.tup [.int ((i + j : Nat) : Int), d]) := by
  induction ds generalizing i j with
  | nil => simp at h
  | cons x xs ih =>
    cases j with
    | zero =>
      have e : x = d := by simpa using h
      subst e
      rfl
    | succ j =>
      show (enumL (i + 1) xs)[j]? = _
      rw [ih (by simpa using h)]
      congr 5
      omega
def iEnumD : List D → R (List D) := fun ds => match ds with
  | [d] => d.items.bind fun xs => .ok (enumL 0 xs)
  | _ => .stuck
theorem walkD_enum {K : PySem.W.Frag} {mg : Str → Option Value} {F' : Hp} {ds : List D} {vs : List V} {a : Addr} (e : SqL K F' a vs) (r : RpL K mg F' ds vs) : WalkD K mg F' (enumL 0 ds) (Ite K a) := by
  have w := walk_enum (K := K) (a := a) (xs := vs)
  unfold WalkD
  rw [enumL_len, r.length]
  refine w.mono (fun H z => z.seq e) fun i H x H' hi z y Fc s zc => ?_
  obtain ⟨T, u, v, e1, nT, e2, e3, e4⟩ := y
  subst e1 e2
  cases e3
  obtain ⟨d, ed, rd⟩ := r.getV e4
  have x2 := Ext.laid (o := .tup [.int (i : Nat), v]) zc nT
  refine ⟨_, .tup [.int ((i : Nat) : Int), d], x2, ?_, Rp.tup upd_same (RpL.cons Rp.int (RpL.cons (Rp.mono (s.trans x2.ff) _ _ rd) RpL.nil))⟩
  rw [enumL_get ed]
  simp
theorem di_enum {elts : List Expr} {kk : Nat} {tpos : Pos} (hg : Gl X "enumerate") (hm : X.mg "enumerate" = none) (ha : DA X W [a] fo) (hs : starEach [a] X.env = [(false, eval a X.env)] := by rfl) :
    DI X W (.Tuple elts kk tpos) (.Call (.Name "enumerate" p) [a] [] pos) (iCall iEnumD fo) := by
  refine PI.weak (pi_enum hg hm ha hs) ?_
  rintro σ H Q ⟨F0, H0, F, Γ, r, p⟩
  refine ⟨F0, H0, F, Γ, r, PostG.bind p (fun ds vs F1 H1 _ x1 r1 p1 => ?_) fun _ _ _ _ _ h => h⟩
  have r1 : RpL X.K X.mg F1 ds vs := r1
  cases ds with
  | nil => exact p1.elim
  | cons d ds =>
    cases ds with
    | cons _ _ => exact p1.elim
    | nil =>
      obtain ⟨v, e1, r2⟩ := r1.one
      have p1 : PostG X.K X.mg (fun _ F' _ ds J => WalkD X.K X.mg F' ds J) F1 H1 (WE W σ) Q (d.items.bind fun xs => .ok (enumL 0 xs)) := p1
      cases ei : d.items with
      | ok xs =>
        rw [ei] at p1
        obtain ⟨a, us, e2, e3, e4⟩ := items_rp r2 ei
        exact ⟨a, us, by rw [e1, e2], x1.fh.seq e3, PostG.ok p1 x1.fh (walkD_enum e3 e4)⟩
      | exc x => cases d <;> cases ei
      | stuck => rw [ei] at p1; exact p1.elim
def zipL : List D → List D → List D
  | d :: ds, e :: es => .tup [d, e] :: zipL ds es
  | _, _ => []
theorem zipL_len : ∀ ds es : List D, (zipL ds es).length = min ds.length es.length
  | [], es => by simp [zipL]
  | d :: ds, [] => by simp [zipL]
  | d :: ds, e :: es => by
    show (zipL ds es).length + 1 = _
    rw [zipL_len ds es]
    simp only [List.length_cons]
    omega
theorem zipL_get : ∀ {ds es : List D} {j : Nat} {d e : D}, ds[j]? = some d → es[j]? = some e → (zipL ds es)[j]? = some (.tup [d, e])
  | [], _, _, _, _, h, _ => by simp at h
  | _ :: _, [], _, _, _, _, h => by simp at h
  | d :: ds, e :: es, 0, _, _, h, k => by
    simp at h k
    subst h k
    rfl
  | d :: ds, e :: es, j + 1, _, _, h, k => by
    show (zipL ds es)[j]? = _
    exact zipL_get (by simpa using h) (by simpa using k)
def iZipD : List D → R (List D) := fun ds => match ds with
  | [d, e] => d.items.bind fun xs => e.items.bind fun ys => .ok (zipL xs ys)
  | _ => .stuck
theorem walkD_zip {K : PySem.W.Frag} {mg : Str → Option Value} {F' : Hp} {ds es : List D} {vs us : List V} {a b : Addr} (ea : SqL K F' a vs) (eb : SqL K F' b us) (ra : RpL K mg F' ds vs) (rb : RpL K mg F' es us) : WalkD K mg F' (zipL ds es) (Itz K a b) := by
  have w := walk_zip (K := K) (a := a) (b := b) (xs := vs) (ys := us) rfl
  unfold WalkD
  rw [zipL_len, ra.length, rb.length]
  refine w.mono (fun H z => ⟨z.seq ea, z.seq eb⟩) fun i H x H' hi z y Fc s zc => ?_
  obtain ⟨T, u, v, e1, nT, e2, e3, e4⟩ := y
  subst e1 e2
  obtain ⟨d, ed, rd⟩ := ra.getV e3
  obtain ⟨d', ed', rd'⟩ := rb.getV e4
  have x2 := Ext.laid (o := .tup [u, v]) zc nT
  exact ⟨_, .tup [d, d'], x2, zipL_get ed ed', Rp.tup upd_same (RpL.cons (Rp.mono (s.trans x2.ff) _ _ rd) (RpL.cons (Rp.mono (s.trans x2.ff) _ _ rd') RpL.nil))⟩
theorem di_zip {e2 : Expr} {elts : List Expr} {kk : Nat} {tpos : Pos} (hg : Gl X "zip") (hm : X.mg "zip" = none) (ha : DA X W [a, e2] fo)
    (hs : starEach [a, e2] X.env = (false, eval a X.env) :: starEach [e2] X.env := by rfl) (hpl : (backTo pos (starEach [e2] X.env)).any (·.1) = false := by rfl) :
    DI X W (.Tuple elts kk tpos) (.Call (.Name "zip" p) [a, e2] [] pos) (iCall iZipD fo) := by
  refine PI.weak (pi_zip hg hm ha hs hpl) ?_
  rintro σ H Q ⟨F0, H0, F, Γ, r, p⟩
  refine ⟨F0, H0, F, Γ, r, PostG.bind p (fun ds vs F1 H1 _ x1 r1 p1 => ?_) fun _ _ _ _ _ h => h⟩
  have r1 : RpL X.K X.mg F1 ds vs := r1
  cases ds with
  | nil => exact p1.elim
  | cons d ds =>
    cases ds with
    | nil => exact p1.elim
    | cons d' ds =>
      cases ds with
      | cons _ _ => exact p1.elim
      | nil =>
        obtain ⟨v, u, e1, r2, r3⟩ := r1.two
        have p1 : PostG X.K X.mg (fun _ F' _ ds J => WalkD X.K X.mg F' ds J) F1 H1 (WE W σ) Q (d.items.bind fun xs => d'.items.bind fun ys => .ok (zipL xs ys)) := p1
        cases ei : d.items with
        | ok xs =>
          rw [ei] at p1
          have p1 : PostG X.K X.mg (fun _ F' _ ds J => WalkD X.K X.mg F' ds J) F1 H1 (WE W σ) Q (d'.items.bind fun ys => .ok (zipL xs ys)) := p1
          cases ej : d'.items with
          | ok ys =>
            rw [ej] at p1
            obtain ⟨a, us, e2, e3, e4⟩ := items_rp r2 ei
            obtain ⟨b, ws, f2, f3, f4⟩ := items_rp r3 ej
            exact ⟨a, b, us, ws, by rw [e1, e2, f2], x1.fh.seq e3, x1.fh.seq f3, PostG.ok p1 x1.fh (walkD_zip e3 f3 e4 f4)⟩
          | exc x => cases d' <;> cases ej
          | stuck => rw [ej] at p1; exact p1.elim
        | exc x => cases d <;> cases ei
        | stuck => rw [ei] at p1; exact p1.elim
def iRevD : List D → R (List D) := fun ds => match ds with
  | [d] => d.items.bind fun xs => .ok xs.reverse
  | _ => .stuck
theorem walkD_rev {K : PySem.W.Frag} {mg : Str → Option Value} {F' : Hp} {ds : List D} {vs : List V} {a : Addr} (e : SqL K F' a vs) (r : RpL K mg F' ds vs) : WalkD K mg F' ds.reverse (Itv K a vs.length) := by
  have w := walk_rev (K := K) (a := a) (xs := vs)
  unfold WalkD
  rw [List.length_reverse, r.length]
  refine w.mono (fun H z => z.seq e) fun i H x H' hi z y Fc s zc => ?_
  obtain ⟨rfl, ex⟩ := y
  have ex' : vs.reverse[i]? = some x := by rw [List.getElem?_reverse hi]; exact ex
  obtain ⟨d, ed, rd⟩ := (RpL.reverse r).getV ex'
  exact ⟨Fc, d, Ext.refl zc, ed, Rp.mono s _ _ rd⟩
theorem di_rev {tg : Expr} (hg : Gl X "reversed") (hm : X.mg "reversed" = none) (ha : DA X W [a] fo) (hs : starEach [a] X.env = [(false, eval a X.env)] := by rfl) : DI X W tg (.Call (.Name "reversed" p) [a] [] pos) (iCall iRevD fo) := by
  refine PI.weak (pi_reversed hg hm ha hs) ?_
  rintro σ H Q ⟨F0, H0, F, Γ, r, p⟩
  refine ⟨F0, H0, F, Γ, r, PostG.bind p (fun ds vs F1 H1 _ x1 r1 p1 => ?_) fun _ _ _ _ _ h => h⟩
  have r1 : RpL X.K X.mg F1 ds vs := r1
  cases ds with
  | nil => exact p1.elim
  | cons d ds =>
    cases ds with
    | cons _ _ => exact p1.elim
    | nil =>
      obtain ⟨v, e1, r2⟩ := r1.one
      have p1 : PostG X.K X.mg (fun _ F' _ ds J => WalkD X.K X.mg F' ds J) F1 H1 (WE W σ) Q (d.items.bind fun xs => .ok xs.reverse) := p1
      cases ei : d.items with
      | ok xs =>
        rw [ei] at p1
        obtain ⟨a, us, e2, e3, e4⟩ := items_rp r2 ei
        exact ⟨a, us, by rw [e1, e2], x1.fh.seq e3, PostG.ok p1 x1.fh (walkD_rev e3 e4)⟩
      | exc x => cases d <;> cases ei
      | stuck => rw [ei] at p1; exact p1.elim
/-- range(a, b, -1) -/
def rngDn (lo : Int) (n : Nat) : List D := (List.range n).map fun (i : Nat) => D.int (lo + (i : Nat) * (-1))
def iRange3 : List D → R (List D) := fun ds => match ds with
  | [.int i, .int j, .int k] => if inR62 i && inR62 j && decide (k = -1) then .ok (rngDn i (i - j).toNat) else .stuck
  | _ => .stuck
theorem walkD_dn {K : PySem.W.Frag} {mg : Str → Option Value} {F' : Hp} {lo : Int} {n : Nat} : WalkD K mg F' (rngDn lo n) (Itc lo (-1) n) := by
  have w := walk_rangeC (lo := lo) (c := -1) (n := n)
  unfold WalkD
  have hl : (rngDn lo n).length = n := by unfold rngDn; rw [List.length_map, List.length_range]
  rw [hl]
  refine w.mono (fun H z => trivial) fun i H x H' hi z y Fc s zc => ?_
  obtain ⟨rfl, rfl⟩ := y
  refine ⟨Fc, .int (lo + (i : Nat) * (-1)), Ext.refl zc, ?_, Rp.int⟩
  unfold rngDn
  rw [List.getElem?_map, List.getElem?_range hi]
  rfl
theorem di_range3 {tg : Expr} (hg : Gl X "range") (hm : X.mg "range" = none) (ha : DA X W [a, b, c] fo)
    (hs : starEach [a, b, c] X.env = (false, eval a X.env) :: starEach [b, c] X.env := by rfl) (hpl : (backTo pos (starEach [b, c] X.env)).any (·.1) = false := by rfl) : DI X W tg (.Call (.Name "range" p) [a, b, c] [] pos) (iCall iRange3 fo) := by
  refine PI.weak (pi_range3 hg hm ha hs hpl) ?_
  rintro σ H Q ⟨F0, H0, F, Γ, r, p⟩
  refine ⟨F0, H0, F, Γ, r, PostG.bind p (fun ds vs F1 H1 _ x1 r1 p1 => ?_) fun _ _ _ _ _ h => h⟩
  have r1 : RpL X.K X.mg F1 ds vs := r1
  cases ds with
  | nil => exact p1.elim
  | cons d1 ds =>
    cases ds with
    | nil => cases d1 <;> exact p1.elim
    | cons d2 ds =>
      cases ds with
      | nil => cases d1 <;> cases d2 <;> exact p1.elim
      | cons d3 ds =>
        cases ds with
        | cons _ _ => cases d1 <;> first | exact p1.elim | (cases d2 <;> first | exact p1.elim | (cases d3 <;> exact p1.elim))
        | nil =>
          cases d1 with
          | int i =>
            cases d2 with
            | int j =>
              cases d3 with
              | int k =>
                obtain ⟨v1, us, e1, r2, r3⟩ := r1.cons_iff
                obtain ⟨v2, v3, e2, r4, r5⟩ := r3.two
                obtain ⟨cc, p2⟩ := ifR p1
                obtain ⟨c1, c2⟩ := andB cc
                obtain ⟨c3, c4⟩ := andB c1
                obtain ⟨q1, q2⟩ := in62 c3
                obtain ⟨q3, q4⟩ := in62 c4
                have ek := of_decide_eq_true c2
                subst ek
                exact ⟨i, j, -1, (i - j).toNat, by rw [e1, e2, r2.int_iff, r4.int_iff, r5.int_iff], RgC.neg q1 q2 q3 q4, PostG.ok p2 x1.fh walkD_dn⟩
              | _ => exact p1.elim
            | _ => exact p1.elim
          | _ => exact p1.elim
/-- a text, sign by sign -/
def signsD (z : Str) : List D := z.cps.toList.map fun c => D.str ⟨#[c]⟩
def D.itemsS : D → R (List D)
  | .str z => .ok (signsD z)
  | _ => .stuck
def iOfS (f : DL.Env → R D) : DL.Env → R (List D) := fun Γ => (f Γ).bind D.itemsS
theorem walkD_str {K : PySem.W.Frag} {mg : Str → Option Value} {F' : Hp} {z : Str} : WalkD K mg F' (signsD z) (Its z) := by
  have w := walk_str (z := z)
  unfold WalkD
  have hl : (signsD z).length = z.cps.size := by unfold signsD; rw [List.length_map, Array.length_toList]
  rw [hl]
  refine w.mono (fun H z => trivial) fun i H x H' hi zz y Fc s zc => ?_
  obtain ⟨rfl, ch, h1, h2⟩ := y
  refine ⟨Fc, .str ⟨#[ch]⟩, Ext.refl zc, ?_, by rw [h2]; exact Rp.str⟩
  unfold signsD
  rw [List.getElem?_map, Array.getElem?_toList, h1]
  rfl
theorem di_str {tg : Expr} (h : DE X W e f) : DI X W tg e (iOfS f) := by
  refine PI.weak (pi_str h) ?_
  rintro σ H Q ⟨F0, H0, F, Γ, r, p⟩
  refine ⟨F0, H0, F, Γ, r, PostG.bind p (fun d v F1 H1 _ x1 r1 p1 => ?_) fun _ _ _ _ _ h => h⟩
  have r1 : Rp X.K X.mg F1 d v := r1
  cases d with
  | str z => exact ⟨z, r1.str_iff, PostG.ok p1 x1.fh walkD_str⟩
  | _ => exact p1.elim

/-! ### slices -/
def cutL {α : Type} (xs : List α) (lo hi : Option Int) : List α := (xs.drop (HT.sIx xs.length 0 lo)).take (HT.sIx xs.length xs.length hi - HT.sIx xs.length 0 lo)
theorem cutL_V (xs : List V) (lo hi : Option Int) : cutV xs lo hi = cutL xs lo hi := rfl
theorem RpL.cut {K : PySem.W.Frag} {mg : Str → Option Value} {F : Hp} {ds : List D} {vs : List V} (r : RpL K mg F ds vs) (lo hi : Option Int) : RpL K mg F (cutL ds lo hi) (cutV vs lo hi) := by
  unfold cutL cutV
  rw [← r.length]
  exact RpL.take _ (RpL.drop _ r)
def oSl1 (d : D) (lo hi : Option Int) : R (List D) := d.items.bind fun xs => .ok (cutL xs lo hi)
def sl1 (d : D) (lo hi : Option Int) : R D := match d with
  | .lst xs => .ok (.lst (cutL xs lo hi))
  | .scr ns => .ok (.lst (cutL (ns.map D.int) lo hi))
  | .tup xs => if decide (HT.sIx xs.length 0 lo = 0) && decide (HT.sIx xs.length xs.length hi = xs.length) then .stuck else .ok (.tup (cutL xs lo hi))
  | .str z => if z.length ≤ LIM then .ok (.str (cutS z lo hi)) else .stuck
  | _ => .stuck
/-- a part of a slice -/
def tDP (X : Cx) (W : WX) (f : DL.Env → R (Option Int)) : TO := fun σ H Q => ∃ F0 H0 F Γ, Rel X.K X.mg F0 H0 F H σ Γ ∧ PostG X.K X.mg repB F H (WE W σ) Q (f Γ)
abbrev DP (X : Cx) (W : WX) (e : Option Expr) (f : DL.Env → R (Option Int)) : Prop := PO X e (tDP X W f)
theorem PO.weak {X : Cx} {e : Option Expr} {t t' : TO} (h : PO X e t) (w : ∀ σ H Q, t' σ H Q → t σ H Q) : PO X e t' := ⟨fun pins s σ H Q I q => h.run pins s σ H Q I (w σ H Q q)⟩
def pNo : DL.Env → R (Option Int) := fun _ => .ok none
def asI : D → R (Option Int)
  | .int i => .ok (some i)
  | _ => .stuck
def pSo (f : DL.Env → R D) : DL.Env → R (Option Int) := fun Γ => (f Γ).bind asI
theorem dp_no : DP X W none pNo := PO.weak po_none fun σ H Q ⟨_, _, _, _, r, p⟩ => PostG.ok p r.fz rfl
theorem dp_so (h : DE X W e f) : DP X W (some e) (pSo f) := by
  refine PO.weak (po_some h) ?_
  rintro σ H Q ⟨F0, H0, F, Γ, r, p⟩
  refine ⟨F0, H0, F, Γ, r, PostG.bind p (fun d v F1 H1 _ x1 r1 p1 => ?_) fun _ _ _ _ _ h => h⟩
  cases d with
  | int i => exact ⟨i, (show Rp X.K X.mg F1 (.int i) v from r1).int_iff, PostG.ok p1 x1.fh rfl⟩
  | _ => exact p1.elim
def eSl (f : DL.Env → R D) (fl fh : DL.Env → R (Option Int)) : DL.Env → R D := fun Γ => (f Γ).bind fun d => (fl Γ).bind fun lo => (fh Γ).bind fun hi => sl1 d lo hi
def oSl (f : DL.Env → R D) (fl fh : DL.Env → R (Option Int)) : DL.Env → R (List D) := fun Γ => (f Γ).bind fun d => (fl Γ).bind fun lo => (fh Γ).bind fun hi => oSl1 d lo hi
def rSlA (K : PySem.W.Frag) : V → Option Int → Option Int → Hp → VK → Prop := fun x lo hi H Q => rSlL K x lo hi H Q ∨ (rSlT K x lo hi H Q ∨ rSlS x lo hi H Q)
theorem slA : SlR X (rSlA X.K) := sl_list.or (sl_tup.or sl_str)
theorem bind3 {α β : Type} {rep : Hp → Hp → Hp → α → β → Prop} {Q : β → Hp → Prop} {fl fh : DL.Env → R (Option Int)} {g : D → Option Int → Option Int → R α} {Q2 : V → Option Int → Option Int → Hp → Prop}
    (up : ∀ {F H F' H'} (x : Ext F H F' H') a' b' F2 H2, rep H' F2 H2 a' b' → rep H F2 H2 a' b') (r : Rel X.K X.mg F0 H0 F H σ Γ)
    (p : PostG X.K X.mg rep F H (WE W σ) Q ((f Γ).bind fun d => (fl Γ).bind fun lo => (fh Γ).bind fun hi => g d lo hi))
    (k : ∀ d v lo hi F2 H2, Ext F H F2 H2 → Rp X.K X.mg F2 d v → PostG X.K X.mg rep F2 H2 (WE W σ) Q (g d lo hi) → Q2 v lo hi H2) :
    tD X W f σ H (fun v H1 => tDP X W fl σ H1 fun lo H2 => tDP X W fh σ H2 fun hi H3 => Q2 v lo hi H3) := by
  refine ⟨F0, H0, F, Γ, r, PostG.bind p (fun d v F1 H1 _ x1 r1 p1 => ?_) fun x => up x⟩
  refine ⟨F0, H0, F1, Γ, r.step x1, PostG.bind p1 (fun lo lo' F2 H2 _ x2 r2 p2 => ?_) fun x => up x⟩
  have e1 : lo' = lo := r2
  subst e1
  refine ⟨F0, H0, F2, Γ, (r.step x1).step x2, PostG.bind p2 (fun hi hi' F3 H3 _ x3 r3 p3 => ?_) fun x => up x⟩
  have e2 : hi' = hi := r3
  subst e2
  exact k d v lo' hi' F3 H3 ((x1.trans x2).trans x3) (Rp.mono (x2.ff.trans x3.ff) _ _ r1) p3
theorem de_slice {lo hi : Option Expr} {fl fh : DL.Env → R (Option Int)} {p2 : Pos} (he : DE X W e f) (hl : DP X W lo fl) (hh : DP X W hi fh) : DE X W (.Subscript e (.Slice lo hi none p2) pos) (eSl f fl fh) := by
  refine PE.weak (pe_slice slA he hl hh) ?_
  rintro σ H Q ⟨F0, H0, F, Γ, r, p⟩
  refine bind3 (fun _ _ _ _ _ h => h) r p fun d v lo hi F2 H2 x r1 p1 => ?_
  cases d with
  | lst xs =>
    obtain ⟨a, vs, e1, e2, e3⟩ := r1.lstH x.fh
    refine .inl ⟨a, vs, e1, SqL.of e2, fun q hq => ?_⟩
    have x3 := Ext.laid (o := .lst (cutV vs lo hi)) x.fh hq
    exact PostG.at p1 x3 (Rp.lst upd_same (RpL.mono x3.ff _ _ (e3.cut lo hi)))
  | scr ns =>
    obtain ⟨a, e1, e2⟩ := r1.scr_iff
    refine .inl ⟨a, _, e1, x.fh.seq e2, fun q hq => ?_⟩
    have x3 := Ext.laid (o := .lst (cutV (ns.map V.int) lo hi)) x.fh hq
    exact PostG.at p1 x3 (Rp.lst upd_same (RpL.mono x3.ff _ _ (RpL.ints.cut lo hi)))
  | tup xs =>
    obtain ⟨a, vs, e1, e2, e3⟩ := r1.tupH x.fh
    have p1 : PostG X.K X.mg (repV X.K X.mg) F2 H2 (WE W σ) Q (if decide (HT.sIx xs.length 0 lo = 0) && decide (HT.sIx xs.length xs.length hi = xs.length) then .stuck else .ok (.tup (cutL xs lo hi))) := p1
    by_cases cc : (decide (HT.sIx xs.length 0 lo = 0) && decide (HT.sIx xs.length xs.length hi = xs.length)) = true
    · rw [if_pos cc] at p1
      exact p1.elim
    · rw [if_neg cc] at p1
      refine .inr (.inl ⟨a, vs, e1, SqT.of e2, fun ⟨q1, q2⟩ => cc ?_, fun q hq => ?_⟩)
      · rw [← e3.length] at q1 q2
        rw [decide_eq_true q1, decide_eq_true q2]
        rfl
      · have x3 := Ext.laid (o := .tup (cutV vs lo hi)) x.fh hq
        exact PostG.at p1 x3 (Rp.tup upd_same (RpL.mono x3.ff _ _ (e3.cut lo hi)))
  | str z =>
    obtain ⟨cc, p2⟩ := ifR p1
    exact .inr (.inr ⟨z, r1.str_iff, by rw [LIM_eq]; exact cc, PostG.ok p2 x.fh Rp.str⟩)
  | _ => exact p1.elim
theorem do_slice {lo hi : Option Expr} {fl fh : DL.Env → R (Option Int)} {p2 : Pos} (he : DE X W e f) (hl : DP X W lo fl) (hh : DP X W hi fh) : DO X W (.Subscript e (.Slice lo hi none p2) pos) (oSl f fl fh) := by
  refine PE.weak (pe_slice sl_list he hl hh) ?_
  rintro σ H Q ⟨F0, H0, F, Γ, r, p⟩
  refine bind3 upO r p fun d v lo hi F2 H2 x r1 p1 => ?_
  have p1 : PostG X.K X.mg (repO X.K X.mg) F2 H2 (WE W σ) Q (d.items.bind fun xs => .ok (cutL xs lo hi)) := p1
  cases ei : d.items with
  | ok xs =>
    rw [ei] at p1
    obtain ⟨a, us, e2, e3, e4⟩ := items_rp r1 ei
    refine ⟨a, us, e2, x.fh.seq e3, fun q hq => ?_⟩
    exact PostG.at p1 (Ext.heap x.fh hq) ⟨q, _, rfl, upd_same, x.fh.free hq, hq, e4.cut lo hi⟩
  | exc x => cases d <;> cases ei
  | stuck => rw [ei] at p1; exact p1.elim
/-- xs[::-1] of a list -/
def oRev (f : DL.Env → R D) : DL.Env → R (List D) := fun Γ => (f Γ).bind fun d => d.items.bind fun xs => .ok xs.reverse
theorem do_rev {k : Nat} {p1 p2 p3 : Pos} (he : DE X W e f) : DO X W (.Subscript e (.Slice none none (some (.UnaryOp .USub (.Constant (.int 1) k p1) p2)) p3) pos) (oRev f) := by
  refine PE.weak (pe_revL he) ?_
  rintro σ H Q ⟨F0, H0, F, Γ, r, p⟩
  refine ⟨F0, H0, F, Γ, r, PostG.bind p (fun d v F2 H2 _ x r1 p1 => ?_) upO⟩
  cases ei : d.items with
  | ok xs =>
    rw [ei] at p1
    obtain ⟨a, us, e2, e3, e4⟩ := items_rp r1 ei
    refine ⟨a, us, e2, x.fh.seq e3, fun q hq => ?_⟩
    exact PostG.at p1 (Ext.heap x.fh hq) ⟨q, _, rfl, upd_same, x.fh.free hq, hq, RpL.reverse e4⟩
  | exc x => cases d <;> cases ei
  | stuck => rw [ei] at p1; exact p1.elim

end
end DL
set_option Elab.async false
set_option linter.all false
set_option maxRecDepth 100000
set_option maxHeartbeats 4000000
/-! The data layer: further operations. -/
namespace DL
open PySem PySem.Spec L2

/-- list(x) -/
def oList : List D → R (List D) := fun ds => match ds with
  | [.lst xs] => .ok xs
  | [.scr ns] => .ok (ns.map D.int)
  | [.tup xs] => .ok xs
  | _ => .stuck
/-- divmod(a, b) -/
def dDivmodB : D → D → R D
  | .int i, .int j => if decide (0 < j) && decide (j.natAbs.log2 < 9000) then .ok (.tup [.int (i / j), .int (i % j)]) else .stuck
  | _, _ => .stuck
abbrev dDivmod := un2 dDivmodB
/-- x in xs of numbers, texts, None -/
def D.flat : D → Bool
  | .non => true | .bl _ => true | .int _ => true | .str _ => true
  | _ => false
def sSetIx' := @sSetIx
def sClear (i : Nat) : DL.Env → Out := fun Γ => match Env.at_ Γ i with
  | some (.own _) => .nx (Γ.set i (some (.own [])))
  | _ => .stuck
def sPop (i : Nat) : DL.Env → Out := fun Γ => match Env.at_ Γ i with
  | some (.own ds) => if ds = [] then .stuck else .nx (Γ.set i (some (.own ds.dropLast)))
  | _ => .stuck
section
variable {X : Cx} {W : WX} {F0 : Fe} {H0 F H : Hp} {σ : L2.St} {Γ : DL.Env} {Dn : Ends} {e a b c : Expr} {es : List Expr} {g : DL.Env → Out} {f fa fb fk fv : DL.Env → R D} {fo : DL.Env → R (List D)} {ft : DL.Env → R Bool} {pos p : Pos}
theorem satO_list : SatLO X (fun xs H Q => ∃ p ys, xs = [.ref p] ∧ (SqL X.K H p ys ∨ SqT X.K H p ys) ∧ ∀ l, H l = none → Q (.ref l) (upd H l (.lst ys))) oList := by
  intro F H ds vs E Q z r p
  cases ds with
  | nil => exact p.elim
  | cons d ds =>
    cases ds with
    | cons _ _ => cases d <;> exact p.elim
    | nil =>
      obtain ⟨v, e, r1⟩ := r.one
      cases d with
      | lst xs =>
        obtain ⟨l, ws, e1, e2, e3⟩ := r1.lstH z
        exact ⟨l, ws, by rw [e, e1], .inl (SqL.of e2), fun q hq => PostG.at p (Ext.heap z hq) ⟨q, ws, rfl, upd_same, z.free hq, hq, e3⟩⟩
      | scr ns =>
        obtain ⟨l, e1, e2⟩ := r1.scr_iff
        exact ⟨l, _, by rw [e, e1], .inl (z.seq e2), fun q hq => PostG.at p (Ext.heap z hq) ⟨q, _, rfl, upd_same, z.free hq, hq, RpL.ints⟩⟩
      | tup xs =>
        obtain ⟨l, ws, e1, e2, e3⟩ := r1.tupH z
        exact ⟨l, ws, by rw [e, e1], .inr (SqT.of e2), fun q hq => PostG.at p (Ext.heap z hq) ⟨q, ws, rfl, upd_same, z.free hq, hq, e3⟩⟩
      | _ => exact p.elim
theorem sat_divmod : SatL X (fun xs H Q => ∃ i j, xs = [.int i, .int j] ∧ CDivP i j ∧ ∀ p, H p = none → Q (.ref p) (upd H p (.tup [.int (i / j), .int (i % j)]))) dDivmod := sat_un2 fun F H x y v u E Q z r1 r2 p => by
  cases x with
  | int i =>
    cases y with
    | int j =>
      obtain ⟨cc, p2⟩ := ifR p
      obtain ⟨c1, c2⟩ := andB cc
      refine ⟨i, j, by rw [r1.int_iff, r2.int_iff], ⟨of_decide_eq_true c1, PyProof.noPylong_of_log2 (of_decide_eq_true c2)⟩, fun q hq => PostG.at p2 (Ext.laid z hq) (Rp.tup upd_same (RpL.cons Rp.int (RpL.cons Rp.int RpL.nil)))⟩
    | _ => exact p.elim
  | _ => exact p.elim
/-- xs[k] = e, xs the own list at slot i -/
theorem ds_setIx (i : Nat) {x : Str} {p1 : Pos} (hk : DE X W b fk) (he : DE X W e fv) (hN : X.N[i]? = some x := by rfl) (hv : Vis X.env.scope x := by first | exact Or.inl (by kernel_rfl) | exact Or.inr (Or.inl (by kernel_rfl)) | exact Or.inr (Or.inr (by kernel_rfl))) (hd : (x == ("__debug__" : Str)) = false := by kernel_rfl)
    (hcd : (x == ("__classdict__" : Str)) = false := by kernel_rfl)
    (ha : ∀ v, assign (.Subscript (.Name x p1) b p) X.env v = (do
      let ov ← holding [v] (eval (.Name x p1) X.env)
      let iv ← holding [v, ov] (eval b X.env)
      standAt p
      holding [v, ov, iv] (setItem ov iv v)
      release [v, ov, iv] []) := by intro _; rfl)
    (hs : swapsWithSole [.Subscript (.Name x p1) b p] e pos.line X.env = pure false := by rfl) (hw : swappedStores [.Subscript (.Name x p1) b p] e X.env = pure none := by rfl)
    (h1 : (assignEach [.Subscript (.Name x p1) b p] X.env).map (·.2) = [assign (.Subscript (.Name x p1) b p) X.env] := by rfl) : DS X W (.Assign [.Subscript (.Name x p1) b p] e pos) (sSetIx i fk fv) := by
  refine PS.weak (ps_asg he (pg_sub (pe_var hN hv hd hcd) hk set_list ha) hs hw h1) ?_
  rintro Dn σ H ⟨F0, H0, F, Γ, r, p⟩
  refine ⟨F0, H0, F, Γ, r, PostS.out r p fun d w F1 H1 _ x1 r1 p1 => ?_⟩
  revert p1
  cases ei : Env.at_ Γ i with
  | none => exact fun p => p.elim
  | some s =>
    cases s with
    | oob b c ns fs => exact fun p => p.elim
    | val d => exact fun p => p.elim
    | dic ks ds => exact fun p => p.elim
    | own ds =>
      intro p1
      have rl1 := r.step x1
      obtain ⟨v, h1, l, vs, e1, e2, e3, e4, e5⟩ := rl1.slot i _ (at_get ei)
      subst e1
      refine ⟨_, h1, F0, H0, F1, Γ, rl1, PostS.out rl1 p1 fun k kv F2 H2 _ x2 r2 p2 => ?_⟩
      cases k with
      | int k =>
        rw [(show Rp X.K X.mg F2 (.int k) kv from r2).int_iff]
        have p2 : PostS X W F0 H0 Dn (match ixN ds.length k with | some j => Out.nx (Γ.set i (some (.own (ds.set j d)))) | none => Out.stuck) := p2
        revert p2
        cases ej : ixN ds.length k with
        | none => exact fun p => p.elim
        | some j =>
          intro p2
          refine ⟨l, vs, k, j, rfl, rfl, x2.hh _ _ e2, by rw [← e5.length]; exact ej, p2 _ F2 _ ?_⟩
          have rl2 := rl1.step x2
          refine rl2.mutO (at_get ei) rfl h1 rfl ⟨l, vs.set j w, rfl, upd_same, ?_, e4, RpL.set j (RpL.mono x2.ff _ _ e5) (Rp.mono x2.ff _ _ r1)⟩
          cases q : F2 l with
          | none => rfl
          | some o =>
            rcases x2.new l o q with z | z
            · rw [e3] at z; cases z
            · rw [e2] at z; cases z
      | _ => exact p2.elim
theorem ds_clear (i : Nat) {x : Str} {p1 p2 cpos : Pos} (hN : X.N[i]? = some x := by rfl) (hv : Vis X.env.scope x := by first | exact Or.inl (by kernel_rfl) | exact Or.inr (Or.inl (by kernel_rfl)) | exact Or.inr (Or.inr (by kernel_rfl))) (hd : (x == ("__debug__" : Str)) = false := by kernel_rfl)
    (hcd : (x == ("__classdict__" : Str)) = false := by kernel_rfl) (hline : (p2.endLine == cpos.line) = true := by rfl)
    (hs : swapsWith (.Call (.Attribute (.Name x p1) "clear" p2) [] [] cpos) none pos.line X.env = pure false := by rfl) :
    DS X W (.Expr (.Call (.Attribute (.Name x p1) "clear" p2) [] [] cpos) pos) (sClear i) := by
  refine PS.weak (ps_expr (pe_bm0 PySem.F.plainAttrs_list PySem.F.slot_list_clear PySem.F.type_list_clear mt_clear (pe_var hN hv hd hcd) rfl hline) hs) ?_
  rintro Dn σ H ⟨F0, H0, F, Γ, r, p⟩
  revert p
  unfold sClear
  cases ei : Env.at_ Γ i with
  | none => exact fun p => p.elim
  | some s =>
    cases s with
    | oob b c ns fs => exact fun p => p.elim
    | val d => exact fun p => p.elim
    | dic ks ds => exact fun p => p.elim
    | own ds =>
      intro p
      obtain ⟨v, h1, l, vs, e1, e2, e3, e4, e5⟩ := r.slot i _ (at_get ei)
      subst e1
      exact ⟨_, h1, .inl ⟨rfl, _, SqL.of e2⟩, l, vs, rfl, rfl, e2, p _ F _ (r.mutO (at_get ei) rfl h1 rfl ⟨l, [], rfl, upd_same, e3, e4, RpL.nil⟩)⟩
end
end DL
set_option Elab.async false
set_option linter.all false
set_option maxRecDepth 100000
set_option maxHeartbeats 4000000
/-! The data layer: dicts by whole numbers and texts. -/
namespace DL
open PySem PySem.Spec L2

def dKey : D → Option Key
  | .int i => some (.inl i)
  | .str x => some (.inr x)
  | _ => none
section
variable {α : Type}
def lkD : List Key → List α → Key → Option α
  | k :: ks, d :: ds, j => if k = j then some d else lkD ks ds j
  | _, _, _ => none
def puV : List Key → List α → Key → α → List α
  | k :: ks, d :: ds, j, x => (if k = j then x else d) :: puV ks ds j x
  | _, _, _, _ => []
def putD (ks : List Key) (ds : List α) (j : Key) (x : α) : List Key × List α := if (lkD ks ds j).isSome = true then (ks, puV ks ds j x) else (ks ++ [j], ds ++ [x])
theorem puV_len : ∀ (ks : List Key) (ds : List α) (j : Key) (x : α), ks.length = ds.length → (puV ks ds j x).length = ks.length
  | [], [], _, _, _ => rfl
  | [], _ :: _, _, _, h => by simp at h
  | _ :: _, [], _, _, h => by simp at h
  | k :: ks, d :: ds, j, x, h => by
    show (puV ks ds j x).length + 1 = _
    rw [puV_len ks ds j x (by simpa using h)]
    rfl
theorem putD_len (ks : List Key) (ds : List α) (j : Key) (x : α) (h : ks.length = ds.length) : (putD ks ds j x).1.length = (putD ks ds j x).2.length := by
  unfold putD
  split
  · exact (puV_len ks ds j x h).symm
  · simp [h]
end
theorem lkD_valV : ∀ (ks : List Key) (vs : List V) (j : Key), valV (ks.zip vs) j = lkD ks vs j
  | [], _, _ => rfl
  | _ :: _, [], _ => rfl
  | k :: ks, v :: vs, j => by
    rw [List.zip_cons_cons]
    by_cases e : k = j
    · rw [valV_pos (p := (k, v)) e]
      unfold lkD
      rw [if_pos e]
    · rw [valV_neg (p := (k, v)) e, lkD_valV ks vs j]
      conv => rhs; unfold lkD
      rw [if_neg e]
theorem putD_zip (ks : List Key) (vs : List V) (j : Key) (v : V) (h : ks.length = vs.length) : putK (ks.zip vs) j v = (putD ks vs j v).1.zip (putD ks vs j v).2 := by
  have hm : ∀ (ks : List Key) (vs : List V), ks.length = vs.length → (ks.zip vs).map (fun kv => if kv.1 = j then (kv.1, v) else kv) = ks.zip (puV ks vs j v) := by
    intro ks
    induction ks with
    | nil => intro vs _; rfl
    | cons k ks ih =>
      intro vs h
      cases vs with
      | nil => simp at h
      | cons w vs =>
        show (if k = j then (k, v) else (k, w)) :: (ks.zip vs).map _ = (k, if k = j then v else w) :: ks.zip (puV ks vs j v)
        rw [ih vs (by simpa using h)]
        split <;> rfl
  unfold putK putD
  rw [valV_any, lkD_valV]
  split
  · exact hm ks vs h
  · rw [List.zip_append h]
    rfl
section
variable {K : PySem.W.Frag} {mg : Str → Option Value} {F : Hp}
theorem RpL.lk : ∀ {ks : List Key} {ds : List D} {vs : List V} {j : Key} {d : D}, RpL K mg F ds vs → lkD ks ds j = some d → ∃ v, lkD ks vs j = some v ∧ Rp K mg F d v
  | [], _, _, _, _, _, e => by simp [lkD] at e
  | _ :: _, [], _, _, _, _, e => by simp [lkD] at e
  | k :: ks, d :: ds, vs, j, d', r, e => by
    obtain ⟨v, us, rfl, r1, r2⟩ := r.cons_iff
    unfold lkD at e ⊢
    by_cases q : k = j
    · rw [if_pos q] at e ⊢
      cases e
      exact ⟨v, rfl, r1⟩
    · rw [if_neg q] at e ⊢
      exact RpL.lk r2 e
theorem RpL.lkS : ∀ {ks : List Key} {ds : List D} {vs : List V} {j : Key}, RpL K mg F ds vs → (lkD ks vs j).isSome = (lkD ks ds j).isSome
  | [], _, _, _, _ => by simp [lkD]
  | _ :: _, [], _, _, r => by rw [r.nil_iff]; simp [lkD]
  | k :: ks, d :: ds, vs, j, r => by
    obtain ⟨v, us, rfl, r1, r2⟩ := r.cons_iff
    unfold lkD
    by_cases q : k = j
    · rw [if_pos q, if_pos q]; rfl
    · rw [if_neg q, if_neg q]
      exact RpL.lkS r2
theorem RpL.pu : ∀ {ks : List Key} {ds : List D} {vs : List V} {j : Key} {d : D} {v : V}, RpL K mg F ds vs → Rp K mg F d v → RpL K mg F (puV ks ds j d) (puV ks vs j v)
  | [], _, _, _, _, _, _, _ => by simp [puV]; exact RpL.nil
  | _ :: _, [], _, _, _, _, r, _ => by rw [r.nil_iff]; simp [puV]; exact RpL.nil
  | k :: ks, d' :: ds, vs, j, d, v, r, rd => by
    obtain ⟨w, us, rfl, r1, r2⟩ := r.cons_iff
    unfold puV
    by_cases q : k = j
    · rw [if_pos q, if_pos q]
      exact RpL.cons rd (RpL.pu r2 rd)
    · rw [if_neg q, if_neg q]
      exact RpL.cons r1 (RpL.pu r2 rd)
theorem RpL.put {ks : List Key} {ds : List D} {vs : List V} {j : Key} {d : D} {v : V} (r : RpL K mg F ds vs) (rd : Rp K mg F d v) : (putD ks ds j d).1 = (putD ks vs j v).1 ∧ RpL K mg F (putD ks ds j d).2 (putD ks vs j v).2 := by
  unfold putD
  rw [r.lkS]
  split
  · exact ⟨rfl, RpL.pu r rd⟩
  · exact ⟨rfl, RpL.append r (RpL.cons rd RpL.nil)⟩
theorem dKey_rp {d : D} {v : V} {k : Key} (r : Rp K mg F d v) (h : dKey d = some k) : v = kV k := by
  cases d with
  | int i => cases h; exact r.int_iff
  | str x => cases h; exact r.str_iff
  | _ => cases h
end

def dNew : DL.Env → R (List Key × List D) := fun _ => .ok ([], [])
def sPut (i : Nat) (fk fv : DL.Env → R D) : DL.Env → Out := fun Γ => (fv Γ).out Γ fun d => match Env.at_ Γ i with
  | some (.dic ks ds) => (fk Γ).out Γ fun k => match dKey k with
    | some j => if ks.length < LIM then .nx (Γ.set i (some (.dic (putD ks ds j d).1 (putD ks ds j d).2))) else .stuck
    | none => .stuck
  | _ => .stuck
def bHas (n : Bool) (i : Nat) (fk : DL.Env → R D) : DL.Env → R Bool := fun Γ => (fk Γ).bind fun k => match Env.at_ Γ i with
  | some (.dic ks ds) => (match dKey k with
    | some j => .ok ((lkD ks ds j).isSome != n)
    | none => .stuck)
  | _ => .stuck
def eOwnGet (i : Nat) (fk : DL.Env → R D) : DL.Env → R D := fun Γ => match Env.at_ Γ i with
  | some (.dic ks ds) => (fk Γ).bind fun k => match dKey k with
    | some j => (match lkD ks ds j with | some d => .ok d | none => .stuck)
    | none => .stuck
  | _ => .stuck
/-- of a dict that nobody changes any more -/
def dGet : D → D → R D
  | .dk ks ds, k => match dKey k with
    | some j => (match lkD ks ds j with | some d => .ok d | none => .stuck)
    | none => .stuck
  | _, _ => .stuck
def dInD : D → D → R D
  | k, .dk ks ds => match dKey k with
    | some j => .ok (.bl (lkD ks ds j).isSome)
    | none => .stuck
  | _, _ => .stuck
def dNotInD : D → D → R D
  | k, .dk ks ds => match dKey k with
    | some j => .ok (.bl (!(lkD ks ds j).isSome))
    | none => .stuck
  | _, _ => .stuck

section
variable {X : Cx} {W : WX} {F0 : Fe} {H0 F H : Hp} {σ : L2.St} {Γ : DL.Env} {Dn : Ends} {e a b c : Expr} {es : List Expr} {g : DL.Env → Out} {f fa fb fk fv : DL.Env → R D} {fo : DL.Env → R (List D)} {ft : DL.Env → R Bool} {pos p : Pos}
theorem hu_of (h : X.A.units + 64 < cLine) : X.A.units + 1 < cLine := by omega
theorem dd_new : DDt X W (.Dict [] [] pos) dNew := by
  refine PE.weak pe_dnewK ?_
  rintro σ H Q ⟨F0, H0, F, Γ, r, p⟩
  intro q hq
  exact PostG.at p (Ext.heap r.fz hq) ⟨q, [], rfl, upd_same, rfl, r.fz.free hq, hq, RpL.nil⟩
theorem ds_put (i : Nat) {x : Str} {p1 : Pos} (hu : X.A.units + 1 < cLine) (hk : DE X W b fk) (he : DE X W e fv) (hN : X.N[i]? = some x := by rfl) (hv : Vis X.env.scope x := by first | exact Or.inl (by kernel_rfl) | exact Or.inr (Or.inl (by kernel_rfl)) | exact Or.inr (Or.inr (by kernel_rfl))) (hd : (x == ("__debug__" : Str)) = false := by kernel_rfl)
    (hcd : (x == ("__classdict__" : Str)) = false := by kernel_rfl) (hs : swapsWith e (some (.Subscript (.Name x p1) b p)) pos.line X.env = pure false := by rfl) : DS X W (.Assign [.Subscript (.Name x p1) b p] e pos) (sPut i fk fv) := by
  refine PS.weak (ps_dput hu (pe_var hN hv hd hcd) hk he hs) ?_
  rintro Dn σ H ⟨F0, H0, F, Γ, r, p⟩
  refine ⟨F0, H0, F, Γ, r, PostS.out r p fun d w F1 H1 _ x1 r1 p1 => ?_⟩
  revert p1
  cases ei : Env.at_ Γ i with
  | none => exact fun p => p.elim
  | some s =>
    cases s with
    | oob b c ns fs => exact fun p => p.elim
    | val d => exact fun p => p.elim
    | own ds => exact fun p => p.elim
    | dic ks ds =>
      intro p1
      have rl1 := r.step x1
      obtain ⟨v, h1, l, vs, e1, e2, el, e3, e4, e5⟩ := rl1.slot i _ (at_get ei)
      subst e1
      refine ⟨_, h1, F0, H0, F1, Γ, rl1, PostS.out rl1 p1 fun k kv F2 H2 _ x2 r2 p2 => ?_⟩
      revert p2
      cases ek : dKey k with
      | none => exact fun p => p.elim
      | some j =>
        intro p2
        by_cases hl : ks.length < LIM
        · have p2' : PostS X W F0 H0 Dn (if ks.length < LIM then Out.nx (Γ.set i (some (.dic (putD ks ds j d).1 (putD ks ds j d).2))) else Out.stuck) := p2
          rw [if_pos hl] at p2'
          have ekv := dKey_rp r2 ek
          have rl2 := rl1.step x2
          have rr := RpL.mono x2.ff _ _ e5
          have rd := Rp.mono x2.ff _ _ r1
          have pz := RpL.put (ks := ks) (j := j) rr rd
          refine ⟨l, _, rfl, .inl ⟨ks.zip vs, j, x2.hh _ _ e2, ekv, by rw [List.length_zip, ← el, Nat.min_self, LIM_eq]; exact hl, rfl⟩, p2' _ F2 _ ?_⟩
          refine rl2.mutO (at_get ei) rfl h1 rfl ⟨l, (putD ks vs j w).2, rfl, by rw [upd_same, putD_zip ks vs j w el, pz.1], ?_, ?_, e4, pz.2⟩
          · rw [pz.1]
            exact putD_len ks vs j w el
          · cases q : F2 l with
            | none => rfl
            | some o =>
              rcases x2.new l o q with z | z
              · rw [e3] at z; cases z
              · rw [e2] at z; cases z
        · have p2' : PostS X W F0 H0 Dn (if ks.length < LIM then Out.nx (Γ.set i (some (.dic (putD ks ds j d).1 (putD ks ds j d).2))) else Out.stuck) := p2
          rw [if_neg hl] at p2'
          exact p2'.elim
theorem dt_hasG (i : Nat) {x : Str} {n : Bool} {op : CmpOp} (t : TE → TE → TE) (ht : ∀ ty td σ H Q, (ty σ H fun y H1 => td σ H1 fun x H2 => ∃ a o, x = .ref a ∧ DGet H2 a y o ∧ Q (.bl (o.isSome != n)) H2) → t ty td σ H Q)
    (pc : ∀ ty td, PE X a ty → PE X (.Name x p) td → PC X op a (.Name x p) (t ty td)) (ha : DE X W a fk) (hN : X.N[i]? = some x := by rfl) (hv : Vis X.env.scope x := by first | exact Or.inl (by kernel_rfl) | exact Or.inr (Or.inl (by kernel_rfl)) | exact Or.inr (Or.inr (by kernel_rfl))) (hd : (x == ("__debug__" : Str)) = false := by kernel_rfl)
    (hcd : (x == ("__classdict__" : Str)) = false := by kernel_rfl) (hm : behindInMarks op (.Name x p) = false := by rfl) : DT X W (.Compare a [op] [.Name x p] pos) (bHas n i fk) := by
  refine PT.weak (pt_cmp (pc _ _ ha (pe_var hN hv hd hcd)) hm) ?_
  rintro σ H Q ⟨F0, H0, F, Γ, r, p⟩
  refine ht _ _ _ _ _ ⟨F0, H0, F, Γ, r, PostG.bind p (fun k kv F1 H1 _ x1 r1 p1 => ?_) fun _ _ _ _ _ h => h⟩
  revert p1
  cases ei : Env.at_ Γ i with
  | none => exact fun p => p.elim
  | some s =>
    cases s with
    | oob b c ns fs => exact fun p => p.elim
    | val d => exact fun p => p.elim
    | own ds => exact fun p => p.elim
    | dic ks ds =>
      intro p1
      have rl1 := r.step x1
      obtain ⟨v, h1, l, vs, e1, e2, el, e3, e4, e5⟩ := rl1.slot i _ (at_get ei)
      subst e1
      refine ⟨_, h1, l, lkD ks vs ((dKey k).getD (.inl 0)), rfl, ?_, ?_⟩
      all_goals revert p1
      all_goals cases ek : dKey k with
        | none => exact fun p => p.elim
        | some j => ?_
      · intro _
        exact .inl ⟨ks.zip vs, j, .inl e2, dKey_rp r1 ek, by rw [lkD_valV]; rfl⟩
      · intro p1
        show ∃ k, _ ∧ _
        refine ⟨_, rfl, ?_⟩
        have : (lkD ks vs j).isSome = (lkD ks ds j).isSome := e5.lkS
        show Q ((lkD ks vs j).isSome != n) H1
        rw [this]
        exact PostG.ok p1 x1.fh rfl
theorem dt_has (i : Nat) {x : Str} (hu : X.A.units + 1 < cLine) (ha : DE X W a fk) (hN : X.N[i]? = some x := by rfl) (hv : Vis X.env.scope x := by first | exact Or.inl (by kernel_rfl) | exact Or.inr (Or.inl (by kernel_rfl)) | exact Or.inr (Or.inr (by kernel_rfl))) (hd : (x == ("__debug__" : Str)) = false := by kernel_rfl)
    (hcd : (x == ("__classdict__" : Str)) = false := by kernel_rfl) : DT X W (.Compare a [.In] [.Name x p] pos) (bHas false i fk) :=
  dt_hasG i tDIn (fun ty td σ H Q h => by unfold tDIn; simpa using h) (fun _ _ h1 h2 => pc_din hu h1 h2) ha hN hv hd hcd
theorem dt_hasNot (i : Nat) {x : Str} (hu : X.A.units + 1 < cLine) (ha : DE X W a fk) (hN : X.N[i]? = some x := by rfl) (hv : Vis X.env.scope x := by first | exact Or.inl (by kernel_rfl) | exact Or.inr (Or.inl (by kernel_rfl)) | exact Or.inr (Or.inr (by kernel_rfl))) (hd : (x == ("__debug__" : Str)) = false := by kernel_rfl)
    (hcd : (x == ("__classdict__" : Str)) = false := by kernel_rfl) : DT X W (.Compare a [.NotIn] [.Name x p] pos) (bHas true i fk) :=
  dt_hasG i tDNotIn (fun ty td σ H Q h => by unfold tDNotIn; simpa using h) (fun _ _ h1 h2 => pc_dnotin hu h1 h2) ha hN hv hd hcd
theorem de_ownGet (i : Nat) {x : Str} (hu : X.A.units + 1 < cLine) (hb : DE X W b f) (hN : X.N[i]? = some x := by rfl) (hv : Vis X.env.scope x := by first | exact Or.inl (by kernel_rfl) | exact Or.inr (Or.inl (by kernel_rfl)) | exact Or.inr (Or.inr (by kernel_rfl))) (hd : (x == ("__debug__" : Str)) = false := by kernel_rfl)
    (hcd : (x == ("__classdict__" : Str)) = false := by kernel_rfl) (hs : NoSl b := by exact fun _ _ => rfl) : DE X W (.Subscript (.Name x p) b pos) (eOwnGet i f) := by
  refine PE.weak (pe_dget hu (pe_var hN hv hd hcd) hb hs) ?_
  rintro σ H Q ⟨F0, H0, F, Γ, r, p⟩
  revert p
  unfold eOwnGet
  cases ei : Env.at_ Γ i with
  | none => exact fun p => p.elim
  | some s =>
    cases s with
    | oob b c ns fs => exact fun p => p.elim
    | val d => exact fun p => p.elim
    | own ds => exact fun p => p.elim
    | dic ks ds =>
      intro p
      obtain ⟨v, h1, l, vs, e1, e2, el, e3, e4, e5⟩ := r.slot i _ (at_get ei)
      subst e1
      refine ⟨_, h1, F0, H0, F, Γ, r, PostG.bind p (fun k w F1 H1 _ x1 r1 p1 => ?_) fun _ _ _ _ _ h => h⟩
      cases ek : dKey k with
      | none => rw [ek] at p1; exact p1.elim
      | some j =>
        rw [ek] at p1
        have p1' : PostG X.K X.mg (repV X.K X.mg) F1 H1 (WE W σ) Q (match lkD ks ds j with | some d => .ok d | none => .stuck) := p1
        cases el2 : lkD ks ds j with
        | none => rw [el2] at p1'; exact p1'.elim
        | some d =>
          rw [el2] at p1'
          obtain ⟨z, ez, rz⟩ := RpL.lk (RpL.mono x1.ff _ _ e5) el2
          exact ⟨l, z, rfl, .inl ⟨ks.zip vs, j, .inl (x1.hh _ _ e2), dKey_rp r1 ek, by rw [lkD_valV]; exact ez.symm⟩, PostG.ok p1' x1.fh rz⟩
theorem dk_rdH {F H : Hp} {ks : List Key} {ds : List D} {v : V} (z : Fz F H) (r : Rp X.K X.mg F (.dk ks ds) v) : ∃ l vs, v = .ref l ∧ Rd H l (.dK (ks.zip vs)) ∧ ks.length = vs.length ∧ RpL X.K X.mg F ds vs := by
  unfold Rp at r
  obtain ⟨l, vs, e1, e2, e3, e4⟩ := r
  refine ⟨l, vs, e1, ?_, e3, e4⟩
  rcases z l _ e2 with q | ⟨_, ob, q⟩
  · exact .inl q
  · exact .inr ⟨ob, q⟩
/-- d[k], d a dict that nobody changes -/
theorem de_dget (hu : X.A.units + 1 < cLine) (ha : DE X W a fa) (hb : DE X W b fb) (hs : NoSl b := by exact fun _ _ => rfl) : DE X W (.Subscript a b pos) (eOp dGet fa fb) := by
  refine PE.weak (pe_dget hu ha hb hs) ?_
  rintro σ H Q ⟨F0, H0, F, Γ, rl, p⟩
  refine bind2 (fun _ _ _ _ _ h => h) rl p fun x y v u F2 H2 x2 r1 r2 p2 => ?_
  cases x with
  | dk ks ds =>
    obtain ⟨l, vs, e1, e2, e3, e4⟩ := dk_rdH x2.fh r1
    have p2' : PostG X.K X.mg (repV X.K X.mg) F2 H2 (WE W σ) Q (match dKey y with
      | some j => (match lkD ks ds j with | some d => R.ok d | none => .stuck)
      | none => .stuck) := p2
    cases ek : dKey y with
    | none => rw [ek] at p2'; exact p2'.elim
    | some j =>
      rw [ek] at p2'
      have p3 : PostG X.K X.mg (repV X.K X.mg) F2 H2 (WE W σ) Q (match lkD ks ds j with | some d => R.ok d | none => .stuck) := p2'
      cases el2 : lkD ks ds j with
      | none => rw [el2] at p3; exact p3.elim
      | some d =>
        rw [el2] at p3
        obtain ⟨z, ez, rz⟩ := RpL.lk e4 el2
        exact ⟨l, z, e1, .inl ⟨ks.zip vs, j, e2, dKey_rp r2 ek, by rw [lkD_valV]; exact ez.symm⟩, PostG.ok p3 x2.fh rz⟩
  | _ => exact p2.elim
theorem inD_core {F2 H2 : Hp} {x y : D} {v u : V} {E : XK} {Q : VK} (z : Fz F2 H2) (r1 : Rp X.K X.mg F2 x v) (r2 : Rp X.K X.mg F2 y u) (p2 : PostG X.K X.mg (repV X.K X.mg) F2 H2 E Q (dInD x y)) : ∃ a o, u = .ref a ∧ DGet H2 a v o ∧ Q (.bl o.isSome) H2 := by
  cases y with
  | dk ks ds =>
    obtain ⟨l, vs, e1, e2, e3, e4⟩ := dk_rdH z r2
    have p2' : PostG X.K X.mg (repV X.K X.mg) F2 H2 E Q (match dKey x with
      | some j => R.ok (.bl (lkD ks ds j).isSome)
      | none => .stuck) := by cases x <;> exact p2
    cases ek : dKey x with
    | none => rw [ek] at p2'; exact p2'.elim
    | some j =>
      rw [ek] at p2'
      refine ⟨l, lkD ks vs j, e1, .inl ⟨ks.zip vs, j, e2, dKey_rp r1 ek, by rw [lkD_valV]⟩, ?_⟩
      rw [e4.lkS]
      exact PostG.ok p2' z (by show Rp _ _ _ _ _; unfold Rp; rfl)
  | _ => cases x <;> exact p2.elim
theorem notInD_core {F2 H2 : Hp} {x y : D} {v u : V} {E : XK} {Q : VK} (z : Fz F2 H2) (r1 : Rp X.K X.mg F2 x v) (r2 : Rp X.K X.mg F2 y u) (p2 : PostG X.K X.mg (repV X.K X.mg) F2 H2 E Q (dNotInD x y)) : ∃ a o, u = .ref a ∧ DGet H2 a v o ∧ Q (.bl (!o.isSome)) H2 := by
  cases y with
  | dk ks ds =>
    obtain ⟨l, vs, e1, e2, e3, e4⟩ := dk_rdH z r2
    have p2' : PostG X.K X.mg (repV X.K X.mg) F2 H2 E Q (match dKey x with
      | some j => R.ok (.bl (!(lkD ks ds j).isSome))
      | none => .stuck) := by cases x <;> exact p2
    cases ek : dKey x with
    | none => rw [ek] at p2'; exact p2'.elim
    | some j =>
      rw [ek] at p2'
      refine ⟨l, lkD ks vs j, e1, .inl ⟨ks.zip vs, j, e2, dKey_rp r1 ek, by rw [lkD_valV]⟩, ?_⟩
      rw [e4.lkS]
      exact PostG.ok p2' z (by show Rp _ _ _ _ _; unfold Rp; rfl)
  | _ => cases x <;> exact p2.elim
theorem dt_inD (hu : X.A.units + 1 < cLine) (ha : DE X W a fa) (hb : DE X W b fb) (hm : behindInMarks .In b = false := by rfl) : DT X W (.Compare a [.In] [b] pos) (eB (eOp dInD fa fb)) := by
  refine PT.weak (pt_cmp (pc_din hu ha hb) hm) ?_
  rintro σ H Q ⟨F0, H0, F, Γ, rl, p⟩
  exact bind2 (fun _ _ _ _ _ h => h) rl (postB p) fun x y v u F2 H2 x2 r1 r2 p2 => inD_core x2.fh r1 r2 p2
theorem dt_notInD (hu : X.A.units + 1 < cLine) (ha : DE X W a fa) (hb : DE X W b fb) (hm : behindInMarks .NotIn b = false := by rfl) : DT X W (.Compare a [.NotIn] [b] pos) (eB (eOp dNotInD fa fb)) := by
  refine PT.weak (pt_cmp (pc_dnotin hu ha hb) hm) ?_
  rintro σ H Q ⟨F0, H0, F, Γ, rl, p⟩
  exact bind2 (fun _ _ _ _ _ h => h) rl (postB p) fun x y v u F2 H2 x2 r1 r2 p2 => notInD_core x2.fh r1 r2 p2
end
end DL
set_option Elab.async false
set_option linter.all false
set_option maxRecDepth 100000
set_option maxHeartbeats 4000000
/-! list(zip(a, b)) of two lists: a fresh list of fresh pairs. -/
namespace ZL
open PySem PySem.Spec PySem.Calls PyProof.Rows PyProof.V PySem.W
/-- a zip of which a pair is held by another -/
abbrev ZipK (h : Heap) (z TI TO a : Addr) (f : Bool) : Prop :=
  h.get? z = some { cls := .type "zip", dict := none, data := .fields #[rawInt a, .bool f, .bool false, .ref TI, .ref TO], slots := #[] }
section
variable {prog : Program} {w : World} {A : Around} {E : Value → Shared → Prop} {s : Shared} {z TI TO i1 i2 l1 l2 : Addr} {k1 k2 : Nat} {xs ys : Array Value} {x y : Value}
theorem isFree_kept {a : Addr} {f : Bool} {oa : Obj} {Q : Bool → Shared → Prop} (hz : ZipK s.heap z TI TO a f) (ha : s.heap.get? a = some oa)
    (h : ∀ h', ZipK h' z TI TO a true → Heap.SameBut z s.heap h' → Q false { s with heap := h' }) : wpAny (model prog w) A (Builtin.SmallTypes.ownedTupleIsFree (.ref z)) Q E s := by
  unfold Builtin.SmallTypes.ownedTupleIsFree
  refine wpAny_bind (wpAny_field hz rfl (x := rawInt a) rfl ?_)
  show wpAny _ _ (loadIfAlive ((a : Int).toNat) >>= _) _ _ _
  rw [Int.toNat_natCast]
  refine wpAny_bind (kdx_alive ha ?_)
  simp only [Option.isNone_some, Bool.false_eq_true, if_false]
  refine wpAny_bind (wpAny_field hz rfl (x := .bool f) rfl ?_)
  cases f with
  | true =>
    rw [if_neg (show ¬ ((Value.bool true != Value.bool true) = true) from Bool.false_ne_true)]
    exact wpAny_pure (h s.heap hz (Heap.SameBut.refl _ _))
  | false =>
    rw [if_pos (show (Value.bool false != Value.bool true) = true from rfl)]
    exact wpAny_bind (wpAny_setField_rec hz (by simp) fun h₃ he₃ hs₃ => wpAny_pure (h h₃ he₃ hs₃))
theorem next_kept {a : Addr} {f : Bool} {oa : Obj} {Q : Value → Shared → Prop} (D : ZipApart z TI TO i1 i2 l1 l2) (hz : ZipK s.heap z TI TO a f) (ha : s.heap.get? a = some oa) (hTI : IsPair s.heap TI (.ref i1) (.ref i2))
    (h1 : s.heap.IsListIter i1 l1 k1) (h2 : s.heap.IsListIter i2 l2 k2) (hl1 : s.heap.IsList l1 xs) (hl2 : s.heap.IsList l2 ys) (hx : xs[k1]? = some x) (hy : ys[k2]? = some y)
    (hQ : ∀ h', ZipK h' z TI TO a true → h'.IsListIter i1 l1 (k1 + 1) → h'.IsListIter i2 l2 (k2 + 1) → IsPair h' s.heap.objs.size x y → h'.objs.size = s.heap.objs.size + 1 →
      (∀ c o, c ≠ z → c ≠ i1 → c ≠ i2 → s.heap.get? c = some o → h'.get? c = some o) → Q (.ref s.heap.objs.size) { s with heap := h' }) :
    wpAny (model prog w) A (Builtin.«zip.__next__» ⟨[.ref z], []⟩) (fun fin s' => ∃ v, fin = .done (.ret v) ∧ Q v s') E s := by
  show wpAny _ _ (field (.ref z) 2 >>= _) _ _ _
  refine wpAny_bind (wpAny_field hz rfl (x := .bool false) rfl ?_)
  show wpAny _ _ (field (.ref z) 3 >>= _) _ _ _
  refine wpAny_bind (wpAny_field hz rfl (x := .ref TI) rfl ?_)
  refine wpAny_bind (wpAny_seqItems hTI rfl ?_)
  show wpAny _ _ (Builtin.SmallTypes.ownedTupleIsFree (.ref z) >>= _) _ _ _
  refine wpAny_bind (isFree_kept hz ha fun h₁ hz₁ hs₁ => ?_)
  simp only [Bool.false_eq_true, if_false]
  refine wpAny_bind ?_
  simp only [List.forIn_toArray, List.forIn_cons, List.forIn_nil]
  refine wpAny_bind (wpAny_bind (wpAny_holding ?_))
  show wpAny _ _ (Builtin.SmallTypes.nextOf (.ref i1) >>= _) _ _ _
  refine wpAny_bind (wpAny_nextOf_list_item (h1.extBut hs₁.extBut D.i1z) (hl1.extBut hs₁.extBut D.l1z) hx fun h₂ h1₂ hs₂ => wpAny_pure (wpAny_pure ?_))
  refine wpAny_bind (wpAny_bind (wpAny_holding ?_))
  show wpAny _ _ (Builtin.SmallTypes.nextOf (.ref i2) >>= _) _ _ _
  refine wpAny_bind (wpAny_nextOf_list_item ((h2.extBut hs₁.extBut D.i2z).extBut hs₂.extBut D.i12.symm) ((hl2.extBut hs₁.extBut D.l2z).extBut hs₂.extBut D.l2i1) hy fun h₃ h2₃ hs₃ => wpAny_pure (wpAny_pure (wpAny_pure ?_)))
  refine wpAny_bind (wpAny_newTuple ?_ (by show 2 ≤ sizeLine; decide))
  refine wpAny_pure ⟨_, rfl, ?_⟩
  have hsz : h₃.objs.size = s.heap.objs.size := by rw [hs₃.1, hs₂.1, hs₁.1]
  have up : ∀ c o, c ≠ z → c ≠ i1 → c ≠ i2 → s.heap.get? c = some o → (h₃.push { cls := .type "tuple", data := .seq #[x, y] }).get? c = some o := fun c o c1 c2 c3 e => Heap.get?_push_of_some _ (hs₃.extBut _ _ c3 (hs₂.extBut _ _ c2 (hs₁.extBut _ _ c1 e)))
  show Q (.ref h₃.objs.size) _
  rw [hsz]
  refine hQ _ (Heap.get?_push_of_some _ (hs₃.extBut _ _ D.i2z.symm (hs₂.extBut _ _ D.i1z.symm hz₁))) ((h1₂.extBut hs₃.extBut D.i12).at fun o e => Heap.get?_push_of_some _ e) (h2₃.at fun o e => Heap.get?_push_of_some _ e) ?_ (by rw [Heap.size_push, hsz]) up
  rw [← hsz]
  exact Heap.get?_push_size _ rfl
theorem end_kept {a : Addr} {f : Bool} {oa : Obj} {Q : PySem.Fin → Shared → Prop} (hh : A.handled = none) (D : ZipApart z TI TO i1 i2 l1 l2) (hz : ZipK s.heap z TI TO a f) (ha : s.heap.get? a = some oa) (hTI : IsPair s.heap TI (.ref i1) (.ref i2))
    (h1 : s.heap.IsListIter i1 l1 k1) (h2 : s.heap.IsListIter i2 l2 k2) (hl1 : s.heap.IsList l1 xs) (hl2 : s.heap.IsList l2 ys) (hend : xs[k1]? = none ∨ ys[k2]? = none)
    (hE : ∀ h' e, (∀ c o, c ≠ z → c ≠ i1 → c ≠ i2 → s.heap.get? c = some o → h'.get? c = some o) → (∃ o, h'.get? e = some o ∧ o.cls = .type "StopIteration") → E (.ref e) { s with heap := h' }) :
    wpAny (model prog w) A (Builtin.«zip.__next__» ⟨[.ref z], []⟩) Q E s := by
  show wpAny _ _ (field (.ref z) 2 >>= _) _ _ _
  refine wpAny_bind (wpAny_field hz rfl (x := .bool false) rfl ?_)
  show wpAny _ _ (field (.ref z) 3 >>= _) _ _ _
  refine wpAny_bind (wpAny_field hz rfl (x := .ref TI) rfl ?_)
  refine wpAny_bind (wpAny_seqItems hTI rfl ?_)
  show wpAny _ _ (Builtin.SmallTypes.ownedTupleIsFree (.ref z) >>= _) _ _ _
  refine wpAny_bind (isFree_kept hz ha fun h₁ hz₁ hs₁ => ?_)
  simp only [Bool.false_eq_true, if_false]
  refine wpAny_bind ?_
  simp only [List.forIn_toArray, List.forIn_cons, List.forIn_nil]
  refine wpAny_bind (wpAny_bind (wpAny_holding ?_))
  show wpAny _ _ (Builtin.SmallTypes.nextOf (.ref i1) >>= _) _ _ _
  cases hx : xs[k1]? with
  | none =>
    refine wpAny_bind (wpAny_nextOf_list_end hh (h1.extBut hs₁.extBut D.i1z) (hl1.extBut hs₁.extBut D.l1z) hx fun h₂ e hs₂ he => ?_)
    exact hE h₂ e (fun c o c1 c2 _ q => hs₂ _ _ c2 (hs₁.extBut _ _ c1 q)) he
  | some x =>
    have hy : ys[k2]? = none := by rcases hend with h | h; rw [hx] at h; cases h; exact h
    refine wpAny_bind (wpAny_nextOf_list_item (h1.extBut hs₁.extBut D.i1z) (hl1.extBut hs₁.extBut D.l1z) hx fun h₂ h1₂ hs₂ => wpAny_pure (wpAny_pure ?_))
    refine wpAny_bind (wpAny_bind (wpAny_holding ?_))
    show wpAny _ _ (Builtin.SmallTypes.nextOf (.ref i2) >>= _) _ _ _
    refine wpAny_bind (wpAny_nextOf_list_end hh ((h2.extBut hs₁.extBut D.i2z).extBut hs₂.extBut D.i12.symm) ((hl2.extBut hs₁.extBut D.l2z).extBut hs₂.extBut D.l2i1) hy fun h₃ e hs₃ he => ?_)
    exact hE h₃ e (fun c o c1 c2 c3 q => hs₃ _ _ c3 (hs₂.extBut _ _ c2 (hs₁.extBut _ _ c1 q))) he
theorem pyNext_kept {a : Addr} {f : Bool} {oa : Obj} {Q : Option Value → Shared → Prop} (D : ZipApart z TI TO i1 i2 l1 l2) (hz : ZipK s.heap z TI TO a f) (ha : s.heap.get? a = some oa) (hTI : IsPair s.heap TI (.ref i1) (.ref i2))
    (h1 : s.heap.IsListIter i1 l1 k1) (h2 : s.heap.IsListIter i2 l2 k2) (hl1 : s.heap.IsList l1 xs) (hl2 : s.heap.IsList l2 ys) (hx : xs[k1]? = some x) (hy : ys[k2]? = some y)
    (hQ : ∀ h', ZipK h' z TI TO a true → h'.IsListIter i1 l1 (k1 + 1) → h'.IsListIter i2 l2 (k2 + 1) → IsPair h' s.heap.objs.size x y → h'.objs.size = s.heap.objs.size + 1 →
      (∀ c o, c ≠ z → c ≠ i1 → c ≠ i2 → s.heap.get? c = some o → h'.get? c = some o) → Q (some (.ref s.heap.objs.size)) { s with heap := h' }) :
    wpAny (model prog w) A (pyNext (.ref z)) Q E s := by
  have hT : s.TypeIs (.ref z) "zip" := ⟨_, hz, rfl⟩
  unfold pyNext
  exact wpAny_bind (wpAny_attempt (wpAny_callSpecial?_slot (name := Str.ofString "__next__") hT PySem.F.slot_zip_next
    (wpAny_call_entry PySem.F.slot_zip_next hT PySem.F.entry_zip_next
      (next_kept D hz ha hTI h1 h2 hl1 hl2 hx hy fun h' a1 a2 a3 a4 a5 a6 => wpAny_pure (hQ h' a1 a2 a3 a4 a5 a6)) (PySem.F.args_zip_next_1 _))))
theorem pyNext_kept_end {a : Addr} {f : Bool} {oa : Obj} {Q : Option Value → Shared → Prop} (hh : A.handled = none) (D : ZipApart z TI TO i1 i2 l1 l2) (hz : ZipK s.heap z TI TO a f) (ha : s.heap.get? a = some oa) (hTI : IsPair s.heap TI (.ref i1) (.ref i2))
    (h1 : s.heap.IsListIter i1 l1 k1) (h2 : s.heap.IsListIter i2 l2 k2) (hl1 : s.heap.IsList l1 xs) (hl2 : s.heap.IsList l2 ys) (hend : xs[k1]? = none ∨ ys[k2]? = none)
    (hQ : ∀ h', (∀ c o, c ≠ z → c ≠ i1 → c ≠ i2 → s.heap.get? c = some o → h'.get? c = some o) → Q none { s with heap := h' }) : wpAny (model prog w) A (pyNext (.ref z)) Q E s := by
  have hT : s.TypeIs (.ref z) "zip" := ⟨_, hz, rfl⟩
  unfold pyNext
  refine wpAny_bind (wpAny_attempt (wpAny_callSpecial?_slot (name := Str.ofString "__next__") hT PySem.F.slot_zip_next
    (wpAny_call_entry PySem.F.slot_zip_next hT PySem.F.entry_zip_next (end_kept hh D hz ha hTI h1 h2 hl1 hl2 hend fun h' e hk he => ?_) (PySem.F.args_zip_next_1 _))))
  obtain ⟨o, ho, hc⟩ := he
  refine wpAny_bind (wpAny_isInstance (T := "StopIteration") (b := true) ⟨o, ho, hc⟩ isSubtype_stop ?_)
  exact wpAny_pure (hQ _ hk)
structure ZG (xs ys : Array Value) (lo : Addr) (h : Heap) (as : List Addr) : Prop where
  rise : as.Pairwise (· < ·)
  above : ∀ a ∈ as, lo < a
  pairs : ∀ (j : Nat) (a : Addr), as[j]? = some a → ∃ x y, xs[j]? = some x ∧ ys[j]? = some y ∧ h.get? a = some { cls := .type "tuple", data := .seq #[x, y] }
theorem ZG.there {lo : Addr} {h : Heap} {as : List Addr} (g : ZG xs ys lo h as) {a : Addr} (ha : a ∈ as) : a < h.objs.size := by
  obtain ⟨j, hj⟩ := List.mem_iff_getElem?.mp ha
  obtain ⟨_, _, _, _, e⟩ := g.pairs j a hj
  exact Heap.lt_size e
structure ZSt (h : Heap) (z TI TO i1 i2 l1 l2 S : Addr) (xs ys : Array Value) (i : Nat) : Prop where
  ti : IsPair h TI (.ref i1) (.ref i2)
  a1 : h.IsListIter i1 l1 i
  a2 : h.IsListIter i2 l2 i
  b1 : h.IsList l1 xs
  b2 : h.IsList l2 ys
  st : (IsZip h z TI TO .none ∧ ∃ a b, IsPair h TO a b) ∨ ∃ a f oa, ZipK h z TI TO a f ∧ h.get? a = some oa ∧ S < a
structure Below (z TI TO i1 i2 l1 l2 S : Addr) : Prop where
  z : z < S
  TI : TI < S
  TO : TO < S
  i1 : i1 < S
  i2 : i2 < S
  l1 : l1 < S
  l2 : l2 < S
theorem ZSt.keep {h h' : Heap} {S : Addr} {i : Nat} (B : Below z TI TO i1 i2 l1 l2 S) (x : ZSt h z TI TO i1 i2 l1 l2 S xs ys i) (hk : ∀ b o, b ≠ S → h.get? b = some o → h'.get? b = some o) : ZSt h' z TI TO i1 i2 l1 l2 S xs ys i := by
  refine ⟨hk _ _ (Nat.ne_of_lt B.TI) x.ti, x.a1.at fun o e => hk _ o (Nat.ne_of_lt B.i1) e, x.a2.at fun o e => hk _ o (Nat.ne_of_lt B.i2) e, x.b1.at fun o e => hk _ o (Nat.ne_of_lt B.l1) e, x.b2.at fun o e => hk _ o (Nat.ne_of_lt B.l2) e, ?_⟩
  rcases x.st with ⟨q, a, b, r⟩ | ⟨a, f, oa, q, r, t⟩
  · exact .inl ⟨hk _ _ (Nat.ne_of_lt B.z) q, a, b, hk _ _ (Nat.ne_of_lt B.TO) r⟩
  · exact .inr ⟨a, f, oa, hk _ _ (Nat.ne_of_lt B.z) q, hk _ _ (Nat.ne_of_gt t) r, t⟩
theorem z_item {S : Addr} {i : Nat} {Q : Option Value → Shared → Prop} (D : ZipApart z TI TO i1 i2 l1 l2) (B : Below z TI TO i1 i2 l1 l2 S) (st : ZSt s.heap z TI TO i1 i2 l1 l2 S xs ys i) (hS : S < s.heap.objs.size) (hx : xs[i]? = some x) (hy : ys[i]? = some y)
    (hQ : ∀ h', ZSt h' z TI TO i1 i2 l1 l2 S xs ys (i + 1) → h'.get? s.heap.objs.size = some { cls := .type "tuple", data := .seq #[x, y] } → h'.objs.size = s.heap.objs.size + 1 →
      (∀ c o, c ≠ z → c ≠ TO → c ≠ i1 → c ≠ i2 → s.heap.get? c = some o → h'.get? c = some o) → Q (some (.ref s.heap.objs.size)) { s with heap := h' }) :
    wpAny (model prog w) A (pyNext (.ref z)) Q E s := by
  rcases st.st with ⟨q, a, b, r⟩ | ⟨a, f, oa, q, r, t⟩
  · refine wpAny_pyNext_zip_item D q st.ti r st.a1 st.a2 st.b1 st.b2 hx hy fun h' c1 c2 c3 c4 c5 c6 hk => hQ h' ⟨hk _ _ D.TIz D.TITO D.TIi1 D.TIi2 st.ti, c3, c4, st.b1.at fun o e => hk _ o D.l1z D.l1TO D.l1i1 D.l1i2 e, st.b2.at fun o e => hk _ o D.l2z D.l2TO D.l2i1 D.l2i2 e, .inr ⟨_, false, _, c1, c5, hS⟩⟩ c5 c6 hk
  · refine pyNext_kept D q r st.ti st.a1 st.a2 st.b1 st.b2 hx hy fun h' c1 c3 c4 c5 c6 hk => hQ h' ⟨hk _ _ D.TIz D.TIi1 D.TIi2 st.ti, c3, c4, st.b1.at fun o e => hk _ o D.l1z D.l1i1 D.l1i2 e, st.b2.at fun o e => hk _ o D.l2z D.l2i1 D.l2i2 e, .inr ⟨a, true, oa, c1, hk _ _ ?_ ?_ ?_ r, t⟩⟩ c5 c6 fun c o d1 d2 d3 d4 e => hk c o d1 d3 d4 e
    · exact Nat.ne_of_gt (Nat.lt_trans B.z t)
    · exact Nat.ne_of_gt (Nat.lt_trans B.i1 t)
    · exact Nat.ne_of_gt (Nat.lt_trans B.i2 t)
theorem z_done {S : Addr} {i : Nat} {Q : Option Value → Shared → Prop} (hh : A.handled = none) (D : ZipApart z TI TO i1 i2 l1 l2) (st : ZSt s.heap z TI TO i1 i2 l1 l2 S xs ys i) (hend : xs[i]? = none ∨ ys[i]? = none)
    (hQ : ∀ h', (∀ c o, c ≠ z → c ≠ TO → c ≠ i1 → c ≠ i2 → s.heap.get? c = some o → h'.get? c = some o) → Q none { s with heap := h' }) : wpAny (model prog w) A (pyNext (.ref z)) Q E s := by
  rcases st.st with ⟨q, a, b, r⟩ | ⟨a, f, oa, q, r, t⟩
  · exact wpAny_pyNext_zip_end hh D q st.ti r st.a1 st.a2 st.b1 st.b2 hend hQ
  · exact pyNext_kept_end hh D q r st.ti st.a1 st.a2 st.b1 st.b2 hend fun h' hk => hQ h' fun c o d1 d2 d3 d4 e => hk c o d1 d3 d4 e
end
section
variable {prog : Program} {w : World} {A : Around} {s : Shared} {R : Result → Shared → Prop} {z TI TO i1 i2 l1 l2 S : Addr} {xs ys : Array Value}
theorem z_loop (hh : A.handled = none) (D : ZipApart z TI TO i1 i2 l1 l2) (B : Below z TI TO i1 i2 l1 l2 S) (hn : min xs.size ys.size ≤ sizeLine) (res : Value) {h₁ : Heap}
    (hR : ∀ h' tk acc c as, (∀ b o, b ≠ S → b ≠ z → b ≠ TO → b ≠ i1 → b ≠ i2 → h₁.get? b = some o → h'.get? b = some o) → h'.get? S = some { cls := .type "list", dict := none, data := .seq acc c, slots := #[] } → as.length = min xs.size ys.size → ZG xs ys S h' as →
      acc.toList = as.map Value.ref → R (.ok (.ret res)) { s with heap := h', toks := tk }) :
    ∀ (k i : Nat) (h : Heap) (tk c : Nat) (acc : Array Value) (as : List Addr), min xs.size ys.size - i = k → i ≤ min xs.size ys.size → ZSt h z TI TO i1 i2 l1 l2 S xs ys i → (∀ b o, b ≠ S → b ≠ z → b ≠ TO → b ≠ i1 → b ≠ i2 → h₁.get? b = some o → h.get? b = some o) →
      h.get? S = some { cls := .type "list", dict := none, data := .seq acc c, slots := #[] } → acc.toList = as.map Value.ref → as.length = i → ZG xs ys S h as →
      codeAny (model prog w) A (.builtin "list.extend.loop" ⟨[.ref S, .ref z, res], []⟩) R { s with heap := h, toks := tk } := by
  have nS : ∀ {a}, a < S → S ≠ a := fun h => Nat.ne_of_gt h
  intro k
  induction k with
  | zero =>
    intro i h tk c acc as hk hi hst hkeep hS hacc hal hG
    have hin : i = min xs.size ys.size := by omega
    have hend : xs[i]? = none ∨ ys[i]? = none := by
      rcases Nat.le_total xs.size ys.size with q | q
      · exact .inl (Array.getElem?_eq_none (by omega))
      · exact .inr (Array.getElem?_eq_none (by omega))
    refine codeAny_builtin PySem.F.entry_extend_loop ?_
    rw [Around.under_plainId PySem.F.plain_extend_loop _]
    show wpAny _ A.in1 (pyNext (.ref z) >>= _) _ _ _
    refine wpAny_bind (z_done (s := { s with heap := h, toks := tk }) (A := A.in1) hh D hst hend fun h' he => ?_)
    refine wpAny_pure (hR h' tk acc c as (fun b o h0 h1 h2 h3 h4 e => he b o h1 h2 h3 h4 (hkeep b o h0 h1 h2 h3 h4 e)) (he S _ (nS B.z) (nS B.TO) (nS B.i1) (nS B.i2) hS) (by omega) ⟨hG.rise, hG.above, fun j a hj => ?_⟩ hacc)
    obtain ⟨x, y, e1, e2, e3⟩ := hG.pairs j a hj
    have hb := hG.above a (List.mem_of_getElem? hj)
    exact ⟨x, y, e1, e2, he a _ (Nat.ne_of_gt (Nat.lt_trans B.z hb)) (Nat.ne_of_gt (Nat.lt_trans B.TO hb)) (Nat.ne_of_gt (Nat.lt_trans B.i1 hb)) (Nat.ne_of_gt (Nat.lt_trans B.i2 hb)) e3⟩
  | succ k ih =>
    intro i h tk c acc as hk hi hst hkeep hS hacc hal hG
    have hlt : i < min xs.size ys.size := by omega
    have hx : xs[i]? = some (xs[i]'(by omega)) := Array.getElem?_eq_getElem (by omega)
    have hy : ys[i]? = some (ys[i]'(by omega)) := Array.getElem?_eq_getElem (by omega)
    have hsz : acc.size = i := by rw [← Array.length_toList, hacc, List.length_map, hal]
    refine codeAny_builtin PySem.F.entry_extend_loop ?_
    rw [Around.under_plainId PySem.F.plain_extend_loop _]
    show wpAny _ A.in1 (pyNext (.ref z) >>= _) _ _ _
    refine wpAny_bind (z_item (s := { s with heap := h, toks := tk }) (S := S) D B hst (Heap.lt_size hS) hx hy fun h' hst' ht hz hkp => ?_)
    dsimp only at ht hz hkp ⊢
    have hS' := hkp S _ (nS B.z) (nS B.TO) (nS B.i1) (nS B.i2) hS
    have up : ∀ b o, b ≠ S → h'.get? b = some o → (h'.update S (Obj.mapSeq (·.push (Value.ref h.objs.size)))).get? b = some o := fun b o hb e => (Heap.get?_update_other _ _ (Ne.symm hb)).trans e
    have hSl : S < h.objs.size := Heap.lt_size hS
    show wpAny _ A.in1 (updateSeq S (·.push (Value.ref h.objs.size)) >>= _) _ _ _
    refine wpAny_bind ?_
    refine wpAny_updateSeq hS' rfl (wpAny_pure ⟨plainId_quiet PySem.F.plain_extend_loop _, ih (i + 1) _ tk _ (acc.push (Value.ref h.objs.size)) (as ++ [h.objs.size]) (by omega) hlt (hst'.keep B up)
      (fun b o h0 h1 h2 h3 h4 e => up b o h0 (hkp b o h1 h2 h3 h4 (hkeep b o h0 h1 h2 h3 h4 e))) (Heap.get?_update_self _ hS' rfl) (by rw [Array.toList_push, hacc, List.map_append]; rfl) (by rw [List.length_append, hal]; rfl) ⟨?_, ?_, ?_⟩⟩) (by rw [hsz]; omega) (by show (acc.push (Value.ref h.objs.size)).size ≤ sizeLine + 1; rw [Array.size_push, hsz]; omega)
    · refine List.pairwise_append.mpr ⟨hG.rise, List.pairwise_singleton _ _, fun a ha b hb => ?_⟩
      rw [List.mem_singleton.mp hb]
      exact hG.there ha
    · intro a ha
      rcases List.mem_append.mp ha with ha | ha
      · exact hG.above a ha
      · rw [List.mem_singleton.mp ha]; exact hSl
    · intro j b hj
      rcases Nat.lt_trichotomy j as.length with h1 | h1 | h1
      · rw [List.getElem?_append_left h1] at hj
        obtain ⟨x', y', e1, e2, e3⟩ := hG.pairs j b hj
        have hb := hG.above b (List.mem_of_getElem? hj)
        exact ⟨x', y', e1, e2, up b _ (Nat.ne_of_gt hb) (hkp b _ (Nat.ne_of_gt (Nat.lt_trans B.z hb)) (Nat.ne_of_gt (Nat.lt_trans B.TO hb)) (Nat.ne_of_gt (Nat.lt_trans B.i1 hb)) (Nat.ne_of_gt (Nat.lt_trans B.i2 hb)) e3)⟩
      · subst h1
        have hb : h.objs.size = b := by simpa using hj
        subst hb
        exact ⟨_, _, by rw [hal]; exact hx, by rw [hal]; exact hy, up _ _ (Nat.ne_of_gt hSl) ht⟩
      · have hnone : (as ++ [h.objs.size])[j]? = none := List.getElem?_eq_none (by rw [List.length_append, List.length_singleton]; omega)
        rw [hnone] at hj; cases hj
end
theorem zip_no_len : typeLookup (.type "zip") "__len__" = pure none := by rw [typeLookup_type, builtinLookup_eq_fast]; kernel_rfl
theorem zip_no_hint : typeLookup (.type "zip") "__length_hint__" = pure none := by rw [typeLookup_type, builtinLookup_eq_fast]; kernel_rfl
section
variable {prog : Program} {w : World} {A : Around} {E : Value → Shared → Prop} {s : Shared} {z TI TO i1 i2 l1 l2 S : Addr} {xs ys : Array Value}
theorem z_hint (hT : s.TypeIs (.ref z) "zip") {Q : Bool → Shared → Prop} (h : Q true s) : wpAny (model prog w) A (Builtin.List.listLengthHint (.ref z)) Q E s := by
  unfold Builtin.List.listLengthHint
  refine wpAny_bind (wpAny_specialOf hT zip_no_len ?_)
  refine wpAny_bind (wpAny_specialOf hT zip_no_hint ?_)
  exact wpAny_pure h
theorem z_extend {R : Result → Shared → Prop} (hh : A.handled = none) (D : ZipApart z TI TO i1 i2 l1 l2) (B : Below z TI TO i1 i2 l1 l2 S) (hn : min xs.size ys.size ≤ sizeLine) (st : ZSt s.heap z TI TO i1 i2 l1 l2 S xs ys 0) (hz0 : ∃ f0, IsZip s.heap z TI TO f0) (res : Value) (c₀ : Nat) (hS : s.heap.get? S = some { cls := .type "list", data := .seq #[] c₀ })
    (hR : ∀ h' tk acc c as, (∀ b o, b ≠ S → b ≠ z → b ≠ TO → b ≠ i1 → b ≠ i2 → s.heap.get? b = some o → h'.get? b = some o) → h'.get? S = some { cls := .type "list", dict := none, data := .seq acc c, slots := #[] } → as.length = min xs.size ys.size → ZG xs ys S h' as →
      acc.toList = as.map Value.ref → R (.ok (.ret res)) { s with heap := h', toks := tk }) :
    wpAny (model prog w) A.in1 (Builtin.List.listExtendWith (.ref S) (.ref z) res)
      (fun fin s' => match fin with | .done f => R (.ok f) s' | .again c' => c'.quiet = true ∧ codeAny (model prog w) A c' R s') (fun e s' => R (.error e) s') s := by
  obtain ⟨f0, hz⟩ := hz0
  have hT : s.TypeIs (.ref z) "zip" := ⟨_, hz, rfl⟩
  have key : ∀ (h : Heap) (c₁ tk : Nat), (∀ b o, b ≠ S → s.heap.get? b = some o → h.get? b = some o) →
      h.get? S = some { cls := .type "list", data := .seq #[] c₁ } → codeAny (model prog w) A (.builtin "list.extend.loop" ⟨[.ref S, .ref z, res], []⟩) R { s with heap := h, toks := tk } := by
    intro h c₁ tk hk hS₁
    exact z_loop (s := s) (h₁ := s.heap) hh D B hn res hR (min xs.size ys.size) 0 h tk c₁ #[] [] (Nat.sub_zero _) (Nat.zero_le _) (st.keep B hk) (fun b o hb _ _ _ _ e => hk b o hb e) hS₁ rfl rfl
      ⟨List.Pairwise.nil, (fun _ ha => nomatch ha), (fun j a hj => by simp at hj)⟩
  unfold Builtin.List.listExtendWith
  refine wpAny_bind (wpAny_typeOf (T := "zip") hT ?_)
  have h1 : Builtin.List.listSameRef (.ref S) (.ref z) = false := by simp [Builtin.List.listSameRef, Nat.ne_of_gt B.z]
  have h2 : (Value.type "zip" == Value.type "list") = false := by decide
  have h3 : (Value.type "zip" == Value.type "tuple") = false := by decide
  simp only [h1, h2, h3, Bool.or_false, Bool.false_eq_true, if_false]
  refine wpAny_bind (wpAny_pyIter_zip hz ?_)
  refine wpAny_bind (wpAny_holding (z_hint hT ?_))
  refine wpAny_ite_split (fun _ => ?_) (fun hab => absurd rfl hab)
  refine wpAny_bind (wpAny_rule ?_)
  refine wpAny_bind ?_
  show wpAny _ _ (updateSeq S (·.push .none) >>= fun _ => updateSeq S (·.pop)) _ _ _
  refine wpAny_bind (wpAny_updateSeq hS rfl ?_)
  have hS₂ := Heap.get?_update_self (Obj.mapSeq (·.push Value.none)) hS rfl
  refine wpAny_updateSeq (hz := by seq_fits) hS₂ rfl ?_
  have hS₃ := Heap.get?_update_self (Obj.mapSeq (·.pop)) hS₂ rfl
  refine wpAny_pure ⟨plainId_quiet PySem.F.plain_extend_loop _, key _ _ _ (fun b o hb e => ?_) hS₃⟩
  exact (Heap.get?_update_other _ _ (Ne.symm hb)).trans ((Heap.get?_update_other _ _ (Ne.symm hb)).trans e)
theorem z_init {R : Result → Shared → Prop} (hh : A.handled = none) (D : ZipApart z TI TO i1 i2 l1 l2) (B : Below z TI TO i1 i2 l1 l2 S) (hn : min xs.size ys.size ≤ sizeLine) (st : ZSt s.heap z TI TO i1 i2 l1 l2 S xs ys 0) (hz0 : ∃ f0, IsZip s.heap z TI TO f0) (hS : s.heap.get? S = some { cls := .type "list", data := .seq #[] })
    (hR : ∀ h' tk acc c as, (∀ b o, b ≠ S → b ≠ z → b ≠ TO → b ≠ i1 → b ≠ i2 → s.heap.get? b = some o → h'.get? b = some o) → h'.get? S = some { cls := .type "list", dict := none, data := .seq acc c, slots := #[] } → as.length = min xs.size ys.size → ZG xs ys S h' as →
      acc.toList = as.map Value.ref → R (.ok (.ret .none)) { s with heap := h', toks := tk }) :
    wpAny (model prog w) A.in1 (Builtin.«list.__init__» ⟨[.ref S, .ref z], []⟩)
      (fun fin s' => match fin with | .done f => R (.ok f) s' | .again c' => c'.quiet = true ∧ codeAny (model prog w) A c' R s') (fun e s' => R (.error e) s') s := by
  show wpAny _ _ (do let old ← Builtin.List.listItems (.ref S); Builtin.List.listUpdate (.ref S) (fun _ => #[]); letGo old.toList.reverse; Builtin.List.listExtendWith (.ref S) (.ref z) .none) _ _ s
  refine wpAny_bind ?_
  unfold Builtin.List.listItems
  refine wpAny_bind (wpAny_seqItems hS rfl (wpAny_pure ?_))
  show wpAny _ _ (updateSeq S (fun _ => #[]) >>= fun _ => letGo (#[] : Array Value).toList.reverse >>= fun _ => Builtin.List.listExtendWith (.ref S) (.ref z) .none) _ _ s
  refine wpAny_bind (wpAny_updateSeq hS rfl ?_)
  have hS₂ := Heap.get?_update_self (Obj.mapSeq (fun _ => (#[] : Array Value))) hS rfl
  have oth : ∀ b o, b ≠ S → s.heap.get? b = some o → (s.heap.update S (Obj.mapSeq (fun _ => (#[] : Array Value)))).get? b = some o :=
    fun b o hb e => (Heap.get?_update_other _ _ (Ne.symm hb)).trans e
  refine wpAny_bind (wpAny_letGo ?_)
  refine z_extend hh D B hn (st.keep B oth) (let ⟨f0, q⟩ := hz0; ⟨f0, oth _ _ (Nat.ne_of_lt B.z) q⟩) .none _ hS₂ (fun h' tk acc c as hk hS' hl hG hacc => ?_)
  exact hR h' tk acc c as (fun b o hb b1 b2 b3 b4 e => hk b o hb b1 b2 b3 b4 (oth b o hb e)) hS' hl hG hacc
theorem z_call {Q : Value → Shared → Prop} (hh : A.handled = none) (D : ZipApart z TI TO i1 i2 l1 l2) (B : Below z TI TO i1 i2 l1 l2 s.heap.objs.size) (hn : min xs.size ys.size ≤ sizeLine) (st : ZSt s.heap z TI TO i1 i2 l1 l2 s.heap.objs.size xs ys 0) (hz0 : ∃ f0, IsZip s.heap z TI TO f0)
    (hQ : ∀ h' tk acc c as, (∀ b o, b ≠ z → b ≠ TO → b ≠ i1 → b ≠ i2 → s.heap.get? b = some o → h'.get? b = some o) → h'.get? s.heap.objs.size = some { cls := .type "list", dict := none, data := .seq acc c, slots := #[] } → as.length = min xs.size ys.size → ZG xs ys s.heap.objs.size h' as →
      acc.toList = as.map Value.ref → Q (.ref s.heap.objs.size) { s with heap := h', toks := tk }) :
    wpAny (model prog w) A (call (.type "list") [.ref z]) Q E s := by
  refine callType_codes (Q₁ := fun obj s₁ => obj = .ref s.heap.objs.size ∧ s₁ = { s with heap := s.heap.push { cls := .type "list", data := .seq #[] } }) PySem.F.called_list (PySem.F.typeCall_list_1 _) PySem.F.entry_list_init
    (code_list_new _ ⟨rfl, rfl⟩) fun obj s₁ h₁ => ?_
  obtain ⟨rfl, rfl⟩ := h₁
  have hS : (s.heap.push { cls := .type "list", data := .seq #[] }).get? s.heap.objs.size = some { cls := .type "list", data := .seq #[] } := Heap.get?_push_size _ rfl
  have pu : ∀ b o, b ≠ s.heap.objs.size → s.heap.get? b = some o → (s.heap.push { cls := .type "list", data := .seq #[] }).get? b = some o := fun b o _ e => Heap.get?_push_of_some _ e
  refine ⟨⟨_, hS, rfl⟩, PySem.F.args_list_init_2 _ _, z_init (A := A.in1) hh D B hn (st.keep B pu) (let ⟨f0, q⟩ := hz0; ⟨f0, Heap.get?_push_of_some _ q⟩) hS (fun h' tk acc c as hk hS' hl hG hacc => ?_)⟩
  exact ⟨rfl, hQ h' tk acc c as (fun b o b1 b2 b3 b4 e => hk b o (Nat.ne_of_lt (Heap.lt_size e)) b1 b2 b3 b4 (Heap.get?_push_of_some _ e)) hS' hl hG hacc⟩
end
end ZL
set_option Elab.async false
set_option linter.all false
set_option maxRecDepth 100000
set_option maxHeartbeats 4000000
/-! list(zip(a, b)): the hand layer's rule, and the data layer's. -/
namespace ZL
open PySem PySem.Spec PyProof.Rows L2
def putP : Hp → List Addr → List (V × V) → Hp
  | H, a :: as, p :: kvs => putP (upd H a (.tup [p.1, p.2])) as kvs
  | H, _, _ => H
theorem putP_off {b : Addr} : ∀ (as : List Addr) (kvs : List (V × V)) (H : Hp), b ∉ as → putP H as kvs b = H b
  | [], _, _, _ => rfl
  | _ :: _, [], _, _ => rfl
  | a :: as, p :: kvs, H, h => by
    show putP (upd H a (.tup [p.1, p.2])) as kvs b = H b
    rw [putP_off as kvs _ (fun z => h (List.mem_cons_of_mem _ z)), upd_ne (fun z => h (by rw [z]; exact List.mem_cons_self))]
theorem putP_at : ∀ (as : List Addr) (kvs : List (V × V)) (H : Hp), as.length = kvs.length → as.Nodup → ∀ (j : Nat) (a : Addr), as[j]? = some a → ∃ p, kvs[j]? = some p ∧ putP H as kvs a = some (.tup [p.1, p.2])
  | [], [], _, _, _, _, _, e => by simp at e
  | [], _ :: _, _, h, _, _, _, _ => by cases h
  | _ :: _, [], _, h, _, _, _, _ => by cases h
  | a :: as, p :: kvs, H, h, hn, j, b, e => by
    have hn' := List.nodup_cons.mp hn
    cases j with
    | zero =>
      have eb : a = b := by simpa using e
      subst eb
      refine ⟨p, rfl, ?_⟩
      show putP (upd H a (.tup [p.1, p.2])) as kvs a = _
      rw [putP_off as kvs _ hn'.1, upd_same]
    | succ j =>
      obtain ⟨q, h1, h2⟩ := putP_at as kvs (upd H a (.tup [p.1, p.2])) (Nat.succ.inj h) hn'.2 j b (by simpa using e)
      exact ⟨q, by simpa using h1, h2⟩
def tListZip (K : PySem.W.Frag) (ta : TA) : TE := fun σ H Q => ta σ H fun vs H1 => ∃ a b xs ys, vs = [.ref a, .ref b] ∧ SqL K H1 a xs ∧ SqL K H1 b ys ∧
  ∀ (H' : Hp) (p : Addr) (ts : List Addr), (∀ b o, H1 b = some o → H' b = some o) → H1 p = none → (∀ t ∈ ts, H1 t = none) → p ∉ ts → ts.Nodup → H' p = some (.lst (ts.map V.ref)) →
    (∀ b, b ≠ p → b ∉ ts → H' b = H1 b) → ts.length = min xs.length ys.length → (∀ (j : Nat) (t : Addr), ts[j]? = some t → ∃ x y, xs[j]? = some x ∧ ys[j]? = some y ∧ H' t = some (.tup [x, y])) → Q (.ref p) H'
section
variable {X : Cx} {e e2 : Expr} {ta : TA} {p p2 pos pos2 : Pos}
theorem laid {pins : List (Addr × Obj)} {σ : L2.St} {H : Hp} {s : Shared} {h' : Heap} {tk : Nat} {xs ys : List V} {us ws : List Value} {acc : Array Value} {c : Nat} {as : List Addr} {S : Addr} (I : Inv X pins σ H s) (hle : s.heap.objs.size ≤ S) (vx : Vals xs us) (vy : Vals ys ws)
    (hz : min xs.length ys.length ≤ sizeLine) (hk : ∀ b o, s.heap.get? b = some o → h'.get? b = some o) (hS : h'.get? S = some { cls := .type "list", dict := none, data := .seq acc c, slots := #[] }) (hl : as.length = min us.toArray.size ws.toArray.size) (hG : ZG us.toArray ws.toArray S h' as) (hacc : acc.toList = as.map Value.ref) :
    ∃ H' : Hp, (∀ b o, H b = some o → H' b = some o) ∧ H S = none ∧ (∀ t ∈ as, H t = none) ∧ S ∉ as ∧ as.Nodup ∧ H' S = some (.lst (as.map V.ref)) ∧ (∀ b, b ≠ S → b ∉ as → H' b = H b) ∧ as.length = min xs.length ys.length ∧
      (∀ (j : Nat) (t : Addr), as[j]? = some t → ∃ x y, xs[j]? = some x ∧ ys[j]? = some y ∧ H' t = some (.tup [x, y])) ∧ Inv X pins σ H' { s with heap := h', toks := tk } := by
  have lx : xs.length = us.length := vx.length
  have ly : ys.length = ws.length := vy.length
  have hl' : as.length = min xs.length ys.length := by rw [hl, lx, ly]; rfl
  have lz : as.length = (xs.zip ys).length := by rw [hl', List.length_zip]
  have hSn : S ∉ as := fun z => Nat.lt_irrefl _ (hG.above _ z)
  have nd : as.Nodup := List.Pairwise.imp (fun {a b} (h : a < b) => Nat.ne_of_lt h) hG.rise
  have new : ∀ t ∈ as, H t = none := fun t ht => I.hok.fresh (Nat.le_of_lt (Nat.lt_of_le_of_lt hle (hG.above t ht)))
  have newS : H S = none := I.hok.fresh hle
  have atP := putP_at as (xs.zip ys) (upd H S (.lst (as.map V.ref))) lz nd
  have off : ∀ b, b ∉ as → b ≠ S → putP (upd H S (.lst (as.map V.ref))) as (xs.zip ys) b = H b := fun b h1 h2 => by rw [putP_off as _ _ h1, upd_ne h2]
  have low : ∀ b o, s.heap.get? b = some o → b ∉ as ∧ b ≠ S := fun b o e => ⟨fun z => absurd (Heap.lt_size e) (Nat.not_lt.mpr (Nat.le_of_lt (Nat.lt_of_le_of_lt hle (hG.above b z)))), Nat.ne_of_lt (Nat.lt_of_lt_of_le (Heap.lt_size e) hle)⟩
  have kp : ∀ b u, H b = some u → (putP (upd H S (.lst (as.map V.ref))) as (xs.zip ys)) b = some u := fun b u e => by
    rw [off b (fun z => by rw [new b z] at e; cases e) (fun z => by rw [z, newS] at e; cases e)]
    exact e
  have eS : putP (upd H S (.lst (as.map V.ref))) as (xs.zip ys) S = some (.lst (as.map V.ref)) := by rw [putP_off as _ _ hSn, upd_same]
  have pr : ∀ (j : Nat) (t : Addr), as[j]? = some t → ∃ x y, xs[j]? = some x ∧ ys[j]? = some y ∧ putP (upd H S (.lst (as.map V.ref))) as (xs.zip ys) t = some (.tup [x, y]) := fun j t e => by
    obtain ⟨q, h1, h2⟩ := atP j t e
    obtain ⟨h3, h4⟩ := List.getElem?_zip_eq_some.mp h1
    exact ⟨q.1, q.2, h3, h4, h2⟩
  refine ⟨putP (upd H S (.lst (as.map V.ref))) as (xs.zip ys), kp, newS, new, hSn, nd, eS, fun b h1 h2 => off b h2 h1, hl', pr, ?_⟩
  refine I.call' (ch := []) rfl ⟨fun b o q _ _ _ => hk b o q, fun b o q _ _ _ => ⟨o.slots, hk b o q⟩, fun b o q n _ => ?_, fun b o q _ => ⟨o, hk b o q⟩, fun b xs q => kp b _ q, fun b o u q => kp b _ q, fun b ps q => ⟨#[], by rw [kp b _ q]; simp⟩⟩ (fun b u q => ?_) I.bare fun b z => by simp at z
  · obtain ⟨z1, z2⟩ := low b o q
    rw [off b z1 z2]
    exact n
  · by_cases hb : b ∈ as
    · obtain ⟨j, ej⟩ := List.mem_iff_getElem?.mp hb
      obtain ⟨x, y, e1, e2, e3⟩ := pr j b ej
      rw [e3] at q
      cases q
      obtain ⟨u, v, f1, f2, f3⟩ := hG.pairs j b ej
      obtain ⟨u', g1, g2⟩ := vx.get e1
      obtain ⟨v', g3, g4⟩ := vy.get e2
      have k1 : u' = u := by
        have : us[j]? = some u := by simpa using f1
        rw [this] at g1
        exact (Option.some.inj g1).symm
      have k2 : v' = v := by
        have : ws[j]? = some v := by simpa using f2
        rw [this] at g3
        exact (Option.some.inj g3).symm
      subst k1 k2
      exact ⟨by show 2 ≤ sizeLine; decide, [u', v'], .cons g2 (.cons g4 .nil), ⟨_, f3, rfl, _, rfl⟩⟩
    · by_cases hb2 : b = S
      · rw [hb2] at q ⊢
        rw [eS] at q
        cases q
        refine ⟨by rw [List.length_map, hl']; exact hz, acc.toList, c, by rw [hacc]; exact LiI.vals_refs as, ?_⟩
        rw [Array.toArray_toList]
        exact hS
      · rw [off b hb hb2] at q
        exact (I.hok b u q).stay (fun d v _ y => hk d v y) (fun d y => kp d _ y) fun d xs y => kp d _ y
theorem pe_listZip (hc : X.calm = true) (ha : PA X [e, e2] ta) (hg : Gl X "list") (hm : X.mg "list" = none) (hgz : Gl X "zip") (hmz : X.mg "zip" = none) (hv : bootBuiltins "list" = some (.type "list"))
    (hs : starEach [.Call (.Name "zip" p2) [e, e2] [] pos2] X.env = (false, eval (.Call (.Name "zip" p2) [e, e2] [] pos2) X.env) :: starEach [] X.env := by rfl)
    (hs2 : starEach [e, e2] X.env = (false, eval e X.env) :: starEach [e2] X.env := by rfl) (hpl : (backTo pos2 (starEach [e2] X.env)).any (·.1) = false := by rfl) :
    PE X (.Call (.Name "list" p) [.Call (.Name "zip" p2) [e, e2] [] pos2] [] pos) (tListZip X.K ta) := by
  refine ⟨fun pins s σ H Q I hq => ?_⟩
  refine wpAny_Call_Name_kw (ld_blt I hg hm hv ?_)
  refine PyProof.Rows.callWith_type1 ?_ hs rfl
  rw [hs]
  show wpAny _ _ (spliced ((false, eval (.Call (.Name "zip" p2) [e, e2] [] pos2) X.env) :: backTo pos (starEach [] X.env))) _ _ s
  refine Calls.spliced_cons ?_
  refine Call_ (ld_blt I hgz hmz PyProof.Rows.boot_zip (PyProof.Rows.callWith_type1 (thn (ha.run pos2 pins s σ H _ I hq) fun us s1 ⟨vs, H1, I1, r1, q1⟩ => ?_) hs2 hpl))
  obtain ⟨a, b, xs, ys, ex, hqx, hqy, q⟩ := q1
  subst ex
  cases r1 with
  | cons r rr =>
    cases rr with
    | cons r' rr =>
      cases rr
      cases r
      cases r'
      obtain ⟨its, rv, p1, z1⟩ := I1.list hqx
      obtain ⟨its2, rv2, p2', z2⟩ := I1.list hqy
      have la : a < s1.heap.objs.size := p1.lt
      have lb : b < s1.heap.objs.size := p2'.lt
      refine call_zip_2 p1.isList p2'.isList fun h' hz hTI hTO h1 h2 hsz hk => ?_
      refine Calls.spliced_nil ?_
      have B : Below (s1.heap.objs.size + 4) (s1.heap.objs.size + 2) (s1.heap.objs.size + 3) s1.heap.objs.size (s1.heap.objs.size + 1) a b h'.objs.size := by
        rw [hsz]
        exact ⟨Nat.add_lt_add_left (by decide) _, Nat.add_lt_add_left (by decide) _, Nat.add_lt_add_left (by decide) _, Nat.lt_add_of_pos_right (by decide), Nat.add_lt_add_left (by decide) _, Nat.lt_of_lt_of_le la (Nat.le_add_right _ _), Nat.lt_of_lt_of_le lb (Nat.le_add_right _ _)⟩
      have st : ZSt h' (s1.heap.objs.size + 4) (s1.heap.objs.size + 2) (s1.heap.objs.size + 3) s1.heap.objs.size (s1.heap.objs.size + 1) a b h'.objs.size its.toArray its2.toArray 0 :=
        ⟨hTI, h1, h2, p1.isList.at fun o e => hk _ o e, p2'.isList.at fun o e => hk _ o e, .inl ⟨hz, _, _, hTO⟩⟩
      have hlen : min its.toArray.size its2.toArray.size ≤ sizeLine := by
        have e1 : xs.length = its.length := rv.length
        refine Nat.le_trans (Nat.min_le_left _ _) ?_
        rw [List.size_toArray, ← e1]
        exact z1
      refine z_call (s := { s1 with heap := h' }) (I1.ok.hd hc) (PySem.W.ktu_apart s1.heap.objs.size a b la lb) B hlen st ⟨_, hz⟩ fun h'' tk acc c as hk2 hS hl hG hacc => ?_
      have low : ∀ b o, s1.heap.get? b = some o → h''.get? b = some o := fun b o e => by
        have hlt := Heap.lt_size e
        have far : ∀ n, b ≠ s1.heap.objs.size + n := fun n => Nat.ne_of_lt (Nat.lt_of_lt_of_le hlt (Nat.le_add_right _ _))
        exact hk2 b o (far 4) (far 3) (far 0) (far 1) (hk b o e)
      obtain ⟨H', k1, k2, k3, k4, k5, k6, k7, k8, k9, J⟩ := laid (tk := tk) (S := h'.objs.size) I1 (by rw [hsz]; exact Nat.le_add_right _ _) rv rv2 (by
        have e1 : xs.length = its.length := rv.length
        have e2 : ys.length = its2.length := rv2.length
        rw [e1, e2]
        have : min its.toArray.size its2.toArray.size = min its.length its2.length := by simp
        rw [← this]
        exact hlen) low hS hl hG hacc
      exact ⟨.ref _, H', J, rfl, q H' _ as k1 k2 k3 k4 k5 k6 k7 k8 k9⟩
end
end ZL
namespace DL
open PySem PySem.Spec L2
/-- list(zip(a, b)) -/
def oZip : List D → R (List D) := fun ds => match ds with
  | [x, y] => x.items.bind fun xs => y.items.bind fun ys => .ok (zipL xs ys)
  | _ => .stuck
theorem RpL.ofGet {K : PySem.W.Frag} {mg : Str → Option Value} {F : Hp} : ∀ {ds : List D} {vs : List V}, ds.length = vs.length → (∀ (j : Nat) d v, ds[j]? = some d → vs[j]? = some v → Rp K mg F d v) → RpL K mg F ds vs
  | [], [], _, _ => RpL.nil
  | [], _ :: _, h, _ => by cases h
  | _ :: _, [], h, _ => by cases h
  | d :: ds, v :: vs, h, f => RpL.cons (f 0 d v rfl rfl) (RpL.ofGet (Nat.succ.inj h) fun j d v h1 h2 => f (j + 1) d v (by simpa using h1) (by simpa using h2))
section
variable {X : Cx} {W : WX} {e e2 : Expr} {f : DL.Env → R (List D)} {p p2 pos pos2 : Pos}
theorem do_listZip (hc : X.calm = true) (ha : DA X W [e, e2] f) (hg : Gl X "list") (hm : X.mg "list" = none) (hgz : Gl X "zip") (hmz : X.mg "zip" = none) (hv : bootBuiltins "list" = some (.type "list"))
    (hs : starEach [.Call (.Name "zip" p2) [e, e2] [] pos2] X.env = (false, eval (.Call (.Name "zip" p2) [e, e2] [] pos2) X.env) :: starEach [] X.env := by rfl)
    (hs2 : starEach [e, e2] X.env = (false, eval e X.env) :: starEach [e2] X.env := by rfl) (hpl : (backTo pos2 (starEach [e2] X.env)).any (·.1) = false := by rfl) :
    DO X W (.Call (.Name "list" p) [.Call (.Name "zip" p2) [e, e2] [] pos2] [] pos) (oCall oZip f) := by
  refine PE.weak (ZL.pe_listZip hc ha hg hm hgz hmz hv hs hs2 hpl) ?_
  rintro σ H Q ⟨F0, H0, F, Γ, r, p⟩
  refine ⟨F0, H0, F, Γ, r, PostG.bind p (fun ds vs F1 H1 _ x1 r1 p1 => ?_) upO⟩
  cases ds with
  | nil => exact p1.elim
  | cons d ds =>
    cases ds with
    | nil => exact p1.elim
    | cons d' ds =>
      cases ds with
      | cons _ _ => exact p1.elim
      | nil =>
        have r1 : RpL X.K X.mg F1 [d, d'] vs := r1
        obtain ⟨v, us, rfl, rv, ru⟩ := r1.cons_iff
        obtain ⟨v', us', rfl, rv', ru'⟩ := ru.cons_iff
        rw [ru'.nil_iff]
        have p1 : PostG X.K X.mg (repO X.K X.mg) F1 H1 (WE W σ) Q (d.items.bind fun xs => d'.items.bind fun ys => .ok (zipL xs ys)) := p1
        cases e1 : d.items with
        | exc x => exact absurd e1 (by cases d <;> intro h <;> cases h)
        | stuck => rw [e1] at p1; exact p1.elim
        | ok xs =>
          cases e2 : d'.items with
          | exc x => exact absurd e2 (by cases d' <;> intro h <;> cases h)
          | stuck => rw [e1, e2] at p1; exact p1.elim
          | ok ys =>
            rw [e1, e2] at p1
            obtain ⟨a, ws, ev, es, er⟩ := items_rp rv e1
            obtain ⟨b, ws', ev', es', er'⟩ := items_rp rv' e2
            refine ⟨a, b, ws, ws', by rw [ev, ev'], x1.fh.seq es, x1.fh.seq es', fun H' q ts k1 k2 k3 k4 k5 k6 k7 k8 k9 => ?_⟩
            have fN : ∀ t ∈ ts, F1 t = none := fun t ht => x1.fh.free (k3 t ht)
            let F' : Hp := fun b => if b ∈ ts then H' b else F1 b
            have fin : ∀ t, t ∈ ts → F' t = H' t := fun t h => if_pos h
            have fout : ∀ t, t ∉ ts → F' t = F1 t := fun t h => if_neg h
            have sm : Same F1 F' := fun c o h => by
              by_cases q : c ∈ ts
              · rw [fN c q] at h; cases h
              · rw [fout c q]; exact h
            have ext : Ext F1 H1 F' H' := ⟨sm, fun c o h => by
              by_cases q : c ∈ ts
              · rw [fin c q] at h; exact .inl h
              · rw [fout c q] at h
                rcases x1.fh c o h with z | ⟨z1, ob, z2⟩
                · exact .inl (k1 _ _ z)
                · exact .inr ⟨z1, ob, k1 _ _ z2⟩, k1, fun c o h => by
              by_cases q : c ∈ ts
              · exact .inr (k3 c q)
              · rw [fout c q] at h; exact .inl h⟩
            refine PostG.at p1 ext ⟨q, _, rfl, k6, by rw [fout q k4]; exact x1.fh.free k2, k2, ?_⟩
            refine RpL.ofGet ?_ fun j dd vv h1 h2 => ?_
            · rw [zipL_len, List.length_map, k8, er.length, er'.length]
            · rw [List.getElem?_map] at h2
              cases et : ts[j]? with
              | none => rw [et] at h2; cases h2
              | some t =>
                rw [et] at h2
                cases h2
                obtain ⟨x, y, g1, g2, g3⟩ := k9 j t et
                obtain ⟨dx, gx1, gx2⟩ := er.getV g1
                obtain ⟨dy, gy1, gy2⟩ := er'.getV g2
                have ez := zipL_get gx1 gy1
                rw [ez] at h1
                cases h1
                refine Rp.tup (by rw [fin t (List.mem_of_getElem? et)]; exact g3) (RpL.cons (Rp.mono sm _ _ gx2) (RpL.cons (Rp.mono sm _ _ gy2) RpL.nil))
end
end DL
set_option Elab.async false
set_option linter.all false
set_option maxRecDepth 100000
set_option maxHeartbeats 4000000
/-! The data layer: sums, tuples of lists. -/
namespace DL
open PySem PySem.Spec L2
def intsOf : List D → Option (List Int)
  | [] => some []
  | .int i :: ds => (intsOf ds).map fun ns => i :: ns
  | _ => none
theorem intsOf_map : ∀ ns : List Int, intsOf (ns.map D.int) = some ns
  | [] => rfl
  | n :: ns => by show (intsOf (ns.map D.int)).map _ = _; rw [intsOf_map ns]; rfl
theorem intsOf_rp {K : PySem.W.Frag} {mg : Str → Option Value} {F : Hp} : ∀ {ds : List D} {vs : List V} {ns : List Int}, RpL K mg F ds vs → intsOf ds = some ns → vs = ns.map V.int
  | [], vs, ns, r, h => by cases h; rw [r.nil_iff]; rfl
  | d :: ds, vs, ns, r, h => by
    obtain ⟨v, us, rfl, r1, r2⟩ := r.cons_iff
    cases d with
    | int i =>
      have h' : (intsOf ds).map (fun ns => i :: ns) = some ns := h
      cases e : intsOf ds with
      | none => rw [e] at h'; cases h'
      | some ms =>
        rw [e] at h'
        cases h'
        rw [intsOf_rp r2 e, r1.int_iff]
        rfl
    | _ => cases h
def dSum1 : D → R D
  | .lst xs => match intsOf xs with | some ns => .ok (.int ns.sum) | none => .stuck
  | _ => .stuck
abbrev dSum := un1 dSum1
def dTupleOf1 : D → R D
  | .lst xs => .ok (.tup xs)
  | .tup xs => .ok (.tup xs)
  | .scr ns => .ok (.tup (ns.map D.int))
  | _ => .stuck
abbrev dTupleOf := un1 dTupleOf1
section
variable {X : Cx}
theorem sat_sum : SatL X (rSum X.K) dSum := by
  intro F H ds vs E Q z r p
  cases ds with
  | nil => exact p.elim
  | cons d ds =>
    cases ds with
    | cons _ _ => cases d <;> exact p.elim
    | nil =>
      obtain ⟨v, rfl, r1⟩ := r.one
      cases d with
      | lst xs =>
        obtain ⟨l, ws, e1, e2, e3⟩ := r1.lstH z
        have p' : PostG X.K X.mg (repV X.K X.mg) F H E Q (match intsOf xs with | some ns => R.ok (D.int ns.sum) | none => .stuck) := p
        cases e : intsOf xs with
        | none => rw [e] at p'; exact p'.elim
        | some ns =>
          rw [e] at p'
          have ew := intsOf_rp e3 e
          exact ⟨l, ns, by rw [e1], by rw [← ew]; exact SqL.of e2, PostG.ok p' z (by show Rp _ _ _ _ _; unfold Rp; rfl)⟩
      | _ => exact p.elim
theorem sat_tuple : SatL X (fun xs H Q => ∃ p ys, xs = [.ref p] ∧ ((SqL X.K H p ys ∧ ∀ l, H l = none → Q (.ref l) (upd H l (.tup ys))) ∨ (SqT X.K H p ys ∧ Q (.ref p) H))) dTupleOf := by
  intro F H ds vs E Q z r p
  cases ds with
  | nil => exact p.elim
  | cons d ds =>
    cases ds with
    | cons _ _ => cases d <;> exact p.elim
    | nil =>
      obtain ⟨v, rfl, r1⟩ := r.one
      cases d with
      | lst xs =>
        obtain ⟨l, ws, e1, e2, e3⟩ := r1.lstH z
        exact ⟨l, ws, by rw [e1], .inl ⟨SqL.of e2, fun q hq => PostG.at p (Ext.laid z hq) (Rp.tup upd_same (RpL.mono (Ext.laid z hq).ff _ _ e3))⟩⟩
      | scr ns =>
        obtain ⟨l, e1, e2⟩ := r1.scr_iff
        exact ⟨l, _, by rw [e1], .inl ⟨z.seq e2, fun q hq => PostG.at p (Ext.laid z hq) (Rp.tup upd_same RpL.ints)⟩⟩
      | tup xs =>
        have r1' := r1
        obtain ⟨l, ws, e1, e2, e3⟩ := r1.tupH z
        exact ⟨l, ws, by rw [e1], .inr ⟨SqT.of e2, by rw [← e1]; exact PostG.ok p z r1'⟩⟩
      | _ => exact p.elim
end
end DL
set_option Elab.async false
set_option linter.all false
set_option maxRecDepth 100000
set_option maxHeartbeats 4000000
/-! The data layer: defs by their names, a law's end. -/
namespace DL
open PySem PySem.Spec L2

/-- the module's def x of n parameters gives m -/
def Kn (P : Program) (w : World) (K : PySem.W.Frag) (mg : Str → Option Value) (base : Heap) (k : Nat) (x : Str) (n : Nat) (m : List D → R D) : Prop :=
  ∃ (f : Addr) (fd : FuncData) (ps : List Str), mg x = some (.ref f) ∧ PySem.W.keepIn K (.ref f) = true ∧ Binds K fd ps [] ∧ FnOk P w K mg base (L2.CX P w) k f fd ps (spD K mg n m)
/-- .. a new list of m's -/
def KnO (P : Program) (w : World) (K : PySem.W.Frag) (mg : Str → Option Value) (base : Heap) (k : Nat) (x : Str) (n : Nat) (m : List D → R (List D)) : Prop :=
  ∃ (f : Addr) (fd : FuncData) (ps : List Str), mg x = some (.ref f) ∧ PySem.W.keepIn K (.ref f) = true ∧ Binds K fd ps [] ∧ FnOk P w K mg base (L2.CX P w) k f fd ps (spO K mg n m)
section
variable {X : Cx} {W : WX} {j k n : Nat} {x : Str} {e : Expr} {es : List Expr} {p pos : Pos} {fs : DL.Env → R (List D)}
theorem de_kn {m : List D → R D} (h : Kn X.prog X.w X.K X.mg X.base j x n m) (hr : Room k X.A) (ha : DA X W (e :: es) fs) (hx : OkW X W) (hg : Gl X x := by unfold L2.Gl; kernel_rfl) (hj : j ≤ k := by decide) (hdb : (x == ("__debug__" : Str)) = false := by kernel_rfl)
    (he : starEach (e :: es) X.env = (false, eval e X.env) :: starEach es X.env := by rfl) (hpl : (backTo pos (starEach es X.env)).any (·.1) = false := by rfl) :
    DE X W (.Call (.Name x p) (e :: es) [] pos) (eFn n m fs) := by
  obtain ⟨f, fd, ps, hm, hk, hb, G⟩ := h
  exact de_fn G (hr.mono hj) hg hm hk hb hx ha hdb he hpl
theorem do_kn {m : List D → R (List D)} (h : KnO X.prog X.w X.K X.mg X.base j x n m) (hr : Room k X.A) (ha : DA X W (e :: es) fs) (hx : OkW X W) (hg : Gl X x := by unfold L2.Gl; kernel_rfl) (hj : j ≤ k := by decide) (hdb : (x == ("__debug__" : Str)) = false := by kernel_rfl)
    (he : starEach (e :: es) X.env = (false, eval e X.env) :: starEach es X.env := by rfl) (hpl : (backTo pos (starEach es X.env)).any (·.1) = false := by rfl) :
    DO X W (.Call (.Name x p) (e :: es) [] pos) (oFn n m fs) := by
  obtain ⟨f, fd, ps, hm, hk, hb, G⟩ := h
  exact do_fn G (hr.mono hj) hg hm hk hb hx ha hdb he hpl
theorem de_gi {i : Int} (hm : ∃ u, X.mg x = some (.int i u)) (hg : Gl X x := by unfold L2.Gl; kernel_rfl) (hd : (x == ("__debug__" : Str)) = false := by kernel_rfl) : DE X W (.Name x pos) (eC (.int i)) := by
  obtain ⟨u, hm⟩ := hm
  exact de_gint hg hm hd
theorem de_gs {z : Str} (hm : ∃ u, X.mg x = some (.str z u)) (hg : Gl X x := by unfold L2.Gl; kernel_rfl) (hd : (x == ("__debug__" : Str)) = false := by kernel_rfl) : DE X W (.Name x pos) (eC (.str z)) := by
  obtain ⟨u, hm⟩ := hm
  exact de_gstr hg hm hd
end
section
variable {P : Program} {w : World} {K : PySem.W.Frag} {mg : Str → Option Value} {base : Heap} {k n : Nat} {x : Str}
/-- a def whose every answer is a new list, as one that answers lists -/
theorem KnO.kn {m : List D → R (List D)} (h : KnO P w K mg base k x n m) : Kn P w K mg base k x n (fun ds => (m ds).bind fun r => .ok (.lst r)) := by
  obtain ⟨f, fd, ps, hm, hk, hb, G⟩ := h
  refine ⟨f, fd, ps, hm, hk, hb, G.imp fun vs H Q E q => ?_⟩
  obtain ⟨F, ds, l, z, r, p⟩ := q
  refine ⟨F, ds, l, z, r, ?_⟩
  revert p
  dsimp only
  cases m ds with
  | ok ds =>
    intro p v F1 H1 x1 r1
    obtain ⟨F2, x2, r2, _⟩ := frzO x1 r1
    exact p v F2 H1 x2 r2
  | exc x => exact fun p => p
  | stuck => exact fun p => p
theorem Kn.mono {j : Nat} {m : List D → R D} (h : Kn P w K mg base j x n m) (l : j ≤ k) : Kn P w K mg base k x n m := by
  obtain ⟨f, fd, ps, hm, hk, hb, G⟩ := h
  exact ⟨f, fd, ps, hm, hk, hb, G.mono l⟩
end
/-- a law's end: facts of the head, then the law's own def by trees -/
theorem walkE {l : PySem.W.OpenLaw} {n k : Nat} {q : Program} {loose : List Str} {XP : (Str → Option Value) → Heap → Prop} {YP : World → Heap → Prop} {d : DefRec} {x : Str} {m : List D → R D}
    (hn : l.most = some n) (hn2 : n ≤ sizeLine) (hdf : d.params.defaults = []) (hr : Room k callerA) (true_ : ∀ ns : List Int, ns.length ≤ n → m [.scr ns] = .ok (.bl true))
    (F : ∀ (w : World) (mg : Str → Option Value) (fa : Addr) (h : Heap), YP w h → h.Ns mainGlobals mg → mg d.name = some (.ref fa) →
      ∃ (K : PySem.W.Frag) (fd : FuncData), K.In h ∧ (∀ (s : Shared) (u : Value), BindsTo s fd ⟨[u], []⟩ [(x, u)]) ∧
        ∀ base : Heap, K.In base → base.Ns mainGlobals mg → FnOk l.prog w K mg base (L2.CX l.prog w) k fa fd [x] (spD K mg 1 m)) :
    PySem.W.WalkO q loose XP YP l.row.toRowW d [] (fun f vs => PySem.call f vs) := by
  refine Att.attach_call hn hdf fun w s₀ s₁ mg mb fa o pm cd doc a vs ns G Y ho hd hcd hmg hobj hints hlen hg => ?_
  obtain ⟨K, fd, KX, hb, hF⟩ := F w mg fa _ Y G.T.g hmg
  refine law_call KX G.T.g G.T.b G.T.builtins G.T.nolimit hg hobj hints (Nat.le_trans hlen hn2) hr hF hb (fun H hO hS => ?_) fun H e s' hc => ?_
  · refine ⟨H, [.scr ns], rfl, Fz.refl H, RpL.cons (by unfold Rp; exact ⟨a, rfl, hS⟩) RpL.nil, ?_⟩
    rw [true_ ns hlen]
    exact fun v F' H' _ r => (show Rp K mg F' (.bl true) v from r).bl_iff
  · obtain ⟨_, _, _, _, _, _, _, _, _, _, _, _, z⟩ := hc
    exact z
end DL
set_option Elab.async false
set_option linter.all false
set_option maxRecDepth 100000
set_option maxHeartbeats 4000000
/-! B.__init__(self, ..) where B is an own exception class over ValueError; what such an __init__ keeps. -/
namespace HX
open PySem PySem.Spec PyProof.Rows L2
section
variable {X : Cx} {B : Addr} {mc : Value} {x : Str} {e : Expr} {es : List Expr} {ta : TA} {p1 p2 pos : Pos}
theorem pe_oinit {pl : Sem Bool} (hg : Gl X x) (hm : X.mg x = some (.ref B)) (r : ClX.CRead X.K B mc) (vV : PySem.W.findCls X.K (.ref B) mc "__init__" = some (.val (.builtin "ValueError.__init__"))) (ha : PA X (e :: es) ta)
    (hdb : (x == ("__debug__" : Str)) = false := by kernel_rfl)
    (hc : eval (.Call (.Attribute (.Name x p1) "__init__" p2) (e :: es) [] pos) X.env = (do
      let ov ← eval (.Name x p1) X.env
      standAt p2.atName
      let (f, first) ← holding [ov] (getMethod ov "__init__" pl)
      callWith pos f first (backTo pos (starEach (e :: es) X.env)) (backToKw pos (keywordEach [] X.env))) := by rfl)
    (he : starEach (e :: es) X.env = (false, eval e X.env) :: starEach es X.env := by rfl) (hpl : (backTo pos (starEach es X.env)).any (·.1) = false := by rfl) :
    PE X (.Call (.Attribute (.Name x p1) "__init__" p2) (e :: es) [] pos) (tVeI X.K ta) := by
  refine ⟨fun pins s σ H Q I h => ?_⟩
  refine PySem.W.methodCall_KW (ld_glob I hg hm ?_ hdb) hc
  refine PySem.W.method_cls I.kIn r.ga (PySem.W.cls_value I.kIn r.rd vV (by decide +kernel) ?_)
  show wpAny _ _ (callWith pos (Value.builtin "ValueError.__init__") [] (backTo pos (starEach (e :: es) X.env)) []) _ _ _
  refine PyProof.Rows.callWith_method1 (thn (ha.run pos pins _ σ H _ (I.tok _) h) fun us s1 ⟨vs, H1, I1, r1, a, C, ws, ev, hl, T, ea, q⟩ => ?_) he hpl
  subst ev
  cases r1 with
  | @cons _ u0 _ ur ra rw' =>
    obtain rfl : u0 = Value.ref a := ra
    have hlen : ur.length ≤ sizeLine := by
      rw [← Paired.length rw', sizeLine_eq]
      omega
    exact oinit_ok T I1 ea hlen fun s2 J => ⟨.non, H1, J, rfl, q⟩
end
/-- what an __init__ of one field, of two fields keeps -/
def sp1 (K : PySem.W.Frag) (C : Addr) (f : Str) : Sp := fun vs H Q _ => ∃ a y, vs = [.ref a, y] ∧ H a = some (exo a C none) ∧ ∀ dx, H dx = none → dx ≠ a → Q .non (upd (upd H dx (exd dx [(f, y)])) a (exo a C (some dx)))
def sp2 (K : PySem.W.Frag) (C : Addr) (f g : Str) : Sp := fun vs H Q _ => ∃ a y z, vs = [.ref a, y, z] ∧ H a = some (exo a C none) ∧
  ∀ dx, H dx = none → dx ≠ a → Q .non (upd (upd (upd H dx (exd dx [(f, y)])) a (exo a C (some dx))) dx (exd dx [(g, z), (f, y)]))
end HX
set_option Elab.async false
set_option linter.all false
set_option maxRecDepth 100000
set_option maxHeartbeats 4000000
/-! The data layer: exceptions of own classes raised, caught, kept. -/
namespace DL
open PySem PySem.Spec L2

/-- raise C("..") -/
def sRaise0 (c : Str) : DL.Env → Out := fun Γ => .exc (.exc c [] []) Γ
/-- raise C(a, ..), C's __init__ keeping its arguments by the names ns (the last one first) -/
def sRaise (c : Str) (ns : List Str) (fs : DL.Env → R (List D)) : DL.Env → Out := fun Γ => (fs Γ).out Γ fun ds => if ds.length = ns.length then .exc (.exc c ns ds.reverse) Γ else .stuck
/-- try: .. except X as n: k = n; n's slot i; sub: whether a class is caught -/
def sTryK (i k : Nat) (sub : Str → Option Bool) (g : DL.Env → Out) : DL.Env → Out := fun Γ => match g Γ with
  | .exc (.exc c ns ds) Γ' => (match sub c with
    | some true => if i < Γ'.length then .nx ((Γ'.set k (some (.val (.exc c ns ds)))).set i none) else .stuck
    | some false => .exc (.exc c ns ds) Γ'
    | none => .stuck)
  | .exc _ _ => .stuck
  | o => o
section
variable {K : PySem.W.Frag} {mg : Str → Option Value} {F0 : Fe} {H0 F H : Hp} {σ : L2.St} {Γ : DL.Env}
theorem Rel.setN (r : Rel K mg F0 H0 F H σ Γ) (i : Nat) : Rel K mg F0 H0 F H (σ.set i none) (Γ.set i none) := by
  refine ⟨r.ext, by rw [List.length_set, List.length_set]; exact r.len, fun j s e => ?_, fun j k s t u w l ej ek hj hk os ot => ?_, r.slf.set i fun _ _ _ z => nomatch z⟩
  · by_cases q : i = j
    · subst q
      have hi : i < Γ.length := by
        have := (List.getElem?_eq_some_iff.mp e).1
        rwa [List.length_set] at this
      rw [List.getElem?_set_self hi] at e
      cases e
    · rw [List.getElem?_set_ne q] at e ⊢
      exact r.slot j s e
  · have nj : i ≠ j := fun q => by
      subst q
      have hi : i < Γ.length := by
        have := (List.getElem?_eq_some_iff.mp ej).1
        rwa [List.length_set] at this
      rw [List.getElem?_set_self hi] at ej
      cases ej
    have nk : i ≠ k := fun q => by
      subst q
      have hi : i < Γ.length := by
        have := (List.getElem?_eq_some_iff.mp ek).1
        rwa [List.length_set] at this
      rw [List.getElem?_set_self hi] at ek
      cases ek
    rw [List.getElem?_set_ne nj] at ej hj
    rw [List.getElem?_set_ne nk] at ek hk
    exact r.inj j k s t u w l ej ek hj hk os ot
theorem setN_ov (σ : List (Option V)) (i : Nat) (v : V) : (σ.set i (some v)).set i none = σ.set i none := by rw [List.set_set]
end
section
variable {X : Cx} {W : WX} {e : Expr} {fs : DL.Env → R (List D)} {c : Str} {C : Addr} {p pos pos2 : Pos}
theorem ds_raise0 {bmB : List Value} {B newId initId : String} {m : Str} {j : Nat} {p2 : Pos} (hcalm : X.calm = true) (tk : Takes X W) (Fx : ExcBaseFacts B newId initId bmB) (q : PySem.W.excIn X.K C bmB newId = true) (gC : X.mg c = some (.ref C)) (kC : PySem.W.keepIn X.K (.ref C) = true)
    (bC : PySem.W.subIn X.K (.ref C) (.type "BaseException") = some true) (tC : PySem.W.typeIn X.K (.ref C) = some (.type "type")) (hg : Gl X c) (hdb : (c == ("__debug__" : Str)) = false := by kernel_rfl) :
    DS X W (.Raise (some (.Call (.Name c p) [.Constant (.str m) j p2] [] pos)) none pos2) (sRaise0 c) := by
  refine PS.weak (ps_raise hcalm tk (pmk_own Fx q gC kC (raises_own bC tC) hg hdb)) ?_
  rintro Dn σ H ⟨F0, H0, F, Γ, r, p⟩
  exact p _ none σ F H r ⟨C, rfl, gC, .inl ⟨rfl, rfl, rfl⟩⟩
/-- the heap behind the making of an exception with a dict -/
theorem del_upd {H1 : Hp} {a dx : Addr} {o1 o2 u : HO} (n : H1 a = none) (ne : dx ≠ a) : upd (del (upd (upd (upd H1 a o1) dx o2) a u) a) dx = upd H1 dx := by
  funext o b
  by_cases h : b = dx
  · rw [h, upd_same, upd_same]
  · rw [upd_ne h, upd_ne h]
    by_cases h2 : b = a
    · rw [h2, del_same, n]
    · rw [del_ne h2, upd_ne h2, upd_ne h, upd_ne h2]
theorem raise_end {F0 : Fe} {H0 F1 H1 : Hp} {σ : L2.St} {Γ : DL.Env} {Dn : Ends} {ns : List Str} {ds : List D} {vs : List V} {dx : Addr} (r : Rel X.K X.mg F0 H0 F1 H1 σ Γ) (gC : X.mg c = some (.ref C)) (p : PostS X W F0 H0 Dn (.exc (.exc c ns ds) Γ)) (n : H1 dx = none) (hl : ns.length = vs.length) (rv : RpL X.K X.mg F1 ds vs) :
    W (.ref C) (some dx) σ (upd H1 dx (.xd (ns.zip vs))) := by
  have ex := Ext.laid (o := .xd (ns.zip vs)) r.fz n
  exact p _ _ σ _ _ (r.step ex) ⟨C, rfl, gC, .inr ⟨dx, vs, rfl, upd_same, hl, RpL.mono ex.ff _ _ rv⟩⟩
theorem ds_raise1 {k : Nat} {fI : Addr} {fd : FuncData} {ps : List Str} {f : Str} (hcalm : X.calm = true) (tk : Takes X W) (T : OexC X.K C) (iC : PySem.W.findIn X.K (.ref C) "__init__" = some (some (.ref fI))) (tI : PySem.W.typeIn X.K (.ref fI) = some (.type "function"))
    (F1 : FnOk X.prog X.w X.K X.mg X.base (L2.CX X.prog X.w) k fI fd ps (HX.sp1 X.K C f)) (hr : Room (k + 1) X.A) (hb : Binds X.K fd ps []) (gC : X.mg c = some (.ref C)) (ha : DA X W [e] fs) (hg : Gl X c)
    (hdb : (c == ("__debug__" : Str)) = false := by kernel_rfl) (he : starEach [e] X.env = (false, eval e X.env) :: starEach [] X.env := by rfl) (hpl : (backTo pos (starEach [] X.env)).any (·.1) = false := by rfl) :
    DS X W (.Raise (some (.Call (.Name c p) [e] [] pos)) none pos2) (sRaise c [f] fs) := by
  have hx : Passes (L2.CX X.prog X.w) X (fun _ _ _ => False) := fun _ _ _ _ _ _ _ h => by
    obtain ⟨_, _, _, _, _, _, _, _, _, _, _, _, z⟩ := h
    exact z.elim
  refine PS.weak (ps_raise hcalm tk (pmk_oex T iC tI F1 hr hb .nil hx hg gC ha hdb he hpl)) ?_
  rintro Dn σ H ⟨F0, H0, F, Γ, r, p⟩
  refine ⟨F0, H0, F, Γ, r, PostS.out r p fun ds vs F1 H1 _ x1 r1 p1 => ?_⟩
  by_cases hl : ds.length = [f].length
  · rw [if_pos hl] at p1
    have r1 : RpL X.K X.mg F1 ds vs := r1
    cases ds with
    | nil => cases hl
    | cons d ds =>
      cases ds with
      | cons _ _ => cases hl
      | nil =>
        obtain ⟨v, rfl, rv⟩ := r1.one
        refine ⟨by show 1 ≤ 1000; decide, fun a na => ⟨a, v, rfl, upd_same, fun dx n ne => ?_⟩⟩
        rw [upd_ne ne] at n
        refine ⟨rfl, dx, [(f, v)], upd_same, by rw [upd_ne ne, upd_same], n, ?_⟩
        rw [del_upd na ne]
        exact raise_end (ns := [f]) (vs := [v]) (r.step x1) gC p1 n rfl (RpL.cons rv RpL.nil)
  · rw [if_neg hl] at p1
    exact p1.elim
theorem del_upd2 {H1 : Hp} {a dx : Addr} {o1 o2 o3 u : HO} (n : H1 a = none) (ne : dx ≠ a) : upd (del (upd (upd (upd (upd H1 a o1) dx o2) a u) dx o3) a) dx = upd H1 dx := by
  funext o b
  by_cases h : b = dx
  · rw [h, upd_same, upd_same]
  · rw [upd_ne h, upd_ne h]
    by_cases h2 : b = a
    · rw [h2, del_same, n]
    · rw [del_ne h2, upd_ne h, upd_ne h2, upd_ne h, upd_ne h2]
theorem ds_raise2 {k : Nat} {fI : Addr} {fd : FuncData} {ps : List Str} {f g : Str} {e2 : Expr} (hcalm : X.calm = true) (tk : Takes X W) (T : OexC X.K C) (iC : PySem.W.findIn X.K (.ref C) "__init__" = some (some (.ref fI))) (tI : PySem.W.typeIn X.K (.ref fI) = some (.type "function"))
    (F1 : FnOk X.prog X.w X.K X.mg X.base (L2.CX X.prog X.w) k fI fd ps (HX.sp2 X.K C f g)) (hr : Room (k + 1) X.A) (hb : Binds X.K fd ps []) (gC : X.mg c = some (.ref C)) (ha : DA X W [e, e2] fs) (hg : Gl X c)
    (hdb : (c == ("__debug__" : Str)) = false := by kernel_rfl) (he : starEach [e, e2] X.env = (false, eval e X.env) :: starEach [e2] X.env := by rfl) (hpl : (backTo pos (starEach [e2] X.env)).any (·.1) = false := by rfl) :
    DS X W (.Raise (some (.Call (.Name c p) [e, e2] [] pos)) none pos2) (sRaise c [g, f] fs) := by
  have hx : Passes (L2.CX X.prog X.w) X (fun _ _ _ => False) := fun _ _ _ _ _ _ _ h => by
    obtain ⟨_, _, _, _, _, _, _, _, _, _, _, _, z⟩ := h
    exact z.elim
  refine PS.weak (ps_raise hcalm tk (pmk_oex T iC tI F1 hr hb .nil hx hg gC ha hdb he hpl)) ?_
  rintro Dn σ H ⟨F0, H0, F, Γ, r, p⟩
  refine ⟨F0, H0, F, Γ, r, PostS.out r p fun ds vs F1 H1 _ x1 r1 p1 => ?_⟩
  by_cases hl : ds.length = [g, f].length
  · rw [if_pos hl] at p1
    have r1 : RpL X.K X.mg F1 ds vs := r1
    cases ds with
    | nil => cases hl
    | cons d ds =>
      cases ds with
      | nil => cases hl
      | cons d2 ds =>
        cases ds with
        | cons _ _ => cases hl
        | nil =>
          obtain ⟨v, u, rfl, rv, ru⟩ := r1.two
          refine ⟨by show 2 ≤ 1000; decide, fun a na => ⟨a, v, u, rfl, upd_same, fun dx n ne => ?_⟩⟩
          rw [upd_ne ne] at n
          refine ⟨rfl, dx, [(g, u), (f, v)], by rw [upd_ne (Ne.symm ne), upd_same], upd_same, n, ?_⟩
          rw [del_upd2 na ne]
          exact raise_end (ns := [g, f]) (vs := [u, v]) (r.step x1) gC p1 n rfl (RpL.cons ru (RpL.cons rv RpL.nil))
  · rw [if_neg hl] at p1
    exact p1.elim
end
section
variable {X : Cx} {Wout : WX} {body : List Stmt} {x n kn : Str} {cc : Value} {i k : Nat} {sub : Str → Option Bool} {g : DL.Env → Out} {np kp np2 apos pos pos' : Pos}
theorem ds_tryKeep (i k : Nat) (hik : i ≠ k) (hs : X.stack = X.env :: X.outer) (hf : X.env.frame = some X.env.locals) (hN : X.N.Nodup) (hi : X.N[i]? = some n) (hln : X.env.kindOf n = some .local) (hex : X.ex = []) (hc : Names X x cc) (tk : Takes X Wout)
    (hk : X.N[k]? = some kn) (hkl : Loc X.env.scope kn) (hkf : X.fn kn = true ∨ X.env.scope.names.lookup kn = some .local) (hvn : Vis X.env.scope n)
    (hsub : ∀ c b C, sub c = some b → X.mg c = some (.ref C) → PySem.W.exmOne X.K (.ref C) cc = some b)
    (hb : ∀ (W : WX) (pn : List (Addr × Obj)) (xe : Value → Shared → Prop), Takes (X.tr pn xe) W → PassesOwn (model X.prog X.w) X.A X.env xe → DSs (X.tr pn xe) W body g)
    (hsu : ∀ (a : Addr) (oe : Obj) (cls : Value) (d : Option Addr) (pn : List (Addr × Obj)), Zc cls d oe → (∃ vs, oe.data = .fields vs) → PSs (X.suite a ((a, oe) :: pn)) [.Assign [.Name kn kp] (.Name n np2) apos] (fun Dn σ H => ∃ v, σ[i]? = some (some v) ∧ Dn.nx (σ.set k (some v)) H)) :
    DS X Wout (.Try body [.ExceptHandler (some (.Name x np)) (some n) [.Assign [.Name kn kp] (.Name n np2) apos] pos'] [] [] pos) (sTryK i k sub g) := by
  refine PS.weak (HX.ps_try_keep hs hf hN hi hln hex hc tk (tb := fun W => tDS X W g) (fun W pn xe t q => PSs.weak (hb W pn xe t q) fun _ _ _ h => h) hsu) ?_
  rintro Dn σ H ⟨F0, H0, F, Γ, r, p⟩
  refine ⟨F0, H0, F, Γ, r, ?_⟩
  revert p
  unfold sTryK
  cases e : g Γ with
  | exc y Γ' =>
    cases y with
    | exc c ns ds =>
      intro p cls od σ' F' H' r' q
      obtain ⟨C, ec, gC, qd⟩ := q
      subst ec
      have p : PostS X Wout F0 H0 Dn (match sub c with
        | some true => if i < Γ'.length then .nx ((Γ'.set k (some (.val (.exc c ns ds)))).set i none) else .stuck
        | some false => .exc (.exc c ns ds) Γ'
        | none => .stuck) := p
      cases es : sub c with
      | none => rw [es] at p; exact p.elim
      | some b =>
        rw [es] at p
        refine ⟨b, hsub c b C es gC, fun hbt a na => ?_, fun hbf => ?_⟩
        · subst hbt
          have p : PostS X Wout F0 H0 Dn (if i < Γ'.length then .nx ((Γ'.set k (some (.val (.exc c ns ds)))).set i none) else .stuck) := p
          by_cases hlt : i < Γ'.length
          case neg => rw [if_neg hlt] at p; exact p.elim
          rw [if_pos hlt] at p
          have hil : i < σ'.length := by rw [r'.len]; exact hlt
          refine ⟨.ref a, List.getElem?_set_self hil, ?_⟩
          have ex := Ext.laid (o := HX.HEx (.ref C) od a) r'.fz na
          have rp : Rp X.K X.mg (upd F' a (HX.HEx (.ref C) od a)) (.exc c ns ds) (.ref a) := by
            unfold Rp
            refine ⟨a, C, od, rfl, gC, upd_same, ?_⟩
            rcases qd with q | ⟨dd, vs, e1, e2, l, rr⟩
            · exact .inl q
            · exact .inr ⟨dd, vs, e1, ex.ff _ _ e2, l, RpL.mono ex.ff _ _ rr⟩
          have r2 := ((r'.step ex).setV (i := k) rp).setN i
          have es : ((σ'.set i (some (.ref a))).set k (some (.ref a))).set i none = (σ'.set k (some (.ref a))).set i none := by
            rw [List.set_comm _ _ hik, List.set_set]
          have p2 := p _ _ _ r2
          show Dn.nx (((σ'.set i (some (.ref a))).set k (some (.ref a))).set i none) _
          rw [es]
          exact p2
        · subst hbf
          exact p _ _ σ' F' H' r' ⟨C, rfl, gC, qd⟩
    | _ => exact fun p => p.elim
  | _ => exact fun p => p
end
end DL
set_option Elab.async false
set_option linter.all false
set_option maxRecDepth 100000
set_option maxHeartbeats 4000000
/-! What the written part must say of an own exception class, as one Bool; isinstance and the fields of a kept exception. -/
namespace HX
open PySem PySem.Spec PyProof.Rows L2
/-- the class at C hangs on ValueError, by own classes perhaps -/
def hangs (K : PySem.W.Frag) (C : Addr) : Bool := match K.lookup C with
  | some ⟨.type "type", _, .cls cd, sl⟩ => (match cd.mro, sl.toList with
    | .ref C' :: bm, [_, _, _, _, some (.builtin n), _] => C' == C && n == "ValueError.__new__" && !cd.hasDel && cd.hasDict && PySem.HandSPX.refsVE bm
    | _, _ => false)
  | _ => false
theorem hangs_ok {K : PySem.W.Frag} {C : Addr} (q : hangs K C = true) : ∃ nm q N bs bm sn sub ab col dd k0 k1 k2 k3 k5, K.lookup C = some (excClassObj nm q C N bs bm true sn sub ab col dd k0 k1 k2 k3 k5 "ValueError.__new__") ∧ PySem.HandSPX.refsVE bm = true := by
  unfold hangs at q
  split at q
  · rename_i dd cd sl ho
    split at q
    · rename_i C' bm k0 k1 k2 k3 n k5 hm hs
      simp only [Bool.and_eq_true, beq_iff_eq, Bool.not_eq_true'] at q
      obtain ⟨⟨⟨⟨rfl, rfl⟩, hdel⟩, hdct⟩, ht⟩ := q
      obtain ⟨nm, bs, mro, ns, qn, hd, sn, sub, ab, col, del⟩ := cd
      dsimp only at hm hdel hdct
      subst hm hdel hdct
      have hsl : sl = #[k0, k1, k2, k3, some (.builtin "ValueError.__new__"), k5] := by
        obtain ⟨l⟩ := sl
        simp only at hs
        rw [hs]
      subst hsl
      exact ⟨nm, qn, ns, bs, bm, sn, sub, ab, col, dd, k0, k1, k2, k3, k5, ho, ht⟩
    · cases q
  · cases q
/-- all that is asked of an own exception class -/
def excB (K : PySem.W.Frag) (C : Addr) : Bool := hangs K C && (He.eqO (PySem.W.findIn K (.ref C) "__setattr__") (some (some (.builtin "object.__setattr__"))) && (decide (PySem.W.subIn K (.ref C) (.type "BaseException") = some true) &&
  (decide (PySem.W.typeIn K (.ref C) = some (.type "type")) && (PySem.W.keepIn K (.ref C) && (He.eqO (PySem.W.findIn K (.ref C) "__getattribute__") (some (some (.builtin "BaseException.__getattribute__"))) && (He.eqO (PySem.W.findIn K (.ref C) "__getattr__") (some none) &&
  (PySem.W.hasDictIn K C && (He.eqO (PySem.W.findIn K (.ref C) "__class__") (some (some (.builtin "object.__class__"))) && (He.eqO (PySem.W.specialIn K (.builtin "object.__class__") "__get__") (some (some (.builtin "getset_descriptor.__get__"))) &&
  (decide (PySem.W.takesIn K (.builtin "object.__class__") = some true) && (decide (PySem.W.mroIn K C (.type "object") = some true) && (PySem.W.clsIn K C).isSome)))))))))))
structure XC (K : PySem.W.Frag) (C : Addr) : Prop where
  o : OexC K C
  f : XfC K C
  hc : (PySem.W.clsIn K C).isSome = true
  ha : PySem.W.findIn K (.ref C) "__class__" = some (some (.builtin "object.__class__"))
  hn : PySem.W.specialIn K (.builtin "object.__class__") "__get__" = some (some (.builtin "getset_descriptor.__get__"))
  ht : PySem.W.takesIn K (.builtin "object.__class__") = some true
  hm : PySem.W.mroIn K C (.type "object") = some true
theorem excB_ok {K : PySem.W.Frag} {C : Addr} (h : excB K C = true) : XC K C := by
  obtain ⟨a1, h⟩ := He.ba h
  obtain ⟨a2, h⟩ := He.ba h
  obtain ⟨a3, h⟩ := He.ba h
  obtain ⟨a4, h⟩ := He.ba h
  obtain ⟨a5, h⟩ := He.ba h
  obtain ⟨a6, h⟩ := He.ba h
  obtain ⟨a7, h⟩ := He.ba h
  obtain ⟨a8, h⟩ := He.ba h
  obtain ⟨a9, h⟩ := He.ba h
  obtain ⟨a10, h⟩ := He.ba h
  obtain ⟨a11, h⟩ := He.ba h
  obtain ⟨a12, a13⟩ := He.ba h
  exact ⟨⟨hangs_ok a1, He.eqO_ok a2, of_decide_eq_true a3, of_decide_eq_true a4, a5⟩, ⟨He.eqO_ok a6, He.eqO_ok a7, of_decide_eq_true a3, a8⟩, a13, He.eqO_ok a9, He.eqO_ok a10, of_decide_eq_true a11, of_decide_eq_true a12⟩
section
variable {X : Cx} {pins : List (Addr × Obj)} {σ : L2.St} {H : Hp} {s : Shared} {a C : Addr} {d : Option Addr}
/-- a kept exception as an instance -/
theorem inst (I : Inv X pins σ H s) (e : H a = some (HEx (.ref C) d a)) (hd : ∀ dd, d = some dd → ∃ fs, H dd = some (.xd fs)) : ∃ (oe : Obj) (od : Option Obj), PySem.W.InstAt s.heap a oe C od ∧ (d = none → od = none) := by
  obtain ⟨oe, vs, ho, hz, hv⟩ := hex_at I.hok e
  cases d with
  | none => exact ⟨oe, none, ⟨ho, hz.1, by unfold PySem.W.notCls; rw [hv] <;> rfl, by rw [hz.2]; trivial⟩, fun _ => rfl⟩
  | some dd =>
    obtain ⟨fs, ed⟩ := hd dd rfl
    obtain ⟨mA, hns, _⟩ : ObjOk X.prog X.w H s.heap dd (.xd fs) := I.hok dd _ ed
    obtain ⟨od, hod, _⟩ := lookIn_ns hns
    exact ⟨oe, some od, ⟨ho, hz.1, by unfold PySem.W.notCls; rw [hv] <;> rfl, by rw [hz.2]; exact hod⟩, fun z => by cases z⟩
/-- isinstance(e, c), e a kept exception, c a class or a tuple of such -/
def rIsK (K : PySem.W.Frag) : List V → Hp → VK → Prop := fun xs H Q => ∃ (a C : Addr) (d : Option Addr) (c : V) (b : Bool), xs = [.ref a, c] ∧ H a = some (HEx (.ref C) d a) ∧ (∀ dd, d = some dd → ∃ fs, H dd = some (.xd fs)) ∧ XC K C ∧
  ((∃ cv, (∀ u, RelV c u → u = cv) ∧ PySem.W.kitOne K (.ref C) cv = some b) ∨ ∃ (t : Addr) (cs : List V) (cvs : List Value), c = .ref t ∧ SqT K H t cs ∧ (∀ us, Vals cs us → us = cvs) ∧ PySem.W.kitAny K (.ref C) cvs = some b) ∧ Q (.bl b) H
theorem call_isK {X : Cx} : CallR X (.builtin "isinstance") (rIsK X.K) := by
  intro pins s σ H xs us Q I r h
  obtain ⟨a, C, d, c, b, rfl, ea, ed, T, hcc, q⟩ := h
  cases r with
  | cons rx rr =>
    cases rr with
    | cons rt rr =>
      cases rr
      cases rx
      obtain ⟨oe, od, J, _⟩ := inst I ea ed
      have Z := PySem.W.kitx_exc (K := X.K) (x := a) (C := C) (ox := oe) (od := od) T.hc T.f.ga T.f.gg T.f.exC T.ha T.hn T.ht T.hm
      rcases hcc with ⟨cv, hcv, e⟩ | ⟨t, cs, cvs, rfl, hq, hcv, e⟩
      · have ec := hcv _ rt
        subst ec
        exact PySem.W.kia_one Z I.kIn J e (fun z => nomatch z) fun tk => ⟨.bl b, H, I.kept (t' := tk) fun _ _ z => z, rfl, q⟩
      · cases rt
        obtain ⟨its, rv, pl, _⟩ := I.tuple hq
        have ei := hcv _ rv
        subst ei
        obtain ⟨o, ho, hc, n, hv⟩ := pl
        obtain ⟨oc, odd, oda, osl⟩ := o
        dsimp only at hc hv
        subst hc hv
        exact PySem.W.kia_tup Z I.kIn J ho e (fun z => nomatch z) fun tk => ⟨.bl b, H, I.kept (t' := tk) fun _ _ z => z, rfl, q⟩
/-- e.f, e a kept exception -/
def tKf (K : PySem.W.Frag) (f : Str) (te : TE) : TE := fun σ H Q => te σ H fun x H1 => ∃ (a C dd : Addr) (fs : List (Str × V)) (v : V), x = .ref a ∧ H1 a = some (HEx (.ref C) (some dd) a) ∧ H1 dd = some (.xd fs) ∧ fs.lookup f = some v ∧ XC K C ∧ PySem.W.findIn K (.ref C) f = some none ∧ Q v H1
theorem pe_kf {e : Expr} {te : TE} {pos : Pos} {n : Str} (he : PE X e te) (hb : attributeBase e n X.env (eval e X.env) = eval e X.env := by rfl) : PE X (.Attribute e n pos) (tKf X.K n te) := by
  refine ⟨fun pins s σ H Q I h => ?_⟩
  refine attr_of hb (thn (he.run pins s σ H _ I h) fun u s1 hh => ?_)
  obtain ⟨x, H1, I1, rx, a, C, dd, fs, v, ex, ea, ed, l, T, hno, q⟩ := hh
  subst ex
  obtain rfl : u = Value.ref a := rx
  obtain ⟨oe, vs, ho, hz, hd⟩ := hex_at I1.hok ea
  have hx : ObjOk X.prog X.w H1 s1.heap dd (.xd fs) := I1.hok dd _ ed
  obtain ⟨mA, hns, hr⟩ := hx
  obtain ⟨od, hod, hl⟩ := lookIn_ns hns
  obtain ⟨u, hu, ru⟩ := RelO.some_of (v := v) (o := mA n) (by rw [← l]; exact hr n)
  have J : PySem.W.InstAt s1.heap a oe C (some od) := ⟨ho, hz.1, by unfold PySem.W.notCls; rw [hd] <;> rfl, by rw [hz.2]; exact hod⟩
  exact HandSPX.exc_get I1.kIn J T.f.ga T.f.gg T.f.exC (PySem.W.findObj_own T.f.hdC hno rfl (by rw [hl, hu])) (handed_of ru) ⟨v, H1, I1.tok _, ru, q⟩
end
end HX
set_option Elab.async false
set_option linter.all false
set_option maxRecDepth 100000
set_option maxHeartbeats 4000000
/-! The data layer: isinstance with own exception classes, tuples of classes; fields of kept exceptions. -/
namespace HX
open PySem PySem.Spec PyProof.Rows L2
/-- the class of a value: a kept exception's, or the hand layer's -/
def TyK (K : PySem.W.Frag) (H : Hp) (x : V) (t : Value) : Prop := TyX K H x t ∨ ∃ a C d, x = .ref a ∧ t = .ref C ∧ H a = some (HEx (.ref C) d a) ∧ (∀ dd, d = some dd → ∃ fs, H dd = some (.xd fs)) ∧ XC K C
def rIsX (K : PySem.W.Frag) : List V → Hp → VK → Prop := fun xs H Q => ∃ (x c : V) (t : Value) (b : Bool), xs = [x, c] ∧ TyK K H x t ∧
  ((∃ u, ClsV c u ∧ PySem.W.kitOne K t u = some b) ∨ ∃ (tp : Addr) (cs : List V) (us : List Value), c = .ref tp ∧ SqT K H tp cs ∧ Paired ClsV cs us ∧ PySem.W.kitAny K t us = some b) ∧ Q (.bl b) H
theorem kit_ofK {X : Cx} {pins : List (Addr × Obj)} {σ : L2.St} {H : Hp} {s : Shared} {x : V} {u t : Value} (I : Inv X pins σ H s) (rx : RelV x u) (ty : TyK X.K H x t) : ∃ P : Heap → Prop, PySem.W.KitX X.K u t P ∧ P s.heap ∧ u ≠ .builtin "__main__.__loader__#opaque" := by
  rcases ty with ty | ⟨a, C, d, rfl, rfl, ea, ed, T⟩
  · exact kit_of I rx ty
  · cases (show u = Value.ref a from rx)
    obtain ⟨oe, od, J, _⟩ := inst I ea ed
    exact ⟨_, PySem.W.kitx_exc (ox := oe) (od := od) T.hc T.f.ga T.f.gg T.f.exC T.ha T.hn T.ht T.hm, J, fun z => nomatch z⟩
theorem call_isX {X : Cx} : CallR X (.builtin "isinstance") (rIsX X.K) := by
  intro pins s σ H xs us Q I r h
  obtain ⟨x, c, t, b, rfl, ty, hc, q⟩ := h
  cases r with
  | cons rx rr =>
    cases rr with
    | cons rt rr =>
      cases rr
      obtain ⟨P, Z, p, hx⟩ := kit_ofK I rx ty
      rcases hc with ⟨u, k, e⟩ | ⟨tp, cs, ws, rfl, hq, k, e⟩
      · have e2 := k.eq rt
        subst e2
        exact PySem.W.kia_one Z I.kIn p e hx fun tk => ⟨.bl b, H, I.tok tk, rfl, q⟩
      · cases rt
        obtain ⟨its, rv, pl, _⟩ := I.tuple hq
        have e3 := ClsV.all k rv
        subst e3
        obtain ⟨o, ho, hc, n, hv⟩ := pl
        obtain ⟨oc, odd, oda, osl⟩ := o
        dsimp only at hc hv
        subst hc hv
        exact PySem.W.kia_tup Z I.kIn p ho e hx fun tk => ⟨.bl b, H, I.tok tk, rfl, q⟩
end HX
namespace DL
open PySem PySem.Spec L2
/-- a class: an own one, a built-in one -/
abbrev CK := Str ⊕ String
abbrev Tb := List (CK × CK × Bool)
/-- the program's classes that are no exceptions -/
def OSG : List Str := ["Move", "Up", "Down", "Put", "Take", "Price", "ByMoves", "ByGrips", "ByBeads", "Hand", "Script", "Scribe", "Reckoner", "Maker", "Kept", "Desk"]
def D.ck (cs : List Str) : D → Option CK
  | .exc c _ _ => if c ∈ cs ∧ c ∉ OSG then some (.inl c) else none
  | .obj c _ _ => if c ∈ cs ∧ c ∈ OSG then some (.inl c) else none
  | x => x.tyOf.map .inr
def D.ckOf : D → Option CK
  | .cls c => some (.inl c)
  | .ty n => some (.inr n)
  | _ => none
def lkT : Tb → CK → CK → Option Bool
  | [], _, _ => none
  | e :: tb, a, b => if e.1 = a ∧ e.2.1 = b then some e.2.2 else lkT tb a b
def isOne (tb : Tb) (a b : CK) : Option Bool := match lkT tb a b with
  | some r => some r
  | none => match a, b with
    | .inr x, .inr y => kitB x y
    | _, _ => none
def isAny (tb : Tb) (a : CK) : List D → Option Bool
  | [] => some false
  | t :: ts => match t.ckOf with
    | some k => (match isOne tb a k with
      | some true => if ts.all (fun t => t.ckOf.isSome) = true then some true else none
      | some false => isAny tb a ts
      | none => none)
    | none => none
def isAll (tb : Tb) (a : CK) : D → Option Bool
  | .tup ts => isAny tb a ts
  | t => match t.ckOf with
    | some k => isOne tb a k
    | none => none
def dIsXB (cs : List Str) (tb : Tb) (x t : D) : R D := match x.ck cs with
  | some a => (match isAll tb a t with | some b => .ok (.bl b) | none => .stuck)
  | none => .stuck
abbrev dIsX (cs : List Str) (tb : Tb) := un2 (dIsXB cs tb)
def ckV (mg : Str → Option Value) : CK → Value → Prop
  | .inl c, v => ∃ C, mg c = some (.ref C) ∧ v = .ref C
  | .inr n, v => v = .type n
/-- what is asked of a class of objects -/
structure OC (K : PySem.W.Frag) (C : Addr) : Prop where
  cl : Cls K C
  ha : PySem.W.findIn K (.ref C) "__class__" = some (some (.builtin "object.__class__"))
  hn : PySem.W.specialIn K (.builtin "object.__class__") "__get__" = some (some (.builtin "getset_descriptor.__get__"))
  ht : PySem.W.takesIn K (.builtin "object.__class__") = some true
  hm : PySem.W.mroIn K C (.type "object") = some true
/-- what the written part says of the program's classes -/
structure ExF (K : PySem.W.Frag) (mg : Str → Option Value) (cs : List Str) (tb : Tb) : Prop where
  cls : ∀ c ∈ cs, ∃ C, mg c = some (.ref C) ∧ (c ∉ OSG → HX.XC K C) ∧ (c ∈ OSG → OC K C)
  tab : ∀ e ∈ tb, ∀ u v, ckV mg e.1 u → ckV mg e.2.1 v → PySem.W.kitOne K u v = some e.2.2
section
variable {K : PySem.W.Frag} {mg : Str → Option Value} {cs : List Str} {tb : Tb} {F H : Hp}
theorem lkT_ok : ∀ {tb : Tb} {a b : CK} {r : Bool}, lkT tb a b = some r → (a, b, r) ∈ tb
  | [], _, _, _, h => by cases h
  | e :: tb, a, b, r, h => by
    unfold lkT at h
    by_cases q : e.1 = a ∧ e.2.1 = b
    · rw [if_pos q] at h
      obtain ⟨e1, e2, e3⟩ := e
      obtain ⟨q1, q2⟩ := q
      dsimp only at q1 q2 h
      subst q1 q2
      cases h
      exact List.mem_cons_self
    · rw [if_neg q] at h
      exact List.mem_cons_of_mem _ (lkT_ok h)
theorem isOne_ok (E : ExF K mg cs tb) {a b : CK} {u v : Value} {r : Bool} (h : isOne tb a b = some r) (ha : ckV mg a u) (hb : ckV mg b v) : PySem.W.kitOne K u v = some r := by
  unfold isOne at h
  cases e : lkT tb a b with
  | some r' =>
    rw [e] at h
    cases h
    exact E.tab _ (lkT_ok e) u v ha hb
  | none =>
    rw [e] at h
    cases a with
    | inl c => cases h
    | inr x =>
      cases b with
      | inl c => cases h
      | inr y =>
        have h : kitB x y = some r := h
        rw [show u = .type x from ha, show v = .type y from hb]
        exact kit_ty h
theorem ckOf_rp {t : D} {v : V} {k : CK} (r : Rp K mg F t v) (h : t.ckOf = some k) : ∃ u, ClsV v u ∧ ckV mg k u := by
  cases t with
  | cls c =>
    cases h
    unfold Rp at r
    obtain ⟨C, rfl, hm⟩ := r
    exact ⟨_, .own C, C, hm, rfl⟩
  | ty n =>
    cases h
    unfold Rp at r
    subst r
    exact ⟨_, .ty n, rfl⟩
  | _ => cases h
theorem allCls : ∀ {ts : List D} {vs : List V}, RpL K mg F ts vs → ts.all (fun t => t.ckOf.isSome) = true → ∃ us, Paired ClsV vs us
  | [], vs, rl, _ => by rw [rl.nil_iff]; exact ⟨[], .nil⟩
  | t :: ts, vs, rl, h => by
    obtain ⟨v, us', rfl, r1, r2⟩ := rl.cons_iff
    rw [List.all_cons, Bool.and_eq_true] at h
    obtain ⟨k, ek⟩ := Option.isSome_iff_exists.mp h.1
    obtain ⟨w, kw, _⟩ := ckOf_rp r1 ek
    obtain ⟨ws, pw⟩ := allCls r2 h.2
    exact ⟨w :: ws, .cons kw pw⟩
theorem isAny_ok (E : ExF K mg cs tb) {a : CK} {u : Value} (ha : ckV mg a u) : ∀ {ts : List D} {vs : List V} {r : Bool}, RpL K mg F ts vs → isAny tb a ts = some r → ∃ us, Paired ClsV vs us ∧ PySem.W.kitAny K u us = some r
  | [], vs, r, rl, h => by cases h; rw [rl.nil_iff]; exact ⟨[], .nil, rfl⟩
  | t :: ts, vs, r, rl, h => by
    obtain ⟨v, us', rfl, r1, r2⟩ := rl.cons_iff
    unfold isAny at h
    cases ek : t.ckOf with
    | none => rw [ek] at h; cases h
    | some k =>
      rw [ek] at h
      have h : (match isOne tb a k with
        | some true => if ts.all (fun t => t.ckOf.isSome) = true then some true else none
        | some false => isAny tb a ts
        | none => none) = some r := h
      obtain ⟨w, kw, cw⟩ := ckOf_rp r1 ek
      cases eo : isOne tb a k with
      | none => rw [eo] at h; cases h
      | some b =>
        rw [eo] at h
        have e1 := isOne_ok E eo ha cw
        cases b with
        | true =>
          have h : (if ts.all (fun t => t.ckOf.isSome) = true then some true else none) = some r := h
          by_cases q : ts.all (fun t => t.ckOf.isSome) = true
          case neg => rw [if_neg q] at h; cases h
          rw [if_pos q] at h
          cases h
          obtain ⟨ws, pw⟩ := allCls r2 q
          exact ⟨w :: ws, .cons kw pw, by unfold PySem.W.kitAny; rw [e1]⟩
        | false =>
          obtain ⟨ws, pw, ew⟩ := isAny_ok E ha r2 h
          exact ⟨w :: ws, .cons kw pw, by unfold PySem.W.kitAny; rw [e1]; exact ew⟩
end
section
variable {X : Cx} {cs : List Str} {tb : Tb}
theorem ck_ok {F H : Hp} (E : ExF X.K X.mg cs tb) {x : D} {v : V} {a : CK} (z : Fz F H) (r : Rp X.K X.mg F x v) (h : x.ck cs = some a) : ∃ t, HX.TyK X.K H v t ∧ ckV X.mg a t := by
  have other : ∀ {x : D}, Rp X.K X.mg F x v → x.tyOf.map Sum.inr = some a → ∃ t, HX.TyK X.K H v t ∧ ckV X.mg a t := fun {x} r h => by
    cases e : x.tyOf with
    | none => rw [e] at h; cases h
    | some t =>
      rw [e] at h
      cases h
      exact ⟨.type t, .inl (ty_ok z r e), rfl⟩
  cases x with
  | exc c ns ds =>
    have h : (if c ∈ cs ∧ c ∉ OSG then some (Sum.inl c : CK) else none) = some a := h
    by_cases q : c ∈ cs ∧ c ∉ OSG
    · rw [if_pos q] at h
      cases h
      obtain ⟨C, hm, T, _⟩ := E.cls c q.1
      have T := T q.2
      unfold Rp at r
      obtain ⟨p, C', od, rfl, hm', ea, qd⟩ := r
      rw [hm] at hm'
      cases hm'
      have ea' : H p = some (HX.HEx (.ref C) od p) := by
        rcases z p _ ea with w | ⟨⟨_, w⟩, _⟩
        · exact w
        · cases (show HO.ext _ = HO.dK _ from w)
      refine ⟨.ref C, .inr ⟨p, C, od, rfl, rfl, ea', fun dd ed => ?_, T⟩, C, hm, rfl⟩
      rcases qd with ⟨_, _, w⟩ | ⟨dd', vs, w, e2, _⟩
      · rw [w] at ed; cases ed
      · rw [w] at ed
        cases ed
        exact ⟨_, z.xd e2⟩
    · rw [if_neg q] at h
      cases h
  | obj c ns ds =>
    have h : (if c ∈ cs ∧ c ∈ OSG then some (Sum.inl c : CK) else none) = some a := h
    by_cases q : c ∈ cs ∧ c ∈ OSG
    · rw [if_pos q] at h
      cases h
      obtain ⟨C, hm, _, T⟩ := E.cls c q.1
      have T := T q.2
      unfold Rp at r
      obtain ⟨p, C', dx, vs, rfl, hm', ea, _, _⟩ := r
      rw [hm] at hm'
      cases hm'
      exact ⟨.ref C, .inl (.base (.ins (z.ins ea) T.cl T.ha T.hn T.ht T.hm)), C, hm, rfl⟩
    · rw [if_neg q] at h
      cases h
  | _ => exact other r h
theorem sat_isX (E : ExF X.K X.mg cs tb) : SatL X (HX.rIsX X.K) (dIsX cs tb) := sat_un2 fun F H x y v u W Q z r1 r2 p => by
  have p : PostG X.K X.mg (repV X.K X.mg) F H W Q (match x.ck cs with
    | some a => (match isAll tb a y with | some b => R.ok (.bl b) | none => .stuck)
    | none => .stuck) := p
  cases ea : x.ck cs with
  | none => rw [ea] at p; exact p.elim
  | some a =>
    rw [ea] at p
    have p : PostG X.K X.mg (repV X.K X.mg) F H W Q (match isAll tb a y with | some b => R.ok (.bl b) | none => .stuck) := p
    cases eb : isAll tb a y with
    | none => rw [eb] at p; exact p.elim
    | some b =>
      rw [eb] at p
      have p : PostG X.K X.mg (repV X.K X.mg) F H W Q (R.ok (D.bl b)) := p
      have fin : Q (.bl b) H := PostG.ok p z (by show Rp _ _ _ _ _; unfold Rp; rfl)
      obtain ⟨t, ty, ct⟩ := ck_ok E z r1 ea
      have one : ∀ k, y.ckOf = some k → isOne tb a k = some b → HX.rIsX X.K [v, u] H Q := fun k ek eo => by
        obtain ⟨w, kw, cw⟩ := ckOf_rp r2 ek
        exact ⟨v, u, t, b, rfl, ty, .inl ⟨w, kw, isOne_ok E eo ct cw⟩, fin⟩
      cases y with
      | tup ts =>
        obtain ⟨l, vs, e1, e2, e3⟩ := r2.tupH z
        obtain ⟨us, pw, ew⟩ := isAny_ok E ct e3 eb
        exact ⟨v, u, t, b, rfl, ty, .inr ⟨l, vs, us, e1, SqT.of e2, pw, ew⟩, fin⟩
      | cls c => exact one _ rfl eb
      | ty n => exact one _ rfl eb
      | _ => cases eb
end
def lkN : List Str → List D → Str → Option D
  | n :: ns, d :: ds, f => if f = n then some d else lkN ns ds f
  | _, _, _ => none
/-- e.f of a kept exception, of an object -/
def dXf (cs : List Str) (f : Str) : D → R D
  | .exc c ns ds => if c ∈ cs ∧ c ∉ OSG then (match lkN ns ds f with | some d => .ok d | none => .stuck) else .stuck
  | .obj c ns ds => if c ∈ cs ∧ c ∈ OSG then (match lkN ns ds f with | some d => .ok d | none => .stuck) else .stuck
  | _ => .stuck
section
variable {X : Cx} {W : WX} {cs : List Str} {tb : Tb} {e : Expr} {fa : DL.Env → R D} {f : Str} {pos : Pos}
theorem lkN_rp {K : PySem.W.Frag} {mg : Str → Option Value} {F : Hp} : ∀ {ns : List Str} {ds : List D} {vs : List V} {f : Str} {d : D}, RpL K mg F ds vs → lkN ns ds f = some d → ∃ v, (ns.zip vs).lookup f = some v ∧ Rp K mg F d v
  | [], _, _, _, _, _, h => by simp [lkN] at h
  | _ :: _, [], _, _, _, _, h => by simp [lkN] at h
  | n :: ns, d :: ds, vs, f, d', r, h => by
    obtain ⟨v, us, rfl, r1, r2⟩ := r.cons_iff
    unfold lkN at h
    rw [List.zip_cons_cons, lookup_put]
    by_cases q : f = n
    · rw [if_pos q] at h ⊢
      cases h
      exact ⟨v, rfl, r1⟩
    · rw [if_neg q] at h ⊢
      exact lkN_rp r2 h
theorem PE.or {t1 t2 : TE} (h1 : PE X e t1) (h2 : PE X e t2) : PE X e (fun σ H Q => t1 σ H Q ∨ t2 σ H Q) := ⟨fun pins s σ H Q I q => q.elim (h1.run pins s σ H Q I) (h2.run pins s σ H Q I)⟩
theorem de_xf (E : ExF X.K X.mg cs tb) (hno : ∀ c ∈ cs, ∀ C, X.mg c = some (.ref C) → PySem.W.findIn X.K (.ref C) f = some none) (he : DE X W e fa) (hb : attributeBase e f X.env (eval e X.env) = eval e X.env := by rfl) :
    DE X W (.Attribute e f pos) (eUn (dXf cs f) fa) := by
  refine PE.weak (PE.or (HX.pe_kf he hb) (pe_fld he hb)) ?_
  rintro σ H Q ⟨F0, H0, F, Γ, rl, p⟩
  cases ea : fa Γ with
  | stuck => unfold eUn at p; rw [ea] at p; exact p.elim
  | exc x =>
    unfold eUn at p
    rw [ea] at p
    refine .inl ⟨F0, H0, F, Γ, rl, ?_⟩
    rw [ea]
    exact p
  | ok x =>
    unfold eUn at p
    rw [ea] at p
    have p : PostG X.K X.mg (repV X.K X.mg) F H (WE W σ) Q (dXf cs f x) := p
    cases x with
    | exc c ns ds =>
      have p1 : PostG X.K X.mg (repV X.K X.mg) F H (WE W σ) Q (if c ∈ cs ∧ c ∉ OSG then (match lkN ns ds f with | some d => .ok d | none => .stuck) else .stuck) := p
      by_cases q : c ∈ cs ∧ c ∉ OSG
      case neg => rw [if_neg q] at p1; exact p1.elim
      rw [if_pos q] at p1
      cases el : lkN ns ds f with
      | none => rw [el] at p1; exact p1.elim
      | some d =>
        rw [el] at p1
        refine .inl ⟨F0, H0, F, Γ, rl, ?_⟩
        rw [ea]
        intro v F1 H1 x1 r1
        obtain ⟨C, hm, T, _⟩ := E.cls c q.1
        have T := T q.2
        have r1 : Rp X.K X.mg F1 (.exc c ns ds) v := r1
        unfold Rp at r1
        obtain ⟨a, C', od, rfl, hm', ea', qd⟩ := r1
        rw [hm] at hm'
        cases hm'
        have ea2 : H1 a = some (HX.HEx (.ref C) od a) := by
          rcases x1.fh a _ ea' with w | ⟨⟨_, w⟩, _⟩
          · exact w
          · cases (show HO.ext _ = HO.dK _ from w)
        rcases qd with ⟨w1, w2, _⟩ | ⟨dd, vs, w, e2, el2, rr⟩
        · rw [w1] at el; simp [lkN] at el
        · subst w
          obtain ⟨z, ez, rz⟩ := lkN_rp rr el
          exact ⟨a, C, dd, _, z, rfl, ea2, x1.fh.xd e2, ez, T, hno c q.1 C hm, PostG.at p1 x1 rz⟩
    | obj c ns ds =>
      have p1 : PostG X.K X.mg (repV X.K X.mg) F H (WE W σ) Q (if c ∈ cs ∧ c ∈ OSG then (match lkN ns ds f with | some d => .ok d | none => .stuck) else .stuck) := p
      by_cases q : c ∈ cs ∧ c ∈ OSG
      case neg => rw [if_neg q] at p1; exact p1.elim
      rw [if_pos q] at p1
      cases el : lkN ns ds f with
      | none => rw [el] at p1; exact p1.elim
      | some d =>
        rw [el] at p1
        refine .inr ⟨F0, H0, F, Γ, rl, ?_⟩
        rw [ea]
        intro v F1 H1 x1 r1
        obtain ⟨C, hm, _, T⟩ := E.cls c q.1
        have T := T q.2
        have r1 : Rp X.K X.mg F1 (.obj c ns ds) v := r1
        unfold Rp at r1
        obtain ⟨a, C', dx, vs, rfl, hm', ea', hl, rr⟩ := r1
        rw [hm] at hm'
        cases hm'
        obtain ⟨z, ez, rz⟩ := lkN_rp rr el
        exact ⟨a, C, dx, _, z, rfl, x1.fh.ins ea', T.cl, hno c q.1 C hm, ez, PostG.at p1 x1 rz⟩
    | _ => exact p.elim
end
end DL
set_option Elab.async false
set_option linter.all false
set_option maxRecDepth 100000
set_option maxHeartbeats 4000000
/-! The data layer: what is known of an exception class that is raised, as one contract. -/
namespace DL
open PySem PySem.Spec L2
/-- raise c("..") can be done -/
def Kx0 (K : PySem.W.Frag) (mg : Str → Option Value) (c : Str) : Prop := ∃ C, mg c = some (.ref C) ∧ PySem.W.excIn K C He.veBase "ValueError.__new__" = true ∧ PySem.W.keepIn K (.ref C) = true ∧ PySem.W.subIn K (.ref C) (.type "BaseException") = some true ∧ PySem.W.typeIn K (.ref C) = some (.type "type")
/-- raise c(a) can be done, a kept as the field f; j: the level of c's __init__ -/
def Kx1 (P : Program) (w : World) (K : PySem.W.Frag) (mg : Str → Option Value) (base : Heap) (j : Nat) (c f : Str) : Prop := ∃ C fI fd ps, mg c = some (.ref C) ∧ OexC K C ∧ PySem.W.findIn K (.ref C) "__init__" = some (some (.ref fI)) ∧ PySem.W.typeIn K (.ref fI) = some (.type "function") ∧
  FnOk P w K mg base (L2.CX P w) j fI fd ps (HX.sp1 K C f) ∧ Binds K fd ps []
def Kx2 (P : Program) (w : World) (K : PySem.W.Frag) (mg : Str → Option Value) (base : Heap) (j : Nat) (c f g : Str) : Prop := ∃ C fI fd ps, mg c = some (.ref C) ∧ OexC K C ∧ PySem.W.findIn K (.ref C) "__init__" = some (some (.ref fI)) ∧ PySem.W.typeIn K (.ref fI) = some (.type "function") ∧
  FnOk P w K mg base (L2.CX P w) j fI fd ps (HX.sp2 K C f g) ∧ Binds K fd ps []
section
variable {X : Cx} {W : WX} {k j : Nat} {c f g : Str} {e e2 : Expr} {fs : DL.Env → R (List D)} {p pos pos2 : Pos}
theorem ds_kx0 {m : Str} {i : Nat} {p2 : Pos} (h : Kx0 X.K X.mg c) (hcalm : X.calm = true) (tk : Takes X W) (hg : Gl X c := by unfold L2.Gl; kernel_rfl) (hdb : (c == ("__debug__" : Str)) = false := by kernel_rfl) :
    DS X W (.Raise (some (.Call (.Name c p) [.Constant (.str m) i p2] [] pos)) none pos2) (sRaise0 c) := by
  obtain ⟨C, h1, h2, h3, h4, h5⟩ := h
  exact ds_raise0 hcalm tk PySem.F.excBase_ValueError h2 h1 h3 h4 h5 hg hdb
theorem ds_kx1 (h : Kx1 X.prog X.w X.K X.mg X.base j c f) (hr : Room k X.A) (hcalm : X.calm = true) (tk : Takes X W) (ha : DA X W [e] fs) (hj : j + 1 ≤ k := by decide) (hg : Gl X c := by unfold L2.Gl; kernel_rfl) (hdb : (c == ("__debug__" : Str)) = false := by kernel_rfl)
    (he : starEach [e] X.env = (false, eval e X.env) :: starEach [] X.env := by rfl) (hpl : (backTo pos (starEach [] X.env)).any (·.1) = false := by rfl) : DS X W (.Raise (some (.Call (.Name c p) [e] [] pos)) none pos2) (sRaise c [f] fs) := by
  obtain ⟨C, fI, fd, ps, h1, h2, h3, h4, h5, h6⟩ := h
  exact ds_raise1 hcalm tk h2 h3 h4 h5 (hr.mono hj) h6 h1 ha hg hdb he hpl
theorem ds_kx2 (h : Kx2 X.prog X.w X.K X.mg X.base j c f g) (hr : Room k X.A) (hcalm : X.calm = true) (tk : Takes X W) (ha : DA X W [e, e2] fs) (hj : j + 1 ≤ k := by decide) (hg : Gl X c := by unfold L2.Gl; kernel_rfl) (hdb : (c == ("__debug__" : Str)) = false := by kernel_rfl)
    (he : starEach [e, e2] X.env = (false, eval e X.env) :: starEach [e2] X.env := by rfl) (hpl : (backTo pos (starEach [e2] X.env)).any (·.1) = false := by rfl) : DS X W (.Raise (some (.Call (.Name c p) [e, e2] [] pos)) none pos2) (sRaise c [g, f] fs) := by
  obtain ⟨C, fI, fd, ps, h1, h2, h3, h4, h5, h6⟩ := h
  exact ds_raise2 hcalm tk h2 h3 h4 h5 (hr.mono hj) h6 h1 ha hg hdb he hpl
end
/-! ### from the head's facts -/
def ckA (K : PySem.W.Frag) : CK → Value
  | .inl c => .ref (He.ga K c)
  | .inr n => .type n
/-- all that is asked of a class of objects -/
def objB (K : PySem.W.Frag) (C : Addr) : Bool := PySem.W.plainGet K C Str.empty && (PySem.W.hasDictIn K C && (PySem.W.plainOver K C && (He.eqO (PySem.W.findIn K (.ref C) "__setattr__") (some (some (.builtin "object.__setattr__"))) &&
  (He.eqO (PySem.W.findIn K (.ref C) "__class__") (some (some (.builtin "object.__class__"))) && (He.eqO (PySem.W.specialIn K (.builtin "object.__class__") "__get__") (some (some (.builtin "getset_descriptor.__get__"))) &&
  (decide (PySem.W.takesIn K (.builtin "object.__class__") = some true) && decide (PySem.W.mroIn K C (.type "object") = some true)))))))
theorem objB_ok {K : PySem.W.Frag} {C : Addr} (h : objB K C = true) : OC K C := by
  obtain ⟨a1, h⟩ := He.ba h
  obtain ⟨a2, h⟩ := He.ba h
  obtain ⟨a3, h⟩ := He.ba h
  obtain ⟨a4, h⟩ := He.ba h
  obtain ⟨a5, h⟩ := He.ba h
  obtain ⟨a6, h⟩ := He.ba h
  obtain ⟨a7, a8⟩ := He.ba h
  exact ⟨⟨a1, a2, a3, He.eqO_ok a4⟩, He.eqO_ok a5, He.eqO_ok a6, of_decide_eq_true a7, of_decide_eq_true a8⟩
def exAll (cs : List Str) (tb : Tb) (K : PySem.W.Frag) : Bool := cs.all (fun c => if c ∈ OSG then objB K (He.ga K c) else HX.excB K (He.ga K c)) && tb.all fun e => decide (PySem.W.kitOne K (ckA K e.1) (ckA K e.2.1) = some e.2.2)
/-- B.__init__ is ValueError's -/
def feB (K : PySem.W.Frag) (B : Addr) : Bool := PySem.W.readsIn K B (.type "type") && (He.eqO (PySem.W.specialIn K (.ref B) "__getattribute__") (some (some (.builtin "type.__getattribute__"))) && (match PySem.W.findCls K (.ref B) (.type "type") "__init__" with
  | some (.val v) => decide (v = .builtin "ValueError.__init__")
  | _ => false))
theorem feB_ok {K : PySem.W.Frag} {B : Addr} (h : feB K B = true) : ClX.CRead K B (.type "type") ∧ PySem.W.findCls K (.ref B) (.type "type") "__init__" = some (.val (.builtin "ValueError.__init__")) := by
  obtain ⟨h1, h⟩ := He.ba h
  obtain ⟨h2, h3⟩ := He.ba h
  refine ⟨⟨h1, He.eqO_ok h2⟩, ?_⟩
  split at h3
  · rename_i v e
    rw [e, of_decide_eq_true h3]
  · cases h3
theorem exF_of {K : PySem.W.Frag} {mg : Str → Option Value} {cs : List Str} {tb : Tb} (hg : ∀ c ∈ cs, mg c = some (.ref (He.ga K c))) (ht : tb.all (fun e => (match e.1 with | .inl c => decide (c ∈ cs) | .inr _ => true) && (match e.2.1 with | .inl c => decide (c ∈ cs) | .inr _ => true)) = true) (h : exAll cs tb K = true) : ExF K mg cs tb := by
  obtain ⟨h1, h2⟩ := He.ba h
  have cv : ∀ (k : CK) (u : Value), (match k with | .inl c => decide (c ∈ cs) | .inr _ => true) = true → ckV mg k u → u = ckA K k := fun k u hk hu => by
    cases k with
    | inl c =>
      obtain ⟨C, e1, e2⟩ := hu
      rw [hg c (of_decide_eq_true hk)] at e1
      cases e1
      exact e2
    | inr n => exact hu
  refine ⟨fun c hc => ⟨_, hg c hc, fun n => ?_, fun n => ?_⟩, fun e he u v hu hv => ?_⟩
  · have q := List.all_eq_true.mp h1 c hc
    rw [if_neg n] at q
    exact HX.excB_ok q
  · have q := List.all_eq_true.mp h1 c hc
    rw [if_pos n] at q
    exact objB_ok q
  obtain ⟨k1, k2⟩ := He.ba (List.all_eq_true.mp ht e he)
  rw [cv _ _ k1 hu, cv _ _ k2 hv]
  exact of_decide_eq_true (List.all_eq_true.mp h2 e he)
section
variable {X : Cx} {W : WX} {cs : List Str} {tb : Tb} {c : Str} {p pos pos' np kp np2 apos : Pos} {body : List Stmt} {n kn : Str} {sub : Str → Option Bool} {g : DL.Env → Out}
/-- an own exception class as a value -/
theorem de_clsE (E : ExF X.K X.mg cs tb) (hc : c ∈ cs) (hg : Gl X c := by unfold L2.Gl; kernel_rfl) (hd : (c == ("__debug__" : Str)) = false := by kernel_rfl) : DE X W (.Name c pos) (eC (.cls c)) := by
  obtain ⟨C, hm, _⟩ := E.cls c hc
  exact de_cls hg hm hd
/-- except x catches as sub says -/
def KxT (K : PySem.W.Frag) (mg : Str → Option Value) (x : Str) (sub : Str → Option Bool) : Prop := ∃ C0, mg x = some (.ref C0) ∧ ∀ c b C, sub c = some b → mg c = some (.ref C) → PySem.W.exmOne K (.ref C) (.ref C0) = some b
theorem ds_kxTry (i k : Nat) {x : Str} (h : KxT X.K X.mg x sub) (hN : X.N.Nodup) (tk : Takes X W)
    (hb : ∀ (W : WX) (pn : List (Addr × Obj)) (xe : Value → Shared → Prop), Takes (X.tr pn xe) W → PassesOwn (model X.prog X.w) X.A X.env xe → DSs (X.tr pn xe) W body g)
    (hik : i ≠ k := by decide) (hs : X.stack = X.env :: X.outer := by rfl) (hf : X.env.frame = some X.env.locals := by rfl) (hi : X.N[i]? = some n := by rfl) (hln : X.env.kindOf n = some .local := by kernel_rfl) (hex : X.ex = [] := by rfl)
    (hk : X.N[k]? = some kn := by rfl) (hkl : Loc X.env.scope kn := by exact Or.inl (by kernel_rfl)) (hkf : X.fn kn = true ∨ X.env.scope.names.lookup kn = some .local := by exact .inr (by kernel_rfl)) (hvn : Vis X.env.scope n := by exact Or.inl (by kernel_rfl))
    (hdn : (n == ("__debug__" : Str)) = false := by kernel_rfl) (hcn : (n == ("__classdict__" : Str)) = false := by kernel_rfl)
    (hgx : Gl X x := by unfold L2.Gl; kernel_rfl) (hdx : (x == ("__debug__" : Str)) = false := by kernel_rfl)
    (hsw : swapsWithSole [.Name kn kp] (.Name n np2) apos.line X.env = pure false := by rfl) (hw : swappedStores [.Name kn kp] (.Name n np2) X.env = pure none := by rfl)
    (h1 : (assignEach [.Name kn kp] X.env).map (·.2) = [assign (.Name kn kp) X.env] := by rfl) :
    DS X W (.Try body [.ExceptHandler (some (.Name x np)) (some n) [.Assign [.Name kn kp] (.Name n np2) apos] pos'] [] [] pos) (sTryK i k sub g) := by
  obtain ⟨C0, gC, hsub⟩ := h
  refine ds_tryKeep i k hik hs hf hN hi hln hex ⟨hgx, hdx, .inl gC⟩ tk hk hkl hkf hvn hsub hb fun a oe cls d pn _ _ => ?_
  have one := ps_asg (X := X.suite a ((a, oe) :: pn)) (pos := apos) (pe_var (X := X.suite a ((a, oe) :: pn)) (pos := np2) (i := i) hi hvn hdn hcn) (pg_name (X := X.suite a ((a, oe) :: pn)) (i := k) hN hk hkl hkf) hsw hw h1
  exact PSs.weak (pss_cons one pss_nil) fun Dn σ H h => h
end
/-- which classes are caught: ys of cs -/
def subOf (cs ys : List Str) : Str → Option Bool := fun c => if c ∈ ys then some true else if c ∈ cs then some false else none
def subAll (x : Str) (cs ys : List Str) (K : PySem.W.Frag) : Bool := (ys ++ cs).all fun c => match subOf cs ys c with
  | some b => decide (PySem.W.exmOne K (.ref (He.ga K c)) (.ref (He.ga K x)) = some b)
  | none => true
theorem kxT_of {K : PySem.W.Frag} {mg : Str → Option Value} {x : Str} {cs ys : List Str} (gx : mg x = some (.ref (He.ga K x))) (hg : ∀ c ∈ cs, mg c = some (.ref (He.ga K c))) (hy : ∀ c ∈ ys, c ∈ cs) (h : subAll x cs ys K = true) : KxT K mg x (subOf cs ys) := by
  refine ⟨_, gx, fun c b C e gc => ?_⟩
  have hc : c ∈ cs := by
    unfold subOf at e
    by_cases q : c ∈ ys
    · exact hy c q
    · rw [if_neg q] at e
      by_cases q2 : c ∈ cs
      · exact q2
      · rw [if_neg q2] at e; cases e
  rw [hg c hc] at gc
  cases gc
  have z := List.all_eq_true.mp h c (List.mem_append_right _ hc)
  rw [e] at z
  exact of_decide_eq_true z
theorem kx0_of {K : PySem.W.Frag} {mg : Str → Option Value} {c : Str} (g : mg c = some (.ref (He.ga K c))) (f : (He.Fa.exc c).ok K = true) : Kx0 K mg c := by
  obtain ⟨h1, h2, h3, h4⟩ := He.exc_ok f
  exact ⟨_, g, h1, h2, h3, h4⟩
theorem ExF.sub {K : PySem.W.Frag} {mg : Str → Option Value} {cs cs' : List Str} {tb : Tb} (E : ExF K mg cs tb) (h : ∀ c ∈ cs', c ∈ cs) : ExF K mg cs' tb := ⟨fun c hc => E.cls c (h c hc), E.tab⟩
theorem at_of {K : PySem.W.Frag} {mg : Str → Option Value} {cs : List Str} {f : Str} (hg : ∀ c ∈ cs, mg c = some (.ref (He.ga K c))) (h : cs.all (fun c => He.eqO (PySem.W.findIn K (.ref (He.ga K c)) f) (some none)) = true) : ∀ c ∈ cs, ∀ C, mg c = some (.ref C) → PySem.W.findIn K (.ref C) f = some none := fun c hc C gc => by
  rw [hg c hc] at gc
  cases gc
  exact He.eqO_ok (List.all_eq_true.mp h c hc)
end DL
set_option Elab.async false
set_option linter.all false
set_option maxRecDepth 100000
set_option maxHeartbeats 2000000
/-! A head's hook: HeadHook2's facts, one Bool more, the interpreter's own statics in the written part. -/
namespace DHk
open PySem PySem.Spec PyProof.Rows L2 He
def asS (g : Addr → Option Obj) (n : Nat) : List Addr := He.asD g n ++ [cStatics]
abbrev AlS : Type := He.AlD × Bool
def obsS (fa : List Fa) (fn : List DefD) (ex : PySem.W.Frag → Bool) (K : PySem.W.Frag) : AlS := (obsD fa fn K, ex K)
def valS (fn : List DefD) : AlS := (valD fn, true)
def SaysS (fa : List Fa) (fn : List DefD) (ex : PySem.W.Frag → Bool) (K : PySem.W.Frag) : Prop := obsS fa fn ex K = valS fn
def obsSG (n : Nat) (fa : List Fa) (fn : List DefD) (ex : PySem.W.Frag → Bool) (g : Addr → Option Obj) : AlS := obsS fa fn ex (frG g (asS g n))
def hookS (n : Nat) (fa : List Fa) (fn : List DefD) (ex : PySem.W.Frag → Bool) : PySem.W.Hook where
  α := AlS
  obs := fun s => obsSG n fa fn ex s.heap.get?
  val := fun _ => valS fn
  says := fun _ h => ∃ K : PySem.W.Frag, K.In h ∧ SaysS fa fn ex K
  of := fun _ _ e => ⟨_, frG_in, e⟩
  keeps := fun _ _ _ ⟨K, hK, c⟩ k => ⟨K, PySem.W.Frag.In.keeps hK k, c⟩
theorem obsS_eq {n : Nat} {fa : List Fa} {fn : List DefD} {ex : PySem.W.Frag → Bool} {g : Addr → Option Obj} {s : Shared} (h : ∀ a, g a = s.heap.get? a) : obsSG n fa fn ex g = (hookS n fa fn ex).obs s := by
  have e : g = s.heap.get? := funext h
  rw [e] <;> rfl
theorem SaysS.d {fa : List Fa} {fn : List DefD} {ex : PySem.W.Frag → Bool} {K : PySem.W.Frag} (c : SaysS fa fn ex K) : SaysD fa fn K := congrArg (fun z : AlS => z.1) c
theorem SaysS.more {fa : List Fa} {fn : List DefD} {ex : PySem.W.Frag → Bool} {K : PySem.W.Frag} (c : SaysS fa fn ex K) : ex K = true := congrArg (fun z : AlS => z.2) c
end DHk
set_option Elab.async false
set_option linter.all false
set_option maxRecDepth 100000
set_option maxHeartbeats 1000000
/-! The data layer: what is not needed any more is forgotten (so a loop's turns find the frame alike). -/
namespace DL
open PySem PySem.Spec L2

def sFgt (vs : List Nat) (g : DL.Env → Out) : DL.Env → Out := fun Γ => g (wipeE Γ vs)
def Out.wp (vs : List Nat) : Out → Out
  | .nx Γ => .nx (wipeE Γ vs)
  | .bk Γ => .bk (wipeE Γ vs)
  | .ct Γ => .ct (wipeE Γ vs)
  | o => o
def sWp (vs : List Nat) (g : DL.Env → Out) : DL.Env → Out := fun Γ => (g Γ).wp vs
section
variable {K : PySem.W.Frag} {mg : Str → Option Value} {F0 : Fe} {H0 F H : Hp} {σ : L2.St} {Γ : DL.Env}
theorem Rel.forget (r : Rel K mg F0 H0 F H σ Γ) (vs : List Nat) : Rel K mg F0 H0 F H σ (wipeE Γ vs) := by
  refine ⟨r.ext, by rw [wipeE_len]; exact r.len, fun i s e => r.slot i s (wipeE_get e).1, fun i j s t v u l ei ej hi hj os ot => ?_, fun i c ns fs v e1 e2 => r.slf i c ns fs v (wipeE_get e1).1 e2⟩
  exact r.inj i j s t v u l (wipeE_get ei).1 (wipeE_get ej).1 hi hj os ot
end
section
variable {X : Cx} {W : WX} {st : Stmt} {sts : List Stmt} {g : DL.Env → Out}
theorem ds_fgt (vs : List Nat) (h : DS X W st g) : DS X W st (sFgt vs g) := by
  refine PS.weak h ?_
  rintro Dn σ H ⟨F0, H0, F, Γ, r, p⟩
  exact ⟨F0, H0, F, _, r.forget vs, p⟩
theorem dss_wp (vs : List Nat) (h : DSs X W sts g) : DSs X W sts (sWp vs g) := by
  refine PSs.weak h ?_
  rintro Dn σ H ⟨F0, H0, F, Γ, r, p⟩
  refine ⟨F0, H0, F, Γ, r, ?_⟩
  revert p
  unfold sWp
  cases g Γ with
  | nx Γ' => exact fun p σ F H r => p σ F H (r.forget vs)
  | bk Γ' => exact fun p σ F H r => p σ F H (r.forget vs)
  | ct Γ' => exact fun p σ F H r => p σ F H (r.forget vs)
  | _ => exact fun p => p
end
end DL
set_option Elab.async false
set_option linter.all false
set_option maxRecDepth 100000
set_option maxHeartbeats 1000000
/-! The data layer: a, b = e, f. -/
namespace DL
open PySem PySem.Spec L2
def sPar (i j : Nat) (fs : DL.Env → R (List D)) : DL.Env → Out := fun Γ => (fs Γ).out Γ fun ds => match ds with
  | [d, e] => .nx ((Γ.set i (some (.val d))).set j (some (.val e)))
  | _ => .stuck
def sPar3 (i j l : Nat) (fs : DL.Env → R (List D)) : DL.Env → Out := fun Γ => (fs Γ).out Γ fun ds => match ds with
  | [d, e, f] => .nx (((Γ.set i (some (.val d))).set j (some (.val e))).set l (some (.val f)))
  | _ => .stuck
/-- turns of a while, by the number in slot i -/
def fuelI (i : Nat) : DL.Env → Nat := fun Γ => match Env.at_ Γ i with
  | some (.val (.int n)) => n.toNat + 1
  | _ => 0
section
variable {X : Cx} {W : WX} {fs : DL.Env → R (List D)}
theorem ds_par (i j : Nat) {x y : Str} {a b : Expr} {px py pt pt2 pos : Pos} {kt k2} (hc : X.calm = true) (hN : X.N.Nodup) (ha : DA X W [a, b] fs) (hi : X.N[i]? = some x := by rfl) (hj : X.N[j]? = some y := by rfl) (hij : i ≠ j := by decide)
    (hx : X.env.scope.names.lookup x = some .local := by kernel_rfl) (hy : X.env.scope.names.lookup y = some .local := by kernel_rfl)
    (hw : swappedStores [.Tuple [.Name x px, .Name y py] kt pt] (.Tuple [a, b] k2 pt2) X.env = pure (some [x, y]) := by rfl)
    (hs : swapsWithSole [.Tuple [.Name x px, .Name y py] kt pt] (.Tuple [a, b] k2 pt2) pos.line X.env = pure false := by rfl) :
    DS X W (.Assign [.Tuple [.Name x px, .Name y py] kt pt] (.Tuple [a, b] k2 pt2) pos) (sPar i j fs) := by
  refine PS.weak (ps_par hc hN hi hj hij hx hy ha hw hs) ?_
  rintro Dn σ H ⟨F0, H0, F, Γ, r, p⟩
  refine ⟨F0, H0, F, Γ, r, PostS.out r p fun ds vs F1 H1 _ x1 r1 p1 => ?_⟩
  have r1 : RpL X.K X.mg F1 ds vs := r1
  cases ds with
  | nil => exact p1.elim
  | cons d ds =>
    cases ds with
    | nil => exact p1.elim
    | cons e ds =>
      cases ds with
      | cons _ _ => exact p1.elim
      | nil =>
        obtain ⟨v, u, rfl, rv, ru⟩ := r1.two
        exact ⟨v, u, rfl, p1 _ _ _ (((r.step x1).setV rv).setV ru)⟩
theorem ds_par3 (i j l : Nat) {x y z : Str} {a b c : Expr} {px py pz pt pt2 pos : Pos} {kt k2} (hc : X.calm = true) (hN : X.N.Nodup) (ha : DA X W [a, b, c] fs) (hi : X.N[i]? = some x := by rfl) (hj : X.N[j]? = some y := by rfl) (hl : X.N[l]? = some z := by rfl) (hij : i ≠ j := by decide) (hil : i ≠ l := by decide) (hjl : j ≠ l := by decide)
    (hx : X.env.scope.names.lookup x = some .local := by kernel_rfl) (hy : X.env.scope.names.lookup y = some .local := by kernel_rfl) (hz : X.env.scope.names.lookup z = some .local := by kernel_rfl)
    (hw : swappedStores [.Tuple [.Name x px, .Name y py, .Name z pz] kt pt] (.Tuple [a, b, c] k2 pt2) X.env = pure (some [x, y, z]) := by rfl)
    (hs : swapsWithSole [.Tuple [.Name x px, .Name y py, .Name z pz] kt pt] (.Tuple [a, b, c] k2 pt2) pos.line X.env = pure false := by rfl) :
    DS X W (.Assign [.Tuple [.Name x px, .Name y py, .Name z pz] kt pt] (.Tuple [a, b, c] k2 pt2) pos) (sPar3 i j l fs) := by
  refine PS.weak (ps_par3 hc hN hi hj hl hij hil hjl hx hy hz ha hw hs) ?_
  rintro Dn σ H ⟨F0, H0, F, Γ, r, p⟩
  refine ⟨F0, H0, F, Γ, r, PostS.out r p fun ds vs F1 H1 _ x1 r1 p1 => ?_⟩
  have r1 : RpL X.K X.mg F1 ds vs := r1
  cases ds with
  | nil => exact p1.elim
  | cons d ds =>
    cases ds with
    | nil => exact p1.elim
    | cons e ds =>
      cases ds with
      | nil => exact p1.elim
      | cons f ds =>
        cases ds with
        | cons _ _ => exact p1.elim
        | nil =>
          obtain ⟨v, us, rfl, rv, rr⟩ := r1.cons_iff
          obtain ⟨u, w, rfl, ru, rw'⟩ := rr.two
          exact ⟨v, u, w, rfl, p1 _ _ _ ((((r.step x1).setV rv).setV ru).setV rw')⟩
end
end DL
set_option Elab.async false
set_option linter.all false
set_option maxRecDepth 100000
set_option maxHeartbeats 4000000
/-! An except suite within which the exception is tracked. -/
namespace HX
open PySem PySem.Spec PyProof.Rows L2
section
variable {X : Cx} {pins : List (Addr × Obj)} {σ : L2.St} {H : Hp} {s : Shared}
theorem suiteT (I : Inv X pins σ H s) (a : Addr) : Inv (X.suite a (X.pn ++ pins)) [] σ H s :=
  ⟨I.ok.suite _ _, I.os, I.bare, I.base, I.loc, I.cell, I.free, I.freeC, fun p hp => I.pin p (by rw [List.append_nil] at hp; exact hp), I.hok, I.len⟩
theorem unsuiteT {a : Addr} {pn' : List (Addr × Obj)} (I : Inv (X.suite a (X.pn ++ pins)) pn' σ H s) (ok : X.Ok) : Inv X pins σ H s :=
  ⟨ok, I.os, I.bare, I.base, I.loc, I.cell, I.free, I.freeC, fun p hp => I.pin p (List.mem_append_left _ hp), I.hok, I.len⟩
end
/-- what 'except x as n', the exception tracked within the suite, wishes of an exception of the body: slot i is n's -/
def wAsT (K : PySem.W.Frag) (c : Value) (i : Nat) (ts : Addr → Value → Option Addr → TS) (Wout : WX) (D : Ends) : WX := fun cls d σ H =>
  ∃ b, PySem.W.exmOne K cls c = some b ∧ (b = true → ∀ a, H a = none → ts a cls d { nx := fun σ' H' => D.nx (σ'.set i none) H', rt := D.rt, bk := fun σ' H' => D.bk (σ'.set i none) H', ct := fun σ' H' => D.ct (σ'.set i none) H' } (σ.set i (some (.ref a))) (upd H a (HEx cls d a))) ∧
    (b = false → Wout cls d σ H)
section
variable {X : Cx} {x n : Str} {c : Value} {i : Nat} {body suite : List Stmt} {b₀ : Stmt} {np pos pos' : Pos} {tb : WX → TS} {ts : Addr → Value → Option Addr → TS} {Wout : WX}
theorem ps_try_trk (hs : X.stack = X.env :: X.outer) (hf : X.env.frame = some X.env.locals) (hN : X.N.Nodup) (hi : X.N[i]? = some n) (hln : X.env.kindOf n = some .local) (hex : X.ex = []) (hc : Names X x c) (tk : Takes X Wout)
    (hb : ∀ (W : WX) (pn : List (Addr × Obj)) (xe : Value → Shared → Prop), Takes (X.tr pn xe) W → PassesOwn (model X.prog X.w) X.A X.env xe → PSs (X.tr pn xe) body (tb W))
    (hsu : ∀ (a : Addr) (cls : Value) (d : Option Addr) (pn : List (Addr × Obj)), PSs (X.suite a pn) (b₀ :: suite) (ts a cls d)) :
    PS X (.Try body [.ExceptHandler (some (.Name x np)) (some n) (b₀ :: suite) pos'] [] [] pos) (fun D σ H => tb (wAsT X.K c i ts Wout D) D σ H) := by
  refine ⟨fun pins s σ H D I h => ?_⟩
  have ok := I.ok
  have frm : X.A.frames = some (X.env :: X.outer) := by rw [ok.frames, hs]
  have lcl : Loc X.env.scope n := .inl hln
  refine wpAny_Try_except ?_
  refine wpAny_mono ((hb (wAsT X.K c i ts Wout D) (X.pn ++ pins) (fun e s₁ => wpAny (model X.prog X.w) X.A (noteFrame e X.env) (fun _ s₂ => wpAny (model X.prog X.w) X.A (setFlight e none) (fun _ s₃ =>
    wpAny (model X.prog X.w) X.A (handleBy e X.env [.ExceptHandler (some (.Name x np)) (some n) (b₀ :: suite) pos']) (SP X pins D) X.xe s₃) X.xe s₂) X.xe s₁) (fun u s' xx => ?_) PassesOwn.looking).run [] s σ H D (I.toTry _) h) (fun f s1 hsp => ?_) (fun e s1 he => he)
  · -- what is caught
    obtain ⟨a, B, sI, pins', σ', H', cls, d, rfl, J', nb, up, sky, na, os, ag, b, hb1, hyes, hno⟩ := xx
    have J : Inv X pins σ' H' sI := J'.ofTry ok
    have sky2 : Sky B (X.env :: X.outer) a (Zc cls d) X.env.locals s'.heap := by rw [← hs]; exact sky
    show wpAny (model X.prog X.w) X.A (noteFrame (.ref a) X.env) _ _ _
    refine Sky.land Zc.steady frm hf sky2 fun g3 fl3 up3 => ?_
    have J3 : Inv X pins σ' H' { s' with heap := g3 } := J.landed nb fl3.1 (up.trans up3) os ag
    obtain ⟨o3, w3, he3, hz3, hd3⟩ := fl3.there
    have nfr : a ∉ frs (X.env :: X.outer) := fun hm => by
      obtain ⟨_, o', e', hnf⟩ := fl3.2.2.1.mem hm
      rw [he3] at e'; cases e'
      exact hnf _ hd3
    have nL : a ≠ X.env.locals := fun z => nfr (List.mem_filterMap.mpr ⟨X.env, List.mem_cons_self, by rw [hf, z]⟩)
    have nF : a ∉ X.fs := fun hm => by
      obtain ⟨e, he, q⟩ := List.mem_filterMap.mp hm
      exact nfr (List.mem_filterMap.mpr ⟨e, List.mem_cons_of_mem _ he, q⟩)
    have nB : B.get? a = none := fl3.2.1
    have nI : sI.heap.get? a = none := by
      cases q : sI.heap.get? a with
      | none => rfl
      | some o =>
        have := nb a o q (by rw [hs]; exact nfr)
        rw [nB] at this
        cases this
    have n0 : X.s_0.heap.get? a = none := by
      cases q : X.s_0.heap.get? a with
      | none => rfl
      | some o =>
        obtain ⟨o', q'⟩ := J.base.there a o q (by rw [hex]; exact fun z => nomatch z)
        rw [nI] at q'
        cases q'
    have nC : ∀ x c, X.env.cells.lookup x = some c → c ≠ a := fun x c e z => by
      obtain ⟨v, o, q, _⟩ := J.cell x c e
      rw [z, nI] at q
      cases q
    have nP : ∀ p ∈ X.pn ++ pins, p.1 ≠ a := fun p hp z => by
      have q := (J.pin p hp).1
      rw [z, nI] at q
      cases q
    have S3 := J3.suite he3 hd3 na nL nF
    refine wpAny_handleBy_cons (codeAny_handlers_test ?_) (by intro q; cases q)
    have LT : PySem.W.Looks (model X.prog X.w) g3 (typeOf (.ref a)) cls := fun A Q E s k q => wpAny_typeOf_ref (k _ _ he3) (by rw [hz3.1]; exact q)
    have LM := PySem.W.exm_one (M := model X.prog X.w) (J3.kIn) LT hb1
    have tst : ∀ {Q : Value → Shared → Prop} {E : Value → Shared → Prop}, Q c { s' with heap := g3 } → wpAny (model X.prog X.w) (X.A.mark (some (.ref a))) (eval (.Name x np) X.env) Q E { s' with heap := g3 } := fun {Q E} q => by
      obtain ⟨hg, hdbg, hm | ⟨hm, hv, hnn⟩⟩ := hc
      · exact ld_glob (X := X.suite a ((a, o3) :: (X.pn ++ pins))) S3 hg hm q hdbg
      · exact ld_blt (X := X.suite a ((a, o3) :: (X.pn ++ pins))) S3 hg hm hv q hnn hdbg
    refine tst (LM.here ?_)
    cases b with
    | true =>
      refine codeAny_handlers_suite_as ?_
      refine HandSPX.lands_againZ fl3 fun g4 fl4 up4 => ?_
      have J4 : Inv X pins σ' H' { s' with heap := g4 } := J.landed nb fl4.1 ((up.trans up3).trans up4) os ag
      obtain ⟨o4, w4, he4, hz4, hd4⟩ := fl4.there
      have T4 := track (cls := cls) (d := d) J4 he4 hz4 hd4 na n0 nL nC nP
      have S4 := suiteT T4 a
      refine store_ok (X := X.suite a (X.pn ++ pins)) (v := .ref a) S4 hN hi lcl rfl (fun s5 S5 => ?_) (.inr hln)
      refine wpAny_mono ((hsu a cls d (X.pn ++ pins)).run [] s5 _ _ _ S5 (hyes rfl a na)) (fun f s6 hsp => ?_) (fun _ _ z => False.elim z)
      have fin : ∀ {σ6 : L2.St} {H6 : Hp} {Q : Shared → Prop}, Inv (X.suite a (X.pn ++ pins)) [] σ6 H6 s6 → (∀ s7, Inv X pins (σ6.set i none) H6 s7 → Q s7) →
          wpAny (model X.prog X.w) X.A (do bindName X.env n .none; unbindBehindTheSuite X.env n pos') (fun _ s7 => Q s7) X.xe s6 := fun {σ6 H6 Q} S6 hq => gone_ok (unsuiteT S6 ok) hN hi hln hq
      cases f with
      | next =>
        obtain ⟨σ6, H6, S6, q6⟩ := hsp
        exact fin S6 fun s7 J7 => ⟨_, _, J7, q6⟩
      | brk =>
        obtain ⟨σ6, H6, S6, q6⟩ := hsp
        exact fin S6 fun s7 J7 => ⟨_, _, J7, q6⟩
      | cont =>
        obtain ⟨σ6, H6, S6, q6⟩ := hsp
        exact fin S6 fun s7 J7 => ⟨_, _, J7, q6⟩
      | ret u =>
        obtain ⟨v6, σ6, H6, S6, r6, q6⟩ := hsp
        exact fin S6 fun s7 J7 => ⟨_, _, _, J7, r6, q6⟩
    | false =>
      show wpAny _ X.A (handleBy (.ref a) X.env []) _ _ _
      refine wpAny_handleBy_nil ?_
      obtain ⟨k1, k2, k3, oe, vs, T, oT, ts', he, hz, hd, h1, hr⟩ := id fl3
      unfold PySem.passOn
      refine wpAny_bind (wpAny_field he hd h1 ?_)
      rw [if_neg (show ¬ ((Value.ref T == Value.none) = true) from by simp)]
      have out : wpAny (model X.prog X.w) X.A (setFlight (.ref a) X.env.frame) (fun _ s4 => wpAny (model X.prog X.w) X.A (throw (.ref a) : Sem Flow) (SP X pins D) X.xe s4) X.xe { s' with heap := g3 } := by
        rw [hf]
        refine HandSPX.setFlight_upZ fl3 fun g4 hh4 up4 => wpAny_throw (tk _ _ ?_)
        exact ⟨a, B, sI, pins, σ', H', cls, d, rfl, J, nb, (up.trans up3).trans up4, .inr (.inr (by rw [hs]; exact hh4)), na, os, ag, hno rfl⟩
      first
        | exact wpAny_bind (wpAny_pure (wpAny_bind out))
        | exact wpAny_bind out
  cases f with
  | next =>
    obtain ⟨σ', H', J', q⟩ := hsp
    exact wpAny_execs_nil ⟨σ', H', J'.ofTry ok, q⟩
  | brk =>
    obtain ⟨σ', H', J', q⟩ := hsp
    exact ⟨σ', H', J'.ofTry ok, q⟩
  | cont =>
    obtain ⟨σ', H', J', q⟩ := hsp
    exact ⟨σ', H', J'.ofTry ok, q⟩
  | ret u =>
    obtain ⟨v, σ', H', J', r, q⟩ := hsp
    exact ⟨v, σ', H', J'.ofTry ok, r, q⟩
end
end HX
set_option Elab.async false
set_option linter.all false
set_option maxRecDepth 100000
set_option maxHeartbeats 4000000
/-! The data layer: try with a suite of statements. -/
namespace DL
open PySem PySem.Spec L2
/-- slot i's name goes behind the suite -/
def Out.gone (i : Nat) : Out → Out
  | .nx Γ => .nx (Γ.set i none)
  | .bk Γ => .bk (Γ.set i none)
  | .ct Γ => .ct (Γ.set i none)
  | .rt d => .rt d
  | .ro d => .ro d
  | _ => .stuck
def Out.noX : Out → Out
  | .exc _ _ => .stuck
  | o => o
/-- try: .. except X as n: suite; n's slot i; sub: whether a class is caught -/
def sTryS (i : Nat) (sub : Str → Option Bool) (g gs : DL.Env → Out) : DL.Env → Out := fun Γ => match g Γ with
  | .exc (.exc c ns ds) Γ' => (match sub c with
    | some true => if i < Γ'.length then (gs (Γ'.set i (some (.val (.exc c ns ds))))).gone i else .stuck
    | some false => .exc (.exc c ns ds) Γ'
    | none => .stuck)
  | .exc _ _ => .stuck
  | o => o
/-- try: .. except X: suite -/
def sTryO (sub : Str → Option Bool) (g gs : DL.Env → Out) : DL.Env → Out := fun Γ => match g Γ with
  | .exc (.exc c ns ds) Γ' => (match sub c with
    | some true => (gs Γ').noX
    | some false => .exc (.exc c ns ds) Γ'
    | none => .stuck)
  | .exc _ _ => .stuck
  | o => o
section
variable {X : Cx} {Wout : WX} {body suite : List Stmt} {b₀ : Stmt} {x n : Str} {cc : Value} {sub : Str → Option Bool} {g gs : DL.Env → Out} {np pos pos' : Pos}
theorem Rel.tracked {K : PySem.W.Frag} {mg : Str → Option Value} {F0 : Fe} {H0 F H : Hp} {σ : L2.St} {Γ : DL.Env} {c : Str} {ns : List Str} {ds : List D} {C a : Addr} {od : Option Addr} (r : Rel K mg F0 H0 F H σ Γ) (gC : mg c = some (.ref C)) (na : H a = none)
    (qd : (ns = [] ∧ ds = [] ∧ od = none) ∨ ∃ dd vs, od = some dd ∧ F dd = some (.xd (ns.zip vs)) ∧ ns.length = vs.length ∧ RpL K mg F ds vs) :
    Ext F H (upd F a (HX.HEx (.ref C) od a)) (upd H a (HX.HEx (.ref C) od a)) ∧ Rp K mg (upd F a (HX.HEx (.ref C) od a)) (.exc c ns ds) (.ref a) := by
  have ex := Ext.laid (o := HX.HEx (.ref C) od a) r.fz na
  refine ⟨ex, ?_⟩
  unfold Rp
  refine ⟨a, C, od, rfl, gC, upd_same, ?_⟩
  rcases qd with q | ⟨dd, vs, e1, e2, l, rr⟩
  · exact .inl q
  · exact .inr ⟨dd, vs, e1, ex.ff _ _ e2, l, RpL.mono ex.ff _ _ rr⟩
theorem ds_tryS (i : Nat) (hs : X.stack = X.env :: X.outer) (hf : X.env.frame = some X.env.locals) (hN : X.N.Nodup) (hi : X.N[i]? = some n) (hln : X.env.kindOf n = some .local) (hex : X.ex = []) (hc : Names X x cc) (tk : Takes X Wout)
    (hsub : ∀ c b C, sub c = some b → X.mg c = some (.ref C) → PySem.W.exmOne X.K (.ref C) cc = some b)
    (hb : ∀ (W : WX) (pn : List (Addr × Obj)) (xe : Value → Shared → Prop), Takes (X.tr pn xe) W → PassesOwn (model X.prog X.w) X.A X.env xe → DSs (X.tr pn xe) W body g)
    (hsu : ∀ (a : Addr) (pn : List (Addr × Obj)), DSs (X.suite a pn) W0 (b₀ :: suite) gs) :
    DS X Wout (.Try body [.ExceptHandler (some (.Name x np)) (some n) (b₀ :: suite) pos'] [] [] pos) (sTryS i sub g gs) := by
  refine PS.weak (HX.ps_try_trk hs hf hN hi hln hex hc tk (tb := fun W => tDS X W g) (ts := fun a _ _ => tDS X W0 gs) (fun W pn xe t q => PSs.weak (hb W pn xe t q) fun _ _ _ h => h) (fun a cls d pn => PSs.weak (hsu a pn) fun _ _ _ h => h)) ?_
  rintro Dn σ H ⟨F0, H0, F, Γ, r, p⟩
  refine ⟨F0, H0, F, Γ, r, ?_⟩
  revert p
  unfold sTryS
  cases e : g Γ with
  | exc y Γ' =>
    cases y with
    | exc c ns ds =>
      intro p cls od σ' F' H' r' q
      obtain ⟨C, ec, gC, qd⟩ := q
      subst ec
      have p : PostS X Wout F0 H0 Dn (match sub c with
        | some true => if i < Γ'.length then (gs (Γ'.set i (some (.val (.exc c ns ds))))).gone i else .stuck
        | some false => .exc (.exc c ns ds) Γ'
        | none => .stuck) := p
      cases es : sub c with
      | none => rw [es] at p; exact p.elim
      | some b =>
        rw [es] at p
        refine ⟨b, hsub c b C es gC, fun hbt a na => ?_, fun hbf => ?_⟩
        · subst hbt
          have p : PostS X Wout F0 H0 Dn (if i < Γ'.length then (gs (Γ'.set i (some (.val (.exc c ns ds))))).gone i else .stuck) := p
          by_cases hlt : i < Γ'.length
          case neg => rw [if_neg hlt] at p; exact p.elim
          rw [if_pos hlt] at p
          obtain ⟨ex, rp⟩ := r'.tracked gC na qd
          have r2 := (r'.step ex).setV (i := i) rp
          have s0 : Same F0 (upd F' a (HX.HEx (.ref C) od a)) := r'.ext.ff.trans ex.ff
          have n0 : ∀ b o, (upd F' a (HX.HEx (.ref C) od a)) b = some o → F0 b = some o ∨ H0 b = none := (r'.ext.trans ex).new
          refine ⟨_, H0, _, _, r2.rebase s0 (Same.refl _), ?_⟩
          revert p
          cases gs (Γ'.set i (some (.val (.exc c ns ds)))) with
          | nx Γ3 => exact fun p σ3 F3 H3 r3 => p _ _ _ ((r3.unbase s0 n0).setN i)
          | bk Γ3 => exact fun p σ3 F3 H3 r3 => p _ _ _ ((r3.unbase s0 n0).setN i)
          | ct Γ3 => exact fun p σ3 F3 H3 r3 => p _ _ _ ((r3.unbase s0 n0).setN i)
          | rt d => exact fun p v F3 H3 x3 q3 => p v F3 H3 (x3.unbase s0 n0) q3
          | ro d => exact fun p v F3 H3 x3 q3 => p v F3 H3 (x3.unbase s0 n0) q3
          | exc x Γ => exact fun p => p.elim
          | stuck => exact fun p => p.elim
        · subst hbf
          exact p _ _ σ' F' H' r' ⟨C, rfl, gC, qd⟩
    | _ => exact fun p => p.elim
  | _ => exact fun p => p
theorem ds_tryO (hs : X.stack = X.env :: X.outer) (hf : X.env.frame = some X.env.locals) (hc : Names X x cc) (tk : Takes X Wout)
    (hsub : ∀ c b C, sub c = some b → X.mg c = some (.ref C) → PySem.W.exmOne X.K (.ref C) cc = some b)
    (hb : ∀ (W : WX) (pn : List (Addr × Obj)) (xe : Value → Shared → Prop), Takes (X.tr pn xe) W → PassesOwn (model X.prog X.w) X.A X.env xe → DSs (X.tr pn xe) W body g)
    (hsu : ∀ (a : Addr) (pn : List (Addr × Obj)), DSs (X.suite a pn) W0 (b₀ :: suite) gs) :
    DS X Wout (.Try body [.ExceptHandler (some (.Name x np)) none (b₀ :: suite) pos'] [] [] pos) (sTryO sub g gs) := by
  refine PS.weak (ps_try_only hs hf hc tk (tb := fun W => tDS X W g) (ts := fun a _ _ => tDS X W0 gs) (fun W pn xe t q => PSs.weak (hb W pn xe t q) fun _ _ _ h => h) (fun a oe cls d pn _ _ => PSs.weak (hsu a _) fun _ _ _ h => h)) ?_
  rintro Dn σ H ⟨F0, H0, F, Γ, r, p⟩
  refine ⟨F0, H0, F, Γ, r, ?_⟩
  revert p
  unfold sTryO
  cases e : g Γ with
  | exc y Γ' =>
    cases y with
    | exc c ns ds =>
      intro p cls od σ' F' H' r' q
      obtain ⟨C, ec, gC, qd⟩ := q
      subst ec
      have p : PostS X Wout F0 H0 Dn (match sub c with
        | some true => (gs Γ').noX
        | some false => .exc (.exc c ns ds) Γ'
        | none => .stuck) := p
      cases es : sub c with
      | none => rw [es] at p; exact p.elim
      | some b =>
        rw [es] at p
        refine ⟨b, hsub c b C es gC, fun hbt a na => ?_, fun hbf => ?_⟩
        · subst hbt
          have p : PostS X Wout F0 H0 Dn (gs Γ').noX := p
          refine ⟨F0, H0, F', Γ', r', ?_⟩
          revert p
          cases gs Γ' with
          | exc x Γ => exact fun p => p.elim
          | _ => exact fun p => p
        · subst hbf
          exact p _ _ σ' F' H' r' ⟨C, rfl, gC, qd⟩
    | _ => exact fun p => p.elim
  | _ => exact fun p => p
theorem ds_kxTryS (i : Nat) (h : KxT X.K X.mg x sub) (hN : X.N.Nodup) (tk : Takes X Wout)
    (hb : ∀ (W : WX) (pn : List (Addr × Obj)) (xe : Value → Shared → Prop), Takes (X.tr pn xe) W → PassesOwn (model X.prog X.w) X.A X.env xe → DSs (X.tr pn xe) W body g)
    (hsu : ∀ (a : Addr) (pn : List (Addr × Obj)), DSs (X.suite a pn) W0 (b₀ :: suite) gs)
    (hs : X.stack = X.env :: X.outer := by rfl) (hf : X.env.frame = some X.env.locals := by rfl) (hi : X.N[i]? = some n := by rfl) (hln : X.env.kindOf n = some .local := by kernel_rfl) (hex : X.ex = [] := by rfl)
    (hgx : Gl X x := by unfold L2.Gl; kernel_rfl) (hdx : (x == ("__debug__" : Str)) = false := by kernel_rfl) :
    DS X Wout (.Try body [.ExceptHandler (some (.Name x np)) (some n) (b₀ :: suite) pos'] [] [] pos) (sTryS i sub g gs) := by
  obtain ⟨C0, gC, hsub⟩ := h
  exact ds_tryS i hs hf hN hi hln hex ⟨hgx, hdx, .inl gC⟩ tk hsub hb hsu
theorem ds_kxTryO (h : KxT X.K X.mg x sub) (tk : Takes X Wout)
    (hb : ∀ (W : WX) (pn : List (Addr × Obj)) (xe : Value → Shared → Prop), Takes (X.tr pn xe) W → PassesOwn (model X.prog X.w) X.A X.env xe → DSs (X.tr pn xe) W body g)
    (hsu : ∀ (a : Addr) (pn : List (Addr × Obj)), DSs (X.suite a pn) W0 (b₀ :: suite) gs)
    (hs : X.stack = X.env :: X.outer := by rfl) (hf : X.env.frame = some X.env.locals := by rfl)
    (hgx : Gl X x := by unfold L2.Gl; kernel_rfl) (hdx : (x == ("__debug__" : Str)) = false := by kernel_rfl) :
    DS X Wout (.Try body [.ExceptHandler (some (.Name x np)) none (b₀ :: suite) pos'] [] [] pos) (sTryO sub g gs) := by
  obtain ⟨C0, gC, hsub⟩ := h
  exact ds_tryO hs hf ⟨hgx, hdx, .inl gC⟩ tk hsub hb hsu
end
/-- the program's exception classes -/
def CSG : List Str := ["FrameError", "NoLayout", "TooGreat", "NoStanding", "Stuck", "NoMove", "Below", "NoDivisor", "Between", "NoRow", "Spoilt", "TooLong", "NoBack", "NoName", "NoSay"]
def ysG (x : Str) : List Str := if x = "FrameError" then CSG else [x]
/-- whether except x catches the class c -/
def subG (x : Str) : Str → Option Bool := fun c => if c ∈ CSG then some (decide (c ∈ ysG x)) else none
theorem kxT_ofG {K : PySem.W.Frag} {mg : Str → Option Value} {x : Str} {cs : List Str} (gx : mg x = some (.ref (He.ga K x))) (hg : ∀ c ∈ cs, mg c = some (.ref (He.ga K c))) (hn : ∀ c ∈ CSG, c ∈ cs ∨ mg c = none)
    (h : cs.all (fun c => decide (PySem.W.exmOne K (.ref (He.ga K c)) (.ref (He.ga K x)) = some (decide (c ∈ ysG x)))) = true) : KxT K mg x (subG x) := by
  refine ⟨_, gx, fun c b C e gc => ?_⟩
  unfold subG at e
  by_cases q : c ∈ CSG
  case neg => rw [if_neg q] at e; cases e
  rw [if_pos q] at e
  cases e
  rcases hn c q with hc | hc
  · rw [hg c hc] at gc
    cases gc
    exact of_decide_eq_true (List.all_eq_true.mp h c hc)
  · rw [hc] at gc
    cases gc
end DL
set_option Elab.async false
set_option linter.all false
set_option maxRecDepth 100000
set_option maxHeartbeats 4000000
/-! Objects that nobody changes once they are made: their making, their methods. -/
namespace HO
open PySem PySem.Spec PyProof.Rows L2
/-- o.m(e, ..), the class known by the reading -/
def tMethD (X : Cx) (W : WX) (k : Nat) (m : Str) (ta : TE) (t : TA) : TE := fun σ H Q => ta σ H fun x H1 => ∃ a C dx fs f fd ps sp, x = .ref a ∧ H1 a = some (.ins C dx fs) ∧ fs.lookup m = none ∧ Cls X.K C ∧ Meth X.K C m f ∧ Binds X.K fd ps [] ∧
  FnOk X.prog X.w X.K X.mg X.base (L2.CX X.prog X.w) k f fd ps sp ∧ t σ H1 fun vs H2 => sp (x :: vs) H2 Q (WE W σ)
section
variable {X : Cx} {W : WX} {k : Nat} {m : Str} {pos apos : Pos} {e o : Expr} {es : List Expr} {ta : TE} {t : TA}
theorem pe_methD {pl : Sem Bool} (he : PE X o ta) (hr : Room k X.A) (hx : ∀ σ, PassesAt (L2.CX X.prog X.w) X σ (WE W σ)) (ha : PA X (e :: es) t)
    (hst : starEach (e :: es) X.env = (false, eval e X.env) :: starEach es X.env := by rfl) (hpl : (backTo pos (starEach es X.env)).any (·.1) = false := by rfl)
    (ht : eval (.Call (.Attribute o m apos) (e :: es) [] pos) X.env = (do
      let ov ← eval o X.env
      standAt apos.atName
      let (f, first) ← holding [ov] (getMethod ov m pl)
      callWith pos f first (backTo pos (starEach (e :: es) X.env)) (backToKw pos (keywordEach [] X.env))) := by rfl) :
    PE X (.Call (.Attribute o m apos) (e :: es) [] pos) (tMethD X W k m ta t) := by
  refine ⟨fun pins s σ H Q I h => ?_⟩
  refine PySem.W.methodCall_KW (pl := pl) (thn (he.run pins s σ H _ I h) fun u s1 ⟨x, H1, I1, rx, a, C, dx, fs, f, fd, ps, sp, ex, ea, l, c, hm, hb, F, q⟩ => ?_) ht
  subst ex
  obtain rfl : u = Value.ref a := rx
  refine getmeth_ok I1 ea c hm l ?_
  refine PySem.W.callWith_K (first := [.ref a]) (h₀ := X.base) I.ok.mod.kin hm.kp (thn (ha.run pos pins s1 σ H1 _ I1 q) fun us s2 ⟨vs, H2, I2, r, q2⟩ => ⟨I2.kIn, ?_⟩) hst hpl
  exact run_fnSD (us := .ref a :: us) (vs := .ref a :: vs) (ds := []) (dvs := []) (E := WE W) F hr hb .nil (hx σ) I2 (.cons rfl r) (by rw [List.append_nil]; exact q2)
theorem pe_methD0 {pl : Sem Bool} (he : PE X o ta) (hr : Room k X.A) (hx : ∀ σ, PassesAt (L2.CX X.prog X.w) X σ (WE W σ))
    (ht : eval (.Call (.Attribute o m apos) [] [] pos) X.env = (do
      let ov ← eval o X.env
      standAt apos.atName
      let (f, first) ← holding [ov] (getMethod ov m pl)
      callWith pos f first (backTo pos (starEach [] X.env)) (backToKw pos (keywordEach [] X.env))) := by rfl) :
    PE X (.Call (.Attribute o m apos) [] [] pos) (tMethD X W k m ta tNil) := by
  refine ⟨fun pins s σ H Q I h => ?_⟩
  refine PySem.W.methodCall_KW (pl := pl) (thn (he.run pins s σ H _ I h) fun u s1 ⟨x, H1, I1, rx, a, C, dx, fs, f, fd, ps, sp, ex, ea, l, c, hm, hb, F, q⟩ => ?_) ht
  subst ex
  obtain rfl : u = Value.ref a := rx
  refine getmeth_ok I1 ea c hm l ?_
  refine PySem.W.callWith_K0 (first := [.ref a]) I1.kIn hm.kp ?_
  exact run_fnSD (us := [.ref a]) (vs := [.ref a]) (ds := []) (dvs := []) (E := WE W) F hr hb .nil (hx σ) I1 (.cons rfl .nil) (by rw [List.append_nil]; exact q)
end
/-- a class without an __init__ of its own -/
structure Mk0 (K : PySem.W.Frag) (C : Addr) : Prop where
  makes : PySem.W.makesIn K C = true
  init : PySem.W.findIn K (.ref C) "__init__" = some (some (.builtin "object.__init__"))
  kp : PySem.W.keepIn K (.ref C) = true
section
variable {X : Cx} {C : Addr} {x : Str} {p pos : Pos}
theorem pe_makeN (M : Mk0 X.K C) (hg : Gl X x) (hm : X.mg x = some (.ref C)) (hdb : (x == ("__debug__" : Str)) = false := by kernel_rfl) :
    PE X (.Call (.Name x p) [] [] pos) (fun _ H Q => ∀ a dx, H a = none → H dx = none → dx ≠ a → Q (.ref a) (upd (upd H dx (.own a)) a (.ins C dx []))) := by
  refine ⟨fun pins s σ H Q I h => ?_⟩
  refine wpAny_Call_Name_kw (ld_glob I hg hm ?_ hdb)
  refine PySem.W.callWith_K0 I.kIn M.kp ?_
  have hq := h (s.heap.objs.size + 1) s.heap.objs.size (I.hok.fresh (Nat.le_succ _)) (I.hok.fresh (Nat.le_refl _)) (Nat.ne_of_lt (Nat.lt_succ_self _))
  have I2 := Inv.made (C := C) I
  refine wpAny_call (make_map0 I.kIn M.makes M.init (fun self => PySem.W.Looks.of_pure (PySem.W.oi_bind self)) ?_)
  have g2 : ((s.heap.push PySem.W.emptyDict).push (PySem.W.instObj C s.heap.objs.size)).get? (s.heap.objs.size + 1) = some (PySem.W.instObj C s.heap.objs.size) := by
    have := Heap.get?_push_size (s.heap.push PySem.W.emptyDict) (o := PySem.W.instObj C s.heap.objs.size) rfl
    rwa [Heap.size_push] at this
  have t1 : PySem.W.Looks (model X.prog X.w) ((s.heap.push PySem.W.emptyDict).push (PySem.W.instObj C s.heap.objs.size)) (typeOf (.ref (s.heap.objs.size + 1))) (.ref C) := (PySem.W.Looks.ld g2).andThen .now
  have Y := PySem.W.makes_of (M := model X.prog X.w) I.kIn M.makes
  have t2 : PySem.W.Looks (model X.prog X.w) ((s.heap.push PySem.W.emptyDict).push (PySem.W.instObj C s.heap.objs.size)) (isInstance (.ref (s.heap.objs.size + 1)) (.type "object")) true := t1.andThen (Y.top.keeps fun b o e => Heap.get?_push_of_some _ (Heap.get?_push_of_some _ e))
  refine codeAny_call_builtin PySem.W.oi_plain PySem.W.entry_oi (@PySem.W.check_slot (model X.prog X.w) _ _ _ "object.__init__" "object" "__init__" (.ref (s.heap.objs.size + 1)) [] [] _ PySem.W.oi_kind PySem.W.oi_split t2 (PySem.W.oi_args (.ref (s.heap.objs.size + 1))) ?_)
  rw [PySem.W.oi_run]
  exact wpAny_pure (And.intro rfl ⟨V.ref (s.heap.objs.size + 1), _, I2, rfl, hq⟩)
end
/-- what an __init__(self, f, g) that keeps its arguments does -/
def spi2 (C : Addr) (f g : Str) : Sp := fun vs H Q _ => ∃ a y z dx, vs = [.ref a, y, z] ∧ H a = some (.ins C dx []) ∧ Q .non (upd (upd H a (.ins C dx [(f, y)])) a (.ins C dx [(f, y), (g, z)]))
end HO
namespace DL
open PySem PySem.Spec L2
/-- C(), no fields -/
def eNew0 (c : Str) : DL.Env → R D := fun _ => .ok (.obj c [] [])
/-- C(a, b) -/
def eNew2 (c f g : Str) (fs : DL.Env → R (List D)) : DL.Env → R D := fun Γ => (fs Γ).bind fun ds => match ds with
  | [d, e] => .ok (.obj c [f, g] [d, e])
  | _ => .stuck
def lkC : List (Str × (List D → R D)) → Str → Option (List D → R D)
  | [], _ => none
  | e :: tb, c => if e.1 = c then some e.2 else lkC tb c
/-- x.m(..) by x's class -/
def dMeth (tb : List (Str × (List D → R D))) (m : Str) (n : Nat) (x : D) (fs : R (List D)) : R D := match x with
  | .obj c ns ws => if m ∈ ns then .stuck else (match lkC tb c with
    | some mf => fs.bind fun ds => if ds.length = n then mf (.obj c ns ws :: ds) else .stuck
    | none => .stuck)
  | _ => .stuck
def eMeth (tb : List (Str × (List D → R D))) (m : Str) (n : Nat) (fo : DL.Env → R D) (fs : DL.Env → R (List D)) : DL.Env → R D := fun Γ => (fo Γ).bind fun x => dMeth tb m n x (fs Γ)
def KO0 (K : PySem.W.Frag) (mg : Str → Option Value) (c : Str) : Prop := ∃ C, mg c = some (.ref C) ∧ HO.Mk0 K C
def KO2 (P : Program) (w : World) (K : PySem.W.Frag) (mg : Str → Option Value) (base : Heap) (j : Nat) (c f g : Str) : Prop := ∃ C fI fd ps, mg c = some (.ref C) ∧ Mk K C fI ∧ Binds K fd ps [] ∧ FnOk P w K mg base (L2.CX P w) j fI fd ps (HO.spi2 C f g)
/-- each class of tb has the method m that does what tb says -/
def KnM (P : Program) (w : World) (K : PySem.W.Frag) (mg : Str → Option Value) (base : Heap) (k : Nat) (tb : List (Str × (List D → R D))) (m : Str) (n : Nat) : Prop :=
  ∀ e ∈ tb, ∃ C f fd ps, mg e.1 = some (.ref C) ∧ Cls K C ∧ Meth K C m f ∧ Binds K fd ps [] ∧ FnOk P w K mg base (L2.CX P w) k f fd ps (spD K mg (n + 1) e.2)
theorem lkC_ok : ∀ {tb : List (Str × (List D → R D))} {c : Str} {mf : List D → R D}, lkC tb c = some mf → (c, mf) ∈ tb
  | [], _, _, h => by cases h
  | e :: tb, c, mf, h => by
    unfold lkC at h
    by_cases q : e.1 = c
    · rw [if_pos q] at h
      cases h
      subst q
      exact List.mem_cons_self
    · rw [if_neg q] at h
      exact List.mem_cons_of_mem _ (lkC_ok h)
theorem zip_none {m : Str} : ∀ {ns : List Str} {vs : List V}, m ∉ ns → (ns.zip vs).lookup m = none
  | [], _, _ => by simp
  | _ :: _, [], _ => by simp
  | n :: ns, v :: vs, h => by
    simp only [List.mem_cons, not_or] at h
    rw [List.zip_cons_cons, lookup_put, if_neg h.1]
    exact zip_none h.2
theorem Ext.made {F H : Hp} (z : Fz F H) {a dx C : Addr} {o o2 : HO} {fs : List (Str × V)} (na : H a = none) (nd : H dx = none) (ne : dx ≠ a) : Ext F H (upd F a (.ins C dx fs)) (upd (upd (upd H dx o2) a o) a (.ins C dx fs)) := by
  have e : upd (upd (upd H dx o2) a o) a (.ins C dx fs) = upd (upd H dx o2) a (.ins C dx fs) := by
    funext b
    by_cases h : b = a
    · rw [h, upd_same, upd_same]
    · rw [upd_ne h, upd_ne h, upd_ne h]
  rw [e]
  exact (Ext.heap z nd).trans (Ext.laid (Ext.heap z nd).fh (by rw [upd_ne (Ne.symm ne)]; exact na))
section
variable {X : Cx} {W : WX} {j k n : Nat} {c f g m : Str} {e e2 o : Expr} {es : List Expr} {p pos apos : Pos} {fs : DL.Env → R (List D)} {fo : DL.Env → R D} {tb : List (Str × (List D → R D))}
theorem de_new0 (h : KO0 X.K X.mg c) (hg : Gl X c := by unfold L2.Gl; kernel_rfl) (hdb : (c == ("__debug__" : Str)) = false := by kernel_rfl) : DE X W (.Call (.Name c p) [] [] pos) (eNew0 c) := by
  obtain ⟨C, hm, M⟩ := h
  refine PE.weak (HO.pe_makeN M hg hm hdb) ?_
  rintro σ H Q ⟨F0, H0, F, Γ, r, p⟩
  intro a dx na nd ne
  have ex := Ext.made (C := C) (o := .ins C dx []) (o2 := .own a) (fs := []) r.fz na nd ne
  have e : upd (upd (upd H dx (.own a)) a (.ins C dx [])) a (.ins C dx []) = upd (upd H dx (.own a)) a (.ins C dx []) := by
    funext b
    by_cases h : b = a
    · rw [h, upd_same, upd_same]
    · rw [upd_ne h]
  rw [e] at ex
  refine PostG.at p ex ?_
  show Rp _ _ _ _ _
  unfold Rp
  exact ⟨a, C, dx, [], rfl, hm, upd_same, rfl, RpL.nil⟩
theorem de_new2 (h : KO2 X.prog X.w X.K X.mg X.base j c f g) (hr : Room k X.A) (ha : DA X W [e, e2] fs) (hj : j + 1 ≤ k := by decide) (hg : Gl X c := by unfold L2.Gl; kernel_rfl) (hdb : (c == ("__debug__" : Str)) = false := by kernel_rfl)
    (he : starEach [e, e2] X.env = (false, eval e X.env) :: starEach [e2] X.env := by rfl) (hpl : (backTo pos (starEach [e2] X.env)).any (·.1) = false := by rfl) : DE X W (.Call (.Name c p) [e, e2] [] pos) (eNew2 c f g fs) := by
  obtain ⟨C, fI, fd, ps, hm, M, hb, G⟩ := h
  have hx : Passes (L2.CX X.prog X.w) X (fun _ _ _ => False) := fun _ _ _ _ _ _ _ h => by
    obtain ⟨_, _, _, _, _, _, _, _, _, _, _, _, z⟩ := h
    exact z.elim
  refine PE.weak (pe_make M G (hr.mono hj) hg hm hb .nil hx ha hdb he hpl) ?_
  rintro σ H Q ⟨F0, H0, F, Γ, r, p⟩
  refine ⟨F0, H0, F, Γ, r, PostG.bind p (fun ds vs F1 H1 _ x1 r1 p1 => ?_) fun _ _ _ _ _ h => h⟩
  have r1 : RpL X.K X.mg F1 ds vs := r1
  cases ds with
  | nil => exact p1.elim
  | cons d ds =>
    cases ds with
    | nil => exact p1.elim
    | cons d2 ds =>
      cases ds with
      | cons _ _ => exact p1.elim
      | nil =>
        obtain ⟨v, u, rfl, rv, ru⟩ := r1.two
        intro a dx na nd ne
        refine ⟨a, v, u, dx, rfl, by rw [upd_same], rfl, ?_⟩
        have e : upd (upd (upd (upd H1 dx (.own a)) a (.ins C dx [])) a (.ins C dx [(f, v)])) a (.ins C dx [(f, v), (g, u)]) = upd (upd (upd H1 dx (.own a)) a (.ins C dx [])) a (.ins C dx [(f, v), (g, u)]) := by
          funext b
          by_cases h : b = a
          · rw [h, upd_same, upd_same]
          · simp only [upd_ne h]
        rw [e]
        have ex := Ext.made (C := C) (o := .ins C dx []) (o2 := .own a) (fs := [(f, v), (g, u)]) x1.fh na nd ne
        refine PostG.at p1 ex ?_
        show Rp _ _ _ _ _
        unfold Rp
        exact ⟨a, C, dx, [v, u], rfl, hm, upd_same, rfl, RpL.mono ex.ff _ _ (RpL.cons rv (RpL.cons ru RpL.nil))⟩
theorem meth_read (h : KnM X.prog X.w X.K X.mg X.base j tb m n) (hj : j ≤ k) {t : TA} (ht : ∀ (F0 : Fe) (H0 F H : Hp) (σ : L2.St) (Γ : DL.Env) (Q : List V → Hp → Prop), Rel X.K X.mg F0 H0 F H σ Γ → PostG X.K X.mg (repL X.K X.mg) F H (WE W σ) Q (fs Γ) → t σ H Q) :
    ∀ σ H Q, tD X W (eMeth tb m n fo fs) σ H Q → HO.tMethD X W k m (tD X W fo) t σ H Q := by
  rintro σ H Q ⟨F0, H0, F, Γ, r, p⟩
  refine ⟨F0, H0, F, Γ, r, PostG.bind p (fun x v F1 H1 _ x1 r1 p1 => ?_) fun _ _ _ _ _ h => h⟩
  have r1 : Rp X.K X.mg F1 x v := r1
  cases x with
  | obj c ns ws =>
    have r0 := r1
    unfold Rp at r1
    obtain ⟨a, C, dx, vs, rfl, hm, ea, hl, rr⟩ := r1
    have p1 : PostG X.K X.mg (repV X.K X.mg) F1 H1 (WE W σ) Q (if m ∈ ns then .stuck else (match lkC tb c with
      | some mf => (fs Γ).bind fun ds => if ds.length = n then mf (.obj c ns ws :: ds) else .stuck
      | none => .stuck)) := p1
    by_cases q1 : m ∈ ns
    · rw [if_pos q1] at p1
      exact p1.elim
    · rw [if_neg q1] at p1
      cases el : lkC tb c with
      | none => rw [el] at p1; exact p1.elim
      | some mf =>
        rw [el] at p1
        have p1 : PostG X.K X.mg (repV X.K X.mg) F1 H1 (WE W σ) Q ((fs Γ).bind fun ds => if ds.length = n then mf (.obj c ns ws :: ds) else .stuck) := p1
        obtain ⟨C', f, fd, ps, hm', cl, me, hb, G⟩ := h (c, mf) (lkC_ok el)
        rw [hm] at hm'
        cases hm'
        refine ⟨a, C, dx, _, f, fd, ps, _, rfl, x1.fh.ins ea, zip_none q1, cl, me, hb, G.mono hj, ht _ _ _ _ _ _ _ (r.step x1) ?_⟩
        refine PostG.bind p1 (fun ds us F2 H2 _ x2 r2 p2 => ?_) fun _ _ _ _ _ h => h
        obtain ⟨hl2, p3⟩ := ifR p2
        exact ⟨F2, .obj c ns ws :: ds, by rw [List.length_cons, hl2], x2.fh, RpL.cons (Rp.mono x2.ff _ _ r0) r2, p3⟩
  | _ => exact p1.elim
theorem de_meth {pl : Sem Bool} (h : KnM X.prog X.w X.K X.mg X.base j tb m n) (hr : Room k X.A) (ho : DE X W o fo) (ha : DA X W (e :: es) fs) (hx : OkW X W) (hj : j ≤ k := by decide)
    (hst : starEach (e :: es) X.env = (false, eval e X.env) :: starEach es X.env := by rfl) (hpl : (backTo pos (starEach es X.env)).any (·.1) = false := by rfl)
    (ht : eval (.Call (.Attribute o m apos) (e :: es) [] pos) X.env = (do
      let ov ← eval o X.env
      standAt apos.atName
      let (f, first) ← holding [ov] (getMethod ov m pl)
      callWith pos f first (backTo pos (starEach (e :: es) X.env)) (backToKw pos (keywordEach [] X.env))) := by rfl) :
    DE X W (.Call (.Attribute o m apos) (e :: es) [] pos) (eMeth tb m n fo fs) :=
  PE.weak (HO.pe_methD (pl := pl) ho hr hx ha hst hpl ht) (meth_read h hj fun F0 H0 F H σ Γ Q r p => ⟨F0, H0, F, Γ, r, p⟩)
theorem de_meth0 {pl : Sem Bool} (h : KnM X.prog X.w X.K X.mg X.base j tb m 0) (hr : Room k X.A) (ho : DE X W o fo) (hx : OkW X W) (hj : j ≤ k := by decide)
    (ht : eval (.Call (.Attribute o m apos) [] [] pos) X.env = (do
      let ov ← eval o X.env
      standAt apos.atName
      let (f, first) ← holding [ov] (getMethod ov m pl)
      callWith pos f first (backTo pos (starEach [] X.env)) (backToKw pos (keywordEach [] X.env))) := by rfl) :
    DE X W (.Call (.Attribute o m apos) [] [] pos) (eMeth tb m 0 fo aNil) :=
  PE.weak (HO.pe_methD0 (pl := pl) ho hr hx ht) (meth_read h hj fun F0 H0 F H σ Γ Q r p => PostG.ok p r.fz RpL.nil)
end
/-! ### from the head's facts -/
def mk0B (K : PySem.W.Frag) (C : Addr) : Bool := PySem.W.makesIn K C && (He.eqO (PySem.W.findIn K (.ref C) "__init__") (some (some (.builtin "object.__init__"))) && PySem.W.keepIn K (.ref C))
theorem mk0B_ok {K : PySem.W.Frag} {C : Addr} (h : mk0B K C = true) : HO.Mk0 K C := by
  obtain ⟨a1, h⟩ := He.ba h
  obtain ⟨a2, a3⟩ := He.ba h
  exact ⟨a1, He.eqO_ok a2, a3⟩
end DL
set_option Elab.async false
set_option linter.all false
set_option maxRecDepth 100000
set_option maxHeartbeats 4000000
/-! The data layer: int(), xs.extend(new list), reversed(range(..)). -/
namespace DL
open PySem PySem.Spec L2
def dInt1 : D → R D
  | .int i => .ok (.int i)
  | .bl b => .ok (.int (if b then 1 else 0))
  | _ => .stuck
abbrev dInt := un1 dInt1
/-- xs.extend(ys), ys a new list -/
def sExtO (i : Nat) (f : DL.Env → R (List D)) : DL.Env → Out := fun Γ => match Env.at_ Γ i with
  | some (.own ds) => (f Γ).out Γ fun es => if ds.length + es.length ≤ LIM then .nx (Γ.set i (some (.own (ds ++ es)))) else .stuck
  | _ => .stuck
/-- reversed(range(n)) -/
def iRevRng1 : D → R (List D)
  | .int j => if inR62 j then .ok (rngDn ((j.toNat : Nat) - 1) j.toNat) else .stuck
  | _ => .stuck
def iRevRng (f : DL.Env → R D) : DL.Env → R (List D) := fun Γ => (f Γ).bind iRevRng1
section
variable {X : Cx} {W : WX} {e a : Expr} {f : DL.Env → R (List D)} {fo : DL.Env → R (List D)} {pos p p2 : Pos}
theorem sat_int : SatL X (fun xs H Q => (∃ i, xs = [.int i] ∧ Q (.int i) H) ∨ ∃ k, xs = [.bl k] ∧ Q (.int (if k then 1 else 0)) H) dInt := sat_un1 fun F H x v E Q z r p => by
  cases x with
  | int i => exact .inl ⟨i, by rw [r.int_iff], PostG.ok p z Rp.int⟩
  | bl b => exact .inr ⟨b, by rw [r.bl_iff], PostG.ok p z Rp.int⟩
  | _ => exact p.elim
theorem ds_extendO (i : Nat) {x : Str} {p1 p2 cpos : Pos} (he : DO X W e f) (hN : X.N[i]? = some x := by rfl) (hv : Vis X.env.scope x := by first | exact Or.inl (by kernel_rfl) | exact Or.inr (Or.inl (by kernel_rfl)) | exact Or.inr (Or.inr (by kernel_rfl))) (hd : (x == ("__debug__" : Str)) = false := by kernel_rfl)
    (hcd : (x == ("__classdict__" : Str)) = false := by kernel_rfl) (hs1 : starEach [e] X.env = (false, eval e X.env) :: starEach [] X.env := by rfl) (hline : (p2.endLine == cpos.line) = true := by rfl)
    (hfew : ((backTo cpos (starEach [e] X.env)).all (fun x => !x.1) && (backToKw cpos (keywordEach [] X.env)).all (fun x => x.1.isSome)
      && decide (([e] : List Expr).length + ([] : List Keyword).length + (if ([] : List Keyword).isEmpty then 0 else 1) < 30)) = true := by rfl)
    (hs : swapsWith (.Call (.Attribute (.Name x p1) "extend" p2) [e] [] cpos) none pos.line X.env = pure false := by rfl) :
    DS X W (.Expr (.Call (.Attribute (.Name x p1) "extend" p2) [e] [] cpos) pos) (sExtO i f) := by
  refine PS.weak (ps_expr (pe_bm PySem.F.plainAttrs_list PySem.F.slot_list_extend PySem.F.type_list_extend mt_extend (pe_var hN hv hd hcd) (pa_cons he pa_nil hs1) rfl hfew hline hs1) hs) ?_
  rintro Dn σ H ⟨F0, H0, F, Γ, r, p⟩
  revert p
  unfold sExtO
  cases ei : Env.at_ Γ i with
  | none => exact fun p => p.elim
  | some s =>
    cases s with
    | oob b c ns fs => exact fun p => p.elim
    | val d => exact fun p => p.elim
    | dic ks ds => exact fun p => p.elim
    | own ds =>
      intro p
      obtain ⟨v, h1, l, vs, e1, e2, e3, e4, e5⟩ := r.slot i _ (at_get ei)
      subst e1
      refine ⟨_, h1, .inl ⟨rfl, _, SqL.of e2⟩, F0, H0, F, Γ, r, PostS.out r p fun es w F1 H1 _ x1 r1 p1 => ?_⟩
      obtain ⟨b, zs, rfl, g1, g2, g3, g4⟩ := r1
      by_cases hl : ds.length + es.length ≤ LIM
      · rw [if_pos hl] at p1
        refine ⟨l, b, vs, zs, rfl, rfl, x1.hh _ _ e2, g1, by rw [← e5.length, ← g4.length]; exact hl, p1 _ F1 _ ?_⟩
        have r' := r.step x1
        refine r'.mutO (at_get ei) rfl h1 rfl ?_
        refine ⟨l, vs ++ zs, rfl, upd_same, ?_, e4, RpL.append (RpL.mono x1.ff _ _ e5) g4⟩
        cases q : F1 l with
        | none => rfl
        | some o =>
          rcases x1.new l o q with z | z
          · rw [e3] at z; cases z
          · rw [e2] at z; cases z
      · rw [if_neg hl] at p1
        exact p1.elim
theorem di_revRng {tg : Expr} {p3 pos2 : Pos} {fa : DL.Env → R D} (hg : Gl X "reversed") (hm : X.mg "reversed" = none) (hg2 : Gl X "range") (hm2 : X.mg "range" = none) (ha : DE X W a fa)
    (hs : starEach [a] X.env = (false, eval a X.env) :: starEach [] X.env := by rfl) (hs2 : starEach [.Call (.Name "range" p3) [a] [] pos2] X.env = (false, eval (.Call (.Name "range" p3) [a] [] pos2) X.env) :: starEach [] X.env := by rfl) :
    DI X W tg (.Call (.Name "reversed" p) [.Call (.Name "range" p3) [a] [] pos2] [] pos) (iRevRng fa) := by
  refine PI.weak (pi_revR hg hm (prg_1 hg2 hm2 ha hs) hs2) ?_
  rintro σ H Q ⟨F0, H0, F, Γ, r, p⟩
  refine ⟨F0, H0, F, Γ, r, PostG.bind p (fun d v F1 H1 _ x1 r1 p1 => ?_) fun _ _ _ _ _ h => h⟩
  have r2 : Rp X.K X.mg F1 d v := r1
  cases d with
  | int j =>
    obtain ⟨c, p2⟩ := ifR p1
    obtain ⟨c1, c2⟩ := in62 c
    have e0 : (0 : Int) + (((j - 0).toNat : Nat) : Int) - 1 = (j.toNat : Nat) - 1 := by rw [Int.sub_zero]; omega
    refine ⟨j, by rw [r2.int_iff], by decide, by decide, c1, c2, ?_⟩
    rw [e0, Int.sub_zero]
    exact PostG.ok p2 x1.fh walkD_dn
  | _ => exact p1.elim
end
end DL
set_option Elab.async false
set_option linter.all false
set_option maxRecDepth 100000
set_option maxHeartbeats 4000000
/-! Raising where it counts that the new exception has no context (so that it may be caught and another one raised within the suite). -/
namespace HX
open PySem PySem.Spec PyProof.Rows L2
section
variable {X : Cx} {e : Expr} {es : List Expr} {ta : TA} {p pos : Pos}
/-- C(e, ..), C with its own __init__: the new exception, without a context -/
theorem mkN {Y : CXT} {x : Str} {C fI : Addr} {k : Nat} {fd : FuncData} {ps : List Str} {sp : Sp} (T : OexC X.K C) (iC : PySem.W.findIn X.K (.ref C) "__init__" = some (some (.ref fI))) (tI : PySem.W.typeIn X.K (.ref fI) = some (.type "function"))
    (G : FnOk X.prog X.w X.K X.mg X.base Y k fI fd ps sp) (rm : Room (k + 1) X.A) (bn : Binds X.K fd ps []) (pass : Passes Y X (fun _ _ _ => False)) (gx : Gl X x) (mx : X.mg x = some (.ref C)) (args : PA X (e :: es) ta)
    (nd : (x == ("__debug__" : Str)) = false := by kernel_rfl) (st : starEach (e :: es) X.env = (false, eval e X.env) :: starEach es X.env := by rfl) (pl : (backTo pos (starEach es X.env)).any (·.1) = false := by rfl) :
    L2N.PMk X (.Call (.Name x p) (e :: es) [] pos) (tMkO C sp [] ta) := by
  intro pins s σ H Q I todo
  obtain ⟨_, _, _, _, bmr, _, _, _, _, _, _, _, _, _, _, kC, hv⟩ := T.cls
  refine wpAny_Call_Name_kw (ld_glob I gx mx ?_ nd)
  refine PySem.W.callWith_K (h₀ := X.base) I.ok.mod.kin T.kC (thn (args.run pos pins s σ H _ I todo) fun us s1 ⟨vs, H1, I1, rv, few, q1⟩ => ⟨I1.kIn, (?_ : wpAny _ _ (call (.ref C) us) _ _ _)⟩) st pl
  obtain ⟨g0, gn, dr, tk, os⟩ := s1
  have up1 : g0.objs.size ≤ g0.objs.size + 1 := Nat.le_succ _
  have q2 := q1 (g0.objs.size + 1) (I1.hok.fresh up1)
  rw [List.append_nil] at q2
  have keep : ∀ b o, g0.get? b = some o → ((g0.push (PySem.W.kdv_tup us)).push (PySem.HandSPX.excO C g0.objs.size)).get? b = some o := fun b o z => Heap.get?_push_of_some _ (Heap.get?_push_of_some _ z)
  have here : ((g0.push (PySem.W.kdv_tup us)).push (PySem.HandSPX.excO C g0.objs.size)).get? (g0.objs.size + 1) = some (PySem.HandSPX.excO C g0.objs.size) := by heap_get
  have I2 : Inv X pins σ (upd H1 (g0.objs.size + 1) (exo (g0.objs.size + 1) C none)) ⟨(g0.push (PySem.W.kdv_tup us)).push (PySem.HandSPX.excO C g0.objs.size), gn, dr, tk, os⟩ :=
    I1.laid (t' := tk) (a := g0.objs.size + 1) (o := exo (g0.objs.size + 1) C none) keep up1 (exo_ok here)
  have rv2 : Vals (V.ref (g0.objs.size + 1) :: vs) (Value.ref (g0.objs.size + 1) :: us) := .cons rfl rv
  have ln : (Value.ref (g0.objs.size + 1) :: us ++ []).length = ps.length := by
    rw [List.append_nil, ← rv2.length]
    exact G.len _ _ _ _ q2
  have few2 : us.length ≤ sizeLine := by
    rw [← Paired.length rv, sizeLine_eq]
    omega
  have bd := bn _ (Value.ref (g0.objs.size + 1) :: us) I2.kIn ln
  rw [List.append_nil] at bd
  have inner := G.run _ X.stack _ _ ⟨Value.ref (g0.objs.size + 1) :: us, []⟩ (Value.ref (g0.objs.size + 1) :: us) _ _ (fun _ _ _ => False) (rm.make C us []) (I2.env0.make C us []) bd rv2 q2
  refine wpAny_call (PySem.HandSPX.call_own F.excBase_ValueError (fun Z => PySem.HandSPX.refsVE_contains Z bmr hv) (I1.kIn _ _ kC) (PySem.W.looks_findIn I1.kIn iC) (fun self => PySem.W.bind_fn I1.kIn self tI) few2 (codeAny_mono inner fun r s' back => ?_))
  cases r with
  | error er => exact pass pins σ _ _ er s' I2 back
  | ok fl =>
    cases fl with
    | ret u =>
      obtain ⟨v, H2, o2, b2, n2, k2, r2, ev, d, fs, ea, ed, nd1, q3⟩ := back
      subst ev
      obtain ⟨g2, gn2, dr2, tk2, os2⟩ := s'
      obtain ⟨t0, W0, J, kW, we, wo, na⟩ := mk_end0 (d2 := dr2) (t2 := tk2) I1 up1 keep n2 k2 o2 b2 ea ed nd1
      exact ⟨r2, g0.objs.size + 1, _, _, ⟨W0, gn2, dr2, tk2, os2⟩, _, .ref C, some d, rfl, J, kW, we, wo, ⟨rfl, rfl, fun zs hz => by cases hz; rfl⟩, rfl, rfl, na, rfl, b2, raises_own T.exC T.tyC, q3⟩
    | next => exact back.elim
    | brk => exact back.elim
    | cont => exact back.elim
end
end HX
set_option Elab.async false
set_option linter.all false
set_option maxRecDepth 100000
set_option maxHeartbeats 4000000
/-! except X as n: a suite that raises another exception. -/
namespace HX
open PySem PySem.Spec PyProof.Rows L2
/-- the context of such a suite -/
abbrev asX (X : Cx) (n : Str) (pos : Pos) (a : Addr) (pn : List (Addr × Obj)) : Cx :=
  { X with A := X.A.mark (some (.ref a)), calm := false, pn := pn, xe := AsSuiteRaised (model X.prog X.w) (X.A.mark (some (.ref a))) X.env n pos (notedBy (model X.prog X.w) (X.A.mark (some (.ref a))) X.env (cameBackBy (model X.prog X.w) X.A X.env X.xe)) }
section
variable {X : Cx} {n : Str} {i : Nat} {pos : Pos} {Wout : WX}
theorem asX_of {a : Addr} {pn pp : List (Addr × Obj)} {σ : L2.St} {H : Hp} {s : Shared} (I : Inv (X.suite a pn) pp σ H s) : Inv (asX X n pos a pn) pp σ H s :=
  Inv.unwish (X := asX X n pos a pn) (E := fun _ _ => False) I
/-- what the suite raises goes on behind the name's end -/
theorem asX_takes {pins : List (Addr × Obj)} {q : Addr × Obj} {c0 : Addr} (hs : X.stack = X.env :: X.outer) (hf : X.env.frame = some X.env.locals) (hN : X.N.Nodup) (hi : X.N[i]? = some n) (hln : X.env.kindOf n = some .local) (hex : X.ex = []) (ok : X.Ok)
    (hpa : ∀ hd : Option Value, PassesOwnAt (model X.prog X.w) (X.A.mark hd) X.A X.env X.xe) (tk : L2.Takes X Wout) :
    L2.Takes (asX X n pos c0 (q :: (X.pn ++ pins))) (fun cls d σ H => Wout cls d (σ.set i none) H) := by
  rintro _ s1 ⟨e, B, sI, pp, σ, H, cls, d, rfl, I0, nb, up, sky, na, os, ag, wish⟩
  have frm : X.A.frames = some (X.env :: X.outer) := by rw [ok.frames, hs]
  have I : Inv X pins σ H sI := Inv.unsuite (X := X) (a := c0) (q := q) (pn' := pp) (show Inv (X.suite c0 (q :: (X.pn ++ pins))) pp σ H sI from I0.wish fun _ _ => False) ok
  have sk : Sky B (X.env :: X.outer) e (Zc cls d) X.env.locals s1.heap := by rw [← hs]; exact sky
  have nb : ∀ b o, sI.heap.get? b = some o → b ∉ frs X.stack → B.get? b = some o := nb
  show wpAny (model X.prog X.w) (X.A.mark (some (.ref c0))) (noteFrame (.ref e) X.env) _ _ s1
  have go : ∀ g1, HandSPX.HeldZ B (X.env :: X.outer) e (Zc cls d) X.env.locals g1 → s1.heap.UpToSlots g1 → wpAny (model X.prog X.w) (X.A.mark (some (.ref c0))) (do bindName X.env n .none; unbindBehindTheSuite X.env n pos)
      (fun _ s₂ => wpAny (model X.prog X.w) (X.A.mark (some (.ref c0))) (passOn "try.except-as" (.ref e) X.env : Sem Flow) (fun _ _ => False) (notedBy (model X.prog X.w) (X.A.mark (some (.ref c0))) X.env (cameBackBy (model X.prog X.w) X.A X.env X.xe)) s₂)
      (fun y s₂ => wpAny (model X.prog X.w) (X.A.mark (some (.ref c0))) (setFlight (.ref e) none) (fun _ s₃ => (notedBy (model X.prog X.w) (X.A.mark (some (.ref c0))) X.env (cameBackBy (model X.prog X.w) X.A X.env X.xe)) y s₃) (notedBy (model X.prog X.w) (X.A.mark (some (.ref c0))) X.env (cameBackBy (model X.prog X.w) X.A X.env X.xe)) s₂) { s1 with heap := g1 } := fun g1 held u1 => by
    have I3 : Inv X pins σ H { s1 with heap := g1 } := I.landed nb held.1 (up.trans u1) os ag
    obtain ⟨_, bno, ff, oe, vs, T, oT, ts, he, hz, hd, v1, bT, Tne, hT, dT, t3⟩ := id held
    have nT : H T = none := (I.inGround nb).gone bT
    have off : ∀ (b : Addr) (o : Obj) (fv : Array Value), g1.get? b = some o → o.data = .fields fv → b ∉ frs (X.env :: X.outer) := fun b o fv q1 q2 hm => by
      obtain ⟨_, o2, q3, q4⟩ := ff.mem hm
      rw [q1] at q3
      cases q3
      exact q4 _ q2
    have oL : X.env.locals ∈ frs (X.env :: X.outer) := List.mem_filterMap.mpr ⟨X.env, List.mem_cons_self, hf⟩
    have oF : ∀ b, b ∈ X.fs → b ∈ frs (X.env :: X.outer) := fun b hm => by
      obtain ⟨v, q1, q2⟩ := List.mem_filterMap.mp hm
      exact List.mem_filterMap.mpr ⟨v, List.mem_cons_of_mem _ q1, q2⟩
    have xe_ := off e oe vs he hd
    have xT := off T oT ts hT dT
    have S : Inv X ((e, oe) :: (T, oT) :: pins) σ H { s1 with heap := g1 } := by
      refine ⟨I3.ok, I3.os, I3.bare, I3.base, I3.loc, I3.cell, I3.free, I3.freeC, fun p hp => ?_, I3.hok, I3.len⟩
      rcases List.mem_append.mp hp with hp | hp
      · exact I3.pin p (List.mem_append_left _ hp)
      · rcases List.mem_cons.mp hp with rfl | hp
        · exact ⟨he, na, fun z => xe_ (by rw [show e = X.env.locals from z]; exact oL), fun z => xe_ (oF _ z), fun v z => by rw [show oe.data = .cell v from z] at hd; cases hd⟩
        · rcases List.mem_cons.mp hp with rfl | hp
          · exact ⟨hT, nT, fun z => xT (by rw [show T = X.env.locals from z]; exact oL), fun z => xT (oF _ z), fun v z => by rw [show oT.data = .cell v from z] at dT; cases dT⟩
          · exact I3.pin p (List.mem_append_right _ hp)
    refine gone_ok S hN hi hln fun s6 S6 => ?_
    have I6 : Inv X pins (σ.set i none) H s6 := by
      refine ⟨S6.ok, S6.os, S6.bare, S6.base, S6.loc, S6.cell, S6.free, S6.freeC, fun p hp => S6.pin p ?_, S6.hok, S6.len⟩
      rcases List.mem_append.mp hp with hp | hp
      · exact List.mem_append_left _ hp
      · exact List.mem_append_right _ (List.mem_cons_of_mem _ (List.mem_cons_of_mem _ hp))
    have pe := S6.pin (e, oe) (List.mem_append_right _ List.mem_cons_self)
    have pT := S6.pin (T, oT) (List.mem_append_right _ (List.mem_cons_of_mem _ List.mem_cons_self))
    have ge : s6.heap.get? e = some oe := pe.1
    have gT : s6.heap.get? T = some oT := pT.1
    have apart : ∀ b o, sI.heap.get? b = some o → b ≠ e ∧ b ≠ T := fun b o q1 => by
      by_cases hb : b ∈ frs X.stack
      · rw [hs] at hb
        refine ⟨fun z => ?_, fun z => ?_⟩
        · rw [z] at hb; exact xe_ hb
        · rw [z] at hb; exact xT hb
      · have q2 := nb b o q1 hb
        refine ⟨fun z => ?_, fun z => ?_⟩
        · rw [z, bno] at q2; cases q2
        · rw [z, bT] at q2; cases q2
    have apart0 : ∀ b o, X.s_0.heap.get? b = some o → b ≠ e ∧ b ≠ T := fun b o q1 => by
      obtain ⟨o2, q2⟩ := I.base.there b o q1 (by rw [hex]; simp)
      exact apart b o2 q2
    have apartP : ∀ p ∈ X.pn ++ pins, p.1 ≠ e ∧ p.1 ≠ T := fun p hp => apart p.1 p.2 (I.pin p hp).1
    obtain ⟨G, r1, r2⟩ := restrict s6.heap fun b => !(decide (b = e) || decide (b = T))
    have inG : ∀ b o, G.get? b = some o → s6.heap.get? b = some o ∧ b ≠ e ∧ b ≠ T := fun b o q1 => by
      by_cases h : b = e ∨ b = T
      · have : (!(decide (b = e) || decide (b = T))) = false := by rcases h with h | h <;> simp [h]
        rw [r2 b this] at q1
        cases q1
      · have h1 : b ≠ e := fun z => h (.inl z)
        have h2 : b ≠ T := fun z => h (.inr z)
        rw [r1 b (by simp [h1, h2])] at q1
        exact ⟨q1, h1, h2⟩
    have ofG : ∀ b o, b ≠ e → b ≠ T → s6.heap.get? b = some o → G.get? b = some o := fun b o h1 h2 q1 => by
      rw [r1 b (by simp [h1, h2])]
      exact q1
    have I7 : Inv X pins (σ.set i none) H { s6 with heap := G } := I6.less (fun b o q1 => (inG b o q1).1) ofG ⟨oe, vs, ge, hd⟩ ⟨oT, ts, gT, dT⟩ na nT apart0 apartP
    have gone : ∀ b, b = e ∨ b = T → (PySem.W.hideAll G (frs X.stack)).get? b = none := fun b hb => by
      cases q1 : (PySem.W.hideAll G (frs X.stack)).get? b with
      | none => rfl
      | some o =>
        obtain ⟨_, h1, h2⟩ := inG b o (PySem.W.of_hideAll _ q1)
        exact (hb.elim h1 h2).elim
    have stays : (PySem.W.hideAll G (frs X.stack)).StaysIn s6.heap := fun b o q1 => (inG b o (PySem.W.of_hideAll _ q1)).1
    have ff6 : s6.heap.FunFrames (PySem.W.hideAll G (frs X.stack)) (X.env :: X.outer) := by
      have z := funFrames_none (B := PySem.W.hideAll G (frs X.stack)) I6.stack fun b hb => PySem.W.hideAll_none _ hb
      rw [← hs]
      exact z
    have held6 : HandSPX.HeldZ (PySem.W.hideAll G (frs X.stack)) (X.env :: X.outer) e (Zc cls d) X.env.locals s6.heap :=
      ⟨stays, gone e (.inl rfl), ff6, oe, vs, T, oT, ts, ge, hz, hd, v1, gone T (.inr rfl), Tne, gT, dT, t3⟩
    show wpAny (model X.prog X.w) (X.A.mark (some (.ref c0))) (passOn "try.except-as" (.ref e) X.env : Sem Flow) _ _ s6
    unfold PySem.passOn
    refine wpAny_bind (wpAny_field ge hd v1 ?_)
    rw [if_neg (by simp : ¬ ((Value.ref T == Value.none) = true))]
    have onward : wpAny (model X.prog X.w) (X.A.mark (some (.ref c0))) (setFlight (.ref e) X.env.frame) (fun _ s7 => wpAny (model X.prog X.w) (X.A.mark (some (.ref c0))) (throw (.ref e) : Sem Flow) (fun _ _ => False) (notedBy (model X.prog X.w) (X.A.mark (some (.ref c0))) X.env (cameBackBy (model X.prog X.w) X.A X.env X.xe)) s7) (notedBy (model X.prog X.w) (X.A.mark (some (.ref c0))) X.env (cameBackBy (model X.prog X.w) X.A X.env X.xe)) s6 := by
      rw [hf]
      refine HandSPX.setFlight_onZ held6 fun g7 held7 up7 => wpAny_throw (hpa _ _ _ (tk _ _ ?_))
      refine ⟨e, PySem.W.hideAll G (frs X.stack), { s6 with heap := G }, pins, σ.set i none, H, cls, d, rfl, I7, fun b o q1 hb => PySem.W.hideAll_get _ q1 hb, ?_, .inr (.inr (by rw [← hs] at held7; exact held7)), na, rfl, I6.bare, wish⟩
      exact Heap.UpToSlots.trans (Heap.UpToSlots.of_keeps fun b o q1 => (inG b o q1).1) up7
    first
      | exact wpAny_bind (wpAny_pure (wpAny_bind onward))
      | exact wpAny_bind onward
  rcases sk with ⟨q1, q2, q3, oe, vs, q4, q5, q6, q7⟩ | fl | held
  · exact HandSPX.look_newZ Zc.steady frm q3 hf q4 q1 q2 q6 q7 q5 go
  · exact HandSPX.looks_onZ Zc.steady frm hf fl go
  · exact HandSPX.againZ hf held.2.2.2 (go s1.heap held (Heap.UpToSlots.refl _))
end
/-- what 'except x as n', the suite raising perhaps, wishes of an exception of the body: slot i is n's -/
def wAsR (K : PySem.W.Frag) (c : Value) (i : Nat) (ts : Addr → Value → Option Addr → TS) (Wout : WX) (D : Ends) : WX := fun cls d σ H =>
  ∃ b, PySem.W.exmOne K cls c = some b ∧ (b = true → ∀ a, H a = none → ts a cls d { nx := fun σ' H' => D.nx (σ'.set i none) H', rt := D.rt, bk := fun σ' H' => D.bk (σ'.set i none) H', ct := fun σ' H' => D.ct (σ'.set i none) H' } (σ.set i (some (.ref a))) H) ∧
    (b = false → Wout cls d σ H)
section
variable {X : Cx} {x n : Str} {c : Value} {i : Nat} {body suite : List Stmt} {b₀ : Stmt} {np pos pos' : Pos} {tb : WX → TS} {ts : Addr → Value → Option Addr → TS} {Wout : WX}
theorem ps_try_raise (hs : X.stack = X.env :: X.outer) (hf : X.env.frame = some X.env.locals) (hN : X.N.Nodup) (hi : X.N[i]? = some n) (hln : X.env.kindOf n = some .local) (hex : X.ex = []) (hc : Names X x c) (tk : Takes X Wout)
    (hpa : ∀ hd : Option Value, PassesOwnAt (model X.prog X.w) (X.A.mark hd) X.A X.env X.xe)
    (hb : ∀ (W : WX) (pn : List (Addr × Obj)) (xe : Value → Shared → Prop), L2N.Takes (X.tr pn xe) W → PassesOwn (model X.prog X.w) X.A X.env xe → PSs (X.tr pn xe) body (tb W))
    (hsu : ∀ (a : Addr) (oe : Obj) (cls : Value) (d : Option Addr) (pn : List (Addr × Obj)), L2N.Zn cls d oe → (∃ vs, oe.data = .fields vs) → L2.Takes (asX X n pos' a ((a, oe) :: pn)) (fun cls d σ H => Wout cls d (σ.set i none) H) → L2H.HotC (asX X n pos' a ((a, oe) :: pn)) →
      PSs (asX X n pos' a ((a, oe) :: pn)) (b₀ :: suite) (ts a cls d)) :
    PS X (.Try body [.ExceptHandler (some (.Name x np)) (some n) (b₀ :: suite) pos'] [] [] pos) (fun D σ H => tb (wAsR X.K c i ts Wout D) D σ H) := by
  refine ⟨fun pins s σ H D I h => ?_⟩
  have ok := I.ok
  have frm : X.A.frames = some (X.env :: X.outer) := by rw [ok.frames, hs]
  have lcl : Loc X.env.scope n := .inl hln
  refine wpAny_Try_except ?_
  refine wpAny_mono ((hb (wAsR X.K c i ts Wout D) (X.pn ++ pins) (fun e s₁ => wpAny (model X.prog X.w) X.A (noteFrame e X.env) (fun _ s₂ => wpAny (model X.prog X.w) X.A (setFlight e none) (fun _ s₃ =>
    wpAny (model X.prog X.w) X.A (handleBy e X.env [.ExceptHandler (some (.Name x np)) (some n) (b₀ :: suite) pos']) (SP X pins D) X.xe s₃) X.xe s₂) X.xe s₁) (fun u s' xx => ?_) PassesOwn.looking).run [] s σ H D (I.toTry _) h) (fun f s1 hsp => ?_) (fun e s1 he => he)
  · -- what is caught
    obtain ⟨a, B, sI, pins', σ', H', cls, d, rfl, J', nb, up, sky, na, os, ag, b, hb1, hyes, hno⟩ := xx
    have J : Inv X pins σ' H' sI := J'.ofTry ok
    have sky2 : Sky B (X.env :: X.outer) a (L2N.Zn cls d) X.env.locals s'.heap := by rw [← hs]; exact sky
    show wpAny (model X.prog X.w) X.A (noteFrame (.ref a) X.env) _ _ _
    refine L2N.Sky.land L2N.Zn.steady frm hf sky2 fun g3 fl3 up3 => ?_
    have J3 : Inv X pins σ' H' { s' with heap := g3 } := J.landed nb fl3.1 (up.trans up3) os ag
    obtain ⟨o3, w3, he3, hz3, hd3⟩ := fl3.there
    have nfr : a ∉ frs (X.env :: X.outer) := fun hm => by
      obtain ⟨_, o', e', hnf⟩ := fl3.2.2.1.mem hm
      rw [he3] at e'; cases e'
      exact hnf _ hd3
    have nL : a ≠ X.env.locals := fun z => nfr (List.mem_filterMap.mpr ⟨X.env, List.mem_cons_self, by rw [hf, z]⟩)
    have nF : a ∉ X.fs := fun hm => by
      obtain ⟨e, he, q⟩ := List.mem_filterMap.mp hm
      exact nfr (List.mem_filterMap.mpr ⟨e, List.mem_cons_of_mem _ he, q⟩)
    have nB : B.get? a = none := fl3.2.1
    have nI : sI.heap.get? a = none := by
      cases q : sI.heap.get? a with
      | none => rfl
      | some o =>
        have := nb a o q (by rw [hs]; exact nfr)
        rw [nB] at this
        cases this
    have n0 : X.s_0.heap.get? a = none := by
      cases q : X.s_0.heap.get? a with
      | none => rfl
      | some o =>
        obtain ⟨o', q'⟩ := J.base.there a o q (by rw [hex]; exact fun z => nomatch z)
        rw [nI] at q'
        cases q'
    have nC : ∀ x c, X.env.cells.lookup x = some c → c ≠ a := fun x c e z => by
      obtain ⟨v, o, q, _⟩ := J.cell x c e
      rw [z, nI] at q
      cases q
    have nP : ∀ p ∈ X.pn ++ pins, p.1 ≠ a := fun p hp z => by
      have q := (J.pin p hp).1
      rw [z, nI] at q
      cases q
    have S3 := J3.suite he3 hd3 na nL nF
    refine wpAny_handleBy_cons (codeAny_handlers_test ?_) (by intro q; cases q)
    have LT : PySem.W.Looks (model X.prog X.w) g3 (typeOf (.ref a)) cls := fun A Q E s k q => wpAny_typeOf_ref (k _ _ he3) (by rw [hz3.1]; exact q)
    have LM := PySem.W.exm_one (M := model X.prog X.w) (J3.kIn) LT hb1
    have tst : ∀ {Q : Value → Shared → Prop} {E : Value → Shared → Prop}, Q c { s' with heap := g3 } → wpAny (model X.prog X.w) (X.A.mark (some (.ref a))) (eval (.Name x np) X.env) Q E { s' with heap := g3 } := fun {Q E} q => by
      obtain ⟨hg, hdbg, hm | ⟨hm, hv, hnn⟩⟩ := hc
      · exact ld_glob (X := X.suite a ((a, o3) :: (X.pn ++ pins))) S3 hg hm q hdbg
      · exact ld_blt (X := X.suite a ((a, o3) :: (X.pn ++ pins))) S3 hg hm hv q hnn hdbg
    refine tst (LM.here ?_)
    cases b with
    | true =>
      refine codeAny_handlers_suite_as ?_
      refine HandSPX.lands_againZ fl3 fun g4 fl4 up4 => ?_
      have J4 : Inv X pins σ' H' { s' with heap := g4 } := J.landed nb fl4.1 ((up.trans up3).trans up4) os ag
      obtain ⟨o4, w4, he4, hz4, hd4⟩ := fl4.there
      have S4 := J4.suite he4 hd4 na nL nF
      have hot : L2H.HotC (asX X n pos' a ((a, o4) :: (X.pn ++ pins))) := ⟨(a, o4), ⟨rfl, w4, hd4, hz4.2.2 w4 hd4⟩, List.mem_cons_self⟩
      refine store_ok (X := X.suite a ((a, o4) :: (X.pn ++ pins))) (v := .ref a) S4 hN hi lcl rfl (fun s5 S5 => ?_) (.inr hln)
      refine wpAny_mono ((hsu a o4 cls d (X.pn ++ pins) hz4 ⟨_, hd4⟩ (asX_takes hs hf hN hi hln hex ok hpa tk) hot).run [] s5 _ _ _ (asX_of S5) (hyes rfl a na)) (fun f s6 hsp => ?_) (fun _ _ z => z)
      have fin : ∀ {σ6 : L2.St} {H6 : Hp} {Q : Shared → Prop}, Inv (asX X n pos' a ((a, o4) :: (X.pn ++ pins))) [] σ6 H6 s6 → (∀ s7, Inv X pins (σ6.set i none) H6 s7 → Q s7) →
          wpAny (model X.prog X.w) X.A (do bindName X.env n .none; unbindBehindTheSuite X.env n pos') (fun _ s7 => Q s7) X.xe s6 := fun {σ6 H6 Q} S6 hq => gone_ok (Inv.unsuite (X := X) (a := a) (q := (a, o4)) (pn' := []) (show Inv (X.suite a ((a, o4) :: (X.pn ++ pins))) [] σ6 H6 s6 from S6.wish fun _ _ => False) ok) hN hi hln hq
      cases f with
      | next =>
        obtain ⟨σ6, H6, S6, q6⟩ := hsp
        exact fin S6 fun s7 J7 => ⟨_, _, J7, q6⟩
      | brk =>
        obtain ⟨σ6, H6, S6, q6⟩ := hsp
        exact fin S6 fun s7 J7 => ⟨_, _, J7, q6⟩
      | cont =>
        obtain ⟨σ6, H6, S6, q6⟩ := hsp
        exact fin S6 fun s7 J7 => ⟨_, _, J7, q6⟩
      | ret u =>
        obtain ⟨v6, σ6, H6, S6, r6, q6⟩ := hsp
        exact fin S6 fun s7 J7 => ⟨_, _, _, J7, r6, q6⟩
    | false =>
      show wpAny _ X.A (handleBy (.ref a) X.env []) _ _ _
      refine wpAny_handleBy_nil ?_
      have fl3 := L2H.flyingZ_imp (fun o (z : L2N.Zn cls d o) => z.zc) fl3
      obtain ⟨k1, k2, k3, oe, vs, T, oT, ts', he, hz, hd, h1, hr⟩ := id fl3
      unfold PySem.passOn
      refine wpAny_bind (wpAny_field he hd h1 ?_)
      rw [if_neg (show ¬ ((Value.ref T == Value.none) = true) from by simp)]
      have out : wpAny (model X.prog X.w) X.A (setFlight (.ref a) X.env.frame) (fun _ s4 => wpAny (model X.prog X.w) X.A (throw (.ref a) : Sem Flow) (SP X pins D) X.xe s4) X.xe { s' with heap := g3 } := by
        rw [hf]
        refine HandSPX.setFlight_upZ fl3 fun g4 hh4 up4 => wpAny_throw (tk _ _ ?_)
        exact ⟨a, B, sI, pins, σ', H', cls, d, rfl, J, nb, (up.trans up3).trans up4, .inr (.inr (by rw [hs]; exact hh4)), na, os, ag, hno rfl⟩
      first
        | exact wpAny_bind (wpAny_pure (wpAny_bind out))
        | exact wpAny_bind out
  cases f with
  | next =>
    obtain ⟨σ', H', J', q⟩ := hsp
    exact wpAny_execs_nil ⟨σ', H', J'.ofTry ok, q⟩
  | brk =>
    obtain ⟨σ', H', J', q⟩ := hsp
    exact ⟨σ', H', J'.ofTry ok, q⟩
  | cont =>
    obtain ⟨σ', H', J', q⟩ := hsp
    exact ⟨σ', H', J'.ofTry ok, q⟩
  | ret u =>
    obtain ⟨v, σ', H', J', r, q⟩ := hsp
    exact ⟨v, σ', H', J'.ofTry ok, r, q⟩
end
end HX
set_option Elab.async false
set_option linter.all false
set_option maxRecDepth 100000
set_option maxHeartbeats 4000000
/-! The data layer: defs whose exceptions have no context; except X as e: raise C(e.f, x) from None. -/
namespace HX
open PySem PySem.Spec PyProof.Rows L2
theorem pe_pf {X : Cx} {a C dd : Addr} {oe : Obj} {e : Expr} {te : TE} {pos : Pos} {f : Str} (T : XfC X.K C) (no : PySem.W.findIn X.K (.ref C) f = some none) (z : Zc (.ref C) (some dd) oe) (rec_ : ∃ vs, oe.data = .fields vs) (hp : (a, oe) ∈ X.pn) (he : PE X e te)
    (hb : attributeBase e f X.env (eval e X.env) = eval e X.env := by rfl) : PE X (.Attribute e f pos) (fun σ H Q => te σ H fun x H1 => x = .ref a ∧ ∃ (fs : List (Str × V)) (v : V), H1 dd = some (.xd fs) ∧ fs.lookup f = some v ∧ Q v H1) := by
  refine ⟨fun pins s σ H Q I h => attr_of hb (thn (he.run pins s σ H _ I h) fun u s1 ⟨x, H1, I1, rx, ex, fs, v, ea, el, q⟩ => ?_)⟩
  subst ex
  obtain rfl : u = Value.ref a := rx
  obtain ⟨vs, hd⟩ := rec_
  have at_ := (I1.pin (a, oe) (List.mem_append_left _ hp)).1
  obtain ⟨mA, ns, rel⟩ := (I1.hok dd _ ea : ObjOk X.prog X.w H1 s1.heap dd (.xd fs))
  obtain ⟨od, o1, o2⟩ := lookIn_ns ns
  obtain ⟨u2, e2, r2⟩ := RelO.some_of (v := v) (o := mA f) (by rw [← el]; exact rel f)
  have J : PySem.W.InstAt s1.heap a oe C (some od) := ⟨at_, z.1, by unfold PySem.W.notCls; rw [hd] <;> rfl, by rw [z.2]; exact o1⟩
  exact HandSPX.exc_get I1.kIn J T.ga T.gg T.exC (PySem.W.findObj_own T.hdC no rfl (by rw [o2, e2])) (handed_of r2) ⟨v, H1, I1.tok _, r2, q⟩
section
variable {P : Program} {w : World} {K : PySem.W.Frag} {mg : Str → Option Value} {base : Heap} {N ps : List Str} {f : Addr} {x qual : Str} {params : Arguments} {body : List Stmt} {scope : Scope} {fd : FuncData} {k : Nat} {sp : Sp} {Y : CXT}
/-- a def as it may be called where an exception is handled -/
theorem funD_okH (Fd : FunD K x qual params body scope [] [] f fd) (S : FnScope N ps scope) (len : ∀ vs H Q E, sp vs H Q E → vs.length = ps.length)
    (hbody : ∀ (cdv : Value) (A : Around) (outer : List Env) (s : Shared) (H : Hp) (vs : List V) (Q : VK) (E : XK) (p : Addr × Obj), sp vs H Q E →
      ∃ t, PSs (L2H.cxH Y P w K mg base N qual scope f cdv A outer s H E p) body t ∧ t { nx := fun _ H' => Q .non H', rt := Q } (L2.start N vs) H) : L2H.FnH P w K mg base Y (k + 1) f fd ps sp := by
  obtain ⟨oc, od, dV, kV, doc, pm, an, cdv, ct, osl, rfl, lk, hcd, _, _⟩ := Fd.ex
  exact L2H.fn_ofH lk hcd S len fun A outer s H vs Q E p _ _ h => hbody cdv A outer s H vs Q E p h
/-- who lets out exceptions without a context, lets out exceptions -/
theorem fnOk_ofN {ps : List Str} (G : FnOk P w K mg base (L2N.CX P w) k f fd ps sp) : FnOk P w K mg base (L2.CX P w) k f fd ps sp := by
  refine ⟨G.len, fun A outer s H args us vs Q E hr e0 hb r h => codeAny_mono (G.run A outer s H args us vs Q E hr e0 hb r h) fun res s' c => ?_⟩
  cases res with
  | ok fl => cases fl <;> exact c
  | error e =>
    obtain ⟨a, B, H', cls, d, q1, fl, q2⟩ := c
    exact ⟨a, B, H', cls, d, q1, L2H.flyingZ_imp (fun o (z : L2N.Zn cls d o) => z.zc) fl, q2⟩
end
end HX
set_option Elab.async false
set_option linter.all false
set_option maxRecDepth 100000
set_option maxHeartbeats 4000000
/-! Defs that may be called whatever exception is handled: nothing of them needs a calm state. -/
namespace HX
open PySem PySem.Spec PyProof.Rows L2
section
variable {Y : CXT} {P : Program} {w : World} {K : PySem.W.Frag} {mg : Str → Option Value} {base : Heap} {N ps : List Str} {f : Addr} {x qual : Str} {params : Arguments} {body : List Stmt} {scope : Scope} {fd : FuncData} {k : Nat} {sp : Sp}
/-- the context of such a def's body -/
def cxU (Y : CXT) (P : Program) (w : World) (K : PySem.W.Frag) (mg : Str → Option Value) (base : Heap) (N : List Str) (qual : Str) (scope : Scope) (f : Addr) (cdv : Value) (A : Around) (outer : List Env) (s : Shared) (H : Hp) (E : XK) : Cx :=
  { cxOf Y P w K mg base N qual scope f cdv A outer s H E with calm := false }
structure FnU (P : Program) (w : World) (K : PySem.W.Frag) (mg : Str → Option Value) (base : Heap) (Y : CXT) (k : Nat) (f : Addr) (fd : FuncData) (ps : List Str) (sp : Sp) : Prop where
  len : ∀ vs H Q E, sp vs H Q E → vs.length = ps.length
  run : ∀ (B : Around) (outer : List Env) (s : Shared) (H : Hp) (args : Args) (us : List Value) (vs : List V) (Q : VK) (E : XK), L2H.RoomH k B → Env0 P w K mg base B outer s H → BindsTo s fd args (ps.zip us) → Vals vs us → sp vs H Q E →
    codeAny (model P w) B (.call (.ref f) args) (CR Y outer P w H s Q E) s
theorem FnU.mono {j : Nat} (G : FnU P w K mg base Y j f fd ps sp) (l : j ≤ k) : FnU P w K mg base Y k f fd ps sp := ⟨G.len, fun B outer s H args us vs Q E hr => G.run B outer s H args us vs Q E (hr.mono l)⟩
theorem FnU.ok (G : FnU P w K mg base Y k f fd ps sp) : FnOk P w K mg base Y k f fd ps sp := ⟨G.len, fun B outer s H args us vs Q E hr => G.run B outer s H args us vs Q E ⟨hr.dp, hr.un⟩⟩
theorem inv_startU {cdv : Value} {B : Around} {outer : List Env} {s s1 : Shared} {H : Hp} {E : XK} {us : List Value} {vs : List V} (S : FnScope N ps scope) (e0 : Env0 P w K mg base B outer s H) (hl : vs.length = ps.length) (r : Vals vs us)
    (z : InCallC s s.heap.objs.size (bindL (envOfC qual scope s.heap.objs.size f cdv).kindOf (ps.zip us) fun _ => none) (cellsFrom (s.heap.objs.size + 1) scope.names []) (bindC (envOfC qual scope s.heap.objs.size f cdv).kindOf (ps.zip us) fun _ => none) s1) :
    Inv (cxU Y P w K mg base N qual scope f cdv B outer s H E) [] (L2.start N vs) H s1 := by
  have e1 : Env0 P w K mg base { B with handled := none } outer s H := ⟨e0.frames, e0.mod, e0.bs, e0.bsz, e0.funs, e0.frf, e0.hok, e0.bare⟩
  obtain ⟨o, i2, i3, i4, i5, i6, i7, i8, i9, i10, i11⟩ := inv_start (CX := Y) (qual := qual) (f := f) (cd := cdv) (E := E) S rfl e1 hl r z
  refine ⟨⟨o.mod, o.kind, o.glob, o.blt, o.above, o.inj, o.has, o.cab, (fun q => Bool.noConfusion (show false = true from q)), Around.frames_deeper e0.frames, o.stk, o.exf, o.bs, o.bsz, o.noex, o.exfs, o.funs, o.frf⟩, i2, i3, i4, i5, i6, i7, i8, i9, i10, i11⟩
theorem funD_okU (Fd : FunD K x qual params body scope [] [] f fd) (S : FnScope N ps scope) (len : ∀ vs H Q E, sp vs H Q E → vs.length = ps.length)
    (hbody : ∀ (cdv : Value) (B : Around) (outer : List Env) (s : Shared) (H : Hp) (vs : List V) (Q : VK) (E : XK), L2H.RoomH k (B.deeper (envOfC qual scope s.heap.objs.size f cdv)) → sp vs H Q E →
      ∃ t, PSs (cxU Y P w K mg base N qual scope f cdv B outer s H E) body t ∧ t { nx := fun _ H' => Q .non H', rt := Q } (L2.start N vs) H) : FnU P w K mg base Y (k + 1) f fd ps sp := by
  obtain ⟨oc, od, dV, kV, doc, pm, an, cdv, ct, osl, rfl, lk, hcd, _, _⟩ := Fd.ex
  refine ⟨len, fun B outer s H args us vs Q E rm e0 hb r hsp => ?_⟩
  have ln := len _ _ _ _ hsp
  have kin : K.In s.heap := e0.mod.kin.keeps fun b o q => (e0.bs b o q).1
  have nol : s.heap.NoLimit := e0.mod.nolimit.keeps fun b o q => (e0.bs b o q).1
  have kinds : ∀ y ∈ ps.zip us, scope.names.lookup y.1 = some .local ∨ (scope.names.lookup y.1 = some .cell ∧ ((cellsFrom (s.heap.objs.size + 1) scope.names []).lookup y.1).isSome = true) := by
    rintro ⟨n, v⟩ hy
    rcases S.par n (List.of_mem_zip hy).1 with q | q
    · exact Or.inl q
    · exact Or.inr ⟨q, PySem.W.cellsFrom_some _ _ _ (.inl q)⟩
  refine codeAny_call_function rm.depth (kin _ _ lk) rfl S.co S.gen rfl (PySem.W.codeRec_of kin hcd) (hb _ _ _ _ ?_)
  refine wpAny_newFunctionEnv_cells S.kind kinds fun env ev s1 z => ?_
  subst ev
  refine ⟨nol.keeps z.toInCall.keep, codeAny_func ?_⟩
  obtain ⟨t, ht, q⟩ := hbody cdv B outer s H vs Q E (rm.deeper _) hsp
  have I := inv_startU (Y := Y) (E := E) S e0 ln r z
  refine wpAny_mono (ht.run [] s1 _ H _ I q) (fun fl s' back => ?_) fun e s' back => back
  cases fl with
  | ret u =>
    obtain ⟨v, σ', H', J, rv, q⟩ := back
    exact ⟨v, H', J.os, J.bare, J.base, J.hok, rv, q⟩
  | next =>
    obtain ⟨σ', H', J, q⟩ := back
    exact ⟨V.non, H', J.os, J.bare, J.base, J.hok, rfl, q⟩
  | brk => exact back.elim fun _ z => z.elim fun _ z => z.2.elim
  | cont => exact back.elim fun _ z => z.elim fun _ z => z.2.elim
end
section
variable {X : Cx} {Y : CXT} {k : Nat} {f : Addr} {fd : FuncData} {ps : List Str} {sp : Sp} {E : L2.St → XK} {x : Str} {q pos : Pos} {e : Expr} {es : List Expr} {t : TA}
theorem pe_callU (G : FnU X.prog X.w X.K X.mg X.base Y k f fd ps sp) (hr : L2H.RoomH k X.A) (hg : Gl X x) (hm : X.mg x = some (.ref f)) (hk : PySem.W.keepIn X.K (.ref f) = true) (hb : Binds X.K fd ps []) (hx : ∀ σ, PassesAt Y X σ (E σ))
    (ha : PA X (e :: es) t) (hdb : (x == ("__debug__" : Str)) = false := by kernel_rfl) (he : starEach (e :: es) X.env = (false, eval e X.env) :: starEach es X.env := by rfl) (hpl : (backTo pos (starEach es X.env)).any (·.1) = false := by rfl) :
    PE X (.Call (.Name x q) (e :: es) [] pos) (tCallS sp E t) := by
  refine ⟨fun pins s σ H Q I todo => ?_⟩
  refine wpAny_Call_Name_kw (ld_glob I hg hm ?_ hdb)
  refine PySem.W.callWith_K (h₀ := X.base) I.ok.mod.kin hk (thn (ha.run pos pins s σ H _ I todo) fun us s1 ⟨vs, H1, I1, r, h⟩ => ⟨I1.kIn, ?_⟩) he hpl
  have ln : us.length = ps.length := by rw [← r.length]; exact G.len _ _ _ _ h
  have b := hb s1 us I1.kIn (by rw [List.append_nil]; exact ln)
  rw [List.append_nil] at b
  refine wpAny_call (codeAny_mono (G.run X.A X.stack s1 H1 ⟨us, []⟩ us vs Q (E σ) hr I1.env0 b r h) fun res s' back => ?_)
  cases res with
  | error er => exact hx σ pins H1 s1 er s' I1 back
  | ok fl =>
    cases fl with
    | ret u => exact I1.after back
    | next => exact back.elim
    | brk => exact back.elim
    | cont => exact back.elim
end
end HX
set_option Elab.async false
set_option linter.all false
set_option maxRecDepth 100000
set_option maxHeartbeats 4000000
/-! The data layer: defs that may be called within an except suite; count and index of a list of truths. -/
namespace DL
open PySem PySem.Spec L2
/-- the module's def x of n parameters gives m, whatever is handled -/
def KnU (P : Program) (w : World) (K : PySem.W.Frag) (mg : Str → Option Value) (base : Heap) (k : Nat) (x : Str) (n : Nat) (m : List D → R D) : Prop :=
  ∃ (f : Addr) (fd : FuncData) (ps : List Str), mg x = some (.ref f) ∧ PySem.W.keepIn K (.ref f) = true ∧ Binds K fd ps [] ∧ HX.FnU P w K mg base (L2.CX P w) k f fd ps (spD K mg n m)
theorem KnU.kn {P : Program} {w : World} {K : PySem.W.Frag} {mg : Str → Option Value} {base : Heap} {k n : Nat} {x : Str} {m : List D → R D} (h : KnU P w K mg base k x n m) : Kn P w K mg base k x n m := by
  obtain ⟨f, fd, ps, hm, hk, hb, G⟩ := h
  exact ⟨f, fd, ps, hm, hk, hb, G.ok⟩
section
variable {P : Program} {w : World} {K : PySem.W.Frag} {mg : Str → Option Value} {base : Heap} {x qual : Str} {params : Arguments} {body : List Stmt} {scope : Scope} {f : Addr} {fd : FuncData} {N ps : List Str} {k : Nat} {g : DL.Env → Out}
theorem unitsH {A : Around} (r : L2H.RoomH k A) : A.units + 64 < cLine := by have := r.un; omega
theorem fn_okU (Fd : FunD K x qual params body scope [] [] f fd) (S : FnScope N ps scope) (hl : ps.length ≤ N.length)
    (hb : ∀ (cdv : Value) (A : Around) (outer : List PySem.Env) (s : Shared) (H : Hp) (E : XK), L2H.RoomH k (HX.cxU (L2.CX P w) P w K mg base N qual scope f cdv A outer s H E).A → DSs (HX.cxU (L2.CX P w) P w K mg base N qual scope f cdv A outer s H E) (WOf E) body g) :
    HX.FnU P w K mg base (L2.CX P w) (k + 1) f fd ps (spD K mg ps.length (mk N.length g)) := by
  refine HX.funD_okU Fd S (fun vs H Q E h => spD_len h) fun cdv A outer s H vs Q E hr h => ?_
  obtain ⟨F, ds, l, z, r, p⟩ := h
  refine ⟨_, hb cdv A outer s H E hr, ⟨F, .non⟩, H, F, stE N.length ds, start_rel z r (by rw [l]; exact hl), ?_⟩
  revert p
  unfold mk
  cases g (stE N.length ds) with
  | nx Γ => exact fun p σ F1 H1 r1 => p _ F1 H1 r1.ext Rp.non
  | rt d => exact fun p v F1 H1 x1 r1 => p v F1 H1 x1 r1
  | ro ds =>
    intro p v F1 H1 x1 r1
    obtain ⟨F2, x2, r2, _⟩ := frzO x1 r1
    exact p v F2 H1 x2 r2
  | exc x Γ => exact fun p cls od σ F1 H1 r1 q => p cls od F1 H1 r1.ext q
  | bk Γ => exact fun p => p.elim
  | ct Γ => exact fun p => p.elim
  | stuck => exact fun p => p.elim
end
section
variable {X : Cx} {W : WX} {j k n : Nat} {x : Str} {e : Expr} {es : List Expr} {p pos : Pos} {fs : DL.Env → R (List D)}
theorem de_knU {m : List D → R D} (h : KnU X.prog X.w X.K X.mg X.base j x n m) (hr : L2H.RoomH k X.A) (ha : DA X W (e :: es) fs) (hx : OkW X W) (hg : Gl X x := by unfold L2.Gl; kernel_rfl) (hj : j ≤ k := by decide) (hdb : (x == ("__debug__" : Str)) = false := by kernel_rfl)
    (he : starEach (e :: es) X.env = (false, eval e X.env) :: starEach es X.env := by rfl) (hpl : (backTo pos (starEach es X.env)).any (·.1) = false := by rfl) :
    DE X W (.Call (.Name x p) (e :: es) [] pos) (eFn n m fs) := by
  obtain ⟨f, fd, ps, hm, hk, hb, G⟩ := h
  refine PE.weak (HX.pe_callU G (hr.mono hj) hg hm hk hb hx ha hdb he hpl) ?_
  rintro σ H Q ⟨F0, H0, F, Γ, r, p⟩
  refine ⟨F0, H0, F, Γ, r, PostG.bind p (fun ds vs F1 H1 _ x1 r1 p1 => ?_) fun _ _ _ _ _ h => h⟩
  obtain ⟨hl, p2⟩ := ifR p1
  exact ⟨F1, ds, hl, x1.fh, r1, p2⟩
theorem suiteH {a : Addr} {pn : List (Addr × Obj)} (hr : Room k X.A) : L2H.RoomH k (X.suite a pn).A := L2H.roomH_mark hr _
end
/-! ### truths -/
def asBls : List D → Option (List Bool)
  | [] => some []
  | .bl b :: ds => (asBls ds).map (b :: ·)
  | _ => none
def dCntB : D → D → R D
  | .lst ds, .bl b => match asBls ds with
    | some bs => .ok (.int (bs.count b : Nat))
    | none => .stuck
  | _, _ => .stuck
def dIdxB : D → D → R D
  | .lst ds, .bl b => match asBls ds with
    | some bs => if b ∈ bs then .ok (.int (bs.idxOf b : Nat)) else .stuck
    | none => .stuck
  | _, _ => .stuck
section
variable {K : PySem.W.Frag} {mg : Str → Option Value} {F : Hp}
theorem asBls_vs : ∀ {ds : List D} {bs : List Bool} {vs : List V}, asBls ds = some bs → RpL K mg F ds vs → vs = bs.map V.bl
  | [], bs, vs, e, r => by cases e; rw [r.nil_iff]; rfl
  | .bl b :: ds, bs, vs, e, r => by
    obtain ⟨v, us, e1, r1, r2⟩ := r.cons_iff
    unfold asBls at e
    cases e2 : asBls ds with
    | none => rw [e2] at e; cases e
    | some bs' =>
      rw [e2] at e
      cases e
      rw [e1, r1.bl_iff, asBls_vs e2 r2]
      rfl
  | .non :: _, _, _, e, _ => by cases e
  | .int _ :: _, _, _, e, _ => by cases e
  | .str _ :: _, _, _, e, _ => by cases e
  | .lst _ :: _, _, _, e, _ => by cases e
  | .tup _ :: _, _, _, e, _ => by cases e
  | .scr _ :: _, _, _, e, _ => by cases e
  | .dk _ _ :: _, _, _, e, _ => by cases e
  | .obj _ _ _ :: _, _, _, e, _ => by cases e
  | .exc _ _ _ :: _, _, _, e, _ => by cases e
  | .cls _ :: _, _, _, e, _ => by cases e
  | .ty _ :: _, _, _, e, _ => by cases e
theorem eqvBl (c b : Bool) : PyData.eqv (.bool c) (.bool b) = (c == b) := by cases c <;> cases b <;> rfl
end
def rCntB (K : PySem.W.Frag) : V → List V → Hp → VK → Prop := fun x xs H Q => ∃ (a : Addr) (bs : List Bool) (b : Bool), x = V.ref a ∧ xs = [.bl b] ∧ SqL K H a (bs.map V.bl) ∧ Q (.int (bs.count b : Nat)) H
theorem dp_bls {K : PySem.W.Frag} {H : Hp} : ∀ bs : List Bool, DpAll K H (bs.map V.bl) (bs.map PyData.bool)
  | [] => .nil
  | b :: bs => .cons (.bl b) (dp_bls bs)
theorem bls_plain : ∀ bs : List Bool, PyData.plainAll (bs.map PyData.bool) = true
  | [] => by simp [PyData.plainAll]
  | b :: bs => by simp [PyData.plainAll, PyData.plain, bls_plain bs]
section
variable {X : Cx}
theorem mt_cntB (hu : X.A.units + 64 < cLine) : MtR X "list.count" (rCntB X.K) := by
  intro pins s σ H x xs v us Q I rx rxs h
  obtain ⟨a, bs, b, rfl, rfl, hs, q⟩ := h
  cases rx
  cases rxs with
  | cons ry rt =>
    cases rt
    cases ry
    obtain ⟨its, rv, hl, _⟩ := I.list hs
    obtain ⟨as, h4⟩ := Dp.readsAll I (bs.map PyData.bool) _ its (dp_bls bs) rv
    obtain ⟨as2, h5⟩ := Dp.reads I (.bool b) (.bl b) (.bool b) (.bl b) rfl
    refine SeqAt.count_list_data hl.isList (by simpa using h4) h5 (bls_plain bs) rfl (by show _ + 1 + min _ 0 < _; omega) ?_
    have e : (bs.map PyData.bool).countP (fun y => PyData.eqv y (.bool b)) = bs.count b := by
      rw [List.countP_map]
      exact List.countP_congr fun c _ => by simp [eqvBl]
    rw [e]
    exact ⟨.int (bs.count b : Nat), H, I.tok _, ⟨_, rfl⟩, q⟩
variable {W : WX} {o e : Expr} {fo fe : DL.Env → R D} {apos cpos : Pos}
theorem lstBls {F H : Hp} {ds : List D} {bs : List Bool} {v : V} (z : Fz F H) (r : Rp X.K X.mg F (.lst ds) v) (e : asBls ds = some bs) : ∃ a, v = V.ref a ∧ SqL X.K H a (bs.map V.bl) := by
  obtain ⟨a, vs, ev, ea, rr⟩ := Rp.lstH z r
  rw [asBls_vs e rr] at ea
  exact ⟨a, ev, SqL.of ea⟩
theorem sat_cntB {F H : Hp} {x y : D} {v u : V} {E : XK} {Q : VK} (z : Fz F H) (rx : Rp X.K X.mg F x v) (ry : Rp X.K X.mg F y u) (p : PostG X.K X.mg (repV X.K X.mg) F H E Q (dCntB x y)) : rCntB X.K v [u] H Q := by
  unfold dCntB at p
  split at p
  case h_2 => exact p.elim
  rename_i ds b
  cases e : asBls ds with
  | none => rw [e] at p; exact p.elim
  | some bs =>
    rw [e] at p
    obtain ⟨a, ev, sq⟩ := lstBls z rx e
    exact ⟨a, bs, b, ev, by rw [ry.bl_iff], sq, PostG.ok p z Rp.int⟩
theorem flatBls : ∀ bs : List Bool, (bs.map V.bl).all flatV = true
  | [] => rfl
  | b :: bs => by simp only [List.map_cons, List.all_cons, flatBls bs]; rfl
theorem eqVBl (c b : Bool) : eqV (.bl c) (.bl b) = (c == b) := by cases c <;> cases b <;> rfl
theorem sat_idxB {F H : Hp} {x y : D} {v u : V} {E : XK} {Q : VK} (z : Fz F H) (rx : Rp X.K X.mg F x v) (ry : Rp X.K X.mg F y u) (p : PostG X.K X.mg (repV X.K X.mg) F H E Q (dIdxB x y)) : rIndex X.K v [u] H Q := by
  unfold dIdxB at p
  split at p
  case h_2 => exact p.elim
  rename_i ds b
  cases e : asBls ds with
  | none => rw [e] at p; exact p.elim
  | some bs =>
    rw [e] at p
    obtain ⟨hm, p⟩ := ifR p
    obtain ⟨a, ev, sq⟩ := lstBls z rx e
    have hlt : bs.idxOf b < bs.length := List.idxOf_lt_length_of_mem hm
    refine ⟨a, bs.map V.bl, .bl b, bs.idxOf b, .bl b, ev, by rw [ry.bl_iff], sq, rfl, flatBls bs, ?_, by rw [eqVBl]; exact beq_self_eq_true b, fun m z' hmj hz => ?_, PostG.ok p z Rp.int⟩
    · rw [List.getElem?_map, List.getElem?_eq_getElem hlt]
      show some (V.bl bs[bs.idxOf b]) = _
      rw [List.getElem_idxOf hlt]
    · rw [List.getElem?_map] at hz
      have hml : m < bs.length := Nat.lt_trans hmj hlt
      rw [List.getElem?_eq_getElem hml] at hz
      cases hz
      rw [eqVBl]
      have ne : bs[m] ≠ b := fun q => by
        have := List.not_of_lt_findIdx (xs := bs) (p := (· == b)) (i := m) hmj
        simp [q] at this
      simpa using ne
/-- xs.m(y), xs a list, its items asked for ahead of y -/
def eMB (g : D → D → R D) (fa fb : DL.Env → R D) : DL.Env → R D := fun Γ => (fa Γ).bind fun x => match x with
  | .lst ds => (fb Γ).bind fun y => g (.lst ds) y
  | _ => .stuck
theorem mb_run {r : V → List V → Hp → VK → Prop} {g : D → D → R D} (hsat : ∀ (F H : Hp) (x y : D) (v u : V) (E : XK) (Q : VK), Fz F H → Rp X.K X.mg F x v → Rp X.K X.mg F y u → PostG X.K X.mg (repV X.K X.mg) F H E Q (g x y) → r v [u] H Q) {σ : L2.St} {H : Hp} {Q : VK}
    (h : tD X W (eMB g fo fe) σ H Q) : tBM X.K "list" r (tD X W fo) (L2.tCons (tD X W fe) L2.tNil) σ H Q := by
  obtain ⟨F0, H0, F, Γ, r0, p⟩ := h
  refine ⟨F0, H0, F, Γ, r0, PostG.bind p (fun d v F1 H1 _ x1 r1 p1 => ?_) fun _ _ _ _ _ h => h⟩
  cases d with
  | lst ds =>
    obtain ⟨a, vs, e, ea, rr⟩ := Rp.lstH x1.fh r1
    subst e
    refine ⟨.inl ⟨rfl, _, SqL.of ea⟩, F0, H0, F1, Γ, r0.step x1, PostG.bind p1 (fun y u F2 H2 _ x2 r2 p2 => ?_) fun _ _ _ _ _ h => h⟩
    exact hsat F2 H2 (.lst ds) y _ u _ _ x2.fh (Rp.mono x2.ff _ _ r1) r2 p2
  | _ => exact p1.elim
theorem de_cntB (hu : X.A.units + 64 < cLine) (ho : DE X W o fo) (ha : DE X W e fe) (hs1 : starEach [e] X.env = (false, eval e X.env) :: starEach [] X.env := by rfl) (hline : (apos.endLine == cpos.line) = true := by rfl)
    (hbase : attributeBase o "count" X.env (eval o X.env) = eval o X.env := by rfl)
    (hfew : ((backTo cpos (starEach [e] X.env)).all (fun x => !x.1) && (backToKw cpos (keywordEach [] X.env)).all (fun x => x.1.isSome)
      && decide (([e] : List Expr).length + ([] : List Keyword).length + (if ([] : List Keyword).isEmpty then 0 else 1) < 30)) = true := by rfl) :
    DE X W (.Call (.Attribute o "count" apos) [e] [] cpos) (eMB dCntB fo fe) := by
  refine PE.weak (pe_bm PySem.F.plainAttrs_list PySem.F.slot_list_count PySem.F.type_list_count (mt_cntB hu) ho (pa_cons ha pa_nil hs1) hbase hfew hline hs1) ?_
  exact fun σ H Q h => mb_run (r := rCntB X.K) (g := dCntB) (fun F H x y v u E Q z rx ry p => sat_cntB z rx ry p) h
theorem de_idxB (ho : DE X W o fo) (ha : DE X W e fe) (hs1 : starEach [e] X.env = (false, eval e X.env) :: starEach [] X.env := by rfl) (hline : (apos.endLine == cpos.line) = true := by rfl)
    (hbase : attributeBase o "index" X.env (eval o X.env) = eval o X.env := by rfl)
    (hfew : ((backTo cpos (starEach [e] X.env)).all (fun x => !x.1) && (backToKw cpos (keywordEach [] X.env)).all (fun x => x.1.isSome)
      && decide (([e] : List Expr).length + ([] : List Keyword).length + (if ([] : List Keyword).isEmpty then 0 else 1) < 30)) = true := by rfl) :
    DE X W (.Call (.Attribute o "index" apos) [e] [] cpos) (eMB dIdxB fo fe) := by
  refine PE.weak (pe_bm PySem.F.plainAttrs_list PySem.F.slot_list_index PySem.F.type_list_index mt_index ho (pa_cons ha pa_nil hs1) hbase hfew hline hs1) ?_
  exact fun σ H Q h => mb_run (r := rIndex X.K) (g := dIdxB) (fun F H x y v u E Q z rx ry p => sat_idxB z rx ry p) h
end
/-! ### x in a list or tuple of flat items -/
def D.fl : D → Option V
  | .non => some .non
  | .bl b => some (.bl b)
  | .int i => some (.int i)
  | .str x => some (.str x)
  | _ => none
def flL : List D → Option (List V)
  | [] => some []
  | d :: ds => match d.fl, flL ds with
    | some v, some vs => some (v :: vs)
    | _, _ => none
def inFl (x : D) (ds : List D) : R Bool := match x.fl, flL ds with
  | some v, some vs => .ok (inV v vs)
  | _, _ => .stuck
def dIn : D → D → R D := fun x y => match y with
  | .lst ds => (inFl x ds).bind fun b => .ok (.bl b)
  | .tup ds => (inFl x ds).bind fun b => .ok (.bl b)
  | _ => .stuck
def dNotIn : D → D → R D := fun x y => match y with
  | .lst ds => (inFl x ds).bind fun b => .ok (.bl (!b))
  | .tup ds => (inFl x ds).bind fun b => .ok (.bl (!b))
  | _ => .stuck
section
variable {K : PySem.W.Frag} {mg : Str → Option Value} {F : Hp}
theorem fl_is {d : D} {v w : V} (e : d.fl = some w) (r : Rp K mg F d v) : v = w ∧ flatV w = true := by
  cases d with
  | non => cases e; exact ⟨r.non_iff, rfl⟩
  | bl b => cases e; exact ⟨r.bl_iff, rfl⟩
  | int b => cases e; exact ⟨r.int_iff, rfl⟩
  | str b => cases e; exact ⟨r.str_iff, rfl⟩
  | _ => cases e
theorem flL_is : ∀ {ds : List D} {vs ws : List V}, flL ds = some ws → RpL K mg F ds vs → vs = ws ∧ ws.all flatV = true
  | [], vs, ws, e, r => by cases e; rw [r.nil_iff]; exact ⟨rfl, rfl⟩
  | d :: ds, vs, ws, e, r => by
    obtain ⟨v, us, e1, r1, r2⟩ := r.cons_iff
    unfold flL at e
    cases e2 : d.fl with
    | none => rw [e2] at e; cases e
    | some w =>
      cases e3 : flL ds with
      | none => rw [e2, e3] at e; cases e
      | some ws' =>
        rw [e2, e3] at e
        cases e
        obtain ⟨q1, q2⟩ := fl_is e2 r1
        obtain ⟨q3, q4⟩ := flL_is e3 r2
        rw [e1, q1, q3]
        exact ⟨rfl, by rw [List.all_cons, q2, q4]; rfl⟩
end
section
variable {X : Cx}
theorem inFl_core {F : Hp} {x : D} {ds : List D} {v : V} {vs : List V} {b : Bool} (rx : Rp X.K X.mg F x v) (rs : RpL X.K X.mg F ds vs) (e : inFl x ds = .ok b) : flatV v = true ∧ vs.all flatV = true ∧ inV v vs = b := by
  unfold inFl at e
  cases e2 : x.fl with
  | none => rw [e2] at e; cases e
  | some w =>
    cases e3 : flL ds with
    | none => rw [e2, e3] at e; cases e
    | some ws =>
      rw [e2, e3] at e
      cases e
      obtain ⟨q1, q2⟩ := fl_is e2 rx
      obtain ⟨q3, q4⟩ := flL_is e3 rs
      rw [q1, q3]
      exact ⟨q2, q4, rfl⟩
theorem inFl_exc {x : D} {ds : List D} {y : D} (e : inFl x ds = .exc y) : False := by
  unfold inFl at e
  split at e <;> cases e
theorem sat_in : Sat2 X (rIn X.K false) dIn := by
  intro F H x y v u E Q z rx ry p
  cases y with
  | lst ds =>
    obtain ⟨a, vs, e1, ea, rr⟩ := ry.lstH z
    have p : PostG X.K X.mg (repV X.K X.mg) F H E Q ((inFl x ds).bind fun b => .ok (.bl (b))) := p
    cases e : inFl x ds with
    | ok b =>
      rw [e] at p
      obtain ⟨q1, q2, q3⟩ := inFl_core rx rr e
      exact ⟨a, vs, e1, .inl (SqL.of ea), q1, q2, by rw [q3]; exact PostG.ok p z Rp.bl⟩
    | exc y => exact (inFl_exc e).elim
    | stuck => rw [e] at p; exact p.elim
  | tup ds =>
    obtain ⟨a, vs, e1, ea, rr⟩ := ry.tupH z
    have p : PostG X.K X.mg (repV X.K X.mg) F H E Q ((inFl x ds).bind fun b => .ok (.bl (b))) := p
    cases e : inFl x ds with
    | ok b =>
      rw [e] at p
      obtain ⟨q1, q2, q3⟩ := inFl_core rx rr e
      exact ⟨a, vs, e1, .inr (SqT.of ea), q1, q2, by rw [q3]; exact PostG.ok p z Rp.bl⟩
    | exc y => exact (inFl_exc e).elim
    | stuck => rw [e] at p; exact p.elim
  | _ => exact p.elim
theorem sat_notin : Sat2 X (rIn X.K true) dNotIn := by
  intro F H x y v u E Q z rx ry p
  cases y with
  | lst ds =>
    obtain ⟨a, vs, e1, ea, rr⟩ := ry.lstH z
    have p : PostG X.K X.mg (repV X.K X.mg) F H E Q ((inFl x ds).bind fun b => .ok (.bl (!b))) := p
    cases e : inFl x ds with
    | ok b =>
      rw [e] at p
      obtain ⟨q1, q2, q3⟩ := inFl_core rx rr e
      exact ⟨a, vs, e1, .inl (SqL.of ea), q1, q2, by rw [q3]; exact PostG.ok p z Rp.bl⟩
    | exc y => exact (inFl_exc e).elim
    | stuck => rw [e] at p; exact p.elim
  | tup ds =>
    obtain ⟨a, vs, e1, ea, rr⟩ := ry.tupH z
    have p : PostG X.K X.mg (repV X.K X.mg) F H E Q ((inFl x ds).bind fun b => .ok (.bl (!b))) := p
    cases e : inFl x ds with
    | ok b =>
      rw [e] at p
      obtain ⟨q1, q2, q3⟩ := inFl_core rx rr e
      exact ⟨a, vs, e1, .inr (SqT.of ea), q1, q2, by rw [q3]; exact PostG.ok p z Rp.bl⟩
    | exc y => exact (inFl_exc e).elim
    | stuck => rw [e] at p; exact p.elim
  | _ => exact p.elim
end
end DL
set_option Elab.async false
set_option linter.all false
set_option maxRecDepth 100000
set_option maxHeartbeats 4000000
/-! The data layer: for k, v in xs[i].items(), for k in xs[i], of dicts that nobody changes. -/
namespace DL
open PySem PySem.Spec L2
section
variable {K : PySem.W.Frag} {mg : Str → Option Value} {F0 : Fe} {H0 F H F1 H1 : Hp} {σ σ1 : L2.St} {Γ Γ1 : DL.Env} {d : Addr} {kvs : List (Key × V)} {od : Obj} {u : HO}
/-- what stands at d is a dict, locked or not -/
def DkAt (u : HO) (kvs : List (Key × V)) : Prop := u = .dK kvs ∨ ∃ ob, u = .frz ob (.dK kvs)
theorem Rel.lock (r : Rel K mg F0 H0 F H σ Γ) (fd : F d = some (.dK kvs)) (hu : H d = some u) (hk : DkAt u kvs) : Rel K mg ⟨F, F0.sv⟩ (upd H0 d (.frz od (.dK kvs))) F (upd H d (.frz od (.dK kvs))) σ Γ := by
  have off : ∀ (i : Nat) (s : Slot) (v : V) (l : Addr), Γ[i]? = some (some s) → σ[i]? = some (some v) → foot H s v l → l ≠ d := fun i s v l e1 e2 q z => by
    obtain ⟨w, h1, h2⟩ := r.slot i s e1
    rw [e2] at h1
    cases h1
    obtain ⟨_, _, y, _⟩ := foot_at h2 q
    rw [z, fd] at y
    cases y
  refine ⟨⟨Same.refl _, fun a o e => ?_, fun a o e => ?_, fun a o e => .inl e⟩, r.len, fun i s e => ?_, r.injG fun i s v l ob e1 e2 q e3 => by rw [upd_ne (off i s v l e1 e2 q)]; exact e3, r.slf⟩
  · by_cases q : a = d
    · subst q
      rw [fd] at e
      cases e
      exact .inr ⟨⟨_, rfl⟩, _, upd_same⟩
    · rw [upd_ne q]
      exact r.fz a o e
  · by_cases q : a = d
    · subst q
      rw [upd_same] at e ⊢
      exact e
    · rw [upd_ne q] at e ⊢
      exact r.ext.hh a o e
  · obtain ⟨v, h1, h2⟩ := r.slot i s e
    refine ⟨v, h1, h2.gen (Same.refl _) (fun l q => (foot_at h2 q).choose_spec.2.1) (fun l ob q e3 => ?_) fun l q => ?_⟩
    · rw [upd_ne (off i s v l e h1 q)]
      exact e3
    · rw [upd_ne (off i s v l e h1 q)]
      exact (foot_at h2 q).choose_spec.2.2
theorem Ext.unlock (x : Ext F0 H0 F H) (fd : F d = some (.dK kvs)) (hu : H d = some u) (hk : DkAt u kvs) (y : Ext F (upd H0 d (.frz od (.dK kvs))) F1 H1) : Ext F0 H0 F1 (upd H1 d u) := by
  refine ⟨x.ff.trans y.ff, fun a o e => ?_, fun a o e => ?_, fun a o e => ?_⟩
  · by_cases q : a = d
    · subst q
      rw [y.ff _ _ fd] at e
      cases e
      rw [upd_same]
      rcases hk with rfl | ⟨ob, rfl⟩
      · exact .inl rfl
      · exact .inr ⟨⟨_, rfl⟩, ob, rfl⟩
    · rw [upd_ne q]
      exact y.fh a o e
  · by_cases q : a = d
    · subst q
      rw [x.hh _ _ e] at hu
      cases hu
      exact upd_same
    · rw [upd_ne q]
      exact y.hh a o (by rw [upd_ne q]; exact e)
  · rcases y.new a o e with z | z
    · exact x.new a o z
    · by_cases q : a = d
      · subst q
        rw [upd_same] at z
        cases z
      · rw [upd_ne q] at z
        exact .inr z
theorem Rel.unlock (r : Rel K mg F0 H0 F H σ Γ) (fd : F d = some (.dK kvs)) (hu : H d = some u) (hk : DkAt u kvs) (r1 : Rel K mg ⟨F, F0.sv⟩ (upd H0 d (.frz od (.dK kvs))) F1 H1 σ1 Γ1) : Rel K mg F0 H0 F1 (upd H1 d u) σ1 Γ1 := by
  have h1d : H1 d = some (.frz od (.dK kvs)) := r1.ext.hh _ _ upd_same
  have hf1 : F1 d = some (.dK kvs) := r1.ext.ff _ _ fd
  have off : ∀ (i : Nat) (s : Slot) (v : V) (l : Addr), Γ1[i]? = some (some s) → σ1[i]? = some (some v) → foot H1 s v l → l ≠ d := fun i s v l e1 e2 q z => by
    obtain ⟨w, h1, h2⟩ := r1.slot i s e1
    rw [e2] at h1
    cases h1
    obtain ⟨_, _, y, _⟩ := foot_at h2 q
    rw [z, hf1] at y
    cases y
  refine ⟨r.ext.unlock fd hu hk r1.ext, r1.len, fun i s e => ?_, r1.injG fun i s v l ob e1 e2 q e3 => by rw [upd_ne (off i s v l e1 e2 q)]; exact e3, r1.slf⟩
  obtain ⟨v, h1, h2⟩ := r1.slot i s e
  refine ⟨v, h1, h2.gen (Same.refl _) (fun l q => (foot_at h2 q).choose_spec.2.1) (fun l ob q e3 => ?_) fun l q => ?_⟩
  · rw [upd_ne (off i s v l e h1 q)]
    exact e3
  · have := (foot_at h2 q).choose_spec.2.2
    rw [upd_ne (off i s v l e h1 q)] at this
    exact this
end
def keyD : Key → D
  | .inl i => .int i
  | .inr x => .str x
theorem keyD_rp {K : PySem.W.Frag} {mg : Str → Option Value} {F : Hp} (k : Key) : Rp K mg F (keyD k) (kV k) := by
  cases k with
  | inl i => exact Rp.int
  | inr x => exact Rp.str
def itemsD (ks : List Key) (ds : List D) : List D := (ks.zip ds).map fun q => .tup [keyD q.1, q.2]
/-- the dict at xs[k], xs the list at slot i -/
def atDk (i : Nat) (fx : DL.Env → R D) : DL.Env → Option (List Key × List D) := fun Γ => match Env.at_ Γ i, fx Γ with
  | some (.val (.lst ds)), .ok (.int k) => (match atI ds k with
    | some (.dk ks vs) => some (ks, vs)
    | _ => none)
  | _, _ => none
def Out.calmL : Out → Out
  | .nx Γ => .nx Γ
  | .rt d => .rt d
  | _ => .stuck
section
variable {X : Cx} {W : WX} {ix : Expr} {elts : List Expr} {kk : Nat} {tpos p1 p2 apos cpos pos : Pos} {body : List Stmt} {fx : DL.Env → R D} {h : Tg} {g : DL.Env → Out} {vs : List Nat}
theorem atDk_of {F0 : Fe} {H0 F H : Hp} {σ : L2.St} {Γ : DL.Env} {i : Nat} {ks : List Key} {vs : List D} (r : Rel X.K X.mg F0 H0 F H σ Γ) (e : atDk i fx Γ = some (ks, vs)) :
    ∃ (a d : Addr) (us ws : List V) (k : Int), σ[i]? = some (some (.ref a)) ∧ F a = some (.lst us) ∧ fx Γ = .ok (.int k) ∧ atI us k = some (.ref d) ∧ F d = some (.dK (ks.zip ws)) ∧ ks.length = ws.length ∧ RpL X.K X.mg F vs ws := by
  unfold atDk at e
  split at e
  case h_2 => cases e
  rename_i ds k e1 e2
  cases e3 : atI ds k with
  | none => rw [e3] at e; cases e
  | some y =>
    rw [e3] at e
    cases y with
    | dk ks' vs' =>
      cases e
      obtain ⟨v, hv, rp⟩ := r.slot i _ (at_get e1)
      obtain ⟨a, us, ev, ea, rr⟩ := Rp.lst_iff (show Rp X.K X.mg F (.lst ds) v from rp)
      obtain ⟨w, h1, h2⟩ := atI_rp rr e3
      obtain ⟨d, ws, ew, ed, el, rl⟩ := h2.dk_iff
      subst ev ew
      exact ⟨a, d, us, ws, k, hv, ea, e2, h1, ed, el, rl⟩
    | _ => cases e
theorem or_ps {st : Stmt} {t t' : TS} (h : PS X st t) (h' : PS X st t') : PS X st (fun D σ H => t D σ H ∨ t' D σ H) := ⟨fun pins s σ H D I q => q.elim (fun q => h.run pins s σ H D I q) fun q => h'.run pins s σ H D I q⟩
theorem itemsD_len {F : Hp} {ks : List Key} {ds : List D} {ws : List V} (l : ks.length = ws.length) (r : RpL X.K X.mg F ds ws) : (itemsD ks ds).length = (ks.zip ws).length := by
  unfold itemsD
  rw [List.length_map, List.length_zip, List.length_zip, r.length]
/-- a loop over a walk that stands while a dict is locked -/
theorem for_locked {J : It} {ds : List D} {Dn : Ends} {F : Fe} {H0 F2 H2 : Hp} {σ : L2.St} {Γ : DL.Env} {d : Addr} {L : HO} (r : Rel X.K X.mg F H0 F2 H2 σ Γ) (h0 : H0 d = some L)
    (w : Walk J ds.length (fun H => Fz F2 H ∧ H d = some L) (fun i H x H'' => ∀ Fc, Same F2 Fc → Fz Fc H → ∃ Fi d, Ext Fc H Fi H'' ∧ ds[i]? = some d ∧ Rp X.K X.mg Fi d x))
    (p : PostS X W F H0 Dn (loopF h g ds Γ).calmL) :
    ∃ Wf : Nat → Nat → L2.St → Hp → Prop, (∃ m, Wf 0 m σ H2) ∧ ∀ i m σ H, Wf i m σ H →
      (J.stop i H ∧ Dn.nx σ H) ∨ (J.go i H ∧ ∃ N : L2.St → Hp → Prop, (∀ σ' H', N σ' H' → ∃ m', m' < m ∧ Wf (i + 1) m' σ' H') ∧ ∀ x H', J.yld i H x H' → tDG X vs h x σ H' fun σ2 H2 => tDS X W g { Dn with nx := N, ct := N, bk := Dn.nx } σ2 H2) := by
  have s0 : Same F F2 := r.ext.ff
  have n0 : ∀ a o, F2 a = some o → F a = some o ∨ H0 a = none := r.ext.new
  refine for_it w (fun i σ H => ∃ F1 Γ1, Rel X.K X.mg ⟨F2, F.sv⟩ H0 F1 H σ Γ1 ∧ PostS X W F H0 Dn (loopF h g (ds.drop i) Γ1).calmL) ⟨F2, Γ, r.rebase s0 (Same.refl _), by simpa using p⟩ (fun i σ H _ ⟨F1, Γ1, r1, _⟩ => ⟨r1.ext.fh.sub r1.ext.ff, r1.ext.hh _ _ h0⟩) ?_ ?_
  · rintro i xv σ1 H1 H3 hi ⟨F1, Γ1, r1, p1⟩ y
    obtain ⟨F3, dd, x2, ed, rd⟩ := y F1 r1.ext.ff r1.ext.fh
    have edr : ds.drop i = dd :: ds.drop (i + 1) := by
      obtain ⟨hlt, he⟩ := List.getElem?_eq_some_iff.mp ed
      rw [← he]
      exact List.drop_eq_getElem_cons hlt
    rw [edr] at p1
    unfold loopF at p1
    cases eh : h dd Γ1 with
    | none => rw [eh] at p1; exact p1.elim
    | some Γ2 =>
      rw [eh] at p1
      refine ⟨⟨F2, F.sv⟩, H0, F3, Γ1, dd, r1.step x2, rd, Γ2, eh, fun σ2 _ _ r2 => ?_⟩
      refine ⟨⟨F2, F.sv⟩, H0, F3, Γ2, r2, ?_⟩
      revert p1
      dsimp only
      cases eg : g Γ2 with
      | nx Γ3 => exact fun p1 σ3 F3 H3 r3 => ⟨F3, Γ3, r3, p1⟩
      | ct Γ3 => exact fun p1 σ3 F3 H3 r3 => ⟨F3, Γ3, r3, p1⟩
      | bk Γ3 => exact fun p1 σ3 F3 H3 r3 => p1 σ3 F3 H3 (r3.unbase s0 n0)
      | rt z => exact fun p1 => PostS.unbase (o := .rt z) s0 n0 p1
      | ro z => exact fun p1 => p1.elim
      | exc x Γ => exact fun p1 => p1.elim
      | stuck => exact fun p1 => p1
  · rintro σ1 H1 ⟨F1, Γ1, r1, p1⟩
    have ed : ds.drop ds.length = [] := List.drop_length
    rw [ed] at p1
    exact p1 σ1 F1 H1 (r1.unbase s0 n0)
theorem walk_itemsD {F2 : Hp} {d : Addr} {od : Obj} {ks : List Key} {ds : List D} {ws : List V} (l : ks.length = ws.length) (rl : RpL X.K X.mg F2 ds ws) :
    Walk (Iti d od (ks.zip ws)) (itemsD ks ds).length (fun H => Fz F2 H ∧ H d = some (.frz od (.dK (ks.zip ws)))) (fun i H x H'' => ∀ Fc, Same F2 Fc → Fz Fc H → ∃ Fi dd, Ext Fc H Fi H'' ∧ (itemsD ks ds)[i]? = some dd ∧ Rp X.K X.mg Fi dd x) := by
  rw [itemsD_len l rl]
  refine walk_items.mono (fun H z => z.2) fun i H x H' hi z y Fc s zc => ?_
  obtain ⟨T, a, b, e1, nT, e2, e3, e4⟩ := y
  subst e1 e2
  have hi1 : i < ks.length := by rw [List.length_zip] at hi; omega
  have hi2 : i < ws.length := by omega
  have hz : (ks.zip ws)[i]? = some (ks[i], ws[i]) := by
    rw [List.getElem?_eq_getElem hi, List.getElem_zip]
  have e3 : ((ks.zip ws)[i]?.map fun kv => kV kv.1) = some a := e3
  have e4 : ((ks.zip ws)[i]?.map Prod.snd) = some b := e4
  rw [hz] at e3 e4
  cases e3
  cases e4
  obtain ⟨dd, ed, rd⟩ := rl.getV (List.getElem?_eq_getElem hi2)
  have x2 := Ext.laid (o := .tup [kV ks[i], ws[i]]) zc nT
  refine ⟨_, .tup [keyD ks[i], dd], x2, ?_, Rp.tup upd_same (RpL.cons (keyD_rp _) (RpL.cons (Rp.mono (s.trans x2.ff) _ _ rd) RpL.nil))⟩
  unfold itemsD
  obtain ⟨hd1, hd2⟩ := List.getElem?_eq_some_iff.mp ed
  have hzl : i < (ks.zip ds).length := by rw [List.length_zip]; omega
  rw [List.getElem?_map, List.getElem?_eq_getElem hzl, List.getElem_zip, hd2]
  rfl
/-- e stands for the dict that acc tells -/
structure AccD (X : Cx) (e : Expr) (td : TE) (acc : DL.Env → Option (List Key × List D)) : Prop where
  he : PE X e td
  sp : ∀ {F0 : Fe} {H0 F H : Hp} {σ : L2.St} {Γ : DL.Env} {ks : List Key} {es : List D}, Rel X.K X.mg F0 H0 F H σ Γ → acc Γ = some (ks, es) →
    ∃ (d : Addr) (ws : List V), F d = some (.dK (ks.zip ws)) ∧ ks.length = ws.length ∧ RpL X.K X.mg F es ws ∧
      ∀ (H0' H' : Hp) (Q : VK), Rel X.K X.mg ⟨F, F0.sv⟩ H0' F H' σ Γ → (∀ F2 H2, Ext F H' F2 H2 → Q (.ref d) H2) → td σ H' Q
/-- the dict at slot i -/
def accV (i : Nat) : DL.Env → Option (List Key × List D) := fun Γ => match Env.at_ Γ i with
  | some (.val (.dk ks vs)) => some (ks, vs)
  | _ => none
theorem acc_v (i : Nat) {x : Str} (hN : X.N[i]? = some x := by rfl) (hv : Vis X.env.scope x := by first | exact Or.inl (by kernel_rfl) | exact Or.inr (Or.inl (by kernel_rfl)) | exact Or.inr (Or.inr (by kernel_rfl))) (hd : (x == ("__debug__" : Str)) = false := by kernel_rfl)
    (hcd : (x == ("__classdict__" : Str)) = false := by kernel_rfl) : AccD X (.Name x p1) (tVar i) (accV i) := by
  refine ⟨pe_var hN hv hd hcd, fun {F0 H0 F H σ Γ ks es} r e => ?_⟩
  unfold accV at e
  split at e
  case h_2 => cases e
  rename_i ks' es' e1
  cases e
  obtain ⟨v, hv, rp⟩ := r.slot i _ (at_get e1)
  obtain ⟨d, ws, ew, ed, el, rl⟩ := Rp.dk_iff (show Rp X.K X.mg F (.dk ks es) v from rp)
  subst ew
  exact ⟨d, ws, ed, el, rl, fun H0' H' Q r' q => ⟨_, hv, q F H' (Ext.refl r'.fz)⟩⟩
theorem acc_ix (i : Nat) {x : Str} (hix : DE X W ix fx) (hpx : PlainIx ix) (hN : X.N[i]? = some x := by rfl) (hv : Vis X.env.scope x := by first | exact Or.inl (by kernel_rfl) | exact Or.inr (Or.inl (by kernel_rfl)) | exact Or.inr (Or.inr (by kernel_rfl))) (hd : (x == ("__debug__" : Str)) = false := by kernel_rfl)
    (hcd : (x == ("__classdict__" : Str)) = false := by kernel_rfl) : AccD X (.Subscript (.Name x p1) ix p2) (tOp (rIxL X.K) (tVar i) (tD X W fx)) (atDk i fx) := by
  refine ⟨pe_ix ix_list (pe_var hN hv hd hcd) hix hpx, fun {F0 H0 F H σ Γ ks es} r e => ?_⟩
  obtain ⟨a, d, us, ws, k, hσ, ea, efx, eat, ed, el, rl⟩ := atDk_of r e
  refine ⟨d, ws, ed, el, rl, fun H0' H' Q r' q => ⟨_, hσ, _, _, F, Γ, r', ?_⟩⟩
  rw [efx]
  intro b F2 H2 x2 rb
  have eb : b = V.int k := (show Rp X.K X.mg F2 (.int k) b from rb).int_iff
  subst eb
  exact ⟨a, us, k, .ref d, rfl, rfl, SqL.of (x2.fh.lst (x2.ff _ _ ea)), eat, q F2 H2 x2⟩
/-- what a walk over a locked dict gives -/
def iDk (J : Addr → Obj → List (Key × V) → It) (td : TE) : TI := fun σ H Rr => td σ H fun x H1 => ∃ d o kvs, x = .ref d ∧ H1 d = some (.frz o (.dK kvs)) ∧ Rr (J d o kvs) H1
def sForDk (acc : DL.Env → Option (List Key × List D)) (f : List Key → List D → List D) (h : Tg) (g : DL.Env → Out) : DL.Env → Out := fun Γ => match acc Γ with
  | some (ks, vs) => (loopF h g (f ks vs) Γ).calmL
  | none => .stuck
theorem ds_forDk {tg e iter : Expr} {td : TE} {acc : DL.Env → Option (List Key × List D)} {J : Addr → Obj → List (Key × V) → It} {f : List Key → List D → List D} (A : AccD X e td acc) (hi : PI X tg iter (iDk J td))
    (wk : ∀ {F2 : Hp} {d : Addr} {od : Obj} {ks : List Key} {ds : List D} {ws : List V}, ks.length = ws.length → RpL X.K X.mg F2 ds ws →
      Walk (J d od (ks.zip ws)) (f ks ds).length (fun H => Fz F2 H ∧ H d = some (.frz od (.dK (ks.zip ws)))) (fun i H x H'' => ∀ Fc, Same F2 Fc → Fz Fc H → ∃ Fi dd, Ext Fc H Fi H'' ∧ (f ks ds)[i]? = some dd ∧ Rp X.K X.mg Fi dd x))
    (hp : PassesOwn (model X.prog X.w) X.A X.env X.xe) (hc : X.calm = true) (hg : DG X tg vs h) (hb : DSs X W body g) (hs : ∀ z, foldedSetIterable iter X.env z = pure z := by intro _; rfl) :
    DS X W (.For tg iter body [] pos) (sForDk acc f h g) := by
  have one := ps_for (pos := pos) hp hc hi hg hb hs
  refine PS.weak (or_ps one (ps_lock one)) ?_
  rintro Dn σ H ⟨F0, H0, F, Γ, r, p⟩
  revert p
  unfold sForDk
  cases ek : acc Γ with
  | none => exact fun p => p.elim
  | some q =>
    obtain ⟨ks, es⟩ := q
    intro p
    have p : PostS X W F0 H0 Dn (loopF h g (f ks es) Γ).calmL := p
    obtain ⟨d, ws, ed, el, rl, run⟩ := A.sp r ek
    -- from the state in which d is locked
    have go : ∀ (od : Obj) (u : HO) (D2 : Ends), H d = some u → DkAt u (ks.zip ws) → PostS X W ⟨F, F0.sv⟩ (upd H0 d (.frz od (.dK (ks.zip ws)))) D2 (loopF h g (f ks es) Γ).calmL →
        tFor (iDk J td) (tDG X vs h) (tDS X W g) D2 σ (upd H d (.frz od (.dK (ks.zip ws)))) := by
      intro od u D2 hu hk p2
      have rL := r.lock (od := od) ed hu hk
      refine run _ _ _ rL fun F2 H2 x2 => ?_
      refine ⟨d, od, ks.zip ws, rfl, x2.hh _ _ upd_same, ?_⟩
      exact for_locked (rL.step x2) upd_same (wk el (RpL.mono x2.ff _ _ rl)) p2
    rcases r.fz d _ ed with z | ⟨_, ob, z⟩
    · refine .inr ⟨d, .dK (ks.zip ws), z, trivial, fun od => go od _ _ z (.inl rfl) ?_⟩
      revert p
      cases loopF h g (f ks es) Γ with
      | nx Γ' => exact fun p σ1 F1 H1 r1 => ⟨r1.ext.hh _ _ upd_same, p _ _ _ (r.unlock ed z (.inl rfl) r1)⟩
      | rt y => exact fun p v F1 H1 x1 q => ⟨x1.hh _ _ upd_same, p v F1 _ (r.ext.unlock ed z (.inl rfl) x1) q⟩
      | _ => exact fun p => p.elim
    · have eH : upd H d (.frz ob (.dK (ks.zip ws))) = H := funext fun b => by
        by_cases q : b = d
        · rw [q, upd_same, z]
        · rw [upd_ne q]
      refine .inl ?_
      have := go ob _ Dn z (.inr ⟨ob, rfl⟩) ?_
      · rw [eH] at this
        exact this
      have back : ∀ {H1 : Hp}, H1 d = some (.frz ob (.dK (ks.zip ws))) → upd H1 d (.frz ob (.dK (ks.zip ws))) = H1 := fun e => funext fun b => by
        by_cases q : b = d
        · rw [q, upd_same, e]
        · rw [upd_ne q]
      revert p
      cases loopF h g (f ks es) Γ with
      | nx Γ' => exact fun p σ1 F1 H1 r1 => by have := p _ _ _ (r.unlock ed z (.inr ⟨ob, rfl⟩) r1); rw [back (r1.ext.hh _ _ upd_same)] at this; exact this
      | rt y => exact fun p v F1 H1 x1 q => by have := p v F1 _ (r.ext.unlock ed z (.inr ⟨ob, rfl⟩) x1) q; rw [back (x1.hh _ _ upd_same)] at this; exact this
      | _ => exact fun p => p.elim
/-- for k, v in e.items() -/
theorem ds_forItems {e : Expr} {td : TE} {acc : DL.Env → Option (List Key × List D)} (A : AccD X e td acc) (hp : PassesOwn (model X.prog X.w) X.A X.env X.xe) (hc : X.calm = true) (hg : DG X (.Tuple elts kk tpos) vs h) (hb : DSs X W body g)
    (hbase : attributeBase e "items" X.env (eval e X.env) = eval e X.env := by rfl) (hline : (apos.endLine == cpos.line) = true := by rfl) (hs : ∀ z, foldedSetIterable (.Call (.Attribute e "items" apos) [] [] cpos) X.env z = pure z := by intro _; rfl) :
    DS X W (.For (.Tuple elts kk tpos) (.Call (.Attribute e "items" apos) [] [] cpos) body [] pos) (sForDk acc itemsD h g) :=
  ds_forDk A (J := Iti) (pi_items (elts := elts) (kk := kk) (tpos := tpos) A.he hbase hline) (fun l r => walk_itemsD l r) hp hc hg hb hs
def keysD (ks : List Key) (_ : List D) : List D := ks.map keyD
theorem walk_keysD {F2 : Hp} {d : Addr} {od : Obj} {ks : List Key} {ds : List D} {ws : List V} (l : ks.length = ws.length) (rl : RpL X.K X.mg F2 ds ws) :
    Walk (Itk d od (ks.zip ws)) (keysD ks ds).length (fun H => Fz F2 H ∧ H d = some (.frz od (.dK (ks.zip ws)))) (fun i H x H'' => ∀ Fc, Same F2 Fc → Fz Fc H → ∃ Fi dd, Ext Fc H Fi H'' ∧ (keysD ks ds)[i]? = some dd ∧ Rp X.K X.mg Fi dd x) := by
  have el : (keysD ks ds).length = (ks.zip ws).length := by
    unfold keysD
    rw [List.length_map, List.length_zip]
    omega
  rw [el]
  refine ⟨fun i H hi q => ⟨q.2, hi⟩, fun H q => ⟨q.2, Nat.le_refl _⟩, fun i H x H' hi q y Fc s zc => ?_⟩
  obtain ⟨e1, k, v, e2, e3⟩ := y
  subst e1 e3
  refine ⟨Fc, keyD k, Ext.refl zc, ?_, keyD_rp k⟩
  have hi1 : i < ks.length := by rw [List.length_zip] at hi; omega
  rw [List.getElem?_eq_getElem hi, List.getElem_zip] at e2
  unfold keysD
  rw [List.getElem?_map, List.getElem?_eq_getElem hi1]
  cases e2
  rfl
theorem pi_keysK {tg e : Expr} {td : TE} (he : PE X e td) : PI X tg e (iDk Itk td) := by
  have he2 : PE X e (fun σ H Q => ∃ Q' : VK, td σ H Q' ∧ ∀ v H1, Q' v H1 → Q v H1) := ⟨fun pins s σ H Q I ⟨Q', q, m⟩ => thn (he.run pins s σ H Q' I q) fun u s1 ⟨v, H1, I1, rv, q1⟩ => ⟨v, H1, I1, rv, m v H1 q1⟩⟩
  exact PI.weak (pi_keys he2) fun σ H Rr q => ⟨_, q, fun v H1 ⟨d, o, kvs, e1, e2, e3⟩ => ⟨d, o, e1, .inl ⟨kvs, e2, e3⟩⟩⟩
/-- for k in e, a dict -/
theorem ds_forKeys {tg e : Expr} {td : TE} {acc : DL.Env → Option (List Key × List D)} (A : AccD X e td acc) (hp : PassesOwn (model X.prog X.w) X.A X.env X.xe) (hc : X.calm = true) (hg : DG X tg vs h) (hb : DSs X W body g)
    (hs : ∀ z, foldedSetIterable e X.env z = pure z := by intro _; rfl) : DS X W (.For tg e body [] pos) (sForDk acc keysD h g) :=
  ds_forDk A (J := Itk) (pi_keysK A.he) (fun l r => walk_keysD l r) hp hc hg hb hs
end
end DL
set_option Elab.async false
set_option linter.all false
set_option maxRecDepth 100000
set_option maxHeartbeats 4000000
/-! sorted(d) of a dict with int keys, of any size. -/
namespace HX
open PySem PySem.Spec PyProof.Rows L2
def rSortD (H0 : Hp → Prop) : List V → Hp → VK → Prop := fun xs H Q => ∃ (d : Addr) (es : List (Key × V)) (js : List Int), xs = [.ref d] ∧ Rd H d (.dK es) ∧ es.map Prod.fst = js.map Sum.inl ∧ js.length ≤ sizeLine ∧
  ∀ (rs : List Int) (q : Addr), rs.Perm js → rs.Pairwise (· ≤ ·) → H q = none → Q (.ref q) (upd H q (.lst (rs.map V.int)))
theorem call_sortD {X : Cx} (cm : X.calm = true) : CallR X (.builtin "sorted") (rSortD fun _ => True) := by
  rintro pins st σ H xs us Q I rv ⟨d, es, js, rfl, hd, ek, hsz, fin⟩
  obtain ⟨w, ew, rw1⟩ := vals1 rv
  cases ew
  cases rw1
  obtain ⟨_, low, ents, rel, dat⟩ := dk_rd I.hok hd
  obtain ⟨epo, hat⟩ := dat.dictAt
  have kk : ents.map Prod.fst = js.map Sum.inl := (rel.keys).symm.trans ek
  have ln : ents.length = js.length := by simpa using congrArg List.length kk
  have few : ents.length ≤ sizeLine := by omega
  refine Calls.call_function_entry PyProof.Rows.kind_sorted PyProof.Rows.plain_sorted PyProof.Rows.entry_sorted (PyProof.Rows.args_sorted1 _) (?_ : wpAny _ _ (Builtin.«sorted» _) _ _ _)
  unfold Builtin.«sorted»
  refine wpAny_bind (m := checkCount "sorted" 1 1 _) (wpAny_pure ?_)
  refine wpAny_bind (PySem.W.kdu_collect (A := X.A.in1) (PySem.W.kdl_dict (knd := mixKind X.prog X.w) (kvs := ents) (ep := epo) low) (I.ok.hd cm) hat few fun g tok got kept ⟨gl, gi⟩ => ?_)
  have gln : got.toList.length = js.length := by rw [Array.length_toList, gl, ln]
  have hin : IntsAre got.toList js := ints_each gln fun j v ej => by
    obtain ⟨ky, z, z1, z2⟩ := gi j v (by rw [← Array.getElem?_toList]; exact ej)
    have z3 : (js.map (Sum.inl (β := Str)))[j]? = some ky := by rw [← kk, List.getElem?_map, z1]; rfl
    obtain ⟨y, y1, y2⟩ := Option.map_eq_some_iff.mp (by rwa [List.getElem?_map] at z3)
    subst y2
    rcases keyIs_shape (show keyIs (Sum.inl y) v = true from z2) with ⟨i, t, e1, e2⟩ | ⟨z, t, e1, _⟩
    · cases e1
      exact ⟨y, t, y1, e2⟩
    · cases e1
  have J : Inv X pins σ H { st with heap := g, toks := tok } := I.kept kept
  refine wpAny_bind (wpAny_newList ?_ (by rw [gln]; exact hsz))
  have hob : (g.push (seqObj "list" got.toList.toArray 0)).get? g.objs.size = some (seqObj "list" got.toList.toArray 0) := Heap.get?_push_size _ rfl
  show wpAny _ _ _ _ _ { st with heap := g.push (seqObj "list" got.toList.toArray 0), toks := tok }
  refine wpAny_bind (wpAny_holding (wpAny_call_entry PyProof.Rows.slot_list_sort ⟨_, hob, rfl⟩ PyProof.Rows.entry_list_sort
    (SrtO.list_sort_ord (s := { st with heap := g.push (seqObj "list" got.toList.toArray 0), toks := tok }) SrtO.swo_int hob (by rw [gln]; exact hsz) (fun two => SrtO.ints_sortable hin two) fun srt s1 s2 => ⟨_, rfl, ?_⟩) (PyProof.Rows.args_list_sort _)))
  obtain ⟨k1, k2, k3⟩ := SrtO.ints_out hin s1 s2
  obtain ⟨e2, at2⟩ := PyProof.Rows.sortedHeap_at (vs := got.toList) (out := srt.toArray) hob
  have outl : ((srt.map SrtO.iv).map V.int).length ≤ sizeLine := by rw [List.length_map, k2.length_eq]; exact hsz
  refine wpAny_pure ⟨_, rfl, .ref g.objs.size, upd H g.objs.size (.lst ((srt.map SrtO.iv).map V.int)), J.laid (t' := tok) (fun b u eb => ?_) (Nat.le_refl _) ⟨outl, srt, e2, vals_of_ints k1, at2⟩, rfl, fin _ _ k2 k3 (J.hok.fresh (Nat.le_refl _))⟩
  have lt : b < g.objs.size := Heap.lt_size eb
  rw [PyProof.Rows.sortedHeap_old (Nat.ne_of_lt lt) (by rw [size_push']; exact Nat.lt_succ_of_lt lt)]
  exact Heap.get?_push_of_some _ eb
end HX
set_option Elab.async false
set_option linter.all false
set_option maxRecDepth 100000
set_option maxHeartbeats 4000000
/-! The data layer: sorted(d) of a dict with int keys; min(xs, default=None). -/
namespace DL
open PySem PySem.Spec L2
def ksI : List Key → Option (List Int)
  | [] => some []
  | .inl i :: ks => (ksI ks).map (i :: ·)
  | _ => none
theorem ksI_eq : ∀ {ks : List Key} {js : List Int}, ksI ks = some js → ks = js.map Sum.inl
  | [], js, e => by cases e; rfl
  | .inl i :: ks, js, e => by
    unfold ksI at e
    cases e2 : ksI ks with
    | none => rw [e2] at e; cases e
    | some js' =>
      rw [e2] at e
      cases e
      rw [ksI_eq e2]
      rfl
  | .inr _ :: _, _, e => by cases e
def srtI (js : List Int) : List Int := js.mergeSort fun a b => decide (a ≤ b)
theorem srtI_pw (js : List Int) : (srtI js).Pairwise (· ≤ ·) := by
  have := List.pairwise_mergeSort (le := fun a b : Int => decide (a ≤ b)) (fun a b c h1 h2 => decide_eq_true (Int.le_trans (of_decide_eq_true h1) (of_decide_eq_true h2))) (fun a b => by simp only [Bool.or_eq_true, decide_eq_true_eq]; omega) js
  exact this.imp fun h => of_decide_eq_true h
theorem srtI_perm (js : List Int) : (srtI js).Perm js := List.mergeSort_perm _ _
theorem srtI_uni {rs js : List Int} (h1 : rs.Perm js) (h2 : rs.Pairwise (· ≤ ·)) : rs = srtI js :=
  List.Perm.eq_of_pairwise (le := fun a b : Int => a ≤ b) (fun a b _ _ h h' => Int.le_antisymm h h') h2 (srtI_pw js) (h1.trans (srtI_perm js).symm)
def oSorted : List D → R (List D)
  | [.dk ks _] => (match ksI ks with
    | some js => if js.length ≤ LIM then .ok ((srtI js).map D.int) else .stuck
    | none => .stuck)
  | _ => .stuck
section
variable {X : Cx} {W : WX} {a : Expr} {es : List Expr} {fs : DL.Env → R (List D)} {p pos : Pos}
theorem rpL_ints {K : PySem.W.Frag} {mg : Str → Option Value} {F : Hp} : ∀ js : List Int, RpL K mg F (js.map D.int) (js.map V.int)
  | [] => RpL.nil
  | j :: js => RpL.cons Rp.int (rpL_ints js)
theorem RpL.inj {K : PySem.W.Frag} {mg : Str → Option Value} {F : Hp} : ∀ {js : List Int} {vs us : List V}, RpL K mg F (js.map D.int) vs → RpL K mg F (js.map D.int) us → vs = us
  | [], vs, us, h, h' => by rw [h.nil_iff, h'.nil_iff]
  | j :: js, vs, us, h, h' => by
    obtain ⟨v, vs', e1, r1, r2⟩ := h.cons_iff
    obtain ⟨u, us', e2, r3, r4⟩ := h'.cons_iff
    rw [e1, e2, r1.int_iff, r3.int_iff, RpL.inj r2 r4]
theorem satO_sorted : SatLO X (HX.rSortD fun _ => True) oSorted := by
  intro F H ds vs E Q z r p
  unfold oSorted at p
  split at p
  case h_2 => exact p.elim
  rename_i ks es
  cases e : ksI ks with
  | none => rw [e] at p; exact p.elim
  | some js =>
    rw [e] at p
    obtain ⟨hl, p⟩ := ifR p
    obtain ⟨v, e1, r1⟩ := r.one
    obtain ⟨d, ws, ev, ed, el, rl⟩ := r1.dk_iff
    subst ev
    have ek := ksI_eq e
    refine ⟨d, ks.zip ws, js, e1, ?_, ?_, by rw [LIM_eq]; exact hl, fun rs q h1 h2 n => ?_⟩
    · rcases z d _ ed with y | ⟨_, ob, y⟩
      · exact .inl y
      · exact .inr ⟨ob, y⟩
    · rw [List.map_fst_zip (by omega), ek]
    · rw [srtI_uni h1 h2]
      exact p _ F _ (Ext.heap z n) ⟨q, (srtI js).map V.int, rfl, upd_same, z.free n, n, rpL_ints _⟩
theorem do_callB {x : Str} {id : String} {r : List V → Hp → VK → Prop} {g : List D → R (List D)} (hc : CallR X (.builtin id) r) (hs : SatLO X r g) (hg : Gl X x) (hm : X.mg x = none) (hv : bootBuiltins x = some (.builtin id)) (ha : DA X W (a :: es) fs)
    (hn : x ≠ "__name__" := by decide +kernel) (hdb : (x == ("__debug__" : Str)) = false := by kernel_rfl)
    (he : starEach (a :: es) X.env = (false, eval a X.env) :: starEach es X.env := by rfl) (hpl : (backTo pos (starEach es X.env)).any (·.1) = false := by rfl) : DO X W (.Call (.Name x p) (a :: es) [] pos) (oCall g fs) := by
  refine PE.weak (pe_callB hc hg hm hv ha hn hdb he hpl) ?_
  rintro σ H Q ⟨F0, H0, F, Γ, rl, p⟩
  exact ⟨F0, H0, F, Γ, rl, PostG.bind p (fun ds vs F1 H1 _ x1 r1 p1 => hs F1 H1 ds vs _ _ x1.fh r1 p1) upO⟩
end
/-! ### min(xs, default=None) -/
def dsI : List D → Option (List Int)
  | [] => some []
  | .int i :: ds => (dsI ds).map (i :: ·)
  | _ => none
theorem dsI_eq : ∀ {ds : List D} {js : List Int}, dsI ds = some js → ds = js.map D.int
  | [], js, e => by cases e; rfl
  | .int i :: ds, js, e => by
    unfold dsI at e
    cases e2 : dsI ds with
    | none => rw [e2] at e; cases e
    | some js' =>
      rw [e2] at e
      cases e
      rw [dsI_eq e2]
      rfl
  | .non :: _, _, e => by cases e
  | .bl _ :: _, _, e => by cases e
  | .str _ :: _, _, e => by cases e
  | .lst _ :: _, _, e => by cases e
  | .tup _ :: _, _, e => by cases e
  | .scr _ :: _, _, e => by cases e
  | .dk _ _ :: _, _, e => by cases e
  | .obj _ _ _ :: _, _, e => by cases e
  | .exc _ _ _ :: _, _, e => by cases e
  | .cls _ :: _, _, e => by cases e
  | .ty _ :: _, _, e => by cases e
/-- the least of j :: js -/
def minL (j : Int) (js : List Int) : Int := js.foldl (fun a y => if y < a then y else a) j
def dMinNon : D → R D
  | .lst ds => (match dsI ds with
    | some [] => .ok .non
    | some (j :: js) => .ok (.int (minL j js))
    | none => .stuck)
  | _ => .stuck
theorem minOf_int (j : Int) (js : List Int) : PySem.W.minOf j js = minL j js := by
  unfold PySem.W.minOf minL
  congr 1
  funext a y
  show (if decide (y < a) = true then y else a) = _
  by_cases h : y < a
  · rw [if_pos h, if_pos (decide_eq_true h)]
  · rw [if_neg h, if_neg (by simp [h])]
def rMinNon (K : PySem.W.Frag) : List V → List V → Hp → VK → Prop := fun xs zs H Q => ∃ (a : Addr) (js : List Int), xs = [.ref a] ∧ zs = [.non] ∧ SqL K H a (js.map V.int) ∧ (match js with | [] => Q .non H | j :: js => Q (.int (minL j js)) H)
theorem call_minNon {X : Cx} (hc : X.calm = true) (hu : X.A.units + 64 < cLine) : CallRK X (.builtin "min") [Str.ofString "default"] (rMinNon X.K) := by
  rintro pins st σ H xs zs us ws Q I rv rz ⟨a, js, rfl, rfl, hs, q⟩
  obtain ⟨w, ew, rw1⟩ := vals1 rv
  cases ew
  cases rw1
  obtain ⟨w2, ew2, rw2⟩ := vals1 rz
  cases ew2
  cases rw2
  obtain ⟨its, r, hl, _⟩ := I.list hs
  refine PySem.W.min_list_datum_default (α := Int) (xs := js) (I.ok.hd hc) hl.isList (PySem.W.HoldAll.of_ints (by simpa using r.ints)) (by show _ + 1 + 0 < _; omega) (fun e h' tk k => ?_) fun y ys i v h' tk e hv hh k => ?_
  · subst e
    exact ⟨.non, H, I.kept (t' := tk) k, rfl, q⟩
  · subst e
    obtain ⟨as, rd⟩ := hh
    have rd : PySem.Reads h' v (.int (PySem.W.minOf y ys)) as := rd
    cases rd
    refine ⟨.int (PySem.W.minOf y ys), H, I.kept (t' := tk) k, ⟨_, rfl⟩, ?_⟩
    rw [minOf_int]
    exact q
section
variable {X : Cx} {W : WX} {e : Expr} {f : DL.Env → R D} {p pos kpos cp : Pos}
theorem de_minNon {ck : Nat} (hc : X.calm = true) (hu : X.A.units + 64 < cLine) (ha : DE X W e f) (hg : Gl X "min") (hm : X.mg "min" = none)
    (he : backTo pos (starEach [e] X.env) = (false, eval e X.env) :: backTo pos (starEach [] X.env) := by rfl) (hpl : (backTo pos (starEach [e] X.env)).any (·.1) = false := by rfl) (he1 : starEach [e] X.env = (false, eval e X.env) :: starEach [] X.env := by rfl)
    (hall : (backToKw pos (keywordEach [⟨some "default", .Constant .none ck cp, kpos⟩] X.env)).all (·.1.isSome) = true := by rfl) (hnone : (backToKw pos (keywordEach [⟨some "default", .Constant .none ck cp, kpos⟩] X.env)).any (·.1.isNone) = false := by rfl)
    (hks : (backToKw pos (keywordEach [⟨some "default", .Constant .none ck cp, kpos⟩] X.env)).filterMap (·.1) = [Str.ofString "default"] := by rfl) :
    DE X W (.Call (.Name "min" p) [e] [⟨some "default", .Constant .none ck cp, kpos⟩] pos) (eUn dMinNon f) := by
  refine PE.weak (pe_callBK (call_minNon hc hu) hg hm (by decide +kernel) (pa_cons ha pa_nil he1) (pk_cons pe_non pk_nil) (by decide +kernel) (by kernel_rfl) he hpl hall hnone hks) ?_
  rintro σ H Q ⟨F0, H0, F, Γ, r, p⟩
  refine ⟨F0, H0, F, Γ, r, PostG.bind p (fun d v F1 H1 _ x1 r1 p1 => ?_) fun _ _ _ _ _ h => h⟩
  unfold dMinNon at p1
  cases d with
  | lst ds =>
    have p2 : PostG X.K X.mg (repV X.K X.mg) F1 H1 (WE W σ) Q (match dsI ds with
      | some [] => .ok .non
      | some (j :: js) => .ok (.int (minL j js))
      | none => .stuck) := p1
    cases e : dsI ds with
    | none => rw [e] at p2; exact p2.elim
    | some js =>
      rw [e] at p2
      obtain ⟨a, vs, ev, ea, rr⟩ := Rp.lstH x1.fh r1
      have ed := dsI_eq e
      subst ev ed
      have ek : vs = js.map V.int := RpL.inj rr (rpL_ints js)
      subst ek
      refine ⟨a, js, rfl, rfl, SqL.of ea, ?_⟩
      cases js with
      | nil => exact PostG.ok (show PostG X.K X.mg (repV X.K X.mg) F1 H1 (WE W σ) Q (.ok .non) from p2) x1.fh Rp.non
      | cons j js =>
        have p3 : PostG X.K X.mg (repV X.K X.mg) F1 H1 (WE W σ) Q (.ok (.int (minL j js))) := p2
        exact PostG.ok p3 x1.fh Rp.int
  | _ => exact p1.elim
end
end DL
set_option Elab.async false
set_option linter.all false
set_option maxRecDepth 100000
set_option maxHeartbeats 4000000
/-! The data layer: max of a list, of three; dict displays; == of dicts with flat values. -/
namespace DL
open PySem PySem.Spec L2
/-! ### max -/
def maxL (j : Int) (js : List Int) : Int := js.foldl (fun a y => if a < y then y else a) j
theorem maxL_mem (js : List Int) : ∀ j : Int, maxL j js ∈ j :: js := by
  induction js with
  | nil => intro j; exact List.mem_singleton.mpr rfl
  | cons y js ih =>
    intro j
    show maxL (if j < y then y else j) js ∈ _
    have h := ih (if j < y then y else j)
    rcases List.mem_cons.mp h with h | h
    · rw [h]
      split
      · exact List.mem_cons_of_mem _ List.mem_cons_self
      · exact List.mem_cons_self
    · exact List.mem_cons_of_mem _ (List.mem_cons_of_mem _ h)
theorem maxL_ge (js : List Int) : ∀ j : Int, ∀ y ∈ j :: js, y ≤ maxL j js := by
  induction js with
  | nil => intro j y h; rw [List.mem_singleton.mp h]; exact Int.le_refl _
  | cons z js ih =>
    intro j y h
    show y ≤ maxL (if j < z then z else j) js
    have h0 := ih (if j < z then z else j) _ List.mem_cons_self
    rcases List.mem_cons.mp h with h | h
    · rw [h]
      split at h0 <;> (rename_i c; simp only [c, if_true, if_false] <;> omega)
    · rcases List.mem_cons.mp h with h | h
      · rw [h]
        split at h0 <;> (rename_i c; simp only [c, if_true, if_false] <;> omega)
      · exact ih _ _ (List.mem_cons_of_mem _ h)
def dMaxL1 : D → R D
  | .lst ds => (match dsI ds with
    | some (j :: js) => .ok (.int (maxL j js))
    | _ => .stuck)
  | _ => .stuck
abbrev dMaxL := un1 dMaxL1
def dMax3 : List D → R D
  | [.int i, .int j, .int k] => .ok (.int (if (if i < j then j else i) < k then k else (if i < j then j else i)))
  | _ => .stuck
section
variable {X : Cx} {W : WX} {a : Expr} {es : List Expr} {fs : DL.Env → R (List D)} {p pos : Pos}
theorem sat_maxL : SatL X (rMax X.K) dMaxL := sat_un1 fun F H x v E Q z r p => by
  unfold dMaxL1 at p
  cases x with
  | lst ds =>
    have p2 : PostG X.K X.mg (repV X.K X.mg) F H E Q (match dsI ds with
      | some (j :: js) => .ok (.int (maxL j js))
      | _ => .stuck) := p
    cases e : dsI ds with
    | none => rw [e] at p2; exact p2.elim
    | some js =>
      rw [e] at p2
      cases js with
      | nil => exact p2.elim
      | cons j js =>
        obtain ⟨a, vs, ev, ea, rr⟩ := Rp.lstH z r
        have ed := dsI_eq e
        subst ev ed
        have ek : vs = (j :: js).map V.int := RpL.inj rr (rpL_ints (j :: js))
        subst ek
        have p3 : PostG X.K X.mg (repV X.K X.mg) F H E Q (.ok (.int (maxL j js))) := p2
        refine ⟨a, j :: js, rfl, SqL.of ea, by simp, fun m h1 h2 => ?_⟩
        have em : m = maxL j js := Int.le_antisymm (maxL_ge js j m h1) (h2 _ (maxL_mem js j))
        rw [em]
        exact PostG.ok p3 z Rp.int
  | _ => exact p.elim
theorem sat_max3 : SatL X (rNuC3 nuMax3) dMax3 := by
  intro F H ds vs E Q z r p
  unfold dMax3 at p
  split at p
  case h_2 => exact p.elim
  rename_i i j k
  obtain ⟨v1, w1, e1, r1, rr1⟩ := r.cons_iff
  obtain ⟨v2, w2, e2, r2, rr2⟩ := rr1.cons_iff
  obtain ⟨v3, w3, e3, r3, rr3⟩ := rr2.cons_iff
  have e4 := rr3.nil_iff
  subst e1 e2 e3 e4
  rw [r1.int_iff, r2.int_iff, r3.int_iff]
  have e : ∀ (x y : Int), nuMax2 (.int x) (.int y) = some (V.int (if x < y then y else x)) := fun x y => by
    show (some (decide (x < y))).map (fun c => if c = true then V.int y else V.int x) = _
    by_cases c : x < y
    · rw [if_pos c, decide_eq_true c]; rfl
    · rw [if_neg c, decide_eq_false c]; rfl
  refine ⟨_, _, _, V.int (if (if i < j then j else i) < k then k else (if i < j then j else i)), rfl, ?_, PostG.ok p z Rp.int⟩
  show (nuMax2 (.int i) (.int j)).bind (fun m => nuMax2 m (.int k)) = _
  rw [e]
  exact e _ _
end

/-! ### dict displays -/
/-- the pairs, from the left -/
def mrgD : List Key → List D → List Key × List D → List Key × List D
  | k :: ks, d :: ds, a => mrgD ks ds (putD a.1 a.2 k d)
  | _, _, a => a
def pNil : DL.Env → R (List Key × List D) := fun _ => .ok ([], [])
def pCons (fk fv : DL.Env → R D) (f : DL.Env → R (List Key × List D)) : DL.Env → R (List Key × List D) := fun Γ => (fk Γ).bind fun k => (fv Γ).bind fun v => (f Γ).bind fun r => match dKey k with
  | some j => .ok (j :: r.1, v :: r.2)
  | none => .stuck
def eDisp (f : DL.Env → R (List Key × List D)) : DL.Env → R D := fun Γ => (f Γ).bind fun r => if r.1.length ≤ 15 then .ok (.dk (mrgD r.1 r.2 ([], [])).1 (mrgD r.1 r.2 ([], [])).2) else .stuck
abbrev repP (K : PySem.W.Frag) (mg : Str → Option Value) : Hp → Hp → Hp → List Key × List D → List (V × V) → Prop := fun _ F' _ r ps => ∃ vs, ps = (r.1.zip vs).map (fun kv => (kV kv.1, kv.2)) ∧ r.1.length = vs.length ∧ RpL K mg F' r.2 vs
structure DPs (X : Cx) (W : WX) (pos : Pos) (keys : List (Option Expr)) (values : List Expr) (f : DL.Env → R (List Key × List D)) (trs : List (TE × TE)) : Prop where
  ps : PPs X pos keys values trs
  ok : ∀ (σ : L2.St) (F0 : Fe) (H0 F H : Hp) (Γ : DL.Env) (Q : List (V × V) → Hp → Prop), Rel X.K X.mg F0 H0 F H σ Γ → PostG X.K X.mg (repP X.K X.mg) F H (WE W σ) Q (f Γ) → tPairs trs σ H Q
theorem merge_zip : ∀ (ks : List Key) (vs : List V) (ks0 : List Key) (vs0 : List V) (ds ds0 : List D) (K : PySem.W.Frag) (mg : Str → Option Value) (F : Hp), ks.length = vs.length → ks0.length = vs0.length → RpL K mg F ds vs → RpL K mg F ds0 vs0 →
    ∃ ws, mergeK (ks0.zip vs0) (ks.zip vs) = (mrgD ks ds (ks0, ds0)).1.zip ws ∧ (mrgD ks ds (ks0, ds0)).1.length = ws.length ∧ RpL K mg F (mrgD ks ds (ks0, ds0)).2 ws
  | [], vs, ks0, vs0, ds, ds0, K, mg, F, l, l0, r, r0 => by
    refine ⟨vs0, ?_, ?_, ?_⟩
    · show mergeK (ks0.zip vs0) [] = _
      cases ds <;> rfl
    · cases ds <;> exact l0
    · cases ds <;> exact r0
  | k :: ks, [], _, _, _, _, _, _, _, l, _, _, _ => nomatch l
  | k :: ks, v :: vs, ks0, vs0, [], ds0, K, mg, F, l, l0, r, r0 => nomatch r.nil_iff
  | k :: ks, v :: vs, ks0, vs0, d :: ds, ds0, K, mg, F, l, l0, r, r0 => by
    obtain ⟨v', us, e, r1, r2⟩ := r.cons_iff
    cases e
    obtain ⟨e1, e2⟩ := RpL.put (ks := ks0) (j := k) r0 r1
    have e3 := putD_zip ks0 vs0 k v l0
    have e4 := putD_len ks0 vs0 k v l0
    obtain ⟨ws, h1, h2, h3⟩ := merge_zip ks vs (putD ks0 vs0 k v).1 (putD ks0 vs0 k v).2 ds (putD ks0 ds0 k d).2 K mg F (by simpa using l) e4 r2 e2
    refine ⟨ws, ?_, ?_, ?_⟩
    · show mergeK (putK (ks0.zip vs0) k v) (ks.zip vs) = (mrgD ks ds (putD ks0 ds0 k d)).1.zip ws
      rw [e3, h1, ← e1]
    · show (mrgD ks ds (putD ks0 ds0 k d)).1.length = _
      rw [← h2, ← e1]
    · show RpL K mg F (mrgD ks ds (putD ks0 ds0 k d)).2 ws
      have e5 : mrgD ks ds (putD ks0 ds0 k d) = mrgD ks ds ((putD ks0 vs0 k v).1, (putD ks0 ds0 k d).2) := by rw [← e1]
      rw [e5]
      exact h3
section
variable {X : Cx} {W : WX} {pos : Pos} {keys : List (Option Expr)} {values : List Expr} {k v : Expr} {fk fv : DL.Env → R D} {f : DL.Env → R (List Key × List D)} {trs : List (TE × TE)}
theorem dps_nil : DPs X W pos [] [] pNil [] := ⟨pps_nil, fun σ F0 H0 F H Γ Q r p => PostG.ok (show PostG X.K X.mg (repP X.K X.mg) F H (WE W σ) Q (.ok ([], [])) from p) r.fz ⟨[], rfl, rfl, RpL.nil⟩⟩
theorem dps_cons (hk : DE X W k fk) (hv : DE X W v fv) (h : DPs X W pos keys values f trs) : DPs X W pos (some k :: keys) (v :: values) (pCons fk fv f) ((tD X W fk, tD X W fv) :: trs) := by
  refine ⟨pps_cons hk hv h.ps, fun σ F0 H0 F H Γ Q r p => ?_⟩
  refine ⟨F0, H0, F, Γ, r, PostG.bind (rep := repV X.K X.mg) p (fun x u F1 H1 _ x1 r1 p1 => ?_) fun _ _ _ _ _ h => h⟩
  refine ⟨F0, H0, F1, Γ, r.step x1, PostG.bind (rep := repV X.K X.mg) p1 (fun y t F2 H2 _ x2 r2 p2 => ?_) fun _ _ _ _ _ h => h⟩
  refine h.ok σ F0 H0 F2 H2 Γ _ (r.step (x1.trans x2)) (PostG.bind (rep := repP X.K X.mg) p2 (fun q ps F3 H3 _ x3 r3 p3 => ?_) fun _ _ _ _ _ h => h)
  cases ek : dKey x with
  | none => rw [ek] at p3; exact p3.elim
  | some j =>
    rw [ek] at p3
    have p4 : PostG X.K X.mg (repP X.K X.mg) F3 H3 (WE W σ) Q (.ok (j :: q.1, y :: q.2)) := p3
    obtain ⟨vs, e1, e2, e3⟩ := r3
    refine PostG.ok p4 x3.fh ⟨t :: vs, ?_, ?_, RpL.cons (Rp.mono x3.ff _ _ r2) e3⟩
    · rw [e1, dKey_rp r1 ek]
      rfl
    · show q.1.length + 1 = vs.length + 1
      rw [e2]
theorem de_disp (h : DPs X W pos keys values f trs) (hall : keys.all (·.isSome) = true := by rfl) (hl : keys.length = values.length := by rfl) (h0 : keys ≠ [] := by exact fun z => nomatch z) (h15 : keys.length ≤ 15 := by decide) :
    DE X W (.Dict keys values pos) (eDisp f) := by
  refine PE.weak (pe_disp h.ps hall hl h0 h15) ?_
  rintro σ H Q ⟨F0, H0, F, Γ, r, p⟩ q hq
  have x0 : Ext F H F (upd H q (.dK [])) := Ext.heap r.fz hq
  refine h.ok σ F0 H0 F (upd H q (.dK [])) Γ _ (r.step x0) ?_
  have key : ∀ rr : R (List Key × List D), PostG X.K X.mg (repV X.K X.mg) F H (WE W σ) Q (rr.bind fun r => if r.1.length ≤ 15 then .ok (.dk (mrgD r.1 r.2 ([], [])).1 (mrgD r.1 r.2 ([], [])).2) else .stuck) →
      PostG X.K X.mg (repP X.K X.mg) F (upd H q (.dK [])) (WE W σ) (fun ps H2 => H2 q = some (.dK []) ∧ ∃ kvs : List (Key × V), ps = kvs.map (fun kv => (kV kv.1, kv.2)) ∧ kvs.length ≤ 15 ∧ Q (.ref q) (upd H2 q (.dK (mergeK [] kvs)))) rr := by
    intro rr
    cases rr with
    | ok a =>
      intro p b F' H' x hr
      obtain ⟨hc, p2⟩ := ifR (show PostG X.K X.mg (repV X.K X.mg) F H (WE W σ) Q (if a.1.length ≤ 15 then .ok (.dk (mrgD a.1 a.2 ([], [])).1 (mrgD a.1 a.2 ([], [])).2) else .stuck) from p)
      obtain ⟨vs, e1, e2, e3⟩ := hr
      have hH' : H' q = some (.dK []) := x.hh _ _ upd_same
      refine ⟨hH', a.1.zip vs, e1, by rw [List.length_zip]; omega, ?_⟩
      obtain ⟨ws, h1, h2, h3⟩ := merge_zip a.1 vs [] [] a.2 [] X.K X.mg F' e2 rfl e3 RpL.nil
      have em : mergeK [] (a.1.zip vs) = (mrgD a.1 a.2 ([], [])).1.zip ws := h1
      rw [em]
      have nF : F' q = none := by
        cases z : F' q with
        | none => rfl
        | some o =>
          rcases x.new q o z with y | y
          · rw [r.fz.free hq] at y; cases y
          · rw [upd_same] at y; cases y
      have ne : ∀ {c : Addr} {o : HO}, F' c = some o → c ≠ q := fun e z => by rw [z, nF] at e; cases e
      refine p2 _ (upd F' q (.dK ((mrgD a.1 a.2 ([], [])).1.zip ws))) _ ⟨fun c o e => ?_, fun c o e => ?_, fun c o e => ?_, fun c o e => ?_⟩ ?_
      · rw [upd_ne (ne (x.ff _ _ e))]
        exact x.ff _ _ e
      · by_cases z : c = q
        · subst z
          rw [upd_same] at e ⊢
          exact .inl e
        · rw [upd_ne z] at e ⊢
          exact x.fh c o e
      · have z : c ≠ q := fun z => by rw [z, hq] at e; cases e
        rw [upd_ne z]
        exact x.hh c o (by rw [upd_ne z]; exact e)
      · by_cases z : c = q
        · subst z
          exact .inr hq
        · rw [upd_ne z] at e
          rcases x.new c o e with y | y
          · exact .inl y
          · rw [upd_ne z] at y
            exact .inr y
      · show Rp X.K X.mg _ (.dk _ _) _
        unfold Rp
        exact ⟨q, ws, rfl, upd_same, h2, RpL.mono (fun c o e => by rw [upd_ne (ne e)]; exact e) _ _ h3⟩
    | exc y =>
      intro p cls od F' H' x hr
      exact p cls od F' H' (x0.trans x) hr
    | stuck => exact fun p => p
  exact key (f Γ) p
end

/-! ### == of two dicts -/
def hitK (ls : List (Key × V)) (kv : Key × V) : Bool := match valV ls kv.1 with
  | some u => eqV kv.2 u
  | none => false
def eqKV (ks ls : List (Key × V)) : Bool := decide (ks.length = ls.length) && ks.all (hitK ls)
theorem hits_flat {P : Program} {w : World} {A : Around} {s : Shared} {ls : List (Key × V)} {vb : List (Key × Value)} (rb : KV ls vb) (fb : ∀ p ∈ ls, flatV p.2 = true) {ks : List (Key × V)} {va : List (Key × Value)} (ra : KV ks va) :
    (∀ p ∈ ks, flatV p.2 = true) → PySem.W.KeqHitsP P w A s vb va (ks.all (hitK ls)) := by
  unfold KV at ra
  induction ra with
  | nil => intro _; exact .nil
  | @cons p q ps qs h t k =>
    intro hp
    obtain ⟨h1, h2⟩ := h
    obtain ⟨key, v⟩ := q
    have h1' : p.1 = key := h1
    have rr : RelO (valV ls p.1) (valueAt vb p.1) := rb.val p.1
    rw [List.all_cons]
    unfold hitK
    cases e : valV ls p.1 with
    | none =>
      rw [e] at rr
      have e2 : valueAt vb key = none := by
        rw [← h1']
        cases z : valueAt vb p.1 with
        | none => rfl
        | some y => rw [z] at rr; exact rr.elim
      rw [Bool.false_and]
      exact .miss e2
    | some u =>
      rw [e] at rr
      obtain ⟨y, hy, ry⟩ := rr.some_of
      rw [h1'] at hy
      have fu : flatV u = true := by
        obtain ⟨p', hm, e'⟩ : ∃ p' ∈ ls, p'.2 = u := by
          unfold valV at e
          cases z : ls.find? (fun kv => decide (kv.1 = p.1)) with
          | none => rw [z] at e; cases e
          | some p' =>
            rw [z] at e
            exact ⟨p', List.mem_of_find?_eq_some z, Option.some.inj e⟩
        rw [← e']
        exact fb p' hm
      exact .hit hy (eqAt_V h2 ry (hp p List.mem_cons_self) fu).eqP (k fun p' hm => hp p' (List.mem_cons_of_mem _ hm))
def rEqK : R2 := fun x y H Q => ∃ a b ks ls, x = .ref a ∧ y = .ref b ∧ Rd H a (.dK ks) ∧ Rd H b (.dK ls) ∧ (∀ p ∈ ks, flatV p.2 = true) ∧ (∀ p ∈ ls, flatV p.2 = true) ∧ Q (.bl (eqKV ks ls)) H
theorem op_eqK {X : Cx} (hu : X.A.units + 64 < cLine) : OpR X (compareOp .Eq) rEqK := by
  intro pins s σ H x y v u Q I rx ry h
  obtain ⟨a, b, ks, ls, rfl, rfl, ha, hb, fa, fb, q⟩ := h
  cases (show v = Value.ref a from rx)
  cases (show u = Value.ref b from ry)
  obtain ⟨_, ya, va, ra, da⟩ := dk_rd I.hok ha
  obtain ⟨_, yb, vb, rb, db⟩ := dk_rd I.hok hb
  refine PySem.W.rcP_dicts (knd := mixKind X.prog X.w) ya yb da db (by omega) (fun _ => hits_flat rb fb ra fa) _ _ ⟨.bl _, H, I, rfl, ?_⟩
  have e : (va.length == vb.length) = decide (ks.length = ls.length) := by
    rw [← ra.length, ← rb.length]
    rfl
  rw [e]
  exact q
def dEqK (x y : D) : R D := match x, y with
  | .dk ks ds, .dk ls es => (match flL ds, flL es with
    | some vs, some us => .ok (.bl (eqKV (ks.zip vs) (ls.zip us)))
    | _, _ => .stuck)
  | _, _ => .stuck
theorem sat_eqK {X : Cx} : Sat2 X rEqK dEqK := by
  intro F H x y v u E Q z rx ry p
  unfold dEqK at p
  split at p
  case h_2 => exact p.elim
  rename_i ks ds ls es
  obtain ⟨a, vs, e1, e2, e3, e4⟩ := dk_rdH (X := X) z rx
  obtain ⟨b, us, g1, g2, g3, g4⟩ := dk_rdH (X := X) z ry
  cases hd : flL ds with
  | none => rw [hd] at p; exact p.elim
  | some vs' =>
    cases he : flL es with
    | none => rw [hd, he] at p; exact p.elim
    | some us' =>
      rw [hd, he] at p
      obtain ⟨q1, q2⟩ := flL_is hd e4
      obtain ⟨q3, q4⟩ := flL_is he g4
      subst q1 q3
      have p3 : PostG X.K X.mg (repV X.K X.mg) F H E Q (.ok (.bl (eqKV (ks.zip vs) (ls.zip us)))) := p
      refine ⟨a, b, ks.zip vs, ls.zip us, e1, g1, e2, g2, fun q hq => ?_, fun q hq => ?_, PostG.ok p3 z Rp.bl⟩
      · exact List.all_eq_true.mp q2 _ (List.of_mem_zip hq).2
      · exact List.all_eq_true.mp q4 _ (List.of_mem_zip hq).2
/-! ### is, is not of truths -/
def dIsB : D → D → R D
  | .bl a, .bl b => .ok (.bl (decide (a = b)))
  | _, _ => .stuck
def dIsNotB : D → D → R D
  | .bl a, .bl b => .ok (.bl (!decide (a = b)))
  | _, _ => .stuck
theorem sat_isB {X : Cx} : Sat2 X rIsB dIsB := by
  intro F H x y v u E Q z rx ry p
  unfold dIsB at p
  split at p
  case h_2 => exact p.elim
  exact ⟨_, _, rx.bl_iff, ry.bl_iff, PostG.ok p z Rp.bl⟩
theorem sat_notB {X : Cx} : Sat2 X rNotB dIsNotB := by
  intro F H x y v u E Q z rx ry p
  unfold dIsNotB at p
  split at p
  case h_2 => exact p.elim
  exact ⟨_, _, rx.bl_iff, ry.bl_iff, PostG.ok p z Rp.bl⟩
end DL
set_option Elab.async false
set_option linter.all false
set_option maxRecDepth 100000
set_option maxHeartbeats 4000000
/-! The data layer: defs whose exceptions have no context; except X as e: raise C(e.f, x) from None. -/
namespace HO
open PySem PySem.Spec PyProof.Rows L2
/-- o.m(e, ..), the class known by the reading; no exception that has a context -/
def tMethN (X : Cx) (W : WX) (k : Nat) (m : Str) (ta : TE) (t : TA) : TE := fun σ H Q => ta σ H fun x H1 => ∃ a C dx fs f fd ps sp, x = .ref a ∧ H1 a = some (.ins C dx fs) ∧ fs.lookup m = none ∧ Cls X.K C ∧ Meth X.K C m f ∧ Binds X.K fd ps [] ∧
  FnOk X.prog X.w X.K X.mg X.base (L2N.CX X.prog X.w) k f fd ps sp ∧ t σ H1 fun vs H2 => sp (x :: vs) H2 Q (WE W σ)
section
variable {X : Cx} {W : WX} {k : Nat} {m : Str} {pos apos : Pos} {e o : Expr} {es : List Expr} {ta : TE} {t : TA}
theorem pe_methN {pl : Sem Bool} (he : PE X o ta) (hr : Room k X.A) (hx : ∀ σ, PassesAt (L2N.CX X.prog X.w) X σ (WE W σ)) (ha : PA X (e :: es) t)
    (hst : starEach (e :: es) X.env = (false, eval e X.env) :: starEach es X.env := by rfl) (hpl : (backTo pos (starEach es X.env)).any (·.1) = false := by rfl)
    (ht : eval (.Call (.Attribute o m apos) (e :: es) [] pos) X.env = (do
      let ov ← eval o X.env
      standAt apos.atName
      let (f, first) ← holding [ov] (getMethod ov m pl)
      callWith pos f first (backTo pos (starEach (e :: es) X.env)) (backToKw pos (keywordEach [] X.env))) := by rfl) :
    PE X (.Call (.Attribute o m apos) (e :: es) [] pos) (tMethN X W k m ta t) := by
  refine ⟨fun pins s σ H Q I h => ?_⟩
  refine PySem.W.methodCall_KW (pl := pl) (thn (he.run pins s σ H _ I h) fun u s1 ⟨x, H1, I1, rx, a, C, dx, fs, f, fd, ps, sp, ex, ea, l, c, hm, hb, F, q⟩ => ?_) ht
  subst ex
  obtain rfl : u = Value.ref a := rx
  refine getmeth_ok I1 ea c hm l ?_
  refine PySem.W.callWith_K (first := [.ref a]) (h₀ := X.base) I.ok.mod.kin hm.kp (thn (ha.run pos pins s1 σ H1 _ I1 q) fun us s2 ⟨vs, H2, I2, r, q2⟩ => ⟨I2.kIn, ?_⟩) hst hpl
  exact run_fnSD (us := .ref a :: us) (vs := .ref a :: vs) (ds := []) (dvs := []) (E := WE W) F hr hb .nil (hx σ) I2 (.cons rfl r) (by rw [List.append_nil]; exact q2)
end
end HO
namespace DL
open PySem PySem.Spec L2
abbrev OkWN (X : Cx) (W : WX) : Prop := ∀ σ, PassesAt (L2N.CX X.prog X.w) X σ (WE W σ)
/-- each class of tb has the method m that does what tb says; no exception that has a context -/
def KnMN (P : Program) (w : World) (K : PySem.W.Frag) (mg : Str → Option Value) (base : Heap) (k : Nat) (tb : List (Str × (List D → R D))) (m : Str) (n : Nat) : Prop :=
  ∀ e ∈ tb, ∃ C f fd ps, mg e.1 = some (.ref C) ∧ Cls K C ∧ Meth K C m f ∧ Binds K fd ps [] ∧ FnOk P w K mg base (L2N.CX P w) k f fd ps (spD K mg (n + 1) e.2)
theorem KnMN.knm {P : Program} {w : World} {K : PySem.W.Frag} {mg : Str → Option Value} {base : Heap} {k n : Nat} {tb : List (Str × (List D → R D))} {m : Str} (h : KnMN P w K mg base k tb m n) : KnM P w K mg base k tb m n := fun e he => by
  obtain ⟨C, f, fd, ps, h1, h2, h3, h4, G⟩ := h e he
  exact ⟨C, f, fd, ps, h1, h2, h3, h4, HX.fnOk_ofN G⟩
section
variable {P : Program} {w : World} {K : PySem.W.Frag} {mg : Str → Option Value} {base : Heap} {x qual : Str} {params : Arguments} {body : List Stmt} {scope : Scope} {f : Addr} {fd : FuncData} {N ps : List Str} {k : Nat} {g : DL.Env → Out}
theorem okWOfN {cdv : Value} {A : Around} {outer : List PySem.Env} {s : Shared} {H : Hp} {E : XK} :
    OkWN (cxOf (L2N.CX P w) P w K mg base N qual scope f cdv A outer s H E) (WOf E) := fun σ => L2N.passAt (L2N.takes_of rfl rfl rfl rfl) σ
theorem passOwnOfN {cdv : Value} {A : Around} {outer : List PySem.Env} {s : Shared} {H : Hp} {E : XK} :
    PassesOwn (model P w) (cxOf (L2N.CX P w) P w K mg base N qual scope f cdv A outer s H E).A (cxOf (L2N.CX P w) P w K mg base N qual scope f cdv A outer s H E).env (cxOf (L2N.CX P w) P w K mg base N qual scope f cdv A outer s H E).xe := passes_of rfl
theorem fn_okN (Fd : FunD K x qual params body scope [] [] f fd) (S : FnScope N ps scope) (hl : ps.length ≤ N.length)
    (hb : ∀ (cdv : Value) (A : Around) (outer : List PySem.Env) (s : Shared) (H : Hp) (E : XK), Room k (A.deeper (PyProof.Rows.envOfC qual scope s.heap.objs.size f cdv)) → DSs (cxOf (L2N.CX P w) P w K mg base N qual scope f cdv A outer s H E) (WOf E) body g) :
    FnOk P w K mg base (L2N.CX P w) (k + 1) f fd ps (spD K mg ps.length (mk N.length g)) := by
  refine Fd.ok S (fun vs H Q E h => spD_len h) fun cdv A outer s H vs Q E hr h => ?_
  obtain ⟨F, ds, l, z, r, p⟩ := h
  refine ⟨_, hb cdv A outer s H E hr, ⟨F, .non⟩, H, F, stE N.length ds, start_rel z r (by rw [l]; exact hl), ?_⟩
  revert p
  unfold mk
  cases g (stE N.length ds) with
  | nx Γ => exact fun p σ F1 H1 r1 => p _ F1 H1 r1.ext Rp.non
  | rt d => exact fun p v F1 H1 x1 r1 => p v F1 H1 x1 r1
  | ro ds =>
    intro p v F1 H1 x1 r1
    obtain ⟨F2, x2, r2, _⟩ := frzO x1 r1
    exact p v F2 H1 x2 r2
  | exc x Γ => exact fun p cls od σ F1 H1 r1 q => p cls od F1 H1 r1.ext q
  | bk Γ => exact fun p => p.elim
  | ct Γ => exact fun p => p.elim
  | stuck => exact fun p => p.elim
end
section
variable {X : Cx} {W : WX} {j k n : Nat} {c f g m : Str} {e e2 o : Expr} {es : List Expr} {p pos pos2 apos : Pos} {fs : DL.Env → R (List D)} {fo : DL.Env → R D} {tb : List (Str × (List D → R D))}
theorem meth_readN (h : KnMN X.prog X.w X.K X.mg X.base j tb m n) (hj : j ≤ k) {t : TA} (ht : ∀ (F0 : Fe) (H0 F H : Hp) (σ : L2.St) (Γ : DL.Env) (Q : List V → Hp → Prop), Rel X.K X.mg F0 H0 F H σ Γ → PostG X.K X.mg (repL X.K X.mg) F H (WE W σ) Q (fs Γ) → t σ H Q) :
    ∀ σ H Q, tD X W (eMeth tb m n fo fs) σ H Q → HO.tMethN X W k m (tD X W fo) t σ H Q := by
  rintro σ H Q ⟨F0, H0, F, Γ, r, p⟩
  refine ⟨F0, H0, F, Γ, r, PostG.bind p (fun x v F1 H1 _ x1 r1 p1 => ?_) fun _ _ _ _ _ h => h⟩
  have r1 : Rp X.K X.mg F1 x v := r1
  cases x with
  | obj c ns ws =>
    have r0 := r1
    unfold Rp at r1
    obtain ⟨a, C, dx, vs, rfl, hm, ea, hl, rr⟩ := r1
    have p1 : PostG X.K X.mg (repV X.K X.mg) F1 H1 (WE W σ) Q (if m ∈ ns then .stuck else (match lkC tb c with
      | some mf => (fs Γ).bind fun ds => if ds.length = n then mf (.obj c ns ws :: ds) else .stuck
      | none => .stuck)) := p1
    by_cases q1 : m ∈ ns
    · rw [if_pos q1] at p1
      exact p1.elim
    · rw [if_neg q1] at p1
      cases el : lkC tb c with
      | none => rw [el] at p1; exact p1.elim
      | some mf =>
        rw [el] at p1
        have p1 : PostG X.K X.mg (repV X.K X.mg) F1 H1 (WE W σ) Q ((fs Γ).bind fun ds => if ds.length = n then mf (.obj c ns ws :: ds) else .stuck) := p1
        obtain ⟨C', f, fd, ps, hm', cl, me, hb, G⟩ := h (c, mf) (lkC_ok el)
        rw [hm] at hm'
        cases hm'
        refine ⟨a, C, dx, _, f, fd, ps, _, rfl, x1.fh.ins ea, zip_none q1, cl, me, hb, G.mono hj, ht _ _ _ _ _ _ _ (r.step x1) ?_⟩
        refine PostG.bind p1 (fun ds us F2 H2 _ x2 r2 p2 => ?_) fun _ _ _ _ _ h => h
        obtain ⟨hl2, p3⟩ := ifR p2
        exact ⟨F2, .obj c ns ws :: ds, by rw [List.length_cons, hl2], x2.fh, RpL.cons (Rp.mono x2.ff _ _ r0) r2, p3⟩
  | _ => exact p1.elim
theorem de_methN {pl : Sem Bool} (h : KnMN X.prog X.w X.K X.mg X.base j tb m n) (hr : Room k X.A) (ho : DE X W o fo) (ha : DA X W (e :: es) fs) (hx : OkWN X W) (hj : j ≤ k := by decide)
    (hst : starEach (e :: es) X.env = (false, eval e X.env) :: starEach es X.env := by rfl) (hpl : (backTo pos (starEach es X.env)).any (·.1) = false := by rfl)
    (ht : eval (.Call (.Attribute o m apos) (e :: es) [] pos) X.env = (do
      let ov ← eval o X.env
      standAt apos.atName
      let (f, first) ← holding [ov] (getMethod ov m pl)
      callWith pos f first (backTo pos (starEach (e :: es) X.env)) (backToKw pos (keywordEach [] X.env))) := by rfl) :
    DE X W (.Call (.Attribute o m apos) (e :: es) [] pos) (eMeth tb m n fo fs) :=
  PE.weak (HO.pe_methN (pl := pl) ho hr hx ha hst hpl ht) (meth_readN h hj fun F0 H0 F H σ Γ Q r p => ⟨F0, H0, F, Γ, r, p⟩)
theorem ds_kx2N (h : Kx2 X.prog X.w X.K X.mg X.base j c f g) (hr : Room k X.A) (hcalm : X.calm = true) (tk : L2N.Takes X W) (ha : DA X W [e, e2] fs) (hj : j + 1 ≤ k := by decide) (hg : Gl X c := by unfold L2.Gl; kernel_rfl) (hdb : (c == ("__debug__" : Str)) = false := by kernel_rfl)
    (he : starEach [e, e2] X.env = (false, eval e X.env) :: starEach [e2] X.env := by rfl) (hpl : (backTo pos (starEach [e2] X.env)).any (·.1) = false := by rfl) : DS X W (.Raise (some (.Call (.Name c p) [e, e2] [] pos)) none pos2) (sRaise c [g, f] fs) := by
  obtain ⟨C, fI, fd, ps, gC, T, iC, tI, F1, hb⟩ := h
  have hx : Passes (L2.CX X.prog X.w) X (fun _ _ _ => False) := fun _ _ _ _ _ _ _ h => by
    obtain ⟨_, _, _, _, _, _, _, _, _, _, _, _, z⟩ := h
    exact z.elim
  refine PS.weak (L2N.ps_raise hcalm tk (HX.mkN T iC tI F1 (hr.mono hj) hb hx hg gC ha hdb he hpl)) ?_
  rintro Dn σ H ⟨F0, H0, F, Γ, r, p⟩
  refine ⟨F0, H0, F, Γ, r, PostS.out r p fun ds vs F1 H1 _ x1 r1 p1 => ?_⟩
  by_cases hl : ds.length = [g, f].length
  · rw [if_pos hl] at p1
    have r1 : RpL X.K X.mg F1 ds vs := r1
    cases ds with
    | nil => cases hl
    | cons d ds =>
      cases ds with
      | nil => cases hl
      | cons d2 ds =>
        cases ds with
        | cons _ _ => cases hl
        | nil =>
          obtain ⟨v, u, rfl, rv, ru⟩ := r1.two
          refine ⟨by show 2 ≤ 1000; decide, fun a na => ⟨a, v, u, rfl, upd_same, fun dx n ne => ?_⟩⟩
          rw [upd_ne ne] at n
          refine ⟨rfl, dx, [(g, u), (f, v)], by rw [upd_ne (Ne.symm ne), upd_same], upd_same, n, ?_⟩
          rw [del_upd2 na ne]
          exact raise_end (ns := [g, f]) (vs := [u, v]) (r.step x1) gC p1 n rfl (RpL.cons ru (RpL.cons rv RpL.nil))
  · rw [if_neg hl] at p1
    exact p1.elim
end
/-! ### except X as e: raise C(e.f, x) from None -/
/-- C's __init__ of two fields, where an exception is handled -/
def Kx2H (P : Program) (w : World) (K : PySem.W.Frag) (mg : Str → Option Value) (base : Heap) (j : Nat) (c f g : Str) : Prop := ∃ C fI fd ps, mg c = some (.ref C) ∧ OexC K C ∧ PySem.W.findIn K (.ref C) "__init__" = some (some (.ref fI)) ∧ PySem.W.typeIn K (.ref fI) = some (.type "function") ∧
  L2H.FnH P w K mg base (L2.CX P w) j fI fd ps (HX.sp2 K C f g) ∧ Binds K fd ps []
def sTryR (i : Nat) (sub : Str → Option Bool) (c f1 f2 fl : Str) (g : DL.Env → Out) (fe : DL.Env → R D) : DL.Env → Out := fun Γ => match g Γ with
  | .exc (.exc c0 ns ds) Γ' => (match sub c0 with
    | some true => if i < Γ'.length then (match lkN ns ds fl with
      | some d => (match fe (Γ'.set i none) with
        | .ok d2 => .exc (.exc c [f2, f1] [d2, d]) (Γ'.set i none)
        | _ => .stuck)
      | none => .stuck) else .stuck
    | some false => .exc (.exc c0 ns ds) Γ'
    | none => .stuck)
  | .exc _ _ => .stuck
  | o => o
section
variable {K : PySem.W.Frag} {mg : Str → Option Value} {F0 : Fe} {H0 F H : Hp} {σ : L2.St} {Γ : DL.Env}
/-- a slot of which nothing is known -/
theorem Rel.setU (r : Rel K mg F0 H0 F H σ Γ) (i : Nat) (o : Option V) : Rel K mg F0 H0 F H (σ.set i o) (Γ.set i none) := by
  refine ⟨r.ext, by rw [List.length_set, List.length_set]; exact r.len, fun j s e => ?_, fun j k s t u w l ej ek hj hk os ot => ?_, r.slf.set i fun _ _ _ z => nomatch z⟩
  · by_cases q : i = j
    · subst q
      have hi : i < Γ.length := by
        have := (List.getElem?_eq_some_iff.mp e).1
        rwa [List.length_set] at this
      rw [List.getElem?_set_self hi] at e
      cases e
    · rw [List.getElem?_set_ne q] at e ⊢
      exact r.slot j s e
  · have nj : i ≠ j := fun q => by
      subst q
      have hi : i < Γ.length := by
        have := (List.getElem?_eq_some_iff.mp ej).1
        rwa [List.length_set] at this
      rw [List.getElem?_set_self hi] at ej
      cases ej
    have nk : i ≠ k := fun q => by
      subst q
      have hi : i < Γ.length := by
        have := (List.getElem?_eq_some_iff.mp ek).1
        rwa [List.length_set] at this
      rw [List.getElem?_set_self hi] at ek
      cases ek
    rw [List.getElem?_set_ne nj] at ej hj
    rw [List.getElem?_set_ne nk] at ek hk
    exact r.inj j k s t u w l ej ek hj hk os ot
end
section
variable {X : Cx} {Wout : WX} {body : List Stmt} {x n c f1 f2 fl : Str} {j : Nat} {sub : Str → Option Bool} {g : DL.Env → Out} {fe : DL.Env → R D} {e2 : Expr} {np pos pos' p2 p3 p4 p5 p6 p7 : Pos} {ck : Nat}
/-- what the suite reads -/
def tRz (X : Cx) (i : Nat) (C : Addr) (fl f1 f2 : Str) (dd a : Addr) (t2 : TE) : St → Hp → XK → Prop := tMkO C (HX.sp2 X.K C f1 f2) [] (tCons (fun σ H Q => tVar i σ H fun x H1 => x = .ref a ∧ ∃ (fs : List (Str × V)) (v : V), H1 dd = some (.xd fs) ∧ fs.lookup fl = some v ∧ Q v H1) (tCons t2 tNil))
theorem ds_tryR (i : Nat) (h : KxT X.K X.mg x sub) (hN : X.N.Nodup) (tk : Takes X Wout)
    (hpa : ∀ hd : Option Value, PassesOwnAt (model X.prog X.w) (X.A.mark hd) X.A X.env X.xe)
    (kx : Kx2H X.prog X.w X.K X.mg X.base j c f1 f2) (hr : Room (j + 1) X.A)
    (hX : ∀ c0 C0, sub c0 = some true → X.mg c0 = some (.ref C0) → XfC X.K C0 ∧ PySem.W.findIn X.K (.ref C0) fl = some none)
    (hb : ∀ (W : WX) (pn : List (Addr × Obj)) (xe : Value → Shared → Prop), L2N.Takes (X.tr pn xe) W → PassesOwn (model X.prog X.w) X.A X.env xe → DSs (X.tr pn xe) W body g)
    (he : ∀ (a : Addr) (pn : List (Addr × Obj)), DE (HX.asX X n pos' a pn) W0 e2 fe)
    (hs : X.stack = X.env :: X.outer := by rfl) (hf : X.env.frame = some X.env.locals := by rfl) (hi : X.N[i]? = some n := by rfl) (hln : X.env.kindOf n = some .local := by kernel_rfl) (hex : X.ex = [] := by rfl)
    (hvn : Vis X.env.scope n := by exact Or.inl (by kernel_rfl)) (hdn : (n == ("__debug__" : Str)) = false := by kernel_rfl) (hcn : (n == ("__classdict__" : Str)) = false := by kernel_rfl)
    (hgc : Gl X c := by unfold L2.Gl; kernel_rfl) (hdc : (c == ("__debug__" : Str)) = false := by kernel_rfl)
    (hst : ∀ (a : Addr) (pn : List (Addr × Obj)), starEach [.Attribute (.Name n p2) fl p3, e2] (HX.asX X n pos' a pn).env = (false, eval (.Attribute (.Name n p2) fl p3) (HX.asX X n pos' a pn).env) :: starEach [e2] (HX.asX X n pos' a pn).env := by exact fun _ _ => rfl)
    (hst2 : ∀ (a : Addr) (pn : List (Addr × Obj)), starEach [e2] (HX.asX X n pos' a pn).env = (false, eval e2 (HX.asX X n pos' a pn).env) :: starEach [] (HX.asX X n pos' a pn).env := by exact fun _ _ => rfl)
    (hpl : ∀ (a : Addr) (pn : List (Addr × Obj)), (backTo p5 (starEach [e2] (HX.asX X n pos' a pn).env)).any (·.1) = false := by exact fun _ _ => rfl)
    (hat : attributeBase (.Name n p2) fl X.env (eval (.Name n p2) X.env) = eval (.Name n p2) X.env := by rfl)
    (hgx : Gl X x := by unfold L2.Gl; kernel_rfl) (hdx : (x == ("__debug__" : Str)) = false := by kernel_rfl) :
    DS X Wout (.Try body [.ExceptHandler (some (.Name x np)) (some n) [.Raise (some (.Call (.Name c p4) [.Attribute (.Name n p2) fl p3, e2] [] p5)) (some (.Constant .none ck p6)) p7] pos'] [] [] pos) (sTryR i sub c f1 f2 fl g fe) := by
  obtain ⟨C0, gC0, hsub⟩ := h
  obtain ⟨C, fI, fd, ps, gC, T, iC, tI, F1, hbn⟩ := kx
  refine PS.weak (HX.ps_try_raise hs hf hN hi hln hex ⟨hgx, hdx, .inl gC0⟩ tk hpa (tb := fun W => tDS X W g)
    (ts := fun a cls d _ σ H => ∃ Cx dd, cls = .ref Cx ∧ d = some dd ∧ XfC X.K Cx ∧ PySem.W.findIn X.K (.ref Cx) fl = some none ∧ tRz X i C fl f1 f2 dd a (tD X W0 fe) σ H fun cls' d' H' => Wout cls' d' (σ.set i none) H')
    (fun W pn xe t q => PSs.weak (hb W pn xe t q) fun _ _ _ h => h) (fun a oe cls d pn hz hrec tks hot => ?_)) ?_
  · refine ⟨fun pins s σ H D I hh => ?_⟩
    obtain ⟨Cx, dd, rfl, rfl, TX, no, q⟩ := hh
    have hx : Passes (L2.CX X.prog X.w) (HX.asX X n pos' a ((a, oe) :: pn)) (fun _ _ _ => False) := fun _ _ _ _ _ _ _ h => by
      obtain ⟨_, _, _, _, _, _, _, _, _, _, _, _, z⟩ := h
      exact z.elim
    have ha : PA (HX.asX X n pos' a ((a, oe) :: pn)) [.Attribute (.Name n p2) fl p3, e2] (tCons (fun σ H Q => tVar i σ H fun x H1 => x = .ref a ∧ ∃ (fs : List (Str × V)) (v : V), H1 dd = some (.xd fs) ∧ fs.lookup fl = some v ∧ Q v H1) (tCons (tD X W0 fe) tNil)) :=
      pa_cons (HX.pe_pf (X := HX.asX X n pos' a ((a, oe) :: pn)) (a := a) (C := Cx) (dd := dd) (oe := oe) (f := fl) TX no hz.zc hrec List.mem_cons_self (pe_var (X := HX.asX X n pos' a ((a, oe) :: pn)) (i := i) hi hvn hdn hcn) hat) (pa_cons (he a ((a, oe) :: pn)) pa_nil (hst2 _ _)) (hst _ _)
    have one := L2H.ps_raiseHN (X := HX.asX X n pos' a ((a, oe) :: pn)) (W := fun cls d σ H => Wout cls d (σ.set i none) H) (j := ck) (cpos := p6) (pos := p7) hot tks
      (L2H.pmk5_oexH (X := HX.asX X n pos' a ((a, oe) :: pn)) (CX := L2.CX X.prog X.w) (p := p4) (pos := p5) T iC tI F1 (L2H.roomH_mark hr _) hot hbn hx hgc gC ha hdc (hst _ _) (hpl _ _))
    exact (pss_cons one pss_nil).run pins s σ H D I q
  rintro Dn σ H ⟨F0, H0, F, Γ, r, p⟩
  refine ⟨F0, H0, F, Γ, r, ?_⟩
  revert p
  unfold sTryR
  cases e : g Γ with
  | exc y Γ' =>
    cases y with
    | exc c0 ns ds =>
      intro p cls od σ' F' H' r' q
      obtain ⟨Cy, ec, gCy, qd⟩ := q
      subst ec
      have p : PostS X Wout F0 H0 Dn (match sub c0 with
        | some true => if i < Γ'.length then (match lkN ns ds fl with
          | some d => (match fe (Γ'.set i none) with
            | .ok d2 => .exc (.exc c [f2, f1] [d2, d]) (Γ'.set i none)
            | _ => .stuck)
          | none => .stuck) else .stuck
        | some false => .exc (.exc c0 ns ds) Γ'
        | none => .stuck) := p
      cases es : sub c0 with
      | none => rw [es] at p; exact p.elim
      | some b =>
        rw [es] at p
        refine ⟨b, hsub c0 b Cy es gCy, fun hbt a na => ?_, fun hbf => ?_⟩
        · subst hbt
          have p : PostS X Wout F0 H0 Dn (if i < Γ'.length then (match lkN ns ds fl with
            | some d => (match fe (Γ'.set i none) with
              | .ok d2 => .exc (.exc c [f2, f1] [d2, d]) (Γ'.set i none)
              | _ => .stuck)
            | none => .stuck) else .stuck) := p
          by_cases hlt : i < Γ'.length
          case neg => rw [if_neg hlt] at p; exact p.elim
          rw [if_pos hlt] at p
          have hil : i < σ'.length := by rw [r'.len]; exact hlt
          have p : PostS X Wout F0 H0 Dn (match lkN ns ds fl with
            | some d => (match fe (Γ'.set i none) with
              | .ok d2 => .exc (.exc c [f2, f1] [d2, d]) (Γ'.set i none)
              | _ => .stuck)
            | none => .stuck) := p
          cases el : lkN ns ds fl with
          | none => rw [el] at p; exact p.elim
          | some d =>
            rw [el] at p
            have p : PostS X Wout F0 H0 Dn (match fe (Γ'.set i none) with
              | .ok d2 => .exc (.exc c [f2, f1] [d2, d]) (Γ'.set i none)
              | _ => .stuck) := p
            rcases qd with ⟨w1, _, _⟩ | ⟨dd, vs, w, ed, hl, rr⟩
            · rw [w1] at el; simp [lkN] at el
            subst w
            obtain ⟨v, ez, rv⟩ := lkN_rp rr el
            obtain ⟨TX, no⟩ := hX c0 Cy es gCy
            refine ⟨Cy, dd, rfl, rfl, TX, no, ?_⟩
            refine ⟨.ref a, List.getElem?_set_self hil, rfl, _, v, r'.fz.xd ed, ez, ?_⟩
            refine ⟨F0, H0, F', Γ'.set i none, r'.setU i _, ?_⟩
            revert p
            cases ef : fe (Γ'.set i none) with
            | exc _ => exact fun p => p.elim
            | stuck => exact fun p => p.elim
            | ok d2 =>
              intro p u F2 H2 x2 ru
              have p : PostS X Wout F0 H0 Dn (.exc (.exc c [f2, f1] [d2, d]) (Γ'.set i none)) := p
              refine ⟨by show 2 ≤ 1000; decide, fun b nb => ⟨b, v, u, rfl, upd_same, fun dx nd ne => ?_⟩⟩
              rw [upd_ne ne] at nd
              refine ⟨rfl, dx, [(f2, u), (f1, v)], by rw [upd_ne (Ne.symm ne), upd_same], upd_same, nd, ?_⟩
              rw [del_upd2 nb ne]
              have r3 := (r'.setN i).step x2
              have es2 : (σ'.set i (some (.ref a))).set i none = σ'.set i none := setN_ov _ _ _
              rw [es2]
              exact raise_end (ns := [f2, f1]) (vs := [u, v]) r3 gC p nd rfl (RpL.cons ru (RpL.cons (Rp.mono x2.ff _ _ rv) RpL.nil))
        · subst hbf
          exact p _ _ σ' F' H' r' ⟨Cy, rfl, gCy, qd⟩
    | _ => exact fun p => p.elim
  | _ => exact fun p => p
end
theorem xfG {K : PySem.W.Frag} {mg : Str → Option Value} {cs csf : List Str} {tb : Tb} {x fl : Str} (E : ExF K mg cs tb) (hx : ysG x = [x]) (hc : x ∈ cs) (ho : x ∉ OSG) (ha : ∀ c ∈ csf, ∀ C, mg c = some (.ref C) → PySem.W.findIn K (.ref C) fl = some none) (hf : x ∈ csf) :
    ∀ c0 C0, subG x c0 = some true → mg c0 = some (.ref C0) → XfC K C0 ∧ PySem.W.findIn K (.ref C0) fl = some none := fun c0 C0 e gc => by
  unfold subG at e
  by_cases q : c0 ∈ CSG
  case neg => rw [if_neg q] at e; cases e
  rw [if_pos q, hx] at e
  have e2 : c0 = x := List.mem_singleton.mp (of_decide_eq_true (Option.some.inj e))
  subst e2
  obtain ⟨C, hm, T, _⟩ := E.cls c0 hc
  rw [gc] at hm
  cases hm
  exact ⟨(T ho).f, ha c0 hf C0 gc⟩
end DL
set_option Elab.async false
set_option linter.all false
set_option maxRecDepth 100000
set_option maxHeartbeats 4000000
/-! The data layer: f-strings, split, partition, join. -/
namespace DL
open PySem PySem.Spec L2
/-! ### f-strings -/
def dFmt : D → R D
  | .str y => if y.length ≤ LIM then .ok (.str y) else .stuck
  | .int i => if i.natAbs.log2 < 1920 then .ok (.str (toString i)) else .stuck
  | _ => .stuck
def jsE : List (DL.Env → R D) → Str → DL.Env → R D
  | [], acc, _ => .ok (.str acc)
  | f :: fs, acc, Γ => (f Γ).bind fun d => match d with
    | .str y => if (acc ++ y).length ≤ LIM then jsE fs (acc ++ y) Γ else .stuck
    | _ => .stuck
def eJs (fs : List (DL.Env → R D)) : DL.Env → R D := jsE fs Str.empty
section
variable {X : Cx} {W : WX} {e o v1 v2 : Expr} {rest es : List Expr} {f fo fe : DL.Env → R D} {fs : List (DL.Env → R D)} {pos apos : Pos}
theorem de_fmt (h : DE X W e f) : DE X W (.FormattedValue e (-1) none pos) (eUn dFmt f) := by
  refine PE.weak (pe_fmt h) ?_
  rintro σ H Q ⟨F0, H0, F, Γ, r, p⟩
  refine ⟨F0, H0, F, Γ, r, PostG.bind p (fun x v F1 H1 _ x1 r1 p1 => ?_) fun _ _ _ _ _ h => h⟩
  cases x with
  | str y =>
    obtain ⟨c, p2⟩ := ifR (show PostG X.K X.mg (repV X.K X.mg) F1 H1 (WE W σ) Q (if y.length ≤ LIM then .ok (.str y) else .stuck) from p1)
    exact .inl ⟨y, Rp.str_iff r1, by rw [LIM_eq]; exact c, PostG.ok p2 x1.fh Rp.str⟩
  | int i =>
    obtain ⟨c, p2⟩ := ifR (show PostG X.K X.mg (repV X.K X.mg) F1 H1 (WE W σ) Q (if i.natAbs.log2 < 1920 then .ok (.str (toString i)) else .stuck) from p1)
    exact .inr ⟨i, Rp.int_iff r1, c, PostG.ok p2 x1.fh Rp.str⟩
  | _ => exact p1.elim
inductive DJ (X : Cx) (W : WX) : List Expr → List (DL.Env → R D) → Prop where
  | nil : DJ X W [] []
  | cons {e : Expr} {f : DL.Env → R D} {es : List Expr} {fs : List (DL.Env → R D)} (h : DE X W e f) (r : DJ X W es fs) : DJ X W (e :: es) (f :: fs)
theorem DJ.pj (h : DJ X W es fs) : PJ X es (fs.map (tD X W)) := by
  induction h with
  | nil => exact .nil
  | cons h _ ih => exact .cons h ih
theorem js_read : ∀ (fs : List (DL.Env → R D)) (acc : Str) (σ : L2.St) (F0 : Fe) (H0 F H : Hp) (Γ : DL.Env) (Q : VK), Rel X.K X.mg F0 H0 F H σ Γ → PostG X.K X.mg (repV X.K X.mg) F H (WE W σ) Q (jsE fs acc Γ) → tJs (fs.map (tD X W)) acc σ H fun out H1 => Q (.str out) H1
  | [], acc, σ, F0, H0, F, H, Γ, Q, r, p => PostG.ok p r.fz Rp.str
  | f :: fs, acc, σ, F0, H0, F, H, Γ, Q, r, p => by
    refine ⟨F0, H0, F, Γ, r, PostG.bind p (fun x v F1 H1 _ x1 r1 p1 => ?_) fun _ _ _ _ _ h => h⟩
    cases x with
    | str y =>
      obtain ⟨c, p2⟩ := ifR (show PostG X.K X.mg (repV X.K X.mg) F1 H1 (WE W σ) Q (if (acc ++ y).length ≤ LIM then jsE fs (acc ++ y) Γ else .stuck) from p1)
      exact ⟨y, Rp.str_iff r1, by rw [LIM_eq]; exact c, js_read fs (acc ++ y) σ F0 H0 F1 H1 Γ Q (r.step x1) p2⟩
    | _ => exact p1.elim
theorem de_js (h : DJ X W (v1 :: v2 :: rest) fs) : DE X W (.JoinedStr (v1 :: v2 :: rest) pos) (eJs fs) := by
  refine PE.weak (pe_joined h.pj) ?_
  rintro σ H Q ⟨F0, H0, F, Γ, r, p⟩
  exact js_read fs Str.empty σ F0 H0 F H Γ Q r p
/-! ### methods of texts -/
def eM1 (g : D → D → R D) (fa fb : DL.Env → R D) : DL.Env → R D := fun Γ => (fa Γ).bind fun x => match x with
  | .str a => (fb Γ).bind fun y => g (.str a) y
  | _ => .stuck
def oM1 (g : D → D → R (List D)) (fa fb : DL.Env → R D) : DL.Env → R (List D) := fun Γ => (fa Γ).bind fun x => match x with
  | .str a => (fb Γ).bind fun y => g (.str a) y
  | _ => .stuck
def oSplit : D → D → R (List D)
  | .str a, .str b => if decide (0 < b.length) && decide (a.length + 2 ≤ LIM) then .ok ((Txt.split a b).map D.str) else .stuck
  | _, _ => .stuck
def dPart : D → D → R D
  | .str a, .str b => if decide (0 < b.length) && decide (a.length ≤ LIM) then .ok (.tup [.str (Txt.partition a b).1, .str (Txt.partition a b).2.1, .str (Txt.partition a b).2.2]) else .stuck
  | _, _ => .stuck
def strL : List D → Option (List Str)
  | [] => some []
  | .str y :: ds => (strL ds).map (y :: ·)
  | _ => none
def dJoin : D → D → R D
  | .str a, .lst ds => (match strL ds with
    | some ys => if (ys.map (·.length)).sum + ys.length * a.length ≤ 16777216 then .ok (.str (Txt.join a ys)) else .stuck
    | none => .stuck)
  | _, _ => .stuck
theorem strL_eq {K : PySem.W.Frag} {mg : Str → Option Value} {F : Hp} : ∀ {ds : List D} {ys : List Str} {vs : List V}, strL ds = some ys → RpL K mg F ds vs → vs = ys.map V.str
  | [], ys, vs, e, r => by cases e; exact r.nil_iff
  | d :: ds, ys, vs, e, r => by
    cases d with
    | str y =>
      unfold strL at e
      cases e2 : strL ds with
      | none => rw [e2] at e; cases e
      | some ys' =>
        rw [e2] at e
        cases e
        obtain ⟨v, us, e1, r1, r2⟩ := r.cons_iff
        rw [e1, Rp.str_iff r1, strL_eq e2 r2]
        rfl
    | _ => cases e
theorem m1_run {rr : V → List V → Hp → VK → Prop} {g : D → D → R D} (hsat : ∀ (F H : Hp) (x y : D) (v u : V) (E : XK) (Q : VK), Fz F H → Rp X.K X.mg F x v → Rp X.K X.mg F y u → PostG X.K X.mg (repV X.K X.mg) F H E Q (g x y) → rr v [u] H Q) {σ : L2.St} {H : Hp} {Q : VK}
    (h : tD X W (eM1 g fo fe) σ H Q) : tM1 rr (tD X W fo) (tD X W fe) σ H Q := by
  obtain ⟨F0, H0, F, Γ, r0, p⟩ := h
  refine ⟨F0, H0, F, Γ, r0, PostG.bind p (fun d v F1 H1 _ x1 r1 p1 => ?_) fun _ _ _ _ _ h => h⟩
  cases d with
  | str a =>
    refine ⟨⟨a, Rp.str_iff r1⟩, F0, H0, F1, Γ, r0.step x1, PostG.bind p1 (fun y u F2 H2 _ x2 r2 p2 => ?_) fun _ _ _ _ _ h => h⟩
    exact hsat F2 H2 (.str a) y _ u _ _ x2.fh (Rp.mono x2.ff _ _ r1) r2 p2
  | _ => exact p1.elim
theorem m1_runO {rr : V → List V → Hp → VK → Prop} {g : D → D → R (List D)} (hsat : ∀ (F H : Hp) (x y : D) (v u : V) (E : XK) (Q : VK), Fz F H → Rp X.K X.mg F x v → Rp X.K X.mg F y u → PostG X.K X.mg (repO X.K X.mg) F H E Q (g x y) → rr v [u] H Q) {σ : L2.St} {H : Hp} {Q : VK}
    (h : tDO X W (oM1 g fo fe) σ H Q) : tM1 rr (tD X W fo) (tD X W fe) σ H Q := by
  obtain ⟨F0, H0, F, Γ, r0, p⟩ := h
  refine ⟨F0, H0, F, Γ, r0, PostG.bind p (fun d v F1 H1 _ x1 r1 p1 => ?_) upO⟩
  cases d with
  | str a =>
    refine ⟨⟨a, Rp.str_iff r1⟩, F0, H0, F1, Γ, r0.step x1, PostG.bind p1 (fun y u F2 H2 _ x2 r2 p2 => ?_) upO⟩
    exact hsat F2 H2 (.str a) y _ u _ _ x2.fh (Rp.mono x2.ff _ _ r1) r2 p2
  | _ => exact p1.elim
theorem rpL_strs {K : PySem.W.Frag} {mg : Str → Option Value} {F : Hp} : ∀ ys : List Str, RpL K mg F (ys.map D.str) (ys.map V.str)
  | [] => RpL.nil
  | y :: ys => RpL.cons Rp.str (rpL_strs ys)
theorem pos_len {b : Str} (h : 0 < b.length) : (b.length == 0) = false := by
  simp only [beq_eq_false_iff_ne]
  omega
theorem do_split (ho : DE X W o fo) (ha : DE X W e fe) (hs1 : starEach [e] X.env = [(false, eval e X.env)] := by rfl) (hbase : attributeBase o "split" X.env (eval o X.env) = eval o X.env := by rfl) (hline : (apos.endLine == pos.line) = true := by rfl) :
    DO X W (.Call (.Attribute o "split" apos) [e] [] pos) (oM1 oSplit fo fe) := by
  refine PE.weak (pe_split ho ha hs1 hbase hline) fun σ H Q h => m1_runO (g := oSplit) (fun F H x y v u E Q z rx ry p => ?_) h
  unfold oSplit at p
  split at p
  case h_2 => exact p.elim
  rename_i a b
  obtain ⟨c, p2⟩ := ifR p
  obtain ⟨c1, c2⟩ := andB c
  refine ⟨a, b, Rp.str_iff rx, by rw [Rp.str_iff ry], pos_len (of_decide_eq_true c1), by rw [LIM_eq]; exact of_decide_eq_true c2, fun q hq => ?_⟩
  exact PostG.at p2 (Ext.heap z hq) ⟨q, _, rfl, upd_same, z.free hq, hq, rpL_strs _⟩
theorem de_part (ho : DE X W o fo) (ha : DE X W e fe) (hs1 : starEach [e] X.env = [(false, eval e X.env)] := by rfl) (hbase : attributeBase o "partition" X.env (eval o X.env) = eval o X.env := by rfl) (hline : (apos.endLine == pos.line) = true := by rfl) :
    DE X W (.Call (.Attribute o "partition" apos) [e] [] pos) (eM1 dPart fo fe) := by
  refine PE.weak (pe_partition ho ha hs1 hbase hline) fun σ H Q h => m1_run (g := dPart) (fun F H x y v u E Q z rx ry p => ?_) h
  unfold dPart at p
  split at p
  case h_2 => exact p.elim
  rename_i a b
  obtain ⟨c, p2⟩ := ifR p
  obtain ⟨c1, c2⟩ := andB c
  refine ⟨a, b, Rp.str_iff rx, by rw [Rp.str_iff ry], pos_len (of_decide_eq_true c1), by rw [LIM_eq]; exact of_decide_eq_true c2, fun q hq => ?_⟩
  exact PostG.at p2 (Ext.laid z hq) (Rp.tup upd_same (RpL.cons Rp.str (RpL.cons Rp.str (RpL.cons Rp.str RpL.nil))))
theorem de_join (ho : DE X W o fo) (ha : DE X W e fe) (hs1 : starEach [e] X.env = [(false, eval e X.env)] := by rfl) (hbase : attributeBase o "join" X.env (eval o X.env) = eval o X.env := by rfl) (hline : (apos.endLine == pos.line) = true := by rfl) :
    DE X W (.Call (.Attribute o "join" apos) [e] [] pos) (eM1 dJoin fo fe) := by
  refine PE.weak (pe_join ho ha hs1 hbase hline) fun σ H Q h => m1_run (g := dJoin) (fun F H x y v u E Q z rx ry p => ?_) h
  unfold dJoin at p
  split at p
  case h_2 => exact p.elim
  rename_i a ds
  cases e : strL ds with
  | none => rw [e] at p; exact p.elim
  | some ys =>
    rw [e] at p
    obtain ⟨c, p2⟩ := ifR (show PostG X.K X.mg (repV X.K X.mg) F H E Q (if (ys.map (·.length)).sum + ys.length * a.length ≤ 16777216 then .ok (.str (Txt.join a ys)) else .stuck) from p)
    obtain ⟨l, vs, ev, ea, rr⟩ := Rp.lstH z ry
    subst ev
    have e2 := strL_eq e rr
    subst e2
    exact ⟨a, l, ys, Rp.str_iff rx, rfl, .inl (SqL.of ea), c, PostG.ok p2 z Rp.str⟩
end
end DL
set_option Elab.async false
set_option linter.all false
set_option maxRecDepth 100000
set_option maxHeartbeats 4000000
/-! The data layer: + and slices of any tuples, str(..) of texts, int(..) of texts. -/
namespace DL
open PySem PySem.Spec L2
/-- +, also with an empty tuple at the left -/
def dAddA : D → D → R D
  | .tup xs, .tup ys => if xs.length + ys.length ≤ LIM then .ok (.tup (xs ++ ys)) else .stuck
  | x, y => dAdd x y
/-- a slice, also of a whole tuple -/
def slA1 (d : D) (lo hi : Option Int) : R D := match d with
  | .tup xs => .ok (.tup (cutL xs lo hi))
  | _ => sl1 d lo hi
def eSlA (f : DL.Env → R D) (fl fh : DL.Env → R (Option Int)) : DL.Env → R D := fun Γ => (f Γ).bind fun d => (fl Γ).bind fun lo => (fh Γ).bind fun hi => slA1 d lo hi
def dStrA1 : D → R D
  | .str z => .ok (.str z)
  | x => dStr1 x
abbrev dStrA := un1 dStrA1
def dIntA1 : D → R D
  | .str z => (match PySem.intText? z with
    | some n => if z.length ≤ 640 then .ok (.int n) else .stuck
    | none => .stuck)
  | x => dInt [x]
abbrev dIntA := un1 dIntA1
/-- a text within a text -/
def hasS (x z : Str) : Bool := match x.cps.toList with
  | [c] => decide (c ∈ z.cps.toList)
  | _ => !(Builtin.Str.occurrences z x 0 z.length 1).isEmpty
def dInS : D → D → R D
  | .str x, .str z => .ok (.bl (hasS x z))
  | _, _ => .stuck
def dNotInS : D → D → R D
  | .str x, .str z => .ok (.bl (!hasS x z))
  | _, _ => .stuck
section
variable {X : Cx} {W : WX} {e : Expr} {f : DL.Env → R D} {F0 : Fe} {H0 F H : Hp} {σ : L2.St} {Γ : DL.Env} {pos : Pos}
def rAddB (K : PySem.W.Frag) : R2 := fun x y H Q => rAddA K x y H Q ∨ rCatA K x y H Q
theorem opAddA : OpR X (binaryOp .Add) (rAddB X.K) := opAdd.or op_catA
theorem sat_addA : Sat2 X (rAddB X.K) dAddA := by
  intro F H x y v u E Q z rx ry p
  have old : PostG X.K X.mg (repV X.K X.mg) F H E Q (dAdd x y) → rAddB X.K v u H Q := fun p => .inl (sat_add F H x y v u E Q z rx ry p)
  cases x with
  | tup xs =>
    cases y with
    | tup ys =>
      obtain ⟨c, p⟩ := ifR (show PostG X.K X.mg (repV X.K X.mg) F H E Q (if xs.length + ys.length ≤ LIM then .ok (.tup (xs ++ ys)) else .stuck) from p)
      obtain ⟨a, vs, e1, e2, r1⟩ := rx.tupH z
      obtain ⟨b, us, e3, e4, r2⟩ := ry.tupH z
      have l1 := r1.length
      have l2 := r2.length
      have n1 : vs = [] → xs = [] := fun h => List.length_eq_zero_iff.mp (by rw [l1, h]; rfl)
      have n2 : us = [] → ys = [] := fun h => List.length_eq_zero_iff.mp (by rw [l2, h]; rfl)
      refine .inr ⟨a, b, vs, us, e1, e3, SqT.of e2, SqT.of e4, by rw [LIM_eq, ← l1, ← l2]; exact c, fun h => ?_, fun _ h => ?_, fun _ _ q hq => ?_⟩
      · rw [n1 h, List.nil_append] at p
        exact PostG.ok p z (by rw [← e3]; exact ry)
      · rw [n2 h, List.append_nil] at p
        exact PostG.ok p z (by rw [← e1]; exact rx)
      · refine PostG.at p (Ext.laid (o := .tup (vs ++ us)) z hq) (Rp.tup upd_same ?_)
        exact RpL.mono (Ext.laid (o := .tup (vs ++ us)) z hq).ff _ _ (RpL.append r1 r2)
    | _ => exact old (by cases xs <;> exact p)
  | _ => exact old p
def rInS : R2 := fun x y H Q => ∃ i j, x = .str i ∧ y = .str j ∧ Q (.bl (hasS i j)) H
def rNotInS : R2 := fun x y H Q => ∃ i j, x = .str i ∧ y = .str j ∧ Q (.bl (!hasS i j)) H
theorem op_inS : OpR X (compareOp .In) rInS := by
  intro pins s σ H x y v u Q I rx ry h
  obtain ⟨i, j, rfl, rfl, q⟩ := h
  unfold hasS at q
  split at q
  · rename_i c e
    have ei : i = ⟨#[c]⟩ := by
      cases i with
      | mk a =>
        have : a = #[c] := Array.toList_inj.mp e
        rw [this]
    subst ei
    exact op_in_sign pins s σ H _ _ v u Q I rx ry ⟨c, j, rfl, rfl, q⟩
  · exact op_in_str pins s σ H _ _ v u Q I rx ry ⟨i, j, rfl, rfl, q⟩
theorem op_notInS : OpR X (compareOp .NotIn) rNotInS := by
  intro pins s σ H x y v u Q I rx ry h
  obtain ⟨i, j, rfl, rfl, q⟩ := h
  unfold hasS at q
  split at q
  · rename_i c e
    have ei : i = ⟨#[c]⟩ := by
      cases i with
      | mk a =>
        have : a = #[c] := Array.toList_inj.mp e
        rw [this]
    subst ei
    exact op_notIn_sign pins s σ H _ _ v u Q I rx ry ⟨c, j, rfl, rfl, q⟩
  · exact op_notIn_str pins s σ H _ _ v u Q I rx ry ⟨i, j, rfl, rfl, q⟩
theorem sat_inS : Sat2 X rInS dInS := by
  intro F H x y v u E Q z rx ry p
  cases x with
  | str i =>
    cases y with
    | str j => exact ⟨i, j, rx.str_iff, ry.str_iff, PostG.ok p z Rp.bl⟩
    | _ => exact p.elim
  | _ => cases y <;> exact p.elim
theorem sat_notinS : Sat2 X rNotInS dNotInS := by
  intro F H x y v u E Q z rx ry p
  cases x with
  | str i =>
    cases y with
    | str j => exact ⟨i, j, rx.str_iff, ry.str_iff, PostG.ok p z Rp.bl⟩
    | _ => exact p.elim
  | _ => cases y <;> exact p.elim
theorem slAA : SlR X (fun x lo hi H Q => DL.rSlA X.K x lo hi H Q ∨ L2.rSlA X.K x lo hi H Q) := slA.or sl_tupA
theorem cutL_all {xs : List D} {lo hi : Option Int} (h : HT.sIx xs.length 0 lo = 0 ∧ HT.sIx xs.length xs.length hi = xs.length) : cutL xs lo hi = xs := by
  unfold cutL
  rw [h.1, h.2, List.drop_zero, Nat.sub_zero, List.take_length]
theorem de_sliceA {lo hi : Option Expr} {fl fh : DL.Env → R (Option Int)} {p2 : Pos} (he : DE X W e f) (hl : DP X W lo fl) (hh : DP X W hi fh) : DE X W (.Subscript e (.Slice lo hi none p2) pos) (eSlA f fl fh) := by
  refine PE.weak (pe_slice slAA he hl hh) ?_
  rintro σ H Q ⟨F0, H0, F, Γ, r, p⟩
  refine bind3 (fun _ _ _ _ _ h => h) r p fun d v lo hi F2 H2 x r1 p1 => ?_
  cases d with
  | lst xs =>
    obtain ⟨a, vs, e1, e2, e3⟩ := r1.lstH x.fh
    refine .inl (.inl ⟨a, vs, e1, SqL.of e2, fun q hq => ?_⟩)
    have x3 := Ext.laid (o := .lst (cutV vs lo hi)) x.fh hq
    exact PostG.at p1 x3 (Rp.lst upd_same (RpL.mono x3.ff _ _ (e3.cut lo hi)))
  | scr ns =>
    obtain ⟨a, e1, e2⟩ := r1.scr_iff
    refine .inl (.inl ⟨a, _, e1, x.fh.seq e2, fun q hq => ?_⟩)
    have x3 := Ext.laid (o := .lst (cutV (ns.map V.int) lo hi)) x.fh hq
    exact PostG.at p1 x3 (Rp.lst upd_same (RpL.mono x3.ff _ _ (RpL.ints.cut lo hi)))
  | tup xs =>
    obtain ⟨a, vs, e1, e2, e3⟩ := r1.tupH x.fh
    have p1 : PostG X.K X.mg (repV X.K X.mg) F2 H2 (WE W σ) Q (.ok (.tup (cutL xs lo hi))) := p1
    refine .inr ⟨a, vs, e1, SqT.of e2, fun hw => ?_, fun _ q hq => ?_⟩
    · rw [← e3.length] at hw
      rw [cutL_all hw] at p1
      exact PostG.ok p1 x.fh (by rw [← e1]; exact r1)
    · have x3 := Ext.laid (o := .tup (cutV vs lo hi)) x.fh hq
      exact PostG.at p1 x3 (Rp.tup upd_same (RpL.mono x3.ff _ _ (e3.cut lo hi)))
  | str z =>
    obtain ⟨cc, p2⟩ := ifR p1
    exact .inl (.inr (.inr ⟨z, r1.str_iff, by rw [LIM_eq]; exact cc, PostG.ok p2 x.fh Rp.str⟩))
  | _ => exact p1.elim
theorem CallR.two {f : Value} {r1 r2 : List V → Hp → VK → Prop} (h1 : CallR X f r1) (h2 : CallR X f r2) : CallR X f (fun xs H Q => r1 xs H Q ∨ r2 xs H Q) := by
  intro pins s σ H xs us Q I r h
  rcases h with h | h
  · exact h1 pins s σ H xs us Q I r h
  · exact h2 pins s σ H xs us Q I r h
theorem call_strA : CallR X (.type "str") (fun xs H Q => (∃ i, xs = [.int i] ∧ i.natAbs.log2 < 1920 ∧ Q (.str (toString i)) H) ∨ ∃ a, xs = [.str a] ∧ Q (.str a) H) := CallR.two call_str_int SkE.call_str_str
theorem sat_strA : SatL X (fun xs H Q => (∃ i, xs = [.int i] ∧ i.natAbs.log2 < 1920 ∧ Q (.str (toString i)) H) ∨ ∃ a, xs = [.str a] ∧ Q (.str a) H) dStrA := sat_un1 fun F H x v E Q z r1 p => by
  cases x with
  | int i =>
    obtain ⟨c, p⟩ := ifR (show PostG X.K X.mg (repV X.K X.mg) F H E Q (if i.natAbs.log2 < 1920 then .ok (.str (toString i)) else .stuck) from p)
    exact .inl ⟨i, by rw [r1.int_iff], c, PostG.ok p z Rp.str⟩
  | str a => exact .inr ⟨a, by rw [r1.str_iff], PostG.ok p z Rp.str⟩
  | _ => exact p.elim
theorem call_intA : CallR X (.type "int") (fun xs H Q => ((∃ i, xs = [.int i] ∧ Q (.int i) H) ∨ ∃ k, xs = [.bl k] ∧ Q (.int (if k then 1 else 0)) H) ∨ ∃ a n, xs = [.str a] ∧ PySem.intText? a = some n ∧ a.length ≤ 640 ∧ Q (.int n) H) := CallR.two call_int1 call_int_str
theorem sat_intA : SatL X (fun xs H Q => ((∃ i, xs = [.int i] ∧ Q (.int i) H) ∨ ∃ k, xs = [.bl k] ∧ Q (.int (if k then 1 else 0)) H) ∨ ∃ a n, xs = [.str a] ∧ PySem.intText? a = some n ∧ a.length ≤ 640 ∧ Q (.int n) H) dIntA := sat_un1 fun F H x v E Q z r1 p => by
  cases x with
  | int i => exact .inl (.inl ⟨i, by rw [r1.int_iff], PostG.ok p z Rp.int⟩)
  | bl b => exact .inl (.inr ⟨b, by rw [r1.bl_iff], PostG.ok p z Rp.int⟩)
  | str a =>
    have p : PostG X.K X.mg (repV X.K X.mg) F H E Q (match PySem.intText? a with
      | some n => if a.length ≤ 640 then .ok (.int n) else .stuck
      | none => .stuck) := p
    cases e : PySem.intText? a with
    | none => rw [e] at p; exact p.elim
    | some n =>
      rw [e] at p
      obtain ⟨c, p⟩ := ifR p
      exact .inr ⟨a, n, by rw [r1.str_iff], e, c, PostG.ok p z Rp.int⟩
  | _ => exact p.elim
end
end DL
set_option Elab.async false
set_option linter.all false
set_option maxRecDepth 100000
set_option maxHeartbeats 1000000
/-! The data layer: < of lists of tuples of ints. -/
namespace DL
open PySem PySem.Spec L2
def dLtL (x y : D) : R D := if (x.sh 60 && y.sh 60) && (PySem.W.alike x.pd y.pd && !x.isNon) then .ok (.bl (PySem.W.dataLt x.pd y.pd)) else .stuck
def rLtD (K : PySem.W.Frag) : R2 := fun x y H Q => ∃ d e, Dp K H x d ∧ Dp K H y e ∧ PySem.W.alike d e = true ∧ d ≠ PyData.none ∧ d.depth ≤ 60 ∧ Q (.bl (PySem.W.dataLt d e)) H
def oSortL : List D → R (List D)
  | [.lst ds] => (match dsI ds with
    | some js => .ok ((srtI js).map D.int)
    | none => .stuck)
  | _ => .stuck
section
variable {X : Cx}
theorem op_ltD (hu : X.A.units + 64 < cLine) : OpR X (compareOp .Lt) (rLtD X.K) := by
  intro pins s σ H x y v u Q I rx ry h
  obtain ⟨d, e, h1, h2, h3, h4, h5, q⟩ := h
  obtain ⟨as, r1⟩ := Dp.reads I d x v h1 rx
  obtain ⟨bs, r2⟩ := Dp.reads I e y u h2 ry
  exact PySem.W.rcLt_alike d e X.A s v u as bs r1 r2 h3 h4 (by omega) X.prog X.w _ _ ⟨V.bl _, H, I, rfl, q⟩
theorem pd_none {x : D} (h : x.isNon = false) : x.pd ≠ PyData.none ∨ x.sh 60 = false := by
  cases x with
  | non => cases h
  | dk _ _ => right; simp [D.sh]
  | obj _ _ _ => right; simp [D.sh]
  | exc _ _ _ => right; simp [D.sh]
  | cls _ => right; simp [D.sh]
  | ty _ => right; simp [D.sh]
  | _ => left; intro e; simp [D.pd] at e
theorem sat_ltD : Sat2 X (rLtD X.K) dLtL := by
  intro F H x y v u E Q z rx ry p
  unfold dLtL at p
  obtain ⟨c, p⟩ := ifR p
  obtain ⟨c1, c2⟩ := andB c
  obtain ⟨c3, c4⟩ := andB c1
  obtain ⟨c5, c6⟩ := andB c2
  have c6 : x.isNon = false := by simpa using c6
  refine ⟨x.pd, y.pd, dp_of z 60 x v c3 rx, dp_of z 60 y u c4 ry, c5, ?_, (sh_ok 60 x c3).2, PostG.ok p z Rp.bl⟩
  rcases pd_none c6 with h | h
  · exact h
  · rw [h] at c3; cases c3
theorem satO_sortL : SatLO X (rSortedI X.K) oSortL := by
  intro F H ds vs E Q z r p
  unfold oSortL at p
  split at p
  case h_2 => exact p.elim
  rename_i ks
  cases e : dsI ks with
  | none => rw [e] at p; exact p.elim
  | some js =>
    rw [e] at p
    obtain ⟨v, e1, r1⟩ := r.one
    obtain ⟨a, ws, ev, ea, rr⟩ := Rp.lstH z r1
    have ed := dsI_eq e
    subst ev ed
    have ek : ws = js.map V.int := RpL.inj rr (rpL_ints js)
    subst ek
    refine ⟨a, js, e1, SqL.of ea, fun rs q h1 h2 n => ?_⟩
    rw [srtI_uni h1 h2]
    exact p _ F _ (Ext.heap z n) ⟨q, (srtI js).map V.int, rfl, upd_same, z.free n, n, rpL_ints _⟩
end
def oRng1 : D → R (List D)
  | .int j => if inR62 j && decide (j.toNat ≤ 16777216) then .ok (rngL 0 j.toNat) else .stuck
  | _ => .stuck
/-- list(range(n)) -/
def oRng (f : DL.Env → R D) : DL.Env → R (List D) := fun Γ => (f Γ).bind oRng1
section
variable {X : Cx} {W : WX} {a : Expr} {fa : DL.Env → R D} {p p3 pos pos2 : Pos}
theorem do_listRng (hc : X.calm = true) (hg : Gl X "list") (hm : X.mg "list" = none) (hg2 : Gl X "range") (hm2 : X.mg "range" = none) (ha : DE X W a fa)
    (hs : starEach [a] X.env = (false, eval a X.env) :: starEach [] X.env := by rfl) (hs2 : starEach [.Call (.Name "range" p3) [a] [] pos2] X.env = (false, eval (.Call (.Name "range" p3) [a] [] pos2) X.env) :: starEach [] X.env := by rfl) :
    DO X W (.Call (.Name "list" p) [.Call (.Name "range" p3) [a] [] pos2] [] pos) (oRng fa) := by
  refine PE.weak (pe_listRg hc hg hm (prg_1 hg2 hm2 ha hs) hs2) ?_
  rintro σ H Q ⟨F0, H0, F, Γ, r, p⟩
  refine ⟨F0, H0, F, Γ, r, PostG.bind p (fun d v F1 H1 _ x1 r1 p1 => ?_) upO⟩
  have r2 : Rp X.K X.mg F1 d v := r1
  cases d with
  | int j =>
    obtain ⟨c, p2⟩ := ifR p1
    obtain ⟨c0, c3⟩ := andB c
    obtain ⟨c1, c2⟩ := in62 c0
    have c3 := of_decide_eq_true c3
    refine ⟨j, by rw [r2.int_iff], ⟨by decide, by decide, c1, c2, ?_⟩, fun q n => ?_⟩
    · rw [Int.sub_zero]
      exact c3
    · have e : rgV 0 j = ((List.range j.toNat).map fun (k : Nat) => (0 : Int) + (k : Nat)).map V.int := by
        unfold rgV
        rw [Int.sub_zero, List.map_map]
        rfl
      have e2 : rngL 0 j.toNat = ((List.range j.toNat).map fun (k : Nat) => (0 : Int) + (k : Nat)).map D.int := by
        unfold rngL
        rw [List.map_map]
        rfl
      refine p2 _ F1 _ (Ext.heap x1.fh n) ⟨q, rgV 0 j, rfl, upd_same, x1.fh.free n, n, ?_⟩
      rw [e, e2]
      exact rpL_ints _
  | _ => exact p1.elim
end
end DL
namespace DL
open PySem PySem.Spec L2
/-! ### min(bs, default=True) -/
def dMinBT : D → R D
  | .lst ds => (match asBls ds with
    | some bs => .ok (.bl (bs.all id))
    | none => .stuck)
  | _ => .stuck
theorem foldAnd : ∀ (bs : List Bool) (b : Bool), bs.foldl (fun a y => a && y) b = (b :: bs).all id
  | [], b => by simp
  | c :: bs, b => by
    rw [List.foldl_cons, foldAnd bs (b && c)]
    simp [Bool.and_assoc]
theorem minOf_bl (b : Bool) (bs : List Bool) : PySem.W.minOf b bs = (b :: bs).all id := by
  rw [← foldAnd]
  unfold PySem.W.minOf
  congr 1
  funext a y
  cases a <;> cases y <;> rfl
def rMinBT (K : PySem.W.Frag) : List V → List V → Hp → VK → Prop := fun xs zs H Q => ∃ (a : Addr) (bs : List Bool), xs = [.ref a] ∧ zs = [.bl true] ∧ SqL K H a (bs.map V.bl) ∧ Q (.bl (bs.all id)) H
theorem call_minBT {X : Cx} (hc : X.calm = true) (hu : X.A.units + 64 < cLine) : CallRK X (.builtin "min") [Str.ofString "default"] (rMinBT X.K) := by
  rintro pins st σ H xs zs us ws Q I rv rz ⟨a, bs, rfl, rfl, hs, q⟩
  obtain ⟨w, ew, rw1⟩ := vals1 rv
  cases ew
  cases rw1
  obtain ⟨w2, ew2, rw2⟩ := vals1 rz
  cases ew2
  cases rw2
  obtain ⟨its, r, hl, _⟩ := I.list hs
  obtain ⟨as, h4⟩ := Dp.readsAll I (bs.map PyData.bool) _ its (dp_bls bs) r
  refine PySem.W.min_list_datum_default (α := Bool) (xs := bs) (I.ok.hd hc) hl.isList ⟨as, show PySem.ReadsAll _ _ (bs.map PyData.bool) as by simpa using h4⟩ (by show _ + 1 + 0 < _; omega) (fun e h' tk k => ?_) fun y ys i v h' tk e hv hh k => ?_
  · subst e
    exact ⟨.bl true, H, I.kept (t' := tk) k, rfl, q⟩
  · subst e
    obtain ⟨as, rd⟩ := hh
    have rd : PySem.Reads h' v (.bool (PySem.W.minOf y ys)) as := rd
    cases rd
    refine ⟨.bl (PySem.W.minOf y ys), H, I.kept (t' := tk) k, rfl, ?_⟩
    rw [minOf_bl]
    exact q
section
variable {X : Cx} {W : WX} {e : Expr} {f : DL.Env → R D} {p pos kpos cp : Pos}
theorem de_minBT {ck : Nat} (hc : X.calm = true) (hu : X.A.units + 64 < cLine) (ha : DE X W e f) (hg : Gl X "min") (hm : X.mg "min" = none)
    (he : backTo pos (starEach [e] X.env) = (false, eval e X.env) :: backTo pos (starEach [] X.env) := by rfl) (hpl : (backTo pos (starEach [e] X.env)).any (·.1) = false := by rfl) (he1 : starEach [e] X.env = (false, eval e X.env) :: starEach [] X.env := by rfl)
    (hall : (backToKw pos (keywordEach [⟨some "default", .Constant (.bool true) ck cp, kpos⟩] X.env)).all (·.1.isSome) = true := by rfl) (hnone : (backToKw pos (keywordEach [⟨some "default", .Constant (.bool true) ck cp, kpos⟩] X.env)).any (·.1.isNone) = false := by rfl)
    (hks : (backToKw pos (keywordEach [⟨some "default", .Constant (.bool true) ck cp, kpos⟩] X.env)).filterMap (·.1) = [Str.ofString "default"] := by rfl) :
    DE X W (.Call (.Name "min" p) [e] [⟨some "default", .Constant (.bool true) ck cp, kpos⟩] pos) (eUn dMinBT f) := by
  refine PE.weak (pe_callBK (call_minBT hc hu) hg hm (by decide +kernel) (pa_cons ha pa_nil he1) (pk_cons pe_bl pk_nil) (by decide +kernel) (by kernel_rfl) he hpl hall hnone hks) ?_
  rintro σ H Q ⟨F0, H0, F, Γ, r, p⟩
  refine ⟨F0, H0, F, Γ, r, PostG.bind p (fun d v F1 H1 _ x1 r1 p1 => ?_) fun _ _ _ _ _ h => h⟩
  unfold dMinBT at p1
  cases d with
  | lst ds =>
    have p2 : PostG X.K X.mg (repV X.K X.mg) F1 H1 (WE W σ) Q (match asBls ds with
      | some bs => .ok (.bl (bs.all id))
      | none => .stuck) := p1
    cases e : asBls ds with
    | none => rw [e] at p2; exact p2.elim
    | some bs =>
      rw [e] at p2
      obtain ⟨a, ev, sq⟩ := lstBls x1.fh r1 e
      exact ⟨a, bs, by rw [ev], rfl, sq, PostG.ok p2 x1.fh Rp.bl⟩
  | _ => exact p1.elim
end
end DL
set_option Elab.async false
set_option linter.all false
set_option maxRecDepth 100000
set_option maxHeartbeats 4000000
/-! The data layer: a list extended by a list that is a value. -/
namespace DL
open PySem PySem.Spec L2
def sExtV (i : Nat) (f : DL.Env → R D) : DL.Env → Out := fun Γ => match Env.at_ Γ i with
  | some (.own ds) => (f Γ).out Γ fun d => match d with
    | .lst es => if ds.length + es.length ≤ LIM then .nx (Γ.set i (some (.own (ds ++ es)))) else .stuck
    | _ => .stuck
  | _ => .stuck
section
variable {X : Cx} {W : WX} {e : Expr} {f : DL.Env → R D} {pos : Pos}
theorem ds_extendV (i : Nat) {x : Str} {p1 p2 cpos : Pos} (he : DE X W e f) (hN : X.N[i]? = some x := by rfl) (hv : Vis X.env.scope x := by first | exact Or.inl (by kernel_rfl) | exact Or.inr (Or.inl (by kernel_rfl)) | exact Or.inr (Or.inr (by kernel_rfl))) (hd : (x == ("__debug__" : Str)) = false := by kernel_rfl)
    (hcd : (x == ("__classdict__" : Str)) = false := by kernel_rfl) (hs1 : starEach [e] X.env = (false, eval e X.env) :: starEach [] X.env := by rfl) (hline : (p2.endLine == cpos.line) = true := by rfl)
    (hfew : ((backTo cpos (starEach [e] X.env)).all (fun x => !x.1) && (backToKw cpos (keywordEach [] X.env)).all (fun x => x.1.isSome)
      && decide (([e] : List Expr).length + ([] : List Keyword).length + (if ([] : List Keyword).isEmpty then 0 else 1) < 30)) = true := by rfl)
    (hs : swapsWith (.Call (.Attribute (.Name x p1) "extend" p2) [e] [] cpos) none pos.line X.env = pure false := by rfl) :
    DS X W (.Expr (.Call (.Attribute (.Name x p1) "extend" p2) [e] [] cpos) pos) (sExtV i f) := by
  refine PS.weak (ps_expr (pe_bm PySem.F.plainAttrs_list PySem.F.slot_list_extend PySem.F.type_list_extend mt_extend (pe_var hN hv hd hcd) (pa_cons he pa_nil hs1) rfl hfew hline hs1) hs) ?_
  rintro Dn σ H ⟨F0, H0, F, Γ, r, p⟩
  revert p
  unfold sExtV
  cases ei : Env.at_ Γ i with
  | none => exact fun p => p.elim
  | some s =>
    cases s with
    | oob b c ns fs => exact fun p => p.elim
    | val d => exact fun p => p.elim
    | dic ks ds => exact fun p => p.elim
    | own ds =>
      intro p
      obtain ⟨v, h1, l, vs, e1, e2, e3, e4, e5⟩ := r.slot i _ (at_get ei)
      subst e1
      refine ⟨_, h1, .inl ⟨rfl, _, SqL.of e2⟩, F0, H0, F, Γ, r, PostS.out r p fun d w F1 H1 _ x1 r1 p1 => ?_⟩
      cases d with
      | lst es =>
        obtain ⟨b, zs, rfl, g1, g4⟩ := (show Rp _ _ F1 (.lst es) w from r1)
        have p1 : (PostS X W F0 H0 Dn (if ds.length + es.length ≤ LIM then .nx (Γ.set i (some (.own (ds ++ es)))) else .stuck)) := p1
        by_cases hl : ds.length + es.length ≤ LIM
        · rw [if_pos hl] at p1
          refine ⟨l, b, vs, zs, rfl, rfl, x1.hh _ _ e2, x1.fh.lst g1, by rw [← e5.length, ← g4.length]; exact hl, p1 _ F1 _ ?_⟩
          have r' := r.step x1
          refine r'.mutO (at_get ei) rfl h1 rfl ?_
          refine ⟨l, vs ++ zs, rfl, upd_same, ?_, e4, RpL.append (RpL.mono x1.ff _ _ e5) g4⟩
          cases q : F1 l with
          | none => rfl
          | some o =>
            rcases x1.new l o q with z | z
            · rw [e3] at z; cases z
            · rw [e2] at z; cases z
        · rw [if_neg hl] at p1
          exact p1.elim
      | _ => exact p1.elim
end
/-! ### a list of flat tuples, reckoned from a list held alone -/
def flatT : D → Bool
  | .tup xs => xs.all D.scal
  | _ => false
def hdP : List D → List D → Bool
  | .tup _ :: _, .obj _ _ _ :: _ => true
  | _, _ => false
/-- flat tuples, and not the list ds itself -/
def okP (es ds : List D) : Bool := es.all flatT && (es.length != ds.length || hdP es ds)
def eBorP (i : Nat) (f : DL.Env → R D) : DL.Env → R D := fun Γ => match Env.at_ Γ i with
  | some (.own ds) => (match f (Env.frz Γ i) with
    | .ok (.lst es) => if okP es ds = true then .ok (.lst es) else .stuck
    | _ => .stuck)
  | _ => .stuck
section
variable {K : PySem.W.Frag} {mg : Str → Option Value} {F0 : Fe} {H0 F H F1 F2 : Hp} {σ : L2.St} {Γ : DL.Env}
theorem Rel.freezeL (r : Rel K mg F0 H0 F H σ Γ) {i : Nat} {ds : List D} {l : Addr} {vs : List V} (ei : Γ[i]? = some (some (.own ds))) (hv : σ[i]? = some (some (.ref l))) (e2 : H l = some (.lst vs)) (e3 : F l = none) (e4 : H0 l = none) (e5 : RpL K mg F ds vs) : Rel K mg F0 H0 (upd F l (.lst vs)) H σ (Γ.set i (some (.val (.lst ds)))) := by
  have hi : i < Γ.length := (List.getElem?_eq_some_iff.mp ei).1
  have ss : Same F (upd F l (.lst vs)) := fun a u e => by rw [upd_ne (fun q => by rw [q, e3] at e; cases e)]; exact e
  refine ⟨⟨r.ext.ff.trans ss, fun a u e => ?_, r.ext.hh, fun a u e => ?_⟩, by rw [List.length_set]; exact r.len, fun j t e => ?_, fun j k t t' u w m ej ek hj hk os ot => ?_, r.slf.setE ei fun _ _ _ z => nomatch z⟩
  · by_cases q : a = l
    · subst q
      rw [upd_same] at e
      cases e
      exact .inl e2
    · rw [upd_ne q] at e
      exact r.ext.fh a u e
  · by_cases q : a = l
    · subst q
      exact .inr e4
    · rw [upd_ne q] at e
      exact r.ext.new a u e
  · by_cases q : i = j
    · subst q
      rw [List.getElem?_set_self hi] at e
      cases e
      refine ⟨.ref l, hv, ?_⟩
      show Rp K mg _ (.lst ds) _
      unfold Rp
      exact ⟨l, vs, rfl, upd_same, RpL.mono ss _ _ e5⟩
    · rw [List.getElem?_set_ne q] at e
      obtain ⟨v, h1, h2⟩ := r.slot j t e
      refine ⟨v, h1, h2.gen ss (fun m z => ?_) (fun m ob _ e => e) (fun m z => (foot_at h2 z).choose_spec.2.2)⟩
      have nl : m ≠ l := fun y => q (r.inj i j _ t (.ref l) v m ei e hv h1 (by rw [y]; rfl) z)
      rw [upd_ne nl]
      exact (foot_at h2 z).choose_spec.2.1
  · have nj : i ≠ j := fun q => by
      subst q
      rw [List.getElem?_set_self hi] at ej
      cases ej
      cases os
    have nk : i ≠ k := fun q => by
      subst q
      rw [List.getElem?_set_self hi] at ek
      cases ek
      cases ot
    rw [List.getElem?_set_ne nj] at ej
    rw [List.getElem?_set_ne nk] at ek
    exact r.inj j k t t' u w m ej ek hj hk os ot
theorem RpL.scal : ∀ {xs : List D} {ws : List V}, xs.all D.scal = true → RpL K mg F1 xs ws → RpL K mg F2 xs ws
  | [], ws, _, h => h
  | x :: xs, ws, c, h => by
    obtain ⟨w, us, rfl, h1, h2⟩ := h
    rw [List.all_cons, Bool.and_eq_true] at c
    refine ⟨w, us, rfl, ?_, RpL.scal c.2 h2⟩
    cases x with
    | non => rw [h1.non_iff]; exact Rp.non
    | bl b => rw [h1.bl_iff]; exact Rp.bl
    | int b => rw [h1.int_iff]; exact Rp.int
    | str b => rw [h1.str_iff]; exact Rp.str
    | _ => exact absurd c.1 (by simp [D.scal])
theorem RpL.flat (hs : ∀ a vs, F1 a = some (.tup vs) → F2 a = some (.tup vs)) : ∀ {xs : List D} {ws : List V}, xs.all flatT = true → RpL K mg F1 xs ws → RpL K mg F2 xs ws
  | [], ws, _, h => h
  | x :: xs, ws, c, h => by
    obtain ⟨w, us, rfl, h1, h2⟩ := h
    rw [List.all_cons, Bool.and_eq_true] at c
    refine ⟨w, us, rfl, ?_, RpL.flat hs c.2 h2⟩
    cases x with
    | tup ys =>
      obtain ⟨a, vs, g1, g2, g3⟩ := (show Rp K mg F1 (.tup ys) w from h1)
      exact (show Rp K mg F2 (.tup ys) w from ⟨a, vs, g1, hs _ _ g2, RpL.scal c.1 g3⟩)
    | _ => exact absurd c.1 (by simp [flatT])
end
section
variable {X : Cx} {W : WX} {e : Expr} {f : DL.Env → R D}
theorem de_borP (i : Nat) (h : DE X W e f) : DE X W e (eBorP i f) := by
  refine PE.weak h ?_
  rintro σ H Q ⟨F0, H0, F, Γ, r, p⟩
  revert p
  unfold eBorP
  cases ei : Env.at_ Γ i with
  | none => exact fun p => p.elim
  | some s =>
    cases s with
    | oob b c ns fs => exact fun p => p.elim
    | val d => exact fun p => p.elim
    | dic ks ds => exact fun p => p.elim
    | own ds =>
      intro p
      obtain ⟨v, h1, l, vs, rfl, e2, e3, e4, e5⟩ := r.slot i _ (at_get ei)
      have r' := r.freezeL (at_get ei) h1 e2 e3 e4 e5
      have ef : Env.frz Γ i = Γ.set i (some (.val (.lst ds))) := by unfold Env.frz; rw [ei]; rfl
      refine ⟨F0, H0, _, _, r', ?_⟩
      have p : PostG X.K X.mg (repV X.K X.mg) F H (WE W σ) Q (match f (Env.frz Γ i) with
        | .ok (.lst es) => if okP es ds = true then .ok (.lst es) else .stuck
        | _ => .stuck) := p
      rw [ef] at p
      revert p
      cases f (Γ.set i (some (.val (.lst ds)))) with
      | exc x => exact fun p => p.elim
      | stuck => exact fun p => p.elim
      | ok d =>
        cases d with
        | lst es =>
          intro p w F1 H1 x q
          have p : PostG X.K X.mg (repV X.K X.mg) F H (WE W σ) Q (if okP es ds = true then .ok (.lst es) else .stuck) := p
          by_cases c : okP es ds = true
          · rw [if_pos c] at p
            unfold okP at c
            rw [Bool.and_eq_true, Bool.or_eq_true] at c
            obtain ⟨c1, c2⟩ := c
            have el : F1 l = some (.lst vs) := x.ff _ _ upd_same
            let F2 : Hp := fun a => if a = l then none else F1 a
            have f2 : ∀ a, a ≠ l → F2 a = F1 a := fun a z => if_neg z
            have f2l : F2 l = none := if_pos rfl
            have x2 : Ext F H F2 H1 := ⟨fun a o z => by
                have nl : a ≠ l := fun y => by rw [y, e3] at z; cases z
                rw [f2 a nl]
                exact x.ff a o (by rw [upd_ne nl]; exact z), fun a o z => by
                have nl : a ≠ l := fun y => by rw [y, f2l] at z; cases z
                rw [f2 a nl] at z
                exact x.fh a o z, x.hh, fun a o z => by
                have nl : a ≠ l := fun y => by rw [y, f2l] at z; cases z
                rw [f2 a nl] at z
                rcases x.new a o z with y | y
                · rw [upd_ne nl] at y
                  exact .inl y
                · exact .inr y⟩
            refine PostG.at p x2 ?_
            obtain ⟨b, zs, g1, g2, g3⟩ := (show Rp X.K X.mg F1 (.lst es) w from q)
            have nb : b ≠ l := fun y => by
              subst y
              rw [el] at g2
              cases g2
              have e6 : RpL X.K X.mg F1 ds vs := RpL.mono (fun a o z => x.ff a o (by rw [upd_ne (fun y => by rw [y, e3] at z; cases z)]; exact z)) _ _ e5
              rcases c2 with c2 | c2
              · have : es.length = ds.length := by rw [g3.length, e6.length]
                rw [this] at c2
                simp at c2
              · cases es with
                | nil => simp [hdP] at c2
                | cons e es =>
                  cases ds with
                  | nil => cases e <;> simp [hdP] at c2
                  | cons d ds =>
                    cases e with
                    | tup ys =>
                      cases d with
                      | obj cc ns gs =>
                        obtain ⟨u, us, rfl, k1, _⟩ := g3
                        obtain ⟨u', us', k0, k2, _⟩ := e6
                        cases k0
                        obtain ⟨a, ws, rfl, m1, _⟩ := (show Rp X.K X.mg F1 (.tup ys) u from k1)
                        obtain ⟨a', C, dx, ws', m0, _, m2, _⟩ := (show Rp X.K X.mg F1 (.obj cc ns gs) (.ref a) from k2)
                        cases m0
                        rw [m1] at m2
                        cases m2
                      | _ => simp [hdP] at c2
                    | _ => simp [hdP] at c2
            show Rp X.K X.mg F2 (.lst es) w
            unfold Rp
            refine ⟨b, zs, g1, by rw [f2 b nb]; exact g2, RpL.flat (fun a ws z => ?_) c1 g3⟩
            rw [f2 a fun y => by rw [y, el] at z; cases z]
            exact z
          · rw [if_neg c] at p
            exact p.elim
        | _ => exact fun p => p.elim
end
end DL
set_option Elab.async false
set_option linter.all false
set_option maxRecDepth 100000
set_option maxHeartbeats 4000000
/-! t[::-1] of a tuple. -/
namespace HX
open PySem PySem.Spec PyProof.Rows L2 HT
section
variable {prog : Program} {w : World} {A : Around} {E : Value → Shared → Prop} {s : Shared}
theorem adjust_rev (n : Nat) : Builtin.Slice.sliceAdjust none none (-1) (n : Int) = ((n : Int) - 1, -1) := rfl
theorem places_rev (n : Nat) : Builtin.Slice.slicePlaces ((n : Int) - 1) (-1) (-1) = n := by
  unfold Builtin.Slice.slicePlaces
  have h1 : ¬ (-1 : Int) > 0 := by omega
  simp only [h1, if_false]
  by_cases h : (n : Int) - 1 > -1
  · rw [if_pos h]
    have e : ((n : Int) - 1 - -1 - 1) / - -1 + 1 = n := by rw [show (- -1 : Int) = 1 from rfl, Int.ediv_one]; omega
    rw [e]
    rfl
  · rw [if_neg h]
    have : n = 0 := by omega
    rw [this]
    rfl
theorem sliceApplied_rev {sl : Addr} {t : Tok} {n : Nat} {Q : Int × Int × Nat → Shared → Prop} (hs : s.heap.IsSliceOf sl .none .none (.int (-1) t))
    (h : Q ((n : Int) - 1, -1, n) s) : wpAny (model prog w) A (Builtin.Slice.sliceApplied (.ref sl) (pure (n : Int))) Q E s := by
  obtain ⟨os, hos, hcs, hds⟩ := id hs
  unfold Builtin.Slice.sliceApplied Builtin.Slice.sliceFields
  refine wpAny_bind (wpAny_bind (wpAny_field hos hds (x := .none) rfl (wpAny_bind (wpAny_field hos hds (x := .none) rfl (wpAny_bind (wpAny_field hos hds (x := .int (-1) t) rfl (wpAny_pure ?_)))))))
  refine wpAny_bind (slicePart_int ?_)
  show wpAny _ _ (if ((-1 : Int) == 0) = true then _ else _) _ _ s
  rw [if_neg (by decide)]
  refine wpAny_bind (slicePart_none (wpAny_bind (slicePart_none (wpAny_bind (wpAny_pure ?_)))))
  show wpAny _ _ (match Builtin.Slice.sliceAdjust none none (-1) (n : Int) with | (lo, hi) => pure (lo, (-1 : Int), Builtin.Slice.slicePlaces lo hi (-1))) _ _ s
  rw [adjust_rev n]
  show wpAny _ _ (pure ((n : Int) - 1, (-1 : Int), Builtin.Slice.slicePlaces ((n : Int) - 1) (-1) (-1))) _ _ s
  rw [places_rev]
  exact wpAny_pure h
theorem filterMap_some {α β : Type} {f : α → Option β} {g : α → β} : ∀ {l : List α}, (∀ m ∈ l, f m = some (g m)) → l.filterMap f = l.map g
  | [], _ => rfl
  | a :: l, h => by
    rw [List.filterMap_cons, h a List.mem_cons_self, List.map_cons, filterMap_some fun m hm => h m (List.mem_cons_of_mem _ hm)]
theorem pick_rev (xs : Array Value) : ((List.range xs.size).filterMap fun (m : Nat) => xs[(((xs.size : Nat) : Int) - 1 + (m : Int) * (-1)).toNat]?) = xs.toList.reverse := by
  have e : ∀ m ∈ List.range xs.size, xs[(((xs.size : Nat) : Int) - 1 + (m : Int) * (-1)).toNat]? = some (xs.toList.reverse.getD m default) := by
    intro m hm
    rw [List.mem_range] at hm
    have e1 : (((xs.size : Nat) : Int) - 1 + (m : Int) * (-1)).toNat = xs.size - 1 - m := by omega
    rw [e1, List.getD_eq_getElem?_getD, List.getElem?_reverse (by simpa using hm), Array.length_toList, Array.getElem?_toList, Array.getElem?_eq_getElem (by omega)]
    rfl
  rw [filterMap_some e]
  apply List.ext_getElem?
  intro i
  rw [List.getElem?_map]
  by_cases h : i < xs.size
  · rw [List.getElem?_range h, Option.map_some, List.getD_eq_getElem?_getD]
    rw [List.getElem?_eq_getElem (by simpa using h)]
    rfl
  · rw [List.getElem?_eq_none (by simpa using h), List.getElem?_eq_none (by simpa using h)]
    rfl
theorem getItem_tuple_rev {t sl : Addr} {items : Array Value} {k : Tok} {Q : Value → Shared → Prop} (ht : IsTup s.heap t items) (hs : s.heap.IsSliceOf sl .none .none (.int (-1) k))
    (h : Q (.ref s.heap.objs.size) { s with heap := s.heap.push { cls := .type "tuple", data := .seq items.toList.reverse.toArray } })
    (hsz : items.size ≤ sizeLine) : wpAny (model prog w) A (getItem (.ref t) (.ref sl)) Q E s := by
  have htake : sizeOk (.seq items.toList.reverse.toArray) := by
    show items.toList.reverse.toArray.size ≤ sizeLine
    rw [List.size_toArray, List.length_reverse, Array.length_toList]
    exact hsz
  obtain ⟨os, hos, hcs, hds⟩ := id hs
  have hTs : s.TypeIs (.ref sl) "slice" := ⟨os, hos, hcs⟩
  unfold getItem
  try with_reducible refine wpAny_holding ?_
  first | refine wpAny_bind (wpAny_pure ?_) | skip
  refine wpAny_bind (wpAny_sequenceKey ht.typeIs (by decide) ?_)
  refine wpAny_bind (wpAny_callSpecial?_slot (name := Str.ofString "__getitem__") ht.typeIs PyProof.Rows.slot_tuple_getitem
    (wpAny_call_entry PyProof.Rows.slot_tuple_getitem ht.typeIs entry_tuple_getitem ?_ (args_tuple_getitem _ _)))
  show wpAny _ _ (Builtin.Tuple.tupleItemsOf (.ref t) >>= _) _ _ s
  refine wpAny_bind (tupleItemsOf_ ht ?_)
  refine wpAny_bind (wpAny_typeOf hTs ?_)
  rw [if_pos (by decide)]
  refine wpAny_bind (sliceApplied_rev hs ?_)
  have hno : ¬ ((((items.size : Nat) : Int) - 1 == 0 && (-1 : Int) == 1 && items.size == items.size) = true) := by
    intro q
    rw [Bool.and_eq_true, Bool.and_eq_true] at q
    exact absurd q.1.2 (by decide)
  show wpAny _ _ (if (((items.size : Nat) : Int) - 1 == 0 && (-1 : Int) == 1 && items.size == items.size) = true then _ else _) _ _ s
  rw [if_neg hno, pick_rev]
  first
    | exact wpAny_bind (m := Builtin.Tuple.tupleExact _) (wpAny_newObj_type (wpAny_pure ⟨_, rfl, wpAny_pure h⟩) htake)
    | exact wpAny_bind (m := Builtin.Tuple.tupleExact _) (wpAny_newObj_type (wpAny_bind (wpAny_pure (wpAny_pure ⟨_, rfl, wpAny_pure h⟩))) htake)
    | exact wpAny_bind (wpAny_bind (m := Builtin.Tuple.tupleExact _) (wpAny_newObj_type (wpAny_pure (wpAny_pure ⟨_, rfl, wpAny_pure h⟩)) htake))
    | exact wpAny_bind (wpAny_bind (m := Builtin.Tuple.tupleExact _) (wpAny_newObj_type (wpAny_pure ⟨_, rfl, wpAny_pure h⟩) htake))
end
section
variable {X : Cx}
def tRevT (K : PySem.W.Frag) (te : TE) : TE := fun σ H Q => te σ H fun x H1 => ∃ a xs, x = .ref a ∧ SqT K H1 a xs ∧ ∀ p, H1 p = none → Q (.ref p) (upd H1 p (.tup xs.reverse))
theorem pe_revT {e : Expr} {te : TE} {k : Nat} {p1 p2 p3 pos : Pos} (he : PE X e te) : PE X (.Subscript e (.Slice none none (some (.UnaryOp .USub (.Constant (.int 1) k p1) p2)) p3) pos) (tRevT X.K te) := by
  refine ⟨fun pins s σ H Q I h => ?_⟩
  refine Subscript_ (thn (he.run pins s σ H _ I h) fun v s1 ⟨x, H1, I1, r1, q1⟩ => ?_)
  obtain ⟨a, xs, ex, hx, q⟩ := q1
  subst ex
  cases r1
  have hst : PO X (some (.UnaryOp .USub (.Constant (.int 1) k p1) p2)) (tPart (tUn (rU fun i => .int (-i)) (tC (.int 1)))) := po_some (pe_un un_neg pe_int)
  refine wpAny_Slice (thn (po_none.run pins s1 σ H1 (fun o H2 => o = none ∧ H2 = H1) I1 ⟨rfl, rfl⟩) fun vl s2 ⟨l, H2, I2, pl, el, e2⟩ => ?_)
  subst el e2
  refine thn (po_none.run pins s2 σ H2 (fun o H3 => o = none ∧ H3 = H2) I2 ⟨rfl, rfl⟩) fun vu s3 ⟨u, H3, I3, pu, eu, e3⟩ => ?_
  subst eu e3
  refine thn (hst.run pins s3 σ H3 (fun o H4 => o = some (-1) ∧ H4 = H3) I3 ⟨1, rfl, -1, rfl, rfl, rfl⟩) fun vs s4 ⟨o, H4, I4, ps, eo, e4⟩ => ?_
  subst eo e4
  have I5 : Inv X pins σ H4 { s4 with heap := s4.heap.push { cls := .type "slice", data := .fields #[vl, vu, vs] } } := I4.kept (t' := s4.toks) fun b ob q => Heap.get?_push_of_some _ q
  obtain ⟨its, r, ht, hz⟩ := I5.tuple hx
  have hlen := r.length
  show wpAny (model X.prog X.w) X.A (subscriptTail e (.Slice none none (some (.UnaryOp .USub (.Constant (.int 1) k p1) p2)) p3) (.ref a) (.ref s4.heap.objs.size)) (EP X pins σ Q) X.xe { s4 with heap := s4.heap.push { cls := .type "slice", data := .fields #[vl, vu, vs] } }
  cases pl
  cases pu
  cases ps
  refine tail_any (ops := [.ref a, .ref s4.heap.objs.size]) ht.typeIs (PyProof.Rows.slot_tuple_getitem.lookup) ?_ (by with_unfolding_all rfl)
  refine getItem_tuple_rev ht (Heap.IsSliceOf.new _ _ _ _) ?_ (by rw [List.size_toArray]; omega)
  refine ⟨.ref _, _, I5.laid (t' := s4.toks) (o := .tup xs.reverse) (fun b ob q => Heap.get?_push_of_some _ q) (Nat.le_refl _) ?_, rfl, q _ (I5.hok.fresh (Nat.le_refl _))⟩
  exact ⟨by rw [List.length_reverse]; exact hz, _, r.reverse, IsTup.new _ _⟩
end
end HX
namespace DL
open PySem PySem.Spec L2
def eRevT (f : DL.Env → R D) : DL.Env → R D := fun Γ => (f Γ).bind fun d => match d with
  | .tup xs => .ok (.tup xs.reverse)
  | _ => .stuck
section
variable {X : Cx} {W : WX} {e : Expr} {f : DL.Env → R D} {pos : Pos}
theorem de_revT {k : Nat} {p1 p2 p3 : Pos} (he : DE X W e f) : DE X W (.Subscript e (.Slice none none (some (.UnaryOp .USub (.Constant (.int 1) k p1) p2)) p3) pos) (eRevT f) := by
  refine PE.weak (HX.pe_revT he) ?_
  rintro σ H Q ⟨F0, H0, F, Γ, r, p⟩
  refine ⟨F0, H0, F, Γ, r, PostG.bind p (fun d v F2 H2 _ x r1 p1 => ?_) (fun _ _ _ _ _ h => h)⟩
  cases d with
  | tup xs =>
    obtain ⟨a, us, e1, e2, e3⟩ := r1.tupH x.fh
    have p1 : PostG X.K X.mg (repV X.K X.mg) F2 H2 (WE W σ) Q (.ok (.tup xs.reverse)) := p1
    refine ⟨a, us, e1, SqT.of e2, fun q hq => ?_⟩
    have x3 := Ext.laid (o := .tup us.reverse) x.fh hq
    exact PostG.at p1 x3 (Rp.tup upd_same (RpL.mono x3.ff _ _ (RpL.reverse e3)))
  | _ => exact p1.elim
/-! ### a list that is not empty, != [] -/
theorem op_neLen (hu : X.A.units + 64 < cLine) : OpR X (compareOp .NotEq) (fun x y H Q => ∃ a b xs ys, x = .ref a ∧ y = .ref b ∧ SqL X.K H a xs ∧ SqL X.K H b ys ∧ xs.length ≠ ys.length ∧ Q (.bl true) H) := by
  intro pins s σ H x y v u Q I rx ry h
  obtain ⟨a, b, xs, ys, rfl, rfl, h1, h2, hl, q⟩ := h
  cases rx
  cases ry
  obtain ⟨its, r, ht, hz⟩ := I.list h1
  obtain ⟨its2, r2, ht2, hz2⟩ := I.list h2
  have e1 := r.length
  have e2 := r2.length
  exact SeqAt.RcNeAt.lists_lengths ht.isList ht2.isList (by rw [List.size_toArray, List.size_toArray, bne_iff_ne]; omega) (by omega) X.prog X.w _ _ ⟨V.bl true, H, I, rfl, q⟩
def dNeN : D → D → R D
  | .lst (_ :: _), .lst [] => .ok (.bl true)
  | x, y => dNe x y
theorem op_neN (hu : X.A.units + 64 < cLine) : OpR X (compareOp .NotEq) (fun x y H Q => (∃ a b xs ys, x = .ref a ∧ y = .ref b ∧ SqL X.K H a xs ∧ SqL X.K H b ys ∧ xs.length ≠ ys.length ∧ Q (.bl true) H) ∨ (rNe x y H Q ∨ rNeD X.K x y H Q)) := (op_neLen hu).or (opNe hu)
theorem sat_neN : Sat2 X (fun x y H Q => (∃ a b xs ys, x = .ref a ∧ y = .ref b ∧ SqL X.K H a xs ∧ SqL X.K H b ys ∧ xs.length ≠ ys.length ∧ Q (.bl true) H) ∨ (rNe x y H Q ∨ rNeD X.K x y H Q)) dNeN := by
  intro F H x y v u E Q z rx ry p
  have old : PostG X.K X.mg (repV X.K X.mg) F H E Q (dNe x y) → (∃ a b xs ys, v = .ref a ∧ u = .ref b ∧ SqL X.K H a xs ∧ SqL X.K H b ys ∧ xs.length ≠ ys.length ∧ Q (.bl true) H) ∨ (rNe v u H Q ∨ rNeD X.K v u H Q) := fun p => Or.inr (sat_ne F H x y v u E Q z rx ry p)
  cases x with
  | lst xs =>
    cases xs with
    | nil => exact old p
    | cons x xs =>
      cases y with
      | lst ys =>
        cases ys with
        | cons y ys => exact old p
        | nil =>
          obtain ⟨a, vs, e1, e2, e3⟩ := rx.lstH z
          obtain ⟨b, us, g1, g2, g3⟩ := ry.lstH z
          have l1 := e3.length
          have l2 := g3.length
          exact .inl ⟨a, b, vs, us, e1, g1, SqL.of e2, SqL.of g2, by rw [← l1, ← l2]; simp, PostG.ok p z Rp.bl⟩
      | _ => exact old p
  | _ => exact old p
end
end DL
set_option Elab.async false
set_option linter.all false
set_option maxRecDepth 100000
set_option maxHeartbeats 4000000
/-! The data layer: objects that a frame holds alone: their fields, their methods. -/
namespace DL
open PySem PySem.Spec L2
abbrev OB := List Str × List Fl
def lkF : List Str → List Fl → Str → Option Fl
  | n :: ns, f :: fs, x => if n = x then some f else lkF ns fs x
  | _, _, _ => none
/-- a field put, or a new one at the end -/
def puN : List Str → Str → List Str
  | [], x => [x]
  | n :: ns, x => if n = x then n :: ns else n :: puN ns x
def puL {α : Type} : List Str → List α → Str → α → List α
  | n :: ns, f :: fs, x, g => if n = x then g :: fs else f :: puL ns fs x g
  | _, _, _, g => [g]
section
variable {α : Type}
theorem puL_len : ∀ {ns : List Str} {fs : List α} {x : Str} {g : α}, ns.length = fs.length → (puN ns x).length = (puL ns fs x g).length
  | [], [], _, _, _ => rfl
  | [], _ :: _, _, _, h => by cases h
  | _ :: _, [], _, _, h => by cases h
  | n :: ns, f :: fs, x, g, h => by
    unfold puN puL
    by_cases q : n = x
    · rw [if_pos q, if_pos q]
      simpa using h
    · rw [if_neg q, if_neg q]
      rw [List.length_cons, List.length_cons, puL_len (by simpa using h)]
theorem puN_le : ∀ {ns : List Str} {x : Str}, (puN ns x).length ≤ ns.length + 1
  | [], _ => Nat.le_refl _
  | n :: ns, x => by
    unfold puN
    split
    · exact Nat.le_succ _
    · have := puN_le (ns := ns) (x := x)
      simp only [List.length_cons]
      omega
theorem putF_zip : ∀ {ns : List Str} {vs : List V} {x : Str} {y : V}, ns.length = vs.length → putF x y (ns.zip vs) = (puN ns x).zip (puL ns vs x y)
  | [], [], _, _, _ => by simp [putF, puN, puL]
  | [], _ :: _, _, _, h => by cases h
  | _ :: _, [], _, _, h => by cases h
  | n :: ns, v :: vs, x, y, h => by
    have ih := putF_zip (ns := ns) (vs := vs) (x := x) (y := y) (by simpa using h)
    unfold puN puL
    rw [List.zip_cons_cons]
    by_cases q : n = x
    · rw [if_pos q, if_pos q, List.zip_cons_cons]
      simp [putF, q]
    · rw [if_neg q, if_neg q, List.zip_cons_cons, ← ih]
      simp [putF, q]
/-- the place of the new one -/
def puI : List Str → Str → Nat
  | [], _ => 0
  | n :: ns, x => if n = x then 0 else puI ns x + 1
theorem puL_at : ∀ {ns : List Str} {fs : List α} {x : Str} {g : α} {i : Nat}, ns.length = fs.length → (puL ns fs x g)[i]? = if i = puI ns x then some g else fs[i]?
  | [], [], x, g, i, _ => by
    cases i with
    | zero => rfl
    | succ i => simp [puL, puI]
  | [], _ :: _, _, _, _, h => by cases h
  | _ :: _, [], _, _, _, h => by cases h
  | n :: ns, f :: fs, x, g, i, h => by
    unfold puL puI
    by_cases q : n = x
    · rw [if_pos q, if_pos q]
      cases i with
      | zero => rfl
      | succ i => simp
    · rw [if_neg q, if_neg q]
      cases i with
      | zero => simp
      | succ i =>
        rw [List.getElem?_cons_succ, puL_at (by simpa using h), List.getElem?_cons_succ]
        by_cases e : i = puI ns x
        · rw [if_pos e, if_pos (by omega)]
        · rw [if_neg e, if_neg (by omega)]
end
theorem lkF_get : ∀ {ns : List Str} {fs : List Fl} {vs : List V} {x : Str} {f : Fl}, ns.length = vs.length → fs.length = vs.length → lkF ns fs x = some f → ∃ u, fs[puI ns x]? = some f ∧ vs[puI ns x]? = some u ∧ (ns.zip vs).lookup x = some u
  | [], _, _, _, _, _, _, h => by unfold lkF at h; cases h
  | _ :: _, [], _, _, _, _, _, h => by unfold lkF at h; cases h
  | _ :: _, _ :: _, [], _, _, h, _, _ => by cases h
  | n :: ns, f0 :: fs, v :: vs, x, f, l1, l2, h => by
    unfold lkF at h
    by_cases q : n = x
    · rw [if_pos q] at h
      cases h
      have e : puI (n :: ns) x = 0 := if_pos q
      exact ⟨v, by rw [e]; rfl, by rw [e]; rfl, by rw [List.zip_cons_cons, lookup_put, if_pos q.symm]⟩
    · rw [if_neg q] at h
      obtain ⟨u, h1, h2, h3⟩ := lkF_get (by simpa using l1) (by simpa using l2) h
      have e : puI (n :: ns) x = puI ns x + 1 := if_neg q
      exact ⟨u, by rw [e]; simpa using h1, by rw [e]; simpa using h2, by rw [List.zip_cons_cons, lookup_put, if_neg fun z => q z.symm]; exact h3⟩
theorem puN_in : ∀ {ns : List Str} {fs : List Fl} {x : Str} {f : Fl}, lkF ns fs x = some f → puN ns x = ns
  | [], _, _, _, h => by unfold lkF at h; cases h
  | _ :: _, [], _, _, h => by unfold lkF at h; cases h
  | n :: ns, f0 :: fs, x, f, h => by
    unfold lkF at h
    unfold puN
    by_cases q : n = x
    · rw [if_pos q]
    · rw [if_neg q] at h
      rw [if_neg q, puN_in h]
/-! ### steps that change a thing held alone -/
section
variable {K : PySem.W.Frag} {mg : Str → Option Value} {F0 : Fe} {H0 F H F1 H1 H2 : Hp} {σ : L2.St} {Γ : DL.Env}
theorem Rel.mutX (r : Rel K mg F0 H0 F H σ Γ) (x : Ext F H F1 H1) {i : Nat} {s s' : Slot} {v : V} (ei : Γ[i]? = some (some s)) (hv : σ[i]? = some (some v))
    (hH : ∀ a ob, ¬ foot H s v a → H1 a = some ob → H2 a = some ob) (h : SlotOk K mg H0 F1 H2 s' v) (hf : ∀ l, foot H2 s' v l → foot H s v l ∨ H l = none) (hb : ∀ c ns fs, s' = .oob true c ns fs → ∃ c2 ns2 fs2, s = .oob true c2 ns2 fs2) : Rel K mg F0 H0 F1 H2 σ (Γ.set i (some s')) := by
  obtain ⟨v', hv', sv⟩ := r.slot i s ei
  rw [hv] at hv'
  cases hv'
  have hi : i < Γ.length := (List.getElem?_eq_some_iff.mp ei).1
  have off : ∀ (j : Nat) (t : Slot) (u : V) (l : Addr), i ≠ j → Γ[j]? = some (some t) → σ[j]? = some (some u) → foot H t u l → ¬ foot H s v l := fun j t u l q ej hj f1 f2 => q (r.inj i j s t v u l ei ej hv hj f2 f1)
  have back : ∀ (j : Nat) (t : Slot) (u : V) (l : Addr), i ≠ j → Γ[j]? = some (some t) → σ[j]? = some (some u) → foot H2 t u l → foot H t u l := fun j t u l q ej hj f1 => by
    obtain ⟨w, h1, h2⟩ := r.slot j t ej
    rw [hj] at h1
    cases h1
    exact foot_gen h2 (fun l2 ob q2 e => hH l2 ob (off j t _ l2 q ej hj q2) (x.hh _ _ e)) f1
  have apart : ∀ (j : Nat) (t : Slot) (u : V) (l : Addr), i ≠ j → Γ[j]? = some (some t) → σ[j]? = some (some u) → foot H2 t u l → foot H2 s' v l → False := fun j t u l q ej hj f1 f2 => by
    have b := back j t u l q ej hj f1
    rcases hf l f2 with z | z
    · exact off j t u l q ej hj b z
    · obtain ⟨w, h1, h2⟩ := r.slot j t ej
      rw [hj] at h1
      cases h1
      obtain ⟨ob, e1, _, _⟩ := foot_at h2 b
      rw [z] at e1
      cases e1
  have xe := r.ext.trans x
  refine ⟨⟨xe.ff, fun a u e => ?_, fun a u e => ?_, xe.new⟩, by rw [List.length_set]; exact r.len, fun j t e => ?_, fun j k t t' u w l ej ek hj hk os ot => ?_, r.slf.setE ei hb⟩
  · have nf : ¬ foot H s v a := fun q => by
      obtain ⟨ob, z0, z, _⟩ := foot_at sv q
      rcases x.new a u e with y | y
      · rw [y] at z; cases z
      · rw [y] at z0; cases z0
    rcases xe.fh a u e with z | ⟨z1, ob, z2⟩
    · exact .inl (hH a u nf z)
    · exact .inr ⟨z1, ob, hH a _ nf z2⟩
  · exact hH a u (fun q => by
      obtain ⟨_, _, _, z⟩ := foot_at sv q
      rw [e] at z
      cases z) (xe.hh a u e)
  · by_cases q : i = j
    · subst q
      rw [List.getElem?_set_self hi] at e
      cases e
      exact ⟨v, hv, h⟩
    · rw [List.getElem?_set_ne q] at e
      obtain ⟨w, h1, h2⟩ := r.slot j t e
      have h3 := h2.ext x
      exact ⟨w, h1, h3.gen (Same.refl _) (fun l z => (foot_at h3 z).choose_spec.2.1) (fun l ob z e2 => hH l ob (off j t w l q e h1 (foot_ext h2 x z)) e2) (fun l z => (foot_at h3 z).choose_spec.2.2)⟩
  · by_cases qj : i = j
    · by_cases qk : i = k
      · rw [← qj, ← qk]
      · subst qj
        rw [List.getElem?_set_self hi] at ej
        cases ej
        rw [hv] at hj
        cases hj
        rw [List.getElem?_set_ne qk] at ek
        exact (apart k t' w l qk ek hk ot os).elim
    · by_cases qk : i = k
      · subst qk
        rw [List.getElem?_set_self hi] at ek
        cases ek
        rw [hv] at hk
        cases hk
        rw [List.getElem?_set_ne qj] at ej
        exact (apart j t u l qj ej hj os ot).elim
      · rw [List.getElem?_set_ne qj] at ej
        rw [List.getElem?_set_ne qk] at ek
        exact r.inj j k t t' u w l ej ek hj hk (back j t u l qj ej hj os) (back k t' w l qk ek hk ot)
open Classical in
/-- the heap without what is held alone -/
noncomputable def hole (H : Hp) (s : Slot) (v : V) : Hp := fun l => if foot H s v l then none else H l
theorem hole_in {s : Slot} {v : V} {l : Addr} (q : foot H s v l) : hole H s v l = none := if_pos q
theorem hole_out {s : Slot} {v : V} {l : Addr} (q : ¬ foot H s v l) : hole H s v l = H l := if_neg q
theorem hole_same (s : Slot) (v : V) : Same (hole H s v) H := fun l o e => by
  by_cases q : foot H s v l
  · rw [hole_in q] at e; cases e
  · rw [hole_out q] at e; exact e
theorem hole_none {s : Slot} {v : V} {l : Addr} (h : hole H s v l = none) : foot H s v l ∨ H l = none := by
  by_cases q : foot H s v l
  · exact .inl q
  · rw [hole_out q] at h; exact .inr h
/-- behind a call that was handed the thing at slot i -/
theorem Rel.call (r : Rel K mg F0 H0 F H σ Γ) {i : Nat} {s s' : Slot} {v : V} (ei : Γ[i]? = some (some s)) (hv : σ[i]? = some (some v)) (x : Ext F (hole H s v) F1 H1) (h : SlotOk K mg (hole H s v) F1 H1 s' v)
    (hb : ∀ c ns fs, s' = .oob true c ns fs → ∃ c2 ns2 fs2, s = .oob true c2 ns2 fs2) : Rel K mg F0 H0 F1 H1 σ (Γ.set i (some s')) := by
  obtain ⟨v', hv', sv⟩ := r.slot i s ei
  rw [hv] at hv'
  cases hv'
  have hi : i < Γ.length := (List.getElem?_eq_some_iff.mp ei).1
  have off : ∀ (j : Nat) (t : Slot) (u : V) (l : Addr), i ≠ j → Γ[j]? = some (some t) → σ[j]? = some (some u) → foot H t u l → ¬ foot H s v l := fun j t u l q ej hj f1 f2 => q (r.inj i j s t v u l ei ej hv hj f2 f1)
  have keep : ∀ (j : Nat) (t : Slot) (u : V) (l : Addr) (ob : HO), i ≠ j → Γ[j]? = some (some t) → σ[j]? = some (some u) → foot H t u l → H l = some ob → H1 l = some ob := fun j t u l ob q ej hj f1 e => x.hh l ob (by rw [hole_out (off j t u l q ej hj f1)]; exact e)
  have back : ∀ (j : Nat) (t : Slot) (u : V) (l : Addr), i ≠ j → Γ[j]? = some (some t) → σ[j]? = some (some u) → foot H1 t u l → foot H t u l := fun j t u l q ej hj f1 => by
    obtain ⟨w, h1, h2⟩ := r.slot j t ej
    rw [hj] at h1
    cases h1
    exact foot_gen h2 (fun l2 ob q2 e => keep j t _ l2 ob q ej hj q2 e) f1
  have apart : ∀ (j : Nat) (t : Slot) (u : V) (l : Addr), i ≠ j → Γ[j]? = some (some t) → σ[j]? = some (some u) → foot H1 t u l → foot H1 s' v l → False := fun j t u l q ej hj f1 f2 => by
    have b := back j t u l q ej hj f1
    obtain ⟨_, _, _, e0⟩ := foot_at h f2
    rw [hole_out (off j t u l q ej hj b)] at e0
    obtain ⟨w, h1, h2⟩ := r.slot j t ej
    rw [hj] at h1
    cases h1
    obtain ⟨ob, e1, _, _⟩ := foot_at h2 b
    rw [e0] at e1
    cases e1
  refine ⟨⟨r.ext.ff.trans x.ff, x.fh, fun a u e => ?_, fun a u e => ?_⟩, by rw [List.length_set]; exact r.len, fun j t e => ?_, fun j k t t' u w l ej ek hj hk os ot => ?_, r.slf.setE ei hb⟩
  · refine x.hh a u ?_
    rw [hole_out fun q => by
      obtain ⟨_, _, _, z⟩ := foot_at sv q
      rw [e] at z
      cases z]
    exact r.ext.hh a u e
  · rcases x.new a u e with z | z
    · exact r.ext.new a u z
    · rcases hole_none z with y | y
      · exact .inr (foot_at sv y).choose_spec.2.2
      · exact .inr (r.ext.hh.free y)
  · by_cases q : i = j
    · subst q
      rw [List.getElem?_set_self hi] at e
      cases e
      refine ⟨v, hv, h.gen (Same.refl _) (fun l z => (foot_at h z).choose_spec.2.1) (fun l ob _ e => e) fun l z => ?_⟩
      rcases hole_none (foot_at h z).choose_spec.2.2 with y | y
      · exact (foot_at sv y).choose_spec.2.2
      · exact r.ext.hh.free y
    · rw [List.getElem?_set_ne q] at e
      obtain ⟨w, h1, h2⟩ := r.slot j t e
      refine ⟨w, h1, h2.gen x.ff (fun l z => ?_) (fun l ob z e2 => keep j t w l ob q e h1 z e2) (fun l z => (foot_at h2 z).choose_spec.2.2)⟩
      obtain ⟨ob, e1, e2, e3⟩ := foot_at h2 z
      cases y : F1 l with
      | none => rfl
      | some o =>
        rcases x.new l o y with y2 | y2
        · rw [e2] at y2; cases y2
        · rw [hole_out (off j t w l q e h1 z), e1] at y2; cases y2
  · by_cases qj : i = j
    · by_cases qk : i = k
      · rw [← qj, ← qk]
      · subst qj
        rw [List.getElem?_set_self hi] at ej
        cases ej
        rw [hv] at hj
        cases hj
        rw [List.getElem?_set_ne qk] at ek
        exact (apart k t' w l qk ek hk ot os).elim
    · by_cases qk : i = k
      · subst qk
        rw [List.getElem?_set_self hi] at ek
        cases ek
        rw [hv] at hk
        cases hk
        rw [List.getElem?_set_ne qj] at ej
        exact (apart j t u l qj ej hj os ot).elim
      · rw [List.getElem?_set_ne qj] at ej
        rw [List.getElem?_set_ne qk] at ek
        exact r.inj j k t t' u w l ej ek hj hk (back j t u l qj ej hj os) (back k t' w l qk ek hk ot)
end
section
variable {K : PySem.W.Frag} {mg : Str → Option Value} {F0 : Fe} {H0 F H F1 H1 H2 : Hp} {σ : L2.St} {Γ : DL.Env}
theorem FlOk.ne {f : Fl} {u : V} {l a C dx : Addr} {kvs : List (Str × V)} (h : FlOk K mg H0 F H f u) (o : f.isOwn = true) (e : u = .ref l) (ha : H a = some (.ins C dx kvs)) : l ≠ a := by
  intro z
  subst z
  cases f with
  | val d => cases o
  | own ds =>
    obtain ⟨l2, vs, g1, g2, _⟩ := h
    rw [e] at g1
    cases g1
    rw [g2] at ha
    cases ha
  | dic ks ds =>
    obtain ⟨l2, vs, g1, g2, _⟩ := h
    rw [e] at g1
    cases g1
    rw [g2] at ha
    cases ha
/-- a field put -/
theorem ob_put {c : Str} {ns : List Str} {fs : List Fl} {a C dx : Addr} {vs : List V} {x : Str} {g : Fl} {y : V} (s0 : Same H0 H) (ec : mg c = some (.ref C)) (eh : H a = some (.ins C dx (ns.zip vs))) (el : ns.length = vs.length) (el2 : fs.length = vs.length) (ef : F a = none) (e0 : H0 a = none)
    (hf : ∀ (i : Nat) (f : Fl) (u : V), fs[i]? = some f → vs[i]? = some u → FlOk K mg H0 F H f u) (hi : ∀ (i j : Nat) (f g : Fl) (u : V), fs[i]? = some f → fs[j]? = some g → f.isOwn = true → g.isOwn = true → vs[i]? = some u → vs[j]? = some u → i = j)
    (xe : Ext F H F1 H1) (hg : FlOk K mg H F1 H1 g y) (b b' : Bool) :
    SlotOk K mg H0 F1 (upd H1 a (.ins C dx (putF x y (ns.zip vs)))) (.oob b c (puN ns x) (puL ns fs x g)) (.ref a) ∧ ∀ l, foot (upd H1 a (.ins C dx (putF x y (ns.zip vs)))) (.oob b c (puN ns x) (puL ns fs x g)) (.ref a) l → foot H (.oob b' c ns fs) (.ref a) l ∨ H l = none := by
  have fresh : ∀ l, g.isOwn = true → y = .ref l → H l = none := fun l o e => by
    obtain ⟨l2, ob, e1, _, _, e2⟩ := FlOk.own_at o hg
    rw [e] at e1
    cases e1
    exact e2
  have gnew : FlOk K mg H0 F1 (upd H1 a (.ins C dx (putF x y (ns.zip vs)))) g y := hg.gen (Same.refl _) (fun l o e => by
      obtain ⟨l2, ob, e1, _, e2, _⟩ := FlOk.own_at o hg
      rw [e] at e1
      cases e1
      exact e2) (fun l ob o e q => by
      rw [upd_ne fun z => by rw [z] at e; have := fresh a o e; rw [eh] at this; cases this]
      exact q) (fun l o e => s0.free (fresh l o e))
  have old : ∀ (i : Nat) (f : Fl) (u : V), fs[i]? = some f → vs[i]? = some u → FlOk K mg H0 F1 (upd H1 a (.ins C dx (putF x y (ns.zip vs)))) f u := fun i f u h1 h2 => by
    have h := hf i f u h1 h2
    refine h.gen xe.ff (fun l o e => ?_) (fun l ob o e q => ?_) fun l o e => ?_
    · obtain ⟨l2, ob, e1, e2, e3, _⟩ := FlOk.own_at o h
      rw [e] at e1
      cases e1
      cases z : F1 l with
      | none => rfl
      | some w =>
        rcases xe.new l w z with y2 | y2
        · rw [e3] at y2; cases y2
        · rw [e2] at y2; cases y2
    · rw [upd_ne (h.ne o e eh)]
      exact xe.hh l ob q
    · obtain ⟨l2, ob, e1, _, _, e2⟩ := FlOk.own_at o h
      rw [e] at e1
      cases e1
      exact e2
  have l1 : (puN ns x).length = (puL ns vs x y).length := puL_len el
  have l2 : (puL ns fs x g).length = (puL ns vs x y).length := by rw [← l1, puL_len (fs := fs) (g := g) (by omega)]
  have get : ∀ (i : Nat) (f : Fl) (u : V), (puL ns fs x g)[i]? = some f → (puL ns vs x y)[i]? = some u → (f = g ∧ u = y ∧ i = puI ns x) ∨ (fs[i]? = some f ∧ vs[i]? = some u ∧ i ≠ puI ns x) := fun i f u h1 h2 => by
    rw [puL_at (by omega)] at h1
    rw [puL_at el] at h2
    by_cases q : i = puI ns x
    · rw [if_pos q] at h1 h2
      cases h1
      cases h2
      exact .inl ⟨rfl, rfl, q⟩
    · rw [if_neg q] at h1 h2
      exact .inr ⟨h1, h2, q⟩
  have some_of : ∀ (i : Nat) (f : Fl) (l : Addr), fs[i]? = some f → f.isOwn = true → vs[i]? = some (.ref l) → ∃ ob, H l = some ob := fun i f l h1 o h2 => by
    obtain ⟨l2, ob, e1, e2, _⟩ := FlOk.own_at o (hf i f _ h1 h2)
    cases e1
    exact ⟨ob, e2⟩
  have isRef : ∀ (f : Fl) (u : V), f.isOwn = true → FlOk K mg H0 F1 (upd H1 a (.ins C dx (putF x y (ns.zip vs)))) f u → ∃ l, u = .ref l := fun f u o h => by
    obtain ⟨l, _, e, _⟩ := FlOk.own_at o h
    exact ⟨l, e⟩
  refine ⟨⟨a, C, dx, puL ns vs x y, rfl, ec, by rw [upd_same, putF_zip el], l1, l2, (show F1 a = none by
    cases z : F1 a with
    | none => rfl
    | some w =>
      rcases xe.new a w z with y2 | y2
      · rw [ef] at y2; cases y2
      · rw [eh] at y2; cases y2), e0, fun i f u h1 h2 => ?_, fun i j f f' u h1 h2 o o' h3 h4 => ?_⟩, fun l q => ?_⟩
  · rcases get i f u h1 h2 with ⟨rfl, rfl, _⟩ | ⟨h3, h4, _⟩
    · exact gnew
    · exact old i f u h3 h4
  · rcases get i f u h1 h3 with ⟨rfl, rfl, q1⟩ | ⟨g1, g2, q1⟩
    · rcases get j f' _ h2 h4 with ⟨_, _, q2⟩ | ⟨g3, g4, _⟩
      · rw [q1, q2]
      · obtain ⟨l, e⟩ := isRef f u o gnew
        obtain ⟨ob, e2⟩ := some_of j f' l g3 o' (by rw [g4, e])
        rw [fresh l o e] at e2
        cases e2
    · rcases get j f' u h2 h4 with ⟨rfl, rfl, q2⟩ | ⟨g3, g4, _⟩
      · obtain ⟨l, e⟩ := isRef f' u o' gnew
        obtain ⟨ob, e2⟩ := some_of i f l g1 o (by rw [g2, e])
        rw [fresh l o' e] at e2
        cases e2
      · exact hi i j f f' u g1 g3 o o' g2 g4
  · rcases q with q | ⟨a2, C2, dx2, vs2, i, f, q1, q2, q3, q4, q5, q6⟩
    · exact .inl (Or.inl q)
    · cases q1
      rw [upd_same, putF_zip el] at q2
      injection q2 with q2
      injection q2 with _ _ q2
      have := zip_snd l1 q3 q2
      subst this
      rcases get i f _ q4 q6 with ⟨rfl, e, _⟩ | ⟨g1, g2, _⟩
      · exact .inr (fresh l q5 e.symm)
      · exact .inl (Or.inr ⟨a, C, dx, vs, i, f, rfl, eh, el, g1, q5, g2⟩)
end
/-! ### what is read, what is put -/
def OCf (K : PySem.W.Frag) (mg : Str → Option Value) (c : Str) (xs : List Str) : Prop := ∃ C, mg c = some (.ref C) ∧ Cls K C ∧ ∀ x ∈ xs, NoAttr K C x
def eFld (i : Nat) (c x : Str) : DL.Env → R D := fun Γ => match Env.at_ Γ i with
  | some (.oob _ c' ns fs) => if c' = c then (match lkF ns fs x with
    | some (.val d) => .ok d
    | _ => .stuck) else .stuck
  | _ => .stuck
def sFldV (i : Nat) (c x : Str) (f : DL.Env → R D) : DL.Env → Out := fun Γ => (f Γ).out Γ fun d => match Env.at_ Γ i with
  | some (.oob b c' ns fs) => if c' = c ∧ ns.length < 900 then .nx (Γ.set i (some (.oob b c (puN ns x) (puL ns fs x (.val d))))) else .stuck
  | _ => .stuck
def sFldO (i : Nat) (c x : Str) (f : DL.Env → R (List D)) : DL.Env → Out := fun Γ => (f Γ).out Γ fun ds => match Env.at_ Γ i with
  | some (.oob b c' ns fs) => if c' = c ∧ ns.length < 900 then .nx (Γ.set i (some (.oob b c (puN ns x) (puL ns fs x (.own ds))))) else .stuck
  | _ => .stuck
def sExtF (i : Nat) (c x : Str) (f : DL.Env → R (List D)) : DL.Env → Out := fun Γ => match Env.at_ Γ i with
  | some (.oob b c' ns fs) => if c' = c then (match lkF ns fs x with
    | some (.own ds) => (f Γ).out Γ fun es => if ds.length + es.length ≤ LIM then .nx (Γ.set i (some (.oob b c ns (puL ns fs x (.own (ds ++ es)))))) else .stuck
    | _ => .stuck) else .stuck
  | _ => .stuck
def sRetF (i : Nat) (c x : Str) : DL.Env → Out := fun Γ => match Env.at_ Γ i with
  | some (.oob _ c' ns fs) => if c' = c then (match lkF ns fs x with
    | some (.own ds) => .ro ds
    | _ => .stuck) else .stuck
  | _ => .stuck
section
variable {X : Cx} {W : WX} {c x y : Str} {xs : List Str} {e : Expr} {f : DL.Env → R D} {fo : DL.Env → R (List D)} {p1 p2 pos cpos : Pos}
theorem de_fld (i : Nat) (h : OCf X.K X.mg c xs) (hx : x ∈ xs) (hN : X.N[i]? = some y := by rfl) (hv : Vis X.env.scope y := by first | exact Or.inl (by kernel_rfl) | exact Or.inr (Or.inl (by kernel_rfl)) | exact Or.inr (Or.inr (by kernel_rfl))) (hd : (y == ("__debug__" : Str)) = false := by kernel_rfl)
    (hcd : (y == ("__classdict__" : Str)) = false := by kernel_rfl) (hb : attributeBase (.Name y p1) x X.env (eval (.Name y p1) X.env) = eval (.Name y p1) X.env := by rfl) : DE X W (.Attribute (.Name y p1) x pos) (eFld i c x) := by
  obtain ⟨C, hm, hc, hn⟩ := h
  refine PE.weak (pe_fld (pe_var hN hv hd hcd) hb) ?_
  rintro σ H Q ⟨F0, H0, F, Γ, r, p⟩
  revert p
  unfold eFld
  cases ei : Env.at_ Γ i with
  | none => exact fun p => p.elim
  | some s =>
    cases s with
    | val d => exact fun p => p.elim
    | own ds => exact fun p => p.elim
    | dic ks ds => exact fun p => p.elim
    | oob b c' ns fs =>
      intro p0
      obtain ⟨q, p⟩ := ifR p0
      clear p0
      subst q
      cases ek : lkF ns fs x with
      | none => rw [ek] at p; exact p.elim
      | some g =>
        rw [ek] at p
        cases g with
        | own ds => exact p.elim
        | dic ks ds => exact p.elim
        | val d =>
          obtain ⟨v, h1, a, C', dx, vs, ev, ec, eh, el, el2, ef, e0, hf, hi⟩ := r.slot i _ (at_get ei)
          rw [hm] at ec
          cases ec
          obtain ⟨u, g1, g2, g3⟩ := lkF_get el el2 ek
          have hu : Rp X.K X.mg F d u := hf _ _ _ g1 g2
          exact ⟨v, h1, a, C, dx, ns.zip vs, u, ev, eh, hc, hn x hx, g3, PostG.ok p r.fz hu⟩
theorem ds_fldV (i : Nat) (h : OCf X.K X.mg c xs) (hx : x ∈ xs) (he : DE X W e f) (hN : X.N[i]? = some y := by rfl) (hv : Vis X.env.scope y := by first | exact Or.inl (by kernel_rfl) | exact Or.inr (Or.inl (by kernel_rfl)) | exact Or.inr (Or.inr (by kernel_rfl))) (hd : (y == ("__debug__" : Str)) = false := by kernel_rfl)
    (hcd : (y == ("__classdict__" : Str)) = false := by kernel_rfl) (hs : swapsWith e (some (.Attribute (.Name y p1) x p2)) pos.line X.env = pure false := by rfl) : DS X W (.Assign [.Attribute (.Name y p1) x p2] e pos) (sFldV i c x f) := by
  obtain ⟨C, hm, hc, hn⟩ := h
  refine PS.weak (ps_fld (pe_var hN hv hd hcd) he hs) ?_
  rintro Dn σ H ⟨F0, H0, F, Γ, r, p⟩
  refine ⟨F0, H0, F, Γ, r, PostS.out r p fun d w F1 H1 _ x1 r1 q1 => ?_⟩
  revert q1
  cases ei : Env.at_ Γ i with
  | none => exact fun p => p.elim
  | some s =>
    cases s with
    | val d => exact fun p => p.elim
    | own ds => exact fun p => p.elim
    | dic ks ds => exact fun p => p.elim
    | oob b c' ns fs =>
      intro q1
      have q1 : PostS X W F0 H0 Dn (if c' = c ∧ ns.length < 900 then .nx (Γ.set i (some (.oob b c (puN ns x) (puL ns fs x (.val d))))) else .stuck) := q1
      by_cases qq : c' = c ∧ ns.length < 900
      · rw [if_pos qq] at q1
        obtain ⟨rfl, ln⟩ := qq
        obtain ⟨v, h1, a, C', dx, vs, rfl, ec, eh, el, el2, ef, e0, hf, hi⟩ := r.slot i _ (at_get ei)
        rw [hm] at ec
        cases ec
        obtain ⟨k1, k2⟩ := ob_put (x := x) (g := .val d) (y := w) r.ext.hh hm eh el el2 ef e0 hf hi x1 r1 b b
        refine ⟨_, h1, a, C, dx, ns.zip vs, rfl, x1.hh _ _ eh, hc, hn x hx, by rw [List.length_zip]; omega, q1 _ F1 _ (r.mutX x1 (at_get ei) h1 (fun a' ob nf e2 => ?_) k1 k2 fun c2 ns2 fs2 z => by cases z; exact ⟨_, _, _, rfl⟩)⟩
        rw [upd_ne fun z => nf (by rw [z]; exact Or.inl rfl)]
        exact e2
      · rw [if_neg qq] at q1
        exact q1.elim
theorem ds_fldO (i : Nat) (h : OCf X.K X.mg c xs) (hx : x ∈ xs) (he : DO X W e fo) (hN : X.N[i]? = some y := by rfl) (hv : Vis X.env.scope y := by first | exact Or.inl (by kernel_rfl) | exact Or.inr (Or.inl (by kernel_rfl)) | exact Or.inr (Or.inr (by kernel_rfl))) (hd : (y == ("__debug__" : Str)) = false := by kernel_rfl)
    (hcd : (y == ("__classdict__" : Str)) = false := by kernel_rfl) (hs : swapsWith e (some (.Attribute (.Name y p1) x p2)) pos.line X.env = pure false := by rfl) : DS X W (.Assign [.Attribute (.Name y p1) x p2] e pos) (sFldO i c x fo) := by
  obtain ⟨C, hm, hc, hn⟩ := h
  refine PS.weak (ps_fld (pe_var hN hv hd hcd) he hs) ?_
  rintro Dn σ H ⟨F0, H0, F, Γ, r, p⟩
  refine ⟨F0, H0, F, Γ, r, PostS.out r p fun ds w F1 H1 _ x1 r1 q1 => ?_⟩
  revert q1
  cases ei : Env.at_ Γ i with
  | none => exact fun p => p.elim
  | some s =>
    cases s with
    | val d => exact fun p => p.elim
    | own ds => exact fun p => p.elim
    | dic ks ds => exact fun p => p.elim
    | oob b c' ns fs =>
      intro q1
      have q1 : PostS X W F0 H0 Dn (if c' = c ∧ ns.length < 900 then .nx (Γ.set i (some (.oob b c (puN ns x) (puL ns fs x (.own ds))))) else .stuck) := q1
      by_cases qq : c' = c ∧ ns.length < 900
      · rw [if_pos qq] at q1
        obtain ⟨rfl, ln⟩ := qq
        obtain ⟨v, h1, a, C', dx, vs, rfl, ec, eh, el, el2, ef, e0, hf, hi⟩ := r.slot i _ (at_get ei)
        rw [hm] at ec
        cases ec
        obtain ⟨k1, k2⟩ := ob_put (x := x) (g := .own ds) (y := w) r.ext.hh hm eh el el2 ef e0 hf hi x1 r1 b b
        refine ⟨_, h1, a, C, dx, ns.zip vs, rfl, x1.hh _ _ eh, hc, hn x hx, by rw [List.length_zip]; omega, q1 _ F1 _ (r.mutX x1 (at_get ei) h1 (fun a' ob nf e2 => ?_) k1 k2 fun c2 ns2 fs2 z => by cases z; exact ⟨_, _, _, rfl⟩)⟩
        rw [upd_ne fun z => nf (by rw [z]; exact Or.inl rfl)]
        exact e2
      · rw [if_neg qq] at q1
        exact q1.elim
end
end DL
set_option Elab.async false
set_option linter.all false
set_option maxRecDepth 100000
set_option maxHeartbeats 4000000
/-! The data layer: methods of objects that a frame holds alone; such objects made and handed back. -/
namespace DL
open PySem PySem.Spec L2
theorem puL_same {α : Type} : ∀ {ns : List Str} {vs : List α} {x : Str} {u : α}, vs[puI ns x]? = some u → ns.length = vs.length → puN ns x = ns → puL ns vs x u = vs
  | [], vs, x, u, _, _, h => by cases h
  | n :: ns, [], x, u, _, h, _ => by cases h
  | n :: ns, v :: vs, x, u, h, l, k => by
    unfold puI at h
    unfold puL
    unfold puN at k
    by_cases q : n = x
    · rw [if_pos q] at h ⊢
      simp at h
      rw [h]
    · rw [if_neg q] at h k ⊢
      injection k with _ k
      rw [puL_same (by simpa using h) (by simpa using l) k]
section
variable {K : PySem.W.Frag} {mg : Str → Option Value} {F0 : Fe} {H0 F H F1 H1 H2 : Hp} {σ : L2.St} {Γ : DL.Env}
/-- a field's own list changed at its place -/
theorem ob_grow {c : Str} {ns : List Str} {fs : List Fl} {a C dx l : Addr} {vs ws : List V} {x : Str} {ds es : List D} (ec : mg c = some (.ref C)) (eh : H a = some (.ins C dx (ns.zip vs))) (el : ns.length = vs.length) (el2 : fs.length = vs.length) (ef : F a = none) (e0 : H0 a = none)
    (hf : ∀ (i : Nat) (f : Fl) (u : V), fs[i]? = some f → vs[i]? = some u → FlOk K mg H0 F H f u) (hi : ∀ (i j : Nat) (f g : Fl) (u : V), fs[i]? = some f → fs[j]? = some g → f.isOwn = true → g.isOwn = true → vs[i]? = some u → vs[j]? = some u → i = j)
    (xe : Ext F H F1 H1) (ek : lkF ns fs x = some (.own ds)) (gu : vs[puI ns x]? = some (.ref l)) (gf : fs[puI ns x]? = some (.own ds)) (rl : RpL K mg F1 es ws) (b b' : Bool) :
    SlotOk K mg H0 F1 (upd H1 l (.lst ws)) (.oob b c ns (puL ns fs x (.own es))) (.ref a) ∧ ∀ m, foot (upd H1 l (.lst ws)) (.oob b c ns (puL ns fs x (.own es))) (.ref a) m → foot H (.oob b' c ns fs) (.ref a) m ∨ H m = none := by
  have hk := hf _ _ _ gf gu
  obtain ⟨l', us, q1, q2, q3, q4, q5⟩ := hk
  cases q1
  have la : l ≠ a := fun z => by rw [z, eh] at q2; cases q2
  have kn := puN_in ek
  have ln : (puL ns fs x (.own es)).length = vs.length := by rw [← puL_len (x := x) (g := Fl.own es) (by omega), kn, el]
  have F1l : ∀ m, F m = none → (∃ ob, H m = some ob) → F1 m = none := fun m h ⟨ob, h2⟩ => by
    cases z : F1 m with
    | none => rfl
    | some w =>
      rcases xe.new m w z with y | y
      · rw [h] at y; cases y
      · rw [h2] at y; cases y
  have at_ : ∀ i, (puL ns fs x (.own es))[i]? = if i = puI ns x then some (.own es) else fs[i]? := fun i => puL_at (by omega)
  refine ⟨⟨a, C, dx, vs, rfl, ec, by rw [upd_ne (Ne.symm la)]; exact xe.hh _ _ eh, el, ln, F1l a ef ⟨_, eh⟩, e0, fun i f u h1 h2 => ?_, fun i j f f' u h1 h2 o o' h3 h4 => ?_⟩, fun m q => ?_⟩
  · rw [at_] at h1
    by_cases q : i = puI ns x
    · rw [if_pos q] at h1
      cases h1
      rw [q, gu] at h2
      cases h2
      exact ⟨l, ws, rfl, upd_same, F1l l q3 ⟨_, q2⟩, q4, rl⟩
    · rw [if_neg q] at h1
      have h := hf i f u h1 h2
      refine h.gen xe.ff (fun m o e => ?_) (fun m ob o e y => ?_) fun m o e => ?_
      · obtain ⟨l2, ob, e1, e2, e3, _⟩ := FlOk.own_at o h
        rw [e] at e1
        cases e1
        exact F1l m e3 ⟨_, e2⟩
      · rw [upd_ne fun z => q (hi i _ f _ u h1 gf o rfl h2 (by rw [gu, e, z]))]
        exact xe.hh m ob y
      · obtain ⟨l2, ob, e1, _, _, e2⟩ := FlOk.own_at o h
        rw [e] at e1
        cases e1
        exact e2
  · have old : ∀ (i : Nat) (f : Fl), (puL ns fs x (.own es))[i]? = some f → f.isOwn = true → ∃ f2, fs[i]? = some f2 ∧ f2.isOwn = true := fun i f h o => by
      rw [at_] at h
      by_cases q : i = puI ns x
      · exact ⟨_, by rw [q]; exact gf, rfl⟩
      · rw [if_neg q] at h
        exact ⟨f, h, o⟩
    obtain ⟨f2, g1, g2⟩ := old i f h1 o
    obtain ⟨f3, g3, g4⟩ := old j f' h2 o'
    exact hi i j f2 f3 u g1 g3 g2 g4 h3 h4
  · left
    rcases q with q | ⟨a2, C2, dx2, vs2, i, f, q1, q2', q3', q4', q5', q6⟩
    · exact Or.inl q
    · cases q1
      rw [upd_ne (Ne.symm la), xe.hh _ _ eh] at q2'
      injection q2' with q2'
      injection q2' with _ _ q2'
      have := zip_snd el q3' q2'
      subst this
      rw [at_] at q4'
      by_cases z : i = puI ns x
      · exact Or.inr ⟨a, C, dx, vs, i, _, rfl, eh, el, by rw [z]; exact gf, rfl, q6⟩
      · rw [if_neg z] at q4'
        exact Or.inr ⟨a, C, dx, vs, i, f, rfl, eh, el, q4', q5', q6⟩
end
section
variable {X : Cx} {W : WX} {c x y : Str} {xs : List Str} {e : Expr} {f : DL.Env → R D} {fo : DL.Env → R (List D)} {p1 p2 p3 pos cpos : Pos}
theorem ds_extF (i : Nat) (h : OCf X.K X.mg c xs) (hx : x ∈ xs) (he : DO X W e fo) (hN : X.N[i]? = some y := by rfl) (hv : Vis X.env.scope y := by first | exact Or.inl (by kernel_rfl) | exact Or.inr (Or.inl (by kernel_rfl)) | exact Or.inr (Or.inr (by kernel_rfl))) (hd : (y == ("__debug__" : Str)) = false := by kernel_rfl)
    (hcd : (y == ("__classdict__" : Str)) = false := by kernel_rfl) (hb : attributeBase (.Name y p1) x X.env (eval (.Name y p1) X.env) = eval (.Name y p1) X.env := by rfl) (hs1 : starEach [e] X.env = (false, eval e X.env) :: starEach [] X.env := by rfl) (hline : (p2.endLine == cpos.line) = true := by rfl)
    (hb2 : attributeBase (.Attribute (.Name y p1) x p3) "extend" X.env (eval (.Attribute (.Name y p1) x p3) X.env) = eval (.Attribute (.Name y p1) x p3) X.env := by rfl)
    (hfew : ((backTo cpos (starEach [e] X.env)).all (fun x => !x.1) && (backToKw cpos (keywordEach [] X.env)).all (fun x => x.1.isSome)
      && decide (([e] : List Expr).length + ([] : List Keyword).length + (if ([] : List Keyword).isEmpty then 0 else 1) < 30)) = true := by rfl)
    (hs : swapsWith (.Call (.Attribute (.Attribute (.Name y p1) x p3) "extend" p2) [e] [] cpos) none pos.line X.env = pure false := by rfl) :
    DS X W (.Expr (.Call (.Attribute (.Attribute (.Name y p1) x p3) "extend" p2) [e] [] cpos) pos) (sExtF i c x fo) := by
  obtain ⟨C, hm, hc, hn⟩ := h
  refine PS.weak (ps_expr (pe_bm PySem.F.plainAttrs_list PySem.F.slot_list_extend PySem.F.type_list_extend mt_extend (pe_fld (pe_var hN hv hd hcd) hb) (pa_cons he pa_nil hs1) hb2 hfew hline hs1) hs) ?_
  rintro Dn σ H ⟨F0, H0, F, Γ, r, p⟩
  revert p
  unfold sExtF
  cases ei : Env.at_ Γ i with
  | none => exact fun p => p.elim
  | some s =>
    cases s with
    | val d => exact fun p => p.elim
    | own ds => exact fun p => p.elim
    | dic ks ds => exact fun p => p.elim
    | oob b c' ns fs =>
      intro p
      have p : PostS X W F0 H0 Dn (if c' = c then (match lkF ns fs x with
        | some (.own ds) => (fo Γ).out Γ fun es => if ds.length + es.length ≤ LIM then .nx (Γ.set i (some (.oob b c ns (puL ns fs x (.own (ds ++ es)))))) else .stuck
        | _ => .stuck) else .stuck) := p
      by_cases qq : c' = c
      · subst qq
        rw [if_pos rfl] at p
        cases ek : lkF ns fs x with
        | none => rw [ek] at p; exact p.elim
        | some g =>
          rw [ek] at p
          cases g with
          | val d => exact p.elim
          | dic ks ds => exact p.elim
          | own ds =>
            have p : PostS X W F0 H0 Dn ((fo Γ).out Γ fun es => if ds.length + es.length ≤ LIM then .nx (Γ.set i (some (.oob b c' ns (puL ns fs x (.own (ds ++ es)))))) else .stuck) := p
            obtain ⟨v, h1, a, C', dx, vs, rfl, ec, eh, el, el2, ef, e0, hf, hi⟩ := r.slot i _ (at_get ei)
            rw [hm] at ec
            cases ec
            obtain ⟨u, g1, g2, g3⟩ := lkF_get el el2 ek
            obtain ⟨l, us, rfl, k2, k3, k4, k5⟩ := hf _ _ _ g1 g2
            refine ⟨_, h1, a, C, dx, ns.zip vs, .ref l, rfl, eh, hc, hn x hx, g3, .inl ⟨rfl, _, SqL.of k2⟩, F0, H0, F, Γ, r, PostS.out r p fun es w F1 H1 _ x1 r1 p1 => ?_⟩
            obtain ⟨m, zs, rfl, z1, z2, z3, z4⟩ := r1
            by_cases hl : ds.length + es.length ≤ LIM
            · rw [if_pos hl] at p1
              have k5' := RpL.mono x1.ff _ _ k5
              obtain ⟨o1, o2⟩ := ob_grow (l := l) (ws := us ++ zs) (es := ds ++ es) hm eh el el2 ef e0 hf hi x1 ek g2 g1 (RpL.append k5' z4) b b
              refine ⟨l, m, us, zs, rfl, rfl, x1.hh _ _ k2, z1, by rw [← k5.length, ← z4.length, LIM_eq]; exact hl, p1 _ F1 _ (r.mutX x1 (at_get ei) h1 (fun a' ob nf e2 => ?_) o1 o2 fun c2 ns2 fs2 z => by cases z; exact ⟨_, _, _, rfl⟩)⟩
              rw [upd_ne fun z => nf (by rw [z]; exact Or.inr ⟨a, C, dx, vs, _, _, rfl, eh, el, g1, rfl, g2⟩)]
              exact e2
            · rw [if_neg hl] at p1
              exact p1.elim
      · rw [if_neg qq] at p
        exact p.elim
theorem ds_retF (i : Nat) (h : OCf X.K X.mg c xs) (hx : x ∈ xs) (hN : X.N[i]? = some y := by rfl) (hv : Vis X.env.scope y := by first | exact Or.inl (by kernel_rfl) | exact Or.inr (Or.inl (by kernel_rfl)) | exact Or.inr (Or.inr (by kernel_rfl))) (hd : (y == ("__debug__" : Str)) = false := by kernel_rfl)
    (hcd : (y == ("__classdict__" : Str)) = false := by kernel_rfl) (hb : attributeBase (.Name y p1) x X.env (eval (.Name y p1) X.env) = eval (.Name y p1) X.env := by rfl) : DS X W (.Return (some (.Attribute (.Name y p1) x p2)) pos) (sRetF i c x) := by
  obtain ⟨C, hm, hc, hn⟩ := h
  refine PS.weak (ps_ret (pe_fld (pe_var hN hv hd hcd) hb)) ?_
  rintro Dn σ H ⟨F0, H0, F, Γ, r, p⟩
  revert p
  unfold sRetF
  cases ei : Env.at_ Γ i with
  | none => exact fun p => p.elim
  | some s =>
    cases s with
    | val d => exact fun p => p.elim
    | own ds => exact fun p => p.elim
    | dic ks ds => exact fun p => p.elim
    | oob b c' ns fs =>
      intro p
      have p : PostS X W F0 H0 Dn (if c' = c then (match lkF ns fs x with
        | some (.own ds) => .ro ds
        | _ => .stuck) else .stuck) := p
      by_cases qq : c' = c
      · subst qq
        rw [if_pos rfl] at p
        cases ek : lkF ns fs x with
        | none => rw [ek] at p; exact p.elim
        | some g =>
          rw [ek] at p
          cases g with
          | val d => exact p.elim
          | dic ks ds => exact p.elim
          | own ds =>
            obtain ⟨v, h1, a, C', dx, vs, rfl, ec, eh, el, el2, ef, e0, hf, hi⟩ := r.slot i _ (at_get ei)
            rw [hm] at ec
            cases ec
            obtain ⟨u, g1, g2, g3⟩ := lkF_get el el2 ek
            have p : PostS X W F0 H0 Dn (.ro ds) := p
            exact ⟨_, h1, a, C, dx, ns.zip vs, u, rfl, eh, hc, hn x hx, g3, p u F H r.ext (hf _ _ _ g1 g2)⟩
      · rw [if_neg qq] at p
        exact p.elim
end
/-! ### methods that change the object -/
def spM (K : PySem.W.Frag) (mg : Str → Option Value) (c : Str) (n : Nat) (mf : OB → List D → R OB) : Sp := fun vs H Q E => ∃ F Hr ob ds v us, vs = v :: us ∧ ds.length = n ∧ Fz F H ∧ Same Hr H ∧ ObOk K mg Hr F H c ob.1 ob.2 v ∧ RpL K mg F ds us ∧
  (match mf ob ds with
  | .ok ob' => ∀ F' H', Ext F Hr F' H' → ObOk K mg Hr F' H' c ob'.1 ob'.2 v → Q .non H'
  | .exc x => ∀ cls od F' H', Ext F Hr F' H' → RpX K mg F' x cls od → E cls od H'
  | .stuck => False)
def KnS (P : Program) (w : World) (K : PySem.W.Frag) (mg : Str → Option Value) (base : Heap) (k : Nat) (c m : Str) (n : Nat) (mf : OB → List D → R OB) : Prop :=
  ∃ C f fd ps, mg c = some (.ref C) ∧ Cls K C ∧ Meth K C m f ∧ Binds K fd ps [] ∧ FnOk P w K mg base (L2.CX P w) k f fd ps (spM K mg c n mf)
def sMeth (i : Nat) (c m : Str) (n : Nat) (mf : OB → List D → R OB) (fs : DL.Env → R (List D)) : DL.Env → Out := fun Γ => match Env.at_ Γ i with
  | some (.oob b c' ns gs) => if c' = c ∧ m ∉ ns then (fs Γ).out Γ fun ds => if ds.length = n then (match mf (ns, gs) ds with
    | .ok ob => .nx (Γ.set i (some (.oob b c ob.1 ob.2)))
    | .exc x => .exc x (Γ.set i none)
    | .stuck => .stuck) else .stuck else .stuck
  | _ => .stuck
section
variable {K : PySem.W.Frag} {mg : Str → Option Value} {F0 : Fe} {H0 F H F1 H1 H2 : Hp} {σ : L2.St} {Γ : DL.Env}
theorem Rel.drop (r : Rel K mg F0 H0 F H σ Γ) (i : Nat) : Rel K mg F0 H0 F H σ (Γ.set i none) := by
  have g : ∀ {j : Nat} {s : Slot}, (Γ.set i none)[j]? = some (some s) → Γ[j]? = some (some s) := fun {j s} e => by
    by_cases q : i = j
    · subst q
      have hi : i < Γ.length := by
        have := (List.getElem?_eq_some_iff.mp e).1
        rwa [List.length_set] at this
      rw [List.getElem?_set_self hi] at e
      cases e
    · rw [List.getElem?_set_ne q] at e
      exact e
  exact ⟨r.ext, by rw [List.length_set]; exact r.len, fun j s e => r.slot j s (g e), fun j k s t u w l ej ek hj hk os ot => r.inj j k s t u w l (g ej) (g ek) hj hk os ot, fun j c ns fs v e1 e2 => r.slf j c ns fs v (g e1) e2⟩
/-- behind a call that was handed the thing at slot i and ended otherwise -/
theorem Rel.callX (r : Rel K mg F0 H0 F H σ Γ) {i : Nat} {s : Slot} {v : V} (ei : Γ[i]? = some (some s)) (hv : σ[i]? = some (some v)) (x : Ext F (hole H s v) F1 H1) : Rel K mg F0 H0 F1 H1 σ (Γ.set i none) := by
  obtain ⟨v', hv', sv⟩ := r.slot i s ei
  rw [hv] at hv'
  cases hv'
  have g : ∀ {j : Nat} {t : Slot}, (Γ.set i none)[j]? = some (some t) → i ≠ j ∧ Γ[j]? = some (some t) := fun {j t} e => by
    by_cases q : i = j
    · subst q
      have hi : i < Γ.length := (List.getElem?_eq_some_iff.mp ei).1
      rw [List.getElem?_set_self hi] at e
      cases e
    · rw [List.getElem?_set_ne q] at e
      exact ⟨q, e⟩
  have off : ∀ (j : Nat) (t : Slot) (u : V) (l : Addr), i ≠ j → Γ[j]? = some (some t) → σ[j]? = some (some u) → foot H t u l → ¬ foot H s v l := fun j t u l q ej hj f1 f2 => q (r.inj i j s t v u l ei ej hv hj f2 f1)
  have keep : ∀ (j : Nat) (t : Slot) (u : V) (l : Addr) (ob : HO), i ≠ j → Γ[j]? = some (some t) → σ[j]? = some (some u) → foot H t u l → H l = some ob → H1 l = some ob := fun j t u l ob q ej hj f1 e => x.hh l ob (by rw [hole_out (off j t u l q ej hj f1)]; exact e)
  have back : ∀ (j : Nat) (t : Slot) (u : V) (l : Addr), i ≠ j → Γ[j]? = some (some t) → σ[j]? = some (some u) → foot H1 t u l → foot H t u l := fun j t u l q ej hj f1 => by
    obtain ⟨w, h1, h2⟩ := r.slot j t ej
    rw [hj] at h1
    cases h1
    exact foot_gen h2 (fun l2 ob q2 e => keep j t _ l2 ob q ej hj q2 e) f1
  refine ⟨⟨r.ext.ff.trans x.ff, x.fh, fun a u e => ?_, fun a u e => ?_⟩, by rw [List.length_set]; exact r.len, fun j t e => ?_, fun j k t t' u w l ej ek hj hk os ot => ?_, fun j c ns fs v e1 e2 => r.slf j c ns fs v (g e1).2 e2⟩
  · refine x.hh a u ?_
    rw [hole_out fun q => by
      obtain ⟨_, _, _, z⟩ := foot_at sv q
      rw [e] at z
      cases z]
    exact r.ext.hh a u e
  · rcases x.new a u e with z | z
    · exact r.ext.new a u z
    · rcases hole_none z with y | y
      · exact .inr (foot_at sv y).choose_spec.2.2
      · exact .inr (r.ext.hh.free y)
  · obtain ⟨q, e⟩ := g e
    obtain ⟨w, h1, h2⟩ := r.slot j t e
    refine ⟨w, h1, h2.gen x.ff (fun l z => ?_) (fun l ob z e2 => keep j t w l ob q e h1 z e2) (fun l z => (foot_at h2 z).choose_spec.2.2)⟩
    obtain ⟨ob, e1, e2, e3⟩ := foot_at h2 z
    cases y : F1 l with
    | none => rfl
    | some o =>
      rcases x.new l o y with y2 | y2
      · rw [e2] at y2; cases y2
      · rw [hole_out (off j t w l q e h1 z), e1] at y2; cases y2
  · obtain ⟨qj, ej⟩ := g ej
    obtain ⟨qk, ek⟩ := g ek
    exact r.inj j k t t' u w l ej ek hj hk (back j t u l qj ej hj os) (back k t' w l qk ek hk ot)
end
section
variable {X : Cx} {W : WX} {j k n : Nat} {c m y : Str} {e : Expr} {es : List Expr} {p1 pos cpos apos : Pos} {fs : DL.Env → R (List D)} {mf : OB → List D → R OB}
theorem ds_meth (i : Nat) {pl : Sem Bool} (h : KnS X.prog X.w X.K X.mg X.base j c m n mf) (hr : Room k X.A) (ha : DA X W (e :: es) fs) (hx : OkW X W) (hj : j ≤ k := by decide) (hN : X.N[i]? = some y := by rfl) (hv : Vis X.env.scope y := by first | exact Or.inl (by kernel_rfl) | exact Or.inr (Or.inl (by kernel_rfl)) | exact Or.inr (Or.inr (by kernel_rfl))) (hd : (y == ("__debug__" : Str)) = false := by kernel_rfl)
    (hcd : (y == ("__classdict__" : Str)) = false := by kernel_rfl)
    (hst : starEach (e :: es) X.env = (false, eval e X.env) :: starEach es X.env := by rfl) (hpl : (backTo cpos (starEach es X.env)).any (·.1) = false := by rfl)
    (ht : eval (.Call (.Attribute (.Name y p1) m apos) (e :: es) [] cpos) X.env = (do
      let ov ← eval (.Name y p1) X.env
      standAt apos.atName
      let (f, first) ← holding [ov] (getMethod ov m pl)
      callWith cpos f first (backTo cpos (starEach (e :: es) X.env)) (backToKw cpos (keywordEach [] X.env))) := by rfl)
    (hs : swapsWith (.Call (.Attribute (.Name y p1) m apos) (e :: es) [] cpos) none pos.line X.env = pure false := by rfl) :
    DS X W (.Expr (.Call (.Attribute (.Name y p1) m apos) (e :: es) [] cpos) pos) (sMeth i c m n mf fs) := by
  obtain ⟨C, f, fd, ps, hm, hc, hme, hb, G⟩ := h
  refine PS.weak (ps_expr (HO.pe_methD (W := W) (pl := pl) (pe_var hN hv hd hcd) hr hx ha hst hpl ht) hs) ?_
  rintro Dn σ H ⟨F0, H0, F, Γ, r, p⟩
  revert p
  unfold sMeth
  cases ei : Env.at_ Γ i with
  | none => exact fun p => p.elim
  | some s =>
    cases s with
    | val d => exact fun p => p.elim
    | own ds => exact fun p => p.elim
    | dic ks ds => exact fun p => p.elim
    | oob b c' ns gs =>
      intro p
      have p : PostS X W F0 H0 Dn (if c' = c ∧ m ∉ ns then (fs Γ).out Γ fun ds => if ds.length = n then (match mf (ns, gs) ds with
        | .ok ob => .nx (Γ.set i (some (.oob b c ob.1 ob.2)))
        | .exc x => .exc x (Γ.set i none)
        | .stuck => .stuck) else .stuck else .stuck) := p
      by_cases qq : c' = c ∧ m ∉ ns
      · rw [if_pos qq] at p
        obtain ⟨rfl, nm⟩ := qq
        obtain ⟨v, h1, sv⟩ := r.slot i _ (at_get ei)
        have sv0 := sv
        obtain ⟨a, C', dx, vs, rfl, ec, eh, el, el2, ef, e0, hf, hi⟩ := sv
        rw [hm] at ec
        cases ec
        refine ⟨_, h1, a, C, dx, ns.zip vs, f, fd, ps, _, rfl, eh, zip_none nm, hc, hme, hb, G.mono hj, F0, H0, F, Γ, r, PostS.out r p fun ds us F1 H1 _ x1 r1 p1 => ?_⟩
        by_cases hl : ds.length = n
        · rw [if_pos hl] at p1
          have rl1 := r.step x1
          have sv1 := sv0.ext x1
          have svh : SlotOk X.K X.mg (hole H1 (.oob b c' ns gs) (.ref a)) F1 H1 (.oob b c' ns gs) (.ref a) := sv1.gen (Same.refl _) (fun l q => (foot_at sv1 q).choose_spec.2.1) (fun l ob _ q => q) fun l q => hole_in q
          refine ⟨F1, hole H1 (.oob b c' ns gs) (.ref a), (ns, gs), ds, .ref a, us, rfl, hl, x1.fh, hole_same _ _, svh, r1, ?_⟩
          revert p1
          cases mf (ns, gs) ds with
          | stuck => exact fun p => p
          | ok ob =>
            intro p1 F2 H2 x2 o2
            exact p1 σ F2 H2 (rl1.call (at_get ei) h1 x2 (s' := .oob b c' ob.1 ob.2) o2 fun c2 ns2 fs2 z => by cases z; exact ⟨_, _, _, rfl⟩)
          | exc x =>
            intro p1 cls od F2 H2 x2 rx
            exact p1 cls od σ F2 H2 (rl1.callX (at_get ei) h1 x2) rx
        · rw [if_neg hl] at p1
          exact p1.elim
      · rw [if_neg qq] at p
        exact p.elim
end
/-- a method's reading -/
def mkM (N : Nat) (c : Str) (g : DL.Env → Out) : OB → List D → R OB := fun ob ds => match g (some (.oob true c ob.1 ob.2) :: stE N ds) with
  | .nx Γ => (match Env.at_ Γ 0 with
    | some (.oob true c' ns fs) => if c' = c then .ok (ns, fs) else .stuck
    | _ => .stuck)
  | .exc x _ => .exc x
  | _ => .stuck
section
variable {P : Program} {w : World} {K : PySem.W.Frag} {mg : Str → Option Value} {base : Heap} {x qual c : Str} {params : Arguments} {body : List Stmt} {scope : Scope} {f : Addr} {fd : FuncData} {N ps : List Str} {k : Nat} {g : DL.Env → Out}
theorem spM_len {n : Nat} {mf : OB → List D → R OB} {vs : List V} {H : Hp} {Q : VK} {E : XK} (h : spM K mg c n mf vs H Q E) : vs.length = n + 1 := by
  obtain ⟨F, Hr, ob, ds, v, us, rfl, l, _, _, _, r, _⟩ := h
  rw [List.length_cons, ← r.length, l]
theorem start_relM {F Hr H : Hp} {ns : List Str} {fs : List Fl} {s N0 : Str} {N' : List Str} {ds : List D} {v : V} {us : List V} (z : Fz F H) (sm : Same Hr H) (o : ObOk K mg Hr F H c ns fs v) (r : RpL K mg F ds us) (hl : ds.length ≤ N'.length) :
    Rel K mg ⟨F, v⟩ Hr F H (L2.start (N0 :: N') (v :: us)) (some (.oob true c ns fs) :: stE N'.length ds) := by
  have r0 := start_rel (sv := v) z r hl
  have es : L2.start (N0 :: N') (v :: us) = some v :: L2.start N' us := by
    unfold L2.start
    simp
  rw [es]
  refine ⟨⟨Same.refl _, z, sm, fun _ _ e => .inl e⟩, by rw [List.length_cons, List.length_cons, r0.len], fun i t e => ?_, fun i j t t' u w l ei ej hi hj os ot => ?_, fun i c2 ns2 fs2 u e1 e2 => ?_⟩
  · cases i with
    | zero =>
      cases e
      exact ⟨v, rfl, o⟩
    | succ i =>
      obtain ⟨u, h1, h2⟩ := r0.slot i t (by simpa using e)
      refine ⟨u, by simpa using h1, ?_⟩
      have hd : ∃ d, t = .val d := by
        have e : (stE N'.length ds)[i]? = some (some t) := by simpa using e
        unfold stE at e
        by_cases hi : i < ds.length
        · rw [List.getElem?_append_left (by simpa using hi), List.getElem?_map] at e
          cases ed : ds[i]? with
          | none => rw [ed] at e; cases e
          | some d => rw [ed] at e; cases e; exact ⟨d, rfl⟩
        · rw [List.getElem?_append_right (by simpa using hi), List.getElem?_replicate] at e
          split at e <;> cases e
      obtain ⟨d, rfl⟩ := hd
      exact h2
  · have nf : ∀ (i : Nat) (t : Slot) (u : V), (some (Slot.oob true c ns fs) :: stE N'.length ds)[i + 1]? = some (some t) → ¬ foot H t u l := fun i t u e q => by
      have e : (stE N'.length ds)[i]? = some (some t) := by simpa using e
      unfold stE at e
      by_cases hi : i < ds.length
      · rw [List.getElem?_append_left (by simpa using hi), List.getElem?_map] at e
        cases ed : ds[i]? with
        | none => rw [ed] at e; cases e
        | some d => rw [ed] at e; cases e; exact q
      · rw [List.getElem?_append_right (by simpa using hi), List.getElem?_replicate] at e
        split at e <;> cases e
    cases i with
    | zero =>
      cases j with
      | zero => rfl
      | succ j => exact (nf j t' w ej ot).elim
    | succ i => exact (nf i t u ei os).elim
  · cases i with
    | zero => cases e2; rfl
    | succ i => exact r0.slf i c2 ns2 fs2 u (by simpa using e1) (by simpa using e2)
theorem fn_okM {N0 : Str} {N' : List Str} (Fd : FunD K x qual params body scope [] [] f fd) (S : FnScope (N0 :: N') ps scope) (hp : 1 ≤ ps.length) (hl : ps.length ≤ (N0 :: N').length)
    (hb : ∀ (cdv : Value) (A : Around) (outer : List PySem.Env) (s : Shared) (H : Hp) (E : XK), Room k (A.deeper (PyProof.Rows.envOfC qual scope s.heap.objs.size f cdv)) → DSs (cxOf (L2.CX P w) P w K mg base (N0 :: N') qual scope f cdv A outer s H E) (WOf E) body g) :
    FnOk P w K mg base (L2.CX P w) (k + 1) f fd ps (spM K mg c (ps.length - 1) (mkM N'.length c g)) := by
  refine Fd.ok S (fun vs H Q E h => by rw [spM_len h]; omega) fun cdv A outer s H vs Q E hr h => ?_
  obtain ⟨F, Hr, ob, ds, v, us, rfl, l, z, sm, o, r, p⟩ := h
  refine ⟨_, hb cdv A outer s H E hr, ⟨F, v⟩, Hr, F, some (.oob true c ob.1 ob.2) :: stE N'.length ds, start_relM (s := N0) z sm o r (by simp at hl; omega), ?_⟩
  revert p
  unfold mkM
  cases g (some (.oob true c ob.1 ob.2) :: stE N'.length ds) with
  | nx Γ =>
    intro p σ F1 H1 r1
    revert p
    dsimp only
    cases ei : Env.at_ Γ 0 with
    | none => exact fun p => p.elim
    | some s =>
      cases s with
      | val d => exact fun p => p.elim
      | own ds => exact fun p => p.elim
      | dic ks ds => exact fun p => p.elim
      | oob b c' ns fs =>
        cases b with
        | false => exact fun p => p.elim
        | true =>
          intro p
          by_cases q : c' = c
          · subst q
            have p : (match (if c' = c' then R.ok (ns, fs) else R.stuck : R OB) with
              | .ok ob' => ∀ F' H', Ext F Hr F' H' → ObOk K mg Hr F' H' c' ob'.1 ob'.2 v → Q .non H'
              | .exc x => ∀ cls od F' H', Ext F Hr F' H' → RpX K mg F' x cls od → E cls od H'
              | .stuck => False) := p
            rw [if_pos rfl] at p
            obtain ⟨u, h1, h2⟩ := r1.slot 0 _ (at_get ei)
            have eu := r1.slf 0 _ _ _ u (at_get ei) h1
            have eu : u = v := eu
            subst eu
            exact p F1 H1 r1.ext h2
          · have p : (match (if c' = c then R.ok (ns, fs) else R.stuck : R OB) with
              | .ok ob' => ∀ F' H', Ext F Hr F' H' → ObOk K mg Hr F' H' c ob'.1 ob'.2 v → Q .non H'
              | .exc x => ∀ cls od F' H', Ext F Hr F' H' → RpX K mg F' x cls od → E cls od H'
              | .stuck => False) := p
            rw [if_neg q] at p
            exact p.elim
  | exc x Γ => exact fun p cls od σ F1 H1 r1 q => p cls od F1 H1 r1.ext q
  | rt d => exact fun p => p.elim
  | ro ds => exact fun p => p.elim
  | bk Γ => exact fun p => p.elim
  | ct Γ => exact fun p => p.elim
  | stuck => exact fun p => p.elim
end
end DL
set_option Elab.async false
set_option linter.all false
set_option maxRecDepth 100000
set_option maxHeartbeats 4000000
/-! The data layer: objects made, and handed back by a def. -/
namespace DL
open PySem PySem.Spec L2
abbrev repBo (K : PySem.W.Frag) (mg : Str → Option Value) (c : Str) : Hp → Hp → Hp → OB → V → Prop := fun H F' H' ob v => ObOk K mg H F' H' c ob.1 ob.2 v
theorem upBo {K : PySem.W.Frag} {mg : Str → Option Value} {F H F' H' : Hp} {c : Str} (x : Ext F H F' H') (a' : OB) (b' : V) (F2 H2 : Hp) (h : repBo K mg c H' F2 H2 a' b') : repBo K mg c H F2 H2 a' b' := by
  have h : SlotOk K mg H' F2 H2 (.oob false c a'.1 a'.2) b' := h
  exact (h.gen (Same.refl _) (fun l q => (foot_at h q).choose_spec.2.1) (fun l ob _ q => q) fun l q => x.hh.free (foot_at h q).choose_spec.2.2 : SlotOk K mg H F2 H2 (.oob false c a'.1 a'.2) b')
def tDBo (X : Cx) (W : WX) (c : Str) (f : DL.Env → R OB) : TE := fun σ H Q => ∃ F0 H0 F Γ, Rel X.K X.mg F0 H0 F H σ Γ ∧ PostG X.K X.mg (repBo X.K X.mg c) F H (WE W σ) Q (f Γ)
abbrev DBo (X : Cx) (W : WX) (c : Str) (e : Expr) (f : DL.Env → R OB) : Prop := PE X e (tDBo X W c f)
def sSetB (i : Nat) (c : Str) (f : DL.Env → R OB) : DL.Env → Out := fun Γ => (f Γ).out Γ fun ob => .nx (Γ.set i (some (.oob false c ob.1 ob.2)))
def bNew (n : Nat) (mf : OB → List D → R OB) (fs : DL.Env → R (List D)) : DL.Env → R OB := fun Γ => (fs Γ).bind fun ds => if ds.length = n then (match mf ([], []) ds with
  | .ok ob => .ok ob
  | _ => .stuck) else .stuck
def bFn (n : Nat) (mf : List D → R OB) (fs : DL.Env → R (List D)) : DL.Env → R OB := fun Γ => (fs Γ).bind fun ds => if ds.length = n then mf ds else .stuck
def spB (K : PySem.W.Frag) (mg : Str → Option Value) (c : Str) (n : Nat) (mf : List D → R OB) : Sp := fun vs H Q E => ∃ F ds, ds.length = n ∧ Fz F H ∧ RpL K mg F ds vs ∧ PostG K mg (repBo K mg c) F H E Q (mf ds)
def KnB (P : Program) (w : World) (K : PySem.W.Frag) (mg : Str → Option Value) (base : Heap) (k : Nat) (x c : Str) (n : Nat) (mf : List D → R OB) : Prop :=
  ∃ (f : Addr) (fd : FuncData) (ps : List Str), mg x = some (.ref f) ∧ PySem.W.keepIn K (.ref f) = true ∧ Binds K fd ps [] ∧ FnOk P w K mg base (L2.CX P w) k f fd ps (spB K mg c n mf)
/-- a class whose __init__ puts the fields -/
def KnI (P : Program) (w : World) (K : PySem.W.Frag) (mg : Str → Option Value) (base : Heap) (k : Nat) (c : Str) (n : Nat) (mf : OB → List D → R OB) : Prop :=
  ∃ C fI fd ps, mg c = some (.ref C) ∧ Mk K C fI ∧ Binds K fd ps [] ∧ FnOk P w K mg base (L2.CX P w) k fI fd ps (spM K mg c n mf)
section
variable {X : Cx} {W : WX} {j k n : Nat} {c x : Str} {e : Expr} {es : List Expr} {p pos : Pos} {fs : DL.Env → R (List D)} {f : DL.Env → R OB}
theorem ds_setB (i : Nat) {x : Str} (hN : X.N.Nodup) (he : DBo X W c e f) (hi : X.N[i]? = some x := by rfl) (hx : Loc X.env.scope x := by first | exact Or.inl (by kernel_rfl) | exact Or.inr (by kernel_rfl)) (hf : X.fn x = true ∨ X.env.scope.names.lookup x = some .local := by first | exact .inl rfl | exact .inr (by kernel_rfl) | exact .inl (by kernel_rfl))
    (hs : swapsWithSole [.Name x p] e pos.line X.env = pure false := by rfl) (hw : swappedStores [.Name x p] e X.env = pure none := by rfl)
    (h1 : (assignEach [.Name x p] X.env).map (·.2) = [assign (.Name x p) X.env] := by rfl) : DS X W (.Assign [.Name x p] e pos) (sSetB i c f) := by
  refine PS.weak (ps_asg he (pg_name hN hi hx hf) hs hw h1) ?_
  rintro Dn σ H ⟨F0, H0, F, Γ, r, p⟩
  exact ⟨F0, H0, F, Γ, r, PostS.out r p fun ob v F' H' _ x q p' => p' _ _ _ (r.setO x (s := .oob false c ob.1 ob.2) rfl q)⟩
theorem db_new {mf : OB → List D → R OB} (h : KnI X.prog X.w X.K X.mg X.base j c n mf) (hr : Room k X.A) (ha : DA X W (e :: es) fs) (hj : j + 1 ≤ k := by decide) (hg : Gl X c := by unfold L2.Gl; kernel_rfl) (hdb : (c == ("__debug__" : Str)) = false := by kernel_rfl)
    (he : starEach (e :: es) X.env = (false, eval e X.env) :: starEach es X.env := by rfl) (hpl : (backTo pos (starEach es X.env)).any (·.1) = false := by rfl) : DBo X W c (.Call (.Name c p) (e :: es) [] pos) (bNew n mf fs) := by
  obtain ⟨C, fI, fd, ps, hm, M, hb, G⟩ := h
  have hx : Passes (L2.CX X.prog X.w) X (fun _ _ _ => False) := fun _ _ _ _ _ _ _ h => by
    obtain ⟨_, _, _, _, _, _, _, _, _, _, _, _, z⟩ := h
    exact z.elim
  refine PE.weak (pe_make M G (hr.mono hj) hg hm hb .nil hx ha hdb he hpl) ?_
  rintro σ H Q ⟨F0, H0, F, Γ, r, p⟩
  refine ⟨F0, H0, F, Γ, r, PostG.bind p (fun ds vs F1 H1 _ x1 r1 p1 => ?_) upBo⟩
  obtain ⟨hl, p2⟩ := ifR p1
  intro a dx na nd ne
  rw [List.append_nil]
  have s1 : Same H1 (upd (upd H1 dx (.own a)) a (.ins C dx [])) := fun l o q => by
    rw [upd_ne (fun z => by rw [z, na] at q; cases q), upd_ne (fun z => by rw [z, nd] at q; cases q)]
    exact q
  have z1 : Fz F1 (upd (upd H1 dx (.own a)) a (.ins C dx [])) := fun l o q => by
    rcases x1.fh l o q with y | ⟨y1, ob, y2⟩
    · exact .inl (s1 _ _ y)
    · exact .inr ⟨y1, ob, s1 _ _ y2⟩
  refine ⟨F1, H1, ([], []), ds, .ref a, vs, rfl, hl, z1, s1, ⟨a, C, dx, [], rfl, hm, upd_same, rfl, rfl, x1.fh.free na, na, fun i f u h _ => by simp at h, fun i j f g u h _ _ _ _ => by simp at h⟩, r1, ?_⟩
  revert p2
  cases mf ([], []) ds with
  | stuck => exact fun p => p
  | exc x => exact fun p => p.elim
  | ok ob =>
    intro p2 F2 H2 x2 o2
    exact ⟨rfl, p2 _ F2 H2 ⟨x2.ff, x2.fh, x2.hh, x2.new⟩ o2⟩
theorem db_kn {mf : List D → R OB} (h : KnB X.prog X.w X.K X.mg X.base j x c n mf) (hr : Room k X.A) (ha : DA X W (e :: es) fs) (hx : OkW X W) (hg : Gl X x := by unfold L2.Gl; kernel_rfl) (hj : j ≤ k := by decide) (hdb : (x == ("__debug__" : Str)) = false := by kernel_rfl)
    (he : starEach (e :: es) X.env = (false, eval e X.env) :: starEach es X.env := by rfl) (hpl : (backTo pos (starEach es X.env)).any (·.1) = false := by rfl) :
    DBo X W c (.Call (.Name x p) (e :: es) [] pos) (bFn n mf fs) := by
  obtain ⟨f, fd, ps, hm, hk, hb, G⟩ := h
  refine PE.weak (pe_callSD G (hr.mono hj) hg hm hk hb .nil hx ha hdb he hpl) ?_
  rintro σ H Q ⟨F0, H0, F, Γ, r, p⟩
  refine ⟨F0, H0, F, Γ, r, PostG.bind p (fun ds vs F1 H1 _ x1 r1 p1 => ?_) upBo⟩
  obtain ⟨hl, p2⟩ := ifR p1
  rw [List.append_nil]
  exact ⟨F1, ds, hl, x1.fh, r1, p2⟩
end
/-! ### a def that hands back an object -/
def tB (X : Cx) (W : WX) (c : Str) (g : DL.Env → R OB) : TS := fun Dn σ H => ∃ F0 H0 F Γ, Rel X.K X.mg F0 H0 F H σ Γ ∧ (match g Γ with
  | .ok ob => ∀ v F' H', Ext F0.hp H0 F' H' → ObOk X.K X.mg H0 F' H' c ob.1 ob.2 v → Dn.rt v H'
  | .exc x => ∀ cls od σ F H, Ext F0.hp H0 F H → RpX X.K X.mg F x cls od → W cls od σ H
  | .stuck => False)
abbrev DSb (X : Cx) (W : WX) (c : Str) (st : List Stmt) (g : DL.Env → R OB) : Prop := PSs X st (tB X W c g)
def bRet (j : Nat) (c : Str) : DL.Env → R OB := fun Γ => match Env.at_ Γ j with
  | some (.oob _ c' ns fs) => if c' = c then .ok (ns, fs) else .stuck
  | _ => .stuck
def bSeq (g1 : DL.Env → Out) (g : DL.Env → R OB) : DL.Env → R OB := fun Γ => match g1 Γ with
  | .nx Γ' => g Γ'
  | .exc x _ => .exc x
  | _ => .stuck
section
variable {X : Cx} {W : WX} {c x : Str} {st : Stmt} {rest : List Stmt} {g1 : DL.Env → Out} {g : DL.Env → R OB} {p pos : Pos}
theorem dsb_ret (i : Nat) (hN : X.N[i]? = some x := by rfl) (hv : Vis X.env.scope x := by first | exact Or.inl (by kernel_rfl) | exact Or.inr (Or.inl (by kernel_rfl)) | exact Or.inr (Or.inr (by kernel_rfl))) (hd : (x == ("__debug__" : Str)) = false := by kernel_rfl)
    (hcd : (x == ("__classdict__" : Str)) = false := by kernel_rfl) : DSb X W c [.Return (some (.Name x p)) pos] (bRet i c) := by
  refine PSs.weak (pss_one (ps_ret (pe_var hN hv hd hcd))) ?_
  rintro Dn σ H ⟨F0, H0, F, Γ, r, p⟩
  revert p
  unfold bRet
  cases ei : Env.at_ Γ i with
  | none => exact fun p => p.elim
  | some s =>
    cases s with
    | val d => exact fun p => p.elim
    | own ds => exact fun p => p.elim
    | dic ks ds => exact fun p => p.elim
    | oob b c' ns fs =>
      dsimp only
      by_cases q : c' = c
      · subst q
        rw [if_pos rfl]
        intro p
        obtain ⟨v, h1, h2⟩ := r.slot i _ (at_get ei)
        exact ⟨v, h1, p v F H r.ext h2⟩
      · rw [if_neg q]
        exact fun p => p.elim
theorem dsb_cons (h : DS X W st g1) (t : DSb X W c rest g) : DSb X W c (st :: rest) (bSeq g1 g) := by
  refine PSs.weak (pss_cons h t) ?_
  rintro Dn σ H ⟨F0, H0, F, Γ, r, p⟩
  refine ⟨F0, H0, F, Γ, r, ?_⟩
  revert p
  unfold bSeq
  cases g1 Γ with
  | nx Γ' => exact fun p σ1 F1 H1 r1 => ⟨F0, H0, F1, Γ', r1, p⟩
  | exc x Γ' => exact fun p cls od σ1 F1 H1 r1 q => p cls od σ1 F1 H1 r1.ext q
  | bk Γ' => exact fun p => p.elim
  | ct Γ' => exact fun p => p.elim
  | rt d => exact fun p => p.elim
  | ro d => exact fun p => p.elim
  | stuck => exact fun p => p
end
def mkB (N : Nat) (g : DL.Env → R OB) : List D → R OB := fun ds => g (stE N ds)
section
variable {P : Program} {w : World} {K : PySem.W.Frag} {mg : Str → Option Value} {base : Heap} {x qual c : Str} {params : Arguments} {body : List Stmt} {scope : Scope} {f : Addr} {fd : FuncData} {N ps : List Str} {k : Nat} {g : DL.Env → R OB}
theorem fn_okB (Fd : FunD K x qual params body scope [] [] f fd) (S : FnScope N ps scope) (hl : ps.length ≤ N.length)
    (hb : ∀ (cdv : Value) (A : Around) (outer : List PySem.Env) (s : Shared) (H : Hp) (E : XK), Room k (A.deeper (PyProof.Rows.envOfC qual scope s.heap.objs.size f cdv)) → DSb (cxOf (L2.CX P w) P w K mg base N qual scope f cdv A outer s H E) (WOf E) c body g) :
    FnOk P w K mg base (L2.CX P w) (k + 1) f fd ps (spB K mg c ps.length (mkB N.length g)) := by
  refine Fd.ok S (fun vs H Q E h => by obtain ⟨F, ds, l, _, r, _⟩ := h; rw [← r.length, l]) fun cdv A outer s H vs Q E hr h => ?_
  obtain ⟨F, ds, l, z, r, p⟩ := h
  refine ⟨_, hb cdv A outer s H E hr, ⟨F, .non⟩, H, F, stE N.length ds, start_rel z r (by rw [l]; exact hl), ?_⟩
  revert p
  unfold mkB
  cases g (stE N.length ds) with
  | ok ob => exact fun p v F1 H1 x1 o1 => p v F1 H1 x1 o1
  | exc x => exact fun p cls od σ F1 H1 x1 q => p cls od F1 H1 x1 q
  | stuck => exact fun p => p
/-- a method of which nothing is known -/
theorem fnOk0 {n : Nat} (hl : ps.length = n + 1) : FnOk P w K mg base (L2.CX P w) k f fd ps (spM K mg c n fun _ _ => .stuck) :=
  ⟨fun vs H Q E h => by rw [spM_len h, hl], fun _ _ _ _ _ _ _ _ _ _ _ _ _ h => by
    obtain ⟨_, _, _, _, _, _, _, _, _, _, _, _, z⟩ := h
    exact z.elim⟩
end
end DL
set_option Elab.async false
set_option linter.all false
set_option maxRecDepth 100000
set_option maxHeartbeats 1000000
/-! The data layer: equations by which functions over trees are reckoned. -/
namespace DL
open PySem L2

section
variable {α β : Type} {Γ : DL.Env} {s : Option Slot}
theorem at_0 : Env.at_ (s :: Γ) 0 = s := rfl
theorem at_s {n : Nat} : Env.at_ (s :: Γ) (n + 1) = Env.at_ Γ n := by
  unfold Env.at_
  rw [List.getElem?_cons_succ]
theorem bind_ok {a : α} {k : α → R β} : R.bind (.ok a) k = k a := rfl
theorem bind_exc {x : D} {k : α → R β} : R.bind (.exc x) k = .exc x := rfl
theorem out_ok {a : α} {k : α → Out} : R.out Γ (.ok a) k = k a := rfl
theorem out_exc {x : D} {k : α → Out} : R.out Γ (.exc x) k = .exc x Γ := rfl
theorem then_nx {g : DL.Env → Out} : Out.andThen (.nx Γ) g = g Γ := rfl
theorem then_rt {d : D} {g : DL.Env → Out} : Out.andThen (.rt d) g = .rt d := rfl
theorem then_ro {d : List D} {g : DL.Env → Out} : Out.andThen (.ro d) g = .ro d := rfl
theorem then_bk {g : DL.Env → Out} : Out.andThen (.bk Γ) g = .bk Γ := rfl
theorem then_ct {g : DL.Env → Out} : Out.andThen (.ct Γ) g = .ct Γ := rfl
theorem then_exc {x : D} {g : DL.Env → Out} : Out.andThen (.exc x Γ) g = .exc x Γ := rfl
theorem fin_nx : Out.fin (.nx Γ) = .ok .non := rfl
theorem fin_rt {d : D} : Out.fin (.rt d) = .ok d := rfl
theorem fin_ro {d : List D} : Out.fin (.ro d) = .ok (.lst d) := rfl
theorem fin_exc {x : D} : Out.fin (.exc x Γ) = .exc x := rfl
theorem finO_ro {d : List D} : Out.finO (.ro d) = .ok d := rfl
theorem finO_exc {x : D} : Out.finO (.exc x Γ) = .exc x := rfl
end
def boR (r : R Bool) : R Bool := match r with
  | .ok d => .ok d
  | _ => .stuck
def eoR (r : R D) : R D := match r with
  | .ok d => if d.scal then .ok d else .stuck
  | _ => .stuck
theorem bBor_eq {i : Nat} {f : DL.Env → R Bool} {Γ : DL.Env} : bBor i f Γ = boR (f (Env.frz Γ i)) := rfl
theorem eBor_eq {i : Nat} {f : DL.Env → R D} {Γ : DL.Env} : eBor i f Γ = eoR (f (Env.frz Γ i)) := rfl
theorem boR_ok {b : Bool} : boR (.ok b) = .ok b := rfl
theorem eoR_bl {b : Bool} : eoR (.ok (.bl b)) = .ok (.bl b) := rfl
theorem eoR_i {i : Int} : eoR (.ok (.int i)) = .ok (.int i) := rfl
theorem eoR_n : eoR (.ok .non) = .ok .non := rfl
theorem eoR_s {z : Str} : eoR (.ok (.str z)) = .ok (.str z) := rfl
/-! ### numbers -/
section
variable {i j : Int} {x y : D} {b c : Bool} {z w : Str} {xs ys : List D}
theorem dAdd_i : dAdd (.int i) (.int j) = .ok (.int (i + j)) := rfl
theorem dSub_i : dSub (.int i) (.int j) = .ok (.int (i - j)) := rfl
theorem dNeg_i : dNeg (.int i) = .ok (.int (-i)) := rfl
theorem dMul_r (h : -18446744073709551616 < j) (h' : j < 18446744073709551616) : dMul (.int i) (.int j) = .ok (.int (i * j)) := by
  have e : smallI j = true := by unfold smallI; simp [h, h']
  show (if (smallI j || (smallI i || decide (i.natAbs.log2 + j.natAbs.log2 < 1000000))) = true then R.ok (D.int (i * j)) else R.stuck) = _
  rw [e]
  rfl
theorem dMul_l (h : -18446744073709551616 < i) (h' : i < 18446744073709551616) : dMul (.int i) (.int j) = .ok (.int (i * j)) := by
  have e : smallI i = true := by unfold smallI; simp [h, h']
  show (if (smallI j || (smallI i || decide (i.natAbs.log2 + j.natAbs.log2 < 1000000))) = true then R.ok (D.int (i * j)) else R.stuck) = _
  rw [e, Bool.true_or, Bool.or_true]
  rfl
theorem dMul_w {a b : Nat} (ha : i.natAbs < 2 ^ a) (hb : j.natAbs < 2 ^ b) (h : a + b ≤ 900000) : dMul (.int i) (.int j) = .ok (.int (i * j)) := by
  have l : ∀ (x : Nat) (n : Nat), x < 2 ^ n → x.log2 ≤ n := fun x n h => by
    by_cases e : x = 0
    · subst e; simp
    · have := (Nat.log2_lt e).mpr h
      omega
  have e : decide (i.natAbs.log2 + j.natAbs.log2 < 1000000) = true := decide_eq_true (by have := l _ _ ha; have := l _ _ hb; omega)
  show (if (smallI j || (smallI i || decide (i.natAbs.log2 + j.natAbs.log2 < 1000000))) = true then R.ok (D.int (i * j)) else R.stuck) = _
  rw [e, Bool.or_true, Bool.or_true]
  rfl
theorem dMod_i (h : 0 < j) : dMod (.int i) (.int j) = .ok (.int (i % j)) := if_pos h
theorem dDiv_i (h : 0 < j) (h' : j < 18446744073709551616) : dDiv (.int i) (.int j) = .ok (.int (i / j)) := by
  have e : decide (j.natAbs.log2 < 9000) = true := decide_eq_true (by
    have := (Nat.log2_lt (n := j.natAbs) (k := 64) (by omega)).mpr (by omega)
    omega)
  show (if (decide (0 < j) && decide (j.natAbs.log2 < 9000)) = true then R.ok (D.int (i / j)) else R.stuck) = _
  rw [e, decide_eq_true h]
  rfl
theorem dDiv_w {a : Nat} (h : 0 < j) (h' : j.natAbs < 2 ^ a) (ha : a ≤ 9000) : dDiv (.int i) (.int j) = .ok (.int (i / j)) := by
  have e : decide (j.natAbs.log2 < 9000) = true := decide_eq_true (by
    have := (Nat.log2_lt (n := j.natAbs) (k := a) (by omega)).mpr h'
    omega)
  show (if (decide (0 < j) && decide (j.natAbs.log2 < 9000)) = true then R.ok (D.int (i / j)) else R.stuck) = _
  rw [e, decide_eq_true h]
  rfl
theorem dLt_i : dLt (.int i) (.int j) = .ok (.bl (decide (i < j))) := rfl
theorem dLe_i : dLe (.int i) (.int j) = .ok (.bl (decide (i ≤ j))) := rfl
theorem dGt_i : dGt (.int i) (.int j) = .ok (.bl (decide (j < i))) := rfl
theorem dGe_i : dGe (.int i) (.int j) = .ok (.bl (decide (j ≤ i))) := rfl
theorem dEq_i : dEq (.int i) (.int j) = .ok (.bl (decide (i = j))) := rfl
theorem dNe_i : dNe (.int i) (.int j) = .ok (.bl (!decide (i = j))) := rfl
theorem dEq_s : dEq (.str z) (.str w) = .ok (.bl (decide (z = w))) := rfl
theorem dNe_s : dNe (.str z) (.str w) = .ok (.bl (!decide (z = w))) := rfl
theorem asB_bl : asB (.bl b) = .ok b := rfl
theorem dTru_bl : dTru (.bl b) = .ok b := rfl
theorem dIs_n : dIs x .non = .ok (.bl x.isNon) := by cases x <;> rfl
theorem dIsNot_n : dIsNot x .non = .ok (.bl (!x.isNon)) := by cases x <;> rfl
theorem dMin_i : dMin2 [.int i, .int j] = .ok (.int (if j < i then j else i)) := rfl
theorem dMax_i : dMax2 [.int i, .int j] = .ok (.int (if j > i then j else i)) := rfl
theorem dAbs_i : dAbs [.int i] = .ok (.int (if i < 0 then -i else i)) := rfl
theorem dLen_l : dLen [.lst xs] = .ok (.int xs.length) := rfl
theorem dLen_t : dLen [.tup xs] = .ok (.int xs.length) := rfl
theorem dLen_s {ns : List Int} : dLen [.scr ns] = .ok (.int ns.length) := rfl
/-! ### places -/
theorem atI_ok {α : Type} {xs : List α} {i : Int} (h0 : 0 ≤ i) (h1 : i < xs.length) (d : α) : atI xs i = some (xs.getD i.toNat d) := by
  unfold atI ixN
  rw [if_pos h0, if_pos h1]
  have : i.toNat < xs.length := by omega
  simp [List.getD, this]
theorem atI_nat' {α : Type} {xs : List α} {n : Nat} {d : α} (h : xs[n]? = some d) : atI xs (n : Int) = some d := atI_nat h
theorem ixN_n {n j : Nat} (h : j < n) : ixN n (j : Int) = some j := by
  unfold ixN
  rw [if_pos (by omega), if_pos (by omega)]
  rfl
theorem ixN_0 {n : Nat} (h : 0 < n) : ixN n 0 = some 0 := ixN_n (j := 0) h
theorem ixN_i {n : Nat} {i : Int} (h0 : 0 ≤ i) (h1 : i < n) : ixN n i = some i.toNat := by
  unfold ixN
  rw [if_pos h0, if_pos h1]
theorem ixN_last {n : Nat} (h : 0 < n) : ixN n (-1) = some (n - 1) := by
  unfold ixN
  rw [if_neg (by decide), if_pos (by omega)]
  congr 1
  omega
theorem atI_l {α : Type} {xs : List α} {d : α} (h : xs[xs.length - 1]? = some d) : atI xs (-1) = some d := by
  have h0 : 0 < xs.length := by
    have := (List.getElem?_eq_some_iff.mp h).1
    omega
  unfold atI
  rw [ixN_last h0]
  exact h
theorem dIx_scr {ns : List Int} (h0 : 0 ≤ i) (h1 : i < ns.length) : dIx (.scr ns) (.int i) = .ok (.int (ns.getD i.toNat 0)) := by
  show (match atI ns i with | some d => R.ok (D.int d) | none => .stuck) = _
  rw [atI_ok h0 h1 0]
theorem dIx_lst {d : D} (h : atI xs i = some d) : dIx (.lst xs) (.int i) = .ok d := by
  show (match atI xs i with | some d => R.ok d | none => .stuck) = _
  rw [h]
theorem dIx_tup {d : D} (h : atI xs i = some d) : dIx (.tup xs) (.int i) = .ok d := by
  show (match atI xs i with | some d => R.ok d | none => .stuck) = _
  rw [h]
theorem dIx_n {d : D} {n : Nat} (h : xs[n]? = some d) : dIx (.lst xs) (.int (n : Int)) = .ok d := dIx_lst (atI_nat h)
theorem dIx_t0 {a : D} : dIx (.tup (a :: xs)) (.int 0) = .ok a := dIx_tup (atI_nat (j := 0) rfl)
theorem dIx_t1 {a b : D} : dIx (.tup (a :: b :: xs)) (.int 1) = .ok b := dIx_tup (atI_nat (j := 1) rfl)
theorem dIx_t2 {a b c : D} : dIx (.tup (a :: b :: c :: xs)) (.int 2) = .ok c := dIx_tup (atI_nat (j := 2) rfl)
theorem dIx_t3 {a b c d : D} : dIx (.tup (a :: b :: c :: d :: xs)) (.int 3) = .ok d := dIx_tup (atI_nat (j := 3) rfl)
theorem dIx_l0 {a : D} : dIx (.lst (a :: xs)) (.int 0) = .ok a := dIx_lst (atI_nat (j := 0) rfl)
theorem dIx_l1 {a b : D} : dIx (.lst (a :: b :: xs)) (.int 1) = .ok b := dIx_lst (atI_nat (j := 1) rfl)
theorem dIx_l2 {a b c : D} : dIx (.lst (a :: b :: c :: xs)) (.int 2) = .ok c := dIx_lst (atI_nat (j := 2) rfl)
theorem dIx_l3 {a b c d : D} : dIx (.lst (a :: b :: c :: d :: xs)) (.int 3) = .ok d := dIx_lst (atI_nat (j := 3) rfl)
theorem dIx_last {a : D} : dIx (.lst (xs ++ [a])) (.int (-1)) = .ok a := dIx_lst (atI_last xs a)
/-- [a, b][i] for a drawn i -/
theorem dIx_two {a b : D} (h0 : 0 ≤ i) (h1 : i < 2) : dIx (.lst [a, b]) (.int i) = .ok (if i = 0 then a else b) := by
  rcases (by omega : i = 0 ∨ i = 1) with e | e
  · subst e; rfl
  · subst e; rfl
end

/-! ### loops -/
section
variable {α : Type} {h : Tg} {g : DL.Env → Out} {Γ : DL.Env} {ft : DL.Env → R Bool} {fe : DL.Env → R D}
/-- a loop whose turns all go on: P by the turn -/
theorem loopF_ds (ds : List D) (P : Nat → DL.Env → Prop) (h0 : P 0 Γ)
    (hs : ∀ (i : Nat) (d : D) (Γ : DL.Env), ds[i]? = some d → P i Γ → ∃ Γ1 Γ2, h d Γ = some Γ1 ∧ (g Γ1 = .nx Γ2 ∨ g Γ1 = .ct Γ2) ∧ P (i + 1) Γ2) : ∃ Γ', loopF h g ds Γ = .nx Γ' ∧ P ds.length Γ' := by
  induction ds generalizing P Γ with
  | nil => exact ⟨Γ, rfl, h0⟩
  | cons d ds ih =>
    obtain ⟨Γ1, Γ2, e1, e2, p⟩ := hs 0 d Γ rfl h0
    obtain ⟨Γ', e3, p'⟩ := ih (Γ := Γ2) (fun i Γ => P (i + 1) Γ) p fun i d' Γ' hd hp => hs (i + 1) d' Γ' (by simpa using hd) hp
    refine ⟨Γ', ?_, p'⟩
    unfold loopF
    rw [e1]
    rcases e2 with e2 | e2
    · simp only [e2]; exact e3
    · simp only [e2]; exact e3
theorem loopF_inv (xs : List α) (enc : α → D) (P : Nat → DL.Env → Prop) (h0 : P 0 Γ)
    (hs : ∀ (i : Nat) (x : α) (Γ : DL.Env), xs[i]? = some x → P i Γ → ∃ Γ1 Γ2, h (enc x) Γ = some Γ1 ∧ (g Γ1 = .nx Γ2 ∨ g Γ1 = .ct Γ2) ∧ P (i + 1) Γ2) : ∃ Γ', loopF h g (xs.map enc) Γ = .nx Γ' ∧ P xs.length Γ' := by
  have q := loopF_ds (h := h) (g := g) (xs.map enc) P h0 fun i d Γ hd hp => by
    rw [List.getElem?_map] at hd
    cases e : xs[i]? with
    | none => rw [e] at hd; cases hd
    | some x =>
      rw [e] at hd
      cases hd
      exact hs i x Γ e hp
  rwa [List.length_map] at q
theorem loopF_rng (lo : Int) (n : Nat) (P : Nat → DL.Env → Prop) (h0 : P 0 Γ)
    (hs : ∀ (i : Nat) (Γ : DL.Env), i < n → P i Γ → ∃ Γ1 Γ2, h (.int (lo + i)) Γ = some Γ1 ∧ (g Γ1 = .nx Γ2 ∨ g Γ1 = .ct Γ2) ∧ P (i + 1) Γ2) : ∃ Γ', loopF h g (rngL lo n) Γ = .nx Γ' ∧ P n Γ' := by
  have q := loopF_inv (h := h) (g := g) (List.range n) (fun (i : Nat) => D.int (lo + i)) P h0 fun i x Γ hx hp => by
    have hi : i < n := by
      have := (List.getElem?_eq_some_iff.mp hx).1
      simpa using this
    have : x = i := by rw [List.getElem?_range hi] at hx; exact (Option.some.inj hx).symm
    subst this
    exact hs x Γ hi hp
  rwa [List.length_range] at q
theorem enumL_at {ds : List D} {i j : Nat} {d : D} (h : (enumL j ds)[i]? = some d) : ∃ e, ds[i]? = some e ∧ d = .tup [.int ((j + i : Nat) : Int), e] := by
  have hl : i < ds.length := by
    have := (List.getElem?_eq_some_iff.mp h).1
    rwa [enumL_len] at this
  have e := enumL_get (i := j) (j := i) (ds := ds) (d := ds[i]) (by simp [hl])
  rw [e] at h
  exact ⟨ds[i], by simp [hl], (Option.some.inj h).symm⟩
theorem loopF_enum (xs : List α) (enc : α → D) (P : Nat → DL.Env → Prop) (h0 : P 0 Γ)
    (hs : ∀ (i : Nat) (x : α) (Γ : DL.Env), xs[i]? = some x → P i Γ → ∃ Γ1 Γ2, h (.tup [.int (i : Nat), enc x]) Γ = some Γ1 ∧ (g Γ1 = .nx Γ2 ∨ g Γ1 = .ct Γ2) ∧ P (i + 1) Γ2) : ∃ Γ', loopF h g (enumL 0 (xs.map enc)) Γ = .nx Γ' ∧ P xs.length Γ' := by
  have q := loopF_ds (h := h) (g := g) (enumL 0 (xs.map enc)) P h0 fun i d Γ hd hp => by
    obtain ⟨e, he, rfl⟩ := enumL_at hd
    rw [List.getElem?_map] at he
    cases ex : xs[i]? with
    | none => rw [ex] at he; cases he
    | some x =>
      rw [ex] at he
      cases he
      rw [Nat.zero_add]
      exact hs i x Γ ex hp
  rwa [enumL_len, List.length_map] at q
theorem zipL_at {ds es : List D} {i : Nat} {d : D} (h : (zipL ds es)[i]? = some d) : ∃ e f, ds[i]? = some e ∧ es[i]? = some f ∧ d = .tup [e, f] := by
  have hl : i < min ds.length es.length := by
    have := (List.getElem?_eq_some_iff.mp h).1
    rwa [zipL_len] at this
  have h1 : i < ds.length := by omega
  have h2 : i < es.length := by omega
  have e := zipL_get (ds := ds) (es := es) (j := i) (d := ds[i]) (e := es[i]) (by simp [h1]) (by simp [h2])
  rw [e] at h
  exact ⟨ds[i], es[i], by simp [h1], by simp [h2], (Option.some.inj h).symm⟩
/-- a loop from the end on: P of what was gone through -/
theorem loopF_rev (xs : List α) (enc : α → D) (P : List α → DL.Env → Prop) (h0 : P [] Γ)
    (hs : ∀ (x : α) (t : List α) (Γ : DL.Env), (x :: t) <:+ xs → P t Γ → ∃ Γ1 Γ2, h (enc x) Γ = some Γ1 ∧ (g Γ1 = .nx Γ2 ∨ g Γ1 = .ct Γ2) ∧ P (x :: t) Γ2) : ∃ Γ', loopF h g (xs.map enc).reverse Γ = .nx Γ' ∧ P xs Γ' := by
  have q := loopF_ds (h := h) (g := g) (xs.map enc).reverse (fun i Γ => P (xs.drop (xs.length - i)) Γ) (by rw [Nat.sub_zero, List.drop_length]; exact h0) fun i d Γ hd hp => by
    have hi : i < xs.length := by
      have := (List.getElem?_eq_some_iff.mp hd).1
      rwa [List.length_reverse, List.length_map] at this
    rw [List.getElem?_reverse (by rw [List.length_map]; exact hi), List.length_map, List.getElem?_map] at hd
    have hx : xs[xs.length - 1 - i]? = some (xs[xs.length - 1 - i]'(by omega)) := List.getElem?_eq_getElem (by omega)
    rw [hx] at hd
    cases hd
    have hdr : xs.drop (xs.length - (i + 1)) = (xs[xs.length - 1 - i]'(by omega)) :: xs.drop (xs.length - i) := by
      have e1 : xs.length - (i + 1) = xs.length - 1 - i := by omega
      have e2 : xs.length - i = xs.length - 1 - i + 1 := by omega
      rw [e1, e2, List.drop_eq_getElem_cons (by omega)]
    obtain ⟨Γ1, Γ2, a, b, c⟩ := hs _ _ Γ (by rw [← hdr]; exact List.drop_suffix _ _) hp
    exact ⟨Γ1, Γ2, a, b, by rw [hdr]; exact c⟩
  rw [List.length_reverse, List.length_map, Nat.sub_self, List.drop_zero] at q
  exact q
/-- a loop that may answer: each turn goes on, or gives an answer of which Q holds -/
theorem loopF_ret (ds : List D) (P : Nat → DL.Env → Prop) (Q : D → Prop) (h0 : P 0 Γ)
    (hs : ∀ (i : Nat) (d : D) (Γ : DL.Env), ds[i]? = some d → P i Γ → ∃ Γ1, h d Γ = some Γ1 ∧ ((∃ Γ2, (g Γ1 = .nx Γ2 ∨ g Γ1 = .ct Γ2) ∧ P (i + 1) Γ2) ∨ ∃ r, g Γ1 = .rt r ∧ Q r)) :
    (∃ Γ', loopF h g ds Γ = .nx Γ' ∧ P ds.length Γ') ∨ ∃ r, loopF h g ds Γ = .rt r ∧ Q r := by
  induction ds generalizing P Γ with
  | nil => exact .inl ⟨Γ, rfl, h0⟩
  | cons d ds ih =>
    obtain ⟨Γ1, e1, e2⟩ := hs 0 d Γ rfl h0
    rcases e2 with ⟨Γ2, e2, p⟩ | ⟨r, e2, q⟩
    · have z := ih (Γ := Γ2) (fun i Γ => P (i + 1) Γ) p fun i d' Γ' hd hp => hs (i + 1) d' Γ' (by simpa using hd) hp
      have e : loopF h g (d :: ds) Γ = loopF h g ds Γ2 := by
        rcases e2 with e2 | e2
        · conv => lhs; unfold loopF
          simp only [e1, e2]
        · conv => lhs; unfold loopF
          simp only [e1, e2]
      rw [e]
      exact z
    · refine .inr ⟨r, ?_, q⟩
      unfold loopF
      simp only [e1, e2]
/-- a comprehension without tests -/
theorem lcF_ds (f : D → D) (ds : List D) (hs : ∀ d ∈ ds, ∃ Γ1, h d Γ = some Γ1 ∧ ft Γ1 = .ok true ∧ fe Γ1 = .ok (f d)) : lcF h ft fe Γ ds = .ok (ds.map f) := by
  induction ds with
  | nil => rfl
  | cons d ds ih =>
    obtain ⟨Γ1, e1, e2, e3⟩ := hs d List.mem_cons_self
    unfold lcF
    simp only [e1, e2, e3, ih fun x hx => hs x (List.mem_cons_of_mem _ hx)]
    rfl
theorem lcF_map (xs : List α) (enc f : α → D) (hs : ∀ x ∈ xs, ∃ Γ1, h (enc x) Γ = some Γ1 ∧ ft Γ1 = .ok true ∧ fe Γ1 = .ok (f x)) : lcF h ft fe Γ (xs.map enc) = .ok (xs.map f) := by
  induction xs with
  | nil => rfl
  | cons d ds ih =>
    obtain ⟨Γ1, e1, e2, e3⟩ := hs d List.mem_cons_self
    show lcF h ft fe Γ (enc d :: ds.map enc) = _
    unfold lcF
    simp only [e1, e2, e3, ih fun x hx => hs x (List.mem_cons_of_mem _ hx)]
    rfl
theorem lcF_rng (lo : Int) (n : Nat) (f : Nat → D) (hs : ∀ i, i < n → ∃ Γ1, h (.int (lo + i)) Γ = some Γ1 ∧ ft Γ1 = .ok true ∧ fe Γ1 = .ok (f i)) : lcF h ft fe Γ (rngL lo n) = .ok ((List.range n).map f) :=
  lcF_map (List.range n) (fun (i : Nat) => D.int (lo + i)) f fun i hi => hs i (List.mem_range.mp hi)
theorem oLc_ok {vs : List Nat} {fi : DL.Env → R (List D)} {ds es : List D} (e1 : fi Γ = .ok ds) (e2 : lcF h ft fe (wipeE Γ vs) ds = .ok es) (hl : ds.length ≤ LIM) : oLc vs fi h ft fe Γ = .ok es := by
  unfold oLc
  rw [e1]
  show (match lcF h ft fe (wipeE Γ vs) ds with | .ok es => if ds.length ≤ LIM then R.ok es else .stuck | _ => .stuck) = _
  rw [e2]
  exact if_pos hl
theorem iRng1 {j : Int} (h0 : -4611686018427387904 ≤ j) (h1 : j < 4611686018427387904) : iRange1 [.int j] = .ok (rngL 0 j.toNat) := by
  have e : inR62 j = true := by unfold inR62; simp [h0, h1]
  show (if inR62 j = true then R.ok (rngL 0 j.toNat) else .stuck) = _
  rw [e]
  rfl
theorem iEnum_l {ds : List D} : iEnumD [.lst ds] = .ok (enumL 0 ds) := rfl
theorem iZip_l {ds es : List D} : iZipD [.lst ds, .lst es] = .ok (zipL ds es) := rfl
theorem oZip_l {ds es : List D} : oZip [.lst ds, .lst es] = .ok (zipL ds es) := rfl
theorem iRev_l {ds : List D} : iRevD [.lst ds] = .ok ds.reverse := rfl
theorem enumL_map (xs : List α) (enc : α → D) : enumL 0 (xs.map enc) = xs.zipIdx.map fun q => .tup [.int (q.2 : Nat), enc q.1] := by
  have : ∀ (n : Nat) (xs : List α), enumL n (xs.map enc) = (xs.zipIdx n).map fun q => .tup [.int (q.2 : Nat), enc q.1] := by
    intro n xs
    induction xs generalizing n with
    | nil => rfl
    | cons x xs ih => show D.tup [.int n, enc x] :: enumL (n + 1) (xs.map enc) = _; rw [ih]; rfl
  exact this 0 xs
theorem zipL_map {β : Type} (xs : List α) (ys : List β) (enc : α → D) (enc' : β → D) : zipL (xs.map enc) (ys.map enc') = (xs.zip ys).map fun q => .tup [enc q.1, enc' q.2] := by
  induction xs generalizing ys with
  | nil => rfl
  | cons x xs ih =>
    cases ys with
    | nil => rfl
    | cons y ys => show D.tup [enc x, enc' y] :: zipL (xs.map enc) (ys.map enc') = _; rw [ih]; rfl
/-! ### == of lists of one kind -/
theorem pdL_inj (enc : α → D) (xs ys : List α) (hinj : ∀ x ∈ xs, ∀ y ∈ ys, PyData.eqv (enc x).pd (enc y).pd = true ↔ x = y) : (PyData.eqvAll (D.pdL (xs.map enc)) (D.pdL (ys.map enc)) = true) ↔ xs = ys := by
  induction xs generalizing ys with
  | nil => cases ys <;> simp [D.pdL, PyData.eqvAll]
  | cons x xs ih =>
    cases ys with
    | nil => simp [D.pdL, PyData.eqvAll]
    | cons y ys =>
      simp only [List.map_cons, D.pdL, PyData.eqvAll, Bool.and_eq_true]
      rw [hinj x List.mem_cons_self y List.mem_cons_self, ih ys fun a ha b hb => hinj a (List.mem_cons_of_mem _ ha) b (List.mem_cons_of_mem _ hb)]
      simp
theorem dEq_lst [DecidableEq α] (enc : α → D) (xs ys : List α) (n : Nat) (hn : n < 60) (hsh : ∀ x, (enc x).sh n = true) (hsh' : ∀ x, (enc x).sh 59 = true) (hinj : ∀ x y, PyData.eqv (enc x).pd (enc y).pd = true ↔ x = y) :
    dEqV (.lst (xs.map enc)) (.lst (ys.map enc)) = .ok (decide (xs = ys)) := by
  have h1 : ∀ zs : List α, (D.lst (zs.map enc)).sh 60 = true := fun zs => by
    show (zs.map enc).all (D.sh 59) = true
    rw [List.all_map, List.all_eq_true]
    exact fun x _ => hsh' x
  show (if ((D.lst (xs.map enc)).sh 60 && (D.lst (ys.map enc)).sh 60) = true then R.ok (dEqB (.lst (xs.map enc)) (.lst (ys.map enc))) else .stuck) = _
  rw [h1, h1]
  show R.ok (dEqB (.lst (xs.map enc)) (.lst (ys.map enc))) = _
  congr 1
  show PyData.eqvAll (D.pdL (xs.map enc)) (D.pdL (ys.map enc)) = _
  have := pdL_inj enc xs ys fun x _ y _ => hinj x y
  by_cases e : xs = ys
  · rw [this.mpr e, decide_eq_true e]
  · rw [decide_eq_false e]
    cases q : PyData.eqvAll (D.pdL (xs.map enc)) (D.pdL (ys.map enc)) with
    | false => rfl
    | true => exact absurd (this.mp q) e
/-- a loop that goes on while c holds of the turn's number, and answers r at the first turn of which it does not -/
theorem loopF_all (ds : List D) (c : Nat → Bool) (r : D) (P : Nat → DL.Env → Prop) (h0 : P 0 Γ)
    (hs : ∀ (i : Nat) (d : D) (Γ : DL.Env), ds[i]? = some d → P i Γ → ∃ Γ1 Γ2, h d Γ = some Γ1 ∧ (c i = true → (g Γ1 = .nx Γ2 ∨ g Γ1 = .ct Γ2)) ∧ (c i = false → g Γ1 = .rt r) ∧ P (i + 1) Γ2) :
    ∃ Γ', P ds.length Γ' ∧ loopF h g ds Γ = if (List.range ds.length).all c = true then .nx Γ' else .rt r := by
  induction ds generalizing P Γ c with
  | nil => exact ⟨Γ, h0, rfl⟩
  | cons d ds ih =>
    obtain ⟨Γ1, Γ2, e1, e2, e3, p⟩ := hs 0 d Γ rfl h0
    obtain ⟨Γ', p', e4⟩ := ih (Γ := Γ2) (fun i => c (i + 1)) (fun i Γ => P (i + 1) Γ) p fun i d' Γ' hd hp => hs (i + 1) d' Γ' (by simpa using hd) hp
    refine ⟨Γ', p', ?_⟩
    have er : (List.range (d :: ds).length).all c = (c 0 && (List.range ds.length).all fun i => c (i + 1)) := by
      rw [List.length_cons, List.range_succ_eq_map, List.all_cons, List.all_map]
      rfl
    unfold loopF
    rw [e1, er]
    cases hc : c 0 with
    | false =>
      simp only [e3 hc, Bool.false_and]
      rfl
    | true =>
      rw [Bool.true_and, ← e4]
      rcases e2 hc with e2 | e2
      · simp only [e2]
      · simp only [e2]
theorem loopF_allE (xs : List α) (enc : α → D) (c : Nat → Bool) (r : D) (P : Nat → DL.Env → Prop) (h0 : P 0 Γ)
    (hs : ∀ (i : Nat) (x : α) (Γ : DL.Env), xs[i]? = some x → P i Γ → ∃ Γ1 Γ2, h (.tup [.int (i : Nat), enc x]) Γ = some Γ1 ∧ (c i = true → (g Γ1 = .nx Γ2 ∨ g Γ1 = .ct Γ2)) ∧ (c i = false → g Γ1 = .rt r) ∧ P (i + 1) Γ2) :
    ∃ Γ', P xs.length Γ' ∧ loopF h g (enumL 0 (xs.map enc)) Γ = if (List.range xs.length).all c = true then .nx Γ' else .rt r := by
  have q := loopF_all (h := h) (g := g) (enumL 0 (xs.map enc)) c r P h0 fun i d Γ hd hp => by
    obtain ⟨e, he, rfl⟩ := enumL_at hd
    rw [List.getElem?_map] at he
    cases ex : xs[i]? with
    | none => rw [ex] at he; cases he
    | some x =>
      rw [ex] at he
      cases he
      rw [Nat.zero_add]
      exact hs i x Γ ex hp
  rwa [enumL_len, List.length_map] at q
theorem loopF_allM (xs : List α) (enc : α → D) (c : Nat → Bool) (r : D) (P : Nat → DL.Env → Prop) (h0 : P 0 Γ)
    (hs : ∀ (i : Nat) (x : α) (Γ : DL.Env), xs[i]? = some x → P i Γ → ∃ Γ1 Γ2, h (enc x) Γ = some Γ1 ∧ (c i = true → (g Γ1 = .nx Γ2 ∨ g Γ1 = .ct Γ2)) ∧ (c i = false → g Γ1 = .rt r) ∧ P (i + 1) Γ2) :
    ∃ Γ', P xs.length Γ' ∧ loopF h g (xs.map enc) Γ = if (List.range xs.length).all c = true then .nx Γ' else .rt r := by
  have q := loopF_all (h := h) (g := g) (xs.map enc) c r P h0 fun i d Γ hd hp => by
    rw [List.getElem?_map] at hd
    cases e : xs[i]? with
    | none => rw [e] at hd; cases hd
    | some x =>
      rw [e] at hd
      cases hd
      exact hs i x Γ e hp
  rwa [List.length_map] at q
theorem loopF_allR (lo : Int) (n : Nat) (c : Nat → Bool) (r : D) (P : Nat → DL.Env → Prop) (h0 : P 0 Γ)
    (hs : ∀ (i : Nat) (Γ : DL.Env), i < n → P i Γ → ∃ Γ1 Γ2, h (.int (lo + i)) Γ = some Γ1 ∧ (c i = true → (g Γ1 = .nx Γ2 ∨ g Γ1 = .ct Γ2)) ∧ (c i = false → g Γ1 = .rt r) ∧ P (i + 1) Γ2) :
    ∃ Γ', P n Γ' ∧ loopF h g (rngL lo n) Γ = if (List.range n).all c = true then .nx Γ' else .rt r := by
  have q := loopF_allM (h := h) (g := g) (List.range n) (fun (i : Nat) => D.int (lo + i)) c r P h0 fun i x Γ hx hp => by
    have hi : i < n := by
      have := (List.getElem?_eq_some_iff.mp hx).1
      simpa using this
    have : x = i := by rw [List.getElem?_range hi] at hx; exact (Option.some.inj hx).symm
    subst this
    exact hs x Γ hi hp
  rwa [List.length_range] at q
/-! ### dicts -/
theorem lkD_len : ∀ {ks : List Key} {ds : List α} {j : Key}, ks.length = ds.length → ∀ x, lkD (ks ++ [j]) (ds ++ [x]) = fun k => if (lkD ks ds k).isSome = true then lkD ks ds k else if j = k then some x else none
  | [], [], j, _, x => by
    funext k
    simp [lkD]
  | [], _ :: _, _, h, _ => by simp at h
  | _ :: _, [], _, h, _ => by simp at h
  | k :: ks, d :: ds, j, h, x => by
    funext i
    have ih := congrFun (lkD_len (ks := ks) (ds := ds) (j := j) (by simpa using h) x) i
    show lkD (k :: (ks ++ [j])) (d :: (ds ++ [x])) i = _
    unfold lkD
    by_cases e : k = i
    · simp [e]
    · simp only [if_neg e]
      exact ih
theorem lkD_puV : ∀ {ks : List Key} {ds : List α} {j k : Key} {x : α}, lkD ks (puV ks ds j x) k = if j = k then (lkD ks ds k).map fun _ => x else lkD ks ds k
  | [], _, _, _, _ => by simp [lkD]
  | _ :: _, [], _, _, _ => by simp [lkD, puV]
  | k' :: ks, d :: ds, j, k, x => by
    have ih := lkD_puV (ks := ks) (ds := ds) (j := j) (k := k) (x := x)
    unfold puV lkD
    by_cases e : k' = k
    · subst e
      by_cases q : k' = j
      · simp [q]
      · have : ¬ j = k' := fun z => q z.symm
        simp [q, this]
    · simp only [if_neg e]
      exact ih
theorem lkD_put {ks : List Key} {ds : List α} {j k : Key} {x : α} (h : ks.length = ds.length) : lkD (putD ks ds j x).1 (putD ks ds j x).2 k = if j = k then some x else lkD ks ds k := by
  unfold putD
  by_cases c : (lkD ks ds j).isSome = true
  · rw [if_pos c]
    show lkD ks (puV ks ds j x) k = _
    rw [lkD_puV]
    by_cases e : j = k
    · subst e
      rw [if_pos rfl, if_pos rfl]
      cases q : lkD ks ds j with
      | none => rw [q] at c; cases c
      | some d => rfl
    · rw [if_neg e, if_neg e]
  · rw [if_neg c]
    show lkD (ks ++ [j]) (ds ++ [x]) k = _
    rw [lkD_len h]
    by_cases e : j = k
    · subst e
      simp only [if_neg c, if_true]
    · simp only [if_neg e]
      split
      · rfl
      · rename_i q
        cases z : lkD ks ds k with
        | none => rfl
        | some d => rw [z] at q; exact absurd rfl q
theorem putD_size {ks : List Key} {ds : List α} {j : Key} {x : α} : (putD ks ds j x).1.length ≤ ks.length + 1 := by
  unfold putD
  split <;> simp
theorem dGet_i {ks : List Key} {ds : List D} {i : Int} {d : D} (h : lkD ks ds (.inl i) = some d) : dGet (.dk ks ds) (.int i) = .ok d := by
  show (match lkD ks ds (.inl i) with | some d => R.ok d | none => .stuck) = _
  rw [h]
theorem dGet_s {ks : List Key} {ds : List D} {i : Str} {d : D} (h : lkD ks ds (.inr i) = some d) : dGet (.dk ks ds) (.str i) = .ok d := by
  show (match lkD ks ds (.inr i) with | some d => R.ok d | none => .stuck) = _
  rw [h]
theorem dInD_i {ks : List Key} {ds : List D} {i : Int} : dInD (.int i) (.dk ks ds) = .ok (.bl (lkD ks ds (.inl i)).isSome) := rfl
theorem dNotInD_i {ks : List Key} {ds : List D} {i : Int} : dNotInD (.int i) (.dk ks ds) = .ok (.bl (!(lkD ks ds (.inl i)).isSome)) := rfl
theorem dKey_i {i : Int} : dKey (.int i) = some (.inl i) := rfl
theorem dKey_s {i : Str} : dKey (.str i) = some (.inr i) := rfl
/-! ### slices -/
theorem sl1_l {xs : List D} {lo hi : Option Int} : sl1 (.lst xs) lo hi = .ok (.lst (cutL xs lo hi)) := rfl
theorem oSl1_l {xs : List D} {lo hi : Option Int} : oSl1 (.lst xs) lo hi = .ok (cutL xs lo hi) := rfl
theorem cutL_init {xs : List α} : cutL xs none (some (-1)) = xs.dropLast := by
  have e0 : HT.sIx xs.length 0 none = 0 := rfl
  have e1 : HT.sIx xs.length xs.length (some (-1)) = xs.length - 1 := by
    show (if (-1 : Int) < 0 then ((-1 : Int) + (xs.length : Int)).toNat else min (-1 : Int).toNat xs.length) = _
    rw [if_pos (by decide)]
    omega
  unfold cutL
  rw [e0, e1, List.drop_zero, Nat.sub_zero]
  exact List.dropLast_eq_take.symm
theorem cutL_take {xs : List α} {i : Int} (h : 0 ≤ i) : cutL xs none (some i) = xs.take i.toNat := by
  have e0 : HT.sIx xs.length 0 none = 0 := rfl
  have e1 : HT.sIx xs.length xs.length (some i) = min i.toNat xs.length := by
    show (if i < 0 then (i + (xs.length : Int)).toNat else min i.toNat xs.length) = _
    rw [if_neg (by omega)]
  unfold cutL
  rw [e0, e1, List.drop_zero, Nat.sub_zero]
  by_cases q : i.toNat ≤ xs.length
  · rw [Nat.min_eq_left q]
  · rw [Nat.min_eq_right (by omega), List.take_length, List.take_of_length_le (by omega)]
theorem cutL_drop {xs : List α} {i : Int} (h : 0 ≤ i) : cutL xs (some i) none = xs.drop i.toNat := by
  have e0 : HT.sIx xs.length xs.length none = xs.length := rfl
  have e1 : HT.sIx xs.length 0 (some i) = min i.toNat xs.length := by
    show (if i < 0 then (i + (xs.length : Int)).toNat else min i.toNat xs.length) = _
    rw [if_neg (by omega)]
  unfold cutL
  rw [e0, e1]
  by_cases q : i.toNat ≤ xs.length
  · rw [Nat.min_eq_left q]
    exact List.take_of_length_le (by rw [List.length_drop]; omega)
  · rw [Nat.min_eq_right (by omega), List.drop_length, List.drop_of_length_le (by omega)]
    simp
/-! ### == of trees -/
theorem dEqB_refl {x : D} {n : Nat} (h : x.sh n = true) : dEqB x x = true := PySem.SeqAt.eqv_refl _ (sh_ok n x h).1
theorem dEqV_same {x : D} (h : x.sh 60 = true) : dEqV x x = .ok true := by
  have e : (if x.sh 60 && x.sh 60 then R.ok (dEqB x x) else R.stuck) = .ok true := by rw [h, dEqB_refl h]; rfl
  cases x <;> first | exact e | (show R.ok (decide _) = _; rw [decide_eq_true rfl])
theorem dEq_same {x : D} (h : x.sh 60 = true) : dEq x x = .ok (.bl true) := by unfold dEq; rw [dEqV_same h]; rfl
theorem dNe_same {x : D} (h : x.sh 60 = true) : dNe x x = .ok (.bl false) := by unfold dNe; rw [dEqV_same h]; rfl
/-- trees of numbers, texts, lists and tuples -/
def D.kd : Nat → D → Bool
  | _, .int _ => true | _, .str x => PyData.canLay0 (.str x) | _, .non => true
  | n + 1, .lst xs => xs.all (D.kd n)
  | n + 1, .tup xs => xs.all (D.kd n)
  | _, _ => false
theorem kd_sh : ∀ (n : Nat) (x : D), x.kd n = true → x.sh n = true
  | n, .int _, _ => by cases n <;> rfl
  | n, .str _, h => by cases n <;> exact h
  | n, .non, _ => by cases n <;> rfl
  | n + 1, .lst xs, h => List.all_eq_true.mpr fun d hd => kd_sh n d (List.all_eq_true.mp h d hd)
  | n + 1, .tup xs, h => List.all_eq_true.mpr fun d hd => kd_sh n d (List.all_eq_true.mp h d hd)
  | 0, .lst _, h => by cases h
  | 0, .tup _, h => by cases h
  | 0, .bl _, h => by cases h
  | n + 1, .bl _, h => by cases h
  | 0, .scr _, h => by cases h
  | n + 1, .scr _, h => by cases h
  | 0, .dk _ _, h => by cases h
  | n + 1, .dk _ _, h => by cases h
  | 0, .obj _ _ _, h => by cases h
  | n + 1, .obj _ _ _, h => by cases h
  | 0, .exc _ _ _, h => by cases h
  | n + 1, .exc _ _ _, h => by cases h
  | 0, .cls _, h => by cases h
  | n + 1, .cls _, h => by cases h
  | 0, .ty _, h => by cases h
  | n + 1, .ty _, h => by cases h
theorem kd_eqL (n : Nat) (ih : ∀ x y : D, x.kd n = true → y.kd n = true → (PyData.eqv x.pd y.pd = true ↔ x = y)) : ∀ (xs ys : List D), xs.all (D.kd n) = true → ys.all (D.kd n) = true → (PyData.eqvAll (D.pdL xs) (D.pdL ys) = true ↔ xs = ys)
  | [], [], _, _ => by simp [D.pdL, PyData.eqvAll]
  | [], _ :: _, _, _ => by simp [D.pdL, PyData.eqvAll]
  | _ :: _, [], _, _ => by simp [D.pdL, PyData.eqvAll]
  | x :: xs, y :: ys, h, h' => by
    rw [List.all_cons, Bool.and_eq_true] at h h'
    simp only [D.pdL, PyData.eqvAll, Bool.and_eq_true]
    rw [ih x y h.1 h'.1, kd_eqL n ih xs ys h.2 h'.2]
    simp
theorem kd_eq : ∀ (n : Nat) (x y : D), x.kd n = true → y.kd n = true → (PyData.eqv x.pd y.pd = true ↔ x = y) := by
  intro n
  induction n with
  | zero => intro x y hx hy; cases x <;> cases y <;> first | exact Bool.noConfusion hx | exact Bool.noConfusion hy | simp [D.pd, PyData.eqv]
  | succ n ih =>
    intro x y hx hy
    have l := kd_eqL n ih
    cases x with
    | lst xs =>
      cases y with
      | lst ys => show PyData.eqvAll _ _ = true ↔ _; rw [l xs ys hx hy]; simp
      | _ => first | exact Bool.noConfusion hy | simp [D.pd, PyData.eqv]
    | tup xs =>
      cases y with
      | tup ys => show PyData.eqvAll _ _ = true ↔ _; rw [l xs ys hx hy]; simp
      | _ => first | exact Bool.noConfusion hy | simp [D.pd, PyData.eqv]
    | _ => cases y <;> first | exact Bool.noConfusion hx | exact Bool.noConfusion hy | simp [D.pd, PyData.eqv]
theorem dEqV_ne {x y : D} (hx : x.kd 60 = true) (hy : y.kd 60 = true) (h : x ≠ y) : dEqV x y = .ok false := by
  have e : (if x.sh 60 && y.sh 60 then R.ok (dEqB x y) else R.stuck) = .ok false := by
    rw [kd_sh _ _ hx, kd_sh _ _ hy]
    show R.ok (dEqB x y) = _
    congr 1
    cases q : dEqB x y with
    | false => rfl
    | true => exact absurd ((kd_eq 60 x y hx hy).mp q) h
  cases x <;> cases y <;> first | exact e | (show R.ok (decide _) = _; rw [decide_eq_false]; intro h'; exact h (by rw [h']))
theorem dEq_ne {x y : D} (hx : x.kd 60 = true) (hy : y.kd 60 = true) (h : x ≠ y) : dEq x y = .ok (.bl false) := by unfold dEq; rw [dEqV_ne hx hy h]; rfl
theorem dNe_ne {x y : D} (hx : x.kd 60 = true) (hy : y.kd 60 = true) (h : x ≠ y) : dNe x y = .ok (.bl true) := by unfold dNe; rw [dEqV_ne hx hy h]; rfl
end
end DL
set_option Elab.async false
set_option linter.all false
set_option maxRecDepth 100000
set_option maxHeartbeats 1000000
/-! The data layer: loops as equations; what `go` reckons with. -/
namespace DL
open PySem L2

def Out.ctn : Out → Out
  | .ct Γ => .nx Γ
  | o => o
def Out.brk : Out → Out
  | .bk Γ => .nx Γ
  | o => o
def tOut (r : Option DL.Env) (g : DL.Env → Out) : Out := match r with
  | none => .stuck
  | some Γ => (g Γ).ctn
/-- one turn of a loop -/
def turn (h : Tg) (g : DL.Env → Out) (d : D) (Γ : DL.Env) : Out := tOut (h d Γ) g
section
variable {α : Type} {h : Tg} {g : DL.Env → Out} {Γ : DL.Env} {d : D} {ds : List D} {vs : List Nat} {x : D}
theorem turn_eq : turn h g d Γ = tOut (h d Γ) g := rfl
theorem tOut_some : tOut (some Γ) g = (g Γ).ctn := rfl
theorem ctn_nx : (Out.nx Γ).ctn = .nx Γ := rfl
theorem ctn_ct : (Out.ct Γ).ctn = .nx Γ := rfl
theorem ctn_bk : (Out.bk Γ).ctn = .bk Γ := rfl
theorem ctn_rt : (Out.rt d).ctn = .rt d := rfl
theorem ctn_ro : (Out.ro ds).ctn = .ro ds := rfl
theorem ctn_exc : (Out.exc x Γ).ctn = .exc x Γ := rfl
theorem brk_bk : (Out.bk Γ).brk = .nx Γ := rfl
theorem brk_rt : (Out.rt d).brk = .rt d := rfl
theorem brk_ro : (Out.ro ds).brk = .ro ds := rfl
theorem brk_exc : (Out.exc x Γ).brk = .exc x Γ := rfl
theorem wp_nx : (Out.nx Γ).wp vs = .nx (wipeE Γ vs) := rfl
theorem wp_bk : (Out.bk Γ).wp vs = .bk (wipeE Γ vs) := rfl
theorem wp_ct : (Out.ct Γ).wp vs = .ct (wipeE Γ vs) := rfl
theorem wp_rt : (Out.rt d).wp vs = .rt d := rfl
theorem wp_ro : (Out.ro ds).wp vs = .ro ds := rfl
theorem wp_exc : (Out.exc x Γ).wp vs = .exc x Γ := rfl
theorem wipeE_n : wipeE Γ [] = Γ := rfl
theorem wipeE_c {v : Nat} : wipeE Γ (v :: vs) = (wipeE Γ vs).set v none := rfl
theorem loopF_turn {ds : List D} : loopF h g (d :: ds) Γ = match turn h g d Γ with
    | .nx Γ' => loopF h g ds Γ'
    | o => o.brk := by
  unfold turn tOut
  conv => lhs; unfold loopF
  cases h d Γ with
  | none => rfl
  | some Γ1 =>
    dsimp only
    cases g Γ1 <;> rfl
/-- a loop that goes on to its end -/
theorem for_ds (ds : List D) (E : Nat → DL.Env) (hs : ∀ (i : Nat) (d : D), ds[i]? = some d → turn h g d (E i) = .nx (E (i + 1))) : loopF h g ds (E 0) = .nx (E ds.length) := by
  induction ds generalizing E with
  | nil => rfl
  | cons d ds ih =>
    rw [loopF_turn, hs 0 d rfl]
    exact ih (fun i => E (i + 1)) fun i d' hd => hs (i + 1) d' (by simpa using hd)
theorem for_map (xs : List α) (enc : α → D) (E : Nat → DL.Env) (hs : ∀ (i : Nat) (x : α), xs[i]? = some x → turn h g (enc x) (E i) = .nx (E (i + 1))) : loopF h g (xs.map enc) (E 0) = .nx (E xs.length) := by
  have q := for_ds (h := h) (g := g) (xs.map enc) E fun i d hd => by
    rw [List.getElem?_map] at hd
    cases e : xs[i]? with
    | none => rw [e] at hd; cases hd
    | some x =>
      rw [e] at hd
      cases hd
      exact hs i x e
  rwa [List.length_map] at q
theorem for_rng (lo : Int) (n : Nat) (E : Nat → DL.Env) (hs : ∀ i : Nat, i < n → turn h g (.int (lo + i)) (E i) = .nx (E (i + 1))) : loopF h g (rngL lo n) (E 0) = .nx (E n) := by
  have q := for_map (h := h) (g := g) (List.range n) (fun (i : Nat) => D.int (lo + i)) E fun i x hx => by
    have hi : i < n := by
      have := (List.getElem?_eq_some_iff.mp hx).1
      simpa using this
    have : x = i := by rw [List.getElem?_range hi] at hx; exact (Option.some.inj hx).symm
    subst this
    exact hs x hi
  rwa [List.length_range] at q
/-- a loop down a range -/
theorem for_dn (lo : Int) (n : Nat) (E : Nat → DL.Env) (hs : ∀ i : Nat, i < n → turn h g (.int (lo + (i : Nat) * (-1))) (E i) = .nx (E (i + 1))) : loopF h g (rngDn lo n) (E 0) = .nx (E n) := by
  have q := for_map (h := h) (g := g) (List.range n) (fun (i : Nat) => D.int (lo + (i : Nat) * (-1))) E fun i x hx => by
    have hi : i < n := by
      have := (List.getElem?_eq_some_iff.mp hx).1
      simpa using this
    have : x = i := by rw [List.getElem?_range hi] at hx; exact (Option.some.inj hx).symm
    subst this
    exact hs x hi
  rwa [List.length_range] at q
theorem for_enum (xs : List α) (enc : α → D) (E : Nat → DL.Env) (hs : ∀ (i : Nat) (x : α), xs[i]? = some x → turn h g (.tup [.int (i : Nat), enc x]) (E i) = .nx (E (i + 1))) : loopF h g (enumL 0 (xs.map enc)) (E 0) = .nx (E xs.length) := by
  have q := for_ds (h := h) (g := g) (enumL 0 (xs.map enc)) E fun i d hd => by
    obtain ⟨e, he, rfl⟩ := enumL_at hd
    rw [List.getElem?_map] at he
    cases ex : xs[i]? with
    | none => rw [ex] at he; cases he
    | some x =>
      rw [ex] at he
      cases he
      rw [Nat.zero_add]
      exact hs i x ex
  rwa [enumL_len, List.length_map] at q
/-- a loop from a list's end: E of what was gone through -/
theorem for_rev (xs : List α) (enc : α → D) (E : List α → DL.Env) (hs : ∀ (x : α) (t : List α), (x :: t) <:+ xs → turn h g (enc x) (E t) = .nx (E (x :: t))) : loopF h g (xs.map enc).reverse (E []) = .nx (E xs) := by
  have q := for_ds (h := h) (g := g) (xs.map enc).reverse (fun i => E (xs.drop (xs.length - i))) fun i d hd => by
    have hi : i < xs.length := by
      have := (List.getElem?_eq_some_iff.mp hd).1
      rwa [List.length_reverse, List.length_map] at this
    rw [List.getElem?_reverse (by rw [List.length_map]; exact hi), List.length_map, List.getElem?_map] at hd
    have hx : xs[xs.length - 1 - i]? = some (xs[xs.length - 1 - i]'(by omega)) := List.getElem?_eq_getElem (by omega)
    rw [hx] at hd
    cases hd
    have hdr : xs.drop (xs.length - (i + 1)) = (xs[xs.length - 1 - i]'(by omega)) :: xs.drop (xs.length - i) := by
      have e1 : xs.length - (i + 1) = xs.length - 1 - i := by omega
      have e2 : xs.length - i = xs.length - 1 - i + 1 := by omega
      rw [e1, e2, List.drop_eq_getElem_cons (by omega)]
    show turn h g _ (E (xs.drop (xs.length - i))) = .nx (E (xs.drop (xs.length - (i + 1))))
    rw [hdr]
    exact hs _ _ (by rw [← hdr]; exact List.drop_suffix _ _)
  rw [List.length_reverse, List.length_map] at q
  simpa using q
/-- a loop that ends at turn k (by an answer, a break, an exception) -/
theorem for_stop (ds : List D) (E : Nat → DL.Env) (k : Nat) {d : D} (hd : ds[k]? = some d) (hs : ∀ (i : Nat) (d : D), i < k → ds[i]? = some d → turn h g d (E i) = .nx (E (i + 1))) {o : Out} (ho : turn h g d (E k) = o) (hn : ∀ Γ, o ≠ .nx Γ) : loopF h g ds (E 0) = o.brk := by
  induction ds generalizing E k with
  | nil => simp at hd
  | cons d' ds ih =>
    rw [loopF_turn]
    cases k with
    | zero =>
      have : d' = d := by simpa using hd
      subst this
      rw [ho]
      cases o with
      | nx Γ => exact absurd rfl (hn Γ)
      | _ => rfl
    | succ k =>
      rw [hs 0 d' (by omega) rfl]
      exact ih (fun i => E (i + 1)) k (by simpa using hd) (fun i d'' hi hd' => hs (i + 1) d'' (by omega) (by simpa using hd')) ho
/-- a loop that answers r at the first turn of which c does not hold -/
theorem for_all (ds : List D) (E : Nat → DL.Env) (c : Nat → Bool) (o : Out) (hn : ∀ Γ, o ≠ .nx Γ) (hs : ∀ (i : Nat) (d : D), ds[i]? = some d → turn h g d (E i) = if c i = true then .nx (E (i + 1)) else o) : loopF h g ds (E 0) = if (List.range ds.length).all c = true then .nx (E ds.length) else o.brk := by
  induction ds generalizing E c with
  | nil => rfl
  | cons d ds ih =>
    have er : (List.range (d :: ds).length).all c = (c 0 && (List.range ds.length).all fun i => c (i + 1)) := by
      rw [List.length_cons, List.range_succ_eq_map, List.all_cons, List.all_map]
      rfl
    rw [loopF_turn, hs 0 d rfl, er]
    cases hc : c 0 with
    | false =>
      rw [Bool.false_and, if_neg (by decide), if_neg (by decide)]
      cases o with
      | nx Γ => exact absurd rfl (hn Γ)
      | _ => rfl
    | true =>
      rw [if_pos rfl, Bool.true_and]
      exact ih (fun i => E (i + 1)) (fun i => c (i + 1)) fun i d' hd => hs (i + 1) d' (by simpa using hd)
theorem for_allM (xs : List α) (enc : α → D) (E : Nat → DL.Env) (c : Nat → Bool) (o : Out) (hn : ∀ Γ, o ≠ .nx Γ) (hs : ∀ (i : Nat) (x : α), xs[i]? = some x → turn h g (enc x) (E i) = if c i = true then .nx (E (i + 1)) else o) : loopF h g (xs.map enc) (E 0) = if (List.range xs.length).all c = true then .nx (E xs.length) else o.brk := by
  have q := for_all (h := h) (g := g) (xs.map enc) E c o hn fun i d hd => by
    rw [List.getElem?_map] at hd
    cases e : xs[i]? with
    | none => rw [e] at hd; cases hd
    | some x =>
      rw [e] at hd
      cases hd
      exact hs i x e
  rwa [List.length_map] at q
/-- a while that ends behind n turns -/
theorem while_n {f : DL.Env → R Bool} (E : Nat → DL.Env) (n fuel : Nat) (hf : n < fuel) (hs : ∀ i, i < n → f (E i) = .ok true ∧ (g (E i)).ctn = .nx (E (i + 1))) (he : f (E n) = .ok false) : loopW f g fuel (E 0) = .nx (E n) := by
  induction n generalizing E fuel with
  | zero =>
    obtain ⟨m, rfl⟩ : ∃ m, fuel = m + 1 := ⟨fuel - 1, by omega⟩
    unfold loopW
    rw [he]
    rfl
  | succ n ih =>
    obtain ⟨m, rfl⟩ : ∃ m, fuel = m + 1 := ⟨fuel - 1, by omega⟩
    obtain ⟨h1, h2⟩ := hs 0 (by omega)
    unfold loopW
    rw [h1]
    show (match g (E 0) with
      | .nx Γ2 => loopW f g m Γ2
      | .ct Γ2 => loopW f g m Γ2
      | .bk Γ2 => .nx Γ2
      | o => o) = _
    have q := ih (fun i => E (i + 1)) m (by omega) (fun i hi => hs (i + 1) (by omega)) he
    revert h2
    cases g (E 0) with
    | nx Γ => intro h2; cases h2; exact q
    | ct Γ => intro h2; cases h2; exact q
    | _ => intro h2; cases h2
end
/-- a loop that goes on to its end, P by the turn -/
theorem for_inv {α : Type} {h : Tg} {g : DL.Env → Out} {Γ : DL.Env} (xs : List α) (enc : α → D) (P : Nat → DL.Env → Prop) (h0 : P 0 Γ) (hs : ∀ (i : Nat) (x : α) (Γ : DL.Env), xs[i]? = some x → P i Γ → ∃ Γ', turn h g (enc x) Γ = .nx Γ' ∧ P (i + 1) Γ') : ∃ Γ', loopF h g (xs.map enc) Γ = .nx Γ' ∧ P xs.length Γ' := by
  induction xs generalizing P Γ with
  | nil => exact ⟨Γ, rfl, h0⟩
  | cons x xs ih =>
    obtain ⟨Γ1, e1, p1⟩ := hs 0 x Γ rfl h0
    obtain ⟨Γ', e2, p2⟩ := ih (Γ := Γ1) (fun i Γ => P (i + 1) Γ) p1 fun i x' Γ' hx hp => hs (i + 1) x' Γ' (by simpa using hx) hp
    refine ⟨Γ', ?_, p2⟩
    rw [List.map_cons, loopF_turn, e1]
    exact e2
theorem while_step {f : DL.Env → R Bool} {g : DL.Env → Out} {Γ Γ' : DL.Env} {n : Nat} (h1 : f Γ = .ok true) (h2 : (g Γ).ctn = .nx Γ') : loopW f g (n + 1) Γ = loopW f g n Γ' := by
  conv => lhs; unfold loopW
  rw [h1]
  show (match g Γ with
    | .nx Γ2 => loopW f g n Γ2
    | .ct Γ2 => loopW f g n Γ2
    | .bk Γ2 => .nx Γ2
    | o => o) = _
  revert h2
  cases g Γ with
  | nx Γ => intro h2; cases h2; rfl
  | ct Γ => intro h2; cases h2; rfl
  | _ => intro h2; cases h2
theorem while_end {f : DL.Env → R Bool} {g : DL.Env → Out} {Γ : DL.Env} {n : Nat} (h1 : f Γ = .ok false) : loopW f g (n + 1) Γ = .nx Γ := by
  unfold loopW
  rw [h1]
  rfl
/-! ### comprehensions -/
def lcO (r : Option DL.Env) (fe : DL.Env → R D) : R D := match r with
  | none => .stuck
  | some Γ => fe Γ
/-- one item of a comprehension -/
def lcT (h : Tg) (fe : DL.Env → R D) (d : D) (Γ : DL.Env) : R D := lcO (h d Γ) fe
section
variable {α : Type} {h : Tg} {fe : DL.Env → R D} {Γ : DL.Env} {d : D} {vs : List Nat} {fi : DL.Env → R (List D)}
theorem lcT_eq : lcT h fe d Γ = lcO (h d Γ) fe := rfl
theorem lcO_some : lcO (some Γ) fe = fe Γ := rfl
theorem lcF_yes : ∀ (ds es : List D), ds.map (fun d => lcT h fe d Γ) = es.map R.ok → lcF h bYes fe Γ ds = .ok es
  | [], es, e => by
    cases es with
    | nil => rfl
    | cons e' es => simp at e
  | d :: ds, es, e => by
    cases es with
    | nil => simp at e
    | cons e' es =>
      rw [List.map_cons, List.map_cons, List.cons.injEq] at e
      have ih := lcF_yes ds es e.2
      have e1 := e.1
      unfold lcF
      unfold lcT lcO at e1
      cases q : h d Γ with
      | none => rw [q] at e1; cases e1
      | some Γ1 =>
        rw [q] at e1
        dsimp only at e1
        simp only [bYes, e1, ih]
theorem oLc_map (xs : List α) (enc res : α → D) (hfi : fi Γ = .ok (xs.map enc)) (hl : xs.length ≤ LIM) (hs : ∀ x ∈ xs, lcT h fe (enc x) (wipeE Γ vs) = .ok (res x)) : oLc vs fi h bYes fe Γ = .ok (xs.map res) := by
  unfold oLc
  rw [hfi]
  show (match lcF h bYes fe (wipeE Γ vs) (xs.map enc) with | .ok es => if (xs.map enc).length ≤ LIM then R.ok es else .stuck | _ => .stuck) = _
  rw [lcF_yes (xs.map enc) (xs.map res) (by
    rw [List.map_map, List.map_map]
    exact List.map_congr_left fun x hx => hs x hx)]
  show (if (xs.map enc).length ≤ LIM then R.ok _ else .stuck) = _
  rw [if_pos (by rw [List.length_map]; exact hl)]
/-- by place -/
theorem oLc_at (xs : List α) (enc : α → D) (res : Nat → D) (hfi : fi Γ = .ok (xs.map enc)) (hl : xs.length ≤ LIM) (hs : ∀ (i : Nat) (x : α), xs[i]? = some x → lcT h fe (enc x) (wipeE Γ vs) = .ok (res i)) : oLc vs fi h bYes fe Γ = .ok ((List.range xs.length).map res) := by
  unfold oLc
  rw [hfi]
  show (match lcF h bYes fe (wipeE Γ vs) (xs.map enc) with | .ok es => if (xs.map enc).length ≤ LIM then R.ok es else .stuck | _ => .stuck) = _
  rw [lcF_yes (xs.map enc) ((List.range xs.length).map res) (by
    rw [List.map_map, List.map_map]
    refine List.ext_getElem (by simp) fun i h1 h2 => ?_
    have hi : i < xs.length := by simpa using h1
    simp only [List.getElem_map, Function.comp, List.getElem_range]
    exact hs i _ (List.getElem?_eq_getElem hi))]
  show (if (xs.map enc).length ≤ LIM then R.ok _ else .stuck) = _
  rw [if_pos (by rw [List.length_map]; exact hl)]
end
/-! ### the rest -/
section
variable {α : Type} {i j : Int} {p : Prop} [Decidable p]
theorem dec_t (h : p) : decide p = true := decide_eq_true h
theorem dec_f (h : ¬p) : decide p = false := decide_eq_false h
theorem dIx_mapI [Inhabited α] {xs : List α} {enc : α → D} (h0 : 0 ≤ i) (h1 : i < xs.length) : dIx (.lst (xs.map enc)) (.int i) = .ok (enc xs[i.toNat]!) := by
  refine dIx_lst ?_
  have hi : i.toNat < xs.length := by omega
  unfold atI
  rw [ixN_i h0 (by rw [List.length_map]; exact h1)]
  show (xs.map enc)[i.toNat]? = _
  rw [List.getElem?_map, List.getElem?_eq_getElem hi]
  simp [hi]
theorem dIx_mapL [Inhabited α] {xs : List α} {enc : α → D} (h : 0 < xs.length) : dIx (.lst (xs.map enc)) (.int (-1)) = .ok (enc xs[xs.length - 1]!) := by
  refine dIx_lst (atI_l ?_)
  have hi : xs.length - 1 < xs.length := by omega
  rw [List.length_map, List.getElem?_map, List.getElem?_eq_getElem hi]
  simp [hi]
theorem dDivmod_w {i j : Int} {a : Nat} (h : 0 < j) (h' : j.natAbs < 2 ^ a) (ha : a ≤ 9000) : dDivmod [.int i, .int j] = .ok (.tup [.int (i / j), .int (i % j)]) := by
  have e : decide (j.natAbs.log2 < 9000) = true := decide_eq_true (by
    have := (Nat.log2_lt (n := j.natAbs) (k := a) (by omega)).mpr h'
    omega)
  show (if (decide (0 < j) && decide (j.natAbs.log2 < 9000)) = true then R.ok (D.tup [.int (i / j), .int (i % j)]) else .stuck) = _
  rw [e, decide_eq_true h]
  rfl
theorem dDivmod_i {i j : Int} (h : 0 < j) (h' : j < 18446744073709551616) : dDivmod [.int i, .int j] = .ok (.tup [.int (i / j), .int (i % j)]) := dDivmod_w (a := 64) h (by omega) (by decide)
/-- numbers from 0 to below 2 ^ a -/
def Sm (i : Int) (a : Nat) : Prop := 0 ≤ i ∧ i < (2 : Int) ^ a
theorem pow2_le {a b : Nat} (h : a ≤ b) : (2 : Int) ^ a ≤ 2 ^ b := by
  have := Nat.pow_le_pow_right (show 0 < 2 by decide) h
  exact_mod_cast this
theorem Sm.mono {i : Int} {a b : Nat} (h : Sm i a) (l : a ≤ b) : Sm i b := ⟨h.1, Int.lt_of_lt_of_le h.2 (pow2_le l)⟩
theorem Sm.le {i j : Int} {a : Nat} (h : Sm j a) (h0 : 0 ≤ i) (l : i ≤ j) : Sm i a := ⟨h0, Int.lt_of_le_of_lt l h.2⟩
theorem Sm.mul {i j : Int} {a b : Nat} (h : Sm i a) (k : Sm j b) : Sm (i * j) (a + b) := by
  refine ⟨Int.mul_nonneg h.1 k.1, ?_⟩
  rw [Int.pow_add]
  by_cases z : i = 0
  · subst z
    rw [Int.zero_mul]
    exact Int.mul_pos (Int.pow_pos (by decide)) (Int.pow_pos (by decide))
  · have hi := h.1
    exact Int.lt_of_lt_of_le (Int.mul_lt_mul_of_pos_left k.2 (by omega)) (Int.mul_le_mul_of_nonneg_right (Int.le_of_lt h.2) (Int.le_of_lt (Int.pow_pos (by decide))))
theorem Sm.nat {i : Int} {a : Nat} (h : Sm i a) : i.natAbs < 2 ^ a := by
  have h1 := h.1
  have h2 := h.2
  have e : ((i.natAbs : Nat) : Int) = i := Int.natAbs_of_nonneg h1
  have : ((i.natAbs : Nat) : Int) < ((2 ^ a : Nat) : Int) := by rw [e]; exact_mod_cast h2
  exact_mod_cast this
theorem dMul_S {i j : Int} {a b : Nat} (h : Sm i a) (k : Sm j b) (l : a + b ≤ 900000) : dMul (.int i) (.int j) = .ok (.int (i * j)) := dMul_w h.nat k.nat l
theorem dDiv_S {i j : Int} {a : Nat} (h : 0 < j) (k : Sm j a) (l : a ≤ 9000) : dDiv (.int i) (.int j) = .ok (.int (i / j)) := dDiv_w h k.nat l
theorem dDivmod_S {i j : Int} {a : Nat} (h : 0 < j) (k : Sm j a) (l : a ≤ 9000) : dDivmod [.int i, .int j] = .ok (.tup [.int (i / j), .int (i % j)]) := dDivmod_w h k.nat l
theorem Sm.lit {i : Int} {a : Nat} (h : 0 ≤ i) (k : i < (2 : Int) ^ a) : Sm i a := ⟨h, k⟩
theorem rngL_0 {n : Nat} : rngL 0 n = (List.range n).map fun (k : Nat) => D.int (k : Nat) := by
  unfold rngL
  refine List.map_congr_left fun k _ => ?_
  rw [Int.zero_add]
theorem oAdd_l {xs ys : List D} (h : xs.length + ys.length ≤ 16777216) : oAdd (.lst xs) (.lst ys) = .ok (xs ++ ys) := if_pos h
theorem dAdd_l {xs ys : List D} (h : xs.length + ys.length ≤ 16777216) : dAdd (.lst xs) (.lst ys) = .ok (.lst (xs ++ ys)) := if_pos h
theorem dInt_i {i : Int} : dInt [.int i] = .ok (.int i) := rfl
theorem dInt_b {b : Bool} : dInt [.bl b] = .ok (.int (if b = true then 1 else 0)) := by cases b <;> rfl
theorem gTp_t {n : Nat} {hs : Tgs} {ds : List D} {Γ : DL.Env} : gTp n hs (.tup ds) Γ = if ds.length = n then hs ds Γ else none := rfl
theorem isi_ii {i : Int} : dIsi [.int i, .ty "int"] = .ok (.bl true) := rfl
theorem isi_ib {i : Int} : dIsi [.int i, .ty "bool"] = .ok (.bl false) := rfl
theorem isi_bb {b : Bool} : dIsi [.bl b, .ty "bool"] = .ok (.bl true) := rfl
theorem isi_bi {b : Bool} : dIsi [.bl b, .ty "int"] = .ok (.bl true) := rfl
theorem isi_ll {ds : List D} : dIsi [.lst ds, .ty "list"] = .ok (.bl true) := rfl
theorem isi_tt {ds : List D} : dIsi [.tup ds, .ty "tuple"] = .ok (.bl true) := rfl
theorem isi_ss {z : Str} : dIsi [.str z, .ty "str"] = .ok (.bl true) := rfl
theorem isi_lt {ds : List D} : dIsi [.lst ds, .ty "tuple"] = .ok (.bl false) := rfl
theorem isi_nt : dIsi [.non, .ty "tuple"] = .ok (.bl false) := rfl
theorem getBang [Inhabited α] {xs : List α} {i : Nat} {x : α} (h : xs[i]? = some x) : xs[i]! = x := by
  obtain ⟨hi, e⟩ := List.getElem?_eq_some_iff.mp h
  simp [hi, e]
end
end DL
set_option Elab.async false
set_option linter.all false
set_option maxRecDepth 100000
/-! Functions over trees that several laws share (printed by gen.py from the text of law_k62_parts_borne). -/
namespace LB
open PySem DL
/-- _law_cell(_law_script, _law_k); slots: 0 _law_script, 1 _law_k, 2 _law_number -/
def b_law_cell : DL.Env → Out :=
    sSeq (sIf (eB (eOp dLt (eV 1) (eCall dLen (aCons (eV 0) (aNil))))) (sRet (eOp dIx (eV 0) (eV 1))) (sNx)) <|
    sSeq (sSet (gNm 2) (eOp dAdd (eOp dMul (eV 1) (eC (.int 48271))) (eC (.int 11)))) <|
    sSeq (sIf (eB (eOp dGt (eCall dLen (aCons (eV 0) (aNil))) (eC (.int 0)))) (sSet (gNm 2) (eOp dAdd (eV 2) (eOp dMul (eOp dMod (eOp dIx (eV 0) (eOp dMod (eOp dMul (eV 1) (eC (.int 7))) (eCall dLen (aCons (eV 0) (aNil))))) (eC (.int 2147483647))) (eC (.int 69621))))) (sNx)) <|
    sRet (eOp dMod (eOp dMul (eV 2) (eV 2)) (eC (.int 2147483629)))
def m_law_cell : List D → R D := mk 3 b_law_cell
/-- _law_layout(_law_cell_here); slots: 0 _law_cell_here, 1 _law_upper, 2 _law_base, 3 _law_worth, 4 _law_lower, 5 _law_most -/
def b_law_layout : DL.Env → Out :=
    sSeq (sSet (gNm 0) (eOp dMod (eV 0) (eOp dPow (eC (.int 10)) (eC (.int 40))))) <|
    sSeq (sSet (gNm 1) (eOp dIx (eFrz (oLst (aCons (eC (.int 0)) (aCons (eC (.int 1)) (aCons (eC (.int 2)) (aCons (eOp dAdd (eC (.int 1)) (eOp dMod (eOp dDiv (eV 0) (eC (.int 4))) (eC (.int 6)))) (aNil))))))) (eOp dMod (eV 0) (eC (.int 4))))) <|
    sSeq (sIf (eB (eOp dEq (eV 1) (eC (.int 0)))) (sSeq (sSet (gNm 2) (eOp dAdd (eC (.int 2)) (eOp dMod (eOp dDiv (eV 0) (eC (.int 24))) (eC (.int 24))))) <|
    sRet (eTup (aCons (eC (.int 0)) (aCons (eC (.int 1)) (aCons (eCall dMin2 (aCons (eC (.int 24)) (aCons (eOp dAdd (eOp dSub (eV 2) (eC (.int 1))) (eOp dMod (eOp dDiv (eV 0) (eC (.int 576))) (eC (.int 4)))) (aNil)))) (aCons (eV 2) (aNil))))))) (sNx)) <|
    sSeq (sSet (gNm 3) (eOp dIx (eFrz (oLst (aCons (eC (.int 5)) (aCons (eOp dAdd (eC (.int 1)) (eOp dMod (eOp dDiv (eV 0) (eC (.int 24))) (eC (.int 20)))) (aNil))))) (eOp dMod (eOp dDiv (eV 0) (eC (.int 480))) (eC (.int 2))))) <|
    sSeq (sSet (gNm 4) (eOp dAdd (eOp dSub (eV 3) (eC (.int 1))) (eOp dMod (eOp dDiv (eV 0) (eC (.int 960))) (eC (.int 5))))) <|
    sSeq (sSet (gNm 5) (eCall dMin2 (aCons (eC (.int 25)) (aCons (eOp dAdd (eOp dAdd (eOp dMul (eV 1) (eV 3)) (eV 4)) (eC (.int 1))) (aNil))))) <|
    sRet (eTup (aCons (eV 1) (aCons (eV 3) (aCons (eV 4) (aCons (eOp dIx (eFrz (oLst (aCons (eV 5) (aCons (eOp dAdd (eC (.int 2)) (eOp dMod (eOp dDiv (eV 0) (eC (.int 4800))) (eOp dSub (eV 5) (eC (.int 1))))) (aNil))))) (eOp dMod (eOp dDiv (eV 0) (eC (.int 9600))) (eC (.int 2)))) (aNil))))))
def m_law_layout : List D → R D := mk 6 b_law_layout
/-- _law_frame(_law_script, _law_at, _law_most); slots: 0 _law_script, 1 _law_at, 2 _law_most, 3 _law_k -/
def le_law_frame1 : DL.Env → R D :=
    eFn 1 m_law_layout (aCons (eFn 2 m_law_cell (aCons (eV 0) (aCons (eOp dAdd (eOp dAdd (eV 1) (eC (.int 1))) (eV 3)) (aNil)))) (aNil))
def b_law_frame : DL.Env → Out :=
    sRetO (oLc [3] (iCall iRange1 (aCons (eOp dAdd (eC (.int 1)) (eOp dMod (eFn 2 m_law_cell (aCons (eV 0) (aCons (eV 1) (aNil)))) (eV 2))) (aNil))) (gNm 3) (bYes) (le_law_frame1))
def mo_law_frame : List D → R (List D) := mkO 4 b_law_frame
def m_law_frame : List D → R D := fun ds => (mo_law_frame ds).bind fun r => .ok (.lst r)
/-- _law_standing(_law_script, _law_at, _law_frame_here); slots: 0 _law_script, 1 _law_at, 2 _law_frame_here, 3 _law_found, 4 _law_rod, 5 _law_layout_here, 6 _law_cell_here -/
def h_law_standing1 : Tg :=
    gTp 2 (gsCons (gNm 4) (gsCons (gNm 5) (gsNil)))
def g_law_standing1 : DL.Env → Out :=
    sWp [4, 5, 6] (sSeq (sSet (gNm 6) (eOp dMod (eFn 2 m_law_cell (aCons (eV 0) (aCons (eOp dAdd (eV 1) (eV 4)) (aNil)))) (eOp dPow (eC (.int 10)) (eC (.int 40))))) <|
    sApp 3 (eTup (aCons (eOp dMod (eV 6) (eOp dAdd (eOp dIx (eV 5) (eC (.int 0))) (eC (.int 1)))) (aCons (eOp dMod (eOp dDiv (eV 6) (eC (.int 7))) (eOp dAdd (eOp dIx (eV 5) (eC (.int 2))) (eC (.int 1)))) (aNil)))))
def b_law_standing : DL.Env → Out :=
    sSeq (sSetO 3 (oLst (aNil))) <|
    sSeq (sFor (iCall iEnumD (aCons (eV 2) (aNil))) h_law_standing1 g_law_standing1) <|
    sRetS 3
def mo_law_standing : List D → R (List D) := mkO 7 b_law_standing
def m_law_standing : List D → R D := fun ds => (mo_law_standing ds).bind fun r => .ok (.lst r)
/-- _law_plain(_law_layout_here, _law_number); slots: 0 _law_layout_here, 1 _law_number, 2 _law_high -/
def b_law_plain : DL.Env → Out :=
    sSeq (sSet (gNm 2) (eCall dMin2 (aCons (eOp dIx (eV 0) (eC (.int 0))) (aCons (eOp dDiv (eV 1) (eOp dIx (eV 0) (eC (.int 1)))) (aNil))))) <|
    sRet (eTup (aCons (eV 2) (aCons (eOp dSub (eV 1) (eOp dMul (eV 2) (eOp dIx (eV 0) (eC (.int 1))))) (aNil))))
def m_law_plain : List D → R D := mk 3 b_law_plain
/-- _law_borne(_law_frame_here, _law_standing_here); slots: 0 _law_frame_here, 1 _law_standing_here, 2 _law_found, 3 _law_place, 4 _law_rod, 5 _law_layout_here, 6 _law_high, 7 _law_low -/
def h_law_borne1 : Tg :=
    gTp 2 (gsCons (gNm 4) (gsCons (gNm 5) (gsNil)))
def g_law_borne1 : DL.Env → Out :=
    sWp [4, 5, 6, 7] (sSeq (sSet (gTp 2 (gsCons (gNm 6) (gsCons (gNm 7) (gsNil)))) (eOp dIx (eV 1) (eV 4))) <|
    sSeq (sSet (gNm 2) (eOp dAdd (eV 2) (eOp dMul (eOp dAdd (eOp dMul (eV 6) (eOp dIx (eV 5) (eC (.int 1)))) (eV 7)) (eV 3)))) <|
    sSet (gNm 3) (eOp dMul (eV 3) (eOp dIx (eV 5) (eC (.int 3)))))
def b_law_borne : DL.Env → Out :=
    sSeq (sSet (gNm 2) (eC (.int 0))) <|
    sSeq (sSet (gNm 3) (eC (.int 1))) <|
    sSeq (sFor (iCall iEnumD (aCons (eV 0) (aNil))) h_law_borne1 g_law_borne1) <|
    sRet (eV 2)
def m_law_borne : List D → R D := mk 8 b_law_borne
/-- _law_digits(_law_frame_here, _law_number); slots: 0 _law_frame_here, 1 _law_number, 2 _law_found, 3 _law_layout_here -/
def h_law_digits1 : Tg :=
    gNm 3
def g_law_digits1 : DL.Env → Out :=
    sWp [3] (sSeq (sApp 2 (eOp dMod (eV 1) (eOp dIx (eV 3) (eC (.int 3))))) <|
    sSet (gNm 1) (eOp dDiv (eV 1) (eOp dIx (eV 3) (eC (.int 3)))))
def b_law_digits : DL.Env → Out :=
    sSeq (sSetO 2 (oLst (aNil))) <|
    sSeq (sFor (iOf (eSl (eV 0) (pNo) (pSo (eUn dNeg (eC (.int 1)))))) h_law_digits1 g_law_digits1) <|
    sFrz 2 (sRetO (oOp oAdd (eV 2) (eFrz (oLst (aCons (eV 1) (aNil))))))
def mo_law_digits : List D → R (List D) := mkO 4 b_law_digits
def m_law_digits : List D → R D := fun ds => (mo_law_digits ds).bind fun r => .ok (.lst r)
/-- _law_tidy(_law_frame_here, _law_number); slots: 0 _law_frame_here, 1 _law_number, 2 _law_digits_here, 3 _law_rod, 4 _law_layout_here -/
def le_law_tidy1 : DL.Env → R D :=
    eFn 2 m_law_plain (aCons (eV 4) (aCons (eOp dIx (eV 2) (eV 3)) (aNil)))
def b_law_tidy : DL.Env → Out :=
    sSeq (sSet (gNm 2) (eFn 2 m_law_digits (aCons (eV 0) (aCons (eV 1) (aNil))))) <|
    sSeq (sIf (eB (eOp dGt (eOp dIx (eV 2) (eUn dNeg (eC (.int 1)))) (eOp dAdd (eOp dMul (eOp dIx (eOp dIx (eV 0) (eUn dNeg (eC (.int 1)))) (eC (.int 0))) (eOp dIx (eOp dIx (eV 0) (eUn dNeg (eC (.int 1)))) (eC (.int 1)))) (eOp dIx (eOp dIx (eV 0) (eUn dNeg (eC (.int 1)))) (eC (.int 2)))))) (sRet (eC .non)) (sNx)) <|
    sRet (eFrz (oLc [3, 4] (iCall iEnumD (aCons (eV 0) (aNil))) (gTp 2 (gsCons (gNm 3) (gsCons (gNm 4) (gsNil)))) (bYes) (le_law_tidy1)))
def m_law_tidy : List D → R D := mk 5 b_law_tidy
/-- _law_whole(_law_found); slots: 0 _law_found -/
def b_law_whole : DL.Env → Out :=
    sRet (eAnd (eCall dIsi (aCons (eV 0) (aCons (eC (.ty "int")) (aNil)))) (eNot (eCall dIsi (aCons (eV 0) (aCons (eC (.ty "bool")) (aNil))))))
def m_law_whole : List D → R D := mk 1 b_law_whole
/-- _law_divisor(_law_one, _law_other); slots: 0 _law_one, 1 _law_other -/
def t_law_divisor1 : DL.Env → R Bool :=
    eB (eOp dNe (eV 1) (eC (.int 0)))
def g_law_divisor1 : DL.Env → Out :=
    sPar 0 1 (aCons (eV 1) (aCons (eOp dMod (eV 0) (eV 1)) (aNil)))
def b_law_divisor : DL.Env → Out :=
    sSeq (sWhile (fuelI 1) t_law_divisor1 g_law_divisor1) <|
    sRet (eV 0)
def m_law_divisor : List D → R D := mk 2 b_law_divisor
end LB
set_option Elab.async false
set_option linter.all false
set_option maxRecDepth 100000
/-! Functions over trees that several laws share (printed by gen.py from the text of law_k14_which_are_tidy). -/
namespace FA
open PySem DL
/-- count_of(layout, rod_standing); slots: 0 layout, 1 rod_standing -/
def b_count_of : DL.Env → Out :=
    sRet (eOp dAdd (eOp dMul (eOp dIx (eV 1) (eC (.int 0))) (eOp dIx (eV 0) (eC (.int 1)))) (eOp dIx (eV 1) (eC (.int 1))))
def m_count_of : List D → R D := mk 2 b_count_of
/-- plain_of(layout, number); slots: 0 layout, 1 number, 2 high -/
def b_plain_of : DL.Env → Out :=
    sSeq (sSet (gNm 2) (eCall dMin2 (aCons (eOp dIx (eV 0) (eC (.int 0))) (aCons (eOp dDiv (eV 1) (eOp dIx (eV 0) (eC (.int 1)))) (aNil))))) <|
    sRet (eTup (aCons (eV 2) (aCons (eOp dSub (eV 1) (eOp dMul (eV 2) (eOp dIx (eV 0) (eC (.int 1))))) (aNil))))
def m_plain_of : List D → R D := mk 3 b_plain_of
/-- is_tidy(frame, standing); slots: 0 frame, 1 standing, 2 rod, 3 layout, 4 count -/
def b_is_tidy : DL.Env → Out :=
    sSeq (sFor (iCall iEnumD (aCons (eV 0) (aNil))) (gTp 2 (gsCons (gNm 2) (gsCons (gNm 3) (gsNil)))) (sSeq (sSet (gNm 4) (eFn 2 m_count_of (aCons (eV 3) (aCons (eOp dIx (eV 1) (eV 2)) (aNil))))) <|
    sSeq (sIf (eB (eOp dNe (eOp dIx (eV 1) (eV 2)) (eFn 2 m_plain_of (aCons (eV 3) (aCons (eV 4) (aNil)))))) (sRet (eC (.bl false))) (sNx)) <|
    sIf (bAnd (eB (eOp dGe (eV 4) (eOp dIx (eV 3) (eC (.int 3))))) (eB (eOp dLt (eV 2) (eOp dSub (eCall dLen (aCons (eV 0) (aNil))) (eC (.int 1)))))) (sRet (eC (.bl false))) (sNx))) <|
    sRet (eC (.bl true))
def m_is_tidy : List D → R D := mk 5 b_is_tidy
end FA
set_option Elab.async false
set_option linter.all false
set_option maxRecDepth 100000
/-! Functions over trees that several laws share (printed by gen.py from the text of law_k12_digits_of_numbers). -/
namespace FB
open PySem DL
/-- digits_of(frame, number); slots: 0 frame, 1 number, 2 found, 3 layout, 4 digit -/
def b_digits_of : DL.Env → Out :=
    sSeq (sSetO 2 (oLst (aNil))) <|
    sSeq (sFor (iOf (eSl (eV 0) (pNo) (pSo (eUn dNeg (eC (.int 1)))))) (gNm 3) (sSeq (sSet (gTp 2 (gsCons (gNm 1) (gsCons (gNm 4) (gsNil)))) (eCall dDivmod (aCons (eV 1) (aCons (eOp dIx (eV 3) (eC (.int 3))) (aNil))))) <|
    sApp 2 (eV 4))) <|
    sFrz 2 (sRetO (oOp oAdd (eV 2) (eFrz (oLst (aCons (eV 1) (aNil))))))
def mo_digits_of : List D → R (List D) := mkO 5 b_digits_of
def m_digits_of : List D → R D := fun ds => (mo_digits_of ds).bind fun r => .ok (.lst r)
end FB
set_option Elab.async false
set_option linter.all false
set_option maxRecDepth 100000
/-! Functions over trees that several laws share (printed by gen.py from the text of law_k13_tidy_standings). -/
namespace FD
open PySem DL
/-- full_worth(layout); slots: 0 layout, 1 upper, 2 worth, 3 lower, 4 base -/
def b_full_worth : DL.Env → Out :=
    sSeq (sSet (gTp 4 (gsCons (gNm 1) (gsCons (gNm 2) (gsCons (gNm 3) (gsCons (gNm 4) (gsNil)))))) (eV 0)) <|
    sRet (eOp dAdd (eOp dMul (eV 1) (eV 2)) (eV 3))
def m_full_worth : List D → R D := mk 5 b_full_worth
/-- tidy_of(frame, number); slots: 0 frame, 1 number, 2 digits, 3 layout, 4 digit -/
def le_tidy_of1 : DL.Env → R D :=
    eFn 2 FA.m_plain_of (aCons (eV 3) (aCons (eV 4) (aNil)))
def b_tidy_of : DL.Env → Out :=
    sSeq (sSet (gNm 2) (eFn 2 FB.m_digits_of (aCons (eV 0) (aCons (eV 1) (aNil))))) <|
    sSeq (sIf (eB (eOp dGt (eOp dIx (eV 2) (eUn dNeg (eC (.int 1)))) (eFn 1 m_full_worth (aCons (eOp dIx (eV 0) (eUn dNeg (eC (.int 1)))) (aNil))))) (sRaise "TooGreat" ["rod"] (aCons (eOp dSub (eCall dLen (aCons (eV 0) (aNil))) (eC (.int 1))) (aNil))) (sNx)) <|
    sRetO (oLc [3, 4] (iCall iZipD (aCons (eV 0) (aCons (eV 2) (aNil)))) (gTp 2 (gsCons (gNm 3) (gsCons (gNm 4) (gsNil)))) (bYes) (le_tidy_of1))
def mo_tidy_of : List D → R (List D) := mkO 5 b_tidy_of
def m_tidy_of : List D → R D := fun ds => (mo_tidy_of ds).bind fun r => .ok (.lst r)
end FD
set_option Elab.async false
set_option linter.all false
set_option maxRecDepth 100000
/-! Functions over trees that several laws share (printed by gen.py from the text of law_k04_whole_a_rod_counted_up). -/
namespace FL
open PySem DL
/-- is_whole(thing); slots: 0 thing -/
abbrev b_is_whole : DL.Env → Out := LB.b_law_whole
abbrev m_is_whole : List D → R D := LB.m_law_whole
/-- small_number(word); slots: 0 word, 1 sign -/
def h_small_number1 : Tg :=
    gNm 1
def g_small_number1 : DL.Env → Out :=
    sWp [1] (sIf (eB (eOp dNotInS (eV 1) (eC (.str "0123456789")))) (sRet (eC .non)) (sNx))
def b_small_number : DL.Env → Out :=
    sSeq (sIf (bOr (bNot (eB (eChain dLe dLe (eC (.int 1)) (eCall dLen (aCons (eV 0) (aNil))) (eC (.int 2))))) (bAnd (eB (eOp dGt (eCall dLen (aCons (eV 0) (aNil))) (eC (.int 1)))) (eB (eOp dEq (eOp dIx (eV 0) (eC (.int 0))) (eC (.str "0")))))) (sRet (eC .non)) (sNx)) <|
    sSeq (sFor (iOfS (eV 0)) h_small_number1 g_small_number1) <|
    sRet (eCall dIntA (aCons (eV 0) (aNil)))
def m_small_number : List D → R D := mk 2 b_small_number
/-- shown_layout(layout); slots: 0 layout, 1 upper, 2 worth, 3 lower, 4 base -/
def b_shown_layout : DL.Env → Out :=
    sSeq (sSet (gTp 4 (gsCons (gNm 1) (gsCons (gNm 2) (gsCons (gNm 3) (gsCons (gNm 4) (gsNil)))))) (eV 0)) <|
    sRet (eJs [eUn dFmt (eV 1), eC (.str "x"), eUn dFmt (eV 2), eC (.str "+"), eUn dFmt (eV 3), eC (.str ":"), eUn dFmt (eV 4)])
def m_shown_layout : List D → R D := mk 5 b_shown_layout
/-- is_layout(thing); slots: 0 thing, 1 number, 2 upper, 3 worth, 4 lower, 5 base -/
def h_is_layout1 : Tg :=
    gNm 1
def g_is_layout1 : DL.Env → Out :=
    sWp [1] (sIf (bNot (eTru (eFn 1 m_is_whole (aCons (eV 1) (aNil))))) (sRet (eC (.bl false))) (sNx))
def b_is_layout : DL.Env → Out :=
    sSeq (sIf (bOr (bNot (eTru (eCall dIsi (aCons (eV 0) (aCons (eC (.ty "tuple")) (aNil)))))) (eB (eOp dNe (eCall dLen (aCons (eV 0) (aNil))) (eC (.int 4))))) (sRet (eC (.bl false))) (sNx)) <|
    sSeq (sFor (iOfT (eV 0)) h_is_layout1 g_is_layout1) <|
    sSeq (sSet (gTp 4 (gsCons (gNm 2) (gsCons (gNm 3) (gsCons (gNm 4) (gsCons (gNm 5) (gsNil)))))) (eV 0)) <|
    sSeq (sIf (bOr (bNot (eB (eChain dLe dLe (eC (.int 0)) (eV 2) (eC (.int 6))))) (bNot (eB (eChain dLe dLe (eC (.int 1)) (eV 3) (eC (.int 20)))))) (sRet (eC (.bl false))) (sNx)) <|
    sSeq (sIf (bOr (bNot (eB (eChain dLe dLe (eC (.int 0)) (eV 4) (eC (.int 24))))) (bNot (eB (eChain dLe dLe (eC (.int 2)) (eV 5) (eC (.int 25)))))) (sRet (eC (.bl false))) (sNx)) <|
    sSeq (sIf (bOr (bAnd (eB (eOp dEq (eV 2) (eC (.int 0)))) (eB (eOp dNe (eV 3) (eC (.int 1))))) (bAnd (eB (eOp dGt (eV 2) (eC (.int 0)))) (eB (eOp dLt (eV 4) (eOp dSub (eV 3) (eC (.int 1))))))) (sRet (eC (.bl false))) (sNx)) <|
    sRet (eOp dGe (eFn 1 FD.m_full_worth (aCons (eV 0) (aNil))) (eOp dSub (eV 5) (eC (.int 1))))
def m_is_layout : List D → R D := mk 6 b_is_layout
/-- read_layout(text); slots: 0 text, 1 upper, 2 cross, 3 rest, 4 worth, 5 plus, 6 lower, 7 colon, 8 base, 9 layout, 10 word -/
def le_read_layout1 : DL.Env → R D :=
    eFn 1 m_small_number (aCons (eV 10) (aNil))
def b_read_layout : DL.Env → Out :=
    sSeq (sIf (bNot (eTru (eCall dIsi (aCons (eV 0) (aCons (eC (.ty "str")) (aNil)))))) (sRaise0 "NoLayout") (sNx)) <|
    sSeq (sSet (gTp 3 (gsCons (gNm 1) (gsCons (gNm 2) (gsCons (gNm 3) (gsNil))))) (eM1 dPart (eV 0) (eC (.str "x")))) <|
    sSeq (sSet (gTp 3 (gsCons (gNm 4) (gsCons (gNm 5) (gsCons (gNm 3) (gsNil))))) (eM1 dPart (eV 3) (eC (.str "+")))) <|
    sSeq (sSet (gTp 3 (gsCons (gNm 6) (gsCons (gNm 7) (gsCons (gNm 8) (gsNil))))) (eM1 dPart (eV 3) (eC (.str ":")))) <|
    sSeq (sSet (gNm 9) (eCall dTupleOf (aCons (eFrz (oLc [10] (iOf (eFrz (oLst (aCons (eV 1) (aCons (eV 4) (aCons (eV 6) (aCons (eV 8) (aNil)))))))) (gNm 10) (bYes) (le_read_layout1))) (aNil)))) <|
    sSeq (sIf (bNot (eTru (eFn 1 m_is_layout (aCons (eV 9) (aNil))))) (sRaise0 "NoLayout") (sNx)) <|
    sRet (eV 9)
def m_read_layout : List D → R D := mk 11 b_read_layout
end FL
set_option Elab.async false
set_option linter.all false
set_option maxRecDepth 100000
/-! Functions over trees that several laws share (printed by gen.py from the text of law_k14_which_are_tidy). -/
namespace LA
open PySem DL
/-- _law_mixed(_law_script, _law_k); slots: 0 _law_script, 1 _law_k -/
def b_law_mixed : DL.Env → Out :=
    sSeq (sIf (eB (eOp dEq (eV 0) (eFrz (oLst (aNil))))) (sRet (eOp dMul (eV 1) (eC (.int 7919)))) (sNx)) <|
    sRet (eOp dMod (eOp dMul (eOp dAdd (eOp dAdd (eOp dIx (eV 0) (eOp dMod (eV 1) (eCall dLen (aCons (eV 0) (aNil))))) (eC (.int 1))) (eV 1)) (eOp dAdd (eC (.int 48271)) (eOp dMul (eC (.int 7919)) (eV 1)))) (eC (.int 2147483647)))
def m_law_mixed : List D → R D := mk 2 b_law_mixed
/-- _law_layout(_law_cell); slots: 0 _law_cell, 1 _law_base, 2 _law_upper, 3 _law_worth, 4 _law_lower, 5 _law_most -/
def b_law_layout : DL.Env → Out :=
    sSeq (sIf (eB (eOp dEq (eOp dMod (eV 0) (eC (.int 3))) (eC (.int 0)))) (sSeq (sSet (gNm 1) (eOp dAdd (eC (.int 2)) (eOp dMod (eOp dDiv (eV 0) (eC (.int 3))) (eC (.int 24))))) <|
    sRet (eTup (aCons (eC (.int 0)) (aCons (eC (.int 1)) (aCons (eCall dMin2 (aCons (eC (.int 24)) (aCons (eOp dAdd (eOp dSub (eV 1) (eC (.int 1))) (eOp dMod (eOp dDiv (eV 0) (eC (.int 72))) (eC (.int 4)))) (aNil)))) (aCons (eV 1) (aNil))))))) (sNx)) <|
    sSeq (sSet (gNm 2) (eOp dAdd (eC (.int 1)) (eOp dMod (eOp dDiv (eV 0) (eC (.int 3))) (eC (.int 6))))) <|
    sSeq (sSet (gNm 3) (eOp dIx (eFrz (oLst (aCons (eC (.int 5)) (aCons (eOp dAdd (eC (.int 1)) (eOp dMod (eOp dDiv (eV 0) (eC (.int 18))) (eC (.int 20)))) (aNil))))) (eOp dMod (eOp dDiv (eV 0) (eC (.int 360))) (eC (.int 2))))) <|
    sSeq (sSet (gNm 4) (eOp dAdd (eOp dSub (eV 3) (eC (.int 1))) (eOp dMod (eOp dDiv (eV 0) (eC (.int 720))) (eC (.int 6))))) <|
    sSeq (sSet (gNm 5) (eCall dMin2 (aCons (eC (.int 25)) (aCons (eOp dAdd (eOp dAdd (eOp dMul (eV 2) (eV 3)) (eV 4)) (eC (.int 1))) (aNil))))) <|
    sRet (eTup (aCons (eV 2) (aCons (eV 3) (aCons (eV 4) (aCons (eOp dAdd (eC (.int 2)) (eOp dMod (eOp dDiv (eV 0) (eC (.int 4320))) (eOp dSub (eV 5) (eC (.int 1))))) (aNil))))))
def m_law_layout : List D → R D := mk 6 b_law_layout
/-- _law_frame(_law_script, _law_most); slots: 0 _law_script, 1 _law_most, 2 _law_k -/
def b_law_frame : DL.Env → Out :=
    sRetO (oLc [2] (iCall iRange1 (aCons (eOp dAdd (eC (.int 1)) (eOp dMod (eFn 2 m_law_mixed (aCons (eV 0) (aCons (eC (.int 9)) (aNil)))) (eV 1))) (aNil))) (gNm 2) (bYes) (eFn 1 m_law_layout (aCons (eFn 2 m_law_mixed (aCons (eV 0) (aCons (eOp dAdd (eC (.int 10)) (eV 2)) (aNil)))) (aNil))))
def mo_law_frame : List D → R (List D) := mkO 3 b_law_frame
def m_law_frame : List D → R D := fun ds => (mo_law_frame ds).bind fun r => .ok (.lst r)
/-- _law_standing(_law_script, _law_at, _law_frame_here); slots: 0 _law_script, 1 _law_at, 2 _law_frame_here, 3 _law_found, 4 _law_rod, 5 _law_layout_here, 6 _law_cell -/
def b_law_standing : DL.Env → Out :=
    sSeq (sSetO 3 (oLst (aNil))) <|
    sSeq (sFor (iCall iEnumD (aCons (eV 2) (aNil))) (gTp 2 (gsCons (gNm 4) (gsCons (gNm 5) (gsNil)))) (sSeq (sSet (gNm 6) (eFn 2 m_law_mixed (aCons (eV 0) (aCons (eOp dAdd (eV 1) (eV 4)) (aNil))))) <|
    sApp 3 (eTup (aCons (eOp dMod (eV 6) (eOp dAdd (eOp dIx (eV 5) (eC (.int 0))) (eC (.int 1)))) (aCons (eOp dMod (eOp dDiv (eV 6) (eC (.int 7))) (eOp dAdd (eOp dIx (eV 5) (eC (.int 2))) (eC (.int 1)))) (aNil)))))) <|
    sRetS 3
def mo_law_standing : List D → R (List D) := mkO 7 b_law_standing
def m_law_standing : List D → R D := fun ds => (mo_law_standing ds).bind fun r => .ok (.lst r)
end LA
set_option maxRecDepth 100000
local macro_rules
  | `(tactic| simp_arith [$ls,*] $[$l:location]?) => `(tactic| simp -implicitDefEqProofs (disch := omega) only [
      DL.sSeq, DL.sIf, DL.sRet, DL.sRetN, DL.sRetS, DL.sRetO, DL.sDrop, DL.sNx, DL.sBk, DL.sCt, DL.sFrz, DL.sSet, DL.sSetO, DL.sSetD, DL.sApp, DL.sSetIx,
      DL.sFor, DL.sWhile, DL.sClear, DL.sSetD, DL.sPut, DL.bHas, DL.eOwnGet, DL.dNew, DL.dKey_i, DL.dKey_s, DL.dInD_i, DL.dNotInD_i, DL.gNm, DL.gsNil,
      DL.gsCons, DL.eV, DL.eC, DL.eOp, DL.eUn, DL.eChain, DL.eAnd, DL.eOr, DL.eNot, DL.eIf, DL.eB, DL.eTru, DL.bNot, DL.bAnd, DL.bOr, DL.aNil, DL.aCons,
      DL.eCall, DL.eTup, DL.oLst, DL.eFrz, DL.oOp, DL.oCall, DL.eFn, DL.oFn, DL.eBor_eq, DL.bBor_eq, DL.boR_ok, DL.eoR_bl, DL.eoR_i, DL.eoR_n, DL.eoR_s,
      DL.eOwnIx, DL.iZip_l, DL.oZip_l, DL.iRev_l, DL.iOf, DL.iOfT, DL.iOfS, DL.iCall, DL.pNo, DL.pSo, DL.eSl, DL.oSl, DL.oRev, DL.asI, DL.at_0, DL.at_s,
      DL.bind_ok, DL.bind_exc, DL.out_ok, DL.out_exc, DL.then_nx, DL.then_rt, DL.then_ro, DL.then_bk, DL.then_ct, DL.then_exc, DL.fin_nx, DL.fin_rt,
      DL.fin_ro, DL.fin_exc, DL.finO_ro, DL.finO_exc, DL.dMod_i, DL.dDiv_i, DL.dMul_r, DL.dMul_l, DL.dAdd_i, DL.dSub_i, DL.dNeg_i, DL.dLt_i, DL.dLe_i,
      DL.dGt_i, DL.dGe_i, DL.dEq_i, DL.dNe_i, DL.dEq_s, DL.dNe_s, DL.asB_bl, DL.dTru_bl, DL.dIs_n, DL.dIsNot_n, DL.dMin_i, DL.dMax_i, DL.dAbs_i, DL.dLen_l,
      DL.dLen_t, DL.dLen_s, DL.dIx_t0, DL.dIx_t1, DL.dIx_t2, DL.dIx_t3, DL.dIx_l0, DL.dIx_l1, DL.dIx_l2, DL.dIx_l3, DL.dIx_last, DL.sl1_l, DL.oSl1_l,
      DL.cutL_init, List.set_cons_zero, List.set_cons_succ, List.length_cons, List.length_nil, DL.D.isNon, DL.D.scal, DL.Slot.frz, DL.Env.frz, DL.mk,
      DL.mkO, DL.stE, List.map, List.replicate, List.cons_append, List.nil_append, Nat.reduceSub, Nat.reduceAdd, Nat.zero_add, Nat.sub_self,
      Nat.reduceLeDiff, Nat.reduceEqDiff, Nat.reduceLT, decide_true, decide_false, Bool.not_true, Bool.not_false, Option.bind_some, DL.D.items,
      DL.D.itemsT, if_true, if_false, Int.reduceLT, Int.reduceNeg, Int.reduceEq, Int.reduceLE, Int.reduceGT, Int.reduceAdd, Int.reduceSub,
      Int.reduceMul, ite_true, ite_false, reduceIte, DL.LIM, List.length_map, Bool.false_eq_true, eq_self, DL.dInt_i, DL.dInt_b, DL.eNew0, DL.eNew2,
      DL.eMeth, DL.sExtO, DL.sExtV, DL.iRevRng, DL.iRevRng1, DL.Out.gone, DL.Out.noX, DL.sTryK, DL.sTryS, DL.sTryO, DL.sPar, DL.sPar3, DL.fuelI, if_pos,
      if_neg, DL.gTp_t, DL.lcT_eq, DL.lcO_some, DL.turn_eq, DL.tOut_some, DL.ctn_nx, DL.ctn_ct, DL.ctn_bk, DL.ctn_rt, DL.ctn_ro, DL.ctn_exc, DL.wp_nx,
      DL.wp_bk, DL.wp_ct, DL.wp_rt, DL.wp_ro, DL.wp_exc, DL.wipeE_n, DL.wipeE_c, DL.dec_t, DL.dec_f, DL.dIx_mapI, DL.dIx_mapL, DL.dIx_scr, DL.sFgt, DL.sWp,
      DL.sRaise, DL.sRaise0, DL.sPop, DL.oList, DL.isi_ii, DL.isi_ib, DL.isi_bb, DL.isi_bi, DL.isi_ll, DL.isi_tt, DL.isi_ss, DL.isi_lt, DL.isi_nt, DL.oRev,
      List.reverse_cons, List.reverse_nil, List.nil_append, List.append_nil, Int.natCast_zero, Int.zero_add, Int.add_zero, Int.zero_mul, Int.one_mul,
      Int.mul_one, DL.zipL_map, DL.enumL_map, DL.iEnum_l, Function.comp, DL.oRng,
      $ls,*] $[$l]?)
local macro_rules
  | `(tactic| simp_arith! [$ls,*] $[$l:location]?) => `(tactic| simp -implicitDefEqProofs only [
      DL.sSeq, DL.sIf, DL.sRet, DL.sRetN, DL.sRetS, DL.sRetO, DL.sDrop, DL.sNx, DL.sBk, DL.sCt, DL.sFrz, DL.sSet, DL.sSetO, DL.sSetD, DL.sApp, DL.sSetIx,
      DL.sFor, DL.sWhile, DL.sClear, DL.sSetD, DL.sPut, DL.bHas, DL.eOwnGet, DL.dNew, DL.dKey_i, DL.dKey_s, DL.dInD_i, DL.dNotInD_i, DL.gNm, DL.gsNil,
      DL.gsCons, DL.gTp, DL.eV, DL.eC, DL.eOp, DL.eUn, DL.eChain, DL.eAnd, DL.eOr, DL.eNot, DL.eIf, DL.eB, DL.eTru, DL.bNot, DL.bAnd, DL.bOr, DL.aNil,
      DL.aCons, DL.eCall, DL.eTup, DL.oLst, DL.eFrz, DL.oOp, DL.oCall, DL.eFn, DL.oFn, DL.eBor_eq, DL.bBor_eq, DL.boR_ok, DL.eoR_bl, DL.eoR_i, DL.eoR_n,
      DL.eoR_s, DL.eOwnIx, DL.iZip_l, DL.oZip_l, DL.iRev_l, DL.iOf, DL.iOfT, DL.iOfS, DL.iCall, DL.pNo, DL.pSo, DL.eSl, DL.oSl, DL.oRev, DL.asI, DL.at_0,
      DL.at_s, DL.bind_ok, DL.bind_exc, DL.out_ok, DL.out_exc, DL.then_nx, DL.then_rt, DL.then_ro, DL.then_bk, DL.then_ct, DL.then_exc, DL.fin_nx,
      DL.fin_rt, DL.fin_ro, DL.fin_exc, DL.finO_ro, DL.finO_exc, DL.dMod_i, DL.dDiv_i, DL.dMul_r, DL.dMul_l, DL.dAdd_i, DL.dSub_i, DL.dNeg_i, DL.dLt_i,
      DL.dLe_i, DL.dGt_i, DL.dGe_i, DL.dEq_i, DL.dNe_i, DL.dEq_s, DL.dNe_s, DL.asB_bl, DL.dTru_bl, DL.dIs_n, DL.dIsNot_n, DL.dMin_i, DL.dMax_i, DL.dAbs_i,
      DL.dLen_l, DL.dLen_t, DL.dLen_s, DL.dIx_t0, DL.dIx_t1, DL.dIx_t2, DL.dIx_t3, DL.dIx_l0, DL.dIx_l1, DL.dIx_l2, DL.dIx_l3, DL.dIx_last, DL.sl1_l,
      DL.oSl1_l, DL.cutL_init, List.set_cons_zero, List.set_cons_succ, List.length_cons, List.length_nil, DL.D.isNon, DL.D.scal, DL.Slot.frz, DL.Env.frz,
      DL.mk, DL.mkO, DL.stE, List.map, List.replicate, List.cons_append, List.nil_append, Nat.reduceSub, Nat.reduceAdd, Nat.zero_add, Nat.sub_self,
      Nat.reduceLeDiff, Nat.reduceEqDiff, Nat.reduceLT, decide_true, decide_false, Bool.not_true, Bool.not_false, Option.bind_some, DL.D.items,
      DL.D.itemsT, if_true, if_false, Int.reduceLT, Int.reduceNeg, Int.reduceEq, Int.reduceLE, Int.reduceGT, Int.reduceAdd, Int.reduceSub,
      Int.reduceMul, ite_true, ite_false, reduceIte, DL.LIM, List.length_map, Bool.false_eq_true, eq_self,
      $ls,*] $[$l]?)
set_option Elab.async false
set_option linter.all false
set_option maxRecDepth 100000
set_option maxHeartbeats 1000000
/-! The laws' drawn layouts, frames, standings (the first family), by plain functions. -/
namespace LA
open PySem DL L2

structure Lay where
  u : Int
  w : Int
  l : Int
  b : Int
  deriving DecidableEq
def Lay.d (x : Lay) : D := .tup [.int x.u, .int x.w, .int x.l, .int x.b]
def pairD (p : Int × Int) : D := .tup [.int p.1, .int p.2]
structure Lay.Ok (x : Lay) : Prop where
  u0 : 0 ≤ x.u
  u6 : x.u ≤ 6
  w1 : 1 ≤ x.w
  w20 : x.w ≤ 20
  l0 : 0 ≤ x.l
  l24 : x.l ≤ 24
  b2 : 2 ≤ x.b
  b25 : x.b ≤ 25
  uw : x.u = 0 → x.w = 1
  ul : 0 < x.u → x.w - 1 ≤ x.l
  full : x.b - 1 ≤ x.u * x.w + x.l

/-- _law_mixed -/
def mix (ns : List Int) (k : Int) : Int := if ns = [] then k * 7919 else (ns.getD (k % (ns.length : Nat)).toNat 0 + 1 + k) * (48271 + 7919 * k) % 2147483647
theorem mix_nonneg (ns : List Int) {k : Int} (h : 0 ≤ k) : 0 ≤ mix ns k := by
  unfold mix
  split
  · omega
  · exact Int.emod_nonneg _ (by decide)
theorem mix_lt (ns : List Int) {k : Int} (h : k < 200000) : mix ns k < 2147483647 := by
  unfold mix
  split
  · omega
  · exact Int.emod_lt_of_pos _ (by decide)
theorem mixed (ns : List Int) {k : Int} (h0 : 0 ≤ k) (h1 : k < 1000000) : m_law_mixed [.scr ns, .int k] = .ok (.int (mix ns k)) := by
  cases ns with
  | nil => rfl
  | cons a t =>
    have hl : (0 : Int) < ((a :: t).length : Nat) := by simp
    have e1 := dMod_i (i := k) hl
    have e2 := dIx_scr (ns := a :: t) (i := k % ((a :: t).length : Nat)) (Int.emod_nonneg _ (by omega)) (Int.emod_lt_of_pos _ hl)
    have e3 := dMul_r (i := (a :: t).getD (k % ((a :: t).length : Nat)).toNat 0 + 1 + k) (j := 48271 + 7919 * k) (by omega) (by omega)
    have e4 := dMul_r (i := 7919) (j := k) (by omega) (by omega)
    have e5 := fun i : Int => dMod_i (i := i) (j := 2147483647) (by decide)
    have e0 : dLen [.scr (a :: t)] = .ok (.int ((a :: t).length : Nat)) := rfl
    have e6 : dEq (.scr (a :: t)) (.lst []) = .ok (.bl false) := rfl
    unfold mix
    rw [if_neg (List.cons_ne_nil a t)]
    generalize hL : (a :: t).length = L at *
    unfold m_law_mixed b_law_mixed
    simp_arith! [e6, e0, e1, e2, e3, e4, e5]
/-- _law_layout -/
def lay (c : Int) : Lay :=
  if c % 3 = 0 then
    let b := 2 + c / 3 % 24
    ⟨0, 1, if b - 1 + c / 72 % 4 < 24 then b - 1 + c / 72 % 4 else 24, b⟩
  else
    let u := 1 + c / 3 % 6
    let w := if c / 360 % 2 = 0 then 5 else 1 + c / 18 % 20
    let l := w - 1 + c / 720 % 6
    let m := if u * w + l + 1 < 25 then u * w + l + 1 else 25
    ⟨u, w, l, 2 + c / 4320 % (m - 1)⟩
theorem layout {c : Int} (h : 0 ≤ c) : m_law_layout [.int c] = .ok (lay c).d := by
  unfold m_law_layout b_law_layout lay Lay.d
  by_cases hc : c % 3 = 0
  · simp_arith! [hc]
  · have hu : 0 ≤ c / 3 % 6 ∧ c / 3 % 6 < 6 := ⟨Int.emod_nonneg _ (by decide), Int.emod_lt_of_pos _ (by decide)⟩
    have hw : 0 ≤ c / 18 % 20 ∧ c / 18 % 20 < 20 := ⟨Int.emod_nonneg _ (by decide), Int.emod_lt_of_pos _ (by decide)⟩
    have h2 : 0 ≤ c / 360 % 2 ∧ c / 360 % 2 < 2 := ⟨Int.emod_nonneg _ (by decide), Int.emod_lt_of_pos _ (by decide)⟩
    have h6 : 0 ≤ c / 720 % 6 ∧ c / 720 % 6 < 6 := ⟨Int.emod_nonneg _ (by decide), Int.emod_lt_of_pos _ (by decide)⟩
    have ix := fun a b : D => dIx_two (a := a) (b := b) h2.1 h2.2
    generalize hx : c / 3 % 6 = x at *
    generalize hy : c / 18 % 20 = y at *
    generalize hz : c / 720 % 6 = z at *
    generalize hq : c / 360 % 2 = q at *
    have k1 : ∀ w : Int, 1 ≤ w → w ≤ 20 → dMul (.int (1 + x)) (.int w) = .ok (.int ((1 + x) * w)) := fun w _ _ => dMul_r (by omega) (by omega)
    have key : ∀ w : Int, 1 ≤ w → w ≤ 20 → 0 < (if (1 + x) * w + (w - 1 + z) + 1 < 25 then (1 + x) * w + (w - 1 + z) + 1 else 25) - 1 := fun w a b => by
      have : 1 * w ≤ (1 + x) * w := Int.mul_le_mul_of_nonneg_right (by omega) (by omega)
      split <;> omega
    by_cases e : q = 0
    · have k2 := fun i => dMod_i (i := i) (j := (if (1 + x) * 5 + (4 + z) + 1 < 25 then (1 + x) * 5 + (4 + z) + 1 else 25) - 1) (key 5 (by decide) (by decide))
      simp_arith! [hc, hx, hy, hz, hq, ix, e, k1 5 (by decide) (by decide), k2]
    · have k2 := fun i => dMod_i (i := i) (key (1 + y) (by omega) (by omega))
      simp_arith! [hc, hx, hy, hz, hq, ix, e, k1 (1 + y) (by omega) (by omega), k2]
theorem lay_ok {c : Int} (h : 0 ≤ c) : (lay c).Ok := by
  unfold lay
  by_cases hc : c % 3 = 0
  · rw [if_pos hc]
    dsimp only
    refine ⟨?_, ?_, ?_, ?_, ?_, ?_, ?_, ?_, ?_, ?_, ?_⟩ <;> dsimp only <;> first | omega | (split <;> omega)
  · rw [if_neg hc]
    have hu : 0 ≤ c / 3 % 6 ∧ c / 3 % 6 < 6 := ⟨Int.emod_nonneg _ (by decide), Int.emod_lt_of_pos _ (by decide)⟩
    have hw : 0 ≤ c / 18 % 20 ∧ c / 18 % 20 < 20 := ⟨Int.emod_nonneg _ (by decide), Int.emod_lt_of_pos _ (by decide)⟩
    have h6 : 0 ≤ c / 720 % 6 ∧ c / 720 % 6 < 6 := ⟨Int.emod_nonneg _ (by decide), Int.emod_lt_of_pos _ (by decide)⟩
    have hd : 0 ≤ c / 4320 := by omega
    generalize c / 3 % 6 = x at *
    generalize c / 720 % 6 = z at *
    generalize c / 4320 = t at *
    have hw' : 1 ≤ (if c / 360 % 2 = 0 then (5 : Int) else 1 + c / 18 % 20) ∧ (if c / 360 % 2 = 0 then (5 : Int) else 1 + c / 18 % 20) ≤ 20 := by split <;> omega
    generalize (if c / 360 % 2 = 0 then (5 : Int) else 1 + c / 18 % 20) = v at *
    dsimp only
    have p1 : 1 * v ≤ (1 + x) * v := Int.mul_le_mul_of_nonneg_right (by omega) (by omega)
    generalize hpr : (1 + x) * v = pr at *
    have hm : 1 < (if pr + (v - 1 + z) + 1 < 25 then pr + (v - 1 + z) + 1 else 25) ∧ (if pr + (v - 1 + z) + 1 < 25 then pr + (v - 1 + z) + 1 else 25) ≤ 25 ∧ (if pr + (v - 1 + z) + 1 < 25 then pr + (v - 1 + z) + 1 else 25) ≤ pr + (v - 1 + z) + 1 := by split <;> omega
    generalize (if pr + (v - 1 + z) + 1 < 25 then pr + (v - 1 + z) + 1 else 25) = m at *
    have e1 := Int.emod_nonneg t (show m - 1 ≠ 0 by omega)
    have e2 := Int.emod_lt_of_pos t (show 0 < m - 1 by omega)
    generalize t % (m - 1) = r at *
    refine ⟨?_, ?_, ?_, ?_, ?_, ?_, ?_, ?_, ?_, ?_, ?_⟩ <;> dsimp only <;> omega
/-- _law_frame -/
def fr (ns : List Int) (most : Int) : List Lay := (List.range (1 + mix ns 9 % most).toNat).map fun (k : Nat) => lay (mix ns (10 + k))
theorem frame (ns : List Int) {most : Int} (h0 : 0 < most) (h1 : most ≤ 1000) : mo_law_frame [.scr ns, .int most] = .ok ((fr ns most).map Lay.d) := by
  have hm := mixed ns (k := 9) (by decide) (by decide)
  have e1 := Int.emod_nonneg (mix ns 9) (show most ≠ 0 by omega)
  have e2 := Int.emod_lt_of_pos (mix ns 9) h0
  have hr := iRng1 (j := 1 + mix ns 9 % most) (by omega) (by omega)
  have el : oLc [2] (iCall iRange1 (aCons (eOp dAdd (eC (.int 1)) (eOp dMod (eFn 2 m_law_mixed (aCons (eV 0) (aCons (eC (.int 9)) (aNil)))) (eV 1))) (aNil))) (gNm 2) (bYes) (eFn 1 m_law_layout (aCons (eFn 2 m_law_mixed (aCons (eV 0) (aCons (eOp dAdd (eC (.int 10)) (eV 2)) (aNil)))) (aNil)))
      [some (.val (.scr ns)), some (.val (.int most)), none] = .ok ((fr ns most).map Lay.d) := by
    refine oLc_ok (ds := rngL 0 (1 + mix ns 9 % most).toNat) ?_ ?_ ?_
    · simp_arith! [hm, h0, hr]
    · unfold fr
      rw [List.map_map]
      refine lcF_rng 0 _ _ fun i hi => ⟨_, rfl, rfl, ?_⟩
      have hi' : (i : Int) < 1000000 - 10 := by omega
      have h2 := mixed ns (k := 10 + i) (by omega) (by omega)
      have h3 := layout (mix_nonneg ns (k := 10 + i) (by omega))
      simp_arith! [wipeE, h2, h3, Int.zero_add, Function.comp]
    · rw [rngL_len]
      show _ ≤ 16777216
      omega
  unfold mo_law_frame b_law_frame
  simp_arith! [el]
theorem fr_len (ns : List Int) {most : Int} (h0 : 0 < most) : 1 ≤ (fr ns most).length ∧ ((fr ns most).length : Int) ≤ most := by
  have e1 := Int.emod_nonneg (mix ns 9) (show most ≠ 0 by omega)
  have e2 := Int.emod_lt_of_pos (mix ns 9) h0
  unfold fr
  rw [List.length_map, List.length_range]
  omega
theorem fr_ok (ns : List Int) (most : Int) : ∀ x ∈ fr ns most, x.Ok := by
  intro x hx
  unfold fr at hx
  obtain ⟨k, _, rfl⟩ := List.mem_map.mp hx
  exact lay_ok (mix_nonneg ns (by omega))
/-- _law_standing -/
def st1 (c : Int) (x : Lay) : Int × Int := (c % (x.u + 1), c / 7 % (x.l + 1))
def st (ns : List Int) (at_ : Int) (f : List Lay) : List (Int × Int) := f.zipIdx.map fun q => st1 (mix ns (at_ + (q.2 : Nat))) q.1
theorem st_len (ns : List Int) (at_ : Int) (f : List Lay) : (st ns at_ f).length = f.length := by
  unfold st
  rw [List.length_map, List.length_zipIdx]
theorem st_get (ns : List Int) (at_ : Int) (f : List Lay) {i : Nat} {x : Lay} (h : f[i]? = some x) : (st ns at_ f)[i]? = some (st1 (mix ns (at_ + (i : Nat))) x) := by
  unfold st
  rw [List.getElem?_map, List.getElem?_zipIdx, h]
  simp
theorem take_succ_get {α : Type} {l : List α} {i : Nat} {x : α} (h : l[i]? = some x) : l.take (i + 1) = l.take i ++ [x] := by
  rw [List.take_add_one, h]
  rfl
theorem standing (ns : List Int) {at_ : Int} (f : List Lay) (hf : ∀ x ∈ f, x.Ok) (h0 : 0 ≤ at_) (h1 : at_ < 900000) (hl : f.length ≤ 1000) : mo_law_standing [.scr ns, .int at_, .lst (f.map Lay.d)] = .ok ((st ns at_ f).map pairD) := by
  have lp := loopF_enum (h := gTp 2 (gsCons (gNm 4) (gsCons (gNm 5) (gsNil)))) (g := sSeq (sSet (gNm 6) (eFn 2 m_law_mixed (aCons (eV 0) (aCons (eOp dAdd (eV 1) (eV 4)) (aNil))))) <|
    sApp 3 (eTup (aCons (eOp dMod (eV 6) (eOp dAdd (eOp dIx (eV 5) (eC (.int 0))) (eC (.int 1)))) (aCons (eOp dMod (eOp dDiv (eV 6) (eC (.int 7))) (eOp dAdd (eOp dIx (eV 5) (eC (.int 2))) (eC (.int 1)))) (aNil)))))
    (Γ := [some (.val (.scr ns)), some (.val (.int at_)), some (.val (.lst (f.map Lay.d))), some (.own []), none, none, none]) f Lay.d
    (fun i Γ => ∃ a b c, Γ = [some (.val (.scr ns)), some (.val (.int at_)), some (.val (.lst (f.map Lay.d))), some (.own (((st ns at_ f).take i).map pairD)), a, b, c]) ⟨_, _, _, rfl⟩ (by
      rintro i x Γ hx ⟨a, b, c, rfl⟩
      have ok := hf x (List.mem_of_getElem? hx)
      have hi : i < f.length := (List.getElem?_eq_some_iff.mp hx).1
      have e1 := mixed ns (k := at_ + (i : Nat)) (by omega) (by omega)
      have e2 : ((st ns at_ f).take i).length < LIM := by
        rw [List.length_take]
        show _ < 16777216
        omega
      have pu : 0 < x.u + 1 := by have := ok.u0; omega
      have pl : 0 < x.l + 1 := by have := ok.l0; omega
      refine ⟨_, [some (.val (.scr ns)), some (.val (.int at_)), some (.val (.lst (f.map Lay.d))), some (.own (((st ns at_ f).take (i + 1)).map pairD)), some (.val (.int (i : Nat))), some (.val x.d), some (.val (.int (mix ns (at_ + (i : Nat)))))], rfl, .inl ?_, _, _, _, rfl⟩
      rw [take_succ_get (st_get ns at_ f hx), List.map_append]
      simp only [LIM] at e2
      simp_arith! [e1, Lay.d, pu, pl, List.length_map, e2, st1, pairD])
  obtain ⟨Γ', e, a, b, c, rfl⟩ := lp
  have e2 : (st ns at_ f).take f.length = st ns at_ f := by rw [← st_len ns at_ f, List.take_length]
  rw [e2] at e
  unfold mo_law_standing b_law_standing
  simp_arith! [iEnum_l, e]
/-- what a standing's rods hold -/
theorem st_ok (ns : List Int) (at_ : Int) (f : List Lay) (hf : ∀ x ∈ f, x.Ok) {i : Nat} {x : Lay} (h : f[i]? = some x) : ∃ p, (st ns at_ f)[i]? = some p ∧ 0 ≤ p.1 ∧ p.1 ≤ x.u ∧ 0 ≤ p.2 ∧ p.2 ≤ x.l := by
  have ok := hf x (List.mem_of_getElem? h)
  have pu : 0 < x.u + 1 := by have := ok.u0; omega
  have pl : 0 < x.l + 1 := by have := ok.l0; omega
  refine ⟨_, st_get ns at_ f h, ?_, ?_, ?_, ?_⟩
  · exact Int.emod_nonneg _ (by omega)
  · have := Int.emod_lt_of_pos (mix ns (at_ + (i : Nat))) pu
    show mix ns (at_ + (i : Nat)) % (x.u + 1) ≤ _
    omega
  · exact Int.emod_nonneg _ (by omega)
  · have := Int.emod_lt_of_pos (mix ns (at_ + (i : Nat)) / 7) pl
    show mix ns (at_ + (i : Nat)) / 7 % (x.l + 1) ≤ _
    omega
end LA
set_option Elab.async false
set_option linter.all false
set_option maxRecDepth 100000
set_option maxHeartbeats 1000000
/-! Rods, what they count, tidy standings. -/
namespace FA
open PySem DL L2 LA
def cnt (x : Lay) (p : Int × Int) : Int := p.1 * x.w + p.2
def hi (x : Lay) (n : Int) : Int := if n / x.w < x.u then n / x.w else x.u
def pl (x : Lay) (n : Int) : Int × Int := (hi x n, n - hi x n * x.w)
theorem count_of {x : Lay} (ok : x.Ok) (p : Int × Int) : m_count_of [x.d, pairD p] = .ok (.int (cnt x p)) := by
  have := ok.w1
  have := ok.w20
  have e := dMul_r (i := p.1) (j := x.w) (by omega) (by omega)
  unfold m_count_of b_count_of
  simp_arith! [Lay.d, pairD, e, cnt]
theorem plain_of {x : Lay} (ok : x.Ok) (n : Int) : m_plain_of [x.d, .int n] = .ok (pairD (pl x n)) := by
  have h1 := ok.w1
  have h20 := ok.w20
  have e := fun i => dMul_r (i := i) (j := x.w) (by omega) (by omega)
  have e1 := dDiv_i (i := n) (j := x.w) (by omega) (by omega)
  unfold m_plain_of b_plain_of
  simp_arith! [Lay.d, pairD, e, e1, pl, hi]
theorem pr_ne {p q : Int × Int} (h : p ≠ q) : dNe (pairD p) (pairD q) = .ok (.bl true) := dNe_ne rfl rfl (by
  intro e
  simp only [pairD, D.tup.injEq, D.int.injEq, List.cons.injEq, and_true] at e
  exact h (Prod.ext e.1 e.2))
theorem pr_same (p : Int × Int) : dNe (pairD p) (pairD p) = .ok (.bl false) := dNe_same rfl
/-- is the rod at i tidy? -/
def tdy (f : List Lay) (s : List (Int × Int)) (i : Nat) : Bool :=
  let x := f.getD i ⟨0, 1, 0, 2⟩
  let p := s.getD i (0, 0)
  decide (p = pl x (cnt x p)) && (decide (cnt x p < x.b) || decide (i + 1 = f.length))
theorem is_tidy {f : List Lay} {s : List (Int × Int)} (hf : ∀ x ∈ f, x.Ok) (hs : s.length = f.length) : m_is_tidy [.lst (f.map Lay.d), .lst (s.map pairD)] = .ok (.bl ((List.range f.length).all (tdy f s))) := by
  have lp := loopF_allE (h := gTp 2 (gsCons (gNm 2) (gsCons (gNm 3) (gsNil)))) (g := sSeq (sSet (gNm 4) (eFn 2 m_count_of (aCons (eV 3) (aCons (eOp dIx (eV 1) (eV 2)) (aNil))))) <|
    sSeq (sIf (eB (eOp dNe (eOp dIx (eV 1) (eV 2)) (eFn 2 m_plain_of (aCons (eV 3) (aCons (eV 4) (aNil)))))) (sRet (eC (.bl false))) (sNx)) <|
    sIf (bAnd (eB (eOp dGe (eV 4) (eOp dIx (eV 3) (eC (.int 3))))) (eB (eOp dLt (eV 2) (eOp dSub (eCall dLen (aCons (eV 0) (aNil))) (eC (.int 1)))))) (sRet (eC (.bl false))) (sNx))
    (Γ := [some (.val (.lst (f.map Lay.d))), some (.val (.lst (s.map pairD))), none, none, none]) f Lay.d (tdy f s) (.bl false)
    (fun _ Γ => ∃ a b c, Γ = [some (.val (.lst (f.map Lay.d))), some (.val (.lst (s.map pairD))), a, b, c]) ⟨_, _, _, rfl⟩ (by
      rintro i x Γ hx ⟨a, b, c, rfl⟩
      have ok := hf x (List.mem_of_getElem? hx)
      have hi : i < f.length := (List.getElem?_eq_some_iff.mp hx).1
      have hp : s[i]? = some (s.getD i (0, 0)) := by rw [List.getD, List.getElem?_eq_getElem (by omega)]; rfl
      have hx' : f.getD i ⟨0, 1, 0, 2⟩ = x := by rw [List.getD, hx]; rfl
      generalize hpp : s.getD i (0, 0) = p at hp
      have ix : dIx (.lst (s.map pairD)) (.int (i : Nat)) = .ok (pairD p) := dIx_n (by rw [List.getElem?_map, hp]; rfl)
      have t : tdy f s i = (decide (p = pl x (cnt x p)) && (decide (cnt x p < x.b) || decide (i + 1 = f.length))) := by unfold tdy; rw [hx', hpp]
      have e1 := count_of ok p
      have e2 := plain_of ok (cnt x p)
      have e3 : dIx x.d (.int 3) = .ok (.int x.b) := rfl
      refine ⟨[some (.val (.lst (f.map Lay.d))), some (.val (.lst (s.map pairD))), some (.val (.int (i : Nat))), some (.val x.d), c], [some (.val (.lst (f.map Lay.d))), some (.val (.lst (s.map pairD))), some (.val (.int (i : Nat))), some (.val x.d), some (.val (.int (cnt x p)))], rfl, ?_, ?_, _, _, _, rfl⟩
      · intro h
        rw [t, Bool.and_eq_true, Bool.or_eq_true, decide_eq_true_eq, decide_eq_true_eq, decide_eq_true_eq] at h
        refine .inl ?_
        have e4 := pr_same p
        have e5 := h.1
        rw [← e5] at e2
        by_cases q : x.b ≤ cnt x p
        · have q2 : ¬ ((i : Int) < ((f.length : Nat) : Int) - 1) := by have := h.2; omega
          simp_arith! [e1, e2, e3, ix, e4, q, q2, List.length_map]
        · simp_arith! [e1, e2, e3, ix, e4, q, List.length_map]
      · intro h
        rw [t] at h
        by_cases q : p = pl x (cnt x p)
        · have e4 := pr_same p
          rw [← q] at e2
          rw [decide_eq_true q, Bool.true_and, Bool.or_eq_false_iff, decide_eq_false_iff_not, decide_eq_false_iff_not] at h
          have q1 : x.b ≤ cnt x p := by omega
          have q2 : ((i : Int) < ((f.length : Nat) : Int) - 1) := by omega
          simp_arith! [e1, e2, e3, ix, e4, q1, q2, List.length_map]
        · have e4 := pr_ne q
          simp_arith! [e1, e2, e3, ix, e4])
  obtain ⟨Γ', ⟨a, b, c, rfl⟩, e⟩ := lp
  unfold m_is_tidy b_is_tidy
  cases h : (List.range f.length).all (tdy f s) <;> rw [h] at e <;> simp_arith! [iEnum_l, e]
/-- the other form: no upper bead may stand for lower ones -/
theorem tdy_due {x : Lay} (ok : x.Ok) {p : Int × Int} (h1 : p.1 ≤ x.u) (h2 : 0 ≤ p.2) : (p = pl x (cnt x p)) ↔ ¬ (p.1 < x.u ∧ x.w ≤ p.2) := by
  have hw : 0 < x.w := by have := ok.w1; omega
  obtain ⟨h, l⟩ := p
  have ec : cnt x (h, l) / x.w = h + l / x.w := by
    show (h * x.w + l) / x.w = _
    rw [Int.add_comm, Int.add_mul_ediv_right _ _ (by omega), Int.add_comm]
  simp only at h1 h2
  constructor
  · intro e
    have e1 : h = hi x (cnt x (h, l)) := congrArg Prod.fst e
    unfold hi at e1
    rw [ec] at e1
    rintro ⟨q1, q2⟩
    simp only at q1 q2
    have : 1 ≤ l / x.w := by rw [Int.le_ediv_iff_mul_le hw]; omega
    split at e1 <;> omega
  · intro q
    have e1 : h = hi x (cnt x (h, l)) := by
      unfold hi
      rw [ec]
      by_cases q1 : h < x.u
      · have q2 : l < x.w := by
          simp only [not_and] at q
          have := q q1
          omega
        rw [Int.ediv_eq_zero_of_lt h2 q2, Int.add_zero, if_pos q1]
      · have : 0 ≤ l / x.w := Int.ediv_nonneg h2 (by omega)
        rw [if_neg (by omega)]
        omega
    show (h, l) = (hi x (cnt x (h, l)), cnt x (h, l) - hi x (cnt x (h, l)) * x.w)
    rw [← e1]
    refine Prod.ext rfl ?_
    show l = h * x.w + l - h * x.w
    omega
theorem pl_le (x : Lay) (n : Int) : (pl x n).1 ≤ x.u := by
  show hi x n ≤ _
  unfold hi
  split <;> omega
theorem pl_low {x : Lay} (ok : x.Ok) {n : Int} (h : 0 ≤ n) : 0 ≤ (pl x n).2 := by
  have hw : 0 < x.w := by have := ok.w1; omega
  show 0 ≤ n - hi x n * x.w
  have h1 : hi x n ≤ n / x.w := by unfold hi; split <;> omega
  have h2 : hi x n * x.w ≤ n / x.w * x.w := Int.mul_le_mul_of_nonneg_right h1 (by omega)
  have h3 := Int.ediv_mul_le n (show x.w ≠ 0 by omega)
  omega
theorem pl_high {x : Lay} (ok : x.Ok) {n : Int} (h : 0 ≤ n) : 0 ≤ (pl x n).1 := by
  show 0 ≤ hi x n
  have := ok.u0
  have := Int.ediv_nonneg h (show 0 ≤ x.w by have := ok.w1; omega)
  unfold hi
  split <;> omega
theorem cnt_pl (x : Lay) (n : Int) : cnt x (pl x n) = n := by
  show hi x n * x.w + (n - hi x n * x.w) = n
  omega
end FA
set_option Elab.async false
set_option linter.all false
set_option maxRecDepth 100000
set_option maxHeartbeats 1000000
/-! Digits by the frame's bases. -/
namespace FB
open PySem DL L2 LA FA
def dft : Lay := ⟨0, 1, 1, 2⟩
def lat (f : List Lay) (i : Nat) : Lay := f.getD i dft
theorem lat_get {f : List Lay} {i : Nat} (h : i < f.length) : f[i]? = some (lat f i) := by
  unfold lat
  rw [List.getD, List.getElem?_eq_getElem h]
  rfl
theorem lat_of {f : List Lay} {i : Nat} {x : Lay} (h : f[i]? = some x) : lat f i = x := by
  unfold lat
  rw [List.getD, h]
  rfl
theorem lat_ok {f : List Lay} (hf : ∀ x ∈ f, x.Ok) (i : Nat) : (lat f i).Ok := by
  by_cases h : i < f.length
  · exact hf _ (List.mem_of_getElem? (lat_get h))
  · unfold lat
    rw [List.getD, List.getElem?_eq_none (by omega)]
    exact ⟨by decide, by decide, by decide, by decide, by decide, by decide, by decide, by decide, by decide, by decide, by decide⟩
/-- what one counts on a rod -/
def plc (f : List Lay) : Nat → Int
  | 0 => 1
  | i + 1 => plc f i * (lat f i).b
theorem plc_pos {f : List Lay} (hf : ∀ x ∈ f, x.Ok) : ∀ i, 0 < plc f i
  | 0 => by show (0 : Int) < 1; decide
  | i + 1 => Int.mul_pos (plc_pos hf i) (by have := (lat_ok hf i).b2; omega)
theorem plc_lt {f : List Lay} (hf : ∀ x ∈ f, x.Ok) : ∀ i, plc f i ≤ (2 : Int) ^ (5 * i)
  | 0 => by show (1 : Int) ≤ 1; decide
  | i + 1 => by
    have h := plc_lt hf i
    have hb := (lat_ok hf i).b25
    have hb2 := (lat_ok hf i).b2
    have hp := plc_pos hf i
    show plc f i * (lat f i).b ≤ (2 : Int) ^ (5 * i + 5)
    rw [Int.pow_add]
    exact Int.mul_le_mul h (by show _ ≤ (32 : Int); omega) (by omega) (Int.le_of_lt (Int.lt_of_lt_of_le hp h))
/-- the number without its first i digits -/
def lft (f : List Lay) (n : Int) (i : Nat) : Int := n / plc f i
def dig (f : List Lay) (n : Int) (i : Nat) : Int := if i + 1 < f.length then lft f n i % (lat f i).b else lft f n i
def digs (f : List Lay) (n : Int) : List Int := (List.range f.length).map (dig f n)
theorem lft_succ {f : List Lay} (hf : ∀ x ∈ f, x.Ok) (n : Int) (i : Nat) : lft f n (i + 1) = lft f n i / (lat f i).b := by
  unfold lft
  show n / (plc f i * (lat f i).b) = _
  rw [Int.ediv_ediv_of_nonneg (Int.le_of_lt (plc_pos hf i))]
theorem lft_0 (f : List Lay) (n : Int) : lft f n 0 = n := Int.ediv_one n
theorem digs_len (f : List Lay) (n : Int) : (digs f n).length = f.length := by unfold digs; rw [List.length_map, List.length_range]
theorem digs_get {f : List Lay} {n : Int} {i : Nat} (h : i < f.length) : (digs f n)[i]? = some (dig f n i) := by
  unfold digs
  rw [List.getElem?_map, List.getElem?_range h]
  rfl
theorem digits_of {f : List Lay} (hf : ∀ x ∈ f, x.Ok) (hl : 1 ≤ f.length) (hl' : f.length ≤ 1000) (n : Int) : mo_digits_of [.lst (f.map Lay.d), .int n] = .ok ((digs f n).map D.int) := by
  have lp := loopF_inv (h := gNm 3) (g := sSeq (sSet (gTp 2 (gsCons (gNm 1) (gsCons (gNm 4) (gsNil)))) (eCall dDivmod (aCons (eV 1) (aCons (eOp dIx (eV 3) (eC (.int 3))) (aNil))))) <|
    sApp 2 (eV 4))
    (Γ := [some (.val (.lst (f.map Lay.d))), some (.val (.int n)), some (.own []), none, none]) f.dropLast Lay.d
    (fun i Γ => ∃ a b, Γ = [some (.val (.lst (f.map Lay.d))), some (.val (.int (lft f n i))), some (.own (((digs f n).take i).map D.int)), a, b]) ⟨_, _, by rw [lft_0]; rfl⟩ (by
      rintro i x Γ hx ⟨a, b, rfl⟩
      have hi : i < f.length - 1 := by
        have := (List.getElem?_eq_some_iff.mp hx).1
        rwa [List.length_dropLast] at this
      have hx' : f[i]? = some x := by
        rw [List.getElem?_dropLast] at hx
        rw [if_pos hi] at hx
        exact hx
      have ok := hf x (List.mem_of_getElem? hx')
      have ex := lat_of hx'
      have hb : 0 < x.b := by have := ok.b2; omega
      have e1 : dDivmod [.int (lft f n i), .int x.b] = .ok (.tup [.int (lft f n i / x.b), .int (lft f n i % x.b)]) := dDivmod_i hb (by have := ok.b25; omega)
      have e3 : dIx x.d (.int 3) = .ok (.int x.b) := rfl
      have e2 : ((digs f n).take i).length < LIM := by
        rw [List.length_take]
        show _ < 16777216
        omega
      simp only [LIM] at e2
      have e4 : lft f n (i + 1) = lft f n i / x.b := by rw [lft_succ hf, ex]
      have e5 : dig f n i = lft f n i % x.b := by unfold dig; rw [if_pos (by omega), ex]
      refine ⟨_, [some (.val (.lst (f.map Lay.d))), some (.val (.int (lft f n (i + 1)))), some (.own (((digs f n).take (i + 1)).map D.int)), some (.val x.d), some (.val (.int (lft f n i % x.b)))], rfl, .inl ?_, _, _, rfl⟩
      rw [take_succ_get (digs_get (by omega)), List.map_append, e4, e5]
      simp_arith! [e1, e3, List.length_map, e2])
  obtain ⟨Γ', e, a, b, rfl⟩ := lp
  rw [List.length_dropLast] at e
  have ed : (digs f n).take (f.length - 1) ++ [lft f n (f.length - 1)] = digs f n := by
    have h1 : (digs f n)[f.length - 1]? = some (lft f n (f.length - 1)) := by
      rw [digs_get (by omega)]
      unfold dig
      rw [if_neg (by omega)]
    rw [← take_succ_get h1]
    exact List.take_of_length_le (by rw [digs_len]; omega)
  have eo : oAdd (.lst (((digs f n).take (f.length - 1)).map D.int)) (.lst [.int (lft f n (f.length - 1))]) = .ok ((digs f n).map D.int) := by
    show (if (((digs f n).take (f.length - 1)).map D.int).length + 1 ≤ 16777216 then R.ok (((digs f n).take (f.length - 1)).map D.int ++ [.int (lft f n (f.length - 1))]) else .stuck) = _
    rw [if_pos (by rw [List.length_map, List.length_take]; omega), ← ed, List.map_append]
    rw [ed]
    rfl
  rw [List.map_dropLast] at e
  unfold mo_digits_of b_digits_of
  simp_arith! [e, eo]
theorem digits_ofL {f : List Lay} (hf : ∀ x ∈ f, x.Ok) (hl : 1 ≤ f.length) (hl' : f.length ≤ 1000) (n : Int) : m_digits_of [.lst (f.map Lay.d), .int n] = .ok (.lst ((digs f n).map D.int)) := by
  show R.bind _ _ = _
  rw [digits_of hf hl hl' n]
  rfl
/-- what the digits so far count -/
def tot (f : List Lay) (n : Int) (i : Nat) : Int := n - lft f n i * plc f i
theorem tot_succ {f : List Lay} (hf : ∀ x ∈ f, x.Ok) (n : Int) (i : Nat) : tot f n (i + 1) = tot f n i + lft f n i % (lat f i).b * plc f i := by
  unfold tot
  rw [lft_succ hf]
  show n - lft f n i / (lat f i).b * (plc f i * (lat f i).b) = _
  rw [Int.emod_def]
  generalize lft f n i = L
  generalize (lat f i).b = b
  generalize plc f i = p
  generalize L / b = q
  rw [Int.sub_mul, Int.mul_assoc b q p, Int.mul_comm b (q * p), Int.mul_assoc q p b]
  generalize q * (p * b) = z
  omega
theorem lft_nonneg {f : List Lay} (hf : ∀ x ∈ f, x.Ok) {n : Int} (h : 0 ≤ n) (i : Nat) : 0 ≤ lft f n i := Int.ediv_nonneg h (Int.le_of_lt (plc_pos hf i))
theorem dig_nonneg {f : List Lay} (hf : ∀ x ∈ f, x.Ok) {n : Int} (h : 0 ≤ n) (i : Nat) : 0 ≤ dig f n i := by
  unfold dig
  split
  · exact Int.emod_nonneg _ (by have := (lat_ok hf i).b2; omega)
  · exact lft_nonneg hf h i
theorem lft_le {f : List Lay} (hf : ∀ x ∈ f, x.Ok) {n : Int} (h : 0 ≤ n) (i : Nat) : lft f n i ≤ n := by
  unfold lft
  exact Int.ediv_le_self _ h
theorem dig_le {f : List Lay} (hf : ∀ x ∈ f, x.Ok) {n : Int} (h : 0 ≤ n) (i : Nat) : dig f n i ≤ n := by
  have h0 := lft_nonneg hf h i
  have h1 := lft_le hf h i
  unfold dig
  split
  · have hb : 0 < (lat f i).b := by have := (lat_ok hf i).b2; omega
    have h2 : 0 ≤ (lat f i).b * (lft f n i / (lat f i).b) := Int.mul_nonneg (by omega) (Int.ediv_nonneg h0 (by omega))
    have h3 := Int.emod_def (lft f n i) (lat f i).b
    omega
  · exact h1
end FB
set_option Elab.async false
set_option linter.all false
set_option maxRecDepth 100000
/-! Functions over trees that several laws share (printed by gen.py from the text of law_k11_what_is_borne). -/
namespace FC
open PySem DL
/-- place_of(frame, rod); slots: 0 frame, 1 rod, 2 found, 3 layout -/
def b_place_of : DL.Env → Out :=
    sSeq (sSet (gNm 2) (eC (.int 1))) <|
    sSeq (sFor (iOf (eSl (eV 0) (pNo) (pSo (eV 1)))) (gNm 3) (sSet (gNm 2) (eOp dMul (eV 2) (eOp dIx (eV 3) (eC (.int 3)))))) <|
    sRet (eV 2)
def m_place_of : List D → R D := mk 4 b_place_of
/-- borne_by(frame, standing); slots: 0 frame, 1 standing, 2 found, 3 layout, 4 one -/
def b_borne_by : DL.Env → Out :=
    sSeq (sSet (gNm 2) (eC (.int 0))) <|
    sSeq (sFor (iCall iRevD (aCons (eFrz (oCall oZip (aCons (eV 0) (aCons (eV 1) (aNil))))) (aNil))) (gTp 2 (gsCons (gNm 3) (gsCons (gNm 4) (gsNil)))) (sSet (gNm 2) (eOp dAdd (eOp dMul (eV 2) (eOp dIx (eV 3) (eC (.int 3)))) (eFn 2 FA.m_count_of (aCons (eV 3) (aCons (eV 4) (aNil))))))) <|
    sRet (eV 2)
def m_borne_by : List D → R D := mk 5 b_borne_by
/-- clear_of(frame); slots: 0 frame, 1 layout -/
def b_clear_of : DL.Env → Out :=
    sRetO (oLc [1] (iOf (eV 0)) (gNm 1) (bYes) (eTup (aCons (eC (.int 0)) (aCons (eC (.int 0)) (aNil)))))
def mo_clear_of : List D → R (List D) := mkO 2 b_clear_of
def m_clear_of : List D → R D := fun ds => (mo_clear_of ds).bind fun r => .ok (.lst r)
end FC
set_option Elab.async false
set_option linter.all false
set_option maxRecDepth 100000
set_option maxHeartbeats 1000000
/-! Places, what is borne, the clear standing. -/
namespace FC
open PySem DL L2 LA FA FB
theorem place_of {f : List Lay} (hf : ∀ x ∈ f, x.Ok) {i : Nat} (hi : i ≤ f.length) : m_place_of [.lst (f.map Lay.d), .int (i : Nat)] = .ok (.int (plc f i)) := by
  have cut := cutL_take (xs := f.map Lay.d) (i := (i : Nat)) (by omega)
  rw [Int.toNat_natCast, ← List.map_take] at cut
  obtain ⟨Γ', e, a, rfl⟩ := loopF_inv (h := gNm 3) (g := sSet (gNm 2) (eOp dMul (eV 2) (eOp dIx (eV 3) (eC (.int 3)))))
    (Γ := [some (.val (.lst (f.map Lay.d))), some (.val (.int (i : Nat))), some (.val (.int 1)), none]) (f.take i) Lay.d
    (fun j Γ => ∃ a, Γ = [some (.val (.lst (f.map Lay.d))), some (.val (.int (i : Nat))), some (.val (.int (plc f j))), a]) ⟨_, rfl⟩ (by
      rintro j x Γ hx ⟨a, rfl⟩
      have hx' : f[j]? = some x := by
        rw [List.getElem?_take] at hx
        split at hx
        · exact hx
        · cases hx
      have ok := hf x (List.mem_of_getElem? hx')
      have ex := lat_of hx'
      have e1 : dMul (.int (plc f j)) (.int x.b) = .ok (.int (plc f (j + 1))) := by
        show _ = R.ok (D.int (plc f j * (lat f j).b))
        rw [ex]
        exact dMul_r (by have := ok.b2; omega) (by have := ok.b25; omega)
      have e3 : dIx x.d (.int 3) = .ok (.int x.b) := rfl
      refine ⟨_, [some (.val (.lst (f.map Lay.d))), some (.val (.int (i : Nat))), some (.val (.int (plc f (j + 1)))), some (.val x.d)], rfl, .inl ?_, _, rfl⟩
      simp_arith! [e1, e3])
  rw [List.length_take, Nat.min_eq_left hi] at e
  unfold m_place_of b_place_of
  simp_arith! [cut, e]
/-- what is borne, from the last rod on -/
def bnz : List (Lay × (Int × Int)) → Int
  | [] => 0
  | q :: t => bnz t * q.1.b + cnt q.1 q.2
theorem borne_by {f : List Lay} {s : List (Int × Int)} (hf : ∀ x ∈ f, x.Ok) : m_borne_by [.lst (f.map Lay.d), .lst (s.map pairD)] = .ok (.int (bnz (f.zip s))) := by
  obtain ⟨Γ', e, a, b, rfl⟩ := loopF_rev (h := gTp 2 (gsCons (gNm 3) (gsCons (gNm 4) (gsNil)))) (g := sSet (gNm 2) (eOp dAdd (eOp dMul (eV 2) (eOp dIx (eV 3) (eC (.int 3)))) (eFn 2 FA.m_count_of (aCons (eV 3) (aCons (eV 4) (aNil))))))
    (Γ := [some (.val (.lst (f.map Lay.d))), some (.val (.lst (s.map pairD))), some (.val (.int 0)), none, none]) (f.zip s) (fun q => .tup [q.1.d, pairD q.2])
    (fun t Γ => ∃ a b, Γ = [some (.val (.lst (f.map Lay.d))), some (.val (.lst (s.map pairD))), some (.val (.int (bnz t))), a, b]) ⟨_, _, rfl⟩ (by
      rintro ⟨x, p⟩ t Γ ht ⟨a, b, rfl⟩
      have ok := hf x (List.of_mem_zip (ht.subset List.mem_cons_self)).1
      have e1 := count_of ok p
      have e2 : dMul (.int (bnz t)) (.int x.b) = .ok (.int (bnz t * x.b)) := dMul_r (by have := ok.b2; omega) (by have := ok.b25; omega)
      have e3 : dIx x.d (.int 3) = .ok (.int x.b) := rfl
      refine ⟨_, [some (.val (.lst (f.map Lay.d))), some (.val (.lst (s.map pairD))), some (.val (.int (bnz ((x, p) :: t)))), some (.val x.d), some (.val (pairD p))], rfl, .inl ?_, _, _, rfl⟩
      simp_arith! [e1, e2, e3, bnz])
  rw [← zipL_map] at e
  unfold m_borne_by b_borne_by
  simp_arith! [e]
def clr (f : List Lay) : List (Int × Int) := f.map fun _ => (0, 0)
theorem clear_of (f : List Lay) (hl : f.length ≤ 1000) : mo_clear_of [.lst (f.map Lay.d)] = .ok ((clr f).map pairD) := by
  have el : oLc [1] (iOf (eV 0)) (gNm 1) (bYes) (eTup (aCons (eC (.int 0)) (aCons (eC (.int 0)) (aNil)))) [some (.val (.lst (f.map Lay.d))), none] = .ok ((clr f).map pairD) := by
    refine oLc_ok (ds := f.map Lay.d) ?_ ?_ ?_
    · simp_arith! []
    · unfold clr
      rw [List.map_map]
      refine lcF_map f Lay.d _ fun x _ => ⟨_, rfl, rfl, ?_⟩
      simp_arith! []
      rfl
    · rw [List.length_map]
      show _ ≤ 16777216
      omega
  unfold mo_clear_of b_clear_of
  simp_arith! [el]
theorem clear_ofL (f : List Lay) (hl : f.length ≤ 1000) : m_clear_of [.lst (f.map Lay.d)] = .ok (.lst ((clr f).map pairD)) := by
  show R.bind _ _ = _
  rw [clear_of f hl]
  rfl
theorem nils_mul (f : List Lay) (hl : f.length ≤ 1000) : oMul (.lst [.tup [.int 0, .int 0]]) (.int ((f.length : Nat) : Int)) = .ok ((clr f).map pairD) := by
  have e : (List.replicate f.length [D.tup [.int 0, .int 0]]).flatten = (clr f).map pairD := by
    clear hl
    unfold clr
    induction f with
    | nil => rfl
    | cons a t ih => show _ :: (List.replicate t.length [D.tup [.int 0, .int 0]]).flatten = _ :: _; rw [ih]; rfl
  have c : (decide (((f.length : Nat) : Int) < 1000000000) && decide (-1000000000 < ((f.length : Nat) : Int)) && decide ([D.tup [.int 0, .int 0]].length * ((f.length : Nat) : Int).toNat ≤ LIM)) = true := by
    rw [Bool.and_eq_true, Bool.and_eq_true]
    refine ⟨⟨decide_eq_true (by omega), decide_eq_true (by omega)⟩, decide_eq_true ?_⟩
    show 1 * f.length ≤ 16777216
    omega
  unfold oMul
  dsimp only
  rw [if_pos c, ← e, Int.toNat_natCast]
theorem clr_len (f : List Lay) : (clr f).length = f.length := List.length_map _
theorem bnz_clr : ∀ f : List Lay, bnz (f.zip (clr f)) = 0
  | [] => rfl
  | x :: f => by
    show bnz (f.zip (clr f)) * x.b + cnt x (0, 0) = 0
    rw [bnz_clr f]
    simp [cnt]
/-- the same, rod by rod -/
def sm : List Lay → List (Int × Int) → Int → Int
  | x :: f, p :: s, P => cnt x p * P + sm f s (P * x.b)
  | _, _, _ => 0
theorem sm_bnz : ∀ (f : List Lay) (s : List (Int × Int)) (P : Int), sm f s P = P * bnz (f.zip s)
  | [], _, P => by simp [sm, bnz]
  | _ :: _, [], P => by simp [sm, bnz]
  | x :: f, p :: s, P => by
    show cnt x p * P + sm f s (P * x.b) = P * (bnz (f.zip s) * x.b + cnt x p)
    rw [sm_bnz f s (P * x.b), Int.mul_add, Int.mul_comm (cnt x p) P, Int.mul_assoc, Int.mul_comm x.b, Int.add_comm]
theorem sum_sm (F : List Lay) : ∀ (s : List (Int × Int)) (k : Nat), k + s.length ≤ F.length → ((s.zipIdx k).map fun q => cnt (lat F q.2) q.1 * plc F q.2).sum = sm (F.drop k) s (plc F k)
  | [], k, _ => by cases F.drop k <;> rfl
  | p :: s, k, h => by
    have hk : k < F.length := by simp at h; omega
    rw [List.zipIdx_cons, List.map_cons, List.sum_cons, sum_sm F s (k + 1) (by simp at h ⊢; omega), List.drop_eq_getElem_cons hk]
    have e : F[k] = lat F k := by
      have := lat_get hk
      rw [List.getElem?_eq_getElem hk] at this
      exact Option.some.inj this
    rw [e]
    rfl
theorem sum_bnz (f : List Lay) (s : List (Int × Int)) (h : s.length = f.length) : (s.zipIdx.map fun q => cnt (lat f q.2) q.1 * plc f q.2).sum = bnz (f.zip s) := by
  rw [sum_sm f s 0 (by omega), List.drop_zero, sm_bnz]
  show 1 * _ = _
  rw [Int.one_mul]
end FC
set_option Elab.async false
set_option linter.all false
set_option maxRecDepth 100000
set_option maxHeartbeats 1000000
/-! Layouts and pairs, for `go`. -/
namespace LA
open PySem DL L2
instance : Inhabited Lay := ⟨⟨0, 1, 1, 2⟩⟩
section
variable {x : Lay} {p : Int × Int} {hs : Tgs} {Γ : DL.Env}
theorem Lay.ix0 : dIx x.d (.int 0) = .ok (.int x.u) := rfl
theorem Lay.ix1 : dIx x.d (.int 1) = .ok (.int x.w) := rfl
theorem Lay.ix2 : dIx x.d (.int 2) = .ok (.int x.l) := rfl
theorem Lay.ix3 : dIx x.d (.int 3) = .ok (.int x.b) := rfl
theorem Lay.tp : gTp 4 hs x.d Γ = hs [.int x.u, .int x.w, .int x.l, .int x.b] Γ := rfl
theorem pr_0 : dIx (pairD p) (.int 0) = .ok (.int p.1) := rfl
theorem pr_1 : dIx (pairD p) (.int 1) = .ok (.int p.2) := rfl
theorem pr_tp : gTp 2 hs (pairD p) Γ = hs [.int p.1, .int p.2] Γ := rfl
theorem pr_isi : dIsi [pairD p, .ty "tuple"] = .ok (.bl true) := rfl
theorem pr_len : dLen [pairD p] = .ok (.int 2) := rfl
theorem lay_isi : dIsi [x.d, .ty "tuple"] = .ok (.bl true) := rfl
theorem lay_len : dLen [x.d] = .ok (.int 4) := rfl
theorem sh_pairs (s : List (Int × Int)) : (D.lst (s.map pairD)).sh 60 = true := by
  show (s.map pairD).all (D.sh 59) = true
  rw [List.all_map, List.all_eq_true]
  exact fun _ _ => rfl
theorem sh_lays (f : List Lay) : (D.lst (f.map Lay.d)).sh 60 = true := by
  show (f.map Lay.d).all (D.sh 59) = true
  rw [List.all_map, List.all_eq_true]
  exact fun _ _ => rfl
theorem sh_ints (f : List Int) : (D.lst (f.map D.int)).sh 60 = true := by
  show (f.map D.int).all (D.sh 59) = true
  rw [List.all_map, List.all_eq_true]
  exact fun _ _ => rfl
theorem prs_same (s : List (Int × Int)) : dEq (.lst (s.map pairD)) (.lst (s.map pairD)) = .ok (.bl true) := dEq_same (sh_pairs s)
theorem prs_nsame (s : List (Int × Int)) : dNe (.lst (s.map pairD)) (.lst (s.map pairD)) = .ok (.bl false) := dNe_same (sh_pairs s)
theorem lays_same (f : List Lay) : dEq (.lst (f.map Lay.d)) (.lst (f.map Lay.d)) = .ok (.bl true) := dEq_same (sh_lays f)
theorem lays_nsame (f : List Lay) : dNe (.lst (f.map Lay.d)) (.lst (f.map Lay.d)) = .ok (.bl false) := dNe_same (sh_lays f)
end
end LA
set_option Elab.async false
set_option linter.all false
set_option maxRecDepth 100000
set_option maxHeartbeats 1000000
/-! full_worth, tidy_of. -/
--go: Lay.ix0 Lay.ix1 Lay.ix2 Lay.ix3 Lay.tp pr_0 pr_1 pr_tp pr_isi prs_same prs_nsame lays_same lays_nsame
namespace FD
open PySem DL L2 LA FA FB FC
def full (x : Lay) : Int := x.u * x.w + x.l
def lastL (f : List Lay) : Lay := lat f (f.length - 1)
/-- the greatest number -/
def top_ (f : List Lay) : Int := plc f (f.length - 1) * (full (lastL f) + 1) - 1
theorem full_worth {x : Lay} (ok : x.Ok) : m_full_worth [x.d] = .ok (.int (full x)) := by
  have := ok.w1
  have := ok.w20
  unfold m_full_worth b_full_worth
  simp_arith [Lay.ix0, Lay.ix1, Lay.ix2, Lay.ix3, Lay.tp, pr_0, pr_1, pr_tp, pr_isi, prs_same, prs_nsame, lays_same, lays_nsame, full]
theorem full_nonneg {x : Lay} (ok : x.Ok) : 0 ≤ full x := by
  have := Int.mul_nonneg ok.u0 (show 0 ≤ x.w by have := ok.w1; omega)
  have := ok.l0
  unfold full
  omega
theorem full_le {x : Lay} (ok : x.Ok) : full x ≤ 144 := by
  have := Int.mul_le_mul ok.u6 ok.w20 (by have := ok.w1; omega) (by decide)
  have := ok.l24
  unfold full
  omega
theorem top_nonneg {f : List Lay} (hf : ∀ x ∈ f, x.Ok) : 0 ≤ top_ f := by
  have hp := plc_pos hf (f.length - 1)
  have hk := full_nonneg (lat_ok hf (f.length - 1))
  have := Int.mul_le_mul_of_nonneg_right (show 1 ≤ plc f (f.length - 1) by omega) (show 0 ≤ full (lastL f) + 1 by unfold lastL; omega)
  have e : full (lastL f) = full (lat f (f.length - 1)) := rfl
  unfold top_
  omega
theorem too_great {f : List Lay} (hf : ∀ x ∈ f, x.Ok) (n : Int) : (full (lastL f) < lft f n (f.length - 1)) ↔ top_ f < n := by
  have hp := plc_pos hf (f.length - 1)
  unfold top_ lft
  constructor
  · intro h
    have h2 : full (lastL f) + 1 ≤ n / plc f (f.length - 1) := h
    rw [Int.le_ediv_iff_mul_le hp, Int.mul_comm] at h2
    omega
  · intro h
    have : full (lastL f) + 1 ≤ n / plc f (f.length - 1) := by
      rw [Int.le_ediv_iff_mul_le hp, Int.mul_comm]
      omega
    omega
theorem ix_last {α : Type} {f : List α} (h : 1 ≤ f.length) (enc : α → D) (d : α) : dIx (.lst (f.map enc)) (.int (-1)) = .ok (enc (f.getD (f.length - 1) d)) := by
  refine dIx_lst (atI_l ?_)
  rw [List.length_map, List.getElem?_map, List.getD, List.getElem?_eq_getElem (by omega)]
  rfl
/-- the tidy standing -/
def tdl (f : List Lay) (n : Int) : List (Int × Int) := f.zipIdx.map fun q => pl q.1 (dig f n q.2)
theorem tdl_len (f : List Lay) (n : Int) : (tdl f n).length = f.length := by unfold tdl; rw [List.length_map, List.length_zipIdx]
theorem tdl_get {f : List Lay} {i : Nat} {x : Lay} (h : f[i]? = some x) (n : Int) : (tdl f n)[i]? = some (pl x (dig f n i)) := by
  unfold tdl
  rw [List.getElem?_map, List.getElem?_zipIdx, h]
  simp
theorem tdl_zip (f : List Lay) (n : Int) : tdl f n = (f.zip (digs f n)).map fun q => pl q.1 q.2 := by
  refine List.ext_getElem (by simp [tdl, digs_len]) fun i h1 h2 => ?_
  simp [tdl, digs]
theorem dig_0 (f : List Lay) (i : Nat) : dig f 0 i = 0 := by
  have : lft f 0 i = 0 := Int.zero_ediv _
  unfold dig
  rw [this]
  split
  · exact Int.zero_emod _
  · rfl
theorem pl_0 {x : Lay} (ok : x.Ok) : pl x 0 = (0, 0) := by
  have hz : hi x 0 = 0 := by
    have := ok.u0
    unfold hi
    rw [Int.zero_ediv]
    split <;> omega
  unfold pl
  rw [hz]
  simp
theorem tdl_0 {f : List Lay} (hf : ∀ x ∈ f, x.Ok) : tdl f 0 = clr f := by
  refine List.ext_getElem (by rw [tdl_len, clr_len]) fun i h1 h2 => ?_
  simp only [tdl, clr, List.getElem_map, List.getElem_zipIdx, dig_0]
  exact pl_0 (hf _ (List.getElem_mem _))
theorem dig_last {f : List Lay} (hl : 1 ≤ f.length) (n : Int) : (digs f n).getD (f.length - 1) 0 = lft f n (f.length - 1) := by
  rw [List.getD, digs_get (by omega)]
  show dig f n (f.length - 1) = _
  unfold dig
  rw [if_neg (by omega)]
theorem tidy_of {f : List Lay} (hf : ∀ x ∈ f, x.Ok) (hl : 1 ≤ f.length) (hl' : f.length ≤ 1000) (n : Int) :
    mo_tidy_of [.lst (f.map Lay.d), .int n] = if top_ f < n then .exc (.exc "TooGreat" ["rod"] [.int ((f.length : Nat) - 1)]) else .ok ((tdl f n).map pairD) := by
  have e1 := digits_ofL hf hl hl' n
  have ix1 : dIx (.lst ((digs f n).map D.int)) (.int (-1)) = .ok (.int (lft f n (f.length - 1))) := by
    have := ix_last (f := digs f n) (by rw [digs_len]; exact hl) D.int 0
    rw [digs_len, dig_last hl] at this
    exact this
  have ix2 : dIx (.lst (f.map Lay.d)) (.int (-1)) = .ok (lastL f).d := ix_last hl Lay.d dft
  have e2 : m_full_worth [(lastL f).d] = .ok (.int (full (lastL f))) := full_worth (lat_ok hf (f.length - 1))
  have tg := too_great hf n
  have lc : oLc [3, 4] (iCall iZipD (aCons (eV 0) (aCons (eV 2) (aNil)))) (gTp 2 (gsCons (gNm 3) (gsCons (gNm 4) (gsNil)))) (bYes) le_tidy_of1
      [some (.val (.lst (f.map Lay.d))), some (.val (.int (n))), some (.val (.lst ((digs f n).map D.int))), none, none] = .ok ((tdl f n).map pairD) := by
    rw [oLc_map (f.zip (digs f n)) (fun q => .tup [q.1.d, .int q.2]) (fun q => pairD (pl q.1 q.2)) (by simp_arith [Lay.ix0, Lay.ix1, Lay.ix2, Lay.ix3, Lay.tp, pr_0, pr_1, pr_tp, pr_isi, prs_same, prs_nsame, lays_same, lays_nsame]) (by rw [List.length_zip]; show _ ≤ 16777216; omega), tdl_zip, List.map_map]
    · rfl
    · intro q hq
      have e := plain_of (hf q.1 (List.of_mem_zip hq).1) q.2
      simp_arith [Lay.ix0, Lay.ix1, Lay.ix2, Lay.ix3, Lay.tp, pr_0, pr_1, pr_tp, pr_isi, prs_same, prs_nsame, lays_same, lays_nsame, le_tidy_of1, e]
  unfold mo_tidy_of b_tidy_of
  by_cases q : top_ f < n
  · have c := tg.mpr q
    simp_arith [Lay.ix0, Lay.ix1, Lay.ix2, Lay.ix3, Lay.tp, pr_0, pr_1, pr_tp, pr_isi, prs_same, prs_nsame, lays_same, lays_nsame, e1, ix1, ix2, e2, c, q]
  · have c : ¬ (full (lastL f) < lft f n (f.length - 1)) := fun h => q (tg.mp h)
    simp_arith [Lay.ix0, Lay.ix1, Lay.ix2, Lay.ix3, Lay.tp, pr_0, pr_1, pr_tp, pr_isi, prs_same, prs_nsame, lays_same, lays_nsame, e1, ix1, ix2, e2, c, q, lc]
abbrev tg (i : Int) : D := .exc "TooGreat" ["rod"] [.int i]
theorem tidyL {f : List Lay} (hf : ∀ x ∈ f, x.Ok) (hl : 1 ≤ f.length) (hl' : f.length ≤ 1000) (n : Int) :
    m_tidy_of [.lst (f.map Lay.d), .int n] = if top_ f < n then .exc (tg ((f.length : Nat) - 1)) else .ok (.lst ((tdl f n).map pairD)) := by
  show R.bind _ _ = _
  rw [tidy_of hf hl hl' n]
  split <;> rfl
end FD
set_option Elab.async false
set_option linter.all false
set_option maxRecDepth 100000
/-! Functions over trees that several laws share (printed by gen.py from the text of law_k25_rows_between). -/
namespace FW
open PySem DL
def cs_o_beads : List Str := ["Move", "Up", "Down", "Put", "Take"]
def cs_o_rod : List Str := ["Move", "Up", "Down", "Put", "Take"]
/-- Move.word(self); slots: 0 self -/
def b_Move_word : DL.Env → Out :=
    sRet (eC (.str ""))
def m_Move_word : List D → R D := mk 1 b_Move_word
/-- Up.word(self); slots: 0 self -/
def b_Up_word : DL.Env → Out :=
    sRet (eC (.str "up"))
def m_Up_word : List D → R D := mk 1 b_Up_word
/-- Down.word(self); slots: 0 self -/
def b_Down_word : DL.Env → Out :=
    sRet (eC (.str "down"))
def m_Down_word : List D → R D := mk 1 b_Down_word
/-- Put.word(self); slots: 0 self -/
def b_Put_word : DL.Env → Out :=
    sRet (eC (.str "put"))
def m_Put_word : List D → R D := mk 1 b_Put_word
/-- Take.word(self); slots: 0 self -/
def b_Take_word : DL.Env → Out :=
    sRet (eC (.str "take"))
def m_Take_word : List D → R D := mk 1 b_Take_word
def tb_word : List (Str × (List D → R D)) := [("Move", m_Move_word), ("Up", m_Up_word), ("Down", m_Down_word), ("Put", m_Put_word), ("Take", m_Take_word)]
/-- Move.shown(self); slots: 0 self -/
def b_Move_shown : DL.Env → Out :=
    sRet (eJs [eUn dFmt (eMeth tb_word "word" 0 (eV 0) aNil), eC (.str " "), eUn dFmt (eUn (dXf cs_o_rod "rod") (eV 0)), eC (.str " "), eUn dFmt (eUn (dXf cs_o_beads "beads") (eV 0))])
def m_Move_shown : List D → R D := mk 1 b_Move_shown
def tb_shown : List (Str × (List D → R D)) := [("Move", m_Move_shown), ("Up", m_Move_shown), ("Down", m_Move_shown), ("Put", m_Move_shown), ("Take", m_Move_shown)]
/-- shown_row(row); slots: 0 row, 1 move -/
def le_shown_row1 : DL.Env → R D :=
    eMeth tb_shown "shown" 0 (eV 1) aNil
def b_shown_row : DL.Env → Out :=
    sRet (eM1 dJoin (eC (.str "; ")) (eFrz (oLc [1] (iOf (eV 0)) (gNm 1) (bYes) (le_shown_row1))))
def m_shown_row : List D → R D := mk 2 b_shown_row
end FW
set_option Elab.async false
set_option linter.all false
set_option maxRecDepth 100000
/-! Functions over trees that several laws share (printed by gen.py from the text of law_k22_moves_written). -/
namespace FT
open PySem DL
def cs_o_beads : List Str := ["Move", "Up", "Down", "Put", "Take"]
def cs_o_rod : List Str := ["Move", "Up", "Down", "Put", "Take"]
/-- small_number(word); slots: 0 word, 1 sign -/
def h_small_number1 : Tg :=
    gNm 1
def g_small_number1 : DL.Env → Out :=
    sWp [1] (sIf (eB (eOp dNotInS (eV 1) (eC (.str "0123456789")))) (sRaise0 "NoMove") (sNx))
def b_small_number : DL.Env → Out :=
    sSeq (sIf (bNot (eB (eChain dLe dLe (eC (.int 1)) (eCall dLen (aCons (eV 0) (aNil))) (eC (.int 2))))) (sRaise0 "NoMove") (sNx)) <|
    sSeq (sFor (iOfS (eV 0)) h_small_number1 g_small_number1) <|
    sSeq (sIf (bAnd (eB (eOp dEq (eOp dIx (eV 0) (eC (.int 0))) (eC (.str "0")))) (eB (eOp dNe (eV 0) (eC (.str "0"))))) (sRaise0 "NoMove") (sNx)) <|
    sRet (eCall dIntA (aCons (eV 0) (aNil)))
def m_small_number : List D → R D := mk 2 b_small_number
abbrev tb_word : List (Str × (List D → R D)) := FW.tb_word
/-- same_move(one, other); slots: 0 one, 1 other -/
def b_same_move : DL.Env → Out :=
    sRet (eOp dEq (eTup (aCons (eMeth tb_word "word" 0 (eV 0) aNil) (aCons (eUn (dXf cs_o_rod "rod") (eV 0)) (aCons (eUn (dXf cs_o_beads "beads") (eV 0)) (aNil))))) (eTup (aCons (eMeth tb_word "word" 0 (eV 1) aNil) (aCons (eUn (dXf cs_o_rod "rod") (eV 1)) (aCons (eUn (dXf cs_o_beads "beads") (eV 1)) (aNil))))))
def m_same_move : List D → R D := mk 2 b_same_move
/-- read_move(text); slots: 0 text, 1 words, 2 rod, 3 beads -/
def b_read_move : DL.Env → Out :=
    sSeq (sIf (bNot (eTru (eCall dIsi (aCons (eV 0) (aCons (eC (.ty "str")) (aNil)))))) (sRaise0 "NoMove") (sNx)) <|
    sSeq (sSet (gNm 1) (eFrz (oM1 oSplit (eV 0) (eC (.str " "))))) <|
    sSeq (sIf (eB (eOp dNe (eCall dLen (aCons (eV 1) (aNil))) (eC (.int 3)))) (sRaise0 "NoMove") (sNx)) <|
    sSeq (sSet (gNm 2) (eFn 1 m_small_number (aCons (eOp dIx (eV 1) (eC (.int 1))) (aNil)))) <|
    sSeq (sSet (gNm 3) (eFn 1 m_small_number (aCons (eOp dIx (eV 1) (eC (.int 2))) (aNil)))) <|
    sSeq (sIf (eB (eOp dEq (eV 3) (eC (.int 0)))) (sRaise0 "NoMove") (sNx)) <|
    sSeq (sIf (eB (eOp dEq (eOp dIx (eV 1) (eC (.int 0))) (eC (.str "up")))) (sRet (eNew2 "Up" "rod" "beads" (aCons (eV 2) (aCons (eV 3) (aNil))))) (sNx)) <|
    sSeq (sIf (eB (eOp dEq (eOp dIx (eV 1) (eC (.int 0))) (eC (.str "down")))) (sRet (eNew2 "Down" "rod" "beads" (aCons (eV 2) (aCons (eV 3) (aNil))))) (sNx)) <|
    sSeq (sIf (eB (eOp dEq (eOp dIx (eV 1) (eC (.int 0))) (eC (.str "put")))) (sRet (eNew2 "Put" "rod" "beads" (aCons (eV 2) (aCons (eV 3) (aNil))))) (sNx)) <|
    sSeq (sIf (eB (eOp dEq (eOp dIx (eV 1) (eC (.int 0))) (eC (.str "take")))) (sRet (eNew2 "Take" "rod" "beads" (aCons (eV 2) (aCons (eV 3) (aNil))))) (sNx)) <|
    sRaise0 "NoMove"
def m_read_move : List D → R D := mk 4 b_read_move
end FT
set_option Elab.async false
set_option linter.all false
set_option maxRecDepth 100000
/-! Functions over trees that several laws share (printed by gen.py from the text of law_k24_whole_rows_done). -/
namespace FR
open PySem DL
def cs_o_beads : List Str := ["Move", "Up", "Down", "Put", "Take"]
def cs_o_rod : List Str := ["Move", "Up", "Down", "Put", "Take"]
/-- Move.contrary(self); slots: 0 self -/
def b_Move_contrary : DL.Env → Out :=
    sRet (eV 0)
def m_Move_contrary : List D → R D := mk 1 b_Move_contrary
/-- Move.reached(self, layout, rod_standing); slots: 0 self, 1 layout, 2 rod_standing -/
def b_Move_reached : DL.Env → Out :=
    sRet (eV 2)
def m_Move_reached : List D → R D := mk 3 b_Move_reached
/-- Up.reached(self, layout, rod_standing); slots: 0 self, 1 layout, 2 rod_standing -/
def b_Up_reached : DL.Env → Out :=
    sRet (eTup (aCons (eOp dIx (eV 2) (eC (.int 0))) (aCons (eOp dAdd (eOp dIx (eV 2) (eC (.int 1))) (eUn (dXf cs_o_beads "beads") (eV 0))) (aNil))))
def m_Up_reached : List D → R D := mk 3 b_Up_reached
/-- Down.reached(self, layout, rod_standing); slots: 0 self, 1 layout, 2 rod_standing -/
def b_Down_reached : DL.Env → Out :=
    sRet (eTup (aCons (eOp dIx (eV 2) (eC (.int 0))) (aCons (eOp dSub (eOp dIx (eV 2) (eC (.int 1))) (eUn (dXf cs_o_beads "beads") (eV 0))) (aNil))))
def m_Down_reached : List D → R D := mk 3 b_Down_reached
/-- Put.reached(self, layout, rod_standing); slots: 0 self, 1 layout, 2 rod_standing -/
def b_Put_reached : DL.Env → Out :=
    sRet (eTup (aCons (eOp dAdd (eOp dIx (eV 2) (eC (.int 0))) (eUn (dXf cs_o_beads "beads") (eV 0))) (aCons (eOp dIx (eV 2) (eC (.int 1))) (aNil))))
def m_Put_reached : List D → R D := mk 3 b_Put_reached
/-- Take.reached(self, layout, rod_standing); slots: 0 self, 1 layout, 2 rod_standing -/
def b_Take_reached : DL.Env → Out :=
    sRet (eTup (aCons (eOp dSub (eOp dIx (eV 2) (eC (.int 0))) (eUn (dXf cs_o_beads "beads") (eV 0))) (aCons (eOp dIx (eV 2) (eC (.int 1))) (aNil))))
def m_Take_reached : List D → R D := mk 3 b_Take_reached
def tb_reached : List (Str × (List D → R D)) := [("Move", m_Move_reached), ("Up", m_Up_reached), ("Down", m_Down_reached), ("Put", m_Put_reached), ("Take", m_Take_reached)]
/-- Move.done(self, frame, standing); slots: 0 self, 1 frame, 2 standing, 3 layout, 4 high, 5 low -/
def b_Move_done : DL.Env → Out :=
    sSeq (sIf (eB (eOp dGe (eUn (dXf cs_o_rod "rod") (eV 0)) (eCall dLen (aCons (eV 1) (aNil))))) (sRaise "Stuck" ["at", "rod"] (aCons (eUn (dXf cs_o_rod "rod") (eV 0)) (aCons (eC .non) (aNil)))) (sNx)) <|
    sSeq (sSet (gNm 3) (eOp dIx (eV 1) (eUn (dXf cs_o_rod "rod") (eV 0)))) <|
    sSeq (sSet (gTp 2 (gsCons (gNm 4) (gsCons (gNm 5) (gsNil)))) (eMeth tb_reached "reached" 2 (eV 0) (aCons (eV 3) (aCons (eOp dIx (eV 2) (eUn (dXf cs_o_rod "rod") (eV 0))) (aNil))))) <|
    sSeq (sIf (bOr (bNot (eB (eChain dLe dLe (eC (.int 0)) (eV 4) (eOp dIx (eV 3) (eC (.int 0)))))) (bNot (eB (eChain dLe dLe (eC (.int 0)) (eV 5) (eOp dIx (eV 3) (eC (.int 2))))))) (sRaise "Stuck" ["at", "rod"] (aCons (eUn (dXf cs_o_rod "rod") (eV 0)) (aCons (eC .non) (aNil)))) (sNx)) <|
    sRet (eOp dAdd (eOp dAdd (eSl (eV 2) (pNo) (pSo (eUn (dXf cs_o_rod "rod") (eV 0)))) (eFrz (oLst (aCons (eTup (aCons (eV 4) (aCons (eV 5) (aNil)))) (aNil))))) (eSl (eV 2) (pSo (eOp dAdd (eUn (dXf cs_o_rod "rod") (eV 0)) (eC (.int 1)))) (pNo)))
def m_Move_done : List D → R D := mk 6 b_Move_done
/-- Up.contrary(self); slots: 0 self -/
def b_Up_contrary : DL.Env → Out :=
    sRet (eNew2 "Down" "rod" "beads" (aCons (eUn (dXf cs_o_rod "rod") (eV 0)) (aCons (eUn (dXf cs_o_beads "beads") (eV 0)) (aNil))))
def m_Up_contrary : List D → R D := mk 1 b_Up_contrary
/-- Down.contrary(self); slots: 0 self -/
def b_Down_contrary : DL.Env → Out :=
    sRet (eNew2 "Up" "rod" "beads" (aCons (eUn (dXf cs_o_rod "rod") (eV 0)) (aCons (eUn (dXf cs_o_beads "beads") (eV 0)) (aNil))))
def m_Down_contrary : List D → R D := mk 1 b_Down_contrary
/-- Put.contrary(self); slots: 0 self -/
def b_Put_contrary : DL.Env → Out :=
    sRet (eNew2 "Take" "rod" "beads" (aCons (eUn (dXf cs_o_rod "rod") (eV 0)) (aCons (eUn (dXf cs_o_beads "beads") (eV 0)) (aNil))))
def m_Put_contrary : List D → R D := mk 1 b_Put_contrary
/-- Take.contrary(self); slots: 0 self -/
def b_Take_contrary : DL.Env → Out :=
    sRet (eNew2 "Put" "rod" "beads" (aCons (eUn (dXf cs_o_rod "rod") (eV 0)) (aCons (eUn (dXf cs_o_beads "beads") (eV 0)) (aNil))))
def m_Take_contrary : List D → R D := mk 1 b_Take_contrary
def tb_done : List (Str × (List D → R D)) := [("Move", m_Move_done), ("Up", m_Move_done), ("Down", m_Move_done), ("Put", m_Move_done), ("Take", m_Move_done)]
/-- done_all(frame, standing, row); slots: 0 frame, 1 standing, 2 row, 3 here, 4 at, 5 move, 6 e -/
def h_done_all1 : Tg :=
    gTp 2 (gsCons (gNm 4) (gsCons (gNm 5) (gsNil)))
def g_done_all1 : DL.Env → Out :=
    sWp [4, 5, 6] (sTryR 6 (subG "Stuck") "Stuck" "rod" "at" "rod" (sSet (gNm 3) (eMeth tb_done "done" 2 (eV 5) (aCons (eV 0) (aCons (eV 3) (aNil))))) (eV 4))
def b_done_all : DL.Env → Out :=
    sSeq (sSet (gNm 3) (eFrz (oCall oList (aCons (eV 1) (aNil))))) <|
    sSeq (sFor (iCall iEnumD (aCons (eV 2) (aNil))) h_done_all1 g_done_all1) <|
    sRet (eV 3)
def m_done_all : List D → R D := mk 7 b_done_all
def tb_contrary : List (Str × (List D → R D)) := [("Move", m_Move_contrary), ("Up", m_Up_contrary), ("Down", m_Down_contrary), ("Put", m_Put_contrary), ("Take", m_Take_contrary)]
/-- way_back(row); slots: 0 row, 1 move -/
def le_way_back1 : DL.Env → R D :=
    eMeth tb_contrary "contrary" 0 (eV 1) aNil
def b_way_back : DL.Env → Out :=
    sRetO (oLc [1] (iCall iRevD (aCons (eV 0) (aNil))) (gNm 1) (bYes) (le_way_back1))
def mo_way_back : List D → R (List D) := mkO 2 b_way_back
def m_way_back : List D → R D := fun ds => (mo_way_back ds).bind fun r => .ok (.lst r)
end FR
set_option Elab.async false
set_option linter.all false
set_option maxRecDepth 100000
/-! Functions over trees that several laws share (printed by gen.py from the text of law_k61_brought_to_other_frames). -/
namespace FM
open PySem DL
/-- _law_rod(_law_rod_here, _law_one, _law_other); slots: 0 _law_rod_here, 1 _law_one, 2 _law_other, 3 _law_found -/
def b_law_rod : DL.Env → Out :=
    sSeq (sSetO 3 (oLst (aNil))) <|
    sSeq (sIf (eB (eOp dGt (eOp dIx (eV 1) (eC (.int 0))) (eOp dIx (eV 2) (eC (.int 0))))) (sApp 3 (eTup (aCons (eC (.str "take")) (aCons (eV 0) (aCons (eOp dSub (eOp dIx (eV 1) (eC (.int 0))) (eOp dIx (eV 2) (eC (.int 0)))) (aNil)))))) (sNx)) <|
    sSeq (sIf (eB (eOp dGt (eOp dIx (eV 1) (eC (.int 1))) (eOp dIx (eV 2) (eC (.int 1))))) (sApp 3 (eTup (aCons (eC (.str "down")) (aCons (eV 0) (aCons (eOp dSub (eOp dIx (eV 1) (eC (.int 1))) (eOp dIx (eV 2) (eC (.int 1)))) (aNil)))))) (sNx)) <|
    sSeq (sIf (eB (eOp dLt (eOp dIx (eV 1) (eC (.int 0))) (eOp dIx (eV 2) (eC (.int 0))))) (sApp 3 (eTup (aCons (eC (.str "put")) (aCons (eV 0) (aCons (eOp dSub (eOp dIx (eV 2) (eC (.int 0))) (eOp dIx (eV 1) (eC (.int 0)))) (aNil)))))) (sNx)) <|
    sSeq (sIf (eB (eOp dLt (eOp dIx (eV 1) (eC (.int 1))) (eOp dIx (eV 2) (eC (.int 1))))) (sApp 3 (eTup (aCons (eC (.str "up")) (aCons (eV 0) (aCons (eOp dSub (eOp dIx (eV 2) (eC (.int 1))) (eOp dIx (eV 1) (eC (.int 1)))) (aNil)))))) (sNx)) <|
    sRetS 3
def mo_law_rod : List D → R (List D) := mkO 4 b_law_rod
def m_law_rod : List D → R D := fun ds => (mo_law_rod ds).bind fun r => .ok (.lst r)
/-- _law_between(_law_one, _law_other); slots: 0 _law_one, 1 _law_other, 2 _law_found, 3 _law_rod_here -/
def h_law_between1 : Tg :=
    gNm 3
def g_law_between1 : DL.Env → Out :=
    sWp [3] (sSet (gNm 2) (eOp dAdd (eV 2) (eFn 3 m_law_rod (aCons (eV 3) (aCons (eOp dIx (eV 0) (eV 3)) (aCons (eOp dIx (eV 1) (eV 3)) (aNil)))))))
def b_law_between : DL.Env → Out :=
    sSeq (sSet (gNm 2) (eFrz (oLst (aNil)))) <|
    sSeq (sFor (iCall iRange3 (aCons (eOp dSub (eCall dLen (aCons (eV 0) (aNil))) (eC (.int 1))) (aCons (eUn dNeg (eC (.int 1))) (aCons (eUn dNeg (eC (.int 1))) (aNil))))) h_law_between1 g_law_between1) <|
    sRet (eV 2)
def m_law_between : List D → R D := mk 4 b_law_between
/-- rod_rows(rod, one, other); slots: 0 rod, 1 one, 2 other, 3 rows -/
def b_rod_rows : DL.Env → Out :=
    sSeq (sSetO 3 (oLst (aNil))) <|
    sSeq (sIf (eB (eOp dGt (eOp dIx (eV 1) (eC (.int 0))) (eOp dIx (eV 2) (eC (.int 0))))) (sApp 3 (eNew2 "Take" "rod" "beads" (aCons (eV 0) (aCons (eOp dSub (eOp dIx (eV 1) (eC (.int 0))) (eOp dIx (eV 2) (eC (.int 0)))) (aNil))))) (sNx)) <|
    sSeq (sIf (eB (eOp dGt (eOp dIx (eV 1) (eC (.int 1))) (eOp dIx (eV 2) (eC (.int 1))))) (sApp 3 (eNew2 "Down" "rod" "beads" (aCons (eV 0) (aCons (eOp dSub (eOp dIx (eV 1) (eC (.int 1))) (eOp dIx (eV 2) (eC (.int 1)))) (aNil))))) (sNx)) <|
    sSeq (sIf (eB (eOp dLt (eOp dIx (eV 1) (eC (.int 0))) (eOp dIx (eV 2) (eC (.int 0))))) (sApp 3 (eNew2 "Put" "rod" "beads" (aCons (eV 0) (aCons (eOp dSub (eOp dIx (eV 2) (eC (.int 0))) (eOp dIx (eV 1) (eC (.int 0)))) (aNil))))) (sNx)) <|
    sSeq (sIf (eB (eOp dLt (eOp dIx (eV 1) (eC (.int 1))) (eOp dIx (eV 2) (eC (.int 1))))) (sApp 3 (eNew2 "Up" "rod" "beads" (aCons (eV 0) (aCons (eOp dSub (eOp dIx (eV 2) (eC (.int 1))) (eOp dIx (eV 1) (eC (.int 1)))) (aNil))))) (sNx)) <|
    sRetS 3
def mo_rod_rows : List D → R (List D) := mkO 4 b_rod_rows
def m_rod_rows : List D → R D := fun ds => (mo_rod_rows ds).bind fun r => .ok (.lst r)
/-- rows_between(frame, one, other); slots: 0 frame, 1 one, 2 other, 3 rows, 4 rod -/
def h_rows_between1 : Tg :=
    gNm 4
def g_rows_between1 : DL.Env → Out :=
    sWp [4] (sExtO 3 (oFn 3 mo_rod_rows (aCons (eV 4) (aCons (eOp dIx (eV 1) (eV 4)) (aCons (eOp dIx (eV 2) (eV 4)) (aNil))))))
def b_rows_between : DL.Env → Out :=
    sSeq (sSetO 3 (oLst (aNil))) <|
    sSeq (sFor (iRevRng (eCall dLen (aCons (eV 0) (aNil)))) h_rows_between1 g_rows_between1) <|
    sRetS 3
def mo_rows_between : List D → R (List D) := mkO 5 b_rows_between
def m_rows_between : List D → R D := fun ds => (mo_rows_between ds).bind fun r => .ok (.lst r)
end FM
set_option Elab.async false
set_option linter.all false
set_option maxRecDepth 100000
set_option maxHeartbeats 1000000
--go: pr_0 pr_1 pr_tp pr_isi pr_len
/-! Moves between standings. -/
namespace FM
open PySem DL L2 LA FA FB FC FD
/-- a move: class, word, rod, beads -/
abbrev Mv := (Str × Str) × Int × Int
def mvO (m : Mv) : D := .obj m.1.1 ["rod", "beads"] [.int m.2.1, .int m.2.2]
def mvT (m : Mv) : D := .tup [.str m.1.2, .int m.2.1, .int m.2.2]
def rodR (r : Int) (p q : Int × Int) : List Mv :=
  (((if q.1 < p.1 then [((("Take", "take"), r, p.1 - q.1) : Mv)] else []) ++ (if q.2 < p.2 then [((("Down", "down"), r, p.2 - q.2) : Mv)] else [])) ++ (if p.1 < q.1 then [((("Put", "put"), r, q.1 - p.1) : Mv)] else [])) ++ (if p.2 < q.2 then [((("Up", "up"), r, q.2 - p.2) : Mv)] else [])
theorem rodR_len (r : Int) (p q : Int × Int) : (rodR r p q).length ≤ 4 := by
  unfold rodR
  simp only [List.length_append]
  split <;> split <;> split <;> split <;> simp
def Cw (c : Str × Str) : Prop := c = (("Take" : Str), ("take" : Str)) ∨ c = (("Down" : Str), ("down" : Str)) ∨ c = (("Put" : Str), ("put" : Str)) ∨ c = (("Up" : Str), ("up" : Str))
theorem rodR_cw (r : Int) (p q : Int × Int) : ∀ m ∈ rodR r p q, Cw m.1 := by
  intro m hm
  unfold rodR at hm
  simp only [List.mem_append] at hm
  rcases hm with ((hm | hm) | hm) | hm
  · split at hm
    · rw [List.mem_singleton.mp hm]; exact .inl rfl
    · cases hm
  · split at hm
    · rw [List.mem_singleton.mp hm]; exact .inr (.inl rfl)
    · cases hm
  · split at hm
    · rw [List.mem_singleton.mp hm]; exact .inr (.inr (.inl rfl))
    · cases hm
  · split at hm
    · rw [List.mem_singleton.mp hm]; exact .inr (.inr (.inr rfl))
    · cases hm
theorem rod_rows (r : Int) (p q : Int × Int) : mo_rod_rows [.int r, pairD p, pairD q] = .ok ((rodR r p q).map mvO) := by
  unfold mo_rod_rows b_rod_rows rodR
  by_cases h1 : q.1 < p.1
  · have h1' : ¬ p.1 < q.1 := by omega
    by_cases h2 : q.2 < p.2
    · have h2' : ¬ p.2 < q.2 := by omega
      simp_arith [pr_0, pr_1, pr_tp, pr_isi, pr_len, h1, h1', h2, h2', mvO]
    · by_cases h3 : p.2 < q.2 <;> simp_arith [pr_0, pr_1, pr_tp, pr_isi, pr_len, h1, h1', h2, h3, mvO]
  · by_cases h4 : p.1 < q.1
    · by_cases h2 : q.2 < p.2
      · have h2' : ¬ p.2 < q.2 := by omega
        simp_arith [pr_0, pr_1, pr_tp, pr_isi, pr_len, h1, h4, h2, h2', mvO]
      · by_cases h3 : p.2 < q.2 <;> simp_arith [pr_0, pr_1, pr_tp, pr_isi, pr_len, h1, h4, h2, h3, mvO]
    · by_cases h2 : q.2 < p.2
      · have h2' : ¬ p.2 < q.2 := by omega
        simp_arith [pr_0, pr_1, pr_tp, pr_isi, pr_len, h1, h4, h2, h2', mvO]
      · by_cases h3 : p.2 < q.2 <;> simp_arith [pr_0, pr_1, pr_tp, pr_isi, pr_len, h1, h4, h2, h3, mvO]
theorem law_rodO (r : Int) (p q : Int × Int) : mo_law_rod [.int r, pairD p, pairD q] = .ok ((rodR r p q).map mvT) := by
  unfold mo_law_rod b_law_rod rodR
  by_cases h1 : q.1 < p.1
  · have h1' : ¬ p.1 < q.1 := by omega
    by_cases h2 : q.2 < p.2
    · have h2' : ¬ p.2 < q.2 := by omega
      simp_arith [pr_0, pr_1, pr_tp, pr_isi, pr_len, h1, h1', h2, h2', mvT]
    · by_cases h3 : p.2 < q.2 <;> simp_arith [pr_0, pr_1, pr_tp, pr_isi, pr_len, h1, h1', h2, h3, mvT]
  · by_cases h4 : p.1 < q.1
    · by_cases h2 : q.2 < p.2
      · have h2' : ¬ p.2 < q.2 := by omega
        simp_arith [pr_0, pr_1, pr_tp, pr_isi, pr_len, h1, h4, h2, h2', mvT]
      · by_cases h3 : p.2 < q.2 <;> simp_arith [pr_0, pr_1, pr_tp, pr_isi, pr_len, h1, h4, h2, h3, mvT]
    · by_cases h2 : q.2 < p.2
      · have h2' : ¬ p.2 < q.2 := by omega
        simp_arith [pr_0, pr_1, pr_tp, pr_isi, pr_len, h1, h4, h2, h2', mvT]
      · by_cases h3 : p.2 < q.2 <;> simp_arith [pr_0, pr_1, pr_tp, pr_isi, pr_len, h1, h4, h2, h3, mvT]
theorem law_rod (r : Int) (p q : Int × Int) : m_law_rod [.int r, pairD p, pairD q] = .ok (.lst ((rodR r p q).map mvT)) := by
  show R.bind _ _ = _
  rw [law_rodO]
  rfl
def atS (s : List (Int × Int)) (i : Nat) : Int × Int := s.getD i (0, 0)
/-- the moves of the rods n - 1, .., n - k -/
def betK (s t : List (Int × Int)) (n : Nat) : Nat → List Mv
  | 0 => []
  | k + 1 => betK s t n k ++ rodR ((n - 1 - k : Nat) : Int) (atS s (n - 1 - k)) (atS t (n - 1 - k))
def bet (s t : List (Int × Int)) : List Mv := betK s t s.length s.length
theorem betK_len (s t : List (Int × Int)) (n : Nat) : ∀ k, (betK s t n k).length ≤ 4 * k
  | 0 => Nat.le_refl _
  | k + 1 => by
    show (betK s t n k ++ _).length ≤ _
    rw [List.length_append]
    have := betK_len s t n k
    have := rodR_len ((n - 1 - k : Nat) : Int) (atS s (n - 1 - k)) (atS t (n - 1 - k))
    omega
theorem betK_cw (s t : List (Int × Int)) (n : Nat) : ∀ k, ∀ m ∈ betK s t n k, Cw m.1
  | 0, m, hm => by cases hm
  | k + 1, m, hm => by
    rcases List.mem_append.mp hm with hm | hm
    · exact betK_cw s t n k m hm
    · exact rodR_cw _ _ _ m hm
theorem atS_ix {s : List (Int × Int)} {i : Nat} (h : i < s.length) : dIx (.lst (s.map pairD)) (.int (i : Nat)) = .ok (pairD (atS s i)) := dIx_n (by
  rw [List.getElem?_map, List.getElem?_eq_getElem h]
  show some (pairD _) = _
  unfold atS
  rw [List.getD_eq_getElem?_getD, List.getElem?_eq_getElem h]
  rfl)
theorem rows_betweenO {ds : List D} {s t : List (Int × Int)} (hs : s.length = ds.length) (ht : t.length = ds.length) (hn : ds.length ≤ 1000) : mo_rows_between [.lst ds, .lst (s.map pairD), .lst (t.map pairD)] = .ok ((bet s t).map mvO) := by
  unfold mo_rows_between b_rows_between
  have l1 := for_dn (h := h_rows_between1) (g := g_rows_between1) ((ds.length : Nat) - 1) ds.length (fun k => [some (.val (.lst ds)), some (.val (.lst (s.map pairD))), some (.val (.lst (t.map pairD))), some (.own ((betK s t ds.length k).map mvO)), none]) (by
    intro k hk
    have e : ((ds.length : Nat) : Int) - 1 + (k : Nat) * (-1) = ((ds.length - 1 - k : Nat) : Int) := by omega
    rw [e]
    have i1 := atS_ix (s := s) (i := ds.length - 1 - k) (by omega)
    have i2 := atS_ix (s := t) (i := ds.length - 1 - k) (by omega)
    have rr := rod_rows ((ds.length - 1 - k : Nat) : Int) (atS s (ds.length - 1 - k)) (atS t (ds.length - 1 - k))
    have b1 := betK_len s t ds.length k
    have b2 := rodR_len ((ds.length - 1 - k : Nat) : Int) (atS s (ds.length - 1 - k)) (atS t (ds.length - 1 - k))
    simp_arith [pr_0, pr_1, pr_tp, pr_isi, pr_len, h_rows_between1, g_rows_between1, i1, i2, rr, betK, List.map_append])
  have ir : inR62 ((ds.length : Nat) : Int) = true := by
    unfold inR62
    simp only [Bool.and_eq_true, decide_eq_true_eq]
    omega
  simp_arith [pr_0, pr_1, pr_tp, pr_isi, pr_len, betK] at l1
  simp_arith [pr_0, pr_1, pr_tp, pr_isi, pr_len, ir, Int.toNat_natCast, l1]
  unfold bet
  rw [hs]
theorem rows_between {ds : List D} {s t : List (Int × Int)} (hs : s.length = ds.length) (ht : t.length = ds.length) (hn : ds.length ≤ 1000) : m_rows_between [.lst ds, .lst (s.map pairD), .lst (t.map pairD)] = .ok (.lst ((bet s t).map mvO)) := by
  show R.bind _ _ = _
  rw [rows_betweenO hs ht hn]
  rfl
theorem law_between {s t : List (Int × Int)} (ht : t.length = s.length) (hn : s.length ≤ 1000) : m_law_between [.lst (s.map pairD), .lst (t.map pairD)] = .ok (.lst ((bet s t).map mvT)) := by
  unfold m_law_between b_law_between
  have l1 := for_dn (h := h_law_between1) (g := g_law_between1) ((s.length : Nat) - 1) s.length (fun k => [some (.val (.lst (s.map pairD))), some (.val (.lst (t.map pairD))), some (.val (.lst ((betK s t s.length k).map mvT))), none]) (by
    intro k hk
    have e : ((s.length : Nat) : Int) - 1 + (k : Nat) * (-1) = ((s.length - 1 - k : Nat) : Int) := by omega
    rw [e]
    have i1 := atS_ix (s := s) (i := s.length - 1 - k) (by omega)
    have i2 := atS_ix (s := t) (i := s.length - 1 - k) (by omega)
    have rr := law_rod ((s.length - 1 - k : Nat) : Int) (atS s (s.length - 1 - k)) (atS t (s.length - 1 - k))
    have b1 := betK_len s t s.length k
    have b2 := rodR_len ((s.length - 1 - k : Nat) : Int) (atS s (s.length - 1 - k)) (atS t (s.length - 1 - k))
    have ad := dAdd_l (xs := (betK s t s.length k).map mvT) (ys := (rodR ((s.length - 1 - k : Nat) : Int) (atS s (s.length - 1 - k)) (atS t (s.length - 1 - k))).map mvT) (by rw [List.length_map, List.length_map]; omega)
    simp_arith [pr_0, pr_1, pr_tp, pr_isi, pr_len, h_law_between1, g_law_between1, i1, i2, rr, ad, betK, List.map_append])
  have ir : iRange3 [.int ((s.length : Nat) - 1), .int (-1), .int (-1)] = .ok (rngDn ((s.length : Nat) - 1) s.length) := by
    unfold iRange3
    have h1 : inR62 ((s.length : Nat) - 1 : Int) = true := by
      unfold inR62
      simp only [Bool.and_eq_true, decide_eq_true_eq]
      omega
    show (if (inR62 ((s.length : Nat) - 1 : Int) && inR62 (-1) && decide ((-1 : Int) = -1)) = true then R.ok (rngDn ((s.length : Nat) - 1) ((s.length : Nat) - 1 - -1 : Int).toNat) else R.stuck) = _
    rw [h1, if_pos (by decide)]
    rw [show ((s.length : Nat) - 1 - -1 : Int).toNat = s.length by omega]
  simp_arith [pr_0, pr_1, pr_tp, pr_isi, pr_len, betK] at l1
  simp_arith [pr_0, pr_1, pr_tp, pr_isi, pr_len, ir, l1]
  rfl
end FM
set_option Elab.async false
set_option linter.all false
set_option maxRecDepth 100000
set_option maxHeartbeats 1000000
/-! The laws' drawn layouts, frames, standings by cells (the second family). -/
--go: Lay.ix0 Lay.ix1 Lay.ix2 Lay.ix3 Lay.tp pr_0 pr_1 pr_tp pr_isi prs_same prs_nsame lays_same lays_nsame
namespace LB
open PySem DL L2 LA FA FB FC FD
/-- _law_cell -/
def cell (ns : List Int) (k : Int) : Int :=
  if k < ns.length then ns.getD k.toNat 0
  else if 0 < ns.length then (k * 48271 + 11 + ns.getD (k * 7 % (ns.length : Nat)).toNat 0 % 2147483647 * 69621) * (k * 48271 + 11 + ns.getD (k * 7 % (ns.length : Nat)).toNat 0 % 2147483647 * 69621) % 2147483629
  else (k * 48271 + 11) * (k * 48271 + 11) % 2147483629
theorem law_cell (ns : List Int) {k : Int} (h0 : 0 ≤ k) (h1 : k < 1000000) : m_law_cell [.scr ns, .int k] = .ok (.int (cell ns k)) := by
  unfold m_law_cell b_law_cell cell
  by_cases c1 : k < ns.length
  · simp_arith [Lay.ix0, Lay.ix1, Lay.ix2, Lay.ix3, Lay.tp, pr_0, pr_1, pr_tp, pr_isi, prs_same, prs_nsame, lays_same, lays_nsame, c1]
  · by_cases c2 : 0 < ns.length
    · have q0 := Int.emod_nonneg (k * 7) (show ((ns.length : Nat) : Int) ≠ 0 by omega)
      have q1 := Int.emod_lt_of_pos (k * 7) (show 0 < ((ns.length : Nat) : Int) by omega)
      have em := dMod_i (i := k * 7) (show 0 < ((ns.length : Nat) : Int) by omega)
      have ix := dIx_scr (ns := ns) q0 q1
      generalize k * 7 % (ns.length : Nat) = j at *
      generalize ns.getD j.toNat 0 = v at *
      simp_arith [Lay.ix0, Lay.ix1, Lay.ix2, Lay.ix3, Lay.tp, pr_0, pr_1, pr_tp, pr_isi, prs_same, prs_nsame, lays_same, lays_nsame, c1, c2, ix, em]
    · simp_arith [Lay.ix0, Lay.ix1, Lay.ix2, Lay.ix3, Lay.tp, pr_0, pr_1, pr_tp, pr_isi, prs_same, prs_nsame, lays_same, lays_nsame, c1, c2]
/-- _law_layout -/
def layB (c0 : Int) : Lay :=
  let c := c0 % 10 ^ 40
  let u := if c % 4 = 0 then 0 else if c % 4 = 1 then 1 else if c % 4 = 2 then 2 else 1 + c / 4 % 6
  if u = 0 then
    let b := 2 + c / 24 % 24
    ⟨0, 1, if b - 1 + c / 576 % 4 < 24 then b - 1 + c / 576 % 4 else 24, b⟩
  else
    let w := if c / 480 % 2 = 0 then 5 else 1 + c / 24 % 20
    let l := w - 1 + c / 960 % 5
    let m := if u * w + l + 1 < 25 then u * w + l + 1 else 25
    ⟨u, w, l, if c / 9600 % 2 = 0 then m else 2 + c / 4800 % (m - 1)⟩
theorem dIx_four {a b c d : D} {i : Int} (h0 : 0 ≤ i) (h1 : i < 4) : dIx (.lst [a, b, c, d]) (.int i) = .ok (if i = 0 then a else if i = 1 then b else if i = 2 then c else d) := by
  rcases (by omega : i = 0 ∨ i = 1 ∨ i = 2 ∨ i = 3) with e | e | e | e <;> subst e <;> rfl
theorem if_int {p : Prop} [Decidable p] {a b : Int} : (if p then D.int a else D.int b) = D.int (if p then a else b) := by split <;> rfl
theorem layB_facts (c : Int) (hc : 0 ≤ c) (u : Int) (hu : 1 ≤ u ∧ u ≤ 6) :
    let w := if c / 480 % 2 = 0 then 5 else 1 + c / 24 % 20
    let l := w - 1 + c / 960 % 5
    let m := if u * w + l + 1 < 25 then u * w + l + 1 else 25
    1 ≤ w ∧ w ≤ 20 ∧ w - 1 ≤ l ∧ l ≤ w + 3 ∧ w ≤ u * w ∧ 2 ≤ m ∧ m ≤ 25 ∧ m ≤ u * w + l + 1 ∧ 2 ≤ 2 + c / 4800 % (m - 1) ∧ 2 + c / 4800 % (m - 1) ≤ m := by
  intro w l m
  have hw : 1 ≤ w ∧ w ≤ 20 := by show 1 ≤ ite _ _ _ ∧ ite _ _ _ ≤ _; split <;> omega
  have hl : w - 1 ≤ l ∧ l ≤ w + 3 := by show w - 1 ≤ w - 1 + c / 960 % 5 ∧ w - 1 + c / 960 % 5 ≤ _; omega
  have hp : 1 * w ≤ u * w := Int.mul_le_mul_of_nonneg_right (by omega) (by omega)
  have hm : 2 ≤ m ∧ m ≤ 25 ∧ m ≤ u * w + l + 1 := by show 2 ≤ ite _ _ _ ∧ ite _ _ _ ≤ _ ∧ ite _ _ _ ≤ _; split <;> omega
  have e1 := Int.emod_nonneg (c / 4800) (show m - 1 ≠ 0 by omega)
  have e2 := Int.emod_lt_of_pos (c / 4800) (show 0 < m - 1 by omega)
  refine ⟨hw.1, hw.2, hl.1, hl.2, by omega, hm.1, hm.2.1, hm.2.2, by omega, by omega⟩
theorem u_le (c : Int) (h : ¬ (if c % 4 = 0 then (0 : Int) else if c % 4 = 1 then 1 else if c % 4 = 2 then 2 else 1 + c / 4 % 6) = 0) :
    1 ≤ (if c % 4 = 0 then (0 : Int) else if c % 4 = 1 then 1 else if c % 4 = 2 then 2 else 1 + c / 4 % 6) ∧ (if c % 4 = 0 then (0 : Int) else if c % 4 = 1 then 1 else if c % 4 = 2 then 2 else 1 + c / 4 % 6) ≤ 6 := by
  by_cases h0 : c % 4 = 0
  · rw [if_pos h0] at h; exact absurd rfl h
  · by_cases h1 : c % 4 = 1
    · rw [if_neg h0, if_pos h1]; decide
    · by_cases h2 : c % 4 = 2
      · rw [if_neg h0, if_neg h1, if_pos h2]; decide
      · rw [if_neg h0, if_neg h1, if_neg h2]; omega
theorem law_layout (c : Int) : m_law_layout [.int c] = .ok (layB c).d := by
  have ep : dPow (.int 10) (.int 40) = .ok (.int (10 ^ 40)) := rfl
  have em := dMod_i (i := c) (j := 10 ^ 40) (by decide)
  unfold m_law_layout b_law_layout layB
  have c0 : 0 ≤ c % 10 ^ 40 := Int.emod_nonneg _ (by decide)
  generalize c % 10 ^ 40 = c at *
  have i4 := dIx_four (a := .int 0) (b := .int 1) (c := .int 2) (d := .int (1 + c / 4 % 6)) (i := c % 4) (by omega) (by omega)
  simp only [if_int] at i4
  dsimp only
  have ul := u_le c
  generalize hu : (if c % 4 = 0 then (0 : Int) else if c % 4 = 1 then 1 else if c % 4 = 2 then 2 else 1 + c / 4 % 6) = u at *
  clear hu
  by_cases h : u = 0
  · rw [if_pos h]
    simp_arith [Lay.ix0, Lay.ix1, Lay.ix2, Lay.ix3, Lay.tp, pr_0, pr_1, pr_tp, pr_isi, prs_same, prs_nsame, lays_same, lays_nsame, ep, em, i4, h, Lay.d]
  · rw [if_neg h]
    obtain ⟨f1, f2, f3, f4, f5, f6, f7, f8, f9, f10⟩ := layB_facts c c0 u (ul h)
    have i2 := dIx_two (a := .int 5) (b := .int (1 + c / 24 % 20)) (i := c / 480 % 2) (by omega) (by omega)
    have i2' := fun a b => dIx_two (a := .int a) (b := .int b) (i := c / 9600 % 2) (by omega) (by omega)
    simp only [if_int] at i2 i2'
    generalize hw : (if c / 480 % 2 = 0 then (5 : Int) else 1 + c / 24 % 20) = w at *
    generalize hm : (if u * w + (w - 1 + c / 960 % 5) + 1 < 25 then u * w + (w - 1 + c / 960 % 5) + 1 else 25) = m at *
    have em2 := dMod_i (i := c / 4800) (j := m - 1) (by omega)
    simp_arith [Lay.ix0, Lay.ix1, Lay.ix2, Lay.ix3, Lay.tp, pr_0, pr_1, pr_tp, pr_isi, prs_same, prs_nsame, lays_same, lays_nsame, ep, em, i4, h, i2, i2', hm, em2, Lay.d]
theorem layB_ok (c : Int) : (layB c).Ok := by
  unfold layB
  have c0 : 0 ≤ c % 10 ^ 40 := Int.emod_nonneg _ (by decide)
  generalize c % 10 ^ 40 = c at *
  dsimp only
  have ul := u_le c
  generalize hu : (if c % 4 = 0 then (0 : Int) else if c % 4 = 1 then 1 else if c % 4 = 2 then 2 else 1 + c / 4 % 6) = u at *
  by_cases h : u = 0
  · rw [if_pos h]
    refine ⟨?_, ?_, ?_, ?_, ?_, ?_, ?_, ?_, ?_, ?_, ?_⟩ <;> dsimp only <;> first | omega | (split <;> omega)
  · rw [if_neg h]
    obtain ⟨f1, f2, f3, f4, f5, f6, f7, f8, f9, f10⟩ := layB_facts c c0 u (ul h)
    generalize hw : (if c / 480 % 2 = 0 then (5 : Int) else 1 + c / 24 % 20) = w at *
    generalize hm : (if u * w + (w - 1 + c / 960 % 5) + 1 < 25 then u * w + (w - 1 + c / 960 % 5) + 1 else 25) = m at *
    have := ul h
    refine ⟨?_, ?_, ?_, ?_, ?_, ?_, ?_, ?_, ?_, ?_, ?_⟩ <;> dsimp only <;> first | omega | (split <;> omega)
/-- _law_frame -/
def frB (ns : List Int) (a most : Int) : List Lay := (List.range (1 + cell ns a % most).toNat).map fun (k : Nat) => layB (cell ns (a + 1 + k))
theorem frB_len (ns : List Int) (a : Int) {most : Int} (h0 : 0 < most) : 1 ≤ (frB ns a most).length ∧ ((frB ns a most).length : Int) ≤ most := by
  have e1 := Int.emod_nonneg (cell ns a) (show most ≠ 0 by omega)
  have e2 := Int.emod_lt_of_pos (cell ns a) h0
  unfold frB
  rw [List.length_map, List.length_range]
  omega
theorem frB_ok (ns : List Int) (a most : Int) : ∀ x ∈ frB ns a most, x.Ok := by
  intro x hx
  unfold frB at hx
  obtain ⟨k, _, rfl⟩ := List.mem_map.mp hx
  exact layB_ok _
theorem law_frameO (ns : List Int) {a most : Int} (ha : 0 ≤ a) (ha' : a < 100000) (h0 : 0 < most) (h1 : most ≤ 1000) : mo_law_frame [.scr ns, .int a, .int most] = .ok ((frB ns a most).map Lay.d) := by
  have e0 := law_cell ns ha (by omega)
  have q1 := Int.emod_nonneg (cell ns a) (show most ≠ 0 by omega)
  have q2 := Int.emod_lt_of_pos (cell ns a) h0
  have em := dMod_i (i := cell ns a) h0
  have er := iRng1 (j := 1 + cell ns a % most) (by omega) (by omega)
  unfold mo_law_frame b_law_frame
  have lc := oLc_map (h := gNm 3) (fe := le_law_frame1) (vs := [3]) (fi := iCall iRange1 (aCons (eOp dAdd (eC (.int 1)) (eOp dMod (eFn 2 m_law_cell (aCons (eV 0) (aCons (eV 1) (aNil)))) (eV 2))) (aNil)))
    (Γ := [some (.val (.scr ns)), some (.val (.int (a))), some (.val (.int (most))), none]) (List.range (1 + cell ns a % most).toNat) (fun k => .int ((k : Nat) : Int)) (fun k => (layB (cell ns (a + 1 + (k : Nat)))).d)
    (by simp_arith [Lay.ix0, Lay.ix1, Lay.ix2, Lay.ix3, Lay.tp, pr_0, pr_1, pr_tp, pr_isi, prs_same, prs_nsame, lays_same, lays_nsame, e0, em, er, rngL_0]) (by rw [List.length_range]; show _ ≤ 16777216; omega) (by
      intro k hk
      have hk := List.mem_range.mp hk
      have e1 := law_cell ns (k := a + 1 + (k : Nat)) (by omega) (by omega)
      have e2 := law_layout (cell ns (a + 1 + (k : Nat)))
      simp_arith [Lay.ix0, Lay.ix1, Lay.ix2, Lay.ix3, Lay.tp, pr_0, pr_1, pr_tp, pr_isi, prs_same, prs_nsame, lays_same, lays_nsame, le_law_frame1, e1, e2])
  simp_arith [Lay.ix0, Lay.ix1, Lay.ix2, Lay.ix3, Lay.tp, pr_0, pr_1, pr_tp, pr_isi, prs_same, prs_nsame, lays_same, lays_nsame, lc]
  unfold frB
  rw [List.map_map]
  rfl
theorem law_frame (ns : List Int) {a most : Int} (ha : 0 ≤ a) (ha' : a < 100000) (h0 : 0 < most) (h1 : most ≤ 1000) : m_law_frame [.scr ns, .int a, .int most] = .ok (.lst ((frB ns a most).map Lay.d)) := by
  show R.bind _ _ = _
  rw [law_frameO ns ha ha' h0 h1]; rfl
/-- _law_standing -/
def stB1 (c : Int) (x : Lay) : Int × Int := (c % 10 ^ 40 % (x.u + 1), c % 10 ^ 40 / 7 % (x.l + 1))
def stB (ns : List Int) (a : Int) (f : List Lay) : List (Int × Int) := f.zipIdx.map fun q => stB1 (cell ns (a + (q.2 : Nat))) q.1
theorem stB_len (ns : List Int) (a : Int) (f : List Lay) : (stB ns a f).length = f.length := by unfold stB; rw [List.length_map, List.length_zipIdx]
theorem stB_get (ns : List Int) (a : Int) (f : List Lay) {i : Nat} {x : Lay} (h : f[i]? = some x) : (stB ns a f)[i]? = some (stB1 (cell ns (a + (i : Nat))) x) := by
  unfold stB
  rw [List.getElem?_map, List.getElem?_zipIdx, h]
  simp
/-- the beads of s are there -/
def Fits (f : List Lay) (s : List (Int × Int)) : Prop := s.length = f.length ∧ ∀ (i : Nat) (x : Lay) (p : Int × Int), f[i]? = some x → s[i]? = some p → 0 ≤ p.1 ∧ p.1 ≤ x.u ∧ 0 ≤ p.2 ∧ p.2 ≤ x.l
theorem stB_fits (ns : List Int) (a : Int) {f : List Lay} (hf : ∀ x ∈ f, x.Ok) : Fits f (stB ns a f) := by
  refine ⟨stB_len ns a f, fun i x p hx hp => ?_⟩
  rw [stB_get ns a f hx] at hp
  cases hp
  have ok := hf x (List.mem_of_getElem? hx)
  have := ok.u0
  have := ok.l0
  show 0 ≤ _ % (x.u + 1) ∧ _ % (x.u + 1) ≤ x.u ∧ 0 ≤ _ % (x.l + 1) ∧ _ % (x.l + 1) ≤ x.l
  have := Int.emod_nonneg (cell ns (a + (i : Nat)) % 10 ^ 40) (show x.u + 1 ≠ 0 by omega)
  have := Int.emod_lt_of_pos (cell ns (a + (i : Nat)) % 10 ^ 40) (show 0 < x.u + 1 by omega)
  have := Int.emod_nonneg (cell ns (a + (i : Nat)) % 10 ^ 40 / 7) (show x.l + 1 ≠ 0 by omega)
  have := Int.emod_lt_of_pos (cell ns (a + (i : Nat)) % 10 ^ 40 / 7) (show 0 < x.l + 1 by omega)
  omega
theorem law_standingO (ns : List Int) {a : Int} (ha : 0 ≤ a) (ha' : a < 100000) {f : List Lay} (hf : ∀ x ∈ f, x.Ok) (hl : f.length ≤ 1000) : mo_law_standing [.scr ns, .int a, .lst (f.map Lay.d)] = .ok ((stB ns a f).map pairD) := by
  have e := for_enum (h := h_law_standing1) (g := g_law_standing1) f Lay.d (fun i => [some (.val (.scr ns)), some (.val (.int (a))), some (.val (.lst (f.map Lay.d))), some (.own (((stB ns a f).take i).map pairD)), none, none, none]) (by
    intro i x hx
    have ok := hf x (List.mem_of_getElem? hx)
    have hi : i < f.length := (List.getElem?_eq_some_iff.mp hx).1
    have := ok.u0
    have := ok.l0
    have e1 := law_cell ns (k := a + (i : Nat)) (by omega) (by omega)
    have ep : dPow (.int 10) (.int 40) = .ok (.int (10 ^ 40)) := rfl
    have em := fun c => dMod_i (i := c) (j := 10 ^ 40) (by decide)
    have em2 := fun c => dMod_i (i := c) (j := x.u + 1) (by omega)
    have em3 := fun c => dMod_i (i := c) (j := x.l + 1) (by omega)
    have e2 : ((stB ns a f).take i).length < 16777216 := by rw [List.length_take, stB_len]; omega
    have e3 : pairD (stB1 (cell ns (a + (i : Nat))) x) = .tup [.int (cell ns (a + (i : Nat)) % 10 ^ 40 % (x.u + 1)), .int (cell ns (a + (i : Nat)) % 10 ^ 40 / 7 % (x.l + 1))] := rfl
    simp_arith [Lay.ix0, Lay.ix1, Lay.ix2, Lay.ix3, Lay.tp, pr_0, pr_1, pr_tp, pr_isi, prs_same, prs_nsame, lays_same, lays_nsame, h_law_standing1, g_law_standing1, e1, ep, em, em2, em3, take_succ_get (stB_get ns a f hx), List.map_append, e3])
  have e2 : (stB ns a f).take f.length = stB ns a f := by rw [← stB_len ns a f, List.take_length]
  simp_arith [Lay.ix0, Lay.ix1, Lay.ix2, Lay.ix3, Lay.tp, pr_0, pr_1, pr_tp, pr_isi, prs_same, prs_nsame, lays_same, lays_nsame, List.take_zero] at e
  unfold mo_law_standing b_law_standing
  simp_arith [Lay.ix0, Lay.ix1, Lay.ix2, Lay.ix3, Lay.tp, pr_0, pr_1, pr_tp, pr_isi, prs_same, prs_nsame, lays_same, lays_nsame, e, e2]
theorem law_standing (ns : List Int) {a : Int} (ha : 0 ≤ a) (ha' : a < 100000) {f : List Lay} (hf : ∀ x ∈ f, x.Ok) (hl : f.length ≤ 1000) : m_law_standing [.scr ns, .int a, .lst (f.map Lay.d)] = .ok (.lst ((stB ns a f).map pairD)) := by
  show R.bind _ _ = _
  rw [law_standingO ns ha ha' hf hl]; rfl
theorem law_plain {x : Lay} (ok : x.Ok) (n : Int) : m_law_plain [x.d, .int n] = .ok (pairD (pl x n)) := by
  have := ok.w1
  have := ok.w20
  have := ok.u0
  have := ok.u6
  have hu : (if n / x.w < x.u then n / x.w else x.u) = hi x n := rfl
  unfold m_law_plain b_law_plain
  simp_arith [Lay.ix0, Lay.ix1, Lay.ix2, Lay.ix3, Lay.tp, pr_0, pr_1, pr_tp, pr_isi, prs_same, prs_nsame, lays_same, lays_nsame, hu]
  rfl
/-- the sum up to rod i -/
def bsum (l : List (Lay × (Int × Int))) (f : List Lay) (i : Nat) : Int := bnz l - plc f i * bnz (l.drop i)
theorem law_borne {f : List Lay} {s : List (Int × Int)} (hf : ∀ x ∈ f, x.Ok) (hs : Fits f s) : m_law_borne [.lst (f.map Lay.d), .lst (s.map pairD)] = .ok (.int (bnz (f.zip s))) := by
  have e := for_enum (h := h_law_borne1) (g := g_law_borne1) f Lay.d (fun i => [some (.val (.lst (f.map Lay.d))), some (.val (.lst (s.map pairD))), some (.val (.int (bsum (f.zip s) f i))), some (.val (.int (plc f i))), none, none, none, none]) (by
    intro i x hx
    have ok := hf x (List.mem_of_getElem? hx)
    have hi : i < f.length := (List.getElem?_eq_some_iff.mp hx).1
    have his : i < s.length := by rw [hs.1]; exact hi
    have w1 := ok.w1
    have w20 := ok.w20
    have b2 := ok.b2
    have b25 := ok.b25
    have u6 := ok.u6
    have l24 := ok.l24
    have hp : s[i]? = some s[i] := List.getElem?_eq_getElem his
    obtain ⟨p1, p2, p3, p4⟩ := hs.2 i x _ hx hp
    have ix : dIx (.lst (s.map pairD)) (.int (i : Nat)) = .ok (pairD s[i]) := dIx_n (by rw [List.getElem?_map, hp]; rfl)
    generalize s[i] = p at *
    have hq := Int.mul_le_mul (show p.1 ≤ 6 by omega) w20 (by omega) (by decide)
    have hq0 := Int.mul_nonneg p1 (show 0 ≤ x.w by omega)
    have e1 : plc f (i + 1) = plc f i * x.b := by
      show plc f i * (lat f i).b = _
      rw [lat_of hx]
    have e2 : bsum (f.zip s) f (i + 1) = bsum (f.zip s) f i + (p.1 * x.w + p.2) * plc f i := by
      have hz : (f.zip s)[i]? = some (x, p) := by
        rw [List.getElem?_zip_eq_some]
        exact ⟨hx, hp⟩
      have hd : (f.zip s).drop i = (x, p) :: (f.zip s).drop (i + 1) := by
        obtain ⟨h1, h2⟩ := List.getElem?_eq_some_iff.mp hz
        rw [← h2]
        exact List.drop_eq_getElem_cons h1
      unfold bsum
      rw [hd, e1]
      show _ = bnz (f.zip s) - plc f i * (bnz ((f.zip s).drop (i + 1)) * x.b + (p.1 * x.w + p.2)) + _
      rw [Int.mul_add, Int.mul_comm (p.1 * x.w + p.2), Int.mul_assoc, Int.mul_comm x.b]
      omega
    simp_arith [Lay.ix0, Lay.ix1, Lay.ix2, Lay.ix3, Lay.tp, pr_0, pr_1, pr_tp, pr_isi, prs_same, prs_nsame, lays_same, lays_nsame, h_law_borne1, g_law_borne1, ix, e1, e2])
  have e0 : bsum (f.zip s) f 0 = 0 := by
    unfold bsum
    rw [List.drop_zero]
    show bnz _ - 1 * bnz _ = 0
    omega
  have e1 : bsum (f.zip s) f f.length = bnz (f.zip s) := by
    unfold bsum
    rw [List.drop_of_length_le (by rw [List.length_zip]; omega)]
    show bnz _ - _ * 0 = _
    omega
  have e2 : plc f 0 = 1 := rfl
  rw [e1] at e
  simp_arith [Lay.ix0, Lay.ix1, Lay.ix2, Lay.ix3, Lay.tp, pr_0, pr_1, pr_tp, pr_isi, prs_same, prs_nsame, lays_same, lays_nsame, e0, e2] at e
  unfold m_law_borne b_law_borne
  simp_arith [Lay.ix0, Lay.ix1, Lay.ix2, Lay.ix3, Lay.tp, pr_0, pr_1, pr_tp, pr_isi, prs_same, prs_nsame, lays_same, lays_nsame, e]
theorem law_whole_i (i : Int) : m_law_whole [.int i] = .ok (.bl true) := by
  unfold m_law_whole b_law_whole
  simp_arith [Lay.ix0, Lay.ix1, Lay.ix2, Lay.ix3, Lay.tp, pr_0, pr_1, pr_tp, pr_isi, prs_same, prs_nsame, lays_same, lays_nsame]
theorem gcd_loop (b : Nat) : ∀ (a fuel : Nat), b < fuel → loopW t_law_divisor1 g_law_divisor1 fuel [some (.val (.int ((a : Nat)))), some (.val (.int ((b : Nat))))] = .nx [some (.val (.int ((Nat.gcd a b : Nat)))), some (.val (.int (0)))] := by
  induction b using Nat.strongRecOn with
  | ind b ih =>
    intro a fuel hf
    obtain ⟨n, rfl⟩ : ∃ n, fuel = n + 1 := ⟨fuel - 1, by omega⟩
    by_cases h : b = 0
    · subst h
      rw [while_end (by simp_arith [Lay.ix0, Lay.ix1, Lay.ix2, Lay.ix3, Lay.tp, pr_0, pr_1, pr_tp, pr_isi, prs_same, prs_nsame, lays_same, lays_nsame, t_law_divisor1])]
      simp
    · have hm := Nat.mod_lt a (show 0 < b by omega)
      have em := dMod_i (i := (a : Int)) (j := (b : Int)) (by omega)
      rw [while_step (Γ' := [some (.val (.int ((b : Nat)))), some (.val (.int (((a % b : Nat) : Int))))]) (by simp_arith [Lay.ix0, Lay.ix1, Lay.ix2, Lay.ix3, Lay.tp, pr_0, pr_1, pr_tp, pr_isi, prs_same, prs_nsame, lays_same, lays_nsame, t_law_divisor1]) (by simp_arith [Lay.ix0, Lay.ix1, Lay.ix2, Lay.ix3, Lay.tp, pr_0, pr_1, pr_tp, pr_isi, prs_same, prs_nsame, lays_same, lays_nsame, g_law_divisor1, em, Int.natCast_emod]), ih _ hm _ _ (by omega)]
      rw [Nat.gcd_comm a b, Nat.gcd_rec b a, Nat.gcd_comm]
theorem law_divisor (a b : Nat) : m_law_divisor [.int a, .int b] = .ok (.int (Nat.gcd a b)) := by
  have e := gcd_loop b a ((b : Int).toNat + 1) (by omega)
  unfold m_law_divisor b_law_divisor
  simp_arith [Lay.ix0, Lay.ix1, Lay.ix2, Lay.ix3, Lay.tp, pr_0, pr_1, pr_tp, pr_isi, prs_same, prs_nsame, lays_same, lays_nsame, e]
/-- _law_digits, _law_tidy -/
theorem law_digitsO {f : List Lay} (hf : ∀ x ∈ f, x.Ok) (hl : 1 ≤ f.length) (hl' : f.length ≤ 1000) (n : Int) : mo_law_digits [.lst (f.map Lay.d), .int n] = .ok ((digs f n).map D.int) := by
  have e := for_map (h := h_law_digits1) (g := g_law_digits1) f.dropLast Lay.d (fun i => [some (.val (.lst (f.map Lay.d))), some (.val (.int (lft f n i))), some (.own (((digs f n).take i).map D.int)), none]) (by
    intro i x hx
    have hi : i < f.length - 1 := by
      have := (List.getElem?_eq_some_iff.mp hx).1
      rwa [List.length_dropLast] at this
    have hx' : f[i]? = some x := by
      rw [List.getElem?_dropLast, if_pos hi] at hx
      exact hx
    have ok := hf x (List.mem_of_getElem? hx')
    have ex := lat_of hx'
    have := ok.b2
    have := ok.b25
    have e1 : lft f n (i + 1) = lft f n i / x.b := by rw [lft_succ hf, ex]
    have e2 : dig f n i = lft f n i % x.b := by unfold dig; rw [if_pos (by omega), ex]
    have e3 : ((digs f n).take i).length < 16777216 := by rw [List.length_take, digs_len]; omega
    simp_arith [Lay.ix0, Lay.ix1, Lay.ix2, Lay.ix3, Lay.tp, pr_0, pr_1, pr_tp, pr_isi, prs_same, prs_nsame, lays_same, lays_nsame, h_law_digits1, g_law_digits1, e1, take_succ_get (digs_get (f := f) (n := n) (show i < f.length by omega)), List.map_append, e2])
  have e1 : (digs f n).take (f.length - 1) ++ [lft f n (f.length - 1)] = digs f n := by
    have := dig_last hl n
    have q := digs_get (f := f) (n := n) (show f.length - 1 < f.length by omega)
    rw [List.getD, q] at this
    have t := take_succ_get q
    rw [show f.length - 1 + 1 = (digs f n).length by rw [digs_len]; omega, List.take_length] at t
    simp only [Option.getD_some] at this
    rw [this] at t
    exact t.symm
  have e2 : oAdd (.lst (((digs f n).take (f.length - 1)).map D.int)) (.lst [.int (lft f n (f.length - 1))]) = .ok ((digs f n).map D.int) := by
    rw [oAdd_l (by rw [List.length_map, List.length_take, digs_len]; show _ + 1 ≤ _; omega)]
    conv => rhs; rw [← e1, List.map_append]
    rfl
  rw [List.length_dropLast, List.map_dropLast] at e
  simp_arith [Lay.ix0, Lay.ix1, Lay.ix2, Lay.ix3, Lay.tp, pr_0, pr_1, pr_tp, pr_isi, prs_same, prs_nsame, lays_same, lays_nsame, lft_0, List.take_zero] at e
  unfold mo_law_digits b_law_digits
  simp_arith [Lay.ix0, Lay.ix1, Lay.ix2, Lay.ix3, Lay.tp, pr_0, pr_1, pr_tp, pr_isi, prs_same, prs_nsame, lays_same, lays_nsame, e, e2]
theorem law_digits {f : List Lay} (hf : ∀ x ∈ f, x.Ok) (hl : 1 ≤ f.length) (hl' : f.length ≤ 1000) (n : Int) : m_law_digits [.lst (f.map Lay.d), .int n] = .ok (.lst ((digs f n).map D.int)) := by
  show R.bind _ _ = _
  rw [law_digitsO hf hl hl' n]; rfl
theorem law_tidy {f : List Lay} (hf : ∀ x ∈ f, x.Ok) (hl : 1 ≤ f.length) (hl' : f.length ≤ 1000) (n : Int) :
    m_law_tidy [.lst (f.map Lay.d), .int n] = .ok (if top_ f < n then .non else .lst ((tdl f n).map pairD)) := by
  have e1 := law_digits hf hl hl' n
  have ix1 : dIx (.lst ((digs f n).map D.int)) (.int (-1)) = .ok (.int (lft f n (f.length - 1))) := by
    have := ix_last (f := digs f n) (by rw [digs_len]; exact hl) D.int 0
    rw [digs_len, dig_last hl] at this
    exact this
  have ix2 : dIx (.lst (f.map Lay.d)) (.int (-1)) = .ok (lastL f).d := ix_last hl Lay.d dft
  have tg := too_great hf n
  have okl : (lastL f).Ok := lat_ok hf (f.length - 1)
  have w1 := okl.w1
  have w20 := okl.w20
  have lc := oLc_at (h := gTp 2 (gsCons (gNm 3) (gsCons (gNm 4) (gsNil)))) (fe := le_law_tidy1) (vs := [3, 4]) (fi := iCall iEnumD (aCons (eV 0) (aNil))) (Γ := [some (.val (.lst (f.map Lay.d))), some (.val (.int (n))), some (.val (.lst ((digs f n).map D.int))), none, none])
    f.zipIdx (fun q => .tup [.int (q.2 : Nat), q.1.d]) (fun i => pairD (pl (lat f i) (dig f n i))) (by simp_arith [Lay.ix0, Lay.ix1, Lay.ix2, Lay.ix3, Lay.tp, pr_0, pr_1, pr_tp, pr_isi, prs_same, prs_nsame, lays_same, lays_nsame]) (by rw [List.length_zipIdx]; show _ ≤ 16777216; omega) (by
      rintro i ⟨x, j⟩ hx
      rw [List.getElem?_zipIdx, Option.map_eq_some_iff] at hx
      obtain ⟨y, hy, e⟩ := hx
      have e1 : y = x := congrArg Prod.fst e
      have e2 : 0 + i = j := congrArg Prod.snd e
      rw [Nat.zero_add] at e2
      subst e1 e2
      have hi : i < f.length := (List.getElem?_eq_some_iff.mp hy).1
      have ix3 : dIx (.lst ((digs f n).map D.int)) (.int (i : Nat)) = .ok (.int (dig f n i)) := dIx_n (by rw [List.getElem?_map, digs_get hi]; rfl)
      have e3 := law_plain (hf y (List.mem_of_getElem? hy)) (dig f n i)
      have e4 := lat_of hy
      simp_arith [Lay.ix0, Lay.ix1, Lay.ix2, Lay.ix3, Lay.tp, pr_0, pr_1, pr_tp, pr_isi, prs_same, prs_nsame, lays_same, lays_nsame, le_law_tidy1, ix3, e3, e4])
  have lc2 : (List.range f.zipIdx.length).map (fun i => pairD (pl (lat f i) (dig f n i))) = (tdl f n).map pairD := by
    refine List.ext_getElem (by simp [tdl]) fun i h1 h2 => ?_
    have hi : i < f.length := by simpa using h1
    simp [tdl, lat, hi]
  rw [lc2] at lc
  have cf : full (lastL f) = (lastL f).u * (lastL f).w + (lastL f).l := rfl
  rw [cf] at tg
  unfold m_law_tidy b_law_tidy
  by_cases q : top_ f < n
  · have c := tg.mpr q
    simp_arith [Lay.ix0, Lay.ix1, Lay.ix2, Lay.ix3, Lay.tp, pr_0, pr_1, pr_tp, pr_isi, prs_same, prs_nsame, lays_same, lays_nsame, e1, ix1, ix2, c, q]
  · have c : ¬ ((lastL f).u * (lastL f).w + (lastL f).l < lft f n (f.length - 1)) := fun h => q (tg.mp h)
    simp_arith [Lay.ix0, Lay.ix1, Lay.ix2, Lay.ix3, Lay.tp, pr_0, pr_1, pr_tp, pr_isi, prs_same, prs_nsame, lays_same, lays_nsame, e1, ix1, ix2, c, q, lc]
/-- what the tidy standing bears -/
theorem bnz_tdl_at {f : List Lay} (hf : ∀ x ∈ f, x.Ok) (n : Int) : ∀ k, k < f.length → bnz ((f.zip (tdl f n)).drop (f.length - 1 - k)) = lft f n (f.length - 1 - k) := by
  intro k
  have hd : ∀ i, i < f.length → (f.zip (tdl f n)).drop i = (lat f i, pl (lat f i) (dig f n i)) :: (f.zip (tdl f n)).drop (i + 1) := fun i hi => by
    have hz : (f.zip (tdl f n))[i]? = some (lat f i, pl (lat f i) (dig f n i)) := by
      rw [List.getElem?_zip_eq_some]
      exact ⟨lat_get hi, tdl_get (lat_get hi) n⟩
    obtain ⟨h1, h2⟩ := List.getElem?_eq_some_iff.mp hz
    rw [← h2]
    exact List.drop_eq_getElem_cons h1
  induction k with
  | zero =>
    intro h
    rw [hd _ (by omega), List.drop_of_length_le (by rw [List.length_zip, tdl_len]; omega)]
    show 0 * _ + cnt _ (pl _ _) = _
    rw [cnt_pl]
    unfold dig
    rw [if_neg (by omega)]
    omega
  | succ k ih =>
    intro h
    have ih := ih (by omega)
    rw [hd _ (by omega), show f.length - 1 - (k + 1) + 1 = f.length - 1 - k by omega]
    show bnz _ * (lat f _).b + cnt _ (pl _ _) = _
    rw [ih, cnt_pl]
    unfold dig
    rw [if_pos (by omega), show f.length - 1 - k = f.length - 1 - (k + 1) + 1 by omega, lft_succ hf, Int.mul_comm]
    exact Int.mul_ediv_add_emod _ _
theorem bnz_tdl {f : List Lay} (hf : ∀ x ∈ f, x.Ok) (hl : 1 ≤ f.length) (n : Int) : bnz (f.zip (tdl f n)) = n := by
  have := bnz_tdl_at hf n (f.length - 1) (by omega)
  rw [show f.length - 1 - (f.length - 1) = 0 by omega, List.drop_zero, lft_0] at this
  exact this
end LB
set_option Elab.async false
set_option linter.all false
set_option maxRecDepth 100000
set_option maxHeartbeats 1000000
--go: pr_0 pr_1 pr_tp pr_isi pr_len Lay.ix0 Lay.ix1 Lay.ix2 Lay.ix3 Lay.tp
/-! Moves done. -/
namespace FR
open PySem DL L2 LA FA FB FC FD FM
open LB (Fits)
/-- the rod's standing behind a move -/
def rch (m : Mv) (p : Int × Int) : Int × Int := if m.1.1 = "Take" then (p.1 - m.2.2, p.2) else if m.1.1 = "Down" then (p.1, p.2 - m.2.2) else if m.1.1 = "Put" then (p.1 + m.2.2, p.2) else (p.1, p.2 + m.2.2)
theorem rch_t {r b : Int} {p : Int × Int} : rch (("Take", "take"), r, b) p = (p.1 - b, p.2) := if_pos rfl
theorem nDT : ¬ (("Down" : Str) = "Take") := by decide +kernel
theorem nPT : ¬ (("Put" : Str) = "Take") := by decide +kernel
theorem nPD : ¬ (("Put" : Str) = "Down") := by decide +kernel
theorem nUT : ¬ (("Up" : Str) = "Take") := by decide +kernel
theorem nUD : ¬ (("Up" : Str) = "Down") := by decide +kernel
theorem nUP : ¬ (("Up" : Str) = "Put") := by decide +kernel
theorem rch_d {r b : Int} {p : Int × Int} : rch (("Down", "down"), r, b) p = (p.1, p.2 - b) := by
  unfold rch
  rw [if_neg nDT, if_pos rfl]
theorem rch_p {r b : Int} {p : Int × Int} : rch (("Put", "put"), r, b) p = (p.1 + b, p.2) := by
  unfold rch
  rw [if_neg nPT, if_neg nPD, if_pos rfl]
theorem rch_u {r b : Int} {p : Int × Int} : rch (("Up", "up"), r, b) p = (p.1, p.2 + b) := by
  unfold rch
  rw [if_neg nUT, if_neg nUD, if_neg nUP]
def fitP (x : Lay) (p : Int × Int) : Prop := 0 ≤ p.1 ∧ p.1 ≤ x.u ∧ 0 ≤ p.2 ∧ p.2 ≤ x.l
instance (x : Lay) (p : Int × Int) : Decidable (fitP x p) := by unfold fitP; infer_instance
/-- one move done -/
def stp (f : List Lay) (s : List (Int × Int)) (m : Mv) : Option (List (Int × Int)) :=
  if m.2.1 < (f.length : Nat) ∧ fitP (lat f m.2.1.toNat) (rch m (atS s m.2.1.toNat)) then some (s.set m.2.1.toNat (rch m (atS s m.2.1.toNat))) else none
def stuckD (a b : D) : D := .exc "Stuck" ["at", "rod"] [a, b]
theorem reached {m : Mv} (hm : Cw m.1) (x : D) (p : Int × Int) : dMeth tb_reached "reached" 2 (mvO m) (.ok [x, pairD p]) = .ok (pairD (rch m p)) := by
  obtain ⟨c, r, b⟩ := m
  rcases hm with h | h | h | h <;> (simp only at h; subst h)
  · rw [rch_t]
    have e : lkC tb_reached "Take" = some m_Take_reached := by kernel_rfl
    have e1 : ("reached" : Str) ∉ (["rod", "beads"] : List Str) := by decide +kernel
    have e2 : dXf cs_o_beads "beads" (.obj "Take" ["rod", "beads"] [.int r, .int b]) = .ok (.int b) := by kernel_rfl
    simp_arith [pr_0, pr_1, pr_tp, pr_isi, pr_len, Lay.ix0, Lay.ix1, Lay.ix2, Lay.ix3, Lay.tp, dMeth, mvO, e, e1, m_Take_reached, b_Take_reached, e2, pairD]
  · rw [rch_d]
    have e : lkC tb_reached "Down" = some m_Down_reached := by kernel_rfl
    have e1 : ("reached" : Str) ∉ (["rod", "beads"] : List Str) := by decide +kernel
    have e2 : dXf cs_o_beads "beads" (.obj "Down" ["rod", "beads"] [.int r, .int b]) = .ok (.int b) := by kernel_rfl
    simp_arith [pr_0, pr_1, pr_tp, pr_isi, pr_len, Lay.ix0, Lay.ix1, Lay.ix2, Lay.ix3, Lay.tp, dMeth, mvO, e, e1, m_Down_reached, b_Down_reached, e2, pairD]
  · rw [rch_p]
    have e : lkC tb_reached "Put" = some m_Put_reached := by kernel_rfl
    have e1 : ("reached" : Str) ∉ (["rod", "beads"] : List Str) := by decide +kernel
    have e2 : dXf cs_o_beads "beads" (.obj "Put" ["rod", "beads"] [.int r, .int b]) = .ok (.int b) := by kernel_rfl
    simp_arith [pr_0, pr_1, pr_tp, pr_isi, pr_len, Lay.ix0, Lay.ix1, Lay.ix2, Lay.ix3, Lay.tp, dMeth, mvO, e, e1, m_Put_reached, b_Put_reached, e2, pairD]
  · rw [rch_u]
    have e : lkC tb_reached "Up" = some m_Up_reached := by kernel_rfl
    have e1 : ("reached" : Str) ∉ (["rod", "beads"] : List Str) := by decide +kernel
    have e2 : dXf cs_o_beads "beads" (.obj "Up" ["rod", "beads"] [.int r, .int b]) = .ok (.int b) := by kernel_rfl
    simp_arith [pr_0, pr_1, pr_tp, pr_isi, pr_len, Lay.ix0, Lay.ix1, Lay.ix2, Lay.ix3, Lay.tp, dMeth, mvO, e, e1, m_Up_reached, b_Up_reached, e2, pairD]
theorem rod_of (m : Mv) (hm : Cw m.1) : dXf cs_o_rod "rod" (mvO m) = .ok (.int m.2.1) := by
  obtain ⟨c, r, b⟩ := m
  rcases hm with h | h | h | h <;> (simp only at h; subst h; kernel_rfl)
theorem beads_of (m : Mv) (hm : Cw m.1) : dXf cs_o_beads "beads" (mvO m) = .ok (.int m.2.2) := by
  obtain ⟨c, r, b⟩ := m
  rcases hm with h | h | h | h <;> (simp only at h; subst h; kernel_rfl)
/-- a move's fields, by any list of classes that holds the kinds of moves -/
def MvCs (cs : List Str) : Prop := ("Take" : Str) ∈ cs ∧ ("Down" : Str) ∈ cs ∧ ("Put" : Str) ∈ cs ∧ ("Up" : Str) ∈ cs
theorem fld_in {cs : List Str} (h : MvCs cs) {m : Mv} (hm : Cw m.1) : m.1.1 ∈ cs ∧ m.1.1 ∈ OSG := by
  obtain ⟨h1, h2, h3, h4⟩ := h
  obtain ⟨c, r, b⟩ := m
  rcases hm with h | h | h | h <;> (simp only at h; subst h)
  · exact ⟨h1, (by decide +kernel : ("Take" : Str) ∈ OSG)⟩
  · exact ⟨h2, (by decide +kernel : ("Down" : Str) ∈ OSG)⟩
  · exact ⟨h3, (by decide +kernel : ("Put" : Str) ∈ OSG)⟩
  · exact ⟨h4, (by decide +kernel : ("Up" : Str) ∈ OSG)⟩
theorem rod_in {cs : List Str} (h : MvCs cs) {m : Mv} (hm : Cw m.1) : dXf cs "rod" (mvO m) = .ok (.int m.2.1) := by
  show (if m.1.1 ∈ cs ∧ m.1.1 ∈ OSG then (match lkN ["rod", "beads"] [D.int m.2.1, D.int m.2.2] "rod" with | some d => R.ok d | none => .stuck) else .stuck) = _
  rw [if_pos (fld_in h hm)]
  rfl
theorem beads_in {cs : List Str} (h : MvCs cs) {m : Mv} (hm : Cw m.1) : dXf cs "beads" (mvO m) = .ok (.int m.2.2) := by
  show (if m.1.1 ∈ cs ∧ m.1.1 ∈ OSG then (match lkN ["rod", "beads"] [D.int m.2.1, D.int m.2.2] "beads" with | some d => R.ok d | none => .stuck) else .stuck) = _
  rw [if_pos (fld_in h hm)]
  rfl
theorem set_cut {α : Type} {s : List α} {i : Nat} (h : i < s.length) (x : α) : s.take i ++ [x] ++ s.drop (i + 1) = s.set i x := by
  rw [List.set_eq_take_append_cons_drop, if_pos h, List.append_assoc]
  rfl
theorem cut_pairs {s : List (Int × Int)} {i : Int} (h0 : 0 ≤ i) (h : i < (s.length : Nat)) (x : Int × Int) : cutL (s.map pairD) none (some i) ++ [pairD x] ++ cutL (s.map pairD) (some (i + 1)) none = (s.set i.toNat x).map pairD := by
  rw [cutL_take h0, cutL_drop (by omega), ← set_cut (s := s) (i := i.toNat) (by omega), List.map_append, List.map_append, List.map_take, List.map_drop, show (i + 1).toNat = i.toNat + 1 by omega]
  rfl
theorem done {f : List Lay} {s : List (Int × Int)} (hs : s.length = f.length) (hl : f.length ≤ 1000) {m : Mv} (hm : Cw m.1) (h0 : 0 ≤ m.2.1) :
    m_Move_done [mvO m, .lst (f.map Lay.d), .lst (s.map pairD)] = match stp f s m with
      | some t => .ok (.lst (t.map pairD))
      | none => .exc (stuckD .non (.int m.2.1)) := by
  have er := rod_of m hm
  unfold m_Move_done b_Move_done stp
  by_cases c : m.2.1 < (f.length : Nat)
  · have fx : dIx (.lst (f.map Lay.d)) (.int m.2.1) = .ok (lat f m.2.1.toNat).d := by
      have := dIx_n (xs := f.map Lay.d) (d := (lat f m.2.1.toNat).d) (n := m.2.1.toNat) (by rw [List.getElem?_map, lat_get (by omega)]; rfl)
      rw [show ((m.2.1.toNat : Nat) : Int) = m.2.1 by omega] at this
      exact this
    have sx : dIx (.lst (s.map pairD)) (.int m.2.1) = .ok (pairD (atS s m.2.1.toNat)) := by
      have := atS_ix (s := s) (i := m.2.1.toNat) (by omega)
      rw [show ((m.2.1.toNat : Nat) : Int) = m.2.1 by omega] at this
      exact this
    have rc := reached hm (lat f m.2.1.toNat).d (atS s m.2.1.toNat)
    have cp := cut_pairs h0 (s := s) (i := m.2.1) (by omega) (rch m (atS s m.2.1.toNat))
    generalize hq : rch m (atS s m.2.1.toNat) = q at *
    have l1 : (cutL (s.map pairD) none (some m.2.1)).length ≤ 1000 := by rw [cutL_take h0, List.length_take, List.length_map]; omega
    have l2 : (cutL (s.map pairD) (some (m.2.1 + 1)) none).length ≤ 1000 := by rw [cutL_drop (by omega), List.length_drop, List.length_map]; omega
    have a1 := dAdd_l (xs := cutL (s.map pairD) none (some m.2.1)) (ys := [pairD q]) (by show _ + 1 ≤ _; omega)
    have a2 := dAdd_l (xs := cutL (s.map pairD) none (some m.2.1) ++ [pairD q]) (ys := cutL (s.map pairD) (some (m.2.1 + 1)) none) (by rw [List.length_append]; show _ + 1 + _ ≤ _; omega)
    rw [cp] at a2
    have ep : pairD q = .tup [.int q.1, .int q.2] := rfl
    rw [ep] at a1 a2
    by_cases c2 : fitP (lat f m.2.1.toNat) q
    · rw [if_pos ⟨c, c2⟩]
      obtain ⟨p1, p2, p3, p4⟩ := c2
      simp_arith [pr_0, pr_1, pr_tp, pr_isi, pr_len, Lay.ix0, Lay.ix1, Lay.ix2, Lay.ix3, Lay.tp, er, c, fx, sx, rc, p1, p2, p3, p4, sl1_l, a1, a2]
    · rw [if_neg fun z => c2 z.2]
      unfold fitP at c2
      by_cases p1 : 0 ≤ q.1
      · by_cases p2 : q.1 ≤ (lat f m.2.1.toNat).u
        · by_cases p3 : 0 ≤ q.2
          · have p4 : ¬ q.2 ≤ (lat f m.2.1.toNat).l := fun z => c2 ⟨p1, p2, p3, z⟩
            simp_arith [pr_0, pr_1, pr_tp, pr_isi, pr_len, Lay.ix0, Lay.ix1, Lay.ix2, Lay.ix3, Lay.tp, er, c, fx, sx, rc, p1, p2, p3, p4, stuckD]
          · simp_arith [pr_0, pr_1, pr_tp, pr_isi, pr_len, Lay.ix0, Lay.ix1, Lay.ix2, Lay.ix3, Lay.tp, er, c, fx, sx, rc, p1, p2, p3, stuckD]
        · simp_arith [pr_0, pr_1, pr_tp, pr_isi, pr_len, Lay.ix0, Lay.ix1, Lay.ix2, Lay.ix3, Lay.tp, er, c, fx, sx, rc, p1, p2, stuckD]
      · simp_arith [pr_0, pr_1, pr_tp, pr_isi, pr_len, Lay.ix0, Lay.ix1, Lay.ix2, Lay.ix3, Lay.tp, er, c, fx, sx, rc, p1, stuckD]
  · rw [if_neg fun z => c z.1]
    simp_arith [pr_0, pr_1, pr_tp, pr_isi, pr_len, Lay.ix0, Lay.ix1, Lay.ix2, Lay.ix3, Lay.tp, er, c, stuckD]
/-- a row of moves done -/
def run (f : List Lay) : List (Int × Int) → List Mv → Option (List (Int × Int))
  | s, [] => some s
  | s, m :: r => match stp f s m with
    | some t => run f t r
    | none => none
def failAt (f : List Lay) : List (Int × Int) → List Mv → Nat × Int
  | _, [] => (0, 0)
  | s, m :: r => match stp f s m with
    | some t => ((failAt f t r).1 + 1, (failAt f t r).2)
    | none => (0, m.2.1)
theorem stp_len {f : List Lay} {s t : List (Int × Int)} {m : Mv} (h : stp f s m = some t) : t.length = s.length := by
  unfold stp at h
  split at h
  · cases h
    rw [List.length_set]
  · cases h
theorem run_len {f : List Lay} : ∀ {r : List Mv} {s t : List (Int × Int)}, run f s r = some t → t.length = s.length
  | [], s, t, h => by cases h; rfl
  | m :: r, s, t, h => by
    unfold run at h
    cases e : stp f s m with
    | none => rw [e] at h; cases h
    | some u =>
      rw [e] at h
      rw [run_len h, stp_len e]
theorem meth_done {m : Mv} (hm : Cw m.1) (a b : D) : dMeth tb_done "done" 2 (mvO m) (.ok [a, b]) = m_Move_done [mvO m, a, b] := by
  obtain ⟨c, r, b'⟩ := m
  have e1 : ("done" : Str) ∉ (["rod", "beads"] : List Str) := by decide +kernel
  rcases hm with h | h | h | h <;> (simp only at h; subst h)
  · have e : lkC tb_done "Take" = some m_Move_done := by kernel_rfl
    simp_arith [pr_0, pr_1, pr_tp, pr_isi, pr_len, Lay.ix0, Lay.ix1, Lay.ix2, Lay.ix3, Lay.tp, dMeth, mvO, e, e1]
  · have e : lkC tb_done "Down" = some m_Move_done := by kernel_rfl
    simp_arith [pr_0, pr_1, pr_tp, pr_isi, pr_len, Lay.ix0, Lay.ix1, Lay.ix2, Lay.ix3, Lay.tp, dMeth, mvO, e, e1]
  · have e : lkC tb_done "Put" = some m_Move_done := by kernel_rfl
    simp_arith [pr_0, pr_1, pr_tp, pr_isi, pr_len, Lay.ix0, Lay.ix1, Lay.ix2, Lay.ix3, Lay.tp, dMeth, mvO, e, e1]
  · have e : lkC tb_done "Up" = some m_Move_done := by kernel_rfl
    simp_arith [pr_0, pr_1, pr_tp, pr_isi, pr_len, Lay.ix0, Lay.ix1, Lay.ix2, Lay.ix3, Lay.tp, dMeth, mvO, e, e1]
def Good (r : List Mv) : Prop := ∀ m ∈ r, Cw m.1 ∧ 0 ≤ m.2.1
theorem loop_done {f : List Lay} (hl : f.length ≤ 1000) {a0 b0 c0 : Option Slot} (ha : a0 = some (.val (.lst (f.map Lay.d)))) : ∀ (r : List Mv) (s : List (Int × Int)) (j : Nat), Good r → s.length = f.length →
    match run f s r with
    | some t => loopF h_done_all1 g_done_all1 (enumL j (r.map mvO)) [a0, b0, c0, some (.val (.lst (s.map pairD))), none, none, none] = .nx [a0, b0, c0, some (.val (.lst (t.map pairD))), none, none, none]
    | none => ∃ Γ, loopF h_done_all1 g_done_all1 (enumL j (r.map mvO)) [a0, b0, c0, some (.val (.lst (s.map pairD))), none, none, none] = .exc (stuckD (.int ((j + (failAt f s r).1 : Nat) : Int)) (.int (failAt f s r).2)) Γ
  | [], s, j, _, _ => rfl
  | m :: r, s, j, hr, hs => by
    obtain ⟨hm, h0⟩ := hr m List.mem_cons_self
    have dn := done hs hl hm h0
    have md := meth_done hm (.lst (f.map Lay.d)) (.lst (s.map pairD))
    have s1 : subG "Stuck" "Stuck" = some true := by kernel_rfl
    show match run f s (m :: r) with
      | some t => loopF h_done_all1 g_done_all1 (.tup [.int (j : Nat), mvO m] :: enumL (j + 1) (r.map mvO)) _ = _
      | none => ∃ Γ, loopF h_done_all1 g_done_all1 (.tup [.int (j : Nat), mvO m] :: enumL (j + 1) (r.map mvO)) _ = _
    unfold run failAt
    cases e : stp f s m with
    | some u =>
      rw [e] at dn
      have dn : m_Move_done [mvO m, .lst (f.map Lay.d), .lst (s.map pairD)] = .ok (.lst (u.map pairD)) := dn
      have tn : turn h_done_all1 g_done_all1 (.tup [.int (j : Nat), mvO m]) [a0, b0, c0, some (.val (.lst (s.map pairD))), none, none, none] = .nx [a0, b0, c0, some (.val (.lst (u.map pairD))), none, none, none] := by
        subst ha
        simp_arith [pr_0, pr_1, pr_tp, pr_isi, pr_len, Lay.ix0, Lay.ix1, Lay.ix2, Lay.ix3, Lay.tp, h_done_all1, g_done_all1, sTryR, md, dn]
      have ih := loop_done hl (b0 := b0) (c0 := c0) ha r u (j + 1) (fun x hx => hr x (List.mem_cons_of_mem _ hx)) (by rw [stp_len e, hs])
      rw [loopF_turn, tn]
      show match run f u r with
        | some t => _
        | none => _
      cases e2 : run f u r with
      | some t => rw [e2] at ih; exact ih
      | none =>
        rw [e2] at ih
        obtain ⟨Γ, hΓ⟩ := ih
        refine ⟨Γ, ?_⟩
        show loopF _ _ _ _ = _
        rw [hΓ]
        congr 3
        show ((j + 1 + _ : Nat) : Int) = ((j + (_ + 1) : Nat) : Int)
        omega
    | none =>
      rw [e] at dn
      have dn : m_Move_done [mvO m, .lst (f.map Lay.d), .lst (s.map pairD)] = .exc (stuckD .non (.int m.2.1)) := dn
      unfold stuckD at dn
      have lk : lkN ["at", "rod"] [D.non, .int m.2.1] "rod" = some (.int m.2.1) := by kernel_rfl
      have tn : turn h_done_all1 g_done_all1 (.tup [.int (j : Nat), mvO m]) [a0, b0, c0, some (.val (.lst (s.map pairD))), none, none, none] = .exc (stuckD (.int (j : Nat)) (.int m.2.1)) [a0, b0, c0, some (.val (.lst (s.map pairD))), some (.val (.int ((j : Nat)))), some (.val (mvO m)), none] := by
        subst ha
        simp_arith [pr_0, pr_1, pr_tp, pr_isi, pr_len, Lay.ix0, Lay.ix1, Lay.ix2, Lay.ix3, Lay.tp, h_done_all1, g_done_all1, sTryR, md, dn, s1, lk, stuckD]
      rw [loopF_turn, tn]
      exact ⟨_, rfl⟩
theorem done_all {f : List Lay} (hl : f.length ≤ 1000) {s : List (Int × Int)} (hs : s.length = f.length) {r : List Mv} (hr : Good r) :
    m_done_all [.lst (f.map Lay.d), .lst (s.map pairD), .lst (r.map mvO)] = match run f s r with
      | some t => .ok (.lst (t.map pairD))
      | none => .exc (stuckD (.int ((failAt f s r).1 : Nat)) (.int (failAt f s r).2)) := by
  have l1 := loop_done hl (a0 := some (.val (.lst (f.map Lay.d)))) (b0 := some (.val (.lst (s.map pairD)))) (c0 := some (.val (.lst (r.map mvO)))) rfl r s 0 hr hs
  unfold m_done_all b_done_all
  cases e : run f s r with
  | some t =>
    rw [e] at l1
    dsimp only at l1
    simp_arith [pr_0, pr_1, pr_tp, pr_isi, pr_len, Lay.ix0, Lay.ix1, Lay.ix2, Lay.ix3, Lay.tp] at l1
    simp_arith [pr_0, pr_1, pr_tp, pr_isi, pr_len, Lay.ix0, Lay.ix1, Lay.ix2, Lay.ix3, Lay.tp, l1]
  | none =>
    rw [e] at l1
    obtain ⟨Γ, l1⟩ := l1
    rw [Nat.zero_add] at l1
    simp_arith [pr_0, pr_1, pr_tp, pr_isi, pr_len, Lay.ix0, Lay.ix1, Lay.ix2, Lay.ix3, Lay.tp] at l1
    simp_arith [pr_0, pr_1, pr_tp, pr_isi, pr_len, Lay.ix0, Lay.ix1, Lay.ix2, Lay.ix3, Lay.tp, l1]
/-! ### back -/
abbrev cT : Str × Str := (("Take" : Str), ("take" : Str))
abbrev cD : Str × Str := (("Down" : Str), ("down" : Str))
abbrev cP : Str × Str := (("Put" : Str), ("put" : Str))
abbrev cU : Str × Str := (("Up" : Str), ("up" : Str))
def cwc (c : Str × Str) : Str × Str := if c.1 = "Take" then cP else if c.1 = "Down" then cU else if c.1 = "Put" then cT else cD
def ctr (m : Mv) : Mv := (cwc m.1, m.2)
theorem cwc_t : cwc cT = cP := if_pos rfl
theorem cwc_d : cwc cD = cU := by unfold cwc; rw [if_neg nDT, if_pos rfl]
theorem cwc_p : cwc cP = cT := by unfold cwc; rw [if_neg nPT, if_neg nPD, if_pos rfl]
theorem cwc_u : cwc cU = cD := by unfold cwc; rw [if_neg nUT, if_neg nUD, if_neg nUP]
theorem cwc_cw {c : Str × Str} (h : Cw c) : Cw (cwc c) := by
  rcases h with h | h | h | h <;> subst h
  · rw [cwc_t]; exact .inr (.inr (.inl rfl))
  · rw [cwc_d]; exact .inr (.inr (.inr rfl))
  · rw [cwc_p]; exact .inl rfl
  · rw [cwc_u]; exact .inr (.inl rfl)
theorem cwc_cwc {c : Str × Str} (h : Cw c) : cwc (cwc c) = c := by
  rcases h with h | h | h | h <;> subst h
  · rw [cwc_t, cwc_p]
  · rw [cwc_d, cwc_u]
  · rw [cwc_p, cwc_t]
  · rw [cwc_u, cwc_d]
theorem contrary {m : Mv} (hm : Cw m.1) : dMeth tb_contrary "contrary" 0 (mvO m) (.ok []) = .ok (mvO (ctr m)) := by
  obtain ⟨c, r, b⟩ := m
  have e1 : ("contrary" : Str) ∉ (["rod", "beads"] : List Str) := by decide +kernel
  have h1 := rod_of (c, r, b) hm
  have h2 := beads_of (c, r, b) hm
  unfold ctr
  rcases hm with h | h | h | h <;> (simp only at h; subst h)
  · have e : lkC tb_contrary "Take" = some m_Take_contrary := by kernel_rfl
    rw [cwc_t]
    unfold mvO at h1 h2 ⊢
    simp_arith [pr_0, pr_1, pr_tp, pr_isi, pr_len, Lay.ix0, Lay.ix1, Lay.ix2, Lay.ix3, Lay.tp] at h1
    simp_arith [pr_0, pr_1, pr_tp, pr_isi, pr_len, Lay.ix0, Lay.ix1, Lay.ix2, Lay.ix3, Lay.tp] at h2
    simp_arith [pr_0, pr_1, pr_tp, pr_isi, pr_len, Lay.ix0, Lay.ix1, Lay.ix2, Lay.ix3, Lay.tp, dMeth, e, e1, m_Take_contrary, b_Take_contrary, h1, h2]
  · have e : lkC tb_contrary "Down" = some m_Down_contrary := by kernel_rfl
    rw [cwc_d]
    unfold mvO at h1 h2 ⊢
    simp_arith [pr_0, pr_1, pr_tp, pr_isi, pr_len, Lay.ix0, Lay.ix1, Lay.ix2, Lay.ix3, Lay.tp] at h1
    simp_arith [pr_0, pr_1, pr_tp, pr_isi, pr_len, Lay.ix0, Lay.ix1, Lay.ix2, Lay.ix3, Lay.tp] at h2
    simp_arith [pr_0, pr_1, pr_tp, pr_isi, pr_len, Lay.ix0, Lay.ix1, Lay.ix2, Lay.ix3, Lay.tp, dMeth, e, e1, m_Down_contrary, b_Down_contrary, h1, h2]
  · have e : lkC tb_contrary "Put" = some m_Put_contrary := by kernel_rfl
    rw [cwc_p]
    unfold mvO at h1 h2 ⊢
    simp_arith [pr_0, pr_1, pr_tp, pr_isi, pr_len, Lay.ix0, Lay.ix1, Lay.ix2, Lay.ix3, Lay.tp] at h1
    simp_arith [pr_0, pr_1, pr_tp, pr_isi, pr_len, Lay.ix0, Lay.ix1, Lay.ix2, Lay.ix3, Lay.tp] at h2
    simp_arith [pr_0, pr_1, pr_tp, pr_isi, pr_len, Lay.ix0, Lay.ix1, Lay.ix2, Lay.ix3, Lay.tp, dMeth, e, e1, m_Put_contrary, b_Put_contrary, h1, h2]
  · have e : lkC tb_contrary "Up" = some m_Up_contrary := by kernel_rfl
    rw [cwc_u]
    unfold mvO at h1 h2 ⊢
    simp_arith [pr_0, pr_1, pr_tp, pr_isi, pr_len, Lay.ix0, Lay.ix1, Lay.ix2, Lay.ix3, Lay.tp] at h1
    simp_arith [pr_0, pr_1, pr_tp, pr_isi, pr_len, Lay.ix0, Lay.ix1, Lay.ix2, Lay.ix3, Lay.tp] at h2
    simp_arith [pr_0, pr_1, pr_tp, pr_isi, pr_len, Lay.ix0, Lay.ix1, Lay.ix2, Lay.ix3, Lay.tp, dMeth, e, e1, m_Up_contrary, b_Up_contrary, h1, h2]
def back (r : List Mv) : List Mv := r.reverse.map ctr
theorem back_good {r : List Mv} (h : Good r) : Good (back r) := fun m hm => by
  obtain ⟨x, hx, rfl⟩ := List.mem_map.mp hm
  obtain ⟨h1, h2⟩ := h x (List.mem_reverse.mp hx)
  exact ⟨cwc_cw h1, h2⟩
theorem way_backO {r : List Mv} (hr : Good r) (hl : r.length ≤ 100000) : mo_way_back [.lst (r.map mvO)] = .ok ((back r).map mvO) := by
  unfold mo_way_back b_way_back
  have lc := oLc_map (fi := iCall iRevD (aCons (eV 0) (aNil))) (h := gNm 1) (fe := le_way_back1) (vs := [1]) (Γ := [some (.val (.lst (r.map mvO))), none]) r.reverse mvO (fun m => mvO (ctr m)) (by
      rw [List.map_reverse]
      simp_arith [pr_0, pr_1, pr_tp, pr_isi, pr_len, Lay.ix0, Lay.ix1, Lay.ix2, Lay.ix3, Lay.tp]) (by rw [List.length_reverse]; show _ ≤ 16777216; omega) (by
      intro m hm
      have hm := hr m (List.mem_reverse.mp hm)
      have c := contrary hm.1
      simp_arith [pr_0, pr_1, pr_tp, pr_isi, pr_len, Lay.ix0, Lay.ix1, Lay.ix2, Lay.ix3, Lay.tp, le_way_back1, c])
  simp_arith [pr_0, pr_1, pr_tp, pr_isi, pr_len, Lay.ix0, Lay.ix1, Lay.ix2, Lay.ix3, Lay.tp, lc]
  unfold back
  rw [List.map_map]
  rfl
theorem way_back {r : List Mv} (hr : Good r) (hl : r.length ≤ 100000) : m_way_back [.lst (r.map mvO)] = .ok (.lst ((back r).map mvO)) := by
  show R.bind _ _ = _
  rw [way_backO hr hl]
  rfl
/-- a move's contrary brings back what it did -/
theorem rch_ctr {m : Mv} (hm : Cw m.1) (p : Int × Int) : rch (ctr m) (rch m p) = p := by
  obtain ⟨c, r, b⟩ := m
  obtain ⟨p1, p2⟩ := p
  unfold ctr
  rcases hm with h | h | h | h <;> (simp only at h; subst h)
  · rw [cwc_t, rch_t, rch_p]
    exact Prod.ext (by show p1 - b + b = p1; omega) rfl
  · rw [cwc_d, rch_d, rch_u]
    exact Prod.ext rfl (by show p2 - b + b = p2; omega)
  · rw [cwc_p, rch_p, rch_t]
    exact Prod.ext (by show p1 + b - b = p1; omega) rfl
  · rw [cwc_u, rch_u, rch_d]
    exact Prod.ext rfl (by show p2 + b - b = p2; omega)
theorem fits_at {f : List Lay} {s : List (Int × Int)} (hs : Fits f s) {i : Nat} (hi : i < f.length) : fitP (lat f i) (atS s i) := by
  have hl := hs.1
  have e1 := lat_get hi
  have e2 : s[i]? = some (atS s i) := by
    unfold atS
    rw [List.getD_eq_getElem?_getD, List.getElem?_eq_getElem (by omega)]
    rfl
  exact hs.2 i _ _ e1 e2
theorem atS_set {s : List (Int × Int)} {i : Nat} (h : i < s.length) (q : Int × Int) : atS (s.set i q) i = q := by
  unfold atS
  rw [List.getD_eq_getElem?_getD, List.getElem?_set_self h]
  rfl
theorem set_atS {s : List (Int × Int)} {i : Nat} (h : i < s.length) : s.set i (atS s i) = s := by
  unfold atS
  rw [List.getD_eq_getElem?_getD, List.getElem?_eq_getElem h]
  exact List.set_getElem_self h
theorem stp_fits {f : List Lay} {s t : List (Int × Int)} (hs : Fits f s) {m : Mv} (h0 : 0 ≤ m.2.1) (h : stp f s m = some t) : Fits f t := by
  unfold stp at h
  split at h
  · rename_i c
    cases h
    refine ⟨by rw [List.length_set]; exact hs.1, fun i x p hx hp => ?_⟩
    by_cases e : m.2.1.toNat = i
    · subst e
      have hl := hs.1
      rw [List.getElem?_set_self (by omega)] at hp
      cases hp
      have := c.2
      rw [lat_of hx] at this
      exact this
    · rw [List.getElem?_set_ne e] at hp
      exact hs.2 i x p hx hp
  · cases h
theorem stp_back {f : List Lay} {s t : List (Int × Int)} (hs : Fits f s) {m : Mv} (hm : Cw m.1) (h0 : 0 ≤ m.2.1) (h : stp f s m = some t) : stp f t (ctr m) = some s := by
  unfold stp at h
  split at h
  · rename_i c
    cases h
    have hl := hs.1
    have hi : m.2.1.toNat < s.length := by omega
    unfold stp
    show (if m.2.1 < (f.length : Nat) ∧ fitP (lat f m.2.1.toNat) (rch (ctr m) (atS (s.set m.2.1.toNat (rch m (atS s m.2.1.toNat))) m.2.1.toNat)) then some ((s.set m.2.1.toNat (rch m (atS s m.2.1.toNat))).set m.2.1.toNat (rch (ctr m) (atS (s.set m.2.1.toNat (rch m (atS s m.2.1.toNat))) m.2.1.toNat))) else none) = some s
    rw [atS_set hi, rch_ctr hm, List.set_set, set_atS hi, if_pos ⟨c.1, fits_at hs (by omega)⟩]
  · cases h
theorem run_app {f : List Lay} : ∀ (r q : List Mv) (s : List (Int × Int)), run f s (r ++ q) = (run f s r).bind fun t => run f t q
  | [], q, s => rfl
  | m :: r, q, s => by
    show (match stp f s m with | some t => run f t (r ++ q) | none => none) = (match stp f s m with | some t => run f t r | none => none).bind _
    cases stp f s m with
    | none => rfl
    | some t => exact run_app r q t
theorem run_fits {f : List Lay} : ∀ {r : List Mv} {s t : List (Int × Int)}, Good r → Fits f s → run f s r = some t → Fits f t
  | [], s, t, _, hs, h => by cases h; exact hs
  | m :: r, s, t, hr, hs, h => by
    unfold run at h
    cases e : stp f s m with
    | none => rw [e] at h; cases h
    | some u =>
      rw [e] at h
      exact run_fits (fun x hx => hr x (List.mem_cons_of_mem _ hx)) (stp_fits hs (hr m List.mem_cons_self).2 e) h
theorem run_back {f : List Lay} : ∀ {r : List Mv} {s t : List (Int × Int)}, Good r → Fits f s → run f s r = some t → run f t (back r) = some s
  | [], s, t, _, hs, h => by cases h; rfl
  | m :: r, s, t, hr, hs, h => by
    unfold run at h
    cases e : stp f s m with
    | none => rw [e] at h; cases h
    | some u =>
      rw [e] at h
      obtain ⟨hm, h0⟩ := hr m List.mem_cons_self
      have ih := run_back (fun x hx => hr x (List.mem_cons_of_mem _ hx)) (stp_fits hs h0 e) h
      have eb : back (m :: r) = back r ++ [ctr m] := by
        unfold back
        rw [List.reverse_cons, List.map_append]
        rfl
      rw [eb, run_app, ih]
      show (match stp f u (ctr m) with | some t => run f t [] | none => none) = some s
      rw [stp_back hs hm h0 e]
      rfl
end FR
set_option Elab.async false
set_option linter.all false
set_option maxRecDepth 100000
set_option maxHeartbeats 1000000
--go: pr_0 pr_1 pr_tp pr_isi pr_len
/-! Moves as texts. -/
namespace FW
open PySem DL L2 TL LA FA FB FC FD FM FR
/-- a number's text -/
def tN (i : Int) : Str := Str.ofString (toString i)
theorem tl_tN {i : Int} (h : 0 ≤ i) : tl (tN i) = numL i.toNat := by
  obtain ⟨n, rfl⟩ := Int.eq_ofNat_of_zero_le h
  exact tl_num n
theorem tN_len {i : Int} (h0 : 0 ≤ i) (h : i < 1000000) : (tN i).length ≤ 6 := by
  rw [len_tl, tl_tN h0]
  exact numL_len (by decide) (by omega)
set_option exponentiation.threshold 4000 in
theorem log_sm {i : Int} (h0 : 0 ≤ i) (h : i < 1000000) : i.natAbs.log2 < 1920 := by
  by_cases e : i.natAbs = 0
  · rw [e]; decide
  · exact (Nat.log2_lt e).mpr (Nat.lt_of_lt_of_le (show i.natAbs < 2 ^ 20 by omega) (Nat.pow_le_pow_right (by decide) (by decide)))
theorem dFmt_i {i : Int} (h0 : 0 ≤ i) (h : i < 1000000) : dFmt (.int i) = .ok (.str (tN i)) := if_pos (log_sm h0 h)
theorem dStr_i {i : Int} (h0 : 0 ≤ i) (h : i < 1000000) : dStr [.int i] = .ok (.str (tN i)) := if_pos (log_sm h0 h)
theorem dFmt_s {y : Str} (h : y.length ≤ 16777216) : dFmt (.str y) = .ok (.str y) := if_pos h
theorem app_len (x y : Str) : (x ++ y).length = x.length + y.length := by
  rw [len_tl, len_tl, len_tl, tl_append, List.length_append]
theorem dAdd_s {x y : Str} (h : x.length + y.length ≤ 16777216) : dAdd (.str x) (.str y) = .ok (.str (x ++ y)) := if_pos h
theorem app_assoc (x y z : Str) : x ++ y ++ z = x ++ (y ++ z) := by
  apply ext_tl
  rw [tl_append, tl_append, tl_append, tl_append, List.append_assoc]
theorem emp_app (x : Str) : Str.empty ++ x = x := by
  apply ext_tl
  rw [tl_append]
  rfl
/-- a move's text -/
def mvS (m : Mv) : Str := m.1.2 ++ (" " : Str) ++ tN m.2.1 ++ (" " : Str) ++ tN m.2.2
def SmM (m : Mv) : Prop := Cw m.1 ∧ 0 ≤ m.2.1 ∧ m.2.1 < 1000 ∧ 0 ≤ m.2.2 ∧ m.2.2 < 1000000
theorem word_len {c : Str × Str} (h : Cw c) : c.2.length ≤ 4 := by
  rcases h with h | h | h | h <;> (subst h; decide +kernel)
theorem jsE_nil {acc : Str} {Γ : DL.Env} : jsE [] acc Γ = .ok (.str acc) := rfl
theorem jsE_cons {f : DL.Env → R D} {fs : List (DL.Env → R D)} {acc y : Str} {Γ : DL.Env} (h : f Γ = .ok (.str y)) (hl : acc.length + y.length ≤ 16777216) : jsE (f :: fs) acc Γ = jsE fs (acc ++ y) Γ := by
  conv => lhs; unfold jsE
  rw [h]
  show (if (acc ++ y).length ≤ LIM then _ else _) = _
  rw [if_pos (by rw [app_len]; exact hl)]
theorem mvS_len {m : Mv} (h : SmM m) : (mvS m).length ≤ 18 := by
  obtain ⟨h1, h2, h3, h4, h5⟩ := h
  have a := word_len h1
  have b := tN_len h2 (by omega)
  have c := tN_len h4 h5
  have s : (" " : Str).length = 1 := by decide +kernel
  unfold mvS
  simp only [app_len, s]
  omega
theorem word_of {m : Mv} (h : Cw m.1) : dMeth tb_word "word" 0 (mvO m) (.ok []) = .ok (.str m.1.2) := by
  obtain ⟨c, r, b⟩ := m
  rcases h with h | h | h | h <;> (simp only at h; subst h; kernel_rfl)
theorem shown {m : Mv} (h : SmM m) : m_Move_shown [mvO m] = .ok (.str (mvS m)) := by
  obtain ⟨h1, h2, h3, h4, h5⟩ := h
  have a := word_len h1
  have b := tN_len h2 (by omega)
  have c := tN_len h4 h5
  have s : (" " : Str).length = 1 := by decide +kernel
  have s0 : Str.empty.length = 0 := rfl
  have w := word_of h1
  have r1 := rod_in (cs := FW.cs_o_rod) (by unfold MvCs; decide +kernel) h1
  have b1 := beads_in (cs := FW.cs_o_beads) (by unfold MvCs; decide +kernel) h1
  have f1 := dFmt_i h2 (by omega)
  have f2 := dFmt_i h4 h5
  have f3 := dFmt_s (y := m.1.2) (by omega)
  have e : eJs [eUn dFmt (eMeth tb_word "word" 0 (eV 0) aNil), eC (.str " "), eUn dFmt (eUn (dXf cs_o_rod "rod") (eV 0)), eC (.str " "), eUn dFmt (eUn (dXf cs_o_beads "beads") (eV 0))] [some (.val (mvO m))] = .ok (.str (mvS m)) := by
    unfold eJs
    rw [jsE_cons (y := m.1.2) (by simp_arith [pr_0, pr_1, pr_tp, pr_isi, pr_len, w, f3]) (by omega), emp_app]
    rw [jsE_cons (y := " ") (by simp_arith [pr_0, pr_1, pr_tp, pr_isi, pr_len]) (by omega)]
    rw [jsE_cons (y := tN m.2.1) (by simp_arith [pr_0, pr_1, pr_tp, pr_isi, pr_len, r1, f1]) (by rw [app_len]; omega)]
    rw [jsE_cons (y := " ") (by simp_arith [pr_0, pr_1, pr_tp, pr_isi, pr_len]) (by rw [app_len, app_len]; omega)]
    rw [jsE_cons (y := tN m.2.2) (by simp_arith [pr_0, pr_1, pr_tp, pr_isi, pr_len, b1, f2]) (by rw [app_len, app_len, app_len]; omega)]
    rfl
  unfold m_Move_shown b_Move_shown
  simp_arith [pr_0, pr_1, pr_tp, pr_isi, pr_len, e]
theorem meth_shown {m : Mv} (h : SmM m) : dMeth tb_shown "shown" 0 (mvO m) (.ok []) = .ok (.str (mvS m)) := by
  have s := shown h
  obtain ⟨c, r, b'⟩ := m
  have hm := h.1
  have e1 : ("shown" : Str) ∉ (["rod", "beads"] : List Str) := by decide +kernel
  rcases hm with h | h | h | h <;> (simp only at h; subst h; unfold mvO at s ⊢)
  · have e : lkC tb_shown "Take" = some m_Move_shown := by kernel_rfl
    simp_arith [pr_0, pr_1, pr_tp, pr_isi, pr_len] at s
    simp_arith [pr_0, pr_1, pr_tp, pr_isi, pr_len, dMeth, e, e1, s]
  · have e : lkC tb_shown "Down" = some m_Move_shown := by kernel_rfl
    simp_arith [pr_0, pr_1, pr_tp, pr_isi, pr_len] at s
    simp_arith [pr_0, pr_1, pr_tp, pr_isi, pr_len, dMeth, e, e1, s]
  · have e : lkC tb_shown "Put" = some m_Move_shown := by kernel_rfl
    simp_arith [pr_0, pr_1, pr_tp, pr_isi, pr_len] at s
    simp_arith [pr_0, pr_1, pr_tp, pr_isi, pr_len, dMeth, e, e1, s]
  · have e : lkC tb_shown "Up" = some m_Move_shown := by kernel_rfl
    simp_arith [pr_0, pr_1, pr_tp, pr_isi, pr_len] at s
    simp_arith [pr_0, pr_1, pr_tp, pr_isi, pr_len, dMeth, e, e1, s]
theorem strL_map {α : Type} (g : α → Str) : ∀ xs : List α, strL (xs.map fun x => D.str (g x)) = some (xs.map g)
  | [] => rfl
  | x :: xs => by
    show (strL (xs.map fun x => D.str (g x))).map _ = _
    rw [strL_map g xs]
    rfl
theorem sum_le {α : Type} (g : α → Nat) (k : Nat) : ∀ xs : List α, (∀ x ∈ xs, g x ≤ k) → (xs.map g).sum ≤ xs.length * k
  | [], _ => by simp
  | x :: xs, h => by
    rw [List.map_cons, List.sum_cons, List.length_cons, Nat.succ_mul]
    have := sum_le g k xs fun y hy => h y (List.mem_cons_of_mem _ hy)
    have := h x List.mem_cons_self
    omega
theorem join_map {α : Type} {a : Str} (g : α → Str) {k : Nat} {xs : List α} (h : ∀ x ∈ xs, (g x).length ≤ k) (hl : xs.length * k + xs.length * a.length ≤ 16777216) : dJoin (.str a) (.lst (xs.map fun x => D.str (g x))) = .ok (.str (Txt.join a (xs.map g))) := by
  have s := sum_le (fun x => (g x).length) k xs h
  show (match strL _ with | some ys => if ((ys : List Str).map (fun (z : Str) => z.length)).sum + ys.length * a.length ≤ 16777216 then _ else _ | none => _) = _
  rw [strL_map]
  show (if ((xs.map g).map (fun (z : Str) => z.length)).sum + (xs.map g).length * a.length ≤ 16777216 then _ else _) = _
  have e2 : ((xs.map g).map (fun (z : Str) => z.length)).sum + (xs.map g).length * a.length ≤ 16777216 := by
    rw [List.map_map, List.length_map]
    exact Nat.le_trans (Nat.add_le_add_right s _) hl
  rw [if_pos e2]
/-- signs that a text may have -/
def SgOk (x : Str) : Prop := ∀ c ∈ tl x, c < 1114112
theorem sg_app {x y : Str} (h : SgOk x) (k : SgOk y) : SgOk (x ++ y) := fun c hc => by
  rw [tl_append] at hc
  rcases List.mem_append.mp hc with z | z
  · exact h c z
  · exact k c z
theorem sg_lit {x : Str} (h : PyData.strOk x = true) : SgOk x := fun c hc => by
  unfold PyData.strOk at h
  rw [← Array.all_toList, List.all_eq_true] at h
  exact of_decide_eq_true (h c hc)
theorem sg_ok {x : Str} (h : SgOk x) : PyData.strOk x = true := by
  unfold PyData.strOk
  rw [← Array.all_toList, List.all_eq_true]
  exact fun c hc => decide_eq_true (h c hc)
theorem sg_num {i : Int} (h : 0 ≤ i) : SgOk (tN i) := fun c hc => by
  rw [tl_tN h] at hc
  have := numL_digits _ c hc
  omega
theorem sg_mv {m : Mv} (h : SmM m) : SgOk (mvS m) := by
  obtain ⟨h1, h2, h3, h4, h5⟩ := h
  have s : SgOk (" " : Str) := sg_lit (by decide +kernel)
  have w : SgOk m.1.2 := by
    obtain ⟨c, r, b⟩ := m
    rcases h1 with h | h | h | h <;> (simp only at h; subst h; dsimp only; exact sg_lit (by decide +kernel))
  exact sg_app (sg_app (sg_app (sg_app w s) (sg_num h2)) s) (sg_num h4)
theorem strs_sh {α : Type} (enc : α → D) (g : α → Str) (he : ∀ x, enc x = .str (g x)) {xs : List α} (h : ∀ x ∈ xs, SgOk (g x)) : (D.lst (xs.map enc)).sh 60 = true := by
  show (xs.map enc).all (D.sh 59) = true
  rw [List.all_map, List.all_eq_true]
  intro m hm
  show (enc m).sh 59 = true
  rw [he]
  exact sg_ok (h m hm)
def SmR (r : List Mv) : Prop := ∀ m ∈ r, SmM m
theorem shown_list {r : List Mv} (hr : SmR r) (hl : r.length ≤ 100000) : oLc [1] (iOf (eV 0)) (gNm 1) bYes le_shown_row1 [some (.val (.lst (r.map mvO))), none] = .ok (r.map fun m => .str (mvS m)) := by
  refine oLc_map r mvO (fun m => .str (mvS m)) (by simp_arith [pr_0, pr_1, pr_tp, pr_isi, pr_len]) (by show _ ≤ 16777216; omega) fun m hm => ?_
  have ms := meth_shown (hr m hm)
  simp_arith [pr_0, pr_1, pr_tp, pr_isi, pr_len, le_shown_row1, ms]
theorem shown_row {r : List Mv} (hr : SmR r) (hl : r.length ≤ 100000) : m_shown_row [.lst (r.map mvO)] = .ok (.str (Txt.join "; " (r.map mvS))) := by
  have e := shown_list hr hl
  have s : ("; " : Str).length = 2 := by decide +kernel
  have j := join_map (a := "; ") mvS (k := 18) (xs := r) (fun m hm => mvS_len (hr m hm)) (by rw [s]; omega)
  unfold m_shown_row b_shown_row
  simp_arith [pr_0, pr_1, pr_tp, pr_isi, pr_len, e, eM1, j]
end FW
set_option Elab.async false
set_option linter.all false
set_option maxRecDepth 100000
set_option maxHeartbeats 1000000
--go: pr_0 pr_1 pr_tp pr_isi pr_len
/-! Moves read. -/
namespace FT
open PySem DL L2 TL LA FA FB FC FD FM FR FW
def isI (r : R D) (i : Int) : Bool := match r with
  | .ok (.int j) => decide (j = i)
  | _ => false
theorem isI_ok {r : R D} {i : Int} (h : isI r i = true) : r = .ok (.int i) := by
  unfold isI at h
  split at h
  · rw [of_decide_eq_true h]
  · cases h
theorem small_all : ∀ n, n < 100 → isI (m_small_number [.str (tN ((n : Nat) : Int))]) (n : Nat) = true := by decide +kernel
theorem small_number {i : Int} (h0 : 0 ≤ i) (h : i < 100) : m_small_number [.str (tN i)] = .ok (.int i) := by
  obtain ⟨n, rfl⟩ := Int.eq_ofNat_of_zero_le h0
  exact isI_ok (small_all n (by omega))
theorem slA_l {xs : List D} {lo hi : Option Int} : slA1 (.lst xs) lo hi = .ok (.lst (cutL xs lo hi)) := rfl
theorem slA_scr {ns : List Int} {lo hi : Option Int} : slA1 (.scr ns) lo hi = .ok (.lst ((cutL ns lo hi).map D.int)) := by
  show R.ok (D.lst (cutL (ns.map D.int) lo hi)) = _
  unfold cutL
  rw [List.length_map, List.map_take, List.map_drop]
theorem slA_t {xs : List D} {lo hi : Option Int} : slA1 (.tup xs) lo hi = .ok (.tup (cutL xs lo hi)) := rfl
section
variable {a b c : D}
theorem pre0 : cutL [a, b, c] none (some 0) = [] := rfl
theorem pre1 : cutL [a, b, c] none (some 1) = [a] := rfl
theorem pre2 : cutL [a, b, c] none (some 2) = [a, b] := rfl
theorem pre3 : cutL [a, b, c] none (some 3) = [a, b, c] := rfl
theorem mid0 : cutL [a, b, c] (some 0) (some 1) = [a] := rfl
theorem mid1 : cutL [a, b, c] (some 1) (some 2) = [b] := rfl
theorem mid2 : cutL [a, b, c] (some 2) (some 3) = [c] := rfl
theorem mid3 : cutL [a, b, c] (some 3) (some 4) = [] := rfl
theorem post1 : cutL [a, b, c] (some 1) none = [b, c] := rfl
theorem post2 : cutL [a, b, c] (some 2) none = [c] := rfl
theorem post3 : cutL [a, b, c] (some 3) none = [] := rfl
theorem post4 : cutL [a, b, c] (some 4) none = [] := rfl
end
theorem dAddA_t {xs ys : List D} : dAddA (.tup xs) (.tup ys) = if xs.length + ys.length ≤ LIM then .ok (.tup (xs ++ ys)) else .stuck := rfl
theorem dAddA_i {i j : Int} : dAddA (.int i) (.int j) = .ok (.int (i + j)) := rfl
theorem tl_blank : tl (" " : Str) = [32] := by decide +kernel
theorem mvS_join (m : Mv) : mvS m = Txt.join " " [m.1.2, tN m.2.1, tN m.2.2] := by
  rw [join_eq]
  apply ext_tl
  show tl (m.1.2 ++ (" " : Str) ++ tN m.2.1 ++ (" " : Str) ++ tN m.2.2) = tl (m.1.2 ++ (" " : Str) ++ (tN m.2.1 ++ (" " : Str) ++ tN m.2.2))
  simp only [tl_append, List.append_assoc]
theorem num_free {i : Int} (h : 0 ≤ i) {s : Nat} (hs : s < 48 ∨ 57 < s) : s ∉ tl (tN i) := by
  rw [tl_tN h]
  exact numL_free hs
theorem word_free {c : Str × Str} (h : Cw c) {s : Nat} (hs : s < 97) : s ∉ tl c.2 := by
  have e1 : tl ("take" : Str) = [116, 97, 107, 101] := by decide +kernel
  have e2 : tl ("down" : Str) = [100, 111, 119, 110] := by decide +kernel
  have e3 : tl ("put" : Str) = [112, 117, 116] := by decide +kernel
  have e4 : tl ("up" : Str) = [117, 112] := by decide +kernel
  rcases h with h | h | h | h <;> subst h <;> dsimp only
  · rw [e1]; simp; omega
  · rw [e2]; simp; omega
  · rw [e3]; simp; omega
  · rw [e4]; simp; omega
theorem split_mv {m : Mv} (h : SmM m) : Txt.split (mvS m) " " = [m.1.2, tN m.2.1, tN m.2.2] := by
  obtain ⟨h1, h2, h3, h4, h5⟩ := h
  rw [mvS_join]
  refine split_join tl_blank (by decide +kernel) (by simp) fun p hp => ?_
  simp only [List.mem_cons, List.not_mem_nil, or_false] at hp
  rcases hp with hp | hp | hp <;> subst hp
  · exact word_free h1 (by decide)
  · exact num_free h2 (by decide)
  · exact num_free h4 (by decide)
theorem read_move {m : Mv} (h : SmM m) (hr : m.2.1 < 100) (hb : 1 ≤ m.2.2) (hb2 : m.2.2 < 100) : m_read_move [.str (mvS m)] = .ok (mvO m) := by
  have sp := split_mv h
  have ll := mvS_len h
  obtain ⟨h1, h2, h3, h4, h5⟩ := h
  have s1 := small_number h2 hr
  have s2 := small_number h4 hb2
  have sl : (0 : Nat) < (" " : Str).length := by decide +kernel
  have os : oSplit (.str (mvS m)) (.str " ") = .ok [.str m.1.2, .str (tN m.2.1), .str (tN m.2.2)] := by
    show (if (decide (0 < (" " : Str).length) && decide ((mvS m).length + 2 ≤ LIM)) = true then _ else _) = _
    rw [decide_eq_true sl, decide_eq_true (show (mvS m).length + 2 ≤ LIM from by show _ ≤ 16777216; omega), sp]
    rfl
  have n1 : ¬ (("take" : Str) = "up") := by decide +kernel
  have n2 : ¬ (("take" : Str) = "down") := by decide +kernel
  have n3 : ¬ (("take" : Str) = "put") := by decide +kernel
  have n4 : ¬ (("down" : Str) = "up") := by decide +kernel
  have n5 : ¬ (("put" : Str) = "up") := by decide +kernel
  have n6 : ¬ (("put" : Str) = "down") := by decide +kernel
  unfold m_read_move b_read_move
  obtain ⟨c, r, b⟩ := m
  dsimp only at *
  rcases h1 with h | h | h | h <;> subst h <;> dsimp only at * <;> simp_arith [pr_0, pr_1, pr_tp, pr_isi, pr_len, oM1, os, s1, s2, n1, n2, n3, n4, n5, n6, mvO]
end FT
set_option Elab.async false
set_option linter.all false
set_option maxRecDepth 100000
set_option maxHeartbeats 1000000
--go: pr_0 pr_1 pr_tp pr_isi pr_len Lay.ix0 Lay.ix1 Lay.ix2 Lay.ix3 Lay.tp lay_isi lay_len
/-! Layouts written and read. -/
namespace FL
open PySem DL L2 TL LA FA FB FC FD FW FT
theorem is_whole (i : Int) : m_is_whole [.int i] = .ok (.bl true) := by kernel_rfl
/-- whether four numbers are a layout -/
def okB (x : Lay) : Bool := decide (0 ≤ x.u ∧ x.u ≤ 6 ∧ 1 ≤ x.w ∧ x.w ≤ 20 ∧ 0 ≤ x.l ∧ x.l ≤ 24 ∧ 2 ≤ x.b ∧ x.b ≤ 25 ∧ (x.u = 0 → x.w = 1) ∧ (0 < x.u → x.w - 1 ≤ x.l) ∧ x.b - 1 ≤ x.u * x.w + x.l)
theorem okB_ok {x : Lay} : okB x = true ↔ x.Ok := by
  unfold okB
  rw [decide_eq_true_eq]
  exact ⟨fun ⟨a, b, c, d, e, f, g, h, i, j, k⟩ => ⟨a, b, c, d, e, f, g, h, i, j, k⟩, fun h => ⟨h.u0, h.u6, h.w1, h.w20, h.l0, h.l24, h.b2, h.b25, h.uw, h.ul, h.full⟩⟩
theorem wholes (x : Lay) (Γ : DL.Env) (hΓ : Γ = [some (.val (x.d)), none, none, none, none, none]) : loopF h_is_layout1 g_is_layout1 [.int x.u, .int x.w, .int x.l, .int x.b] Γ = .nx Γ := by
  have l1 := for_map (h := h_is_layout1) (g := g_is_layout1) [x.u, x.w, x.l, x.b] D.int (fun _ => Γ) (by
    intro i n hn
    have w := is_whole n
    subst hΓ
    unfold Lay.d
    simp_arith [pr_0, pr_1, pr_tp, pr_isi, pr_len, Lay.ix0, Lay.ix1, Lay.ix2, Lay.ix3, Lay.tp, lay_isi, lay_len, h_is_layout1, g_is_layout1, w])
  exact l1
theorem is_layout (x : Lay) : m_is_layout [x.d] = .ok (.bl (okB x)) := by
  have l1 := wholes x _ rfl
  unfold Lay.d at l1
  have key : ∀ b : Bool, b = okB x → m_is_layout [x.d] = .ok (.bl b) → m_is_layout [x.d] = .ok (.bl (okB x)) := fun b h h' => by rw [← h]; exact h'
  by_cases c1 : 0 ≤ x.u ∧ x.u ≤ 6
  · by_cases c2 : 1 ≤ x.w ∧ x.w ≤ 20
    · by_cases c3 : 0 ≤ x.l ∧ x.l ≤ 24
      · by_cases c4 : 2 ≤ x.b ∧ x.b ≤ 25
        · have mm := dMul_r (i := x.u) (j := x.w) (by omega) (by omega)
          have fw : FD.m_full_worth [.tup [.int x.u, .int x.w, .int x.l, .int x.b]] = .ok (.int (x.u * x.w + x.l)) := by
            unfold FD.m_full_worth FD.b_full_worth
            simp_arith [pr_0, pr_1, pr_tp, pr_isi, pr_len, Lay.ix0, Lay.ix1, Lay.ix2, Lay.ix3, Lay.tp, lay_isi, lay_len, mm]
          by_cases c5 : x.u = 0
          · by_cases c6 : x.w = 1
            · have e : okB x = decide (x.b - 1 ≤ x.u * x.w + x.l) := by
                unfold okB
                refine decide_eq_decide.mpr ⟨fun h => h.2.2.2.2.2.2.2.2.2.2, fun h => ⟨c1.1, c1.2, c2.1, c2.2, c3.1, c3.2, c4.1, c4.2, fun _ => c6, fun z => by omega, h⟩⟩
              rw [e]
              unfold m_is_layout b_is_layout Lay.d
              obtain ⟨a1, a2⟩ := c1
              obtain ⟨a3, a4⟩ := c2
              obtain ⟨a5, a6⟩ := c3
              obtain ⟨a7, a8⟩ := c4
              rw [c5, c6] at l1 fw
              simp_arith [pr_0, pr_1, pr_tp, pr_isi, pr_len, Lay.ix0, Lay.ix1, Lay.ix2, Lay.ix3, Lay.tp, lay_isi, lay_len, l1, a1, a2, a3, a4, a5, a6, a7, a8, c5, c6, fw]
            · refine key false ?_ ?_
              · exact (decide_eq_false fun h => c6 (h.2.2.2.2.2.2.2.2.1 c5)).symm
              · unfold m_is_layout b_is_layout Lay.d
                obtain ⟨a1, a2⟩ := c1
                obtain ⟨a3, a4⟩ := c2
                obtain ⟨a5, a6⟩ := c3
                obtain ⟨a7, a8⟩ := c4
                rw [c5] at l1
                simp_arith [pr_0, pr_1, pr_tp, pr_isi, pr_len, Lay.ix0, Lay.ix1, Lay.ix2, Lay.ix3, Lay.tp, lay_isi, lay_len, l1, a1, a2, a3, a4, a5, a6, a7, a8, c5, c6]
          · by_cases c6 : x.l < x.w - 1
            · refine key false ?_ ?_
              · refine (decide_eq_false fun h => ?_).symm
                have := h.2.2.2.2.2.2.2.2.2.1 (by omega)
                omega
              · unfold m_is_layout b_is_layout Lay.d
                obtain ⟨a1, a2⟩ := c1
                obtain ⟨a3, a4⟩ := c2
                obtain ⟨a5, a6⟩ := c3
                obtain ⟨a7, a8⟩ := c4
                have c7 : 0 < x.u := by omega
                simp_arith [pr_0, pr_1, pr_tp, pr_isi, pr_len, Lay.ix0, Lay.ix1, Lay.ix2, Lay.ix3, Lay.tp, lay_isi, lay_len, l1, a1, a2, a3, a4, a5, a6, a7, a8, c5, c6, c7]
            · have c7 : 0 < x.u := by omega
              have e : okB x = decide (x.b - 1 ≤ x.u * x.w + x.l) := by
                unfold okB
                refine decide_eq_decide.mpr ⟨fun h => h.2.2.2.2.2.2.2.2.2.2, fun h => ⟨c1.1, c1.2, c2.1, c2.2, c3.1, c3.2, c4.1, c4.2, fun z => absurd z c5, fun z => by omega, h⟩⟩
              rw [e]
              unfold m_is_layout b_is_layout Lay.d
              obtain ⟨a1, a2⟩ := c1
              obtain ⟨a3, a4⟩ := c2
              obtain ⟨a5, a6⟩ := c3
              obtain ⟨a7, a8⟩ := c4
              simp_arith [pr_0, pr_1, pr_tp, pr_isi, pr_len, Lay.ix0, Lay.ix1, Lay.ix2, Lay.ix3, Lay.tp, lay_isi, lay_len, l1, a1, a2, a3, a4, a5, a6, a7, a8, c5, c6, c7, fw]
        · refine key false (decide_eq_false fun h => c4 ⟨h.2.2.2.2.2.2.1, h.2.2.2.2.2.2.2.1⟩).symm ?_
          unfold m_is_layout b_is_layout Lay.d
          obtain ⟨a1, a2⟩ := c1
          obtain ⟨a3, a4⟩ := c2
          obtain ⟨a5, a6⟩ := c3
          by_cases c : 2 ≤ x.b
          · have c' : ¬ x.b ≤ 25 := fun z => c4 ⟨c, z⟩
            simp_arith [pr_0, pr_1, pr_tp, pr_isi, pr_len, Lay.ix0, Lay.ix1, Lay.ix2, Lay.ix3, Lay.tp, lay_isi, lay_len, l1, a1, a2, a3, a4, a5, a6, c, c']
          · simp_arith [pr_0, pr_1, pr_tp, pr_isi, pr_len, Lay.ix0, Lay.ix1, Lay.ix2, Lay.ix3, Lay.tp, lay_isi, lay_len, l1, a1, a2, a3, a4, a5, a6, c]
      · refine key false (decide_eq_false fun h => c3 ⟨h.2.2.2.2.1, h.2.2.2.2.2.1⟩).symm ?_
        unfold m_is_layout b_is_layout Lay.d
        obtain ⟨a1, a2⟩ := c1
        obtain ⟨a3, a4⟩ := c2
        by_cases c : 0 ≤ x.l
        · have c' : ¬ x.l ≤ 24 := fun z => c3 ⟨c, z⟩
          simp_arith [pr_0, pr_1, pr_tp, pr_isi, pr_len, Lay.ix0, Lay.ix1, Lay.ix2, Lay.ix3, Lay.tp, lay_isi, lay_len, l1, a1, a2, a3, a4, c, c']
        · simp_arith [pr_0, pr_1, pr_tp, pr_isi, pr_len, Lay.ix0, Lay.ix1, Lay.ix2, Lay.ix3, Lay.tp, lay_isi, lay_len, l1, a1, a2, a3, a4, c]
    · refine key false (decide_eq_false fun h => c2 ⟨h.2.2.1, h.2.2.2.1⟩).symm ?_
      unfold m_is_layout b_is_layout Lay.d
      obtain ⟨a1, a2⟩ := c1
      by_cases c : 1 ≤ x.w
      · have c' : ¬ x.w ≤ 20 := fun z => c2 ⟨c, z⟩
        simp_arith [pr_0, pr_1, pr_tp, pr_isi, pr_len, Lay.ix0, Lay.ix1, Lay.ix2, Lay.ix3, Lay.tp, lay_isi, lay_len, l1, a1, a2, c, c']
      · simp_arith [pr_0, pr_1, pr_tp, pr_isi, pr_len, Lay.ix0, Lay.ix1, Lay.ix2, Lay.ix3, Lay.tp, lay_isi, lay_len, l1, a1, a2, c]
  · refine key false (decide_eq_false fun h => c1 ⟨h.1, h.2.1⟩).symm ?_
    unfold m_is_layout b_is_layout Lay.d
    by_cases c : 0 ≤ x.u
    · have c' : ¬ x.u ≤ 6 := fun z => c1 ⟨c, z⟩
      simp_arith [pr_0, pr_1, pr_tp, pr_isi, pr_len, Lay.ix0, Lay.ix1, Lay.ix2, Lay.ix3, Lay.tp, lay_isi, lay_len, l1, c, c']
    · simp_arith [pr_0, pr_1, pr_tp, pr_isi, pr_len, Lay.ix0, Lay.ix1, Lay.ix2, Lay.ix3, Lay.tp, lay_isi, lay_len, l1, c]
/-- a layout's text -/
def layS (x : Lay) : Str := tN x.u ++ (("x" : Str) ++ (tN x.w ++ (("+" : Str) ++ (tN x.l ++ ((":" : Str) ++ tN x.b)))))
theorem layS_len {x : Lay} (ok : x.Ok) : (layS x).length ≤ 27 := by
  have := ok.u0; have := ok.u6; have := ok.w1; have := ok.w20; have := ok.l0; have := ok.l24; have := ok.b2; have := ok.b25
  have a := tN_len (i := x.u) (by omega) (by omega)
  have b := tN_len (i := x.w) (by omega) (by omega)
  have c := tN_len (i := x.l) (by omega) (by omega)
  have d := tN_len (i := x.b) (by omega) (by omega)
  have s1 : ("x" : Str).length = 1 := by decide +kernel
  have s2 : ("+" : Str).length = 1 := by decide +kernel
  have s3 : (":" : Str).length = 1 := by decide +kernel
  unfold layS
  simp only [app_len, s1, s2, s3]
  omega
theorem shown_layout {x : Lay} (ok : x.Ok) : m_shown_layout [x.d] = .ok (.str (layS x)) := by
  have := ok.u0; have := ok.u6; have := ok.w1; have := ok.w20; have := ok.l0; have := ok.l24; have := ok.b2; have := ok.b25
  have a := tN_len (i := x.u) (by omega) (by omega)
  have b := tN_len (i := x.w) (by omega) (by omega)
  have c := tN_len (i := x.l) (by omega) (by omega)
  have d := tN_len (i := x.b) (by omega) (by omega)
  have s1 : ("x" : Str).length = 1 := by decide +kernel
  have s2 : ("+" : Str).length = 1 := by decide +kernel
  have s3 : (":" : Str).length = 1 := by decide +kernel
  have f1 := dFmt_i (i := x.u) (by omega) (by omega)
  have f2 := dFmt_i (i := x.w) (by omega) (by omega)
  have f3 := dFmt_i (i := x.l) (by omega) (by omega)
  have f4 := dFmt_i (i := x.b) (by omega) (by omega)
  have s0 : Str.empty.length = 0 := rfl
  have e : eJs [eUn dFmt (eV 1), eC (.str "x"), eUn dFmt (eV 2), eC (.str "+"), eUn dFmt (eV 3), eC (.str ":"), eUn dFmt (eV 4)] [some (.val (x.d)), some (.val (.int (x.u))), some (.val (.int (x.w))), some (.val (.int (x.l))), some (.val (.int (x.b)))] = .ok (.str (layS x)) := by
    unfold eJs
    rw [jsE_cons (y := tN x.u) (by simp_arith [pr_0, pr_1, pr_tp, pr_isi, pr_len, Lay.ix0, Lay.ix1, Lay.ix2, Lay.ix3, Lay.tp, lay_isi, lay_len, f1]) (by omega), emp_app]
    rw [jsE_cons (y := "x") (by simp_arith [pr_0, pr_1, pr_tp, pr_isi, pr_len, Lay.ix0, Lay.ix1, Lay.ix2, Lay.ix3, Lay.tp, lay_isi, lay_len]) (by omega)]
    rw [jsE_cons (y := tN x.w) (by simp_arith [pr_0, pr_1, pr_tp, pr_isi, pr_len, Lay.ix0, Lay.ix1, Lay.ix2, Lay.ix3, Lay.tp, lay_isi, lay_len, f2]) (by rw [app_len]; omega)]
    rw [jsE_cons (y := "+") (by simp_arith [pr_0, pr_1, pr_tp, pr_isi, pr_len, Lay.ix0, Lay.ix1, Lay.ix2, Lay.ix3, Lay.tp, lay_isi, lay_len]) (by rw [app_len, app_len]; omega)]
    rw [jsE_cons (y := tN x.l) (by simp_arith [pr_0, pr_1, pr_tp, pr_isi, pr_len, Lay.ix0, Lay.ix1, Lay.ix2, Lay.ix3, Lay.tp, lay_isi, lay_len, f3]) (by rw [app_len, app_len, app_len]; omega)]
    rw [jsE_cons (y := ":") (by simp_arith [pr_0, pr_1, pr_tp, pr_isi, pr_len, Lay.ix0, Lay.ix1, Lay.ix2, Lay.ix3, Lay.tp, lay_isi, lay_len]) (by rw [app_len, app_len, app_len, app_len]; omega)]
    rw [jsE_cons (y := tN x.b) (by simp_arith [pr_0, pr_1, pr_tp, pr_isi, pr_len, Lay.ix0, Lay.ix1, Lay.ix2, Lay.ix3, Lay.tp, lay_isi, lay_len, f4]) (by rw [app_len, app_len, app_len, app_len, app_len]; omega)]
    rw [jsE_nil]
    refine congrArg (fun z => R.ok (D.str z)) ?_
    unfold layS
    apply ext_tl
    simp only [tl_append, List.append_assoc]
  unfold m_shown_layout b_shown_layout
  simp_arith [pr_0, pr_1, pr_tp, pr_isi, pr_len, Lay.ix0, Lay.ix1, Lay.ix2, Lay.ix3, Lay.tp, lay_isi, lay_len, e]
theorem small_all : ∀ n, n < 100 → isI (m_small_number [.str (tN ((n : Nat) : Int))]) (n : Nat) = true := by decide +kernel
theorem small_number {i : Int} (h0 : 0 ≤ i) (h : i < 100) : m_small_number [.str (tN i)] = .ok (.int i) := by
  obtain ⟨n, rfl⟩ := Int.eq_ofNat_of_zero_le h0
  exact isI_ok (small_all n (by omega))
theorem part_app {y : Str} {s : Nat} (ey : tl y = [s]) {a b : Str} (h : s ∉ tl a) (hl : (a ++ (y ++ b)).length ≤ 16777216) : dPart (.str (a ++ (y ++ b))) (.str y) = .ok (.tup [.str a, .str y, .str b]) := by
  have l0 : 0 < y.length := by rw [len_tl, ey]; exact Nat.zero_lt_one
  have p := partition_app ey h (b := b)
  rw [app_assoc] at p
  show (if (decide (0 < y.length) && decide ((a ++ (y ++ b)).length ≤ LIM)) = true then _ else _) = _
  rw [decide_eq_true l0, decide_eq_true (show (a ++ (y ++ b)).length ≤ LIM from hl), p]
  rfl
theorem read_layout {x : Lay} (ok : x.Ok) : m_read_layout [.str (layS x)] = .ok x.d := by
  have := ok.u0; have := ok.u6; have := ok.w1; have := ok.w20; have := ok.l0; have := ok.l24; have := ok.b2; have := ok.b25
  have ll := layS_len ok
  have il := is_layout x
  rw [okB_ok.mpr ok] at il
  have s1 := small_number (i := x.u) (by omega) (by omega)
  have s2 := small_number (i := x.w) (by omega) (by omega)
  have s3 := small_number (i := x.l) (by omega) (by omega)
  have s4 := small_number (i := x.b) (by omega) (by omega)
  unfold layS at ll ⊢
  have p1 := part_app (y := "x") (s := 120) (by decide +kernel) (a := tN x.u) (b := tN x.w ++ (("+" : Str) ++ (tN x.l ++ ((":" : Str) ++ tN x.b)))) (num_free (by omega) (by decide)) (by omega)
  have q := app_len (tN x.u) (("x" : Str) ++ (tN x.w ++ (("+" : Str) ++ (tN x.l ++ ((":" : Str) ++ tN x.b)))))
  have q2 := app_len ("x" : Str) (tN x.w ++ (("+" : Str) ++ (tN x.l ++ ((":" : Str) ++ tN x.b))))
  have p2 := part_app (y := "+") (s := 43) (by decide +kernel) (a := tN x.w) (b := tN x.l ++ ((":" : Str) ++ tN x.b)) (num_free (by omega) (by decide)) (by omega)
  have q3 := app_len (tN x.w) (("+" : Str) ++ (tN x.l ++ ((":" : Str) ++ tN x.b)))
  have q4 := app_len ("+" : Str) (tN x.l ++ ((":" : Str) ++ tN x.b))
  have p3 := part_app (y := ":") (s := 58) (by decide +kernel) (a := tN x.l) (b := tN x.b) (num_free (by omega) (by decide)) (by omega)
  have lc : ∀ (x1 x2 x3 x4 : Option Slot) (z0 : D), oLc [10] (iOf (eFrz (oLst (aCons (eV 1) (aCons (eV 4) (aCons (eV 6) (aCons (eV 8) (aNil)))))))) (gNm 10) bYes le_read_layout1 [some (.val (z0)), some (.val (.str (tN x.u))), x1, x2, some (.val (.str (tN x.w))), x3, some (.val (.str (tN x.l))), x4, some (.val (.str (tN x.b))), none, none] = .ok [.int x.u, .int x.w, .int x.l, .int x.b] := fun x1 x2 x3 x4 z0 => by
    have lc := oLc_map (fi := iOf (eFrz (oLst (aCons (eV 1) (aCons (eV 4) (aCons (eV 6) (aCons (eV 8) (aNil)))))))) (h := gNm 10) (fe := le_read_layout1) (vs := [10]) (Γ := [some (.val (z0)), some (.val (.str (tN x.u))), x1, x2, some (.val (.str (tN x.w))), x3, some (.val (.str (tN x.l))), x4, some (.val (.str (tN x.b))), none, none]) [x.u, x.w, x.l, x.b] (fun n => .str (tN n)) D.int (by simp_arith [pr_0, pr_1, pr_tp, pr_isi, pr_len, Lay.ix0, Lay.ix1, Lay.ix2, Lay.ix3, Lay.tp, lay_isi, lay_len]) (by show 4 ≤ 16777216; decide) (by
      intro n hn
      simp only [List.mem_cons, List.not_mem_nil, or_false] at hn
      rcases hn with hn | hn | hn | hn <;> subst hn
      · simp_arith [pr_0, pr_1, pr_tp, pr_isi, pr_len, Lay.ix0, Lay.ix1, Lay.ix2, Lay.ix3, Lay.tp, lay_isi, lay_len, le_read_layout1, s1]
      · simp_arith [pr_0, pr_1, pr_tp, pr_isi, pr_len, Lay.ix0, Lay.ix1, Lay.ix2, Lay.ix3, Lay.tp, lay_isi, lay_len, le_read_layout1, s2]
      · simp_arith [pr_0, pr_1, pr_tp, pr_isi, pr_len, Lay.ix0, Lay.ix1, Lay.ix2, Lay.ix3, Lay.tp, lay_isi, lay_len, le_read_layout1, s3]
      · simp_arith [pr_0, pr_1, pr_tp, pr_isi, pr_len, Lay.ix0, Lay.ix1, Lay.ix2, Lay.ix3, Lay.tp, lay_isi, lay_len, le_read_layout1, s4])
    exact lc
  have tu : dTupleOf [.lst [.int x.u, .int x.w, .int x.l, .int x.b]] = .ok x.d := rfl
  unfold Lay.d at tu il ⊢
  unfold m_read_layout b_read_layout
  simp_arith [pr_0, pr_1, pr_tp, pr_isi, pr_len, Lay.ix0, Lay.ix1, Lay.ix2, Lay.ix3, Lay.tp, lay_isi, lay_len, eM1, p1, p2, p3, lc, tu, il]
end FL
set_option Elab.async false
set_option linter.all false
set_option maxRecDepth 100000
/-! Comprehensions with a condition. -/
namespace DL
open PySem L2
theorem lcF_if {h : Tg} {ft : DL.Env → R Bool} {fe : DL.Env → R D} {Γ : DL.Env} {α : Type} (enc res : α → D) (c : α → Bool) : ∀ (xs : List α), (∀ x ∈ xs, ∃ Γ1, h (enc x) Γ = some Γ1 ∧ ft Γ1 = .ok (c x) ∧ (c x = true → fe Γ1 = .ok (res x))) → lcF h ft fe Γ (xs.map enc) = .ok ((xs.filter c).map res)
  | [], _ => rfl
  | x :: xs, hs => by
    obtain ⟨Γ1, e1, e2, e3⟩ := hs x (List.mem_cons_self ..)
    have ih := lcF_if enc res c xs fun y hy => hs y (List.mem_cons_of_mem _ hy)
    rw [List.map_cons, List.filter_cons]
    unfold lcF
    rw [e1]
    dsimp only
    rw [e2]
    cases hc : c x with
    | false =>
      rw [hc] at e2
      simp only [ih, Bool.false_eq_true, if_false]
    | true => simp only [e3 hc, ih, if_true, List.map_cons]
theorem oLc_if {vs : List Nat} {fi : DL.Env → R (List D)} {h : Tg} {ft : DL.Env → R Bool} {fe : DL.Env → R D} {Γ : DL.Env} {α : Type} (xs : List α) (enc res : α → D) (c : α → Bool) (hfi : fi Γ = .ok (xs.map enc)) (hl : xs.length ≤ 16777216) (hs : ∀ x ∈ xs, ∃ Γ1, h (enc x) (wipeE Γ vs) = some Γ1 ∧ ft Γ1 = .ok (c x) ∧ (c x = true → fe Γ1 = .ok (res x))) : oLc vs fi h ft fe Γ = .ok ((xs.filter c).map res) := by
  unfold oLc
  rw [hfi]
  show (match lcF h ft fe (wipeE Γ vs) (xs.map enc) with | .ok es => if (xs.map enc).length ≤ LIM then R.ok es else .stuck | _ => .stuck) = _
  rw [lcF_if enc res c xs hs]
  show (if (xs.map enc).length ≤ LIM then R.ok _ else .stuck) = _
  rw [if_pos (by rw [List.length_map]; exact hl)]
end DL
set_option Elab.async false
set_option linter.all false
set_option maxRecDepth 100000
/-! law_k01_what_is_a_layout: its defs as functions over trees (printed by gen.py). -/
namespace K01
open PySem DL
/-- is_whole(thing); slots: 0 thing -/
abbrev b_is_whole : DL.Env → Out := FL.b_is_whole
abbrev m_is_whole : List D → R D := FL.m_is_whole
/-- full_worth(layout); slots: 0 layout, 1 upper, 2 worth, 3 lower, 4 base -/
abbrev b_full_worth : DL.Env → Out := FD.b_full_worth
abbrev m_full_worth : List D → R D := FD.m_full_worth
/-- _law_mixed(_law_script, _law_k); slots: 0 _law_script, 1 _law_k -/
abbrev b_law_mixed : DL.Env → Out := LA.b_law_mixed
abbrev m_law_mixed : List D → R D := LA.m_law_mixed
/-- _law_layout(_law_cell); slots: 0 _law_cell, 1 _law_base, 2 _law_upper, 3 _law_worth, 4 _law_lower, 5 _law_most -/
abbrev b_law_layout : DL.Env → Out := LA.b_law_layout
abbrev m_law_layout : List D → R D := LA.m_law_layout
/-- _law_thing(_law_layout_here, _law_cell); slots: 0 _law_layout_here, 1 _law_cell, 2 _law_at, 3 _law_way, 4 _law_rest, 5 _law_other -/
def b_law_thing : DL.Env → Out :=
    sSeq (sSet (gNm 2) (eOp dMod (eV 1) (eC (.int 4)))) <|
    sSeq (sSet (gNm 3) (eOp dMod (eOp dDiv (eV 1) (eC (.int 4))) (eC (.int 5)))) <|
    sSeq (sSet (gNm 4) (eOp dDiv (eV 1) (eC (.int 20)))) <|
    sSeq (sIf (eB (eOp dEq (eV 3) (eC (.int 0)))) (sRet (eOp dIx (eFrz (oLst (aCons (eFrz (oCall oList (aCons (eV 0) (aNil)))) (aCons (eOp dAddA (eV 0) (eTup (aCons (eC (.int 1)) (aNil)))) (aCons (eSlA (eV 0) (pNo) (pSo (eC (.int 3)))) (aCons (eTup (aCons (eV 0) (aNil))) (aCons (eRevT (eV 0)) (aCons (eV 0) (aCons (eTup (aNil)) (aNil)))))))))) (eOp dMod (eV 4) (eC (.int 7))))) (sNx)) <|
    sSeq (sSet (gNm 5) (eOp dSub (eOp dMod (eV 4) (eC (.int 30))) (eC (.int 2)))) <|
    sSeq (sIf (eB (eOp dEq (eV 3) (eC (.int 1)))) (sSet (gNm 5) (eOp dSub (eOp dAddA (eOp dIx (eV 0) (eV 2)) (eOp dMod (eV 4) (eC (.int 3)))) (eC (.int 1)))) (sNx)) <|
    sSeq (sIf (eB (eOp dEq (eV 3) (eC (.int 2)))) (sSet (gNm 5) (eOp dIx (eFrz (oLst (aCons (eC (.bl true)) (aCons (eC (.bl false)) (aCons (eC .non) (aCons (eC (.str "1")) (aCons (eFrz (oLst (aCons (eC (.int 1)) (aNil)))) (aCons (eTup (aCons (eC (.int 1)) (aNil))) (aCons (eFrzD dNew) (aNil)))))))))) (eOp dMod (eV 4) (eC (.int 7))))) (sNx)) <|
    sRet (eOp dAddA (eOp dAddA (eSlA (eV 0) (pNo) (pSo (eV 2))) (eTup (aCons (eV 5) (aNil)))) (eSlA (eV 0) (pSo (eOp dAddA (eV 2) (eC (.int 1)))) (pNo)))
def m_law_thing : List D → R D := mk 6 b_law_thing
/-- _law_plain_number(_law_thing_here); slots: 0 _law_thing_here -/
abbrev b_law_plain_number : DL.Env → Out := LB.b_law_whole
abbrev m_law_plain_number : List D → R D := LB.m_law_whole
/-- _law_told(_law_found, _law_due); slots: 0 _law_found, 1 _law_due -/
def b_law_told : DL.Env → Out :=
    sRet (eAnd (eCall dIsi (aCons (eV 0) (aCons (eC (.ty "bool")) (aNil)))) (eOp dEq (eV 0) (eV 1)))
def m_law_told : List D → R D := mk 2 b_law_told
/-- is_layout(thing); slots: 0 thing, 1 number, 2 upper, 3 worth, 4 lower, 5 base -/
abbrev b_is_layout : DL.Env → Out := FL.b_is_layout
abbrev m_is_layout : List D → R D := FL.m_is_layout
/-- _law_good(_law_thing_here); slots: 0 _law_thing_here, 1 _law_upper, 2 _law_worth, 3 _law_lower, 4 _law_base, 5 _law_number -/
def le_law_good1 : DL.Env → R D :=
    eV 5
def lt_law_good1 : DL.Env → R Bool :=
    bNot (eTru (eFn 1 m_law_plain_number (aCons (eV 5) (aNil))))
def b_law_good : DL.Env → Out :=
    sSeq (sIf (bOr (bNot (eTru (eCall dIsi (aCons (eV 0) (aCons (eC (.ty "tuple")) (aNil)))))) (eB (eOp dNe (eCall dLen (aCons (eV 0) (aNil))) (eC (.int 4))))) (sRet (eC (.bl false))) (sNx)) <|
    sSeq (sIf (eB (eOp dNeN (eFrz (oLc [5] (iOfT (eV 0)) (gNm 5) (lt_law_good1) (le_law_good1))) (eFrz (oLst (aNil))))) (sRet (eC (.bl false))) (sNx)) <|
    sSeq (sSet (gTp 4 (gsCons (gNm 1) (gsCons (gNm 2) (gsCons (gNm 3) (gsCons (gNm 4) (gsNil)))))) (eV 0)) <|
    sSeq (sIf (bOr (eB (eOp dLt (eV 1) (eC (.int 0)))) (bOr (eB (eOp dGt (eV 1) (eC (.int 6)))) (bOr (eB (eOp dLt (eV 2) (eC (.int 1)))) (bOr (eB (eOp dGt (eV 2) (eC (.int 20)))) (bOr (eB (eOp dLt (eV 3) (eC (.int 0)))) (bOr (eB (eOp dGt (eV 3) (eC (.int 24)))) (bOr (eB (eOp dLt (eV 4) (eC (.int 2)))) (eB (eOp dGt (eV 4) (eC (.int 25))))))))))) (sRet (eC (.bl false))) (sNx)) <|
    sSeq (sIf (bOr (bAnd (eB (eOp dEq (eV 1) (eC (.int 0)))) (eB (eOp dGt (eV 2) (eC (.int 1))))) (bAnd (eB (eOp dGt (eV 1) (eC (.int 0)))) (eB (eOp dGt (eV 2) (eOp dAdd (eV 3) (eC (.int 1))))))) (sRet (eC (.bl false))) (sNx)) <|
    sRet (eOp dGe (eOp dAdd (eOp dAdd (eOp dMul (eV 1) (eV 2)) (eV 3)) (eC (.int 1))) (eV 4))
def m_law_good : List D → R D := mk 6 b_law_good
/-- law(_law_script); slots: 0 _law_script, 1 _law_k, 2 _law_layout_here, 3 _law_thing_here, 4 _law_one -/
def h_law1 : Tg :=
    gNm 3
def g_law1 : DL.Env → Out :=
    sWp [3] (sIf (bOr (bNot (eTru (eFn 2 m_law_told (aCons (eFn 1 m_is_layout (aCons (eV 3) (aNil))) (aCons (eC (.bl false)) (aNil)))))) (bNot (eTru (eFn 2 m_law_told (aCons (eFn 1 m_is_whole (aCons (eV 3) (aNil))) (aCons (eFn 1 m_law_plain_number (aCons (eV 3) (aNil))) (aNil))))))) (sRet (eC (.bl false))) (sNx))
def h_law3 : Tg :=
    gNm 4
def g_law3 : DL.Env → Out :=
    sWp [4] (sIf (bNot (eTru (eFn 2 m_law_told (aCons (eFn 1 m_is_whole (aCons (eV 4) (aNil))) (aCons (eFn 1 m_law_plain_number (aCons (eV 4) (aNil))) (aNil)))))) (sRet (eC (.bl false))) (sNx))
def h_law2 : Tg :=
    gNm 1
def g_law2 : DL.Env → Out :=
    sWp [1, 2, 3, 4] (sSeq (sSet (gNm 2) (eFn 1 m_law_layout (aCons (eFn 2 m_law_mixed (aCons (eV 0) (aCons (eV 1) (aNil)))) (aNil)))) <|
    sSeq (sSet (gNm 3) (eFn 2 m_law_thing (aCons (eV 2) (aCons (eFn 2 m_law_mixed (aCons (eV 0) (aCons (eOp dAdd (eC (.int 70)) (eV 1)) (aNil)))) (aNil))))) <|
    sSeq (sIf (bOr (bNot (eTru (eFn 2 m_law_told (aCons (eFn 1 m_is_layout (aCons (eV 2) (aNil))) (aCons (eC (.bl true)) (aNil)))))) (bNot (eTru (eFn 2 m_law_told (aCons (eFn 1 m_is_layout (aCons (eV 3) (aNil))) (aCons (eFn 1 m_law_good (aCons (eV 3) (aNil))) (aNil))))))) (sRet (eC (.bl false))) (sNx)) <|
    sIf (eTru (eCall dIsi (aCons (eV 3) (aCons (eC (.ty "tuple")) (aNil))))) (sFor (iOfT (eV 3)) h_law3 g_law3) (sNx))
def b_law : DL.Env → Out :=
    sSeq (sFor (iCall iRange1 (aCons (eCall dMax2 (aCons (eC (.int 1)) (aCons (eCall dMin2 (aCons (eCall dLen (aCons (eV 0) (aNil))) (aCons (eC (.int 60)) (aNil)))) (aNil)))) (aNil))) h_law2 g_law2) <|
    sSeq (sFgt [3] (sFor (iOf (eFrz (oLst (aCons (eC .non) (aCons (eC (.int 4)) (aCons (eC (.bl true)) (aCons (eC (.str "1x5+4:10")) (aCons (eFrzD dNew) (aCons (eFrz (oLst (aNil))) (aNil)))))))))) h_law1 g_law1)) <|
    sRet (eAnd (eFn 2 m_law_told (aCons (eFn 1 m_is_layout (aCons (eTup (aCons (eC (.int 6)) (aCons (eC (.int 20)) (aCons (eC (.int 24)) (aCons (eC (.int 25)) (aNil)))))) (aNil))) (aCons (eC (.bl true)) (aNil)))) (eFn 2 m_law_told (aCons (eFn 1 m_is_layout (aCons (eTup (aCons (eC (.int 0)) (aCons (eC (.int 1)) (aCons (eC (.int 1)) (aCons (eC (.int 2)) (aNil)))))) (aNil))) (aCons (eC (.bl true)) (aNil)))))
def m_law : List D → R D := mk 5 b_law
end K01
set_option Elab.async false
set_option linter.all false
set_option maxRecDepth 100000
set_option maxHeartbeats 1000000
--go: Lay.ix0 Lay.ix1 Lay.ix2 Lay.ix3 Lay.tp pr_0 pr_1 pr_tp pr_isi pr_len lay_isi lay_len
namespace K01
open PySem DL L2 LA FA FB FC FD FL
/-- things that may be asked of -/
def Sc : DL.D → Bool
  | .non => true | .bl _ => true | .int _ => true | .str _ => true | .lst _ => true | .tup _ => true | .dk _ _ => true
  | _ => false
def whole : DL.D → Bool
  | .int _ => true
  | _ => false
theorem isw {e : DL.D} (h : Sc e = true) : FL.m_is_whole [e] = .ok (.bl (whole e)) := by
  cases e with
  | non => kernel_rfl
  | bl _ => kernel_rfl
  | int _ => kernel_rfl
  | str _ => kernel_rfl
  | lst _ => kernel_rfl
  | tup _ => kernel_rfl
  | dk _ _ => kernel_rfl
  | _ => exact absurd h (by simp [Sc])
theorem lw {e : DL.D} (h : Sc e = true) : LB.m_law_whole [e] = .ok (.bl (whole e)) := by
  cases e with
  | non => kernel_rfl
  | bl _ => kernel_rfl
  | int _ => kernel_rfl
  | str _ => kernel_rfl
  | lst _ => kernel_rfl
  | tup _ => kernel_rfl
  | dk _ _ => kernel_rfl
  | _ => exact absurd h (by simp [Sc])
theorem told (b : Bool) : m_law_told [.bl b, .bl b] = .ok (.bl true) := by cases b <;> kernel_rfl
theorem isi_t (ds : List DL.D) : dIsi [.tup ds, .ty "tuple"] = .ok (.bl true) := rfl
theorem len_t (ds : List DL.D) : dLen [.tup ds] = .ok (.int ds.length) := rfl
theorem lay_flat (x : Lay) : x.d = .tup [.int x.u, .int x.w, .int x.l, .int x.b] := rfl
/-- four whole numbers -/
theorem four {ds : List DL.D} (h4 : ds.length = 4) (hw : ∀ e ∈ ds, whole e = true) : ∃ x : Lay, .tup ds = x.d := by
  match ds, h4 with
  | [a, b, c, d], _ =>
    have key : ∀ e ∈ [a, b, c, d], ∃ i, e = DL.D.int i := fun e he => by
      have := hw e he
      cases e with
      | int i => exact ⟨i, rfl⟩
      | _ => exact absurd this (by simp [whole])
    obtain ⟨i, rfl⟩ := key a (by simp)
    obtain ⟨j, rfl⟩ := key b (by simp)
    obtain ⟨k, rfl⟩ := key c (by simp)
    obtain ⟨l, rfl⟩ := key d (by simp)
    exact ⟨⟨i, j, k, l⟩, rfl⟩
theorem not4 {ds : List DL.D} (h : ds.length ≠ 4) : FL.m_is_layout [.tup ds] = .ok (.bl false) ∧ m_law_good [.tup ds] = .ok (.bl false) := by
  have c : ¬ ((ds.length : Nat) : Int) = 4 := by omega
  have i1 := isi_t ds
  have i2 := len_t ds
  refine ⟨?_, ?_⟩
  · unfold FL.m_is_layout FL.b_is_layout
    simp_arith [Lay.ix0, Lay.ix1, Lay.ix2, Lay.ix3, Lay.tp, pr_0, pr_1, pr_tp, pr_isi, pr_len, lay_isi, lay_len, i1, i2, c]
  · unfold m_law_good b_law_good
    simp_arith [Lay.ix0, Lay.ix1, Lay.ix2, Lay.ix3, Lay.tp, pr_0, pr_1, pr_tp, pr_isi, pr_len, lay_isi, lay_len, i1, i2, c]
theorem good_lay (x : Lay) : m_law_good [x.d] = .ok (.bl (okB x)) := by
  have lc := oLc_if (vs := [5]) (fi := iOfT (eV 0)) (h := gNm 5) (ft := lt_law_good1) (fe := le_law_good1) (Γ := [some (.val (x.d)), none, none, none, none, none]) [x.u, x.w, x.l, x.b] D.int D.int (fun _ => false) (by rw [lay_flat]; simp_arith [Lay.ix0, Lay.ix1, Lay.ix2, Lay.ix3, Lay.tp, pr_0, pr_1, pr_tp, pr_isi, pr_len, lay_isi, lay_len]) (by simp) (by
    intro i hi
    have w := lw (e := .int i) rfl
    refine ⟨_, rfl, ?_, fun h => by cases h⟩
    unfold lt_law_good1
    rw [lay_flat]
    simp_arith [Lay.ix0, Lay.ix1, Lay.ix2, Lay.ix3, Lay.tp, pr_0, pr_1, pr_tp, pr_isi, pr_len, lay_isi, lay_len, w, whole])
  have fe : ([x.u, x.w, x.l, x.b].filter fun _ => false).map D.int = [] := rfl
  rw [fe] at lc
  have n0 : dNeN (.lst []) (.lst []) = .ok (.bl false) := by kernel_rfl
  have key : ∀ b : Bool, b = okB x → m_law_good [x.d] = .ok (.bl b) → m_law_good [x.d] = .ok (.bl (okB x)) := fun b h h' => by rw [← h]; exact h'
  by_cases c : x.u < 0 ∨ x.u > 6 ∨ x.w < 1 ∨ x.w > 20 ∨ x.l < 0 ∨ x.l > 24 ∨ x.b < 2 ∨ x.b > 25
  · refine key false ((decide_eq_false fun h => by omega).symm) ?_
    have cc : ∀ b1 b2 b3 b4 b5 b6 b7 b8 : Bool, True := fun _ _ _ _ _ _ _ _ => trivial
    unfold m_law_good b_law_good
    by_cases c1 : x.u < 0
    · simp_arith [Lay.ix0, Lay.ix1, Lay.ix2, Lay.ix3, Lay.tp, pr_0, pr_1, pr_tp, pr_isi, pr_len, lay_isi, lay_len, lc, n0, c1]
    · by_cases c2 : x.u > 6
      · simp_arith [Lay.ix0, Lay.ix1, Lay.ix2, Lay.ix3, Lay.tp, pr_0, pr_1, pr_tp, pr_isi, pr_len, lay_isi, lay_len, lc, n0, c1, c2]
      · by_cases c3 : x.w < 1
        · simp_arith [Lay.ix0, Lay.ix1, Lay.ix2, Lay.ix3, Lay.tp, pr_0, pr_1, pr_tp, pr_isi, pr_len, lay_isi, lay_len, lc, n0, c1, c2, c3]
        · by_cases c4 : x.w > 20
          · simp_arith [Lay.ix0, Lay.ix1, Lay.ix2, Lay.ix3, Lay.tp, pr_0, pr_1, pr_tp, pr_isi, pr_len, lay_isi, lay_len, lc, n0, c1, c2, c3, c4]
          · by_cases c5 : x.l < 0
            · simp_arith [Lay.ix0, Lay.ix1, Lay.ix2, Lay.ix3, Lay.tp, pr_0, pr_1, pr_tp, pr_isi, pr_len, lay_isi, lay_len, lc, n0, c1, c2, c3, c4, c5]
            · by_cases c6 : x.l > 24
              · simp_arith [Lay.ix0, Lay.ix1, Lay.ix2, Lay.ix3, Lay.tp, pr_0, pr_1, pr_tp, pr_isi, pr_len, lay_isi, lay_len, lc, n0, c1, c2, c3, c4, c5, c6]
              · by_cases c7 : x.b < 2
                · simp_arith [Lay.ix0, Lay.ix1, Lay.ix2, Lay.ix3, Lay.tp, pr_0, pr_1, pr_tp, pr_isi, pr_len, lay_isi, lay_len, lc, n0, c1, c2, c3, c4, c5, c6, c7]
                · have c8 : x.b > 25 := by omega
                  simp_arith [Lay.ix0, Lay.ix1, Lay.ix2, Lay.ix3, Lay.tp, pr_0, pr_1, pr_tp, pr_isi, pr_len, lay_isi, lay_len, lc, n0, c1, c2, c3, c4, c5, c6, c7, c8]
  · have c1 : ¬ x.u < 0 := by omega
    have c2 : ¬ x.u > 6 := by omega
    have c3 : ¬ x.w < 1 := by omega
    have c4 : ¬ x.w > 20 := by omega
    have c5 : ¬ x.l < 0 := by omega
    have c6 : ¬ x.l > 24 := by omega
    have c7 : ¬ x.b < 2 := by omega
    have c8 : ¬ x.b > 25 := by omega
    have mm := dMul_r (i := x.u) (j := x.w) (by omega) (by omega)
    by_cases d1 : x.u = 0
    · by_cases d2 : x.w > 1
      · refine key false ((decide_eq_false fun h => by omega).symm) ?_
        clear key
        obtain ⟨u, w, l, b⟩ := x
        dsimp only at *
        subst d1
        unfold m_law_good b_law_good Lay.d
        unfold Lay.d at lc
        simp_arith [Lay.ix0, Lay.ix1, Lay.ix2, Lay.ix3, Lay.tp, pr_0, pr_1, pr_tp, pr_isi, pr_len, lay_isi, lay_len, lc, n0, c3, c4, c5, c6, c7, c8, d2]
      · have d3 : ¬ x.u > 0 := by omega
        have e : okB x = decide (x.b ≤ x.u * x.w + x.l + 1) := by
          unfold okB
          refine decide_eq_decide.mpr ⟨fun h => by have := h.2.2.2.2.2.2.2.2.2.2; omega, fun h => ⟨by omega, by omega, by omega, by omega, by omega, by omega, by omega, by omega, fun _ => by omega, fun z => by omega, by omega⟩⟩
        rw [e]
        have z : x.u * x.w = 0 := by rw [d1, Int.zero_mul]
        clear key e
        obtain ⟨u, w, l, b⟩ := x
        dsimp only at *
        subst d1
        unfold m_law_good b_law_good Lay.d
        unfold Lay.d at lc
        simp_arith [Lay.ix0, Lay.ix1, Lay.ix2, Lay.ix3, Lay.tp, pr_0, pr_1, pr_tp, pr_isi, pr_len, lay_isi, lay_len, lc, n0, c3, c4, c5, c6, c7, c8, d2, mm]
    · have d3 : x.u > 0 := by omega
      by_cases d4 : x.w > x.l + 1
      · refine key false ((decide_eq_false fun h => by have := h.2.2.2.2.2.2.2.2.2.1 d3; omega).symm) ?_
        unfold m_law_good b_law_good
        simp_arith [Lay.ix0, Lay.ix1, Lay.ix2, Lay.ix3, Lay.tp, pr_0, pr_1, pr_tp, pr_isi, pr_len, lay_isi, lay_len, lc, n0, c1, c2, c3, c4, c5, c6, c7, c8, d1, d3, d4]
      · have e : okB x = decide (x.b ≤ x.u * x.w + x.l + 1) := by
          unfold okB
          refine decide_eq_decide.mpr ⟨fun h => by have := h.2.2.2.2.2.2.2.2.2.2; omega, fun h => ⟨by omega, by omega, by omega, by omega, by omega, by omega, by omega, by omega, fun z => by omega, fun z => by omega, by omega⟩⟩
        rw [e]
        unfold m_law_good b_law_good
        simp_arith [Lay.ix0, Lay.ix1, Lay.ix2, Lay.ix3, Lay.tp, pr_0, pr_1, pr_tp, pr_isi, pr_len, lay_isi, lay_len, lc, n0, c1, c2, c3, c4, c5, c6, c7, c8, d1, d3, d4, mm]
/-- not all four are whole -/
theorem bad4 {ds : List DL.D} (h4 : ds.length = 4) (hs : ∀ e ∈ ds, Sc e = true) (hw : ¬ ∀ e ∈ ds, whole e = true) : FL.m_is_layout [.tup ds] = .ok (.bl false) ∧ m_law_good [.tup ds] = .ok (.bl false) := by
  have c : ((ds.length : Nat) : Int) = 4 := by omega
  have i1 := isi_t ds
  have i2 := len_t ds
  refine ⟨?_, ?_⟩
  · have l1 := for_all (h := FL.h_is_layout1) (g := FL.g_is_layout1) ds (fun _ => [some (.val (.tup ds)), none, none, none, none, none]) (fun i => whole (ds.getD i .non)) (.rt (.bl false)) (fun Γ e => by cases e) (by
      intro i d hd
      have w := isw (hs d (List.mem_of_getElem? hd))
      have e : ds.getD i .non = d := by rw [List.getD_eq_getElem?_getD, hd]; rfl
      rw [e]
      cases hd2 : whole d with
      | true =>
        rw [hd2] at w
        simp_arith [Lay.ix0, Lay.ix1, Lay.ix2, Lay.ix3, Lay.tp, pr_0, pr_1, pr_tp, pr_isi, pr_len, lay_isi, lay_len, FL.h_is_layout1, FL.g_is_layout1, w]
      | false =>
        rw [hd2] at w
        simp_arith [Lay.ix0, Lay.ix1, Lay.ix2, Lay.ix3, Lay.tp, pr_0, pr_1, pr_tp, pr_isi, pr_len, lay_isi, lay_len, FL.h_is_layout1, FL.g_is_layout1, w])
    have ne : ¬ (List.range ds.length).all (fun i => whole (ds.getD i .non)) = true := by
      intro h
      rw [List.all_eq_true] at h
      refine hw fun e he => ?_
      obtain ⟨i, hi, rfl⟩ := List.mem_iff_getElem.mp he
      have := h i (List.mem_range.mpr hi)
      rw [List.getD_eq_getElem?_getD, List.getElem?_eq_getElem hi] at this
      exact this
    rw [if_neg ne, brk_rt] at l1
    unfold FL.m_is_layout FL.b_is_layout
    simp_arith [Lay.ix0, Lay.ix1, Lay.ix2, Lay.ix3, Lay.tp, pr_0, pr_1, pr_tp, pr_isi, pr_len, lay_isi, lay_len, i1, i2, c, l1]
  · have lc := oLc_if (vs := [5]) (fi := iOfT (eV 0)) (h := gNm 5) (ft := lt_law_good1) (fe := le_law_good1) (Γ := [some (.val (.tup ds)), none, none, none, none, none]) ds id id (fun e => !whole e) (by simp_arith [Lay.ix0, Lay.ix1, Lay.ix2, Lay.ix3, Lay.tp, pr_0, pr_1, pr_tp, pr_isi, pr_len, lay_isi, lay_len, List.map_id]) (by omega) (by
      intro e he
      have w := lw (hs e he)
      refine ⟨_, rfl, ?_, fun h => ?_⟩
      · unfold lt_law_good1
        simp_arith [Lay.ix0, Lay.ix1, Lay.ix2, Lay.ix3, Lay.tp, pr_0, pr_1, pr_tp, pr_isi, pr_len, lay_isi, lay_len, w, id]
      · unfold le_law_good1
        simp_arith [Lay.ix0, Lay.ix1, Lay.ix2, Lay.ix3, Lay.tp, pr_0, pr_1, pr_tp, pr_isi, pr_len, lay_isi, lay_len, id])
    rw [List.map_id] at lc
    obtain ⟨y, ys, hy⟩ : ∃ y ys, (ds.filter fun e => !whole e) = y :: ys := by
      cases hf : ds.filter fun e => !whole e with
      | cons y ys => exact ⟨y, ys, rfl⟩
      | nil =>
        exfalso
        refine hw fun e he => ?_
        cases hwe : whole e with
        | true => rfl
        | false =>
          have : e ∈ ds.filter fun e => !whole e := List.mem_filter.mpr ⟨he, by rw [hwe]; rfl⟩
          rw [hf] at this
          cases this
    rw [hy] at lc
    have n1 : dNeN (.lst (y :: ys)) (.lst []) = .ok (.bl true) := rfl
    unfold m_law_good b_law_good
    simp_arith [Lay.ix0, Lay.ix1, Lay.ix2, Lay.ix3, Lay.tp, pr_0, pr_1, pr_tp, pr_isi, pr_len, lay_isi, lay_len, i1, i2, c, lc, n1]
/-- a thing that the law asks of -/
inductive Th : DL.D → Prop where
  | lst (xs : List DL.D) : Th (.lst xs)
  | tup (ds : List DL.D) (h : ∀ e ∈ ds, Sc e = true) : Th (.tup ds)
theorem same {d : DL.D} (h : Th d) : ∃ b, FL.m_is_layout [d] = .ok (.bl b) ∧ m_law_good [d] = .ok (.bl b) := by
  cases h with
  | lst xs =>
    have i1 : dIsi [.lst xs, .ty "tuple"] = .ok (.bl false) := rfl
    refine ⟨false, ?_, ?_⟩
    · unfold FL.m_is_layout FL.b_is_layout
      simp_arith [Lay.ix0, Lay.ix1, Lay.ix2, Lay.ix3, Lay.tp, pr_0, pr_1, pr_tp, pr_isi, pr_len, lay_isi, lay_len, i1]
    · unfold m_law_good b_law_good
      simp_arith [Lay.ix0, Lay.ix1, Lay.ix2, Lay.ix3, Lay.tp, pr_0, pr_1, pr_tp, pr_isi, pr_len, lay_isi, lay_len, i1]
  | tup ds h =>
    by_cases c : ds.length = 4
    · by_cases hw : ∀ e ∈ ds, whole e = true
      · obtain ⟨x, hx⟩ := four c hw
        rw [hx]
        exact ⟨okB x, FL.is_layout x, good_lay x⟩
      · exact ⟨false, bad4 c h hw⟩
    · exact ⟨false, not4 c⟩
theorem ed {Γ : DL.Env} : eFrzD dNew Γ = .ok (.dk [] []) := rfl
theorem addA_i {i j : Int} : dAddA (.int i) (.int j) = .ok (.int (i + j)) := rfl
theorem slA_ {f : DL.Env → R DL.D} {fl fh : DL.Env → R (Option Int)} {Γ : DL.Env} : eSlA f fl fh Γ = (f Γ).bind fun d => (fl Γ).bind fun lo => (fh Γ).bind fun hi => slA1 d lo hi := rfl
theorem revT_ {f : DL.Env → R DL.D} {Γ : DL.Env} {ds : List DL.D} (h : f Γ = .ok (.tup ds)) : eRevT f Γ = .ok (.tup ds.reverse) := by unfold eRevT; rw [h]; rfl
theorem put_at {x : Lay} {k : Int} (hk : k = 0 ∨ k = 1 ∨ k = 2 ∨ k = 3) {o : DL.D} (ho : Sc o = true) : ∃ a b cc ds, slA1 x.d none (some k) = .ok a ∧ dAddA a (.tup [o]) = .ok b ∧ slA1 x.d (some (k + 1)) none = .ok cc ∧ dAddA b cc = .ok (.tup ds) ∧ ∀ e ∈ ds, Sc e = true := by
  have sc : ∀ a b c d : DL.D, Sc a = true → Sc b = true → Sc c = true → Sc d = true → ∀ e ∈ [a, b, c, d], Sc e = true := fun a b c d h1 h2 h3 h4 e he => by
    simp only [List.mem_cons, List.not_mem_nil, or_false] at he
    rcases he with rfl | rfl | rfl | rfl <;> assumption
  rcases hk with rfl | rfl | rfl | rfl
  · exact ⟨.tup [], .tup [o], .tup [.int x.w, .int x.l, .int x.b], [o, .int x.w, .int x.l, .int x.b], by kernel_rfl, by kernel_rfl, by kernel_rfl, by kernel_rfl, sc _ _ _ _ ho rfl rfl rfl⟩
  · exact ⟨.tup [.int x.u], .tup [.int x.u, o], .tup [.int x.l, .int x.b], [.int x.u, o, .int x.l, .int x.b], by kernel_rfl, by kernel_rfl, by kernel_rfl, by kernel_rfl, sc _ _ _ _ rfl ho rfl rfl⟩
  · exact ⟨.tup [.int x.u, .int x.w], .tup [.int x.u, .int x.w, o], .tup [.int x.b], [.int x.u, .int x.w, o, .int x.b], by kernel_rfl, by kernel_rfl, by kernel_rfl, by kernel_rfl, sc _ _ _ _ rfl rfl ho rfl⟩
  · exact ⟨.tup [.int x.u, .int x.w, .int x.l], .tup [.int x.u, .int x.w, .int x.l, o], .tup [], [.int x.u, .int x.w, .int x.l, o], by kernel_rfl, by kernel_rfl, by kernel_rfl, by kernel_rfl, sc _ _ _ _ rfl rfl rfl ho⟩
theorem law_thing (x : Lay) (c : Int) : ∃ d, m_law_thing [x.d, .int c] = .ok d ∧ Th d := by
  have int4 : ∀ e ∈ [DL.D.int x.u, .int x.w, .int x.l, .int x.b], Sc e = true := fun e he => by
    simp only [List.mem_cons, List.not_mem_nil, or_false] at he
    rcases he with rfl | rfl | rfl | rfl <;> rfl
  have all5 : ∀ a b c d f : Int, ∀ e ∈ [DL.D.int a, .int b, .int c, .int d, .int f], Sc e = true := fun a b c d f e he => by
    simp only [List.mem_cons, List.not_mem_nil, or_false] at he
    rcases he with rfl | rfl | rfl | rfl | rfl <;> rfl
  have hk : c % 4 = 0 ∨ c % 4 = 1 ∨ c % 4 = 2 ∨ c % 4 = 3 := by omega
  have ll : oList [x.d] = .ok [.int x.u, .int x.w, .int x.l, .int x.b] := rfl
  by_cases c0 : c / 4 % 5 = 0
  · have t1 : dAddA x.d (.tup [.int 1]) = .ok (.tup [.int x.u, .int x.w, .int x.l, .int x.b, .int 1]) := by kernel_rfl
    have t2 : slA1 x.d none (some 3) = .ok (.tup [.int x.u, .int x.w, .int x.l]) := by kernel_rfl
    have t3 : eRevT (eV 0) [some (.val (x.d)), some (.val (.int (c))), some (.val (.int (c % 4))), some (.val (.int (c / 4 % 5))), some (.val (.int (c / 20))), none] = .ok (.tup [.int x.b, .int x.l, .int x.w, .int x.u]) := by kernel_rfl
    rw [c0] at t3
    obtain ⟨d, hd, td⟩ : ∃ d, dIx (.lst [.lst [.int x.u, .int x.w, .int x.l, .int x.b], .tup [.int x.u, .int x.w, .int x.l, .int x.b, .int 1], .tup [.int x.u, .int x.w, .int x.l], .tup [x.d], .tup [.int x.b, .int x.l, .int x.w, .int x.u], x.d, .tup []]) (.int (c / 20 % 7)) = .ok d ∧ Th d := by
      rcases (show c / 20 % 7 = 0 ∨ c / 20 % 7 = 1 ∨ c / 20 % 7 = 2 ∨ c / 20 % 7 = 3 ∨ c / 20 % 7 = 4 ∨ c / 20 % 7 = 5 ∨ c / 20 % 7 = 6 by omega) with e | e | e | e | e | e | e
      · rw [e]; exact ⟨_, rfl, .lst _⟩
      · rw [e]; exact ⟨_, rfl, .tup _ (all5 _ _ _ _ _)⟩
      · rw [e]; exact ⟨_, rfl, .tup _ fun e he => by
          simp only [List.mem_cons, List.not_mem_nil, or_false] at he
          rcases he with rfl | rfl | rfl <;> rfl⟩
      · rw [e]; exact ⟨_, rfl, .tup _ fun e he => by rw [List.mem_singleton.mp he]; rfl⟩
      · rw [e]; exact ⟨_, rfl, .tup _ fun e he => by
          simp only [List.mem_cons, List.not_mem_nil, or_false] at he
          rcases he with rfl | rfl | rfl | rfl <;> rfl⟩
      · rw [e]; exact ⟨_, rfl, .tup _ int4⟩
      · rw [e]; exact ⟨_, rfl, .tup _ fun e he => by cases he⟩
    refine ⟨d, ?_, td⟩
    simp only [lay_flat] at t1 t2 t3 hd ⊢
    unfold m_law_thing b_law_thing
    simp_arith [Lay.ix0, Lay.ix1, Lay.ix2, Lay.ix3, Lay.tp, pr_0, pr_1, pr_tp, pr_isi, pr_len, lay_isi, lay_len, c0, t1, slA_, t2, t3, hd]
  · obtain ⟨o, ho, st⟩ : ∃ o, Sc o = true ∧ ∀ a b cc r, slA1 x.d none (some (c % 4)) = .ok a → dAddA a (.tup [o]) = .ok b → slA1 x.d (some (c % 4 + 1)) none = .ok cc → dAddA b cc = .ok r → m_law_thing [x.d, .int c] = .ok r := by
      by_cases c1 : c / 4 % 5 = 1
      · obtain ⟨i, hi⟩ : ∃ i : Int, dIx x.d (.int (c % 4)) = .ok (.int i) := by
          rcases hk with e | e | e | e <;> (rw [e]; exact ⟨_, rfl⟩)
        refine ⟨.int (i + c / 20 % 3 - 1), rfl, fun a b cc r h1 h2 h3 h4 => ?_⟩
        unfold m_law_thing b_law_thing
        simp_arith [Lay.ix0, Lay.ix1, Lay.ix2, Lay.ix3, Lay.tp, pr_0, pr_1, pr_tp, pr_isi, pr_len, lay_isi, lay_len, c0, c1, slA_, hi, addA_i, h1, h2, h3, h4]
      · by_cases c2 : c / 4 % 5 = 2
        · obtain ⟨o, ho, hd⟩ : ∃ o, Sc o = true ∧ dIx (.lst [.bl true, .bl false, .non, .str "1", .lst [.int 1], .tup [.int 1], .dk [] []]) (.int (c / 20 % 7)) = .ok o := by
            rcases (show c / 20 % 7 = 0 ∨ c / 20 % 7 = 1 ∨ c / 20 % 7 = 2 ∨ c / 20 % 7 = 3 ∨ c / 20 % 7 = 4 ∨ c / 20 % 7 = 5 ∨ c / 20 % 7 = 6 by omega) with e | e | e | e | e | e | e <;> (rw [e]; exact ⟨_, rfl, rfl⟩)
          refine ⟨o, ho, fun a b cc r h1 h2 h3 h4 => ?_⟩
          unfold m_law_thing b_law_thing
          simp_arith [Lay.ix0, Lay.ix1, Lay.ix2, Lay.ix3, Lay.tp, pr_0, pr_1, pr_tp, pr_isi, pr_len, lay_isi, lay_len, c0, c1, c2, slA_, ed, hd, addA_i, h1, h2, h3, h4]
        · refine ⟨.int (c / 20 % 30 - 2), rfl, fun a b cc r h1 h2 h3 h4 => ?_⟩
          unfold m_law_thing b_law_thing
          simp_arith [Lay.ix0, Lay.ix1, Lay.ix2, Lay.ix3, Lay.tp, pr_0, pr_1, pr_tp, pr_isi, pr_len, lay_isi, lay_len, c0, c1, c2, slA_, addA_i, h1, h2, h3, h4]
    obtain ⟨a, b, cc, ds, h1, h2, h3, h4, hs⟩ := put_at (x := x) hk ho
    exact ⟨.tup ds, st a b cc _ h1 h2 h3 h4, .tup ds hs⟩
theorem law_true (ns : List Int) (h : ns.length ≤ 63) : m_law [.scr ns] = .ok (.bl true) := by
  have n60 : ∃ n : Nat, n ≤ 60 ∧ (if (if (60 : Int) < (ns.length : Nat) then (60 : Int) else (ns.length : Nat)) > 1 then (if (60 : Int) < (ns.length : Nat) then (60 : Int) else (ns.length : Nat)) else 1) = (n : Nat) := by
    refine ⟨(if (if (60 : Int) < (ns.length : Nat) then (60 : Int) else (ns.length : Nat)) > 1 then (if (60 : Int) < (ns.length : Nat) then (60 : Int) else (ns.length : Nat)) else 1).toNat, ?_, ?_⟩
    · split <;> split <;> omega
    · split <;> split <;> omega
  obtain ⟨n, n1, hn⟩ := n60
  have t2 := told true
  have ir : inR62 ((n : Nat) : Int) = true := by
    unfold inR62
    simp only [Bool.and_eq_true, decide_eq_true_eq]
    omega
  have l1 := for_rng (h := h_law2) (g := g_law2) 0 n (fun _ => [some (.val (.scr ns)), none, none, none, none]) (by
    intro i hi
    have e1 := LA.mixed ns (k := (i : Int)) (by omega) (by omega)
    have e2 := LA.mixed ns (k := 70 + (i : Int)) (by omega) (by omega)
    have m1 := LA.mix_nonneg ns (k := (i : Int)) (by omega)
    have el := LA.layout m1
    have ok := LA.lay_ok m1
    generalize LA.lay (LA.mix ns (i : Int)) = x at *
    have il := FL.is_layout x
    rw [okB_ok.mpr ok] at il
    obtain ⟨d, hd, td⟩ := law_thing x (LA.mix ns (70 + (i : Int)))
    obtain ⟨b, s1, s2⟩ := same td
    have tb := told b
    rw [Int.zero_add]
    cases td with
    | lst xs =>
      have i1 : dIsi [.lst xs, .ty "tuple"] = .ok (.bl false) := rfl
      simp_arith [Lay.ix0, Lay.ix1, Lay.ix2, Lay.ix3, Lay.tp, pr_0, pr_1, pr_tp, pr_isi, pr_len, lay_isi, lay_len, h_law2, g_law2, e1, e2, el, il, hd, s1, s2, tb, t2, i1]
    | tup ds hs =>
      have i1 := isi_t ds
      have l3 := for_ds (h := h_law3) (g := g_law3) ds (fun _ => [some (.val (.scr ns)), some (.val (.int ((i : Nat)))), some (.val (x.d)), some (.val (.tup ds)), none]) (by
        intro j e he
        have se := hs e (List.mem_of_getElem? he)
        have w1 := isw se
        have w2 := lw se
        have tw := told (whole e)
        simp_arith [Lay.ix0, Lay.ix1, Lay.ix2, Lay.ix3, Lay.tp, pr_0, pr_1, pr_tp, pr_isi, pr_len, lay_isi, lay_len, h_law3, g_law3, w1, w2, tw])
      simp_arith [Lay.ix0, Lay.ix1, Lay.ix2, Lay.ix3, Lay.tp, pr_0, pr_1, pr_tp, pr_isi, pr_len, lay_isi, lay_len, h_law2, g_law2, e1, e2, el, il, hd, s1, s2, tb, t2, i1, l3])
  have l2 := for_ds (h := h_law1) (g := g_law1) [.non, .int 4, .bl true, .str "1x5+4:10", .dk [] [], .lst []] (fun _ => [some (.val (.scr ns)), none, none, none, none]) (by
    intro j e he
    have key : FL.m_is_layout [e] = .ok (.bl false) ∧ Sc e = true := by
      have hm := List.mem_of_getElem? he
      simp only [List.mem_cons, List.not_mem_nil, or_false] at hm
      rcases hm with rfl | rfl | rfl | rfl | rfl | rfl <;> exact ⟨by kernel_rfl, rfl⟩
    obtain ⟨k1, k2⟩ := key
    have w1 := isw k2
    have w2 := lw k2
    have tw := told (whole e)
    have tf := told false
    simp_arith [Lay.ix0, Lay.ix1, Lay.ix2, Lay.ix3, Lay.tp, pr_0, pr_1, pr_tp, pr_isi, pr_len, lay_isi, lay_len, h_law1, g_law1, k1, w1, w2, tw, tf])
  have o1 : okB ⟨6, 20, 24, 25⟩ = true := by decide
  have o2 : okB ⟨0, 1, 1, 2⟩ = true := by decide
  have f1 : FL.m_is_layout [.tup [.int 6, .int 20, .int 24, .int 25]] = .ok (.bl true) := by
    have := FL.is_layout ⟨6, 20, 24, 25⟩
    rw [o1] at this
    exact this
  have f2 : FL.m_is_layout [.tup [.int 0, .int 1, .int 1, .int 2]] = .ok (.bl true) := by
    have := FL.is_layout ⟨0, 1, 1, 2⟩
    rw [o2] at this
    exact this
  have ir1 : iRange1 [.int (n : Nat)] = .ok (rngL 0 n) := by
    show (if inR62 ((n : Nat) : Int) = true then R.ok (rngL 0 ((n : Nat) : Int).toNat) else R.stuck) = _
    rw [if_pos ir, Int.toNat_natCast]
  unfold m_law b_law
  simp_arith [Lay.ix0, Lay.ix1, Lay.ix2, Lay.ix3, Lay.tp, pr_0, pr_1, pr_tp, pr_isi, pr_len, lay_isi, lay_len, hn, ir1, l1, ed, l2, f1, f2, t2]
end K01
set_option Elab.async false
set_option linter.all false
set_option maxRecDepth 100000
set_option maxHeartbeats 4000000
/-! law_k01_what_is_a_layout: each def does what its function over trees says; the end (printed by gen.py). -/
namespace K01
open PySem PySem.Spec L2 DL
def top (i : Nat) : Stmt := PySem.Challenge.pw_beadframe_k01_what_is_a_layout.main.body.getD i (.Pass ⟨0, 0, 0, 0⟩)
structure Bt (mg : Str → Option Value) : Prop where
  n_isinstance : mg "isinstance" = none
  n_int : mg "int" = none
  n_bool : mg "bool" = none
  n_len : mg "len" = none
  n_min : mg "min" = none
  n_list : mg "list" = none
  n_tuple : mg "tuple" = none
  n_range : mg "range" = none
  n_max : mg "max" = none
abbrev s_is_whole : Stmt := top 5
abbrev s_full_worth : Stmt := top 7
abbrev s_law_mixed : Stmt := top 9
abbrev s_law_layout : Stmt := top 10
abbrev s_law_thing : Stmt := top 11
abbrev s_law_plain_number : Stmt := top 12
abbrev s_law_told : Stmt := top 14
abbrev s_is_layout : Stmt := top 6
abbrev s_law_good : Stmt := top 13
abbrev s_law : Stmt := top 15
section
variable {P : Program} {w : World} {K : PySem.W.Frag} {mg : Str → Option Value} {base : Heap}
theorem sc_is_whole : FnScope ["thing"] ["thing"] (defScope s_is_whole) := ⟨rfl, rfl, rfl, by decide +kernel, rfl, by decide +kernel, by decide +kernel⟩
theorem k_is_whole {a : Addr} (F : ∃ fd, FunD K "is_whole" "is_whole" (defArgs s_is_whole) (defBody s_is_whole) (defScope s_is_whole) [] [] a fd) (gm : mg "is_whole" = some (.ref a)) (B : Bt mg) : Kn P w K mg base 1 "is_whole" 1 m_is_whole := by
  obtain ⟨fd, Fd⟩ := F
  have hb : Binds K fd ["thing"] [] := Fd.bindsN (fun _ _ _ _ _ _ us hl => match us, hl with | [_], _ => by kernel_rfl)
  have G : FnOk P w K mg base (L2.CX P w) 1 a fd ["thing"] (spD K mg 1 (mk 1 b_is_whole)) := by
    refine fn_ok (k := 0) (g := b_is_whole) (N := ["thing"]) (ps := ["thing"]) Fd sc_is_whole (by decide) ?_
    intro cdv A outer s H E hr
    exact dss_one (ds_ret (de_and (de_callB call_isi sat_isi (by unfold L2.Gl; kernel_rfl) B.n_isinstance (by decide +kernel) (da_cons (de_var 0 (hv := Or.inl (by kernel_rfl))) (da_cons (de_ty (by unfold L2.Gl; kernel_rfl) B.n_int (by decide +kernel)) (da_nil)))) (de_one (de_not (de_callB call_isi sat_isi (by unfold L2.Gl; kernel_rfl) B.n_isinstance (by decide +kernel) (da_cons (de_var 0 (hv := Or.inl (by kernel_rfl))) (da_cons (de_ty (by unfold L2.Gl; kernel_rfl) B.n_bool (by decide +kernel)) (da_nil))))))))
  exact ⟨a, fd, ["thing"], gm, Fd.kp, hb, G⟩
theorem sc_full_worth : FnScope ["layout", "upper", "worth", "lower", "base"] ["layout"] (defScope s_full_worth) := ⟨rfl, rfl, rfl, by decide +kernel, rfl, by decide +kernel, by decide +kernel⟩
theorem k_full_worth {a : Addr} (F : ∃ fd, FunD K "full_worth" "full_worth" (defArgs s_full_worth) (defBody s_full_worth) (defScope s_full_worth) [] [] a fd) (gm : mg "full_worth" = some (.ref a)) (B : Bt mg) : Kn P w K mg base 1 "full_worth" 1 m_full_worth := by
  obtain ⟨fd, Fd⟩ := F
  have hb : Binds K fd ["layout"] [] := Fd.bindsN (fun _ _ _ _ _ _ us hl => match us, hl with | [_], _ => by kernel_rfl)
  have G : FnOk P w K mg base (L2.CX P w) 1 a fd ["layout"] (spD K mg 1 (mk 5 b_full_worth)) := by
    refine fn_ok (k := 0) (g := b_full_worth) (N := ["layout", "upper", "worth", "lower", "base"]) (ps := ["layout"]) Fd sc_full_worth (by decide) ?_
    intro cdv A outer s H E hr
    exact dss_cons (ds_asg (de_var 0 (hv := Or.inl (by kernel_rfl))) (dg_tup rfl (dgs_cons (dg_name 1 sc_full_worth.nd (hx := Or.inl (by kernel_rfl)) (hf := .inl rfl)) (dgs_cons (dg_name 2 sc_full_worth.nd (hx := Or.inl (by kernel_rfl)) (hf := .inl rfl)) (dgs_cons (dg_name 3 sc_full_worth.nd (hx := Or.inl (by kernel_rfl)) (hf := .inl rfl)) (dgs_cons (dg_name 4 sc_full_worth.nd (hx := Or.inl (by kernel_rfl)) (hf := .inl rfl)) (dgs_nil))))))) <|
    dss_one (ds_ret (de_op opAdd sat_add (de_op opMul sat_mul (de_var 1 (hv := Or.inl (by kernel_rfl))) (de_var 2 (hv := Or.inl (by kernel_rfl)))) (de_var 3 (hv := Or.inl (by kernel_rfl)))))
  exact ⟨a, fd, ["layout"], gm, Fd.kp, hb, G⟩
theorem sc_law_mixed : FnScope ["_law_script", "_law_k"] ["_law_script", "_law_k"] (defScope s_law_mixed) := ⟨rfl, rfl, rfl, by decide +kernel, rfl, by decide +kernel, by decide +kernel⟩
theorem k_law_mixed {a : Addr} (F : ∃ fd, FunD K "_law_mixed" "_law_mixed" (defArgs s_law_mixed) (defBody s_law_mixed) (defScope s_law_mixed) [] [] a fd) (gm : mg "_law_mixed" = some (.ref a)) (B : Bt mg) : Kn P w K mg base 1 "_law_mixed" 2 m_law_mixed := by
  obtain ⟨fd, Fd⟩ := F
  have hb : Binds K fd ["_law_script", "_law_k"] [] := Fd.bindsN (fun _ _ _ _ _ _ us hl => match us, hl with | [_, _], _ => by kernel_rfl)
  have G : FnOk P w K mg base (L2.CX P w) 1 a fd ["_law_script", "_law_k"] (spD K mg 2 (mk 2 b_law_mixed)) := by
    refine fn_ok (k := 0) (g := b_law_mixed) (N := ["_law_script", "_law_k"]) (ps := ["_law_script", "_law_k"]) Fd sc_law_mixed (by decide) ?_
    intro cdv A outer s H E hr
    exact dss_cons (ds_if (dt_cmp (opEq hr.units) sat_eq (de_var 0 (hv := Or.inl (by kernel_rfl))) (de_frz (do_lst (da_nil))) (nomark _)) (dss_one (ds_ret (de_op opMul sat_mul (de_var 1 (hv := Or.inl (by kernel_rfl))) (de_int)))) (dss_nil)) <|
    dss_one (ds_ret (de_op op_mod sat_mod (de_op opMul sat_mul (de_op opAdd sat_add (de_op opAdd sat_add (de_ix ix_seq sat_ix (de_var 0 (hv := Or.inl (by kernel_rfl))) (de_op op_mod sat_mod (de_var 1 (hv := Or.inl (by kernel_rfl))) (de_callB call_len sat_len (by unfold L2.Gl; kernel_rfl) B.n_len (by decide +kernel) (da_cons (de_var 0 (hv := Or.inl (by kernel_rfl))) (da_nil)))) (fun _ _ => rfl)) (de_int)) (de_var 1 (hv := Or.inl (by kernel_rfl)))) (de_op opAdd sat_add (de_int) (de_op opMul sat_mul (de_int) (de_var 1 (hv := Or.inl (by kernel_rfl)))))) (de_int)))
  exact ⟨a, fd, ["_law_script", "_law_k"], gm, Fd.kp, hb, G⟩
theorem sc_law_layout : FnScope ["_law_cell", "_law_base", "_law_upper", "_law_worth", "_law_lower", "_law_most"] ["_law_cell"] (defScope s_law_layout) := ⟨rfl, rfl, rfl, by decide +kernel, rfl, by decide +kernel, by decide +kernel⟩
theorem k_law_layout {a : Addr} (F : ∃ fd, FunD K "_law_layout" "_law_layout" (defArgs s_law_layout) (defBody s_law_layout) (defScope s_law_layout) [] [] a fd) (gm : mg "_law_layout" = some (.ref a)) (B : Bt mg) : Kn P w K mg base 1 "_law_layout" 1 m_law_layout := by
  obtain ⟨fd, Fd⟩ := F
  have hb : Binds K fd ["_law_cell"] [] := Fd.bindsN (fun _ _ _ _ _ _ us hl => match us, hl with | [_], _ => by kernel_rfl)
  have G : FnOk P w K mg base (L2.CX P w) 1 a fd ["_law_cell"] (spD K mg 1 (mk 6 b_law_layout)) := by
    refine fn_ok (k := 0) (g := b_law_layout) (N := ["_law_cell", "_law_base", "_law_upper", "_law_worth", "_law_lower", "_law_most"]) (ps := ["_law_cell"]) Fd sc_law_layout (by decide) ?_
    intro cdv A outer s H E hr
    exact dss_cons (ds_if (dt_cmp (opEq hr.units) sat_eq (de_op op_mod sat_mod (de_var 0 (hv := Or.inl (by kernel_rfl))) (de_int)) (de_int) (nomark _)) (dss_cons (ds_asg (de_op opAdd sat_add (de_int) (de_op op_mod sat_mod (de_op op_fdivW sat_div (de_var 0 (hv := Or.inl (by kernel_rfl))) (de_int)) (de_int))) (dg_name 1 sc_law_layout.nd (hx := Or.inl (by kernel_rfl)) (hf := .inl rfl))) <|
    dss_one (ds_ret (de_tup (da_cons (de_int) (da_cons (de_int) (da_cons (de_callB (call_min2 rfl) sat_min2 (by unfold L2.Gl; kernel_rfl) B.n_min (by decide +kernel) (da_cons (de_int) (da_cons (de_op opAdd sat_add (de_op op_sub sat_sub (de_var 1 (hv := Or.inl (by kernel_rfl))) (de_int)) (de_op op_mod sat_mod (de_op op_fdivW sat_div (de_var 0 (hv := Or.inl (by kernel_rfl))) (de_int)) (de_int))) (da_nil)))) (da_cons (de_var 1 (hv := Or.inl (by kernel_rfl))) (da_nil)))))))) (dss_nil)) <|
    dss_cons (ds_asg (de_op opAdd sat_add (de_int) (de_op op_mod sat_mod (de_op op_fdivW sat_div (de_var 0 (hv := Or.inl (by kernel_rfl))) (de_int)) (de_int))) (dg_name 2 sc_law_layout.nd (hx := Or.inl (by kernel_rfl)) (hf := .inl rfl))) <|
    dss_cons (ds_asg (de_ix ix_seq sat_ix (de_frz (do_lst (da_cons (de_int) (da_cons (de_op opAdd sat_add (de_int) (de_op op_mod sat_mod (de_op op_fdivW sat_div (de_var 0 (hv := Or.inl (by kernel_rfl))) (de_int)) (de_int))) (da_nil))))) (de_op op_mod sat_mod (de_op op_fdivW sat_div (de_var 0 (hv := Or.inl (by kernel_rfl))) (de_int)) (de_int)) (fun _ _ => rfl)) (dg_name 3 sc_law_layout.nd (hx := Or.inl (by kernel_rfl)) (hf := .inl rfl))) <|
    dss_cons (ds_asg (de_op opAdd sat_add (de_op op_sub sat_sub (de_var 3 (hv := Or.inl (by kernel_rfl))) (de_int)) (de_op op_mod sat_mod (de_op op_fdivW sat_div (de_var 0 (hv := Or.inl (by kernel_rfl))) (de_int)) (de_int))) (dg_name 4 sc_law_layout.nd (hx := Or.inl (by kernel_rfl)) (hf := .inl rfl))) <|
    dss_cons (ds_asg (de_callB (call_min2 rfl) sat_min2 (by unfold L2.Gl; kernel_rfl) B.n_min (by decide +kernel) (da_cons (de_int) (da_cons (de_op opAdd sat_add (de_op opAdd sat_add (de_op opMul sat_mul (de_var 2 (hv := Or.inl (by kernel_rfl))) (de_var 3 (hv := Or.inl (by kernel_rfl)))) (de_var 4 (hv := Or.inl (by kernel_rfl)))) (de_int)) (da_nil)))) (dg_name 5 sc_law_layout.nd (hx := Or.inl (by kernel_rfl)) (hf := .inl rfl))) <|
    dss_one (ds_ret (de_tup (da_cons (de_var 2 (hv := Or.inl (by kernel_rfl))) (da_cons (de_var 3 (hv := Or.inl (by kernel_rfl))) (da_cons (de_var 4 (hv := Or.inl (by kernel_rfl))) (da_cons (de_op opAdd sat_add (de_int) (de_op op_mod sat_mod (de_op op_fdivW sat_div (de_var 0 (hv := Or.inl (by kernel_rfl))) (de_int)) (de_op op_sub sat_sub (de_var 5 (hv := Or.inl (by kernel_rfl))) (de_int)))) (da_nil)))))))
  exact ⟨a, fd, ["_law_cell"], gm, Fd.kp, hb, G⟩
theorem sc_law_thing : FnScope ["_law_layout_here", "_law_cell", "_law_at", "_law_way", "_law_rest", "_law_other"] ["_law_layout_here", "_law_cell"] (defScope s_law_thing) := ⟨rfl, rfl, rfl, by decide +kernel, rfl, by decide +kernel, by decide +kernel⟩
theorem k_law_thing {a : Addr} (F : ∃ fd, FunD K "_law_thing" "_law_thing" (defArgs s_law_thing) (defBody s_law_thing) (defScope s_law_thing) [] [] a fd) (gm : mg "_law_thing" = some (.ref a)) (B : Bt mg) : Kn P w K mg base 1 "_law_thing" 2 m_law_thing := by
  obtain ⟨fd, Fd⟩ := F
  have hb : Binds K fd ["_law_layout_here", "_law_cell"] [] := Fd.bindsN (fun _ _ _ _ _ _ us hl => match us, hl with | [_, _], _ => by kernel_rfl)
  have G : FnOk P w K mg base (L2.CX P w) 1 a fd ["_law_layout_here", "_law_cell"] (spD K mg 2 (mk 6 b_law_thing)) := by
    refine fn_ok (k := 0) (g := b_law_thing) (N := ["_law_layout_here", "_law_cell", "_law_at", "_law_way", "_law_rest", "_law_other"]) (ps := ["_law_layout_here", "_law_cell"]) Fd sc_law_thing (by decide) ?_
    intro cdv A outer s H E hr
    exact dss_cons (ds_asg (de_op op_mod sat_mod (de_var 1 (hv := Or.inl (by kernel_rfl))) (de_int)) (dg_name 2 sc_law_thing.nd (hx := Or.inl (by kernel_rfl)) (hf := .inl rfl))) <|
    dss_cons (ds_asg (de_op op_mod sat_mod (de_op op_fdivW sat_div (de_var 1 (hv := Or.inl (by kernel_rfl))) (de_int)) (de_int)) (dg_name 3 sc_law_thing.nd (hx := Or.inl (by kernel_rfl)) (hf := .inl rfl))) <|
    dss_cons (ds_asg (de_op op_fdivW sat_div (de_var 1 (hv := Or.inl (by kernel_rfl))) (de_int)) (dg_name 4 sc_law_thing.nd (hx := Or.inl (by kernel_rfl)) (hf := .inl rfl))) <|
    dss_cons (ds_if (dt_cmp (opEq hr.units) sat_eq (de_var 3 (hv := Or.inl (by kernel_rfl))) (de_int) (nomark _)) (dss_one (ds_ret (de_ix ix_seq sat_ix (de_frz (do_lst (da_cons (de_frz (do_callTy call_list_of satO_list (by unfold L2.Gl; kernel_rfl) B.n_list (by decide +kernel) (da_cons (de_var 0 (hv := Or.inl (by kernel_rfl))) (da_nil)))) (da_cons (de_op opAddA sat_addA (de_var 0 (hv := Or.inl (by kernel_rfl))) (de_tup (da_cons (de_int) (da_nil)))) (da_cons (de_sliceA (de_var 0 (hv := Or.inl (by kernel_rfl))) (dp_no) (dp_so (de_int))) (da_cons (de_tup (da_cons (de_var 0 (hv := Or.inl (by kernel_rfl))) (da_nil))) (da_cons (de_revT (de_var 0 (hv := Or.inl (by kernel_rfl)))) (da_cons (de_var 0 (hv := Or.inl (by kernel_rfl))) (da_cons (de_tup (da_nil)) (da_nil)))))))))) (de_op op_mod sat_mod (de_var 4 (hv := Or.inl (by kernel_rfl))) (de_int)) (fun _ _ => rfl)))) (dss_nil)) <|
    dss_cons (ds_asg (de_op op_sub sat_sub (de_op op_mod sat_mod (de_var 4 (hv := Or.inl (by kernel_rfl))) (de_int)) (de_int)) (dg_name 5 sc_law_thing.nd (hx := Or.inl (by kernel_rfl)) (hf := .inl rfl))) <|
    dss_cons (ds_if (dt_cmp (opEq hr.units) sat_eq (de_var 3 (hv := Or.inl (by kernel_rfl))) (de_int) (nomark _)) (dss_one (ds_asg (de_op op_sub sat_sub (de_op opAddA sat_addA (de_ix ix_seq sat_ix (de_var 0 (hv := Or.inl (by kernel_rfl))) (de_var 2 (hv := Or.inl (by kernel_rfl))) (fun _ _ => rfl)) (de_op op_mod sat_mod (de_var 4 (hv := Or.inl (by kernel_rfl))) (de_int))) (de_int)) (dg_name 5 sc_law_thing.nd (hx := Or.inl (by kernel_rfl)) (hf := .inl rfl)))) (dss_nil)) <|
    dss_cons (ds_if (dt_cmp (opEq hr.units) sat_eq (de_var 3 (hv := Or.inl (by kernel_rfl))) (de_int) (nomark _)) (dss_one (ds_asg (de_ix ix_seq sat_ix (de_frz (do_lst (da_cons (de_bl) (da_cons (de_bl) (da_cons (de_non) (da_cons (de_str) (da_cons (de_frz (do_lst (da_cons (de_int) (da_nil)))) (da_cons (de_tup (da_cons (de_int) (da_nil))) (da_cons (de_frzD dd_new) (da_nil)))))))))) (de_op op_mod sat_mod (de_var 4 (hv := Or.inl (by kernel_rfl))) (de_int)) (fun _ _ => rfl)) (dg_name 5 sc_law_thing.nd (hx := Or.inl (by kernel_rfl)) (hf := .inl rfl)))) (dss_nil)) <|
    dss_one (ds_ret (de_op opAddA sat_addA (de_op opAddA sat_addA (de_sliceA (de_var 0 (hv := Or.inl (by kernel_rfl))) (dp_no) (dp_so (de_var 2 (hv := Or.inl (by kernel_rfl))))) (de_tup (da_cons (de_var 5 (hv := Or.inl (by kernel_rfl))) (da_nil)))) (de_sliceA (de_var 0 (hv := Or.inl (by kernel_rfl))) (dp_so (de_op opAddA sat_addA (de_var 2 (hv := Or.inl (by kernel_rfl))) (de_int))) (dp_no))))
  exact ⟨a, fd, ["_law_layout_here", "_law_cell"], gm, Fd.kp, hb, G⟩
theorem sc_law_plain_number : FnScope ["_law_thing_here"] ["_law_thing_here"] (defScope s_law_plain_number) := ⟨rfl, rfl, rfl, by decide +kernel, rfl, by decide +kernel, by decide +kernel⟩
theorem k_law_plain_number {a : Addr} (F : ∃ fd, FunD K "_law_plain_number" "_law_plain_number" (defArgs s_law_plain_number) (defBody s_law_plain_number) (defScope s_law_plain_number) [] [] a fd) (gm : mg "_law_plain_number" = some (.ref a)) (B : Bt mg) : Kn P w K mg base 1 "_law_plain_number" 1 m_law_plain_number := by
  obtain ⟨fd, Fd⟩ := F
  have hb : Binds K fd ["_law_thing_here"] [] := Fd.bindsN (fun _ _ _ _ _ _ us hl => match us, hl with | [_], _ => by kernel_rfl)
  have G : FnOk P w K mg base (L2.CX P w) 1 a fd ["_law_thing_here"] (spD K mg 1 (mk 1 b_law_plain_number)) := by
    refine fn_ok (k := 0) (g := b_law_plain_number) (N := ["_law_thing_here"]) (ps := ["_law_thing_here"]) Fd sc_law_plain_number (by decide) ?_
    intro cdv A outer s H E hr
    exact dss_one (ds_ret (de_and (de_callB call_isi sat_isi (by unfold L2.Gl; kernel_rfl) B.n_isinstance (by decide +kernel) (da_cons (de_var 0 (hv := Or.inl (by kernel_rfl))) (da_cons (de_ty (by unfold L2.Gl; kernel_rfl) B.n_int (by decide +kernel)) (da_nil)))) (de_one (de_not (de_callB call_isi sat_isi (by unfold L2.Gl; kernel_rfl) B.n_isinstance (by decide +kernel) (da_cons (de_var 0 (hv := Or.inl (by kernel_rfl))) (da_cons (de_ty (by unfold L2.Gl; kernel_rfl) B.n_bool (by decide +kernel)) (da_nil))))))))
  exact ⟨a, fd, ["_law_thing_here"], gm, Fd.kp, hb, G⟩
theorem sc_law_told : FnScope ["_law_found", "_law_due"] ["_law_found", "_law_due"] (defScope s_law_told) := ⟨rfl, rfl, rfl, by decide +kernel, rfl, by decide +kernel, by decide +kernel⟩
theorem k_law_told {a : Addr} (F : ∃ fd, FunD K "_law_told" "_law_told" (defArgs s_law_told) (defBody s_law_told) (defScope s_law_told) [] [] a fd) (gm : mg "_law_told" = some (.ref a)) (B : Bt mg) : Kn P w K mg base 1 "_law_told" 2 m_law_told := by
  obtain ⟨fd, Fd⟩ := F
  have hb : Binds K fd ["_law_found", "_law_due"] [] := Fd.bindsN (fun _ _ _ _ _ _ us hl => match us, hl with | [_, _], _ => by kernel_rfl)
  have G : FnOk P w K mg base (L2.CX P w) 1 a fd ["_law_found", "_law_due"] (spD K mg 2 (mk 2 b_law_told)) := by
    refine fn_ok (k := 0) (g := b_law_told) (N := ["_law_found", "_law_due"]) (ps := ["_law_found", "_law_due"]) Fd sc_law_told (by decide) ?_
    intro cdv A outer s H E hr
    exact dss_one (ds_ret (de_and (de_callB call_isi sat_isi (by unfold L2.Gl; kernel_rfl) B.n_isinstance (by decide +kernel) (da_cons (de_var 0 (hv := Or.inl (by kernel_rfl))) (da_cons (de_ty (by unfold L2.Gl; kernel_rfl) B.n_bool (by decide +kernel)) (da_nil)))) (de_one (de_cmp (opEq hr.units) sat_eq (de_var 0 (hv := Or.inl (by kernel_rfl))) (de_var 1 (hv := Or.inl (by kernel_rfl))) (nomark _)))))
  exact ⟨a, fd, ["_law_found", "_law_due"], gm, Fd.kp, hb, G⟩
theorem sc_is_layout : FnScope ["thing", "number", "upper", "worth", "lower", "base"] ["thing"] (defScope s_is_layout) := ⟨rfl, rfl, rfl, by decide +kernel, rfl, by decide +kernel, by decide +kernel⟩
theorem k_is_layout {a : Addr} (F : ∃ fd, FunD K "is_layout" "is_layout" (defArgs s_is_layout) (defBody s_is_layout) (defScope s_is_layout) [] [] a fd) (gm : mg "is_layout" = some (.ref a)) (B : Bt mg) (c_MOST_LOWER : ∃ u, mg "MOST_LOWER" = some (.int 24 u)) (c_MOST_BASE : ∃ u, mg "MOST_BASE" = some (.int 25 u)) (c_MOST_UPPER : ∃ u, mg "MOST_UPPER" = some (.int 6 u)) (c_MOST_WORTH : ∃ u, mg "MOST_WORTH" = some (.int 20 u)) (h_full_worth : Kn P w K mg base 1 "full_worth" 1 m_full_worth) (h_is_whole : Kn P w K mg base 1 "is_whole" 1 m_is_whole) : Kn P w K mg base 2 "is_layout" 1 m_is_layout := by
  obtain ⟨fd, Fd⟩ := F
  have hb : Binds K fd ["thing"] [] := Fd.bindsN (fun _ _ _ _ _ _ us hl => match us, hl with | [_], _ => by kernel_rfl)
  have G : FnOk P w K mg base (L2.CX P w) 2 a fd ["thing"] (spD K mg 1 (mk 6 b_is_layout)) := by
    refine fn_ok (k := 1) (g := b_is_layout) (N := ["thing", "number", "upper", "worth", "lower", "base"]) (ps := ["thing"]) Fd sc_is_layout (by decide) ?_
    intro cdv A outer s H E hr
    exact dss_cons (ds_if (dt_w (dw_or (dt_not (dt_tru (de_callB call_isi sat_isi (by unfold L2.Gl; kernel_rfl) B.n_isinstance (by decide +kernel) (da_cons (de_var 0 (hv := Or.inl (by kernel_rfl))) (da_cons (de_ty (by unfold L2.Gl; kernel_rfl) B.n_tuple (by decide +kernel)) (da_nil)))) (by intro _; rfl))) (dw_or1 (dt_cmp (opNe hr.units) sat_ne (de_callB call_len sat_len (by unfold L2.Gl; kernel_rfl) B.n_len (by decide +kernel) (da_cons (de_var 0 (hv := Or.inl (by kernel_rfl))) (da_nil))) (de_int) (nomark _))))) (dss_one (ds_ret (de_bl))) (dss_nil)) <|
    dss_cons (ds_for passOwnOf rfl (di_tup (de_var 0 (hv := Or.inl (by kernel_rfl)))) (dg_name 1 sc_is_layout.nd (hx := Or.inl (by kernel_rfl)) (hf := .inl rfl)) (dss_wp [1] (dss_one (ds_if (dt_not (dt_tru (de_kn h_is_whole hr (da_cons (de_var 1 (hv := Or.inl (by kernel_rfl))) (da_nil)) okWOf) (by intro _; rfl))) (dss_one (ds_ret (de_bl))) (dss_nil))))) <|
    dss_cons (ds_asg (de_var 0 (hv := Or.inl (by kernel_rfl))) (dg_tup rfl (dgs_cons (dg_name 2 sc_is_layout.nd (hx := Or.inl (by kernel_rfl)) (hf := .inl rfl)) (dgs_cons (dg_name 3 sc_is_layout.nd (hx := Or.inl (by kernel_rfl)) (hf := .inl rfl)) (dgs_cons (dg_name 4 sc_is_layout.nd (hx := Or.inl (by kernel_rfl)) (hf := .inl rfl)) (dgs_cons (dg_name 5 sc_is_layout.nd (hx := Or.inl (by kernel_rfl)) (hf := .inl rfl)) (dgs_nil))))))) <|
    dss_cons (ds_if (dt_w (dw_or (dt_not (dt_chain op_le sat_le op_le sat_le (de_int) (de_var 2 (hv := Or.inl (by kernel_rfl))) (de_gi c_MOST_UPPER))) (dw_or1 (dt_not (dt_chain op_le sat_le op_le sat_le (de_int) (de_var 3 (hv := Or.inl (by kernel_rfl))) (de_gi c_MOST_WORTH)))))) (dss_one (ds_ret (de_bl))) (dss_nil)) <|
    dss_cons (ds_if (dt_w (dw_or (dt_not (dt_chain op_le sat_le op_le sat_le (de_int) (de_var 4 (hv := Or.inl (by kernel_rfl))) (de_gi c_MOST_LOWER))) (dw_or1 (dt_not (dt_chain op_le sat_le op_le sat_le (de_int) (de_var 5 (hv := Or.inl (by kernel_rfl))) (de_gi c_MOST_BASE)))))) (dss_one (ds_ret (de_bl))) (dss_nil)) <|
    dss_cons (ds_if (dt_w (dw_or (dt_w (dw_and (dt_cmp (opEq hr.units) sat_eq (de_var 2 (hv := Or.inl (by kernel_rfl))) (de_int) (nomark _)) (dw_and1 (dt_cmp (opNe hr.units) sat_ne (de_var 3 (hv := Or.inl (by kernel_rfl))) (de_int) (nomark _))))) (dw_or1 (dt_w (dw_and (dt_cmp op_gt sat_gt (de_var 2 (hv := Or.inl (by kernel_rfl))) (de_int) (nomark _)) (dw_and1 (dt_cmp op_lt sat_lt (de_var 4 (hv := Or.inl (by kernel_rfl))) (de_op op_sub sat_sub (de_var 3 (hv := Or.inl (by kernel_rfl))) (de_int)) (nomark _)))))))) (dss_one (ds_ret (de_bl))) (dss_nil)) <|
    dss_one (ds_ret (de_cmp op_ge sat_ge (de_kn h_full_worth hr (da_cons (de_var 0 (hv := Or.inl (by kernel_rfl))) (da_nil)) okWOf) (de_op op_sub sat_sub (de_var 5 (hv := Or.inl (by kernel_rfl))) (de_int)) (nomark _)))
  exact ⟨a, fd, ["thing"], gm, Fd.kp, hb, G⟩
theorem sc_law_good : FnScope ["_law_thing_here", "_law_upper", "_law_worth", "_law_lower", "_law_base", "_law_number"] ["_law_thing_here"] (defScope s_law_good) := ⟨rfl, rfl, rfl, by decide +kernel, rfl, by decide +kernel, by decide +kernel⟩
theorem k_law_good {a : Addr} (F : ∃ fd, FunD K "_law_good" "_law_good" (defArgs s_law_good) (defBody s_law_good) (defScope s_law_good) [] [] a fd) (gm : mg "_law_good" = some (.ref a)) (B : Bt mg) (h_law_plain_number : Kn P w K mg base 1 "_law_plain_number" 1 m_law_plain_number) : Kn P w K mg base 2 "_law_good" 1 m_law_good := by
  obtain ⟨fd, Fd⟩ := F
  have hb : Binds K fd ["_law_thing_here"] [] := Fd.bindsN (fun _ _ _ _ _ _ us hl => match us, hl with | [_], _ => by kernel_rfl)
  have G : FnOk P w K mg base (L2.CX P w) 2 a fd ["_law_thing_here"] (spD K mg 1 (mk 6 b_law_good)) := by
    refine fn_ok (k := 1) (g := b_law_good) (N := ["_law_thing_here", "_law_upper", "_law_worth", "_law_lower", "_law_base", "_law_number"]) (ps := ["_law_thing_here"]) Fd sc_law_good (by decide) ?_
    intro cdv A outer s H E hr
    exact dss_cons (ds_if (dt_w (dw_or (dt_not (dt_tru (de_callB call_isi sat_isi (by unfold L2.Gl; kernel_rfl) B.n_isinstance (by decide +kernel) (da_cons (de_var 0 (hv := Or.inl (by kernel_rfl))) (da_cons (de_ty (by unfold L2.Gl; kernel_rfl) B.n_tuple (by decide +kernel)) (da_nil)))) (by intro _; rfl))) (dw_or1 (dt_cmp (opNe hr.units) sat_ne (de_callB call_len sat_len (by unfold L2.Gl; kernel_rfl) B.n_len (by decide +kernel) (da_cons (de_var 0 (hv := Or.inl (by kernel_rfl))) (da_nil))) (de_int) (nomark _))))) (dss_one (ds_ret (de_bl))) (dss_nil)) <|
    dss_cons (ds_if (dt_cmp (op_neN hr.units) sat_neN (de_frz (do_lc (own := [("_law_number", 5)]) rfl sc_law_good.nd (di_tup (de_var 0 (hv := Or.inl (by kernel_rfl)))) (blkOk_by (own := [("_law_number", 5)]) (N := ["_law_thing_here", "_law_upper", "_law_worth", "_law_lower", "_law_base", "_law_number"]) (sc := defScope s_law_good) (by decide +kernel)) (fun _ _ _ _ _ => dg_name 5 sc_law_good.nd (hx := Or.inl (by kernel_rfl)) (hf := .inr (by kernel_rfl))) (fun _ _ _ _ _ => dts_one (dt_not (dt_tru (de_kn h_law_plain_number hr (da_cons (de_var 5 (hv := Or.inl (by kernel_rfl))) (da_nil)) okW0) (by intro _; rfl)))) (fun _ _ _ _ _ => de_var 5 (hv := Or.inl (by kernel_rfl))))) (de_frz (do_lst (da_nil))) (nomark _)) (dss_one (ds_ret (de_bl))) (dss_nil)) <|
    dss_cons (ds_asg (de_var 0 (hv := Or.inl (by kernel_rfl))) (dg_tup rfl (dgs_cons (dg_name 1 sc_law_good.nd (hx := Or.inl (by kernel_rfl)) (hf := .inl rfl)) (dgs_cons (dg_name 2 sc_law_good.nd (hx := Or.inl (by kernel_rfl)) (hf := .inl rfl)) (dgs_cons (dg_name 3 sc_law_good.nd (hx := Or.inl (by kernel_rfl)) (hf := .inl rfl)) (dgs_cons (dg_name 4 sc_law_good.nd (hx := Or.inl (by kernel_rfl)) (hf := .inl rfl)) (dgs_nil))))))) <|
    dss_cons (ds_if (dt_w (dw_or (dt_cmp op_lt sat_lt (de_var 1 (hv := Or.inl (by kernel_rfl))) (de_int) (nomark _)) (dw_or (dt_cmp op_gt sat_gt (de_var 1 (hv := Or.inl (by kernel_rfl))) (de_int) (nomark _)) (dw_or (dt_cmp op_lt sat_lt (de_var 2 (hv := Or.inl (by kernel_rfl))) (de_int) (nomark _)) (dw_or (dt_cmp op_gt sat_gt (de_var 2 (hv := Or.inl (by kernel_rfl))) (de_int) (nomark _)) (dw_or (dt_cmp op_lt sat_lt (de_var 3 (hv := Or.inl (by kernel_rfl))) (de_int) (nomark _)) (dw_or (dt_cmp op_gt sat_gt (de_var 3 (hv := Or.inl (by kernel_rfl))) (de_int) (nomark _)) (dw_or (dt_cmp op_lt sat_lt (de_var 4 (hv := Or.inl (by kernel_rfl))) (de_int) (nomark _)) (dw_or1 (dt_cmp op_gt sat_gt (de_var 4 (hv := Or.inl (by kernel_rfl))) (de_int) (nomark _))))))))))) (dss_one (ds_ret (de_bl))) (dss_nil)) <|
    dss_cons (ds_if (dt_w (dw_or (dt_w (dw_and (dt_cmp (opEq hr.units) sat_eq (de_var 1 (hv := Or.inl (by kernel_rfl))) (de_int) (nomark _)) (dw_and1 (dt_cmp op_gt sat_gt (de_var 2 (hv := Or.inl (by kernel_rfl))) (de_int) (nomark _))))) (dw_or1 (dt_w (dw_and (dt_cmp op_gt sat_gt (de_var 1 (hv := Or.inl (by kernel_rfl))) (de_int) (nomark _)) (dw_and1 (dt_cmp op_gt sat_gt (de_var 2 (hv := Or.inl (by kernel_rfl))) (de_op opAdd sat_add (de_var 3 (hv := Or.inl (by kernel_rfl))) (de_int)) (nomark _)))))))) (dss_one (ds_ret (de_bl))) (dss_nil)) <|
    dss_one (ds_ret (de_cmp op_ge sat_ge (de_op opAdd sat_add (de_op opAdd sat_add (de_op opMul sat_mul (de_var 1 (hv := Or.inl (by kernel_rfl))) (de_var 2 (hv := Or.inl (by kernel_rfl)))) (de_var 3 (hv := Or.inl (by kernel_rfl)))) (de_int)) (de_var 4 (hv := Or.inl (by kernel_rfl))) (nomark _)))
  exact ⟨a, fd, ["_law_thing_here"], gm, Fd.kp, hb, G⟩
theorem sc_law : FnScope ["_law_script", "_law_k", "_law_layout_here", "_law_thing_here", "_law_one"] ["_law_script"] (defScope s_law) := ⟨rfl, rfl, rfl, by decide +kernel, rfl, by decide +kernel, by decide +kernel⟩
end
section
variable {P : Program} {w : World} {K : PySem.W.Frag} {mg : Str → Option Value} {base : Heap}
theorem law_ok {a : Addr} {fd : FuncData} (Fd : FunD K "law" "law" (defArgs s_law) (defBody s_law) (defScope s_law) [] [] a fd) (B : Bt mg) (h_is_layout : Kn P w K mg base 2 "is_layout" 1 m_is_layout) (h_law_told : Kn P w K mg base 1 "_law_told" 2 m_law_told) (h_law_plain_number : Kn P w K mg base 1 "_law_plain_number" 1 m_law_plain_number) (h_is_whole : Kn P w K mg base 1 "is_whole" 1 m_is_whole) (h_law_good : Kn P w K mg base 2 "_law_good" 1 m_law_good) (h_law_mixed : Kn P w K mg base 1 "_law_mixed" 2 m_law_mixed) (h_law_thing : Kn P w K mg base 1 "_law_thing" 2 m_law_thing) (h_law_layout : Kn P w K mg base 1 "_law_layout" 1 m_law_layout) : FnOk P w K mg base (L2.CX P w) 3 a fd ["_law_script"] (spD K mg 1 m_law) := by
  refine fn_ok (k := 2) (g := b_law) (N := ["_law_script", "_law_k", "_law_layout_here", "_law_thing_here", "_law_one"]) (ps := ["_law_script"]) Fd sc_law (by decide) ?_
  intro cdv A outer s H E hr
  exact dss_cons (ds_for passOwnOf rfl (di_range1 (by unfold L2.Gl; kernel_rfl) B.n_range (da_cons (de_callB (call_max2 rfl) sat_max2 (by unfold L2.Gl; kernel_rfl) B.n_max (by decide +kernel) (da_cons (de_int) (da_cons (de_callB (call_min2 rfl) sat_min2 (by unfold L2.Gl; kernel_rfl) B.n_min (by decide +kernel) (da_cons (de_callB call_len sat_len (by unfold L2.Gl; kernel_rfl) B.n_len (by decide +kernel) (da_cons (de_var 0 (hv := Or.inl (by kernel_rfl))) (da_nil))) (da_cons (de_int) (da_nil)))) (da_nil)))) (da_nil))) (dg_name 1 sc_law.nd (hx := Or.inl (by kernel_rfl)) (hf := .inl rfl)) (dss_wp [1, 2, 3, 4] (dss_cons (ds_asg (de_kn h_law_layout hr (da_cons (de_kn h_law_mixed hr (da_cons (de_var 0 (hv := Or.inl (by kernel_rfl))) (da_cons (de_var 1 (hv := Or.inl (by kernel_rfl))) (da_nil))) okWOf) (da_nil)) okWOf) (dg_name 2 sc_law.nd (hx := Or.inl (by kernel_rfl)) (hf := .inl rfl))) <|
    dss_cons (ds_asg (de_kn h_law_thing hr (da_cons (de_var 2 (hv := Or.inl (by kernel_rfl))) (da_cons (de_kn h_law_mixed hr (da_cons (de_var 0 (hv := Or.inl (by kernel_rfl))) (da_cons (de_op opAdd sat_add (de_int) (de_var 1 (hv := Or.inl (by kernel_rfl)))) (da_nil))) okWOf) (da_nil))) okWOf) (dg_name 3 sc_law.nd (hx := Or.inl (by kernel_rfl)) (hf := .inl rfl))) <|
    dss_cons (ds_if (dt_w (dw_or (dt_not (dt_tru (de_kn h_law_told hr (da_cons (de_kn h_is_layout hr (da_cons (de_var 2 (hv := Or.inl (by kernel_rfl))) (da_nil)) okWOf) (da_cons (de_bl) (da_nil))) okWOf) (by intro _; rfl))) (dw_or1 (dt_not (dt_tru (de_kn h_law_told hr (da_cons (de_kn h_is_layout hr (da_cons (de_var 3 (hv := Or.inl (by kernel_rfl))) (da_nil)) okWOf) (da_cons (de_kn h_law_good hr (da_cons (de_var 3 (hv := Or.inl (by kernel_rfl))) (da_nil)) okWOf) (da_nil))) okWOf) (by intro _; rfl)))))) (dss_one (ds_ret (de_bl))) (dss_nil)) <|
    dss_one (ds_if (dt_tru (de_callB call_isi sat_isi (by unfold L2.Gl; kernel_rfl) B.n_isinstance (by decide +kernel) (da_cons (de_var 3 (hv := Or.inl (by kernel_rfl))) (da_cons (de_ty (by unfold L2.Gl; kernel_rfl) B.n_tuple (by decide +kernel)) (da_nil)))) (by intro _; rfl)) (dss_one (ds_for passOwnOf rfl (di_tup (de_var 3 (hv := Or.inl (by kernel_rfl)))) (dg_name 4 sc_law.nd (hx := Or.inl (by kernel_rfl)) (hf := .inl rfl)) (dss_wp [4] (dss_one (ds_if (dt_not (dt_tru (de_kn h_law_told hr (da_cons (de_kn h_is_whole hr (da_cons (de_var 4 (hv := Or.inl (by kernel_rfl))) (da_nil)) okWOf) (da_cons (de_kn h_law_plain_number hr (da_cons (de_var 4 (hv := Or.inl (by kernel_rfl))) (da_nil)) okWOf) (da_nil))) okWOf) (by intro _; rfl))) (dss_one (ds_ret (de_bl))) (dss_nil)))))) (dss_nil))))) <|
    dss_cons (ds_fgt [3] (ds_for passOwnOf rfl (di_list (de_frz (do_lst (da_cons (de_non) (da_cons (de_int) (da_cons (de_bl) (da_cons (de_str) (da_cons (de_frzD dd_new) (da_cons (de_frz (do_lst (da_nil))) (da_nil)))))))))) (dg_name 3 sc_law.nd (hx := Or.inl (by kernel_rfl)) (hf := .inl rfl)) (dss_wp [3] (dss_one (ds_if (dt_w (dw_or (dt_not (dt_tru (de_kn h_law_told hr (da_cons (de_kn h_is_layout hr (da_cons (de_var 3 (hv := Or.inl (by kernel_rfl))) (da_nil)) okWOf) (da_cons (de_bl) (da_nil))) okWOf) (by intro _; rfl))) (dw_or1 (dt_not (dt_tru (de_kn h_law_told hr (da_cons (de_kn h_is_whole hr (da_cons (de_var 3 (hv := Or.inl (by kernel_rfl))) (da_nil)) okWOf) (da_cons (de_kn h_law_plain_number hr (da_cons (de_var 3 (hv := Or.inl (by kernel_rfl))) (da_nil)) okWOf) (da_nil))) okWOf) (by intro _; rfl)))))) (dss_one (ds_ret (de_bl))) (dss_nil)))))) <|
    dss_one (ds_ret (de_and (de_kn h_law_told hr (da_cons (de_kn h_is_layout hr (da_cons (de_tup (da_cons (de_int) (da_cons (de_int) (da_cons (de_int) (da_cons (de_int) (da_nil)))))) (da_nil)) okWOf) (da_cons (de_bl) (da_nil))) okWOf) (de_one (de_kn h_law_told hr (da_cons (de_kn h_is_layout hr (da_cons (de_tup (da_cons (de_int) (da_cons (de_int) (da_cons (de_int) (da_cons (de_int) (da_nil)))))) (da_nil)) okWOf) (da_cons (de_bl) (da_nil))) okWOf))))
end
def d_is_whole : He.DefD := ⟨("is_whole", none), "is_whole", "is_whole", defArgs s_is_whole, defBody s_is_whole, defScope s_is_whole, [], []⟩
def d_full_worth : He.DefD := ⟨("full_worth", none), "full_worth", "full_worth", defArgs s_full_worth, defBody s_full_worth, defScope s_full_worth, [], []⟩
def d_law_mixed : He.DefD := ⟨("_law_mixed", none), "_law_mixed", "_law_mixed", defArgs s_law_mixed, defBody s_law_mixed, defScope s_law_mixed, [], []⟩
def d_law_layout : He.DefD := ⟨("_law_layout", none), "_law_layout", "_law_layout", defArgs s_law_layout, defBody s_law_layout, defScope s_law_layout, [], []⟩
def d_law_thing : He.DefD := ⟨("_law_thing", none), "_law_thing", "_law_thing", defArgs s_law_thing, defBody s_law_thing, defScope s_law_thing, [], []⟩
def d_law_plain_number : He.DefD := ⟨("_law_plain_number", none), "_law_plain_number", "_law_plain_number", defArgs s_law_plain_number, defBody s_law_plain_number, defScope s_law_plain_number, [], []⟩
def d_law_told : He.DefD := ⟨("_law_told", none), "_law_told", "_law_told", defArgs s_law_told, defBody s_law_told, defScope s_law_told, [], []⟩
def d_is_layout : He.DefD := ⟨("is_layout", none), "is_layout", "is_layout", defArgs s_is_layout, defBody s_is_layout, defScope s_is_layout, [], []⟩
def d_law_good : He.DefD := ⟨("_law_good", none), "_law_good", "_law_good", defArgs s_law_good, defBody s_law_good, defScope s_law_good, [], []⟩
def d_law : He.DefD := ⟨("law", none), "law", "law", defArgs s_law, defBody s_law, defScope s_law, [], []⟩
def fns : List He.DefD := [d_is_whole, d_full_worth, d_law_mixed, d_law_layout, d_law_thing, d_law_plain_number, d_law_told, d_is_layout, d_law_good, d_law]
def fa : List He.Fa := [.glo "is_whole", .glo "full_worth", .glo "_law_mixed", .glo "_law_layout", .glo "_law_thing", .glo "_law_plain_number", .glo "_law_told", .glo "is_layout", .glo "_law_good", .glo "law", .free "isinstance", .free "int", .free "bool", .free "len", .free "min", .free "list", .free "tuple", .free "range", .free "max", .int "MOST_LOWER" 24, .int "MOST_BASE" 25, .int "MOST_UPPER" 6, .int "MOST_WORTH" 20]
abbrev Rw : PySem.W.OpenRow := PySem.W.OpenLaw.row PySem.Challenge.rw_beadframe_k01_what_is_a_layout
abbrev hk : PySem.W.Hook := He.hookD 4 fa fns
def ob (s : PySem.W.SharedT) : He.AlD := He.obsDG 4 fa fns (HandSHeadRun.getT s)
theorem ob_eq (s : PySem.W.SharedT) : ob s = hk.obs s.abs := He.obsDG_eq (HandSHeadRun.getT_eq s)
def names0 : List PySem.Str := ["MOST_UPPER", "MOST_WORTH", "MOST_LOWER", "MOST_BASE", "is_whole", "is_layout", "full_worth", "_law_mixed", "_law_layout", "_law_thing", "_law_plain_number", "_law_good", "_law_told"]
def names : List PySem.Str := names0
theorem run (w : World) : HandSHeadRun.RunEq Rw (PySem.W.view Rw.prog [15]) hk ob 20000 names w := by
  intro os
  kernel_rfl
theorem facts {P : Program} {w : World} {K : PySem.W.Frag} {h : Heap} {mg : Str → Option Value} {f : Addr} (X : K.In h) (G : h.Ns mainGlobals mg) (hfa : mg ("law" : Str) = some (.ref f)) (c : He.SaysD fa fns K) :
    ∃ fd : FuncData, (∀ (s : Shared) (v : Value), BindsTo s fd ⟨[v], []⟩ [("_law_script", v)]) ∧ ∀ base : Heap, K.In base → base.Ns mainGlobals mg → FnOk P w K mg base (L2.CX P w) 3 f fd ["_law_script"] (spD K mg 1 m_law) := by
  have B : Bt mg := ⟨He.free_ok X G (c.fact 10 (f := .free "isinstance") rfl), He.free_ok X G (c.fact 11 (f := .free "int") rfl), He.free_ok X G (c.fact 12 (f := .free "bool") rfl), He.free_ok X G (c.fact 13 (f := .free "len") rfl), He.free_ok X G (c.fact 14 (f := .free "min") rfl), He.free_ok X G (c.fact 15 (f := .free "list") rfl), He.free_ok X G (c.fact 16 (f := .free "tuple") rfl), He.free_ok X G (c.fact 17 (f := .free "range") rfl), He.free_ok X G (c.fact 18 (f := .free "max") rfl)⟩
  have c_MOST_LOWER := He.int_ok X G (c.fact 19 rfl)
  have c_MOST_BASE := He.int_ok X G (c.fact 20 rfl)
  have c_MOST_UPPER := He.int_ok X G (c.fact 21 rfl)
  have c_MOST_WORTH := He.int_ok X G (c.fact 22 rfl)
  have g_is_whole := He.glo_ok X G (c.fact 0 (f := .glo "is_whole") rfl)
  have g_full_worth := He.glo_ok X G (c.fact 1 (f := .glo "full_worth") rfl)
  have g_law_mixed := He.glo_ok X G (c.fact 2 (f := .glo "_law_mixed") rfl)
  have g_law_layout := He.glo_ok X G (c.fact 3 (f := .glo "_law_layout") rfl)
  have g_law_thing := He.glo_ok X G (c.fact 4 (f := .glo "_law_thing") rfl)
  have g_law_plain_number := He.glo_ok X G (c.fact 5 (f := .glo "_law_plain_number") rfl)
  have g_law_told := He.glo_ok X G (c.fact 6 (f := .glo "_law_told") rfl)
  have g_is_layout := He.glo_ok X G (c.fact 7 (f := .glo "is_layout") rfl)
  have g_law_good := He.glo_ok X G (c.fact 8 (f := .glo "_law_good") rfl)
  have g_law := He.glo_ok X G (c.fact 9 (f := .glo "law") rfl)
  have h_is_whole := fun base => k_is_whole (P := P) (w := w) (base := base) (c.def_ 0 (d := d_is_whole) rfl) g_is_whole B
  have h_full_worth := fun base => k_full_worth (P := P) (w := w) (base := base) (c.def_ 1 (d := d_full_worth) rfl) g_full_worth B
  have h_law_mixed := fun base => k_law_mixed (P := P) (w := w) (base := base) (c.def_ 2 (d := d_law_mixed) rfl) g_law_mixed B
  have h_law_layout := fun base => k_law_layout (P := P) (w := w) (base := base) (c.def_ 3 (d := d_law_layout) rfl) g_law_layout B
  have h_law_thing := fun base => k_law_thing (P := P) (w := w) (base := base) (c.def_ 4 (d := d_law_thing) rfl) g_law_thing B
  have h_law_plain_number := fun base => k_law_plain_number (P := P) (w := w) (base := base) (c.def_ 5 (d := d_law_plain_number) rfl) g_law_plain_number B
  have h_law_told := fun base => k_law_told (P := P) (w := w) (base := base) (c.def_ 6 (d := d_law_told) rfl) g_law_told B
  have h_is_layout := fun base => k_is_layout (P := P) (w := w) (base := base) (c.def_ 7 (d := d_is_layout) rfl) g_is_layout B c_MOST_LOWER c_MOST_BASE c_MOST_UPPER c_MOST_WORTH (h_full_worth base) (h_is_whole base)
  have h_law_good := fun base => k_law_good (P := P) (w := w) (base := base) (c.def_ 8 (d := d_law_good) rfl) g_law_good B (h_law_plain_number base)
  obtain ⟨fd, F⟩ := c.def_ 9 (d := d_law) rfl
  have e := hfa.symm.trans g_law
  cases e
  have b := FunD.bindsA (ps := ["_law_script"]) F fun _ _ _ _ _ _ us hl => match us, hl with | [_], _ => by kernel_rfl
  refine ⟨fd, fun s v => b s [v] rfl, fun base _ _ => ?_⟩
  exact law_ok F B (h_is_layout base) (h_law_told base) (h_law_plain_number base) (h_is_whole base) (h_law_good base) (h_law_mixed base) (h_law_thing base) (h_law_layout base)
end K01
open PySem PySem.W PySem.Calls PyProof.Rows
set_option maxRecDepth 100000 in
set_option maxHeartbeats 0 in
theorem PySem.Challenge.cw_beadframe_k01_what_is_a_layout_holds : PySem.Challenge.rw_beadframe_k01_what_is_a_layout.Holds := by
  w_on; o_law
  refine HandSHeadRun.head_any (r := OpenLaw.row PySem.Challenge.rw_beadframe_k01_what_is_a_layout) (q := view (OpenLaw.row PySem.Challenge.rw_beadframe_k01_what_is_a_layout).prog [15]) (H := K01.hk) (ob := K01.ob) (M := 20000) (loose := K01.names) (d := HandSHeadRun.topDef (OpenLaw.row PySem.Challenge.rw_beadframe_k01_what_is_a_layout).prog 15) (kwd := []) K01.ob_eq
    (by kernel_rfl) (fun s => by kernel_rfl) K01.run (by kernel_rfl) (by kernel_rfl) (by kernel_rfl) (by rfl) (by first | assumption | decide +kernel) (by decide +kernel) ⟨rfl, rfl, rfl, rfl, rfl, by decide +kernel⟩ ?hw ?hc
  case hw => w_witness2
  case hc =>
    refine DL.walkE (l := PySem.Challenge.rw_beadframe_k01_what_is_a_layout) (n := 63) (k := 3) (x := "_law_script") (m := K01.m_law) rfl (by decide) (by kernel_rfl) ⟨rfl, by decide, by decide⟩ K01.law_true ?F
    intro w mg fa h Y G hmg0
    obtain ⟨K, KX, c⟩ := Y
    have hmg : mg ("law" : PySem.Str) = some (.ref fa) := by
      have e : (HandSHeadRun.topDef (OpenLaw.row PySem.Challenge.rw_beadframe_k01_what_is_a_layout).prog 15).name = ("law" : PySem.Str) := by kernel_rfl
      rw [← e]
      exact hmg0
    obtain ⟨fd, hb, hF⟩ := K01.facts (P := (PySem.Challenge.rw_beadframe_k01_what_is_a_layout).prog) (w := w) KX G hmg c
    exact ⟨K, fd, KX, hb, hF⟩
