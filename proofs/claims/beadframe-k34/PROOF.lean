import PyProof.Rows.All
import Wide.All
import OpenK.AllK
import Wide.FinOn
import HandS.ForMost
import HandS.ForExc
import HandS.ClsMeth
import HandS.ExcIs
import HandS.ExcField
import HandS.ExcInit
import HandS.TryOnly
import HandS.Walk
import HandS.Wide
import HandS.IsInst
import HandS.CallSlots
import HandS.Defaults
import HandS.Deep
import HandS.Flow
import HandS.NoneIn
import HandS.Style
import HandS.Rev
import HandS.RevRange
import HandS.WideBits
import PyProof.ZipIter
import KE.KItemsList
import HandS.ListItems
import KE.KStateDown
import HandS.Ends
import HandS.HeadEnd
import HandS.Head0
import HandS.Head1
import HandS.Head2
import HandS.HeadHook1
import HandS.HeadHook2
import KE.KExcIs
import KE.KIsAll
import HandS.ExcInitHot
import HandS.Finally
import KE.DataFind
import HandS.Iter
import HandS.SortInts
import HandS.More
import HandS.TupSets
import HandS.Strs
import PyProof.DictWalks
import PyProof.MinMaxWalk
import PyProof.WalkInts
import PyProof.StrBlock2
import HandS.Zip
import KE.KRevIter
import KE.DatumOrd
import HandS.SortKw
import HandS.Flt
import HandS.DeepEq
import HandS.Text
import HandS.FStr
import HandS.TupAny
import HandS.RaiseMore
import KE.LtData
import HandS.Conv
import PyProof.NeKinds
import KE.GoesRaise
import PySem.Challenge.RW_beadframe_k34_table_keys
set_option Elab.async false
set_option linter.all false
set_option maxRecDepth 100000
set_option maxHeartbeats 4000000
namespace HX
open PySem PySem.Spec PyProof.Rows L2
def HEx (cls : Value) (d : Option Addr) (a : Addr) : HO := .ext fun h => ∃ (oe : Obj) (vs : Array Value), h.get? a = some oe ∧ Zc cls d oe ∧ oe.data = .fields vs
section
variable {X : Cx} {pins : List (Addr × Obj)} {σ : L2.St} {H : Hp} {s : Shared} {a : Addr} {cls : Value} {d : Option Addr} {oe : Obj} {vs : Array Value}
end
section
variable {X : Cx} {x n : Str} {c : Value} {i : Nat} {body suite : List Stmt} {b₀ : Stmt} {np pos pos' : Pos} {tb : WX → TS} {ts : Addr → Value → Option Addr → TS} {Wout : WX}
end
end HX
namespace DL
open PySem PySem.Spec L2
inductive D where
  | non | bl (b : Bool) | int (i : Int) | str (x : Str)
  | lst (xs : List D) | tup (xs : List D)
  | scr (ns : List Int)
  | dk (ks : List Key) (vs : List D)
  | obj (c : Str) (ns : List Str) (vs : List D)
  | exc (c : Str) (ns : List Str) (vs : List D)
  | cls (c : Str) | ty (n : String)
instance : Inhabited D := ⟨.non⟩
inductive R (α : Type) where
  | ok (a : α) | exc (x : D) | stuck
namespace R
variable {α β : Type}
def bind : R α → (α → R β) → R β
  | .ok a, k => k a
  | .exc x, _ => .exc x
  | .stuck, _ => .stuck
def map (g : α → β) : R α → R β
  | .ok a => .ok (g a)
  | .exc x => .exc x
  | .stuck => .stuck
end R
inductive Fl where
  | val (d : D) | own (ds : List D) | dic (ks : List Key) (vs : List D)
def Fl.isOwn : Fl → Bool
  | .val _ => false
  | _ => true
inductive Ctx where
  | c3 (a b n : D) | c4 (a b c : D)
inductive Ab where
  | nst (out : List (List D × Ctx)) (inn : List D) | scb (ks : List Key) (vs : List D) (out : List (List D × Ctx)) (inn : List D) | dsk (ks : List Key) (obs : List (List Str × List Fl)) | dol (ks : List Key) (xss : List (List D))
inductive Slot where
  | val (d : D) | own (ds : List D) | dic (ks : List Key) (vs : List D) | oob (b : Bool) (c : Str) (ns : List Str) (fs : List Fl) | hnd (j : Nat) (ds : List D) | hdc (j : Nat) (ks : List Key) (vs : List D) | abs (b : Bool) (a : Ab)
def Slot.isOwn : Slot → Bool
  | .val _ => false
  | _ => true
def OFoot (H : Hp) (ns : List Str) (fs : List Fl) (v : V) (l : Addr) : Prop := v = V.ref l ∨ ∃ (a C dx : Addr) (vs : List V) (i : Nat) (f : Fl), v = V.ref a ∧ H a = some (HO.ins C dx (ns.zip vs)) ∧ ns.length = vs.length ∧ fs[i]? = some f ∧ f.isOwn = true ∧ vs[i]? = some (V.ref l)
def abFoot (H : Hp) : Ab → V → Addr → Prop
  | .nst _ _, v, l => v = V.ref l ∨ ∃ n vs, v = V.ref n ∧ H n = some (HO.lst vs) ∧ V.ref l ∈ vs
  | .scb _ _ _ _, v, l => v = V.ref l ∨ ∃ a C dx s n, v = V.ref a ∧ H a = some (HO.ins C dx [("script", V.ref s), ("nests", V.ref n)]) ∧ (l = s ∨ l = n ∨ (∃ vs, H n = some (HO.lst vs) ∧ V.ref l ∈ vs) ∨ ∃ C' dx' r, H s = some (HO.ins C' dx' [("frames", V.ref l), ("rows", r)]))
  | .dsk ks obs, v, l => v = V.ref l ∨ ∃ a C dx d, v = V.ref a ∧ H a = some (HO.ins C dx [("held", V.ref d)]) ∧ (l = d ∨ ∃ (us : List V) (i : Nat) (ob : List Str × List Fl) (u : V), H d = some (HO.dK (ks.zip us)) ∧ ks.length = us.length ∧ obs[i]? = some ob ∧ us[i]? = some u ∧ OFoot H ob.1 ob.2 u l)
  | .dol ks _, v, l => v = V.ref l ∨ ∃ (n : Addr) (us : List V), v = V.ref n ∧ H n = some (HO.dK (ks.zip us)) ∧ ks.length = us.length ∧ V.ref l ∈ us
def foot (H : Hp) : Slot → V → Addr → Prop
  | .val _, _, _ => False
  | .own _, v, l => v = V.ref l
  | .dic _ _, v, l => v = V.ref l
  | .oob _ _ ns fs, v, l => OFoot H ns fs v l
  | .hnd _ _, v, l => v = V.ref l
  | .hdc _ _ _, v, l => v = V.ref l
  | .abs _ a, v, l => abFoot H a v l
def Slot.tag : Slot → Option Nat
  | .oob true _ _ _ => some 0
  | .hnd j _ => some (j + 1)
  | .hdc j _ _ => some (j + 1)
  | .abs true _ => some 0
  | _ => none
abbrev Env := List (Option Slot)
section
variable (K : PySem.W.Frag) (mg : Str → Option Value)
mutual
/-- v in the heap F is the tree d -/
def Rp (F : Hp) : D → V → Prop
  | .non, v => v = .non
  | .bl b, v => v = .bl b
  | .int i, v => v = .int i
  | .str x, v => v = .str x
  | .lst ds, v => ∃ a vs, v = .ref a ∧ F a = some (.lst vs) ∧ RpL F ds vs
  | .tup ds, v => ∃ a vs, v = .ref a ∧ F a = some (.tup vs) ∧ RpL F ds vs
  | .scr ns, v => ∃ a, v = .ref a ∧ SqL K F a (ns.map V.int)
  | .dk ks ds, v => ∃ a vs, v = .ref a ∧ F a = some (.dK (ks.zip vs)) ∧ ks.length = vs.length ∧ RpL F ds vs
  | .obj c ns ds, v => ∃ a C dx vs, v = .ref a ∧ mg c = some (.ref C) ∧ F a = some (.ins C dx (ns.zip vs)) ∧ ns.length = vs.length ∧ RpL F ds vs
  | .exc c ns ds, v => ∃ a C od, v = .ref a ∧ mg c = some (.ref C) ∧ F a = some (HX.HEx (.ref C) od a) ∧
      ((ns = [] ∧ ds = [] ∧ od = none) ∨ ∃ dd vs, od = some dd ∧ F dd = some (.xd (ns.zip vs)) ∧ ns.length = vs.length ∧ RpL F ds vs)
  | .cls c, v => ∃ C, v = .ref C ∧ mg c = some (.ref C)
  | .ty n, v => v = .ty n
def RpL (F : Hp) : List D → List V → Prop
  | [], vs => vs = []
  | d :: ds, vs => ∃ v us, vs = v :: us ∧ Rp F d v ∧ RpL F ds us
end
def RpX (F : Hp) : D → Value → Option Addr → Prop
  | .exc c ns ds, cls, od => ∃ C, cls = .ref C ∧ mg c = some (.ref C) ∧
      ((ns = [] ∧ ds = [] ∧ od = none) ∨ ∃ dd vs, od = some dd ∧ F dd = some (.xd (ns.zip vs)) ∧ ns.length = vs.length ∧ RpL K mg F ds vs)
  | _, _, _ => False
end
def Fz (F H : Hp) : Prop := ∀ a o, F a = some o → H a = some o ∨ ((∃ kvs, o = .dK kvs) ∧ ∃ ob, H a = some (.frz ob o))
theorem Fz.refl (H : Hp) : Fz H H := fun _ _ h => .inl h
theorem Fz.free {F H : Hp} (h : Fz F H) {a : Addr} (n : H a = none) : F a = none := by
  cases q : F a with
  | none => rfl
  | some o =>
    rcases h a o q with z | ⟨_, _, z⟩
    · rw [n] at z; cases z
    · rw [n] at z; cases z
theorem Fz.sub {F F1 H : Hp} (h : Fz F1 H) (s : Same F F1) : Fz F H := fun a o e => h a o (s a o e)
theorem Fz.lst {F H : Hp} (h : Fz F H) {a : Addr} {vs : List V} (e : F a = some (.lst vs)) : H a = some (.lst vs) := by
  rcases h a _ e with z | ⟨⟨_, z⟩, _⟩
  · exact z
  · cases z
theorem Fz.tup {F H : Hp} (h : Fz F H) {a : Addr} {vs : List V} (e : F a = some (.tup vs)) : H a = some (.tup vs) := by
  rcases h a _ e with z | ⟨⟨_, z⟩, _⟩
  · exact z
  · cases z
theorem Fz.ins {F H : Hp} (h : Fz F H) {a C dx : Addr} {fs : List (Str × V)} (e : F a = some (.ins C dx fs)) : H a = some (.ins C dx fs) := by
  rcases h a _ e with z | ⟨⟨_, z⟩, _⟩
  · exact z
  · cases z
theorem Fz.xd {F H : Hp} (h : Fz F H) {a : Addr} {fs : List (Str × V)} (e : F a = some (.xd fs)) : H a = some (.xd fs) := by
  rcases h a _ e with z | ⟨⟨_, z⟩, _⟩
  · exact z
  · cases z
theorem Fz.seq {K : PySem.W.Frag} {F H : Hp} (h : Fz F H) {a : Addr} {vs : List V} (e : SqL K F a vs) : SqL K H a vs := by
  rcases e with (e | ⟨o, e⟩) | e
  · exact .inl (.inl (h.lst e))
  · rcases h a _ e with z | ⟨⟨_, z⟩, _⟩
    · exact .inl (.inr ⟨o, z⟩)
    · cases z
  · exact .inr e
structure Ext (F H F' H' : Hp) : Prop where
  ff : Same F F'
  fh : Fz F' H'
  hh : Same H H'
  new : ∀ a o, F' a = some o → F a = some o ∨ H a = none
theorem Ext.refl {F H : Hp} (h : Fz F H) : Ext F H F H := ⟨Same.refl _, h, Same.refl _, fun _ _ e => .inl e⟩
theorem Ext.trans {F H F1 H1 F2 H2 : Hp} (a : Ext F H F1 H1) (b : Ext F1 H1 F2 H2) : Ext F H F2 H2 :=
  ⟨a.ff.trans b.ff, b.fh, a.hh.trans b.hh, fun c o e => by
    rcases b.new c o e with z | z
    · exact a.new c o z
    · exact .inr (a.hh.free z)⟩
theorem Ext.laid {F H : Hp} (h : Fz F H) {p : Addr} {o : HO} (n : H p = none) : Ext F H (upd F p o) (upd H p o) := by
  have nF := h.free n
  refine ⟨fun a u e => by rw [upd_ne (ne_of_none e nF)]; exact e, fun a u e => ?_, fun a u e => by rw [upd_ne (ne_of_none e n)]; exact e, fun a u e => ?_⟩
  · by_cases q : a = p
    · subst q
      rw [upd_same] at e ⊢
      exact .inl e
    · rw [upd_ne q] at e ⊢
      exact h a u e
  · by_cases q : a = p
    · subst q
      exact .inr n
    · rw [upd_ne q] at e
      exact .inl e
theorem Ext.heap {F H : Hp} (h : Fz F H) {p : Addr} {o : HO} (n : H p = none) : Ext F H F (upd H p o) := by
  have nF := h.free n
  refine ⟨Same.refl _, fun a u e => ?_, fun a u e => by rw [upd_ne (ne_of_none e n)]; exact e, fun a u e => .inl e⟩
  rw [upd_ne (ne_of_none e nF)]
  exact h a u e
section
variable {K : PySem.W.Frag} {mg : Str → Option Value} {F F' : Hp}
theorem SqL.mono (s : Same F F') {a : Addr} {xs : List V} (h : SqL K F a xs) : SqL K F' a xs := s.seq h
mutual
theorem Rp.mono (s : Same F F') : ∀ (d : D) (v : V), Rp K mg F d v → Rp K mg F' d v
  | .non, _, h => h
  | .bl _, _, h => h
  | .int _, _, h => h
  | .str _, _, h => h
  | .lst ds, _, h => by
    unfold Rp at h ⊢
    obtain ⟨a, vs, e, ea, r⟩ := h
    exact ⟨a, vs, e, s _ _ ea, RpL.mono s ds vs r⟩
  | .tup ds, _, h => by
    unfold Rp at h ⊢
    obtain ⟨a, vs, e, ea, r⟩ := h
    exact ⟨a, vs, e, s _ _ ea, RpL.mono s ds vs r⟩
  | .scr ns, _, h => by
    unfold Rp at h ⊢
    obtain ⟨a, e, q⟩ := h
    exact ⟨a, e, s.seq q⟩
  | .dk ks ds, _, h => by
    unfold Rp at h ⊢
    obtain ⟨a, vs, e, ea, l, r⟩ := h
    exact ⟨a, vs, e, s _ _ ea, l, RpL.mono s ds vs r⟩
  | .obj c ns ds, _, h => by
    unfold Rp at h ⊢
    obtain ⟨a, C, dx, vs, e, ec, ea, l, r⟩ := h
    exact ⟨a, C, dx, vs, e, ec, s _ _ ea, l, RpL.mono s ds vs r⟩
  | .exc c ns ds, _, h => by
    unfold Rp at h ⊢
    obtain ⟨a, C, od, e, ec, ea, q⟩ := h
    refine ⟨a, C, od, e, ec, s _ _ ea, ?_⟩
    rcases q with q | ⟨dd, vs, e1, e2, l, r⟩
    · exact .inl q
    · exact .inr ⟨dd, vs, e1, s _ _ e2, l, RpL.mono s ds vs r⟩
  | .cls c, _, h => by unfold Rp at h ⊢; exact h
  | .ty n, _, h => by unfold Rp at h ⊢; exact h
theorem RpL.mono (s : Same F F') : ∀ (ds : List D) (vs : List V), RpL K mg F ds vs → RpL K mg F' ds vs
  | [], _, h => by unfold RpL at h ⊢; exact h
  | d :: ds, _, h => by
    unfold RpL at h ⊢
    obtain ⟨v, us, e, r, rr⟩ := h
    exact ⟨v, us, e, Rp.mono s d v r, RpL.mono s ds us rr⟩
end
theorem RpX.mono (s : Same F F') {x : D} {cls : Value} {od : Option Addr} (h : RpX K mg F x cls od) : RpX K mg F' x cls od := by
  cases x with
  | exc c ns ds =>
    obtain ⟨C, e, ec, q⟩ := h
    refine ⟨C, e, ec, ?_⟩
    rcases q with q | ⟨dd, vs, e1, e2, l, r⟩
    · exact .inl q
    · exact .inr ⟨dd, vs, e1, s _ _ e2, l, RpL.mono s _ _ r⟩
  | _ => exact h.elim
theorem RpL.nil_iff {vs : List V} (h : RpL K mg F [] vs) : vs = [] := by unfold RpL at h; exact h
theorem RpL.cons_iff {d : D} {ds : List D} {vs : List V} (h : RpL K mg F (d :: ds) vs) : ∃ v us, vs = v :: us ∧ Rp K mg F d v ∧ RpL K mg F ds us := by unfold RpL at h; exact h
theorem RpL.nil : RpL K mg F [] [] := by unfold RpL; rfl
theorem RpL.cons {d : D} {ds : List D} {v : V} {vs : List V} (h : Rp K mg F d v) (t : RpL K mg F ds vs) : RpL K mg F (d :: ds) (v :: vs) := by unfold RpL; exact ⟨v, vs, rfl, h, t⟩
theorem RpL.length : ∀ {ds : List D} {vs : List V}, RpL K mg F ds vs → ds.length = vs.length
  | [], vs, h => by rw [h.nil_iff]; rfl
  | d :: ds, vs, h => by
    obtain ⟨v, us, e, _, r⟩ := h.cons_iff
    rw [e, List.length_cons, List.length_cons, RpL.length r]
theorem RpL.append : ∀ {ds es : List D} {vs us : List V}, RpL K mg F ds vs → RpL K mg F es us → RpL K mg F (ds ++ es) (vs ++ us)
  | [], es, vs, us, h, t => by rw [h.nil_iff]; exact t
  | d :: ds, es, vs, us, h, t => by
    obtain ⟨v, ws, e, r, rr⟩ := h.cons_iff
    rw [e]
    exact RpL.cons r (RpL.append rr t)
theorem RpL.get : ∀ {ds : List D} {vs : List V} {i : Nat} {d : D}, RpL K mg F ds vs → ds[i]? = some d → ∃ v, vs[i]? = some v ∧ Rp K mg F d v
  | [], _, _, _, _, e => by simp at e
  | d :: ds, vs, 0, d', h, e => by
    obtain ⟨v, ws, e', r, rr⟩ := h.cons_iff
    rw [e']
    simp at e
    subst e
    exact ⟨v, rfl, r⟩
  | d :: ds, vs, i + 1, d', h, e => by
    obtain ⟨v, ws, e', r, rr⟩ := h.cons_iff
    rw [e']
    obtain ⟨u, h1, h2⟩ := RpL.get (i := i) rr (by simpa using e)
    exact ⟨u, by simpa using h1, h2⟩
theorem RpL.getV : ∀ {ds : List D} {vs : List V} {i : Nat} {v : V}, RpL K mg F ds vs → vs[i]? = some v → ∃ d, ds[i]? = some d ∧ Rp K mg F d v := by
  intro ds vs i v h e
  have hl := h.length
  have hi : i < ds.length := by rw [hl]; exact (List.getElem?_eq_some_iff.mp e).1
  obtain ⟨u, h1, h2⟩ := h.get (i := i) (d := ds[i]) (by simp [hi])
  rw [e] at h1
  cases h1
  exact ⟨ds[i], by simp [hi], h2⟩
theorem RpL.set : ∀ {ds : List D} {vs : List V} {d : D} {v : V} (i : Nat), RpL K mg F ds vs → Rp K mg F d v → RpL K mg F (ds.set i d) (vs.set i v)
  | [], vs, _, _, _, h, _ => by rw [h.nil_iff]; exact RpL.nil
  | d :: ds, vs, d', v', 0, h, r' => by
    obtain ⟨v, ws, e', r, rr⟩ := h.cons_iff
    rw [e']
    exact RpL.cons r' rr
  | d :: ds, vs, d', v', i + 1, h, r' => by
    obtain ⟨v, ws, e', r, rr⟩ := h.cons_iff
    rw [e']
    exact RpL.cons r (RpL.set i rr r')
theorem RpL.take : ∀ {ds : List D} {vs : List V} (n : Nat), RpL K mg F ds vs → RpL K mg F (ds.take n) (vs.take n)
  | ds, vs, 0, h => by simp; exact RpL.nil
  | [], vs, n + 1, h => by rw [h.nil_iff]; exact RpL.nil
  | d :: ds, vs, n + 1, h => by
    obtain ⟨v, ws, e', r, rr⟩ := h.cons_iff
    rw [e']
    exact RpL.cons r (RpL.take n rr)
theorem RpL.drop : ∀ {ds : List D} {vs : List V} (n : Nat), RpL K mg F ds vs → RpL K mg F (ds.drop n) (vs.drop n)
  | ds, vs, 0, h => by simpa using h
  | [], vs, n + 1, h => by rw [h.nil_iff]; exact RpL.nil
  | d :: ds, vs, n + 1, h => by
    obtain ⟨v, ws, e', r, rr⟩ := h.cons_iff
    rw [e']
    exact RpL.drop n rr
theorem RpL.reverse : ∀ {ds : List D} {vs : List V}, RpL K mg F ds vs → RpL K mg F ds.reverse vs.reverse
  | [], vs, h => by rw [h.nil_iff]; exact RpL.nil
  | d :: ds, vs, h => by
    obtain ⟨v, ws, e', r, rr⟩ := h.cons_iff
    rw [e', List.reverse_cons, List.reverse_cons]
    exact RpL.append (RpL.reverse rr) (RpL.cons r RpL.nil)
theorem RpL.ints : ∀ {ns : List Int}, RpL K mg F (ns.map D.int) (ns.map V.int)
  | [] => RpL.nil
  | n :: ns => RpL.cons (by unfold Rp; rfl) RpL.ints
theorem RpL.rep {ds : List D} {vs : List V} (h : RpL K mg F ds vs) : ∀ k : Nat, RpL K mg F (List.replicate k ds).flatten (List.replicate k vs).flatten
  | 0 => by simp; exact RpL.nil
  | k + 1 => by
    rw [List.replicate_succ, List.replicate_succ, List.flatten_cons, List.flatten_cons]
    exact RpL.append h (RpL.rep h k)
end
section
variable (K : PySem.W.Frag) (mg : Str → Option Value)
def OwnL (H0 F H : Hp) (ds : List D) (v : V) : Prop := ∃ l vs, v = .ref l ∧ H l = some (.lst vs) ∧ F l = none ∧ H0 l = none ∧ RpL K mg F ds vs
def OwnD (H0 F H : Hp) (ks : List Key) (ds : List D) (v : V) : Prop := ∃ l vs, v = .ref l ∧ H l = some (.dK (ks.zip vs)) ∧ ks.length = vs.length ∧ F l = none ∧ H0 l = none ∧ RpL K mg F ds vs
def FlOk (H0 F H : Hp) : Fl → V → Prop
  | .val d, v => Rp K mg F d v
  | .own ds, v => OwnL K mg H0 F H ds v
  | .dic ks ds, v => OwnD K mg H0 F H ks ds v
def ObOk (H0 F H : Hp) (c : Str) (ns : List Str) (fs : List Fl) (v : V) : Prop := ∃ a C dx vs, v = .ref a ∧ mg c = some (.ref C) ∧ H a = some (.ins C dx (ns.zip vs)) ∧ ns.length = vs.length ∧ fs.length = vs.length ∧ F a = none ∧ H0 a = none ∧
  (∀ (i : Nat) (f : Fl) (u : V), fs[i]? = some f → vs[i]? = some u → FlOk K mg H0 F H f u) ∧
  ∀ (i j : Nat) (f g : Fl) (u : V), fs[i]? = some f → fs[j]? = some g → f.isOwn = true → g.isOwn = true → vs[i]? = some u → vs[j]? = some u → i = j
def CtxAt (F : Hp) : Ctx → V → Addr → Prop
  | .c3 a b n, u, r => ∃ t q va vb vn, u = .ref t ∧ F t = some (.tup [va, vb, .ref q]) ∧ F q = some (.lst [vn, .ref r]) ∧ Rp K mg F a va ∧ Rp K mg F b vb ∧ Rp K mg F n vn
  | .c4 a b c, u, r => ∃ t va vb vc, u = .ref t ∧ F t = some (.tup [va, vb, vc, .ref r]) ∧ Rp K mg F a va ∧ Rp K mg F b vb ∧ Rp K mg F c vc
def NestIn (F H : Hp) : List (List D × Ctx) → List D → List Addr → Prop
  | [], inn, rs => ∃ r vs, rs = [r] ∧ H r = some (.lst vs) ∧ RpL K mg F inn vs
  | (ds, c) :: out, inn, rs => ∃ r r2 rs' vs u, rs = r :: r2 :: rs' ∧ H r = some (.lst (vs ++ [u])) ∧ RpL K mg F ds vs ∧ CtxAt K mg F c u r2 ∧ NestIn F H out inn (r2 :: rs')
def AllIn (F H : Hp) : List (List D) → List Addr → Prop
  | [], rs => rs = []
  | ds :: xss, rs => ∃ r rs' vs, rs = r :: rs' ∧ H r = some (.lst vs) ∧ RpL K mg F ds vs ∧ AllIn F H xss rs'
def AbOk (H0 F H : Hp) : Ab → V → Prop
  | .nst out inn, v => ∃ l rs, v = .ref l ∧ H l = some (.lst (rs.map V.ref)) ∧ NestIn K mg F H out inn rs ∧ (l :: rs).Nodup ∧ ∀ m ∈ l :: rs, F m = none ∧ H0 m = none
  | .scb ks vs out inn, v => ∃ a C dx s Cs dxs n f r0 rs us, v = .ref a ∧ mg "Scribe" = some (.ref C) ∧ mg "Script" = some (.ref Cs) ∧ H a = some (.ins C dx [("script", .ref s), ("nests", .ref n)]) ∧ H s = some (.ins Cs dxs [("frames", .ref f), ("rows", .ref r0)]) ∧
      H f = some (.dK (ks.zip us)) ∧ ks.length = us.length ∧ RpL K mg F vs us ∧ H n = some (.lst ((r0 :: rs).map V.ref)) ∧ NestIn K mg F H out inn (r0 :: rs) ∧ (n :: r0 :: rs).Nodup ∧ ∀ m ∈ a :: s :: f :: n :: r0 :: rs, F m = none ∧ H0 m = none
  | .dsk ks obs, v => ∃ a C dx d us, v = .ref a ∧ mg "Desk" = some (.ref C) ∧ H a = some (.ins C dx [("held", .ref d)]) ∧ H d = some (.dK (ks.zip us)) ∧ ks.length = us.length ∧ obs.length = us.length ∧ (F a = none ∧ H0 a = none) ∧ (F d = none ∧ H0 d = none) ∧
      (∀ (i : Nat) (ob : List Str × List Fl) (u : V), obs[i]? = some ob → us[i]? = some u → ObOk K mg H0 F H "Kept" ob.1 ob.2 u) ∧
      (∀ (i j : Nat) (ob ob' : List Str × List Fl) (u u' : V) (l : Addr), obs[i]? = some ob → obs[j]? = some ob' → us[i]? = some u → us[j]? = some u' → OFoot H ob.1 ob.2 u l → OFoot H ob'.1 ob'.2 u' l → i = j) ∧
      ∀ (i : Nat) (ob : List Str × List Fl) (u : V) (l : Addr), obs[i]? = some ob → us[i]? = some u → OFoot H ob.1 ob.2 u l → l ≠ a ∧ l ≠ d
  | .dol ks xss, v => ∃ n rs, v = .ref n ∧ H n = some (.dK (ks.zip (rs.map V.ref))) ∧ ks.length = rs.length ∧ AllIn K mg F H xss rs ∧ (n :: rs).Nodup ∧ ∀ m ∈ n :: rs, F m = none ∧ H0 m = none
def SlotOk (H0 F H : Hp) : Slot → V → Prop
  | .val d, v => Rp K mg F d v
  | .own ds, v => OwnL K mg H0 F H ds v
  | .dic ks ds, v => OwnD K mg H0 F H ks ds v
  | .oob _ c ns fs, v => ObOk K mg H0 F H c ns fs v
  | .hnd _ ds, v => OwnL K mg H0 F H ds v
  | .hdc _ ks ds, v => OwnD K mg H0 F H ks ds v
  | .abs _ a, v => AbOk K mg H0 F H a v
structure Fe where
  hp : Hp
  sv : Nat → V
instance : Coe Fe Hp := ⟨Fe.hp⟩
instance : CoeFun Fe (fun _ => Addr → Option HO) := ⟨Fe.hp⟩
def Slf (F0 : Fe) (σ : St) (Γ : Env) : Prop := ∀ (i : Nat) (s : Slot) (k : Nat) (v : V), Γ[i]? = some (some s) → s.tag = some k → σ[i]? = some (some v) → v = F0.sv k
structure Rel (F0 : Fe) (H0 F H : Hp) (σ : St) (Γ : Env) : Prop where
  ext : Ext F0 H0 F H
  len : σ.length = Γ.length
  slot : ∀ (i : Nat) (s : Slot), Γ[i]? = some (some s) → ∃ v, σ[i]? = some (some v) ∧ SlotOk K mg H0 F H s v
  inj : ∀ (i j : Nat) (s t : Slot) (v u : V) (l : Addr), Γ[i]? = some (some s) → Γ[j]? = some (some t) → σ[i]? = some (some v) → σ[j]? = some (some u) → foot H s v l → foot H t u l → i = j
  slf : Slf F0 σ Γ
def PostG {α β : Type} (rep : Hp → Hp → Hp → α → β → Prop) (F H : Hp) (E : XK) (Q : β → Hp → Prop) : R α → Prop
  | .ok a => ∀ b F' H', Ext F H F' H' → rep H F' H' a b → Q b H'
  | .exc x => ∀ cls od F' H', Ext F H F' H' → RpX K mg F' x cls od → E cls od H'
  | .stuck => False
abbrev repV : Hp → Hp → Hp → D → V → Prop := fun _ F' _ d v => Rp K mg F' d v
abbrev repL : Hp → Hp → Hp → List D → List V → Prop := fun _ F' _ d v => RpL K mg F' d v
abbrev repO : Hp → Hp → Hp → List D → V → Prop := fun H F' H' d v => OwnL K mg H F' H' d v
abbrev repD : Hp → Hp → Hp → (List Key × List D) → V → Prop := fun H F' H' d v => OwnD K mg H F' H' d.1 d.2 v
abbrev repB {β : Type} : Hp → Hp → Hp → β → β → Prop := fun _ _ _ d v => v = d
end
section
variable {K : PySem.W.Frag} {mg : Str → Option Value} {F0 : Fe} {H0 F H F' H' : Hp} {σ : St} {Γ : Env} {α β : Type}
theorem Slf.set (h : Slf F0 σ Γ) (i : Nat) {x : Option Slot} {y : Option V} (nx : ∀ s, x = some s → s.tag = none) : Slf F0 (σ.set i y) (Γ.set i x) := by
  intro j s k v e1 tk e2
  by_cases q : i = j
  · subst q
    have hi : i < Γ.length := by
      have := (List.getElem?_eq_some_iff.mp e1).1
      rwa [List.length_set] at this
    rw [List.getElem?_set_self hi] at e1
    injection e1 with e1
    rw [nx s e1] at tk
    cases tk
  · rw [List.getElem?_set_ne q] at e1 e2
    exact h j s k v e1 tk e2
theorem Slf.setE (h : Slf F0 σ Γ) {i : Nat} {s s' : Slot} (ei : Γ[i]? = some (some s)) (hb : s'.tag = none ∨ s'.tag = s.tag) : Slf F0 σ (Γ.set i (some s')) := by
  intro j t k v e1 tk e2
  by_cases q : i = j
  · subst q
    have hi : i < Γ.length := (List.getElem?_eq_some_iff.mp ei).1
    rw [List.getElem?_set_self hi] at e1
    injection e1 with e1
    injection e1 with e1
    subst e1
    rcases hb with hb | hb
    · rw [hb] at tk
      cases tk
    · rw [hb] at tk
      exact h i s k v ei tk e2
  · rw [List.getElem?_set_ne q] at e1
    exact h j t k v e1 tk e2
theorem OwnL.ext {ds : List D} {v : V} (h : OwnL K mg H0 F H ds v) (x : Ext F H F' H') : OwnL K mg H0 F' H' ds v := by
  obtain ⟨l, vs, e, eh, ef, e0, r⟩ := h
  refine ⟨l, vs, e, x.hh _ _ eh, ?_, e0, RpL.mono x.ff _ _ r⟩
  cases q : F' l with
  | none => rfl
  | some o =>
    rcases x.new l o q with z | z
    · rw [ef] at z; cases z
    · rw [eh] at z; cases z
theorem OwnD.ext {ks : List Key} {ds : List D} {v : V} (h : OwnD K mg H0 F H ks ds v) (x : Ext F H F' H') : OwnD K mg H0 F' H' ks ds v := by
  obtain ⟨l, vs, e, eh, el, ef, e0, r⟩ := h
  refine ⟨l, vs, e, x.hh _ _ eh, el, ?_, e0, RpL.mono x.ff _ _ r⟩
  cases q : F' l with
  | none => rfl
  | some o =>
    rcases x.new l o q with z | z
    · rw [ef] at z; cases z
    · rw [eh] at z; cases z
theorem zip_snd : ∀ {ns : List Str} {vs us : List V}, ns.length = vs.length → ns.length = us.length → ns.zip vs = ns.zip us → vs = us
  | [], vs, us, h, h', _ => by
    rw [List.length_eq_zero_iff.mp h.symm, List.length_eq_zero_iff.mp h'.symm]
  | n :: ns, [], _, h, _, _ => by cases h
  | n :: ns, _ :: _, [], _, h, _ => by cases h
  | n :: ns, v :: vs, u :: us, h, h', e => by
    rw [List.zip_cons_cons, List.zip_cons_cons] at e
    injection e with e1 e2
    injection e1 with _ e1
    rw [e1, zip_snd (by simpa using h) (by simpa using h') e2]
theorem FlOk.own_at {f : Fl} {v : V} (o : f.isOwn = true) (h : FlOk K mg H0 F H f v) : ∃ l ob, v = .ref l ∧ H l = some ob ∧ F l = none ∧ H0 l = none := by
  cases f with
  | val d => cases o
  | own ds =>
    obtain ⟨l, vs, e, eh, ef, e0, _⟩ := h
    exact ⟨l, _, e, eh, ef, e0⟩
  | dic ks ds =>
    obtain ⟨l, vs, e, eh, _, ef, e0, _⟩ := h
    exact ⟨l, _, e, eh, ef, e0⟩
theorem FlOk.gen {H0' : Hp} {f : Fl} {v : V} (h : FlOk K mg H0 F H f v) (sF : Same F F') (nF : ∀ l, f.isOwn = true → v = .ref l → F' l = none) (sH : ∀ l ob, f.isOwn = true → v = .ref l → H l = some ob → H' l = some ob) (nH : ∀ l, f.isOwn = true → v = .ref l → H0' l = none) : FlOk K mg H0' F' H' f v := by
  cases f with
  | val d => exact Rp.mono sF d v h
  | own ds =>
    obtain ⟨l, vs, e, eh, ef, e0, r⟩ := h
    exact ⟨l, vs, e, sH l _ rfl e eh, nF l rfl e, nH l rfl e, RpL.mono sF _ _ r⟩
  | dic ks ds =>
    obtain ⟨l, vs, e, eh, el, ef, e0, r⟩ := h
    exact ⟨l, vs, e, sH l _ rfl e eh, el, nF l rfl e, nH l rfl e, RpL.mono sF _ _ r⟩
theorem ob_at {c : Str} {ns : List Str} {fs : List Fl} {v : V} {l : Addr} (h : ObOk K mg H0 F H c ns fs v) (q : OFoot H ns fs v l) : ∃ ob, H l = some ob ∧ F l = none ∧ H0 l = none := by
  obtain ⟨a, C, dx, vs, e, ec, eh, el, el2, ef, e0, hf, hi⟩ := h
  rcases q with q | ⟨a2, C2, dx2, vs2, i, f, q1, q2, q3, q4, q5, q6⟩
  · rw [e] at q
    cases q
    exact ⟨_, eh, ef, e0⟩
  · rw [e] at q1
    cases q1
    rw [eh] at q2
    injection q2 with q2
    injection q2 with _ _ q2
    have := zip_snd el q3 q2
    subst this
    obtain ⟨l', ob, e1, e2, e3, e4⟩ := FlOk.own_at q5 (hf i f _ q4 q6)
    cases e1
    exact ⟨ob, e2, e3, e4⟩
theorem ob_fg {c : Str} {ns : List Str} {fs : List Fl} {v : V} {l : Addr} (h : ObOk K mg H0 F H c ns fs v) (sH : ∀ l ob, OFoot H ns fs v l → H l = some ob → H' l = some ob) (q : OFoot H' ns fs v l) : OFoot H ns fs v l := by
  obtain ⟨a, C, dx, vs, e, ec, eh, el, el2, ef, e0, hf, hi⟩ := h
  rcases q with q | ⟨a2, C2, dx2, vs2, i, f, q1, q2, q3, q4, q5, q6⟩
  · exact Or.inl q
  · rw [e] at q1
    cases q1
    rw [sH a _ (Or.inl e) eh] at q2
    injection q2 with q2
    injection q2 with _ _ q2
    have := zip_snd el q3 q2
    subst this
    exact Or.inr ⟨a, C, dx, vs, i, f, e, eh, el, q4, q5, q6⟩
theorem ob_gen {H0' : Hp} {c : Str} {ns : List Str} {fs : List Fl} {v : V} (h : ObOk K mg H0 F H c ns fs v) (sF : Same F F') (nF : ∀ l, OFoot H ns fs v l → F' l = none) (sH : ∀ l ob, OFoot H ns fs v l → H l = some ob → H' l = some ob) (nH : ∀ l, OFoot H ns fs v l → H0' l = none) : ObOk K mg H0' F' H' c ns fs v := by
  obtain ⟨a, C, dx, vs, e, ec, eh, el, el2, ef, e0, hf, hi⟩ := h
  have inn : ∀ (i : Nat) (f : Fl) (l : Addr), fs[i]? = some f → f.isOwn = true → vs[i]? = some (.ref l) → OFoot H ns fs v l := fun i f l q1 q2 q3 => Or.inr ⟨a, C, dx, vs, i, f, e, eh, el, q1, q2, q3⟩
  refine ⟨a, C, dx, vs, e, ec, sH a _ (Or.inl e) eh, el, el2, nF a (Or.inl e), nH a (Or.inl e), fun i f u q1 q2 => ?_, hi⟩
  exact FlOk.gen (hf i f u q1 q2) sF (fun l o z => nF l (inn i f l q1 o (by rw [q2, z]))) (fun l ob o z => sH l ob (inn i f l q1 o (by rw [q2, z]))) (fun l o z => nH l (inn i f l q1 o (by rw [q2, z])))
theorem CtxAt.mono (s : Same F F') {c : Ctx} {u : V} {r : Addr} (h : CtxAt K mg F c u r) : CtxAt K mg F' c u r := by
  cases c with
  | c3 a b n =>
    obtain ⟨t, q, va, vb, vn, e, e1, e2, r1, r2, r3⟩ := h
    exact ⟨t, q, va, vb, vn, e, s _ _ e1, s _ _ e2, Rp.mono s _ _ r1, Rp.mono s _ _ r2, Rp.mono s _ _ r3⟩
  | c4 a b c =>
    obtain ⟨t, va, vb, vc, e, e1, r1, r2, r3⟩ := h
    exact ⟨t, va, vb, vc, e, s _ _ e1, Rp.mono s _ _ r1, Rp.mono s _ _ r2, Rp.mono s _ _ r3⟩
theorem NestIn.has : ∀ {out : List (List D × Ctx)} {inn : List D} {rs : List Addr}, NestIn K mg F H out inn rs → ∀ r ∈ rs, ∃ vs, H r = some (.lst vs)
  | [], inn, rs, h, r, hr => by
    obtain ⟨r0, vs, rfl, e, _⟩ := h
    cases List.mem_singleton.mp hr
    exact ⟨vs, e⟩
  | (ds, c) :: out, inn, rs, h, r, hr => by
    obtain ⟨r0, r2, rs', vs, u, rfl, e, _, _, h2⟩ := h
    rcases List.mem_cons.mp hr with q | q
    · subst q
      exact ⟨_, e⟩
    · exact NestIn.has h2 r q
theorem NestIn.gen : ∀ {out : List (List D × Ctx)} {inn : List D} {rs : List Addr}, NestIn K mg F H out inn rs → Same F F' → (∀ r ob, r ∈ rs → H r = some ob → H' r = some ob) → NestIn K mg F' H' out inn rs
  | [], inn, rs, h, sF, sH => by
    obtain ⟨r0, vs, rfl, e, r⟩ := h
    exact ⟨r0, vs, rfl, sH _ _ (List.mem_singleton.mpr rfl) e, RpL.mono sF _ _ r⟩
  | (ds, c) :: out, inn, rs, h, sF, sH => by
    obtain ⟨r0, r2, rs', vs, u, rfl, e, r, hc, h2⟩ := h
    exact ⟨r0, r2, rs', vs, u, rfl, sH _ _ List.mem_cons_self e, RpL.mono sF _ _ r, hc.mono sF, NestIn.gen h2 sF fun r ob hr => sH r ob (List.mem_cons_of_mem _ hr)⟩
theorem scb_mem {ks : List Key} {vs : List D} {out : List (List D × Ctx)} {inn : List D} {a C dx s Cs dxs n f r0 : Addr} {rs : List Addr} (eh : H a = some (.ins C dx [("script", .ref s), ("nests", .ref n)])) (es : H s = some (.ins Cs dxs [("frames", .ref f), ("rows", .ref r0)]))
    (en : H n = some (.lst ((r0 :: rs).map V.ref))) (l : Addr) : abFoot H (.scb ks vs out inn) (.ref a) l ↔ l ∈ a :: s :: f :: n :: r0 :: rs := by
  constructor
  · rintro (q | ⟨a', C', dx', s', n', q, q1, q2⟩)
    · cases q
      exact List.mem_cons_self
    · cases q
      rw [eh] at q1
      injection q1 with q1
      injection q1 with _ _ q1
      injection q1 with q3 q4
      injection q3 with _ q3
      cases q3
      injection q4 with q4 _
      injection q4 with _ q4
      cases q4
      rcases q2 with q2 | q2 | ⟨vs', q2, q3⟩ | ⟨C2, dx2, r, q2⟩
      · simp [q2]
      · simp [q2]
      · rw [en] at q2
        cases q2
        obtain ⟨x, hx, e⟩ := List.mem_map.mp q3
        cases e
        simp only [List.mem_cons] at hx ⊢
        rcases hx with hx | hx
        · exact .inr (.inr (.inr (.inr (.inl hx))))
        · exact .inr (.inr (.inr (.inr (.inr hx))))
      · rw [es] at q2
        injection q2 with q2
        injection q2 with _ _ q2
        injection q2 with q2 _
        injection q2 with _ q2
        cases q2
        simp
  · intro h
    simp only [List.mem_cons] at h
    rcases h with rfl | rfl | rfl | rfl | h
    · exact .inl rfl
    · exact .inr ⟨a, C, dx, _, n, rfl, eh, .inl rfl⟩
    · exact .inr ⟨a, C, dx, s, n, rfl, eh, .inr (.inr (.inr ⟨Cs, dxs, _, es⟩))⟩
    · exact .inr ⟨a, C, dx, s, _, rfl, eh, .inr (.inl rfl)⟩
    · exact .inr ⟨a, C, dx, s, n, rfl, eh, .inr (.inr (.inl ⟨_, en, List.mem_map.mpr ⟨l, by simpa using h, rfl⟩⟩))⟩
theorem nst_mem {out : List (List D × Ctx)} {inn : List D} {n : Addr} {rs : List Addr} (en : H n = some (.lst (rs.map V.ref))) (l : Addr) : abFoot H (.nst out inn) (.ref n) l ↔ l ∈ n :: rs := by
  constructor
  · rintro (q | ⟨n', vs, q, q1, q2⟩)
    · cases q
      exact List.mem_cons_self
    · cases q
      rw [en] at q1
      cases q1
      obtain ⟨x, hx, e⟩ := List.mem_map.mp q2
      cases e
      exact List.mem_cons_of_mem _ hx
  · intro h
    rcases List.mem_cons.mp h with rfl | h
    · exact .inl rfl
    · exact .inr ⟨n, _, rfl, en, List.mem_map.mpr ⟨l, h, rfl⟩⟩
theorem dsk_mem {ks : List Key} {obs : List (List Str × List Fl)} {a C dx d : Addr} {us : List V} (eh : H a = some (.ins C dx [("held", .ref d)])) (ed : H d = some (.dK (ks.zip us))) (el : ks.length = us.length) (l : Addr) :
    abFoot H (.dsk ks obs) (.ref a) l ↔ l = a ∨ l = d ∨ ∃ (i : Nat) (ob : List Str × List Fl) (u : V), obs[i]? = some ob ∧ us[i]? = some u ∧ OFoot H ob.1 ob.2 u l := by
  constructor
  · rintro (q | ⟨a', C', dx', d', q, q1, q2⟩)
    · cases q
      exact .inl rfl
    · cases q
      rw [eh] at q1
      injection q1 with q1
      injection q1 with _ _ q1
      injection q1 with q1 _
      injection q1 with _ q1
      cases q1
      rcases q2 with q2 | ⟨us', i, ob, u, q2, q3, q4, q5, q6⟩
      · exact .inr (.inl q2)
      · rw [ed] at q2
        injection q2 with q2
        injection q2 with q2
        have : us = us' := by
          have h1 := congrArg (List.map Prod.snd) q2
          rw [List.map_snd_zip (by omega), List.map_snd_zip (by omega)] at h1
          exact h1
        subst this
        exact .inr (.inr ⟨i, ob, u, q4, q5, q6⟩)
  · rintro (rfl | rfl | ⟨i, ob, u, q1, q2, q3⟩)
    · exact .inl rfl
    · exact .inr ⟨a, C, dx, _, rfl, eh, .inl rfl⟩
    · exact .inr ⟨a, C, dx, d, rfl, eh, .inr ⟨us, i, ob, u, ed, el, q1, q2, q3⟩⟩
theorem AllIn.has : ∀ {xss : List (List D)} {rs : List Addr}, AllIn K mg F H xss rs → ∀ r ∈ rs, ∃ vs, H r = some (.lst vs)
  | [], rs, h, r, hr => by
    have h : rs = [] := h
    rw [h] at hr
    cases hr
  | ds :: xss, rs, h, r, hr => by
    obtain ⟨r0, rs', vs, rfl, e, _, h2⟩ := h
    rcases List.mem_cons.mp hr with rfl | q
    · exact ⟨_, e⟩
    · exact AllIn.has h2 r q
theorem AllIn.gen : ∀ {xss : List (List D)} {rs : List Addr}, AllIn K mg F H xss rs → Same F F' → (∀ r ob, r ∈ rs → H r = some ob → H' r = some ob) → AllIn K mg F' H' xss rs
  | [], rs, h, _, _ => h
  | ds :: xss, rs, h, sF, sH => by
    obtain ⟨r0, rs', vs, rfl, e, r, h2⟩ := h
    exact ⟨r0, rs', vs, rfl, sH _ _ List.mem_cons_self e, RpL.mono sF _ _ r, AllIn.gen h2 sF fun r ob hr => sH r ob (List.mem_cons_of_mem _ hr)⟩
theorem dol_mem {ks : List Key} {xss : List (List D)} {n : Addr} {rs : List Addr} (en : H n = some (.dK (ks.zip (rs.map V.ref)))) (el : ks.length = rs.length) (l : Addr) : abFoot H (.dol ks xss) (.ref n) l ↔ l ∈ n :: rs := by
  constructor
  · rintro (q | ⟨n', us, q, q1, q3, q2⟩)
    · cases q
      exact List.mem_cons_self
    · cases q
      rw [en] at q1
      injection q1 with q1
      injection q1 with q1
      have : rs.map V.ref = us := by
        have h1 := congrArg (List.map Prod.snd) q1
        rw [List.map_snd_zip (by rw [List.length_map]; omega), List.map_snd_zip (by omega)] at h1
        exact h1
      subst this
      obtain ⟨x, hx, e⟩ := List.mem_map.mp q2
      cases e
      exact List.mem_cons_of_mem _ hx
  · intro h
    rcases List.mem_cons.mp h with rfl | h
    · exact .inl rfl
    · exact .inr ⟨n, _, rfl, en, by rw [List.length_map]; exact el, List.mem_map.mpr ⟨l, h, rfl⟩⟩
theorem ab_at {a : Ab} {v : V} {l : Addr} (h : AbOk K mg H0 F H a v) (q : abFoot H a v l) : ∃ ob, H l = some ob ∧ F l = none ∧ H0 l = none := by
  cases a with
  | nst out inn =>
    obtain ⟨n, rs, rfl, en, hn, hd, hm⟩ := h
    have q := (nst_mem en l).mp q
    obtain ⟨m1, m2⟩ := hm l q
    rcases List.mem_cons.mp q with rfl | q
    · exact ⟨_, en, m1, m2⟩
    · obtain ⟨vs, e⟩ := hn.has l q
      exact ⟨_, e, m1, m2⟩
  | scb ks vs out inn =>
    obtain ⟨a, C, dx, s, Cs, dxs, n, f, r0, rs, us, rfl, ec, ecs, eh, es, ef, el, er, en, hn, hd, hm⟩ := h
    have q := (scb_mem eh es en l).mp q
    obtain ⟨m1, m2⟩ := hm l q
    simp only [List.mem_cons] at q
    rcases q with rfl | rfl | rfl | rfl | q
    · exact ⟨_, eh, m1, m2⟩
    · exact ⟨_, es, m1, m2⟩
    · exact ⟨_, ef, m1, m2⟩
    · exact ⟨_, en, m1, m2⟩
    · obtain ⟨vs, e⟩ := hn.has l (by simpa using q)
      exact ⟨_, e, m1, m2⟩
  | dsk ks obs =>
    obtain ⟨a, C, dx, d, us, rfl, ec, eh, ed, el, el2, ⟨a1, a2⟩, ⟨d1, d2⟩, hf, hi, hs⟩ := h
    rcases (dsk_mem eh ed el l).mp q with rfl | rfl | ⟨i, ob, u, q1, q2, q3⟩
    · exact ⟨_, eh, a1, a2⟩
    · exact ⟨_, ed, d1, d2⟩
    · exact ob_at (hf i ob u q1 q2) q3
  | dol ks xss =>
    obtain ⟨n, rs, rfl, en, el, hn, hd, hm⟩ := h
    have q := (dol_mem en el l).mp q
    obtain ⟨m1, m2⟩ := hm l q
    rcases List.mem_cons.mp q with rfl | q
    · exact ⟨_, en, m1, m2⟩
    · obtain ⟨vs, e⟩ := hn.has l q
      exact ⟨_, e, m1, m2⟩
theorem ab_fg {a : Ab} {v : V} {l : Addr} (h : AbOk K mg H0 F H a v) (sH : ∀ l ob, abFoot H a v l → H l = some ob → H' l = some ob) (q : abFoot H' a v l) : abFoot H a v l := by
  cases a with
  | nst out inn =>
    obtain ⟨n, rs, rfl, en, hn, hd, hm⟩ := h
    exact (nst_mem en l).mpr ((nst_mem (sH _ _ ((nst_mem en n).mpr List.mem_cons_self) en) l).mp q)
  | scb ks vs out inn =>
    obtain ⟨a, C, dx, s, Cs, dxs, n, f, r0, rs, us, rfl, ec, ecs, eh, es, ef, el, er, en, hn, hd, hm⟩ := h
    have k := fun m => (scb_mem (ks := ks) (vs := vs) (out := out) (inn := inn) eh es en m).mpr
    exact k l ((scb_mem (sH _ _ (k a (by simp)) eh) (sH _ _ (k s (by simp)) es) (sH _ _ (k n (by simp)) en) l).mp q)
  | dsk ks obs =>
    obtain ⟨a, C, dx, d, us, rfl, ec, eh, ed, el, el2, ⟨a1, a2⟩, ⟨d1, d2⟩, hf, hi, hs⟩ := h
    have k := fun m => (dsk_mem (obs := obs) eh ed el m).mpr
    refine k l ?_
    rcases (dsk_mem (sH _ _ (k a (.inl rfl)) eh) (sH _ _ (k d (.inr (.inl rfl))) ed) el l).mp q with q | q | ⟨i, ob, u, q1, q2, q3⟩
    · exact .inl q
    · exact .inr (.inl q)
    · exact .inr (.inr ⟨i, ob, u, q1, q2, ob_fg (hf i ob u q1 q2) (fun m o z => sH m o (k m (.inr (.inr ⟨i, ob, u, q1, q2, z⟩)))) q3⟩)
  | dol ks xss =>
    obtain ⟨n, rs, rfl, en, el, hn, hd, hm⟩ := h
    exact (dol_mem en el l).mpr ((dol_mem (sH _ _ ((dol_mem en el n).mpr List.mem_cons_self) en) el l).mp q)
theorem ab_gen {H0' : Hp} {a : Ab} {v : V} (h : AbOk K mg H0 F H a v) (sF : Same F F') (nF : ∀ l, abFoot H a v l → F' l = none) (sH : ∀ l ob, abFoot H a v l → H l = some ob → H' l = some ob) (nH : ∀ l, abFoot H a v l → H0' l = none) : AbOk K mg H0' F' H' a v := by
  cases a with
  | nst out inn =>
    obtain ⟨n, rs, rfl, en, hn, hd, hm⟩ := h
    have k := fun m => (nst_mem (out := out) (inn := inn) en m).mpr
    exact ⟨n, rs, rfl, sH _ _ (k n List.mem_cons_self) en, hn.gen sF fun r ob hr => sH r ob (k r (List.mem_cons_of_mem _ hr)), hd, fun m q => ⟨nF m (k m q), nH m (k m q)⟩⟩
  | scb ks vs out inn =>
    obtain ⟨a, C, dx, s, Cs, dxs, n, f, r0, rs, us, rfl, ec, ecs, eh, es, ef, el, er, en, hn, hd, hm⟩ := h
    have k := fun m => (scb_mem (ks := ks) (vs := vs) (out := out) (inn := inn) eh es en m).mpr
    exact ⟨a, C, dx, s, Cs, dxs, n, f, r0, rs, us, rfl, ec, ecs, sH _ _ (k a (by simp)) eh, sH _ _ (k s (by simp)) es, sH _ _ (k f (by simp)) ef, el, RpL.mono sF _ _ er, sH _ _ (k n (by simp)) en,
      hn.gen sF fun r ob hr => sH r ob (k r (by simp only [List.mem_cons] at hr ⊢; exact .inr (.inr (.inr (.inr hr))))), hd, fun m q => ⟨nF m (k m q), nH m (k m q)⟩⟩
  | dsk ks obs =>
    have h0 := h
    obtain ⟨a, C, dx, d, us, rfl, ec, eh, ed, el, el2, ⟨a1, a2⟩, ⟨d1, d2⟩, hf, hi, hs⟩ := h
    have k := fun m => (dsk_mem (obs := obs) eh ed el m).mpr
    have ka := k a (.inl rfl)
    have kd := k d (.inr (.inl rfl))
    have ko : ∀ (i : Nat) (ob : List Str × List Fl) (u : V) (m : Addr), obs[i]? = some ob → us[i]? = some u → OFoot H ob.1 ob.2 u m → abFoot H (.dsk ks obs) (.ref a) m := fun i ob u m q1 q2 q3 => k m (.inr (.inr ⟨i, ob, u, q1, q2, q3⟩))
    have kf : ∀ (i : Nat) (ob : List Str × List Fl) (u : V) (m : Addr), obs[i]? = some ob → us[i]? = some u → OFoot H' ob.1 ob.2 u m → OFoot H ob.1 ob.2 u m := fun i ob u m q1 q2 q3 => ob_fg (hf i ob u q1 q2) (fun l o z => sH l o (ko i ob u l q1 q2 z)) q3
    exact ⟨a, C, dx, d, us, rfl, ec, sH _ _ ka eh, sH _ _ kd ed, el, el2, ⟨nF _ ka, nH _ ka⟩, ⟨nF _ kd, nH _ kd⟩,
      fun i ob u q1 q2 => ob_gen (hf i ob u q1 q2) sF (fun l z => nF l (ko i ob u l q1 q2 z)) (fun l o z => sH l o (ko i ob u l q1 q2 z)) fun l z => nH l (ko i ob u l q1 q2 z),
      fun i j ob ob' u u' l q1 q2 q3 q4 q5 q6 => hi i j ob ob' u u' l q1 q2 q3 q4 (kf i ob u l q1 q3 q5) (kf j ob' u' l q2 q4 q6),
      fun i ob u l q1 q2 q3 => hs i ob u l q1 q2 (kf i ob u l q1 q2 q3)⟩
  | dol ks xss =>
    obtain ⟨n, rs, rfl, en, el, hn, hd, hm⟩ := h
    have k := fun m => (dol_mem (xss := xss) en el m).mpr
    exact ⟨n, rs, rfl, sH _ _ (k n List.mem_cons_self) en, el, hn.gen sF fun r ob hr => sH r ob (k r (List.mem_cons_of_mem _ hr)), hd, fun m q => ⟨nF m (k m q), nH m (k m q)⟩⟩
theorem foot_at {s : Slot} {v : V} {l : Addr} (h : SlotOk K mg H0 F H s v) (q : foot H s v l) : ∃ ob, H l = some ob ∧ F l = none ∧ H0 l = none := by
  cases s with
  | val d => exact q.elim
  | own ds =>
    obtain ⟨l2, vs, e, eh, ef, e0, _⟩ := h
    have q : v = .ref l := q
    rw [e] at q
    cases q
    exact ⟨_, eh, ef, e0⟩
  | dic ks ds =>
    obtain ⟨l2, vs, e, eh, _, ef, e0, _⟩ := h
    have q : v = .ref l := q
    rw [e] at q
    cases q
    exact ⟨_, eh, ef, e0⟩
  | hnd j ds =>
    obtain ⟨l2, vs, e, eh, ef, e0, _⟩ := h
    have q : v = .ref l := q
    rw [e] at q
    cases q
    exact ⟨_, eh, ef, e0⟩
  | hdc j ks ds =>
    obtain ⟨l2, vs, e, eh, _, ef, e0, _⟩ := h
    have q : v = .ref l := q
    rw [e] at q
    cases q
    exact ⟨_, eh, ef, e0⟩
  | oob b c ns fs => exact ob_at h q
  | abs b a => exact ab_at h q
theorem foot_gen {s : Slot} {v : V} {l : Addr} (h : SlotOk K mg H0 F H s v) (sH : ∀ l ob, foot H s v l → H l = some ob → H' l = some ob) (q : foot H' s v l) : foot H s v l := by
  cases s with
  | val d => exact q
  | own ds => exact q
  | dic ks ds => exact q
  | hnd j ds => exact q
  | hdc j ks ds => exact q
  | oob b c ns fs => exact ob_fg h sH q
  | abs b a => exact ab_fg h sH q
theorem SlotOk.gen {H0' : Hp} {s : Slot} {v : V} (h : SlotOk K mg H0 F H s v) (sF : Same F F') (nF : ∀ l, foot H s v l → F' l = none) (sH : ∀ l ob, foot H s v l → H l = some ob → H' l = some ob) (nH : ∀ l, foot H s v l → H0' l = none) : SlotOk K mg H0' F' H' s v := by
  cases s with
  | val d => exact Rp.mono sF d v h
  | own ds => exact FlOk.gen (f := .own ds) h sF (fun l _ e => nF l e) (fun l ob _ e => sH l ob e) (fun l _ e => nH l e)
  | hnd j ds => exact FlOk.gen (f := .own ds) h sF (fun l _ e => nF l e) (fun l ob _ e => sH l ob e) (fun l _ e => nH l e)
  | dic ks ds => exact FlOk.gen (f := .dic ks ds) h sF (fun l _ e => nF l e) (fun l ob _ e => sH l ob e) (fun l _ e => nH l e)
  | hdc j ks ds => exact FlOk.gen (f := .dic ks ds) h sF (fun l _ e => nF l e) (fun l ob _ e => sH l ob e) (fun l _ e => nH l e)
  | oob b c ns fs => exact ob_gen h sF nF sH nH
  | abs b a => exact ab_gen h sF nF sH nH
theorem SlotOk.ext {s : Slot} {v : V} (h : SlotOk K mg H0 F H s v) (x : Ext F H F' H') : SlotOk K mg H0 F' H' s v :=
  h.gen x.ff (fun l q => by
    obtain ⟨ob, e1, e2, e3⟩ := foot_at h q
    cases z : F' l with
    | none => rfl
    | some o =>
      rcases x.new l o z with y | y
      · rw [e2] at y; cases y
      · rw [e1] at y; cases y) (fun l ob _ e => x.hh l ob e) (fun l q => (foot_at h q).choose_spec.2.2)
theorem foot_ext {s : Slot} {v : V} {l : Addr} (h : SlotOk K mg H0 F H s v) (x : Ext F H F' H') (q : foot H' s v l) : foot H s v l := foot_gen h (fun l ob _ e => x.hh l ob e) q
theorem Rel.injG {H' : Hp} (r : Rel K mg F0 H0 F H σ Γ) (sH : ∀ (i : Nat) (s : Slot) (v : V) (l : Addr) (ob : HO), Γ[i]? = some (some s) → σ[i]? = some (some v) → foot H s v l → H l = some ob → H' l = some ob) :
    ∀ (i j : Nat) (s t : Slot) (v u : V) (l : Addr), Γ[i]? = some (some s) → Γ[j]? = some (some t) → σ[i]? = some (some v) → σ[j]? = some (some u) → foot H' s v l → foot H' t u l → i = j := by
  intro i j s t v u l ei ej hi hj fi fj
  obtain ⟨v', h1, h2⟩ := r.slot i s ei
  rw [hi] at h1
  cases h1
  obtain ⟨u', h3, h4⟩ := r.slot j t ej
  rw [hj] at h3
  cases h3
  exact r.inj i j s t v u l ei ej hi hj (foot_gen h2 (fun l ob q e => sH i s v l ob ei hi q e) fi) (foot_gen h4 (fun l ob q e => sH j t u l ob ej hj q e) fj)
theorem Rel.step (r : Rel K mg F0 H0 F H σ Γ) (x : Ext F H F' H') : Rel K mg F0 H0 F' H' σ Γ :=
  ⟨r.ext.trans x, r.len, fun i s e => by
    obtain ⟨v, h1, h2⟩ := r.slot i s e
    exact ⟨v, h1, h2.ext x⟩, r.injG fun _ _ _ l ob _ _ _ e => x.hh l ob e, r.slf⟩
theorem Rel.fz (r : Rel K mg F0 H0 F H σ Γ) : Fz F H := r.ext.fh
theorem Rel.setV (r : Rel K mg F0 H0 F H σ Γ) {i : Nat} {d : D} {v : V} (h : Rp K mg F d v) : Rel K mg F0 H0 F H (σ.set i (some v)) (Γ.set i (some (.val d))) := by
  refine ⟨r.ext, by rw [List.length_set, List.length_set]; exact r.len, fun j s e => ?_, fun j k s t u w l ej ek hj hk os ot => ?_, r.slf.set i fun s z => by cases z; rfl⟩
  · by_cases q : i = j
    · subst q
      have hi : i < Γ.length := by
        have := (List.getElem?_eq_some_iff.mp e).1
        rwa [List.length_set] at this
      rw [List.getElem?_set_self hi] at e
      cases e
      exact ⟨v, List.getElem?_set_self (by rw [r.len]; exact hi), h⟩
    · rw [List.getElem?_set_ne q] at e ⊢
      exact r.slot j s e
  · have nj : i ≠ j := fun q => by
      subst q
      have hi : i < Γ.length := by
        have := (List.getElem?_eq_some_iff.mp ej).1
        rwa [List.length_set] at this
      rw [List.getElem?_set_self hi] at ej
      cases ej
      cases os
    have nk : i ≠ k := fun q => by
      subst q
      have hi : i < Γ.length := by
        have := (List.getElem?_eq_some_iff.mp ek).1
        rwa [List.length_set] at this
      rw [List.getElem?_set_self hi] at ek
      cases ek
      cases ot
    rw [List.getElem?_set_ne nj] at ej hj
    rw [List.getElem?_set_ne nk] at ek hk
    exact r.inj j k s t u w l ej ek hj hk os ot
theorem Slot.own_at {s : Slot} {v : V} (o : s.isOwn = true) (h : SlotOk K mg H0 F H s v) : ∃ l ob, v = .ref l ∧ H l = some ob ∧ F l = none ∧ H0 l = none := by
  cases s with
  | val d => cases o
  | own ds =>
    obtain ⟨l, vs, e, eh, ef, e0, _⟩ := h
    exact ⟨l, _, e, eh, ef, e0⟩
  | dic ks ds =>
    obtain ⟨l, vs, e, eh, _, ef, e0, _⟩ := h
    exact ⟨l, _, e, eh, ef, e0⟩
  | hnd j ds =>
    obtain ⟨l, vs, e, eh, ef, e0, _⟩ := h
    exact ⟨l, _, e, eh, ef, e0⟩
  | oob b c ns fs =>
    obtain ⟨l, C, dx, vs, e, _, eh, _, _, ef, e0, _⟩ := h
    exact ⟨l, _, e, eh, ef, e0⟩
  | hdc j ks ds =>
    obtain ⟨l, vs, e, eh, _, ef, e0, _⟩ := h
    exact ⟨l, _, e, eh, ef, e0⟩
  | abs b a =>
    have hr : ∃ l, v = .ref l := by
      cases a with
      | nst out inn =>
        obtain ⟨n, rs, e, _⟩ := h
        exact ⟨n, e⟩
      | scb ks vs out inn =>
        obtain ⟨a, _, _, _, _, _, _, _, _, _, _, e, _⟩ := h
        exact ⟨a, e⟩
      | dsk ks obs =>
        obtain ⟨a, _, _, _, _, e, _⟩ := h
        exact ⟨a, e⟩
      | dol ks xss =>
        obtain ⟨n, _, e, _⟩ := h
        exact ⟨n, e⟩
    obtain ⟨l, e⟩ := hr
    have q : abFoot H a v l := by cases a <;> exact .inl e
    obtain ⟨ob, h1, h2, h3⟩ := ab_at h q
    exact ⟨l, ob, e, h1, h2, h3⟩
theorem Rel.setO (r : Rel K mg F0 H0 F H σ Γ) (x : Ext F H F' H') {i : Nat} {s : Slot} {v : V} (o : s.isOwn = true) (h : SlotOk K mg H F' H' s v) (nb : s.tag = none := by rfl) : Rel K mg F0 H0 F' H' (σ.set i (some v)) (Γ.set i (some s)) := by
  have r' := r.step x
  have h0 : ∀ {l : Addr}, H l = none → H0 l = none := fun e => r.ext.hh.free e
  have hs : SlotOk K mg H0 F' H' s v := h.gen (Same.refl _) (fun l q => (foot_at h q).choose_spec.2.1) (fun l ob _ e => e) (fun l q => h0 (foot_at h q).choose_spec.2.2)
  have fresh : ∀ (j : Nat) (t : Slot) (u : V) (l : Addr), Γ[j]? = some (some t) → σ[j]? = some (some u) → foot H' t u l → foot H' s v l → False := fun j t u l ej hj q1 q2 => by
    obtain ⟨w, hw, sw⟩ := r.slot j t ej
    rw [hj] at hw
    cases hw
    obtain ⟨ob, e1, _, _⟩ := foot_at sw (foot_ext sw x q1)
    obtain ⟨_, _, _, e2⟩ := foot_at h q2
    rw [e2] at e1
    cases e1
  refine ⟨r'.ext, by rw [List.length_set, List.length_set]; exact r.len, fun j t e => ?_, fun j k t t' u w l ej ek hj hk os ot => ?_, r.slf.set i fun s2 z => by cases z; exact nb⟩
  · by_cases q : i = j
    · subst q
      have hi : i < Γ.length := by
        have := (List.getElem?_eq_some_iff.mp e).1
        rwa [List.length_set] at this
      rw [List.getElem?_set_self hi] at e
      cases e
      exact ⟨v, List.getElem?_set_self (by rw [r.len]; exact hi), hs⟩
    · rw [List.getElem?_set_ne q] at e ⊢
      exact r'.slot j t e
  · have own : ∀ {m : Nat} {z : Slot} {y : V}, i = m → (Γ.set i (some s))[m]? = some (some z) → (σ.set i (some v))[m]? = some (some y) → z = s ∧ y = v := fun {m z y} e h1 h2 => by
      subst e
      have hi : i < σ.length := by
        have := (List.getElem?_eq_some_iff.mp h2).1
        rwa [List.length_set] at this
      rw [List.getElem?_set_self (by rw [← r.len]; exact hi)] at h1
      rw [List.getElem?_set_self hi] at h2
      cases h1
      cases h2
      exact ⟨rfl, rfl⟩
    by_cases qj : i = j
    · by_cases qk : i = k
      · rw [← qj, ← qk]
      · obtain ⟨rfl, rfl⟩ := own qj ej hj
        rw [List.getElem?_set_ne qk] at ek hk
        exact (fresh k t' w l ek hk ot os).elim
    · by_cases qk : i = k
      · obtain ⟨rfl, rfl⟩ := own qk ek hk
        rw [List.getElem?_set_ne qj] at ej hj
        exact (fresh j t u l ej hj os ot).elim
      · rw [List.getElem?_set_ne qj] at ej hj
        rw [List.getElem?_set_ne qk] at ek hk
        exact r'.inj j k t t' u w l ej ek hj hk os ot
theorem Rel.mutG (r : Rel K mg F0 H0 F H σ Γ) {i : Nat} {s s' : Slot} {v : V} (ei : Γ[i]? = some (some s)) (hv : σ[i]? = some (some v)) {H1 : Hp}
    (hH : ∀ a ob, ¬ foot H s v a → H a = some ob → H1 a = some ob) (h : SlotOk K mg H0 F H1 s' v) (hf : ∀ l, foot H1 s' v l → foot H s v l ∨ H l = none) (hb : s'.tag = none ∨ s'.tag = s.tag) : Rel K mg F0 H0 F H1 σ (Γ.set i (some s')) := by
  obtain ⟨v', hv', sv⟩ := r.slot i s ei
  rw [hv] at hv'
  cases hv'
  have hi : i < Γ.length := (List.getElem?_eq_some_iff.mp ei).1
  have off : ∀ (j : Nat) (t : Slot) (u : V) (l : Addr), i ≠ j → Γ[j]? = some (some t) → σ[j]? = some (some u) → foot H t u l → ¬ foot H s v l := fun j t u l q ej hj f1 f2 => q (r.inj i j s t v u l ei ej hv hj f2 f1)
  have back : ∀ (j : Nat) (t : Slot) (u : V) (l : Addr), i ≠ j → Γ[j]? = some (some t) → σ[j]? = some (some u) → foot H1 t u l → foot H t u l := fun j t u l q ej hj f1 => by
    obtain ⟨w, h1, h2⟩ := r.slot j t ej
    rw [hj] at h1
    cases h1
    exact foot_gen h2 (fun l2 ob q2 e => hH l2 ob (off j t _ l2 q ej hj q2) e) f1
  have apart : ∀ (j : Nat) (t : Slot) (u : V) (l : Addr), i ≠ j → Γ[j]? = some (some t) → σ[j]? = some (some u) → foot H1 t u l → foot H1 s' v l → False := fun j t u l q ej hj f1 f2 => by
    have b := back j t u l q ej hj f1
    rcases hf l f2 with z | z
    · exact off j t u l q ej hj b z
    · obtain ⟨w, h1, h2⟩ := r.slot j t ej
      rw [hj] at h1
      cases h1
      obtain ⟨ob, e1, _, _⟩ := foot_at h2 b
      rw [z] at e1
      cases e1
  refine ⟨⟨r.ext.ff, fun a u e => ?_, fun a u e => ?_, r.ext.new⟩, by rw [List.length_set]; exact r.len, fun j t e => ?_, fun j k t t' u w l ej ek hj hk os ot => ?_, r.slf.setE ei hb⟩
  · have nf : ¬ foot H s v a := fun q => by
      obtain ⟨_, _, z, _⟩ := foot_at sv q
      rw [e] at z
      cases z
    rcases r.ext.fh a u e with z | ⟨z1, ob, z2⟩
    · exact .inl (hH a u nf z)
    · exact .inr ⟨z1, ob, hH a _ nf z2⟩
  · exact hH a u (fun q => by
      obtain ⟨_, _, _, z⟩ := foot_at sv q
      rw [e] at z
      cases z) (r.ext.hh a u e)
  · by_cases q : i = j
    · subst q
      rw [List.getElem?_set_self hi] at e
      cases e
      exact ⟨v, hv, h⟩
    · rw [List.getElem?_set_ne q] at e
      obtain ⟨w, h1, h2⟩ := r.slot j t e
      exact ⟨w, h1, h2.gen (Same.refl _) (fun l z => (foot_at h2 z).choose_spec.2.1) (fun l ob z e2 => hH l ob (off j t w l q e h1 z) e2) (fun l z => (foot_at h2 z).choose_spec.2.2)⟩
  · by_cases qj : i = j
    · by_cases qk : i = k
      · rw [← qj, ← qk]
      · subst qj
        rw [List.getElem?_set_self hi] at ej
        cases ej
        rw [hv] at hj
        cases hj
        rw [List.getElem?_set_ne qk] at ek
        exact (apart k t' w l qk ek hk ot os).elim
    · by_cases qk : i = k
      · subst qk
        rw [List.getElem?_set_self hi] at ek
        cases ek
        rw [hv] at hk
        cases hk
        rw [List.getElem?_set_ne qj] at ej
        exact (apart j t u l qj ej hj os ot).elim
      · rw [List.getElem?_set_ne qj] at ej
        rw [List.getElem?_set_ne qk] at ek
        exact r.inj j k t t' u w l ej ek hj hk (back j t u l qj ej hj os) (back k t' w l qk ek hk ot)
theorem Rel.mutO (r : Rel K mg F0 H0 F H σ Γ) {i : Nat} {s s' : Slot} {l : Addr} {ob : HO} (ei : Γ[i]? = some (some s)) (o : s.isOwn = true) (hv : σ[i]? = some (some (.ref l)))
    (o' : s'.isOwn = true) (h : SlotOk K mg H0 F (upd H l ob) s' (.ref l)) (so : (match s' with | .oob _ _ _ _ => false | .abs _ _ => false | _ => true) = true := by rfl) (ht : s'.tag = none ∨ s'.tag = s.tag := by first | exact Or.inl rfl | exact Or.inr rfl) : Rel K mg F0 H0 F (upd H l ob) σ (Γ.set i (some s')) := by
  have fl : foot H s (.ref l) l := by
    cases s with
    | val d => cases o
    | own ds => rfl
    | dic ks ds => rfl
    | hnd j ds => rfl
    | hdc j ks ds => rfl
    | oob b c ns fs => exact Or.inl rfl
    | abs b a => cases a <;> exact Or.inl rfl
  refine r.mutG ei hv (fun a u nf e => ?_) h (fun l2 z => ?_) ht
  · rw [upd_ne (fun q => nf (by rw [q]; exact fl))]
    exact e
  · left
    have e : (V.ref l : V) = .ref l2 := by
      cases s' with
      | val d => exact z.elim
      | own ds => exact z
      | dic ks ds => exact z
      | hnd j ds => exact z
      | hdc j ks ds => exact z
      | oob b c ns fs => cases so
      | abs b a => cases so
    cases e
    exact fl
theorem Rel.freeze (r : Rel K mg F0 H0 F H σ Γ) {i : Nat} {ds : List D} (ei : Γ[i]? = some (some (.own ds))) : ∃ F', Rel K mg F0 H0 F' H σ (Γ.set i (some (.val (.lst ds)))) ∧ Same F F' := by
  obtain ⟨v, hv, l, vs, e1, e2, e3, e4, e5⟩ := r.slot i _ ei
  subst e1
  have hi : i < Γ.length := (List.getElem?_eq_some_iff.mp ei).1
  have ss : Same F (upd F l (.lst vs)) := fun a u e => by rw [upd_ne (fun q => by rw [q, e3] at e; cases e)]; exact e
  refine ⟨upd F l (.lst vs), ⟨⟨r.ext.ff.trans ss, fun a u e => ?_, r.ext.hh, fun a u e => ?_⟩, by rw [List.length_set]; exact r.len, fun j t e => ?_, fun j k t t' u w m ej ek hj hk os ot => ?_, r.slf.setE ei (.inl rfl)⟩, ss⟩
  · by_cases q : a = l
    · subst q
      rw [upd_same] at e
      cases e
      exact .inl e2
    · rw [upd_ne q] at e
      exact r.ext.fh a u e
  · by_cases q : a = l
    · subst q
      exact .inr e4
    · rw [upd_ne q] at e
      exact r.ext.new a u e
  · by_cases q : i = j
    · subst q
      rw [List.getElem?_set_self hi] at e
      cases e
      refine ⟨.ref l, hv, ?_⟩
      show Rp K mg _ (.lst ds) _
      unfold Rp
      exact ⟨l, vs, rfl, upd_same, RpL.mono ss _ _ e5⟩
    · rw [List.getElem?_set_ne q] at e
      obtain ⟨v, h1, h2⟩ := r.slot j t e
      refine ⟨v, h1, h2.gen ss (fun m z => ?_) (fun m ob _ e => e) (fun m z => (foot_at h2 z).choose_spec.2.2)⟩
      have nl : m ≠ l := fun y => q (r.inj i j _ t (.ref l) v m ei e hv h1 (by rw [y]; rfl) z)
      rw [upd_ne nl]
      exact (foot_at h2 z).choose_spec.2.1
  · have nj : i ≠ j := fun q => by
      subst q
      rw [List.getElem?_set_self hi] at ej
      cases ej
      cases os
    have nk : i ≠ k := fun q => by
      subst q
      rw [List.getElem?_set_self hi] at ek
      cases ek
      cases ot
    rw [List.getElem?_set_ne nj] at ej
    rw [List.getElem?_set_ne nk] at ek
    exact r.inj j k t t' u w m ej ek hj hk os ot
theorem Rel.freezeH (r : Rel K mg F0 H0 F H σ Γ) {i : Nat} {n : Nat} {ds : List D} (ei : Γ[i]? = some (some (.hnd n ds))) : ∃ F', Rel K mg F0 H0 F' H σ (Γ.set i (some (.val (.lst ds)))) ∧ Same F F' := by
  obtain ⟨v, hv, l, vs, e1, e2, e3, e4, e5⟩ := r.slot i _ ei
  subst e1
  have hi : i < Γ.length := (List.getElem?_eq_some_iff.mp ei).1
  have ss : Same F (upd F l (.lst vs)) := fun a u e => by rw [upd_ne (fun q => by rw [q, e3] at e; cases e)]; exact e
  refine ⟨upd F l (.lst vs), ⟨⟨r.ext.ff.trans ss, fun a u e => ?_, r.ext.hh, fun a u e => ?_⟩, by rw [List.length_set]; exact r.len, fun j t e => ?_, fun j k t t' u w m ej ek hj hk os ot => ?_, r.slf.setE ei (.inl rfl)⟩, ss⟩
  · by_cases q : a = l
    · subst q
      rw [upd_same] at e
      cases e
      exact .inl e2
    · rw [upd_ne q] at e
      exact r.ext.fh a u e
  · by_cases q : a = l
    · subst q
      exact .inr e4
    · rw [upd_ne q] at e
      exact r.ext.new a u e
  · by_cases q : i = j
    · subst q
      rw [List.getElem?_set_self hi] at e
      cases e
      refine ⟨.ref l, hv, ?_⟩
      show Rp K mg _ (.lst ds) _
      unfold Rp
      exact ⟨l, vs, rfl, upd_same, RpL.mono ss _ _ e5⟩
    · rw [List.getElem?_set_ne q] at e
      obtain ⟨v, h1, h2⟩ := r.slot j t e
      refine ⟨v, h1, h2.gen ss (fun m z => ?_) (fun m ob _ e => e) (fun m z => (foot_at h2 z).choose_spec.2.2)⟩
      have nl : m ≠ l := fun y => q (r.inj i j _ t (.ref l) v m ei e hv h1 (by rw [y]; rfl) z)
      rw [upd_ne nl]
      exact (foot_at h2 z).choose_spec.2.1
  · have nj : i ≠ j := fun q => by
      subst q
      rw [List.getElem?_set_self hi] at ej
      cases ej
      cases os
    have nk : i ≠ k := fun q => by
      subst q
      rw [List.getElem?_set_self hi] at ek
      cases ek
      cases ot
    rw [List.getElem?_set_ne nj] at ej
    rw [List.getElem?_set_ne nk] at ek
    exact r.inj j k t t' u w m ej ek hj hk os ot
theorem Rel.freezeD (r : Rel K mg F0 H0 F H σ Γ) {i : Nat} {ks : List Key} {ds : List D} (ei : Γ[i]? = some (some (.dic ks ds))) : ∃ F', Rel K mg F0 H0 F' H σ (Γ.set i (some (.val (.dk ks ds)))) ∧ Same F F' := by
  obtain ⟨v, hv, l, vs, e1, e2, e6, e3, e4, e5⟩ := r.slot i _ ei
  subst e1
  have hi : i < Γ.length := (List.getElem?_eq_some_iff.mp ei).1
  have ss : Same F (upd F l (.dK (ks.zip vs))) := fun a u e => by rw [upd_ne (fun q => by rw [q, e3] at e; cases e)]; exact e
  refine ⟨upd F l (.dK (ks.zip vs)), ⟨⟨r.ext.ff.trans ss, fun a u e => ?_, r.ext.hh, fun a u e => ?_⟩, by rw [List.length_set]; exact r.len, fun j t e => ?_, fun j k t t' u w m ej ek hj hk os ot => ?_, r.slf.setE ei (.inl rfl)⟩, ss⟩
  · by_cases q : a = l
    · subst q
      rw [upd_same] at e
      cases e
      exact .inl e2
    · rw [upd_ne q] at e
      exact r.ext.fh a u e
  · by_cases q : a = l
    · subst q
      exact .inr e4
    · rw [upd_ne q] at e
      exact r.ext.new a u e
  · by_cases q : i = j
    · subst q
      rw [List.getElem?_set_self hi] at e
      cases e
      refine ⟨.ref l, hv, ?_⟩
      show Rp K mg _ (.dk ks ds) _
      unfold Rp
      exact ⟨l, vs, rfl, upd_same, e6, RpL.mono ss _ _ e5⟩
    · rw [List.getElem?_set_ne q] at e
      obtain ⟨v, h1, h2⟩ := r.slot j t e
      refine ⟨v, h1, h2.gen ss (fun m z => ?_) (fun m ob _ e => e) (fun m z => (foot_at h2 z).choose_spec.2.2)⟩
      have nl : m ≠ l := fun y => q (r.inj i j _ t (.ref l) v m ei e hv h1 (by rw [y]; rfl) z)
      rw [upd_ne nl]
      exact (foot_at h2 z).choose_spec.2.1
  · have nj : i ≠ j := fun q => by
      subst q
      rw [List.getElem?_set_self hi] at ej
      cases ej
      cases os
    have nk : i ≠ k := fun q => by
      subst q
      rw [List.getElem?_set_self hi] at ek
      cases ek
      cases ot
    rw [List.getElem?_set_ne nj] at ej
    rw [List.getElem?_set_ne nk] at ek
    exact r.inj j k t t' u w m ej ek hj hk os ot
theorem Rel.freezeHD (r : Rel K mg F0 H0 F H σ Γ) {i : Nat} {n : Nat} {ks : List Key} {ds : List D} (ei : Γ[i]? = some (some (.hdc n ks ds))) : ∃ F', Rel K mg F0 H0 F' H σ (Γ.set i (some (.val (.dk ks ds)))) ∧ Same F F' := by
  obtain ⟨v, hv, l, vs, e1, e2, e6, e3, e4, e5⟩ := r.slot i _ ei
  subst e1
  have hi : i < Γ.length := (List.getElem?_eq_some_iff.mp ei).1
  have ss : Same F (upd F l (.dK (ks.zip vs))) := fun a u e => by rw [upd_ne (fun q => by rw [q, e3] at e; cases e)]; exact e
  refine ⟨upd F l (.dK (ks.zip vs)), ⟨⟨r.ext.ff.trans ss, fun a u e => ?_, r.ext.hh, fun a u e => ?_⟩, by rw [List.length_set]; exact r.len, fun j t e => ?_, fun j k t t' u w m ej ek hj hk os ot => ?_, r.slf.setE ei (.inl rfl)⟩, ss⟩
  · by_cases q : a = l
    · subst q
      rw [upd_same] at e
      cases e
      exact .inl e2
    · rw [upd_ne q] at e
      exact r.ext.fh a u e
  · by_cases q : a = l
    · subst q
      exact .inr e4
    · rw [upd_ne q] at e
      exact r.ext.new a u e
  · by_cases q : i = j
    · subst q
      rw [List.getElem?_set_self hi] at e
      cases e
      refine ⟨.ref l, hv, ?_⟩
      show Rp K mg _ (.dk ks ds) _
      unfold Rp
      exact ⟨l, vs, rfl, upd_same, e6, RpL.mono ss _ _ e5⟩
    · rw [List.getElem?_set_ne q] at e
      obtain ⟨v, h1, h2⟩ := r.slot j t e
      refine ⟨v, h1, h2.gen ss (fun m z => ?_) (fun m ob _ e => e) (fun m z => (foot_at h2 z).choose_spec.2.2)⟩
      have nl : m ≠ l := fun y => q (r.inj i j _ t (.ref l) v m ei e hv h1 (by rw [y]; rfl) z)
      rw [upd_ne nl]
      exact (foot_at h2 z).choose_spec.2.1
  · have nj : i ≠ j := fun q => by
      subst q
      rw [List.getElem?_set_self hi] at ej
      cases ej
      cases os
    have nk : i ≠ k := fun q => by
      subst q
      rw [List.getElem?_set_self hi] at ek
      cases ek
      cases ot
    rw [List.getElem?_set_ne nj] at ej
    rw [List.getElem?_set_ne nk] at ek
    exact r.inj j k t t' u w m ej ek hj hk os ot
variable {rep : Hp → Hp → Hp → α → β → Prop} {E : XK} {Q Q' : β → Hp → Prop}
theorem PostG.imp {r : R α} (h : PostG K mg rep F H E Q r) (hQ : ∀ b H', Q b H' → Q' b H') : PostG K mg rep F H E Q' r := by
  cases r with
  | ok a => exact fun b F' H' x p => hQ b H' (h b F' H' x p)
  | exc x => exact h
  | stuck => exact h
theorem PostG.bind {α' β' : Type} {rep' : Hp → Hp → Hp → α' → β' → Prop} {Q' : β' → Hp → Prop} {r : R α} {k : α → R α'} (h : PostG K mg rep' F H E Q' (r.bind k))
    (hk : ∀ a b F' H', r = .ok a → Ext F H F' H' → rep H F' H' a b → PostG K mg rep' F' H' E Q' (k a) → Q b H')
    (up : ∀ {F' H'} (x : Ext F H F' H') a' b' F2 H2, rep' H' F2 H2 a' b' → rep' H F2 H2 a' b') : PostG K mg rep F H E Q r := by
  cases r with
  | ok a =>
    intro b F' H' x p
    refine hk a b F' H' rfl x p ?_
    have h' : PostG K mg rep' F H E Q' (k a) := h
    revert h'
    cases k a with
    | ok a' => exact fun h' b' F2 H2 y q => h' b' F2 H2 (x.trans y) (up x a' b' F2 H2 q)
    | exc z => exact fun h' cls od F2 H2 y q => h' cls od F2 H2 (x.trans y) q
    | stuck => exact fun h' => h'
  | exc x => exact h
  | stuck => exact h
end
end DL
namespace DL
open PySem PySem.Spec L2
def LIM : Nat := 16777216
theorem LIM_eq : sizeLine = LIM := sizeLine_eq
def tD (X : Cx) (W : WX) (f : Env → R D) : TE := fun σ H Q => ∃ F0 H0 F Γ, Rel X.K X.mg F0 H0 F H σ Γ ∧ PostG X.K X.mg (repV X.K X.mg) F H (WE W σ) Q (f Γ)
def tDO (X : Cx) (W : WX) (f : Env → R (List D)) : TE := fun σ H Q => ∃ F0 H0 F Γ, Rel X.K X.mg F0 H0 F H σ Γ ∧ PostG X.K X.mg (repO X.K X.mg) F H (WE W σ) Q (f Γ)
def tDD (X : Cx) (W : WX) (f : Env → R (List Key × List D)) : TE := fun σ H Q => ∃ F0 H0 F Γ, Rel X.K X.mg F0 H0 F H σ Γ ∧ PostG X.K X.mg (repD X.K X.mg) F H (WE W σ) Q (f Γ)
def tDT (X : Cx) (W : WX) (f : Env → R Bool) : TT := fun σ H Q => ∃ F0 H0 F Γ, Rel X.K X.mg F0 H0 F H σ Γ ∧ PostG X.K X.mg repB F H (WE W σ) Q (f Γ)
def tDA (X : Cx) (W : WX) (f : Env → R (List D)) : TA := fun σ H Q => ∃ F0 H0 F Γ, Rel X.K X.mg F0 H0 F H σ Γ ∧ PostG X.K X.mg (repL X.K X.mg) F H (WE W σ) Q (f Γ)
abbrev DE (X : Cx) (W : WX) (e : Expr) (f : Env → R D) : Prop := PE X e (tD X W f)
abbrev DO (X : Cx) (W : WX) (e : Expr) (f : Env → R (List D)) : Prop := PE X e (tDO X W f)
abbrev DDt (X : Cx) (W : WX) (e : Expr) (f : Env → R (List Key × List D)) : Prop := PE X e (tDD X W f)
abbrev DT (X : Cx) (W : WX) (e : Expr) (f : Env → R Bool) : Prop := PT X e (tDT X W f)
abbrev DW (X : Cx) (W : WX) (e : Expr) (f : Env → R Bool) : Prop := PW X e (tDT X W f)
abbrev DA (X : Cx) (W : WX) (es : List Expr) (f : Env → R (List D)) : Prop := PA X es (tDA X W f)
section
variable {X : Cx} {e : Expr} {es : List Expr}
theorem PE.weak {t t' : TE} (h : PE X e t) (w : ∀ σ H Q, t' σ H Q → t σ H Q) : PE X e t' := ⟨fun pins s σ H Q I q => h.run pins s σ H Q I (w σ H Q q)⟩
theorem PT.weak {t t' : TT} (h : PT X e t) (w : ∀ σ H Q, t' σ H Q → t σ H Q) : PT X e t' := ⟨fun pins s σ H Q I q => h.run pins s σ H Q I (w σ H Q q)⟩
theorem PW.weak {t t' : TT} (h : PW X e t) (w : ∀ σ H Q, t' σ H Q → t σ H Q) : PW X e t' := ⟨fun wh pins s σ H Q I q => h.run wh pins s σ H Q I (w σ H Q q)⟩
theorem PA.weak {t t' : TA} (h : PA X es t) (w : ∀ σ H Q, t' σ H Q → t σ H Q) : PA X es t' := ⟨fun pos pins s σ H Q I q => h.run pos pins s σ H Q I (w σ H Q q)⟩
end
def D.sh : Nat → D → Bool
  | _, .non => true | _, .bl _ => true | _, .int _ => true | _, .str x => PyData.canLay0 (.str x)
  | n + 1, .lst xs => xs.all (D.sh n)
  | n + 1, .tup xs => xs.all (D.sh n)
  | _ + 1, .scr _ => true
  | _, _ => false
mutual
def D.pd : D → PyData
  | .bl b => .bool b
  | .int i => .int i
  | .str x => .str x
  | .lst xs => .list (D.pdL xs)
  | .tup xs => .tuple (D.pdL xs)
  | .scr ns => .list (ns.map PyData.int)
  | _ => .none
def D.pdL : List D → List PyData
  | [] => []
  | d :: ds => D.pd d :: D.pdL ds
end
def dEqB (x y : D) : Bool := PyData.eqv x.pd y.pd
def dEqV (x y : D) : R Bool := match x, y with
  | .int i, .int j => .ok (decide (i = j))
  | .str i, .str j => .ok (decide (i = j))
  | x, y => if x.sh 60 && y.sh 60 then .ok (dEqB x y) else .stuck
def dEq (x y : D) : R D := (dEqV x y).bind fun b => .ok (.bl b)
def dNe (x y : D) : R D := (dEqV x y).bind fun b => .ok (.bl (!b))
def smallI (i : Int) : Bool := decide (-18446744073709551616 < i) && decide (i < 18446744073709551616)
def dMul : D → D → R D
  | .int i, .int j => if smallI j || (smallI i || decide (i.natAbs.log2 + j.natAbs.log2 < 1000000)) then .ok (.int (i * j)) else .stuck
  | _, _ => .stuck
def dAdd : D → D → R D
  | .int i, .int j => .ok (.int (i + j))
  | .str x, .str y => if x.length + y.length ≤ LIM then .ok (.str (x ++ y)) else .stuck
  | .tup (x :: xs), .tup ys => if (x :: xs).length + ys.length ≤ LIM then .ok (.tup ((x :: xs) ++ ys)) else .stuck
  | .lst xs, .lst ys => if xs.length + ys.length ≤ LIM then .ok (.lst (xs ++ ys)) else .stuck
  | _, _ => .stuck
def oAdd : D → D → R (List D)
  | .lst xs, .lst ys => if xs.length + ys.length ≤ LIM then .ok (xs ++ ys) else .stuck
  | _, _ => .stuck
def dSub : D → D → R D
  | .int i, .int j => .ok (.int (i - j))
  | _, _ => .stuck
def dDiv : D → D → R D
  | .int i, .int j => if decide (0 < j) && decide (j.natAbs.log2 < 9000) then .ok (.int (i / j)) else .stuck
  | _, _ => .stuck
def dMod : D → D → R D
  | .int i, .int j => if 0 < j then .ok (.int (i % j)) else .stuck
  | _, _ => .stuck
def dPow : D → D → R D
  | .int i, .int j => if decide (0 ≤ j) && decide (j ≤ 1000000) && smallI i then .ok (.int (i ^ j.toNat)) else .stuck
  | _, _ => .stuck
def dLt : D → D → R D
  | .int i, .int j => .ok (.bl (decide (i < j)))
  | _, _ => .stuck
def dLe : D → D → R D
  | .int i, .int j => .ok (.bl (decide (i ≤ j)))
  | _, _ => .stuck
def dGt : D → D → R D
  | .int i, .int j => .ok (.bl (decide (j < i)))
  | _, _ => .stuck
def dGe : D → D → R D
  | .int i, .int j => .ok (.bl (decide (j ≤ i)))
  | _, _ => .stuck
def D.isNon : D → Bool
  | .non => true
  | _ => false
def dIs : D → D → R D
  | x, .non => .ok (.bl x.isNon)
  | _, _ => .stuck
def dIsNot : D → D → R D
  | x, .non => .ok (.bl (!x.isNon))
  | _, _ => .stuck
def dIx : D → D → R D
  | .lst xs, .int i => match atI xs i with | some d => .ok d | none => .stuck
  | .tup xs, .int i => match atI xs i with | some d => .ok d | none => .stuck
  | .scr ns, .int i => match atI ns i with | some d => .ok (.int d) | none => .stuck
  | .str z, .int i => if z.length ≤ LIM then (match atI z.cps.toList i with | some c => .ok (.str ⟨#[c]⟩) | none => .stuck) else .stuck
  | _, _ => .stuck
def un1 (g : D → R D) : List D → R D
  | [x] => g x
  | _ => .stuck
def un2 (g : D → D → R D) : List D → R D
  | [x, y] => g x y
  | _ => .stuck
def dLen1 : D → R D
  | .lst xs => .ok (.int xs.length)
  | .tup xs => .ok (.int xs.length)
  | .scr xs => .ok (.int xs.length)
  | .str x => if x.length ≤ LIM then .ok (.int x.length) else .stuck
  | _ => .stuck
abbrev dLen := un1 dLen1
def dMinB : D → D → R D
  | .int i, .int j => .ok (.int (if j < i then j else i))
  | _, _ => .stuck
abbrev dMin2 := un2 dMinB
def dMaxB : D → D → R D
  | .int i, .int j => .ok (.int (if j > i then j else i))
  | _, _ => .stuck
abbrev dMax2 := un2 dMaxB
def dAbs1 : D → R D
  | .int i => .ok (.int (if i < 0 then -i else i))
  | _ => .stuck
abbrev dAbs := un1 dAbs1
def dNeg : D → R D
  | .int i => .ok (.int (-i))
  | _ => .stuck
def D.tyOf : D → Option String
  | .non => some "NoneType" | .bl _ => some "bool" | .int _ => some "int" | .str _ => some "str"
  | .lst _ => some "list" | .scr _ => some "list" | .tup _ => some "tuple" | .dk _ _ => some "dict"
  | _ => none
def dIsiB : D → D → R D
  | x, .ty n => match x.tyOf with
    | some t => (match kitB t n with | some b => .ok (.bl b) | none => .stuck)
    | none => .stuck
  | _, _ => .stuck
abbrev dIsi := un2 dIsiB
def asB : D → R Bool
  | .bl b => .ok b
  | _ => .stuck
def dTru : D → R Bool
  | .bl b => .ok b
  | .non => .ok false
  | .int i => .ok (i != 0)
  | .str x => if x.length ≤ LIM then .ok ((x.length : Int) != 0) else .stuck
  | .lst xs => .ok (!xs.isEmpty)
  | .tup xs => .ok (!xs.isEmpty)
  | .scr xs => .ok (!xs.isEmpty)
  | _ => .stuck
def Env.at_ (Γ : Env) (i : Nat) : Option Slot := match Γ[i]? with
  | some s => s
  | none => none
def eV (i : Nat) : Env → R D := fun Γ => match Env.at_ Γ i with
  | some (.val d) => .ok d
  | _ => .stuck
def eC (d : D) : Env → R D := fun _ => .ok d
def eOp (g : D → D → R D) (fa fb : Env → R D) : Env → R D := fun Γ => (fa Γ).bind fun x => (fb Γ).bind fun y => g x y
def eUn (g : D → R D) (fa : Env → R D) : Env → R D := fun Γ => (fa Γ).bind g
def eChain (g g' : D → D → R D) (fa fb fc : Env → R D) : Env → R D := fun Γ => (fa Γ).bind fun x => (fb Γ).bind fun y => (g x y).bind fun z => (asB z).bind fun k =>
  match k with
  | true => (fc Γ).bind fun w => g' y w
  | false => .ok (.bl false)
def eAnd (fa fb : Env → R D) : Env → R D := fun Γ => (fa Γ).bind fun x => (asB x).bind fun k => match k with
  | true => fb Γ
  | false => .ok (.bl false)
def eOr (fa fb : Env → R D) : Env → R D := fun Γ => (fa Γ).bind fun x => (asB x).bind fun k => match k with
  | true => .ok (.bl true)
  | false => fb Γ
def eNot (fa : Env → R D) : Env → R D := fun Γ => (fa Γ).bind fun x => (asB x).bind fun k => .ok (.bl (!k))
def eIf (ft : Env → R Bool) (fa fb : Env → R D) : Env → R D := fun Γ => (ft Γ).bind fun k => match k with
  | true => fa Γ
  | false => fb Γ
def eB (fa : Env → R D) : Env → R Bool := fun Γ => (fa Γ).bind asB
def eTru (fa : Env → R D) : Env → R Bool := fun Γ => (fa Γ).bind dTru
def bNot (f : Env → R Bool) : Env → R Bool := fun Γ => (f Γ).bind fun k => .ok (!k)
def bAnd (f g : Env → R Bool) : Env → R Bool := fun Γ => (f Γ).bind fun k => match k with
  | true => g Γ
  | false => .ok false
def bOr (f g : Env → R Bool) : Env → R Bool := fun Γ => (f Γ).bind fun k => match k with
  | true => .ok true
  | false => g Γ
def aNil : Env → R (List D) := fun _ => .ok []
def aCons (f : Env → R D) (g : Env → R (List D)) : Env → R (List D) := fun Γ => (f Γ).bind fun d => (g Γ).bind fun ds => .ok (d :: ds)
def eCall (g : List D → R D) (f : Env → R (List D)) : Env → R D := fun Γ => (f Γ).bind g
def eTup (f : Env → R (List D)) : Env → R D := fun Γ => (f Γ).bind fun ds => if ds.length ≤ LIM then .ok (.tup ds) else .stuck
def oLst (f : Env → R (List D)) : Env → R (List D) := fun Γ => (f Γ).bind fun ds => if ds.length ≤ LIM then .ok ds else .stuck
def eFrz (f : Env → R (List D)) : Env → R D := fun Γ => (f Γ).bind fun ds => .ok (.lst ds)
def eFrzD (f : Env → R (List Key × List D)) : Env → R D := fun Γ => (f Γ).bind fun ds => .ok (.dk ds.1 ds.2)
def oOp (g : D → D → R (List D)) (fa fb : Env → R D) : Env → R (List D) := fun Γ => (fa Γ).bind fun x => (fb Γ).bind fun y => g x y
def oCall (g : List D → R (List D)) (f : Env → R (List D)) : Env → R (List D) := fun Γ => (f Γ).bind g
def D.scal : D → Bool
  | .non => true | .bl _ => true | .int _ => true | .str _ => true
  | _ => false
def Fl.frz : Fl → D
  | .val d => d
  | .own ds => .lst ds
  | .dic ks ds => .dk ks ds
def Slot.frz : Slot → Slot
  | .own ds => .val (.lst ds)
  | .dic ks ds => .val (.dk ks ds)
  | .oob _ c ns fs => .val (.obj c ns (fs.map Fl.frz))
  | .hnd _ ds => .val (.lst ds)
  | .hdc _ ks ds => .val (.dk ks ds)
  | .abs b a => .abs b a
  | .val d => .val d
def Env.frz (Γ : Env) (i : Nat) : Env := match Env.at_ Γ i with
  | some s => Γ.set i (some s.frz)
  | none => Γ
def eBor (i : Nat) (f : Env → R D) : Env → R D := fun Γ => match f (Env.frz Γ i) with
  | .ok d => if d.scal then .ok d else .stuck
  | _ => .stuck
def bBor (i : Nat) (f : Env → R Bool) : Env → R Bool := fun Γ => match f (Env.frz Γ i) with
  | .ok d => .ok d
  | _ => .stuck
def eOwnIx (i : Nat) (f : Env → R D) : Env → R D := fun Γ => match Env.at_ Γ i with
  | some (.own ds) => (f Γ).bind fun k => dIx (.lst ds) k
  | some (.hnd _ ds) => (f Γ).bind fun k => dIx (.lst ds) k
  | some (.val d) => (f Γ).bind fun k => dIx d k
  | _ => .stuck
section
variable {K : PySem.W.Frag} {mg : Str → Option Value} {F0 : Fe} {H0 F H F' H' : Hp} {σ : L2.St} {Γ : Env} {α β : Type} {E : XK} {Q : β → Hp → Prop}
theorem PostG.ok {rep : Hp → Hp → Hp → α → β → Prop} {a : α} {b : β} (h : PostG K mg rep F H E Q (.ok a)) (z : Fz F H) (r : rep H F H a b) : Q b H := h b F H (Ext.refl z) r
theorem PostG.at {rep : Hp → Hp → Hp → α → β → Prop} {a : α} {b : β} (h : PostG K mg rep F H E Q (.ok a)) (x : Ext F H F' H') (r : rep H F' H' a b) : Q b H' := h b F' H' x r
theorem at_get {s : Slot} {i : Nat} (h : Env.at_ Γ i = some s) : Γ[i]? = some (some s) := by
  unfold Env.at_ at h
  split at h
  · rename_i t e
    rw [e, h]
  · cases h
theorem Rel.val (r : Rel K mg F0 H0 F H σ Γ) {i : Nat} {d : D} (h : Env.at_ Γ i = some (.val d)) : ∃ v, σ[i]? = some (some v) ∧ Rp K mg F d v := r.slot i _ (at_get h)
end
section
variable {X : Cx} {W : WX} {a b c : Expr} {es : List Expr} {fa fb fc : Env → R D} {ft fu : Env → R Bool} {fs : Env → R (List D)} {pos p : Pos}
theorem de_var (i : Nat) {x : Str} (hN : X.N[i]? = some x := by rfl) (hv : Vis X.env.scope x := by first | exact Or.inl (by kernel_rfl) | exact Or.inr (Or.inl (by kernel_rfl)) | exact Or.inr (Or.inr (by kernel_rfl))) (hd : (x == ("__debug__" : Str)) = false := by kernel_rfl)
    (hcd : (x == ("__classdict__" : Str)) = false := by kernel_rfl) : DE X W (.Name x pos) (eV i) := by
  refine PE.weak (pe_var hN hv hd hcd) ?_
  rintro σ H Q ⟨F0, H0, F, Γ, r, p⟩
  revert p
  unfold eV
  cases e : Env.at_ Γ i with
  | none => exact fun p => p.elim
  | some s =>
    cases s with
    | hdc _ _ _ => exact fun p => p.elim
    | abs _ _ => exact fun p => p.elim
    | oob b c ns fs => exact fun p => p.elim
    | hnd _ _ => exact fun p => p.elim
    | val d =>
      intro p
      obtain ⟨v, h1, h2⟩ := r.val e
      exact ⟨v, h1, PostG.ok p r.fz h2⟩
    | own ds => exact fun p => p.elim
    | dic ks ds => exact fun p => p.elim
theorem de_int {i j} : DE X W (.Constant (.int i) j pos) (eC (.int i)) := by
  refine PE.weak pe_int ?_
  rintro σ H Q ⟨F0, H0, F, Γ, r, p⟩
  exact PostG.ok p r.fz (by show Rp _ _ _ _ _; unfold Rp; rfl)
theorem de_bl {i j} : DE X W (.Constant (.bool i) j pos) (eC (.bl i)) := by
  refine PE.weak pe_bl ?_
  rintro σ H Q ⟨F0, H0, F, Γ, r, p⟩
  exact PostG.ok p r.fz (by show Rp _ _ _ _ _; unfold Rp; rfl)
theorem de_non {j} : DE X W (.Constant .none j pos) (eC .non) := by
  refine PE.weak pe_non ?_
  rintro σ H Q ⟨F0, H0, F, Γ, r, p⟩
  exact PostG.ok p r.fz (by show Rp _ _ _ _ _; unfold Rp; rfl)
theorem de_str {i j} : DE X W (.Constant (.str i) j pos) (eC (.str i)) := by
  refine PE.weak pe_str ?_
  rintro σ H Q ⟨F0, H0, F, Γ, r, p⟩
  exact PostG.ok p r.fz (by show Rp _ _ _ _ _; unfold Rp; rfl)
theorem de_ty {x : Str} {n : String} (hg : Gl X x) (hm : X.mg x = none) (hv : bootBuiltins x = some (.type n)) (hn : x ≠ "__name__" := by decide +kernel) (hd : (x == ("__debug__" : Str)) = false := by kernel_rfl) : DE X W (.Name x pos) (eC (.ty n)) := by
  refine PE.weak (pe_bltn (v := .ty n) hg hm hv rfl hn hd) ?_
  rintro σ H Q ⟨F0, H0, F, Γ, r, p⟩
  exact PostG.ok p r.fz (by show Rp _ _ _ _ _; unfold Rp; rfl)
def Sat2 (X : Cx) (r : R2) (g : D → D → R D) : Prop := ∀ (F H : Hp) (x y : D) (v u : V) (E : XK) (Q : VK), Fz F H → Rp X.K X.mg F x v → Rp X.K X.mg F y u → PostG X.K X.mg (repV X.K X.mg) F H E Q (g x y) → r v u H Q
def Sat2O (X : Cx) (r : R2) (g : D → D → R (List D)) : Prop := ∀ (F H : Hp) (x y : D) (v u : V) (E : XK) (Q : VK), Fz F H → Rp X.K X.mg F x v → Rp X.K X.mg F y u → PostG X.K X.mg (repO X.K X.mg) F H E Q (g x y) → r v u H Q
def Sat1 (X : Cx) (r : V → Hp → VK → Prop) (g : D → R D) : Prop := ∀ (F H : Hp) (x : D) (v : V) (E : XK) (Q : VK), Fz F H → Rp X.K X.mg F x v → PostG X.K X.mg (repV X.K X.mg) F H E Q (g x) → r v H Q
def SatL (X : Cx) (r : List V → Hp → VK → Prop) (g : List D → R D) : Prop := ∀ (F H : Hp) (ds : List D) (vs : List V) (E : XK) (Q : VK), Fz F H → RpL X.K X.mg F ds vs → PostG X.K X.mg (repV X.K X.mg) F H E Q (g ds) → r vs H Q
def SatLO (X : Cx) (r : List V → Hp → VK → Prop) (g : List D → R (List D)) : Prop := ∀ (F H : Hp) (ds : List D) (vs : List V) (E : XK) (Q : VK), Fz F H → RpL X.K X.mg F ds vs → PostG X.K X.mg (repO X.K X.mg) F H E Q (g ds) → r vs H Q
theorem bind2 {F H : Hp} {σ : L2.St} {Γ : Env} {F0 : Fe} {H0 : Hp} {α β : Type} {rep : Hp → Hp → Hp → α → β → Prop} {Q : β → Hp → Prop} {g : D → D → R α} {Q2 : V → V → Hp → Prop}
    (up : ∀ {F H F' H'} (x : Ext F H F' H') a' b' F2 H2, rep H' F2 H2 a' b' → rep H F2 H2 a' b') (r : Rel X.K X.mg F0 H0 F H σ Γ) (p : PostG X.K X.mg rep F H (WE W σ) Q ((fa Γ).bind fun x => (fb Γ).bind fun y => g x y))
    (k : ∀ x y v u F2 H2, Ext F H F2 H2 → Rp X.K X.mg F2 x v → Rp X.K X.mg F2 y u → PostG X.K X.mg rep F2 H2 (WE W σ) Q (g x y) → Q2 v u H2) :
    tD X W fa σ H (fun v H1 => tD X W fb σ H1 fun u H2 => Q2 v u H2) := by
  refine ⟨F0, H0, F, Γ, r, PostG.bind p (fun x v F1 H1 _ x1 r1 p1 => ?_) fun x => up x⟩
  refine ⟨F0, H0, F1, Γ, r.step x1, PostG.bind p1 (fun y u F2 H2 _ x2 r2 p2 => ?_) fun x => up x⟩
  exact k x y v u F2 H2 (x1.trans x2) (Rp.mono x2.ff _ _ r1) r2 p2
theorem de_op {op : Operator} {r : R2} {g : D → D → R D} (ho : OpR X (binaryOp op) r) (hs : Sat2 X r g) (ha : DE X W a fa) (hb : DE X W b fb) : DE X W (.BinOp a op b pos) (eOp g fa fb) := by
  refine PE.weak (pe_op ho ha hb) ?_
  rintro σ H Q ⟨F0, H0, F, Γ, rl, p⟩
  exact bind2 (fun _ _ _ _ _ h => h) rl p fun x y v u F2 H2 x2 r1 r2 p2 => hs F2 H2 x y v u _ _ x2.fh r1 r2 p2
theorem upO {K : PySem.W.Frag} {mg : Str → Option Value} {F H F' H' : Hp} (x : Ext F H F' H') (a' : List D) (b' : V) (F2 H2 : Hp) (h : repO K mg H' F2 H2 a' b') : repO K mg H F2 H2 a' b' := by
  obtain ⟨l, vs, e, eh, ef, e0, r⟩ := h
  exact ⟨l, vs, e, eh, ef, x.hh.free e0, r⟩
theorem do_op {op : Operator} {r : R2} {g : D → D → R (List D)} (ho : OpR X (binaryOp op) r) (hs : Sat2O X r g) (ha : DE X W a fa) (hb : DE X W b fb) : DO X W (.BinOp a op b pos) (oOp g fa fb) := by
  refine PE.weak (pe_op ho ha hb) ?_
  rintro σ H Q ⟨F0, H0, F, Γ, rl, p⟩
  exact bind2 upO rl p fun x y v u F2 H2 x2 r1 r2 p2 => hs F2 H2 x y v u _ _ x2.fh r1 r2 p2
theorem de_un {op : UnaryOp} {r : V → Hp → VK → Prop} {g : D → R D} (ho : UnR X (unaryOp op) r) (hs : Sat1 X r g) (ha : DE X W a fa) : DE X W (.UnaryOp op a pos) (eUn g fa) := by
  refine PE.weak (pe_un ho ha) ?_
  rintro σ H Q ⟨F0, H0, F, Γ, rl, p⟩
  exact ⟨F0, H0, F, Γ, rl, PostG.bind p (fun x v F1 H1 _ x1 r1 p1 => hs F1 H1 x v _ _ x1.fh r1 p1) fun _ _ _ _ _ h => h⟩
theorem de_cmp {op : CmpOp} {r : R2} {g : D → D → R D} (ho : OpR X (compareOp op) r) (hs : Sat2 X r g) (ha : DE X W a fa) (hb : DE X W b fb) (hm : behindInMarks op b = false) : DE X W (.Compare a [op] [b] pos) (eOp g fa fb) := by
  refine PE.weak (pe_cmpR ho ha hb hm) ?_
  rintro σ H Q ⟨F0, H0, F, Γ, rl, p⟩
  exact bind2 (fun _ _ _ _ _ h => h) rl p fun x y v u F2 H2 x2 r1 r2 p2 => hs F2 H2 x y v u _ _ x2.fh r1 r2 p2
theorem postB {K : PySem.W.Frag} {mg : Str → Option Value} {F H : Hp} {E : XK} {Q : Bool → Hp → Prop} {r : R D} (h : PostG K mg repB F H E Q (r.bind asB)) : PostG K mg (repV K mg) F H E (fun x H' => ∃ k, x = .bl k ∧ Q k H') r := by
  refine PostG.bind h (fun d v F1 H1 _ x1 r1 p1 => ?_) fun _ _ _ _ _ h => h
  cases d with
  | bl k =>
    refine ⟨k, ?_, PostG.ok p1 x1.fh rfl⟩
    have z : Rp K mg F1 (.bl k) v := r1
    unfold Rp at z
    exact z
  | _ => exact p1.elim
theorem dt_cmp {op : CmpOp} {r : R2} {g : D → D → R D} (ho : OpR X (compareOp op) r) (hs : Sat2 X r g) (ha : DE X W a fa) (hb : DE X W b fb) (hm : behindInMarks op b = false) : DT X W (.Compare a [op] [b] pos) (eB (eOp g fa fb)) := by
  refine PT.weak (pt_cmpR ho ha hb hm) ?_
  rintro σ H Q ⟨F0, H0, F, Γ, rl, p⟩
  have p' := postB p
  exact bind2 (fun _ _ _ _ _ h => h) rl p' fun x y v u F2 H2 x2 r1 r2 p2 => hs F2 H2 x y v u _ _ x2.fh r1 r2 p2
theorem postTru {K : PySem.W.Frag} {mg : Str → Option Value} {F H : Hp} {E : XK} {Q : Bool → Hp → Prop} {r : R D} (h : PostG K mg repB F H E Q (r.bind dTru)) : PostG K mg (repV K mg) F H E (fun x H' => ∃ k, TruV K x H' k ∧ Q k H') r := by
  refine PostG.bind h (fun d v F1 H1 _ x1 r1 p1 => ?_) fun _ _ _ _ _ h => h
  have z : Rp K mg F1 d v := r1
  cases d with
  | bl k => unfold Rp at z; subst z; exact ⟨k, rfl, PostG.ok p1 x1.fh rfl⟩
  | non => unfold Rp at z; subst z; exact ⟨false, rfl, PostG.ok p1 x1.fh rfl⟩
  | int i => unfold Rp at z; subst z; exact ⟨_, rfl, PostG.ok p1 x1.fh rfl⟩
  | str x =>
    unfold Rp at z; subst z
    by_cases hl : x.length ≤ LIM
    · have p1' : PostG K mg repB F1 H1 E Q (if x.length ≤ LIM then R.ok ((x.length : Int) != 0) else R.stuck) := p1
      rw [if_pos hl] at p1'
      exact ⟨_, ⟨by rw [LIM_eq]; exact hl, rfl⟩, PostG.ok p1' x1.fh rfl⟩
    · have p1' : PostG K mg repB F1 H1 E Q (if x.length ≤ LIM then R.ok ((x.length : Int) != 0) else R.stuck) := p1
      rw [if_neg hl] at p1'
      exact p1'.elim
  | lst xs =>
    unfold Rp at z
    obtain ⟨l, vs, rfl, el, rv⟩ := z
    refine ⟨!vs.isEmpty, .inl ⟨vs, SqL.of (x1.fh.lst el), rfl⟩, ?_⟩
    have ee : (!vs.isEmpty) = !xs.isEmpty := by
      have hl := rv.length
      cases xs <;> cases vs <;> first | rfl | (simp at hl)
    rw [ee]
    exact PostG.ok p1 x1.fh rfl
  | tup xs =>
    unfold Rp at z
    obtain ⟨l, vs, rfl, el, rv⟩ := z
    refine ⟨!vs.isEmpty, .inr (.inl ⟨vs, SqT.of (x1.fh.tup el), rfl⟩), ?_⟩
    have ee : (!vs.isEmpty) = !xs.isEmpty := by
      have hl := rv.length
      cases xs <;> cases vs <;> first | rfl | (simp at hl)
    rw [ee]
    exact PostG.ok p1 x1.fh rfl
  | scr xs =>
    unfold Rp at z
    obtain ⟨l, rfl, el⟩ := z
    refine ⟨!(xs.map V.int).isEmpty, .inl ⟨_, x1.fh.seq el, rfl⟩, ?_⟩
    have ee : (!(xs.map V.int).isEmpty) = !xs.isEmpty := by cases xs <;> rfl
    rw [ee]
    exact PostG.ok p1 x1.fh rfl
  | _ => exact p1.elim
theorem dt_tru (h : DE X W a fa) (he : ∀ whole, isTrue a X.env whole = (do let v ← whole; standAt a.pos; holding [v] (truthy v)) := by intro _; rfl) : DT X W a (eTru fa) := by
  refine PT.weak (pt_truth h he) ?_
  rintro σ H Q ⟨F0, H0, F, Γ, rl, p⟩
  exact ⟨F0, H0, F, Γ, rl, postTru p⟩
theorem dt_not (h : DT X W a ft) : DT X W (.UnaryOp .Not a pos) (bNot ft) := by
  refine PT.weak (pt_not h) ?_
  rintro σ H Q ⟨F0, H0, F, Γ, rl, p⟩
  refine ⟨F0, H0, F, Γ, rl, PostG.bind p (fun k k' F1 H1 _ x1 r1 p1 => ?_) fun _ _ _ _ _ h => h⟩
  have e : k' = k := r1
  subst e
  exact PostG.ok p1 x1.fh rfl
theorem dw_and1 (h : DT X W a ft) : DW X W (.BoolOp .And [a] pos) ft := pw_and1 h
theorem dw_or1 (h : DT X W a ft) : DW X W (.BoolOp .Or [a] pos) ft := pw_or1 h
theorem dw_and {rest : List Expr} (h : DT X W a ft) (h' : DW X W (.BoolOp .And (b :: rest) pos) fu) : DW X W (.BoolOp .And (a :: b :: rest) pos) (bAnd ft fu) := by
  refine PW.weak (pw_and h h') ?_
  rintro σ H Q ⟨F0, H0, F, Γ, rl, p⟩
  refine ⟨F0, H0, F, Γ, rl, PostG.bind p (fun k k' F1 H1 _ x1 r1 p1 => ?_) fun _ _ _ _ _ h => h⟩
  have e : k' = k := r1
  subst e
  cases k' with
  | true => exact iteT ⟨F0, H0, F1, Γ, rl.step x1, p1⟩
  | false => exact iteF (PostG.ok p1 x1.fh rfl)
theorem dw_or {rest : List Expr} (h : DT X W a ft) (h' : DW X W (.BoolOp .Or (b :: rest) pos) fu) : DW X W (.BoolOp .Or (a :: b :: rest) pos) (bOr ft fu) := by
  refine PW.weak (pw_or h h') ?_
  rintro σ H Q ⟨F0, H0, F, Γ, rl, p⟩
  refine ⟨F0, H0, F, Γ, rl, PostG.bind p (fun k k' F1 H1 _ x1 r1 p1 => ?_) fun _ _ _ _ _ h => h⟩
  have e : k' = k := r1
  subst e
  cases k' with
  | true => exact iteT (PostG.ok p1 x1.fh rfl)
  | false => exact iteF ⟨F0, H0, F1, Γ, rl.step x1, p1⟩
theorem dt_w (h : DW X W a ft) : DT X W a ft := PW.pt h
theorem da_nil : DA X W [] aNil := by
  refine PA.weak pa_nil ?_
  rintro σ H Q ⟨F0, H0, F, Γ, rl, p⟩
  exact PostG.ok p rl.fz RpL.nil
theorem da_cons (h : DE X W a fa) (h' : DA X W es fs) (hs : starEach (a :: es) X.env = (false, eval a X.env) :: starEach es X.env := by rfl) : DA X W (a :: es) (aCons fa fs) := by
  refine PA.weak (pa_cons h h' hs) ?_
  rintro σ H Q ⟨F0, H0, F, Γ, rl, p⟩
  refine ⟨F0, H0, F, Γ, rl, PostG.bind p (fun d v F1 H1 _ x1 r1 p1 => ?_) fun _ _ _ _ _ h => h⟩
  refine ⟨F0, H0, F1, Γ, rl.step x1, PostG.bind p1 (fun ds vs F2 H2 _ x2 r2 p2 => ?_) fun _ _ _ _ _ h => h⟩
  exact PostG.ok p2 x2.fh (RpL.cons (Rp.mono x2.ff _ _ r1) r2)
theorem ifR {α : Type} {c : Prop} [Decidable c] {K : PySem.W.Frag} {mg : Str → Option Value} {β : Type} {rep : Hp → Hp → Hp → α → β → Prop} {F H : Hp} {E : XK} {Q : β → Hp → Prop} {r : R α}
    (h : PostG K mg rep F H E Q (if c then r else .stuck)) : c ∧ PostG K mg rep F H E Q r := by
  by_cases hc : c
  · rw [if_pos hc] at h
    exact ⟨hc, h⟩
  · rw [if_neg hc] at h
    exact h.elim
theorem de_tup {k} (h : DA X W es fs) : DE X W (.Tuple es k pos) (eTup fs) := by
  refine PE.weak (pe_tup h) ?_
  rintro σ H Q ⟨F0, H0, F, Γ, rl, p⟩
  refine ⟨F0, H0, F, Γ, rl, PostG.bind p (fun ds vs F1 H1 _ x1 r1 p1 => ?_) fun _ _ _ _ _ h => h⟩
  obtain ⟨hl, p2⟩ := ifR p1
  refine ⟨by rw [LIM_eq, ← RpL.length r1]; exact hl, fun q hq => PostG.at p2 (Ext.laid x1.fh hq) ?_⟩
  show Rp _ _ _ (.tup ds) _
  unfold Rp
  exact ⟨q, vs, rfl, upd_same, RpL.mono (Ext.laid (o := .tup vs) x1.fh hq).ff _ _ r1⟩
theorem do_lst (h : DA X W es fs) : DO X W (.List es pos) (oLst fs) := by
  refine PE.weak (pe_lst h) ?_
  rintro σ H Q ⟨F0, H0, F, Γ, rl, p⟩
  refine ⟨F0, H0, F, Γ, rl, PostG.bind p (fun ds vs F1 H1 _ x1 r1 p1 => ?_) upO⟩
  obtain ⟨hl, p2⟩ := ifR p1
  exact ⟨by rw [LIM_eq, ← RpL.length r1]; exact hl, fun q hq => PostG.at p2 (Ext.heap x1.fh hq) ⟨q, vs, rfl, upd_same, x1.fh.free hq, hq, r1⟩⟩
theorem frzO {K : PySem.W.Frag} {mg : Str → Option Value} {F H F' H' : Hp} {ds : List D} {v : V} (x : Ext F H F' H') (h : OwnL K mg H F' H' ds v) : ∃ F2, Ext F H F2 H' ∧ Rp K mg F2 (.lst ds) v ∧ Same F' F2 := by
  obtain ⟨l, vs, e, eh, ef, e0, r⟩ := h
  have ss : Same F' (upd F' l (.lst vs)) := fun a u q => by rw [upd_ne (fun z => by rw [z, ef] at q; cases q)]; exact q
  refine ⟨upd F' l (.lst vs), ⟨x.ff.trans ss, fun a u q => ?_, x.hh, fun a u q => ?_⟩, ?_, ss⟩
  · by_cases z : a = l
    · subst z
      rw [upd_same] at q
      cases q
      exact .inl eh
    · rw [upd_ne z] at q
      exact x.fh a u q
  · by_cases z : a = l
    · subst z
      exact .inr e0
    · rw [upd_ne z] at q
      exact x.new a u q
  · unfold Rp
    exact ⟨l, vs, e, upd_same, RpL.mono ss _ _ r⟩
theorem frzDD {K : PySem.W.Frag} {mg : Str → Option Value} {F H F' H' : Hp} {ks : List Key} {ds : List D} {v : V} (x : Ext F H F' H') (h : OwnD K mg H F' H' ks ds v) : ∃ F2, Ext F H F2 H' ∧ Rp K mg F2 (.dk ks ds) v ∧ Same F' F2 := by
  obtain ⟨l, vs, e, eh, el, ef, e0, r⟩ := h
  have ss : Same F' (upd F' l (.dK (ks.zip vs))) := fun a u q => by rw [upd_ne (fun z => by rw [z, ef] at q; cases q)]; exact q
  refine ⟨upd F' l (.dK (ks.zip vs)), ⟨x.ff.trans ss, fun a u q => ?_, x.hh, fun a u q => ?_⟩, ?_, ss⟩
  · by_cases z : a = l
    · subst z
      rw [upd_same] at q
      cases q
      exact .inl eh
    · rw [upd_ne z] at q
      exact x.fh a u q
  · by_cases z : a = l
    · subst z
      exact .inr e0
    · rw [upd_ne z] at q
      exact x.new a u q
  · unfold Rp
    exact ⟨l, vs, e, upd_same, el, RpL.mono ss _ _ r⟩
theorem de_frz (h : DO X W a fs) : DE X W a (eFrz fs) := by
  refine PE.weak h ?_
  rintro σ H Q ⟨F0, H0, F, Γ, rl, p⟩
  refine ⟨F0, H0, F, Γ, rl, ?_⟩
  revert p
  unfold eFrz
  cases fs Γ with
  | ok ds =>
    intro p v F1 H1 x1 r1
    obtain ⟨F2, x2, r2, _⟩ := frzO x1 r1
    exact PostG.at p x2 r2
  | exc x => exact fun p => p
  | stuck => exact fun p => p
theorem de_frzD {fd : Env → R (List Key × List D)} (h : DDt X W a fd) : DE X W a (eFrzD fd) := by
  refine PE.weak h ?_
  rintro σ H Q ⟨F0, H0, F, Γ, rl, p⟩
  refine ⟨F0, H0, F, Γ, rl, ?_⟩
  revert p
  unfold eFrzD
  cases fd Γ with
  | ok ds =>
    intro p v F1 H1 x1 r1
    obtain ⟨F2, x2, r2, _⟩ := frzDD x1 r1
    exact PostG.at p x2 r2
  | exc x => exact fun p => p
  | stuck => exact fun p => p
theorem de_ix {r : R2} {g : D → D → R D} (hr : IxR X r) (hs : Sat2 X r g) (ha : DE X W a fa) (hb : DE X W b fb) (hx : PlainIx b) : DE X W (.Subscript a b pos) (eOp g fa fb) := by
  refine PE.weak (pe_ix hr ha hb hx) ?_
  rintro σ H Q ⟨F0, H0, F, Γ, rl, p⟩
  exact bind2 (fun _ _ _ _ _ h => h) rl p fun x y v u F2 H2 x2 r1 r2 p2 => hs F2 H2 x y v u _ _ x2.fh r1 r2 p2
theorem de_callB {x : Str} {id : String} {r : List V → Hp → VK → Prop} {g : List D → R D} (hc : CallR X (.builtin id) r) (hs : SatL X r g) (hg : Gl X x) (hm : X.mg x = none) (hv : bootBuiltins x = some (.builtin id)) (ha : DA X W (a :: es) fs)
    (hn : x ≠ "__name__" := by decide +kernel) (hdb : (x == ("__debug__" : Str)) = false := by kernel_rfl)
    (he : starEach (a :: es) X.env = (false, eval a X.env) :: starEach es X.env := by rfl) (hpl : (backTo pos (starEach es X.env)).any (·.1) = false := by rfl) : DE X W (.Call (.Name x p) (a :: es) [] pos) (eCall g fs) := by
  refine PE.weak (pe_callB hc hg hm hv ha hn hdb he hpl) ?_
  rintro σ H Q ⟨F0, H0, F, Γ, rl, p⟩
  exact ⟨F0, H0, F, Γ, rl, PostG.bind p (fun ds vs F1 H1 _ x1 r1 p1 => hs F1 H1 ds vs _ _ x1.fh r1 p1) fun _ _ _ _ _ h => h⟩
theorem de_callTy {x : Str} {T : String} {r : List V → Hp → VK → Prop} {g : List D → R D} (hc : CallR X (.type T) r) (hs : SatL X r g) (hg : Gl X x) (hm : X.mg x = none) (hv : bootBuiltins x = some (.type T)) (ha : DA X W (a :: es) fs)
    (hn : x ≠ "__name__" := by decide +kernel) (hdb : (x == ("__debug__" : Str)) = false := by kernel_rfl)
    (he : starEach (a :: es) X.env = (false, eval a X.env) :: starEach es X.env := by rfl) (hpl : (backTo pos (starEach es X.env)).any (·.1) = false := by rfl) : DE X W (.Call (.Name x p) (a :: es) [] pos) (eCall g fs) := by
  refine PE.weak (pe_callTy hc hg hm hv ha hn hdb he hpl) ?_
  rintro σ H Q ⟨F0, H0, F, Γ, rl, p⟩
  exact ⟨F0, H0, F, Γ, rl, PostG.bind p (fun ds vs F1 H1 _ x1 r1 p1 => hs F1 H1 ds vs _ _ x1.fh r1 p1) fun _ _ _ _ _ h => h⟩
theorem do_callTy {x : Str} {T : String} {r : List V → Hp → VK → Prop} {g : List D → R (List D)} (hc : CallR X (.type T) r) (hs : SatLO X r g) (hg : Gl X x) (hm : X.mg x = none) (hv : bootBuiltins x = some (.type T)) (ha : DA X W (a :: es) fs)
    (hn : x ≠ "__name__" := by decide +kernel) (hdb : (x == ("__debug__" : Str)) = false := by kernel_rfl)
    (he : starEach (a :: es) X.env = (false, eval a X.env) :: starEach es X.env := by rfl) (hpl : (backTo pos (starEach es X.env)).any (·.1) = false := by rfl) : DO X W (.Call (.Name x p) (a :: es) [] pos) (oCall g fs) := by
  refine PE.weak (pe_callTy hc hg hm hv ha hn hdb he hpl) ?_
  rintro σ H Q ⟨F0, H0, F, Γ, rl, p⟩
  exact ⟨F0, H0, F, Γ, rl, PostG.bind p (fun ds vs F1 H1 _ x1 r1 p1 => hs F1 H1 ds vs _ _ x1.fh r1 p1) upO⟩
end
end DL
namespace DL
open PySem PySem.Spec L2
section
variable {K : PySem.W.Frag} {mg : Str → Option Value} {F H : Hp} {v : V}
theorem Rp.int_iff {i : Int} (h : Rp K mg F (.int i) v) : v = .int i := by unfold Rp at h; exact h
theorem Rp.bl_iff {i : Bool} (h : Rp K mg F (.bl i) v) : v = .bl i := by unfold Rp at h; exact h
theorem Rp.str_iff {i : Str} (h : Rp K mg F (.str i) v) : v = .str i := by unfold Rp at h; exact h
theorem Rp.non_iff (h : Rp K mg F .non v) : v = .non := by unfold Rp at h; exact h
theorem Rp.ty_iff {n : String} (h : Rp K mg F (.ty n) v) : v = .ty n := by unfold Rp at h; exact h
theorem Rp.lst_iff {ds : List D} (h : Rp K mg F (.lst ds) v) : ∃ a vs, v = .ref a ∧ F a = some (.lst vs) ∧ RpL K mg F ds vs := by unfold Rp at h; exact h
theorem Rp.tup_iff {ds : List D} (h : Rp K mg F (.tup ds) v) : ∃ a vs, v = .ref a ∧ F a = some (.tup vs) ∧ RpL K mg F ds vs := by unfold Rp at h; exact h
theorem Rp.scr_iff {ns : List Int} (h : Rp K mg F (.scr ns) v) : ∃ a, v = .ref a ∧ SqL K F a (ns.map V.int) := by unfold Rp at h; exact h
theorem Rp.dk_iff {ks : List Key} {ds : List D} (h : Rp K mg F (.dk ks ds) v) : ∃ a vs, v = .ref a ∧ F a = some (.dK (ks.zip vs)) ∧ ks.length = vs.length ∧ RpL K mg F ds vs := by unfold Rp at h; exact h
theorem Rp.obj_iff {c : Str} {ns : List Str} {ds : List D} (h : Rp K mg F (.obj c ns ds) v) : ∃ a C dx vs, v = .ref a ∧ mg c = some (.ref C) ∧ F a = some (.ins C dx (ns.zip vs)) ∧ ns.length = vs.length ∧ RpL K mg F ds vs := by unfold Rp at h; exact h
theorem Rp.int {i : Int} : Rp K mg F (.int i) (.int i) := by unfold Rp; rfl
theorem Rp.bl {i : Bool} : Rp K mg F (.bl i) (.bl i) := by unfold Rp; rfl
theorem Rp.str {i : Str} : Rp K mg F (.str i) (.str i) := by unfold Rp; rfl
theorem Rp.non : Rp K mg F .non .non := by unfold Rp; rfl
theorem Rp.lst {ds : List D} {a : Addr} {vs : List V} (h : F a = some (.lst vs)) (r : RpL K mg F ds vs) : Rp K mg F (.lst ds) (.ref a) := by unfold Rp; exact ⟨a, vs, rfl, h, r⟩
theorem Rp.tup {ds : List D} {a : Addr} {vs : List V} (h : F a = some (.tup vs)) (r : RpL K mg F ds vs) : Rp K mg F (.tup ds) (.ref a) := by unfold Rp; exact ⟨a, vs, rfl, h, r⟩
theorem Rp.lstH (z : Fz F H) {ds : List D} (h : Rp K mg F (.lst ds) v) : ∃ a vs, v = .ref a ∧ H a = some (.lst vs) ∧ RpL K mg F ds vs := by
  obtain ⟨a, vs, e, ea, r⟩ := h.lst_iff
  exact ⟨a, vs, e, z.lst ea, r⟩
theorem Rp.tupH (z : Fz F H) {ds : List D} (h : Rp K mg F (.tup ds) v) : ∃ a vs, v = .ref a ∧ H a = some (.tup vs) ∧ RpL K mg F ds vs := by
  obtain ⟨a, vs, e, ea, r⟩ := h.tup_iff
  exact ⟨a, vs, e, z.tup ea, r⟩
end
section
variable {K : PySem.W.Frag} {mg : Str → Option Value} {F H : Hp}
theorem dp_scr : ∀ ns : List Int, DpAll K H (ns.map V.int) (ns.map PyData.int)
  | [] => .nil
  | n :: ns => .cons (.int n) (dp_scr ns)
mutual
theorem dp_of (z : Fz F H) : ∀ (n : Nat) (d : D) (v : V), d.sh n = true → Rp K mg F d v → Dp K H v d.pd
  | _, .non, v, _, h => by rw [h.non_iff]; exact .non
  | _, .bl b, v, _, h => by rw [h.bl_iff]; exact .bl b
  | _, .int i, v, _, h => by rw [h.int_iff]; exact .int i
  | _, .str x, v, _, h => by rw [h.str_iff]; exact .str x
  | n + 1, .lst ds, v, s, h => by
    obtain ⟨a, vs, e, ea, r⟩ := h.lstH z
    rw [e]
    exact .lst (SqL.of ea) (dp_all z n ds vs (by simpa [D.sh] using s) r)
  | n + 1, .tup ds, v, s, h => by
    obtain ⟨a, vs, e, ea, r⟩ := h.tupH z
    rw [e]
    exact .tup (SqT.of ea) (dp_all z n ds vs (by simpa [D.sh] using s) r)
  | n + 1, .scr ns, v, s, h => by
    obtain ⟨a, e, ea⟩ := h.scr_iff
    rw [e]
    exact .lst (z.seq ea) (dp_scr ns)
  | 0, .lst _, _, s, _ => by simp [D.sh] at s
  | 0, .tup _, _, s, _ => by simp [D.sh] at s
  | 0, .scr _, _, s, _ => by simp [D.sh] at s
  | 0, .dk _ _, _, s, _ => by simp [D.sh] at s
  | 0, .obj _ _ _, _, s, _ => by simp [D.sh] at s
  | 0, .exc _ _ _, _, s, _ => by simp [D.sh] at s
  | 0, .cls _, _, s, _ => by simp [D.sh] at s
  | 0, .ty _, _, s, _ => by simp [D.sh] at s
  | _ + 1, .dk _ _, _, s, _ => by simp [D.sh] at s
  | _ + 1, .obj _ _ _, _, s, _ => by simp [D.sh] at s
  | _ + 1, .exc _ _ _, _, s, _ => by simp [D.sh] at s
  | _ + 1, .cls _, _, s, _ => by simp [D.sh] at s
  | _ + 1, .ty _, _, s, _ => by simp [D.sh] at s
theorem dp_all (z : Fz F H) : ∀ (n : Nat) (ds : List D) (vs : List V), (∀ d ∈ ds, d.sh n = true) → RpL K mg F ds vs → DpAll K H vs (D.pdL ds)
  | _, [], vs, _, h => by rw [h.nil_iff]; exact .nil
  | n, d :: ds, vs, s, h => by
    obtain ⟨v, us, e, r, rr⟩ := h.cons_iff
    rw [e]
    exact .cons (dp_of z n d v (s d List.mem_cons_self) r) (dp_all z n ds us (fun x hx => s x (List.mem_cons_of_mem _ hx)) rr)
end
mutual
theorem sh_ok : ∀ (n : Nat) (d : D), d.sh n = true → d.pd.canLay0 = true ∧ d.pd.depth ≤ n
  | _, .non, _ => ⟨rfl, Nat.zero_le _⟩
  | _, .bl b, _ => ⟨rfl, Nat.zero_le _⟩
  | _, .int i, _ => ⟨rfl, Nat.zero_le _⟩
  | _, .str x, s => ⟨by show (PyData.str x).canLay0 = true; simpa [D.sh] using s, Nat.zero_le _⟩
  | n + 1, .lst ds, s => by
    obtain ⟨h1, h2⟩ := sh_all n ds (by simpa [D.sh] using s)
    exact ⟨by simpa [D.pd, PyData.canLay0] using h1, by simpa [D.pd, PyData.depth] using h2⟩
  | n + 1, .tup ds, s => by
    obtain ⟨h1, h2⟩ := sh_all n ds (by simpa [D.sh] using s)
    exact ⟨by simpa [D.pd, PyData.canLay0] using h1, by simpa [D.pd, PyData.depth] using h2⟩
  | n + 1, .scr ns, s => by
    obtain ⟨h1, h2⟩ := sh_scr n ns
    exact ⟨by simpa [D.pd, PyData.canLay0] using h1, by simpa [D.pd, PyData.depth] using h2⟩
  | 0, .lst _, s => by simp [D.sh] at s
  | 0, .tup _, s => by simp [D.sh] at s
  | 0, .scr _, s => by simp [D.sh] at s
  | 0, .dk _ _, s => by simp [D.sh] at s
  | 0, .obj _ _ _, s => by simp [D.sh] at s
  | 0, .exc _ _ _, s => by simp [D.sh] at s
  | 0, .cls _, s => by simp [D.sh] at s
  | 0, .ty _, s => by simp [D.sh] at s
  | _ + 1, .dk _ _, s => by simp [D.sh] at s
  | _ + 1, .obj _ _ _, s => by simp [D.sh] at s
  | _ + 1, .exc _ _ _, s => by simp [D.sh] at s
  | _ + 1, .cls _, s => by simp [D.sh] at s
  | _ + 1, .ty _, s => by simp [D.sh] at s
theorem sh_all : ∀ (n : Nat) (ds : List D), (∀ d ∈ ds, d.sh n = true) → PyData.canLayAll0 (D.pdL ds) = true ∧ PyData.depthAll (D.pdL ds) ≤ n
  | _, [], _ => ⟨rfl, Nat.zero_le _⟩
  | n, d :: ds, s => by
    obtain ⟨h1, h2⟩ := sh_ok n d (s d List.mem_cons_self)
    obtain ⟨h3, h4⟩ := sh_all n ds fun x hx => s x (List.mem_cons_of_mem _ hx)
    refine ⟨by simp [D.pdL, PyData.canLayAll0, h1, h3], ?_⟩
    simp only [D.pdL, PyData.depthAll]
    omega
theorem sh_scr : ∀ (n : Nat) (ns : List Int), PyData.canLayAll0 (ns.map PyData.int) = true ∧ PyData.depthAll (ns.map PyData.int) ≤ n
  | _, [] => ⟨rfl, Nat.zero_le _⟩
  | n, i :: ns => by
    obtain ⟨h3, h4⟩ := sh_scr n ns
    refine ⟨by simp [PyData.canLayAll0, PyData.canLay0, h3], ?_⟩
    simp only [List.map_cons, PyData.depthAll, PyData.depth]
    omega
end
theorem shaped_of {d : D} (h : d.sh 60 = true) : SeqAt.shaped d.pd = true := by
  obtain ⟨h1, h2⟩ := sh_ok 60 d h
  show (d.pd.canLay0 && decide (d.pd.depth ≤ 64)) = true
  rw [h1, decide_eq_true (by omega)]
  rfl
end
section
variable {X : Cx}
theorem opEq (hu : X.A.units + 64 < cLine) : OpR X (compareOp .Eq) (fun x y H Q => rEq x y H Q ∨ rEqD X.K x y H Q) := op_eq.or (op_eqD hu)
theorem opNe (hu : X.A.units + 64 < cLine) : OpR X (compareOp .NotEq) (fun x y H Q => rNe x y H Q ∨ rNeD X.K x y H Q) := op_ne.or (op_neD hu)
theorem andB {a b : Bool} (h : (a && b) = true) : a = true ∧ b = true := Bool.and_eq_true_iff.mp h
theorem eqCore {F H : Hp} {x y : D} {v u : V} (z : Fz F H) (rx : Rp X.K X.mg F x v) (ry : Rp X.K X.mg F y u) {k : Bool} (h : dEqV x y = .ok k) :
    (scal v u = true ∧ decide (v = u) = k) ∨ (∃ d e, Dp X.K H v d ∧ Dp X.K H u e ∧ SeqAt.shaped d = true ∧ SeqAt.shaped e = true ∧ PyData.eqv d e = k) := by
  have dat : (if x.sh 60 && y.sh 60 then R.ok (dEqB x y) else R.stuck) = .ok k → (∃ d e, Dp X.K H v d ∧ Dp X.K H u e ∧ SeqAt.shaped d = true ∧ SeqAt.shaped e = true ∧ PyData.eqv d e = k) := fun h => by
    by_cases c : (x.sh 60 && y.sh 60) = true
    · rw [if_pos c] at h
      obtain ⟨c1, c2⟩ := andB c
      injection h with h
      exact ⟨x.pd, y.pd, dp_of z 60 x v c1 rx, dp_of z 60 y u c2 ry, shaped_of c1, shaped_of c2, h⟩
    · rw [if_neg c] at h
      cases h
  unfold dEqV at h
  split at h
  · rw [rx.int_iff, ry.int_iff]
    injection h with h
    refine .inl ⟨rfl, ?_⟩
    rw [← h]
    exact decide_eq_decide.mpr ⟨fun e => V.int.inj e, fun e => by rw [e]⟩
  · rw [rx.str_iff, ry.str_iff]
    injection h with h
    refine .inl ⟨rfl, ?_⟩
    rw [← h]
    exact decide_eq_decide.mpr ⟨fun e => V.str.inj e, fun e => by rw [e]⟩
  · exact .inr (dat h)
theorem sat_eq : Sat2 X (fun x y H Q => rEq x y H Q ∨ rEqD X.K x y H Q) dEq := by
  intro F H x y v u E Q z rx ry p
  unfold dEq at p
  cases e : dEqV x y with
  | ok k =>
    rw [e] at p
    have q : Q (.bl k) H := PostG.ok p z (Rp.bl)
    rcases eqCore z rx ry e with ⟨h1, h2⟩ | ⟨d, e, h1, h2, h3, h4, h5⟩
    · exact .inl ⟨h1, by rw [h2]; exact q⟩
    · exact .inr ⟨d, e, h1, h2, h3, h4, by rw [h5]; exact q⟩
  | exc x => unfold dEqV at e; split at e <;> first | cases e | (split at e <;> cases e)
  | stuck => rw [e] at p; exact p.elim
theorem sat_ne : Sat2 X (fun x y H Q => rNe x y H Q ∨ rNeD X.K x y H Q) dNe := by
  intro F H x y v u E Q z rx ry p
  unfold dNe at p
  cases e : dEqV x y with
  | ok k =>
    rw [e] at p
    have q : Q (.bl (!k)) H := PostG.ok p z (Rp.bl)
    rcases eqCore z rx ry e with ⟨h1, h2⟩ | ⟨d, e, h1, h2, h3, h4, h5⟩
    · exact .inl ⟨h1, by rw [h2]; exact q⟩
    · exact .inr ⟨d, e, h1, h2, h3, h4, by rw [h5]; exact q⟩
  | exc x => unfold dEqV at e; split at e <;> first | cases e | (split at e <;> cases e)
  | stuck => rw [e] at p; exact p.elim
theorem opMul : OpR X (binaryOp .Mult) (fun x y H Q => rI CMul (fun i j => .int (i * j)) x y H Q ∨ rI CMulW (fun i j => .int (i * j)) x y H Q) := op_mul.or op_mulW
theorem small_iff {i : Int} (h : smallI i = true) : -(2 ^ 64) < i ∧ i < 2 ^ 64 := by
  obtain ⟨h1, h2⟩ := andB h
  have h1 := of_decide_eq_true h1
  have h2 := of_decide_eq_true h2
  omega
theorem sat_mul : Sat2 X (fun x y H Q => rI CMul (fun i j => .int (i * j)) x y H Q ∨ rI CMulW (fun i j => .int (i * j)) x y H Q) dMul := by
  intro F H x y v u E Q z rx ry p
  cases x with
  | int i =>
    cases y with
    | int j =>
      rw [rx.int_iff, ry.int_iff]
      obtain ⟨c, p⟩ := ifR p
      have q : Q (.int (i * j)) H := PostG.ok p z Rp.int
      rcases Bool.or_eq_true_iff.mp c with c | c
      · exact .inl ⟨i, j, rfl, rfl, .inr (small_iff c), q⟩
      · rcases Bool.or_eq_true_iff.mp c with c | c
        · exact .inl ⟨i, j, rfl, rfl, .inl (small_iff c), q⟩
        · exact .inr ⟨i, j, rfl, rfl, (show i.natAbs.log2 + j.natAbs.log2 < 1000000 from of_decide_eq_true c), q⟩
    | _ => exact p.elim
  | _ => exact p.elim
theorem sat_sub : Sat2 X (rI0 fun i j => .int (i - j)) dSub := by
  intro F H x y v u E Q z rx ry p
  cases x with
  | int i =>
    cases y with
    | int j =>
      rw [rx.int_iff, ry.int_iff]
      exact ⟨i, j, rfl, rfl, PostG.ok p z Rp.int⟩
    | _ => exact p.elim
  | _ => exact p.elim
theorem sat_div : Sat2 X (rI CDivW fun i j => .int (i / j)) dDiv := by
  intro F H x y v u E Q z rx ry p
  cases x with
  | int i =>
    cases y with
    | int j =>
      rw [rx.int_iff, ry.int_iff]
      obtain ⟨c, p⟩ := ifR p
      obtain ⟨c1, c2⟩ := andB c
      exact ⟨i, j, rfl, rfl, ⟨of_decide_eq_true c1, of_decide_eq_true c2⟩, PostG.ok p z Rp.int⟩
    | _ => exact p.elim
  | _ => exact p.elim
theorem sat_mod : Sat2 X (rI (fun _ j => 0 < j) fun i j => .int (i % j)) dMod := by
  intro F H x y v u E Q z rx ry p
  cases x with
  | int i =>
    cases y with
    | int j =>
      rw [rx.int_iff, ry.int_iff]
      obtain ⟨c, p⟩ := ifR p
      exact ⟨i, j, rfl, rfl, c, PostG.ok p z Rp.int⟩
    | _ => exact p.elim
  | _ => exact p.elim
theorem sat_neg : Sat1 X (rU fun i => .int (-i)) dNeg := by
  intro F H x v E Q z rx p
  cases x with
  | int i =>
    rw [rx.int_iff]
    exact ⟨i, rfl, PostG.ok p z Rp.int⟩
  | _ => exact p.elim
theorem sat_lt : Sat2 X (rI0 fun i j => .bl (decide (i < j))) dLt := by
  intro F H x y v u E Q z rx ry p
  cases x with
  | int i =>
    cases y with
    | int j =>
      rw [rx.int_iff, ry.int_iff]
      exact ⟨i, j, rfl, rfl, PostG.ok p z Rp.bl⟩
    | _ => exact p.elim
  | _ => exact p.elim
theorem sat_gt : Sat2 X (rI0 fun i j => .bl (decide (j < i))) dGt := by
  intro F H x y v u E Q z rx ry p
  cases x with
  | int i =>
    cases y with
    | int j =>
      rw [rx.int_iff, ry.int_iff]
      exact ⟨i, j, rfl, rfl, PostG.ok p z Rp.bl⟩
    | _ => exact p.elim
  | _ => exact p.elim
theorem sat_ge : Sat2 X (rI0 fun i j => .bl (decide (j ≤ i))) dGe := by
  intro F H x y v u E Q z rx ry p
  cases x with
  | int i =>
    cases y with
    | int j =>
      rw [rx.int_iff, ry.int_iff]
      exact ⟨i, j, rfl, rfl, PostG.ok p z Rp.bl⟩
    | _ => exact p.elim
  | _ => exact p.elim
theorem isNon_iff {K : PySem.W.Frag} {mg : Str → Option Value} {F : Hp} {x : D} {v : V} (h : Rp K mg F x v) : decide (v = .non) = x.isNon := by
  cases x with
  | non => rw [h.non_iff]; rfl
  | bl b => rw [h.bl_iff]; rfl
  | int b => rw [h.int_iff]; rfl
  | str b => rw [h.str_iff]; rfl
  | lst b => obtain ⟨_, _, e, _⟩ := h.lst_iff; rw [e]; rfl
  | tup b => obtain ⟨_, _, e, _⟩ := h.tup_iff; rw [e]; rfl
  | scr b => obtain ⟨_, e, _⟩ := h.scr_iff; rw [e]; rfl
  | dk b c => obtain ⟨_, _, e, _⟩ := h.dk_iff; rw [e]; rfl
  | obj b c d => obtain ⟨_, _, _, _, e, _⟩ := h.obj_iff; rw [e]; rfl
  | exc b c d => unfold Rp at h; obtain ⟨_, _, _, e, _⟩ := h; rw [e]; rfl
  | cls c => unfold Rp at h; obtain ⟨_, e, _⟩ := h; rw [e]; rfl
  | ty c => rw [h.ty_iff]; rfl
theorem sat_is : Sat2 X (fun x y H Q => y = .non ∧ Q (.bl (decide (x = .non))) H) dIs := by
  intro F H x y v u E Q z rx ry p
  cases y with
  | non =>
    refine ⟨ry.non_iff, ?_⟩
    rw [isNon_iff rx]
    have p' : PostG X.K X.mg (repV X.K X.mg) F H E Q (.ok (.bl x.isNon)) := by cases x <;> exact p
    exact PostG.ok p' z Rp.bl
  | _ => exact (by cases x <;> exact p.elim)
theorem sat_isnot : Sat2 X (fun x y H Q => y = .non ∧ Q (.bl (!decide (x = .non))) H) dIsNot := by
  intro F H x y v u E Q z rx ry p
  cases y with
  | non =>
    refine ⟨ry.non_iff, ?_⟩
    rw [isNon_iff rx]
    have p' : PostG X.K X.mg (repV X.K X.mg) F H E Q (.ok (.bl (!x.isNon))) := by cases x <;> exact p
    exact PostG.ok p' z Rp.bl
  | _ => exact (by cases x <;> exact p.elim)
def rAddA (K : PySem.W.Frag) : R2 := fun x y H Q => ((rI0 fun i j => .int (i + j)) x y H Q ∨ (∃ i j, x = .str i ∧ y = .str j ∧ i.length + j.length ≤ sizeLine ∧ Q (.str (i ++ j)) H)) ∨ (rCatT K x y H Q ∨ rCat x y H Q)
theorem opAdd : OpR X (binaryOp .Add) (rAddA X.K) := (op_add.or op_add_str).or (op_catT.or op_cat)
theorem sat_add : Sat2 X (rAddA X.K) dAdd := by
  intro F H x y v u E Q z rx ry p
  cases x with
  | int i =>
    cases y with
    | int j =>
      rw [rx.int_iff, ry.int_iff]
      exact .inl (.inl ⟨i, j, rfl, rfl, PostG.ok p z Rp.int⟩)
    | _ => exact p.elim
  | str i =>
    cases y with
    | str j =>
      rw [rx.str_iff, ry.str_iff]
      obtain ⟨c, p⟩ := ifR p
      exact .inl (.inr ⟨i, j, rfl, rfl, by rw [LIM_eq]; exact c, PostG.ok p z Rp.str⟩)
    | _ => exact p.elim
  | tup xs =>
    cases xs with
    | nil => cases y <;> exact p.elim
    | cons d ds =>
      cases y with
      | tup ys =>
        obtain ⟨c, p⟩ := ifR p
        obtain ⟨a, vs, e1, e2, r1⟩ := rx.tupH z
        obtain ⟨b, us, e3, e4, r2⟩ := ry.tupH z
        rw [e1, e3]
        obtain ⟨w, ws, e5, _, _⟩ := r1.cons_iff
        have l1 := r1.length
        have l2 := r2.length
        refine .inr (.inl ⟨a, b, vs, us, rfl, rfl, SqT.of e2, SqT.of e4, by rw [e5]; exact List.cons_ne_nil _ _, by rw [LIM_eq, ← l1, ← l2]; exact c, ?_, ?_⟩)
        · intro en
          rw [en] at r2
          have : ys = [] := by
            cases ys with
            | nil => rfl
            | cons q qs => obtain ⟨_, _, e, _⟩ := r2.cons_iff; cases e
          subst this
          have p' : PostG X.K X.mg (repV X.K X.mg) F H E Q (.ok (.tup (d :: ds))) := by simpa using p
          exact PostG.ok p' z (by rw [← e1]; exact rx)
        · intro _ q hq
          refine PostG.at p (Ext.laid (o := .tup (vs ++ us)) z hq) (Rp.tup upd_same ?_)
          exact RpL.mono (Ext.laid (o := .tup (vs ++ us)) z hq).ff _ _ (RpL.append r1 r2)
      | _ => exact p.elim
  | lst xs =>
    cases y with
    | lst ys =>
      obtain ⟨c, p⟩ := ifR p
      obtain ⟨a, vs, e1, e2, r1⟩ := rx.lstH z
      obtain ⟨b, us, e3, e4, r2⟩ := ry.lstH z
      rw [e1, e3]
      refine .inr (.inr ⟨a, b, vs, us, rfl, rfl, e2, e4, by rw [LIM_eq, ← r1.length, ← r2.length]; exact c, fun q hq => ?_⟩)
      refine PostG.at p (Ext.laid (o := .lst (vs ++ us)) z hq) (Rp.lst upd_same ?_)
      exact RpL.mono (Ext.laid (o := .lst (vs ++ us)) z hq).ff _ _ (RpL.append r1 r2)
    | _ => exact p.elim
  | _ => exact p.elim
theorem satO_add : Sat2O X (rAddA X.K) oAdd := by
  intro F H x y v u E Q z rx ry p
  cases x with
  | lst xs =>
    cases y with
    | lst ys =>
      obtain ⟨c, p⟩ := ifR p
      obtain ⟨a, vs, e1, e2, r1⟩ := rx.lstH z
      obtain ⟨b, us, e3, e4, r2⟩ := ry.lstH z
      rw [e1, e3]
      refine .inr (.inr ⟨a, b, vs, us, rfl, rfl, e2, e4, by rw [LIM_eq, ← r1.length, ← r2.length]; exact c, fun q hq => ?_⟩)
      exact PostG.at p (Ext.heap z hq) ⟨q, _, rfl, upd_same, z.free hq, hq, RpL.append r1 r2⟩
    | _ => exact p.elim
  | _ => exact p.elim
theorem atI_rp {K : PySem.W.Frag} {mg : Str → Option Value} {F : Hp} {ds : List D} {vs : List V} {i : Int} {d : D} (r : RpL K mg F ds vs) (h : atI ds i = some d) : ∃ v, atI vs i = some v ∧ Rp K mg F d v := by
  unfold atI at h ⊢
  rw [← r.length]
  cases e : ixN ds.length i with
  | none => rw [e] at h; cases h
  | some j =>
    rw [e] at h
    exact r.get (show ds[j]? = some d from h)
theorem ixN_map {α β : Type} (f : α → β) (xs : List α) (i : Int) : atI (xs.map f) i = (atI xs i).map f := by
  unfold atI
  rw [List.length_map]
  cases ixN xs.length i with
  | none => rfl
  | some j => exact List.getElem?_map
theorem sat_ix : Sat2 X (rIx X.K) dIx := by
  intro F H x y v u E Q z rx ry p
  cases x with
  | lst ds =>
    cases y with
    | int i =>
      obtain ⟨a, vs, e1, e2, r1⟩ := rx.lstH z
      rw [e1, ry.int_iff]
      have p' : PostG X.K X.mg (repV X.K X.mg) F H E Q (match atI ds i with | some d => .ok d | none => .stuck) := p
      cases e : atI ds i with
      | none => rw [e] at p'; exact p'.elim
      | some d =>
        rw [e] at p'
        obtain ⟨w, h1, h2⟩ := atI_rp r1 e
        exact .inl ⟨a, vs, i, w, rfl, rfl, SqL.of e2, h1, PostG.ok p' z h2⟩
    | _ => exact p.elim
  | tup ds =>
    cases y with
    | int i =>
      obtain ⟨a, vs, e1, e2, r1⟩ := rx.tupH z
      rw [e1, ry.int_iff]
      have p' : PostG X.K X.mg (repV X.K X.mg) F H E Q (match atI ds i with | some d => .ok d | none => .stuck) := p
      cases e : atI ds i with
      | none => rw [e] at p'; exact p'.elim
      | some d =>
        rw [e] at p'
        obtain ⟨w, h1, h2⟩ := atI_rp r1 e
        exact .inr (.inl ⟨a, vs, i, w, rfl, rfl, SqT.of e2, h1, PostG.ok p' z h2⟩)
    | _ => exact p.elim
  | scr ns =>
    cases y with
    | int i =>
      obtain ⟨a, e1, e2⟩ := rx.scr_iff
      rw [e1, ry.int_iff]
      have p' : PostG X.K X.mg (repV X.K X.mg) F H E Q (match atI ns i with | some d => .ok (.int d) | none => .stuck) := p
      cases e : atI ns i with
      | none => rw [e] at p'; exact p'.elim
      | some d =>
        rw [e] at p'
        exact .inl ⟨a, _, i, .int d, rfl, rfl, z.seq e2, by rw [ixN_map, e]; rfl, PostG.ok p' z Rp.int⟩
    | _ => exact p.elim
  | str s =>
    cases y with
    | int i =>
      rw [rx.str_iff, ry.int_iff]
      obtain ⟨c, p⟩ := ifR p
      have p' : PostG X.K X.mg (repV X.K X.mg) F H E Q (match atI s.cps.toList i with | some c => .ok (.str ⟨#[c]⟩) | none => .stuck) := p
      cases e : atI s.cps.toList i with
      | none => rw [e] at p'; exact p'.elim
      | some d =>
        rw [e] at p'
        exact .inr (.inr ⟨s, i, d, rfl, rfl, by rw [LIM_eq]; exact c, e, PostG.ok p' z Rp.str⟩)
    | _ => exact p.elim
  | _ => exact p.elim
theorem RpL.one {K : PySem.W.Frag} {mg : Str → Option Value} {F : Hp} {x : D} {vs : List V} (r : RpL K mg F [x] vs) : ∃ v, vs = [v] ∧ Rp K mg F x v := by
  obtain ⟨v, us, e, r1, rn⟩ := r.cons_iff
  have := rn.nil_iff
  subst this
  exact ⟨v, e, r1⟩
theorem RpL.two {K : PySem.W.Frag} {mg : Str → Option Value} {F : Hp} {x y : D} {vs : List V} (r : RpL K mg F [x, y] vs) : ∃ v u, vs = [v, u] ∧ Rp K mg F x v ∧ Rp K mg F y u := by
  obtain ⟨v, us, e, r1, rn⟩ := r.cons_iff
  obtain ⟨u, e', r2⟩ := rn.one
  subst e'
  exact ⟨v, u, e, r1, r2⟩
theorem sat_un1 {r : List V → Hp → VK → Prop} {g : D → R D} (h : ∀ (F H : Hp) (x : D) (v : V) (E : XK) (Q : VK), Fz F H → Rp X.K X.mg F x v → PostG X.K X.mg (repV X.K X.mg) F H E Q (g x) → r [v] H Q) : SatL X r (un1 g) := by
  intro F H ds vs E Q z r p
  cases ds with
  | nil => exact p.elim
  | cons x xs =>
    cases xs with
    | nil =>
      obtain ⟨v, e, r1⟩ := r.one
      rw [e]
      exact h F H x v E Q z r1 p
    | cons y ys => exact p.elim
theorem sat_un2 {r : List V → Hp → VK → Prop} {g : D → D → R D} (h : ∀ (F H : Hp) (x y : D) (v u : V) (E : XK) (Q : VK), Fz F H → Rp X.K X.mg F x v → Rp X.K X.mg F y u → PostG X.K X.mg (repV X.K X.mg) F H E Q (g x y) → r [v, u] H Q) : SatL X r (un2 g) := by
  intro F H ds vs E Q z r p
  cases ds with
  | nil => exact p.elim
  | cons x xs =>
    cases xs with
    | nil => exact p.elim
    | cons y ys =>
      cases ys with
      | nil =>
        obtain ⟨v, u, e, r1, r2⟩ := r.two
        rw [e]
        exact h F H x y v u E Q z r1 r2 p
      | cons a b => exact p.elim
theorem sat_len : SatL X (fun xs H Q => ∃ x n, xs = [x] ∧ LenV X.K x H n ∧ Q (.int n) H) dLen := sat_un1 fun F H x v E Q z r1 p => by
  cases x with
  | lst xs =>
    obtain ⟨a, ws, e1, e2, r2⟩ := r1.lstH z
    exact ⟨v, xs.length, rfl, by rw [e1]; exact .inl ⟨ws, SqL.of e2, r2.length⟩, PostG.ok p z Rp.int⟩
  | tup xs =>
    obtain ⟨a, ws, e1, e2, r2⟩ := r1.tupH z
    exact ⟨v, xs.length, rfl, by rw [e1]; exact .inr ⟨ws, SqT.of e2, r2.length⟩, PostG.ok p z Rp.int⟩
  | scr xs =>
    obtain ⟨a, e1, e2⟩ := r1.scr_iff
    exact ⟨v, xs.length, rfl, by rw [e1]; exact .inl ⟨_, z.seq e2, by rw [List.length_map]⟩, PostG.ok p z Rp.int⟩
  | str x =>
    obtain ⟨c, p⟩ := ifR p
    exact ⟨v, x.length, rfl, by rw [r1.str_iff]; exact ⟨by rw [LIM_eq]; exact c, rfl⟩, PostG.ok p z Rp.int⟩
  | _ => exact p.elim
theorem sat_min2 : SatL X (fun xs H Q => ∃ i j, xs = [.int i, .int j] ∧ Q (.int (if j < i then j else i)) H) dMin2 := sat_un2 fun F H x y v u E Q z r1 r2 p => by
  cases x with
  | int i =>
    cases y with
    | int j => exact ⟨i, j, by rw [r1.int_iff, r2.int_iff], PostG.ok p z Rp.int⟩
    | _ => exact p.elim
  | _ => exact p.elim
theorem sat_max2 : SatL X (fun xs H Q => ∃ i j, xs = [.int i, .int j] ∧ Q (.int (if j > i then j else i)) H) dMax2 := sat_un2 fun F H x y v u E Q z r1 r2 p => by
  cases x with
  | int i =>
    cases y with
    | int j => exact ⟨i, j, by rw [r1.int_iff, r2.int_iff], PostG.ok p z Rp.int⟩
    | _ => exact p.elim
  | _ => exact p.elim
theorem sat_abs : SatL X (fun xs H Q => ∃ i, xs = [.int i] ∧ Q (.int (if i < 0 then -i else i)) H) dAbs := sat_un1 fun F H x v E Q z r1 p => by
  cases x with
  | int i => exact ⟨i, by rw [r1.int_iff], PostG.ok p z Rp.int⟩
  | _ => exact p.elim
theorem ty_ok {F H : Hp} {x : D} {v : V} {t : String} (z : Fz F H) (r : Rp X.K X.mg F x v) (h : x.tyOf = some t) : TyX X.K H v (.type t) := by
  cases x with
  | non => cases h; rw [r.non_iff]; exact .base .non
  | bl b => cases h; rw [r.bl_iff]; exact .base (.bl b)
  | int b => cases h; rw [r.int_iff]; exact .base (.int b)
  | str b => cases h; rw [r.str_iff]; exact .base (.str b)
  | lst b => cases h; obtain ⟨a, vs, e, ea, _⟩ := r.lstH z; rw [e]; exact .base (.lst ea)
  | tup b => cases h; obtain ⟨a, vs, e, ea, _⟩ := r.tupH z; rw [e]; exact .base (.tup ea)
  | scr b =>
    cases h
    obtain ⟨a, e, ea⟩ := r.scr_iff
    rw [e]
    rcases z.seq ea with (q | ⟨o, q⟩) | ⟨o, its, n, q, c, _⟩
    · exact .base (.lst q)
    · exact .base (.frz q)
    · exact .kList q c
  | dk b c =>
    cases h
    obtain ⟨a, vs, e, ea, _⟩ := r.dk_iff
    rw [e]
    rcases z a _ ea with q | ⟨_, ob, q⟩
    · exact .base (.dK q)
    · exact .fDict q
  | obj b c d => cases h
  | exc b c d => cases h
  | cls c => cases h
  | ty c => cases h
theorem sat_isi : SatL X (rIsi X.K) dIsi := sat_un2 fun F H x y v u E Q z r1 r2 p => by
  cases y with
  | ty n =>
    have p' : PostG X.K X.mg (repV X.K X.mg) F H E Q (match x.tyOf with | some t => (match kitB t n with | some b => .ok (.bl b) | none => .stuck) | none => .stuck) := p
    cases et : x.tyOf with
    | none => rw [et] at p'; exact p'.elim
    | some t =>
      rw [et] at p'
      have p2 : PostG X.K X.mg (repV X.K X.mg) F H E Q (match kitB t n with | some b => .ok (.bl b) | none => .stuck) := p'
      cases ek : kitB t n with
      | none => rw [ek] at p2; exact p2.elim
      | some b =>
        rw [ek] at p2
        exact ⟨v, .ty n, .type t, .type n, b, by rw [r2.ty_iff], .ty n, ty_ok z r1 et, kit_ty ek, PostG.ok p2 z Rp.bl⟩
  | _ => exact p.elim
end
end DL
namespace DL
open PySem PySem.Spec L2
inductive Out where
  | nx (Γ : DL.Env) | rt (d : D) | ro (ds : List D) | bk (Γ : DL.Env) | ct (Γ : DL.Env) | exc (x : D) (Γ : DL.Env) | stuck | rs (d : D) (Γ : DL.Env)
def R.out {α : Type} (Γ : DL.Env) (r : R α) (k : α → Out) : Out := match r with
  | .ok a => k a
  | .exc x => .exc x Γ
  | .stuck => .stuck
def PostS (X : Cx) (W : WX) (F0 : Fe) (H0 : Hp) (Dn : Ends) : Out → Prop
  | .nx Γ => ∀ σ F H, Rel X.K X.mg F0 H0 F H σ Γ → Dn.nx σ H
  | .bk Γ => ∀ σ F H, Rel X.K X.mg F0 H0 F H σ Γ → Dn.bk σ H
  | .ct Γ => ∀ σ F H, Rel X.K X.mg F0 H0 F H σ Γ → Dn.ct σ H
  | .rt d => ∀ v F H, Ext F0 H0 F H → Rp X.K X.mg F d v → Dn.rt v H
  | .rs d Γ => ∀ v σ F H, Rel X.K X.mg F0 H0 F H σ Γ → Rp X.K X.mg F d v → Dn.rt v H
  | .ro ds => ∀ v F H, Ext F0 H0 F H → OwnL X.K X.mg H0 F H ds v → Dn.rt v H
  | .exc x Γ => ∀ cls od σ F H, Rel X.K X.mg F0 H0 F H σ Γ → RpX X.K X.mg F x cls od → W cls od σ H
  | .stuck => False
def tDS (X : Cx) (W : WX) (g : DL.Env → Out) : TS := fun Dn σ H => ∃ F0 H0 F Γ, Rel X.K X.mg F0 H0 F H σ Γ ∧ PostS X W F0 H0 Dn (g Γ)
abbrev DS (X : Cx) (W : WX) (st : Stmt) (g : DL.Env → Out) : Prop := PS X st (tDS X W g)
abbrev DSs (X : Cx) (W : WX) (st : List Stmt) (g : DL.Env → Out) : Prop := PSs X st (tDS X W g)
section
variable {X : Cx} {st : Stmt} {sts : List Stmt}
theorem PS.weak {t t' : TS} (h : PS X st t) (w : ∀ Dn σ H, t' Dn σ H → t Dn σ H) : PS X st t' := ⟨fun pins s σ H Dn I q => h.run pins s σ H Dn I (w Dn σ H q)⟩
theorem PSs.weak {t t' : TS} (h : PSs X sts t) (w : ∀ Dn σ H, t' Dn σ H → t Dn σ H) : PSs X sts t' := ⟨fun pins s σ H Dn I q => h.run pins s σ H Dn I (w Dn σ H q)⟩
end
def sNx : DL.Env → Out := fun Γ => .nx Γ
def sBk : DL.Env → Out := fun Γ => .bk Γ
def sCt : DL.Env → Out := fun Γ => .ct Γ
def Out.andThen (o : Out) (g : DL.Env → Out) : Out := match o with
  | .nx Γ => g Γ
  | o => o
def sSeq (g1 g2 : DL.Env → Out) : DL.Env → Out := fun Γ => (g1 Γ).andThen g2
def sRet (f : DL.Env → R D) : DL.Env → Out := fun Γ => (f Γ).out Γ .rt
def sRetO (f : DL.Env → R (List D)) : DL.Env → Out := fun Γ => (f Γ).out Γ .ro
def sRetN : DL.Env → Out := fun _ => .rt .non
def sRetS (i : Nat) : DL.Env → Out := fun Γ => match Env.at_ Γ i with
  | some (.own ds) => .ro ds
  | _ => .stuck
def sDrop (f : DL.Env → R D) : DL.Env → Out := fun Γ => (f Γ).out Γ fun _ => .nx Γ
def sIf (f : DL.Env → R Bool) (g h : DL.Env → Out) : DL.Env → Out := fun Γ => (f Γ).out Γ fun b => match b with
  | true => g Γ
  | false => h Γ
def sFrz (i : Nat) (g : DL.Env → Out) : DL.Env → Out := fun Γ => g (Env.frz Γ i)
abbrev Tg := D → DL.Env → Option DL.Env
abbrev Tgs := List D → DL.Env → Option DL.Env
def gNm (i : Nat) : Tg := fun d Γ => some (Γ.set i (some (.val d)))
def gsNil : Tgs := fun ds Γ => match ds with
  | [] => some Γ
  | _ => none
def gsCons (h : Tg) (hs : Tgs) : Tgs := fun ds Γ => match ds with
  | d :: r => (h d Γ).bind fun Γ1 => hs r Γ1
  | [] => none
def gTp (n : Nat) (hs : Tgs) : Tg := fun d Γ => match d with
  | .tup ds => if ds.length = n then hs ds Γ else none
  | _ => none
def sSet (h : Tg) (f : DL.Env → R D) : DL.Env → Out := fun Γ => (f Γ).out Γ fun d => match h d Γ with
  | some Γ' => .nx Γ'
  | none => .stuck
def sSetO (i : Nat) (f : DL.Env → R (List D)) : DL.Env → Out := fun Γ => (f Γ).out Γ fun ds => .nx (Γ.set i (some (.own ds)))
def sSetD (i : Nat) (f : DL.Env → R (List Key × List D)) : DL.Env → Out := fun Γ => (f Γ).out Γ fun ds => .nx (Γ.set i (some (.dic ds.1 ds.2)))
def sApp (i : Nat) (f : DL.Env → R D) : DL.Env → Out := fun Γ => match Env.at_ Γ i with
  | some (.own ds) => (f Γ).out Γ fun d => if ds.length < LIM then .nx (Γ.set i (some (.own (ds ++ [d])))) else .stuck
  | _ => .stuck
def sSetIx (i : Nat) (fk fv : DL.Env → R D) : DL.Env → Out := fun Γ => (fv Γ).out Γ fun d => match Env.at_ Γ i with
  | some (.own ds) => (fk Γ).out Γ fun k => match k with
    | .int k => (match ixN ds.length k with | some j => .nx (Γ.set i (some (.own (ds.set j d)))) | none => .stuck)
    | _ => .stuck
  | some (.hnd m ds) => (fk Γ).out Γ fun k => match k with
    | .int k => (match ixN ds.length k with | some j => .nx (Γ.set i (some (.hnd m (ds.set j d)))) | none => .stuck)
    | _ => .stuck
  | _ => .stuck
def loopF (h : Tg) (g : DL.Env → Out) : List D → DL.Env → Out
  | [], Γ => .nx Γ
  | d :: ds, Γ => match h d Γ with
    | none => .stuck
    | some Γ1 => match g Γ1 with
      | .nx Γ2 => loopF h g ds Γ2
      | .ct Γ2 => loopF h g ds Γ2
      | .bk Γ2 => .nx Γ2
      | o => o
def sFor (fi : DL.Env → R (List D)) (h : Tg) (g : DL.Env → Out) : DL.Env → Out := fun Γ => (fi Γ).out Γ fun ds => loopF h g ds Γ
def loopW (f : DL.Env → R Bool) (g : DL.Env → Out) : Nat → DL.Env → Out
  | 0, _ => .stuck
  | n + 1, Γ => (f Γ).out Γ fun b => match b with
    | false => .nx Γ
    | true => match g Γ with
      | .nx Γ2 => loopW f g n Γ2
      | .ct Γ2 => loopW f g n Γ2
      | .bk Γ2 => .nx Γ2
      | o => o
def sWhile (n : DL.Env → Nat) (f : DL.Env → R Bool) (g : DL.Env → Out) : DL.Env → Out := fun Γ => loopW f g (n Γ) Γ
def wipeE (Γ : DL.Env) : List Nat → DL.Env
  | [] => Γ
  | v :: vs => (wipeE Γ vs).set v none
def lcF (h : Tg) (ft : DL.Env → R Bool) (fe : DL.Env → R D) (Γ : DL.Env) : List D → R (List D)
  | [] => .ok []
  | d :: ds => match h d Γ with
    | none => .stuck
    | some Γ1 => match ft Γ1 with
      | .ok true => (match fe Γ1 with
        | .ok e => (match lcF h ft fe Γ ds with
          | .ok es => .ok (e :: es)
          | _ => .stuck)
        | _ => .stuck)
      | .ok false => lcF h ft fe Γ ds
      | _ => .stuck
def oLc (vs : List Nat) (fi : DL.Env → R (List D)) (h : Tg) (ft : DL.Env → R Bool) (fe : DL.Env → R D) : DL.Env → R (List D) := fun Γ => (fi Γ).bind fun ds =>
  match lcF h ft fe (wipeE Γ vs) ds with
  | .ok es => if ds.length ≤ LIM then .ok es else .stuck
  | _ => .stuck
section
variable {X : Cx} {W : WX} {F0 : Fe} {H0 F H : Hp} {σ : L2.St} {Γ : DL.Env} {Dn : Ends} {st : Stmt} {rest : List Stmt} {e a b : Expr} {es : List Expr} {g g1 g2 : DL.Env → Out} {f fa fb : DL.Env → R D} {fo : DL.Env → R (List D)} {ft : DL.Env → R Bool} {pos p : Pos}
theorem PostS.out {α β : Type} {rep : Hp → Hp → Hp → α → β → Prop} {r : R α} {k : α → Out} {Q : β → Hp → Prop} (rl : Rel X.K X.mg F0 H0 F H σ Γ) (p : PostS X W F0 H0 Dn (r.out Γ k))
    (h : ∀ a b F' H', r = .ok a → Ext F H F' H' → rep H F' H' a b → PostS X W F0 H0 Dn (k a) → Q b H') : PostG X.K X.mg rep F H (WE W σ) Q r := by
  cases r with
  | ok a => exact fun b F' H' x q => h a b F' H' rfl x q p
  | exc x => exact fun cls od F' H' y q => p cls od σ F' H' (rl.step y) q
  | stuck => exact p
theorem dss_nil : DSs X W [] sNx := PSs.weak pss_nil fun _ _ _ ⟨_, _, _, _, r, p⟩ => p _ _ _ r
theorem dss_one (h : DS X W st g) : DSs X W [st] g := pss_one h
theorem dss_cons (h1 : DS X W st g1) (h2 : DSs X W rest g2) : DSs X W (st :: rest) (sSeq g1 g2) := by
  refine PSs.weak (pss_cons h1 h2) ?_
  rintro Dn σ H ⟨F0, H0, F, Γ, r, p⟩
  refine ⟨F0, H0, F, Γ, r, ?_⟩
  revert p
  unfold sSeq
  cases g1 Γ with
  | nx Γ' => exact fun p σ' F' H' r' => ⟨F0, H0, F', Γ', r', p⟩
  | _ => exact fun p => p
theorem ds_ret (h : DE X W e f) : DS X W (.Return (some e) pos) (sRet f) := by
  refine PS.weak (ps_ret h) ?_
  rintro Dn σ H ⟨F0, H0, F, Γ, r, p⟩
  exact ⟨F0, H0, F, Γ, r, PostS.out r p fun d v F' H' _ x q p' => p' v F' H' (r.ext.trans x) q⟩
theorem ds_retO (h : DO X W e fo) : DS X W (.Return (some e) pos) (sRetO fo) := by
  refine PS.weak (ps_ret h) ?_
  rintro Dn σ H ⟨F0, H0, F, Γ, r, p⟩
  refine ⟨F0, H0, F, Γ, r, PostS.out r p fun d v F' H' _ x q p' => p' v F' H' (r.ext.trans x) ?_⟩
  obtain ⟨l, vs, e1, e2, e3, e4, e5⟩ := q
  exact ⟨l, vs, e1, e2, e3, r.ext.hh.free e4, e5⟩
theorem ds_retS (i : Nat) {x : Str} (hN : X.N[i]? = some x := by rfl) (hv : Vis X.env.scope x := by first | exact Or.inl (by kernel_rfl) | exact Or.inr (Or.inl (by kernel_rfl)) | exact Or.inr (Or.inr (by kernel_rfl))) (hd : (x == ("__debug__" : Str)) = false := by kernel_rfl)
    (hcd : (x == ("__classdict__" : Str)) = false := by kernel_rfl) : DS X W (.Return (some (.Name x p)) pos) (sRetS i) := by
  refine PS.weak (ps_ret (pe_var hN hv hd hcd)) ?_
  rintro Dn σ H ⟨F0, H0, F, Γ, r, p⟩
  revert p
  unfold sRetS
  cases e : Env.at_ Γ i with
  | none => exact fun p => p.elim
  | some s =>
    cases s with
    | hdc _ _ _ => exact fun p => p.elim
    | abs _ _ => exact fun p => p.elim
    | oob b c ns fs => exact fun p => p.elim
    | hnd _ _ => exact fun p => p.elim
    | val d => exact fun p => p.elim
    | own ds =>
      intro p
      obtain ⟨v, h1, h2⟩ := r.slot i _ (at_get e)
      exact ⟨v, h1, p v F H r.ext h2⟩
    | dic ks ds => exact fun p => p.elim
theorem ds_if {c : Expr} {as bs : List Stmt} (hc : DT X W c ft) (ha : DSs X W as g1) (hb : DSs X W bs g2) : DS X W (.If c as bs pos) (sIf ft g1 g2) := by
  refine PS.weak (ps_if hc ha hb) ?_
  rintro Dn σ H ⟨F0, H0, F, Γ, r, p⟩
  refine ⟨F0, H0, F, Γ, r, PostS.out r p fun k k' F' H' _ x q p' => ?_⟩
  have e : k' = k := q
  subst e
  cases k' with
  | true => exact iteT ⟨F0, H0, F', Γ, r.step x, p'⟩
  | false => exact iteF ⟨F0, H0, F', Γ, r.step x, p'⟩
theorem RpL.of {K : PySem.W.Frag} {mg : Str → Option Value} {F : Hp} : ∀ {ds : List D} {vs : List V}, ds.length = vs.length → (∀ (i : Nat) (d : D) (v : V), ds[i]? = some d → vs[i]? = some v → Rp K mg F d v) → RpL K mg F ds vs
  | [], [], _, _ => RpL.nil
  | [], _ :: _, h, _ => by cases h
  | _ :: _, [], h, _ => by cases h
  | d :: ds, v :: vs, h, k => RpL.cons (k 0 d v rfl rfl) (RpL.of (by simpa using h) fun i d' v' e1 e2 => k (i + 1) d' v' (by simpa using e1) (by simpa using e2))
open Classical in
theorem Rel.freezeB {K : PySem.W.Frag} {mg : Str → Option Value} {F0 : Fe} {H0 F H : Hp} {σ : L2.St} {Γ : DL.Env} (r : Rel K mg F0 H0 F H σ Γ) {i : Nat} {b : Bool} {c : Str} {ns : List Str} {fs : List Fl} (ei : Γ[i]? = some (some (.oob b c ns fs))) :
    ∃ F', Rel K mg F0 H0 F' H σ (Γ.set i (some (.val (.obj c ns (fs.map Fl.frz))))) ∧ Same F F' := by
  obtain ⟨v, hv, sv⟩ := r.slot i _ ei
  have sv0 := sv
  obtain ⟨a, C, dx, vs, e, ec, eh, el, el2, ef, e0, hf, hi2⟩ := sv
  have hi : i < Γ.length := (List.getElem?_eq_some_iff.mp ei).1
  let F1 : Hp := fun l => if foot H (.oob b c ns fs) v l then H l else F l
  have inF : ∀ l, foot H (.oob b c ns fs) v l → F1 l = H l := fun l q => if_pos q
  have outF : ∀ l, ¬ foot H (.oob b c ns fs) v l → F1 l = F l := fun l q => if_neg q
  have ss : Same F F1 := fun l o q => by
    rw [outF l fun z => by
      have := (foot_at sv0 z).choose_spec.2.1
      rw [q] at this
      cases this]
    exact q
  refine ⟨F1, ⟨⟨r.ext.ff.trans ss, fun l o q => ?_, r.ext.hh, fun l o q => ?_⟩, by rw [List.length_set]; exact r.len, fun j t q => ?_, fun j k t t' u w m ej ek hj hk os ot => ?_, r.slf.setE ei (.inl rfl)⟩, ss⟩
  · by_cases z : foot H (.oob b c ns fs) v l
    · rw [inF l z] at q
      exact .inl q
    · rw [outF l z] at q
      exact r.ext.fh l o q
  · by_cases z : foot H (.oob b c ns fs) v l
    · exact .inr (foot_at sv0 z).choose_spec.2.2
    · rw [outF l z] at q
      exact r.ext.new l o q
  · by_cases z : i = j
    · subst z
      rw [List.getElem?_set_self hi] at q
      cases q
      refine ⟨v, hv, ?_⟩
      show Rp K mg F1 (.obj c ns (fs.map Fl.frz)) v
      unfold Rp
      refine ⟨a, C, dx, vs, e, ec, by rw [inF a (Or.inl e)]; exact eh, el, RpL.of (by rw [List.length_map, el2]) fun k d u h1 h2 => ?_⟩
      rw [List.getElem?_map, Option.map_eq_some_iff] at h1
      obtain ⟨f, h3, rfl⟩ := h1
      have hk := hf k f u h3 h2
      cases f with
      | val d => exact Rp.mono ss _ _ hk
      | own ds =>
        obtain ⟨l, us, g1, g2, g3, g4, g5⟩ := hk
        show Rp K mg F1 (.lst ds) u
        unfold Rp
        exact ⟨l, us, g1, by rw [inF l (Or.inr ⟨a, C, dx, vs, k, _, e, eh, el, h3, rfl, by rw [h2, g1]⟩)]; exact g2, RpL.mono ss _ _ g5⟩
      | dic ks ds =>
        obtain ⟨l, us, g1, g2, gl, g3, g4, g5⟩ := hk
        show Rp K mg F1 (.dk ks ds) u
        unfold Rp
        exact ⟨l, us, g1, by rw [inF l (Or.inr ⟨a, C, dx, vs, k, _, e, eh, el, h3, rfl, by rw [h2, g1]⟩)]; exact g2, gl, RpL.mono ss _ _ g5⟩
    · rw [List.getElem?_set_ne z] at q
      obtain ⟨w, h1, h2⟩ := r.slot j t q
      refine ⟨w, h1, h2.gen ss (fun m y => ?_) (fun m ob _ y => y) fun m y => (foot_at h2 y).choose_spec.2.2⟩
      rw [outF m fun y2 => z (r.inj i j _ t v w m ei q hv h1 y2 y)]
      exact (foot_at h2 y).choose_spec.2.1
  · have nj : i ≠ j := fun q => by
      subst q
      rw [List.getElem?_set_self hi] at ej
      cases ej
      exact os
    have nk : i ≠ k := fun q => by
      subst q
      rw [List.getElem?_set_self hi] at ek
      cases ek
      exact ot
    rw [List.getElem?_set_ne nj] at ej
    rw [List.getElem?_set_ne nk] at ek
    exact r.inj j k t t' u w m ej ek hj hk os ot
theorem frz_rel (r : Rel X.K X.mg F0 H0 F H σ Γ) (i : Nat) : ∃ F', Rel X.K X.mg F0 H0 F' H σ (Env.frz Γ i) ∧ Same F F' := by
  unfold Env.frz
  cases e : Env.at_ Γ i with
  | none => exact ⟨F, r, Same.refl _⟩
  | some s =>
    cases s with
    | hdc _ ks ds => exact r.freezeHD (at_get e)
    | abs b a =>
      have e' : Γ.set i (some (Slot.frz (.abs b a))) = Γ := by
        have q := at_get e
        apply List.ext_getElem?
        intro j
        by_cases h : i = j
        · subst h
          rw [List.getElem?_set_self (List.getElem?_eq_some_iff.mp q).1, q]
          rfl
        · rw [List.getElem?_set_ne h]
      show ∃ F', Rel X.K X.mg F0 H0 F' H σ (Γ.set i (some (Slot.frz (.abs b a)))) ∧ Same F F'
      rw [e']
      exact ⟨F, r, Same.refl _⟩
    | val d =>
      have e' : Γ.set i (some (Slot.frz (.val d))) = Γ := by
        have q := at_get e
        apply List.ext_getElem?
        intro j
        by_cases h : i = j
        · subst h
          rw [List.getElem?_set_self (List.getElem?_eq_some_iff.mp q).1, q]
          rfl
        · rw [List.getElem?_set_ne h]
      show ∃ F', Rel X.K X.mg F0 H0 F' H σ (Γ.set i (some (Slot.frz (.val d)))) ∧ Same F F'
      rw [e']
      exact ⟨F, r, Same.refl _⟩
    | own ds => exact r.freeze (at_get e)
    | dic ks ds => exact r.freezeD (at_get e)
    | oob b c ns fs => exact r.freezeB (at_get e)
    | hnd _ ds => exact r.freezeH (at_get e)
theorem ds_frz (i : Nat) (h : DS X W st g) : DS X W st (sFrz i g) := by
  refine PS.weak h ?_
  rintro Dn σ H ⟨F0, H0, F, Γ, r, p⟩
  obtain ⟨F', r', _⟩ := frz_rel r i
  exact ⟨F0, H0, F', _, r', p⟩
theorem de_bor (i : Nat) (h : DE X W e f) : DE X W e (eBor i f) := by
  refine PE.weak h ?_
  rintro σ H Q ⟨F0, H0, F, Γ, r, p⟩
  obtain ⟨F', r', ss⟩ := frz_rel r i
  refine ⟨F0, H0, F', _, r', ?_⟩
  revert p
  unfold eBor
  cases f (Env.frz Γ i) with
  | ok d =>
    intro p
    obtain ⟨c, p⟩ := ifR p
    intro v F1 H1 x q
    have x' : Ext F H F H1 := ⟨Same.refl _, x.fh.sub (ss.trans x.ff), x.hh, fun _ _ z => .inl z⟩
    refine PostG.at p x' ?_
    have q' : Rp X.K X.mg F1 d v := q
    show Rp X.K X.mg F d v
    cases d with
    | non => rw [q'.non_iff]; exact Rp.non
    | bl b => rw [q'.bl_iff]; exact Rp.bl
    | int b => rw [q'.int_iff]; exact Rp.int
    | str b => rw [q'.str_iff]; exact Rp.str
    | _ => exact absurd c (by simp [D.scal])
  | exc x => exact fun p => p.elim
  | stuck => exact fun p => p.elim
theorem de_ownIx (i : Nat) {x : Str} (hb : DE X W b f) (hx : PlainIx b) (hN : X.N[i]? = some x := by rfl) (hv : Vis X.env.scope x := by first | exact Or.inl (by kernel_rfl) | exact Or.inr (Or.inl (by kernel_rfl)) | exact Or.inr (Or.inr (by kernel_rfl))) (hd : (x == ("__debug__" : Str)) = false := by kernel_rfl)
    (hcd : (x == ("__classdict__" : Str)) = false := by kernel_rfl) : DE X W (.Subscript (.Name x p) b pos) (eOwnIx i f) := by
  refine PE.weak (pe_ix ix_seq (pe_var hN hv hd hcd) hb hx) ?_
  rintro σ H Q ⟨F0, H0, F, Γ, r, p⟩
  revert p
  unfold eOwnIx
  cases e : Env.at_ Γ i with
  | none => exact fun p => p.elim
  | some s =>
    cases s with
    | hdc _ _ _ => exact fun p => p.elim
    | abs _ _ => exact fun p => p.elim
    | oob b c ns fs => exact fun p => p.elim
    | hnd m ds =>
      intro p
      obtain ⟨v, h1, l, vs, e1, e2, e3, e4, e5⟩ := r.slot i _ (at_get e)
      subst e1
      refine ⟨_, h1, F0, H0, F, Γ, r, PostG.bind p (fun k w F1 H1 _ x1 r1 p1 => ?_) fun _ _ _ _ _ h => h⟩
      cases k with
      | int k =>
        rw [(show Rp X.K X.mg F1 (.int k) w from r1).int_iff]
        have p' : PostG X.K X.mg (repV X.K X.mg) F1 H1 (WE W σ) Q (match atI ds k with | some d => .ok d | none => .stuck) := p1
        cases ek : atI ds k with
        | none => rw [ek] at p'; exact p'.elim
        | some d =>
          rw [ek] at p'
          obtain ⟨w, h1, h2⟩ := atI_rp (RpL.mono x1.ff _ _ e5) ek
          exact .inl ⟨l, vs, k, w, rfl, rfl, SqL.of (x1.hh _ _ e2), h1, PostG.ok p' x1.fh h2⟩
      | _ => exact p1.elim
    | val d =>
      intro p
      obtain ⟨v, h1, rp⟩ := r.slot i _ (at_get e)
      have rp : Rp X.K X.mg F d v := rp
      exact ⟨v, h1, F0, H0, F, Γ, r, PostG.bind p (fun k w F1 H1 _ x1 r1 p1 => sat_ix F1 H1 d k v w _ _ x1.fh (Rp.mono x1.ff _ _ rp) r1 p1) fun _ _ _ _ _ h => h⟩
    | dic ks ds => exact fun p => p.elim
    | own ds =>
      intro p
      obtain ⟨v, h1, l, vs, e1, e2, e3, e4, e5⟩ := r.slot i _ (at_get e)
      subst e1
      refine ⟨_, h1, F0, H0, F, Γ, r, PostG.bind p (fun k w F1 H1 _ x1 r1 p1 => ?_) fun _ _ _ _ _ h => h⟩
      cases k with
      | int k =>
        rw [(show Rp X.K X.mg F1 (.int k) w from r1).int_iff]
        have p' : PostG X.K X.mg (repV X.K X.mg) F1 H1 (WE W σ) Q (match atI ds k with | some d => .ok d | none => .stuck) := p1
        cases ek : atI ds k with
        | none => rw [ek] at p'; exact p'.elim
        | some d =>
          rw [ek] at p'
          obtain ⟨w, h1, h2⟩ := atI_rp (RpL.mono x1.ff _ _ e5) ek
          exact .inl ⟨l, vs, k, w, rfl, rfl, SqL.of (x1.hh _ _ e2), h1, PostG.ok p' x1.fh h2⟩
      | _ => exact p1.elim
def tDG (X : Cx) (vs : List Nat) (h : Tg) : TG := fun v σ H Q => ∃ F0 H0 F Γ d, Rel X.K X.mg F0 H0 F H σ Γ ∧ Rp X.K X.mg F d v ∧ ∃ Γ', h d Γ = some Γ' ∧ ∀ σ', σ'.length = σ.length → (∀ j, j ∉ vs → σ'[j]? = σ[j]?) → Rel X.K X.mg F0 H0 F H σ' Γ' → Q σ' H
def tDGs (X : Cx) (vs : List Nat) (h : Tgs) : TGs := fun us σ H Q => ∃ F0 H0 F Γ ds, Rel X.K X.mg F0 H0 F H σ Γ ∧ RpL X.K X.mg F ds us ∧ ∃ Γ', h ds Γ = some Γ' ∧ ∀ σ', σ'.length = σ.length → (∀ j, j ∉ vs → σ'[j]? = σ[j]?) → Rel X.K X.mg F0 H0 F H σ' Γ' → Q σ' H
abbrev DG (X : Cx) (tg : Expr) (vs : List Nat) (h : Tg) : Prop := PG X tg (tDG X vs h)
abbrev DGs (X : Cx) (tg : List Expr) (vs : List Nat) (h : Tgs) : Prop := PGs X tg (tDGs X vs h)
theorem PG.weak {X : Cx} {tg : Expr} {t t' : TG} (h : PG X tg t) (w : ∀ v σ H Q, t' v σ H Q → t v σ H Q) : PG X tg t' := ⟨fun pins s σ H v u Q I r q => h.run pins s σ H v u Q I r (w v σ H Q q)⟩
theorem PGs.weak {X : Cx} {tg : List Expr} {t t' : TGs} (h : PGs X tg t) (w : ∀ v σ H Q, t' v σ H Q → t v σ H Q) : PGs X tg t' := ⟨fun pins s σ H v u Q I r q => h.run pins s σ H v u Q I r (w v σ H Q q)⟩
theorem dg_name (i : Nat) {x : Str} (hN : X.N.Nodup) (hi : X.N[i]? = some x := by rfl) (hx : Loc X.env.scope x := by first | exact Or.inl (by kernel_rfl) | exact Or.inr (by kernel_rfl)) (hf : X.fn x = true ∨ X.env.scope.names.lookup x = some .local := by first | exact .inl rfl | exact .inr (by kernel_rfl) | exact .inl (by kernel_rfl)) :
    DG X (.Name x pos) [i] (gNm i) := by
  refine PG.weak (pg_name hN hi hx hf) ?_
  rintro v σ H Q ⟨F0, H0, F, Γ, d, r, q, Γ', e, k⟩
  cases e
  exact k _ (by rw [List.length_set]) (fun j hj => List.getElem?_set_ne (fun z => hj (by simp [z]))) (r.setV q)
theorem dgs_nil : DGs X [] [] gsNil := by
  refine PGs.weak pgs_nil ?_
  rintro us σ H Q ⟨F0, H0, F, Γ, ds, r, q, Γ', e, k⟩
  cases ds with
  | nil =>
    cases e
    exact ⟨q.nil_iff, k σ rfl (fun _ _ => rfl) r⟩
  | cons d r => cases e
theorem dgs_cons {vs ws : List Nat} {h : Tg} {hs : Tgs} (h1 : DG X e vs h) (h2 : DGs X es ws hs) (hst : (assignEach (e :: es) X.env).map (·.2) = assign e X.env :: (assignEach es X.env).map (·.2) := by rfl) : DGs X (e :: es) (vs ++ ws) (gsCons h hs) := by
  refine PGs.weak (pgs_cons h1 h2 hst) ?_
  rintro us σ H Q ⟨F0, H0, F, Γ, ds, r, q, Γ', e, k⟩
  cases ds with
  | nil => cases e
  | cons d ds =>
    obtain ⟨v, us', eu, r1, rr⟩ := q.cons_iff
    have e' : ((h d Γ).bind fun Γ1 => hs ds Γ1) = some Γ' := e
    cases eh : h d Γ with
    | none => rw [eh] at e'; cases e'
    | some Γ1 =>
      rw [eh] at e'
      refine ⟨v, us', eu, F0, H0, F, Γ, d, r, r1, Γ1, eh, fun σ1 l1 k1 rl1 => ?_⟩
      refine ⟨F0, H0, F, Γ1, ds, rl1, rr, Γ', e', fun σ2 l2 k2 rl2 => ?_⟩
      exact k σ2 (l2.trans l1) (fun j hj => (k2 j fun z => hj (List.mem_append_right _ z)).trans (k1 j fun z => hj (List.mem_append_left _ z))) rl2
theorem dg_tup {vs : List Nat} {k n : Nat} {hs : Tgs} (hc : X.calm = true) (h : DGs X es vs hs) (hn : (assignEach es X.env).length = n := by rfl) (hst : (assignEach es X.env).findIdx? (·.1) = none := by rfl) : DG X (.Tuple es k pos) vs (gTp n hs) := by
  refine PG.weak (pg_tup hc h hn hst) ?_
  rintro v σ H Q ⟨F0, H0, F, Γ, d, r, q, Γ', e, k⟩
  cases d with
  | tup ds =>
    obtain ⟨a, us, e1, e2, e3⟩ := q.tupH r.fz
    have e' : (if ds.length = n then hs ds Γ else none) = some Γ' := e
    by_cases hl : ds.length = n
    · rw [if_pos hl] at e'
      exact ⟨a, us, e1, SqT.of e2, by rw [← e3.length]; exact hl, F0, H0, F, Γ, ds, r, e3, Γ', e', k⟩
    · rw [if_neg hl] at e'
      cases e'
  | _ => cases e
theorem ds_asg {tg : Expr} {vs : List Nat} {h : Tg} (he : DE X W e f) (hg : DG X tg vs h) (hs : swapsWithSole [tg] e pos.line X.env = pure false := by rfl) (hw : swappedStores [tg] e X.env = pure none := by rfl)
    (h1 : (assignEach [tg] X.env).map (·.2) = [assign tg X.env] := by rfl) : DS X W (.Assign [tg] e pos) (sSet h f) := by
  refine PS.weak (ps_asg he hg hs hw h1) ?_
  rintro Dn σ H ⟨F0, H0, F, Γ, r, p⟩
  refine ⟨F0, H0, F, Γ, r, PostS.out r p fun d v F' H' _ x q p' => ?_⟩
  cases eh : h d Γ with
  | none => rw [eh] at p'; exact p'.elim
  | some Γ' =>
    rw [eh] at p'
    exact ⟨F0, H0, F', Γ, d, r.step x, q, Γ', eh, fun σ' _ _ r' => p' _ _ _ r'⟩
theorem ds_setO (i : Nat) {x : Str} (hN : X.N.Nodup) (he : DO X W e fo) (hi : X.N[i]? = some x := by rfl) (hx : Loc X.env.scope x := by first | exact Or.inl (by kernel_rfl) | exact Or.inr (by kernel_rfl)) (hf : X.fn x = true ∨ X.env.scope.names.lookup x = some .local := by first | exact .inl rfl | exact .inr (by kernel_rfl) | exact .inl (by kernel_rfl))
    (hs : swapsWithSole [.Name x p] e pos.line X.env = pure false := by rfl) (hw : swappedStores [.Name x p] e X.env = pure none := by rfl)
    (h1 : (assignEach [.Name x p] X.env).map (·.2) = [assign (.Name x p) X.env] := by rfl) : DS X W (.Assign [.Name x p] e pos) (sSetO i fo) := by
  refine PS.weak (ps_asg he (pg_name hN hi hx hf) hs hw h1) ?_
  rintro Dn σ H ⟨F0, H0, F, Γ, r, p⟩
  exact ⟨F0, H0, F, Γ, r, PostS.out r p fun ds v F' H' _ x q p' => p' _ _ _ (r.setO x (s := .own ds) rfl q)⟩
theorem ds_setD (i : Nat) {x : Str} {fd : DL.Env → R (List Key × List D)} (hN : X.N.Nodup) (he : DDt X W e fd) (hi : X.N[i]? = some x := by rfl) (hx : Loc X.env.scope x := by first | exact Or.inl (by kernel_rfl) | exact Or.inr (by kernel_rfl)) (hf : X.fn x = true ∨ X.env.scope.names.lookup x = some .local := by first | exact .inl rfl | exact .inr (by kernel_rfl) | exact .inl (by kernel_rfl))
    (hs : swapsWithSole [.Name x p] e pos.line X.env = pure false := by rfl) (hw : swappedStores [.Name x p] e X.env = pure none := by rfl)
    (h1 : (assignEach [.Name x p] X.env).map (·.2) = [assign (.Name x p) X.env] := by rfl) : DS X W (.Assign [.Name x p] e pos) (sSetD i fd) := by
  refine PS.weak (ps_asg he (pg_name hN hi hx hf) hs hw h1) ?_
  rintro Dn σ H ⟨F0, H0, F, Γ, r, p⟩
  exact ⟨F0, H0, F, Γ, r, PostS.out r p fun ds v F' H' _ x q p' => p' _ _ _ (r.setO x (s := .dic ds.1 ds.2) rfl q)⟩
theorem ds_append (i : Nat) {x : Str} {p1 p2 cpos : Pos} (he : DE X W e f) (hN : X.N[i]? = some x := by rfl) (hv : Vis X.env.scope x := by first | exact Or.inl (by kernel_rfl) | exact Or.inr (Or.inl (by kernel_rfl)) | exact Or.inr (Or.inr (by kernel_rfl))) (hd : (x == ("__debug__" : Str)) = false := by kernel_rfl)
    (hcd : (x == ("__classdict__" : Str)) = false := by kernel_rfl) (hs1 : starEach [e] X.env = (false, eval e X.env) :: starEach [] X.env := by rfl) (hline : (p2.endLine == cpos.line) = true := by rfl)
    (hfew : ((backTo cpos (starEach [e] X.env)).all (fun x => !x.1) && (backToKw cpos (keywordEach [] X.env)).all (fun x => x.1.isSome)
      && decide (([e] : List Expr).length + ([] : List Keyword).length + (if ([] : List Keyword).isEmpty then 0 else 1) < 30)) = true := by rfl)
    (hs : swapsWith (.Call (.Attribute (.Name x p1) "append" p2) [e] [] cpos) none pos.line X.env = pure false := by rfl) :
    DS X W (.Expr (.Call (.Attribute (.Name x p1) "append" p2) [e] [] cpos) pos) (sApp i f) := by
  refine PS.weak (ps_expr (pe_bm PySem.F.plainAttrs_list PySem.F.slot_list_append PySem.F.type_list_append mt_append (pe_var hN hv hd hcd) (pa_cons he pa_nil hs1) rfl hfew hline hs1) hs) ?_
  rintro Dn σ H ⟨F0, H0, F, Γ, r, p⟩
  revert p
  unfold sApp
  cases ei : Env.at_ Γ i with
  | none => exact fun p => p.elim
  | some s =>
    cases s with
    | hdc _ _ _ => exact fun p => p.elim
    | abs _ _ => exact fun p => p.elim
    | oob b c ns fs => exact fun p => p.elim
    | hnd _ _ => exact fun p => p.elim
    | val d => exact fun p => p.elim
    | dic ks ds => exact fun p => p.elim
    | own ds =>
      intro p
      obtain ⟨v, h1, l, vs, e1, e2, e3, e4, e5⟩ := r.slot i _ (at_get ei)
      subst e1
      refine ⟨_, h1, .inl ⟨rfl, _, SqL.of e2⟩, F0, H0, F, Γ, r, PostS.out r p fun d w F1 H1 _ x1 r1 p1 => ?_⟩
      by_cases hl : ds.length < LIM
      · rw [if_pos hl] at p1
        refine ⟨l, vs, w, rfl, rfl, x1.hh _ _ e2, by rw [LIM_eq, ← e5.length]; exact hl, p1 _ F1 _ ?_⟩
        have r' := r.step x1
        obtain ⟨_, _, l', vs', f1, f2, f3, f4, f5⟩ := r'.slot i _ (at_get ei)
        refine r'.mutO (at_get ei) rfl h1 rfl ?_
        refine ⟨l, vs ++ [w], rfl, upd_same, ?_, e4, RpL.append (RpL.mono x1.ff _ _ e5) (RpL.cons r1 RpL.nil)⟩
        cases q : F1 l with
        | none => rfl
        | some o =>
          rcases x1.new l o q with z | z
          · rw [e3] at z; cases z
          · rw [e2] at z; cases z
      · rw [if_neg hl] at p1
        exact p1.elim
def WalkD (K : PySem.W.Frag) (mg : Str → Option Value) (F' : Hp) (ds : List D) (J : It) : Prop :=
  Walk J ds.length (fun H => Fz F' H) (fun i H x H'' => ∀ Fc, Same F' Fc → Fz Fc H → ∃ Fi d, Ext Fc H Fi H'' ∧ ds[i]? = some d ∧ Rp K mg Fi d x)
def tDI (X : Cx) (W : WX) (f : DL.Env → R (List D)) : TI := fun σ H Rr => ∃ F0 H0 F Γ, Rel X.K X.mg F0 H0 F H σ Γ ∧ PostG X.K X.mg (fun _ F' _ ds J => WalkD X.K X.mg F' ds J) F H (WE W σ) Rr (f Γ)
abbrev DI (X : Cx) (W : WX) (tg iter : Expr) (f : DL.Env → R (List D)) : Prop := PI X tg iter (tDI X W f)
theorem PI.weak {X : Cx} {tg iter : Expr} {t t' : TI} (h : PI X tg iter t) (w : ∀ σ H Q, t' σ H Q → t σ H Q) : PI X tg iter t' := ⟨fun pins s σ H Q I q => h.run pins s σ H Q I (w σ H Q q)⟩
theorem Rel.rebase {F' : Hp} (r : Rel X.K X.mg F0 H0 F H σ Γ) (s0 : Same F0 F') (s : Same F' F) : Rel X.K X.mg ⟨F', F0.sv⟩ H0 F H σ Γ :=
  ⟨⟨s, r.ext.fh, r.ext.hh, fun a o e => by
    rcases r.ext.new a o e with z | z
    · exact .inl (s0 _ _ z)
    · exact .inr z⟩, r.len, r.slot, r.inj, r.slf⟩
theorem Rel.unbase {F' : Hp} (r : Rel X.K X.mg ⟨F', F0.sv⟩ H0 F H σ Γ) (s0 : Same F0 F') (h : ∀ a o, F' a = some o → F0 a = some o ∨ H0 a = none) : Rel X.K X.mg F0 H0 F H σ Γ :=
  ⟨⟨s0.trans r.ext.ff, r.ext.fh, r.ext.hh, fun a o e => by
    rcases r.ext.new a o e with z | z
    · exact h a o z
    · exact .inr z⟩, r.len, r.slot, r.inj, r.slf⟩
theorem Ext.unbase {F' F2 H2 : Hp} (r : Ext F' H0 F2 H2) (s0 : Same F0 F') (h : ∀ a o, F' a = some o → F0 a = some o ∨ H0 a = none) : Ext F0 H0 F2 H2 :=
  ⟨s0.trans r.ff, r.fh, r.hh, fun a o e => by
    rcases r.new a o e with z | z
    · exact h a o z
    · exact .inr z⟩
theorem PostS.unbase {F' : Hp} {o : Out} (s0 : Same F0 F') (h : ∀ a o, F' a = some o → F0 a = some o ∨ H0 a = none) (p : PostS X W F0 H0 Dn o) : PostS X W ⟨F', F0.sv⟩ H0 Dn o := by
  cases o with
  | nx Γ => exact fun σ F H r => p σ F H (r.unbase s0 h)
  | bk Γ => exact fun σ F H r => p σ F H (r.unbase s0 h)
  | ct Γ => exact fun σ F H r => p σ F H (r.unbase s0 h)
  | rt d => exact fun v F H r q => p v F H (r.unbase s0 h) q
  | ro d => exact fun v F H r q => p v F H (r.unbase s0 h) q
  | rs d Γ => exact fun v σ F H r q => p v σ F H (r.unbase s0 h) q
  | exc x Γ => exact fun cls od σ F H r q => p cls od σ F H (r.unbase s0 h) q
  | stuck => exact p
theorem ds_for {tg iter : Expr} {body : List Stmt} {vs : List Nat} {h : Tg} (hp : PassesOwn (model X.prog X.w) X.A X.env X.xe) (hc : X.calm = true) (hi : DI X W tg iter fo) (hg : DG X tg vs h) (hb : DSs X W body g)
    (hs : ∀ x, foldedSetIterable iter X.env x = pure x := by intro _; rfl) : DS X W (.For tg iter body [] pos) (sFor fo h g) := by
  refine PS.weak (ps_for hp hc hi hg hb hs) ?_
  rintro Dn σ H ⟨F0, H0, F, Γ, r, p⟩
  refine ⟨F0, H0, F, Γ, r, PostS.out r p fun ds J F' H' _ x w p' => ?_⟩
  have s0 : Same F0 F' := r.ext.ff.trans x.ff
  have n0 : ∀ a o, F' a = some o → F0 a = some o ∨ H0 a = none := (r.ext.trans x).new
  refine for_it w (fun i σ H => ∃ F Γ, Rel X.K X.mg ⟨F', F0.sv⟩ H0 F H σ Γ ∧ PostS X W F0 H0 Dn (loopF h g (ds.drop i) Γ)) ⟨F', Γ, (r.step x).rebase s0 (Same.refl _), by simpa using p'⟩ (fun i σ H _ ⟨F1, Γ1, r1, _⟩ => r1.ext.fh.sub r1.ext.ff) ?_ ?_
  · rintro i xv σ1 H1 H2 hi ⟨F1, Γ1, r1, p1⟩ y
    obtain ⟨F2, d, x2, ed, rd⟩ := y F1 r1.ext.ff r1.ext.fh
    have edr : ds.drop i = d :: ds.drop (i + 1) := by
      obtain ⟨hlt, he⟩ := List.getElem?_eq_some_iff.mp ed
      rw [← he]
      exact List.drop_eq_getElem_cons hlt
    rw [edr] at p1
    unfold loopF at p1
    cases eh : h d Γ1 with
    | none => rw [eh] at p1; exact p1.elim
    | some Γ2 =>
      rw [eh] at p1
      refine ⟨⟨F', F0.sv⟩, H0, F2, Γ1, d, r1.step x2, rd, Γ2, eh, fun σ2 _ _ r2 => ?_⟩
      refine ⟨⟨F', F0.sv⟩, H0, F2, Γ2, r2, ?_⟩
      revert p1
      dsimp only
      cases eg : g Γ2 with
      | nx Γ3 => exact fun p1 σ3 F3 H3 r3 => ⟨F3, Γ3, r3, p1⟩
      | ct Γ3 => exact fun p1 σ3 F3 H3 r3 => ⟨F3, Γ3, r3, p1⟩
      | bk Γ3 => exact fun p1 σ3 F3 H3 r3 => p1 σ3 F3 H3 (r3.unbase s0 n0)
      | rt d => exact fun p1 => PostS.unbase (o := .rt d) s0 n0 p1
      | ro d => exact fun p1 => PostS.unbase (o := .ro d) s0 n0 p1
      | rs d Γ => exact fun p1 => PostS.unbase (o := .rs d Γ) s0 n0 p1
      | exc x Γ => exact fun p1 => PostS.unbase (o := .exc x Γ) s0 n0 p1
      | stuck => exact fun p1 => p1
  · rintro σ1 H1 ⟨F1, Γ1, r1, p1⟩
    have ed : ds.drop ds.length = [] := List.drop_length
    rw [ed] at p1
    exact p1 σ1 F1 H1 (r1.unbase s0 n0)
theorem walkD_list {K : PySem.W.Frag} {mg : Str → Option Value} {F' : Hp} {ds : List D} {vs : List V} {a : Addr} (e : F' a = some (.lst vs)) (r : RpL K mg F' ds vs) : WalkD K mg F' ds (Itl K a) := by
  have w := walk_list (K := K) (a := a) (xs := vs)
  unfold WalkD
  rw [r.length]
  refine w.mono (fun H z => SqL.of (z.lst e)) fun i H x H' hi z y Fc s zc => ?_
  obtain ⟨rfl, ex⟩ := y
  obtain ⟨d, ed, rd⟩ := r.getV ex
  exact ⟨Fc, d, Ext.refl zc, ed, Rp.mono s _ _ rd⟩
theorem walkD_scr {K : PySem.W.Frag} {mg : Str → Option Value} {F' : Hp} {ns : List Int} {a : Addr} (e : SqL K F' a (ns.map V.int)) : WalkD K mg F' (ns.map D.int) (Itl K a) := by
  have w := walk_list (K := K) (a := a) (xs := ns.map V.int)
  unfold WalkD
  rw [List.length_map] at w ⊢
  refine w.mono (fun H z => z.seq e) fun i H x H' hi z y Fc s zc => ?_
  obtain ⟨rfl, ex⟩ := y
  rw [List.getElem?_map] at ex
  cases en : ns[i]? with
  | none => rw [en] at ex; cases ex
  | some n =>
    rw [en] at ex
    cases ex
    exact ⟨Fc, .int n, Ext.refl zc, by rw [List.getElem?_map, en]; rfl, Rp.int⟩
def D.items : D → R (List D)
  | .lst ds => .ok ds
  | .scr ns => .ok (ns.map D.int)
  | _ => .stuck
def D.itemsT : D → R (List D)
  | .tup ds => .ok ds
  | _ => .stuck
def iOf (f : DL.Env → R D) : DL.Env → R (List D) := fun Γ => (f Γ).bind D.items
def iOfT (f : DL.Env → R D) : DL.Env → R (List D) := fun Γ => (f Γ).bind D.itemsT
theorem di_list {tg : Expr} (h : DE X W e f) : DI X W tg e (iOf f) := by
  refine PI.weak (pi_list h) ?_
  rintro σ H Q ⟨F0, H0, F, Γ, r, p⟩
  refine ⟨F0, H0, F, Γ, r, PostG.bind p (fun d v F1 H1 _ x1 r1 p1 => ?_) fun _ _ _ _ _ h => h⟩
  have r1 : Rp X.K X.mg F1 d v := r1
  cases d with
  | lst ds =>
    obtain ⟨a, vs, e1, e2, e3⟩ := r1.lst_iff
    exact ⟨a, e1, ⟨vs, SqL.of (x1.fh.lst e2)⟩, PostG.ok p1 x1.fh (walkD_list e2 e3)⟩
  | scr ns =>
    obtain ⟨a, e1, e2⟩ := r1.scr_iff
    exact ⟨a, e1, ⟨_, x1.fh.seq e2⟩, PostG.ok p1 x1.fh (walkD_scr e2)⟩
  | _ => exact p1.elim
def rngL (lo : Int) (n : Nat) : List D := (List.range n).map fun (i : Nat) => D.int (lo + i)
def inR62 (i : Int) : Bool := decide (-4611686018427387904 ≤ i) && decide (i < 4611686018427387904)
def iRange1 : List D → R (List D)
  | [.int j] => if inR62 j then .ok (rngL 0 j.toNat) else .stuck
  | _ => .stuck
def iCall (g : List D → R (List D)) (f : DL.Env → R (List D)) : DL.Env → R (List D) := fun Γ => (f Γ).bind g
theorem rngL_len (lo : Int) (n : Nat) : (rngL lo n).length = n := by unfold rngL; rw [List.length_map, List.length_range]
theorem walkD_range {K : PySem.W.Frag} {mg : Str → Option Value} {F' : Hp} {lo : Int} {n : Nat} : WalkD K mg F' (rngL lo n) (Itr lo n) := by
  have w := walk_range (lo := lo) (n := n)
  unfold WalkD
  rw [rngL_len]
  refine w.mono (fun H z => trivial) fun i H x H' hi z y Fc s zc => ?_
  obtain ⟨rfl, rfl⟩ := y
  refine ⟨Fc, .int (lo + i), Ext.refl zc, ?_, Rp.int⟩
  unfold rngL
  rw [List.getElem?_map, List.getElem?_range hi]
  rfl
theorem in62 {i : Int} (h : inR62 i = true) : -(2 ^ 62) ≤ i ∧ i < 2 ^ 62 := by
  obtain ⟨h1, h2⟩ := andB h
  have h1 := of_decide_eq_true h1
  have h2 := of_decide_eq_true h2
  omega
theorem di_range1 {tg : Expr} (hg : Gl X "range") (hm : X.mg "range" = none) (ha : DA X W [a] fo) (hs : starEach [a] X.env = [(false, eval a X.env)] := by rfl) : DI X W tg (.Call (.Name "range" p) [a] [] pos) (iCall iRange1 fo) := by
  refine PI.weak (pi_range1 hg hm ha hs) ?_
  rintro σ H Q ⟨F0, H0, F, Γ, r, p⟩
  refine ⟨F0, H0, F, Γ, r, PostG.bind p (fun ds vs F1 H1 _ x1 r1 p1 => ?_) fun _ _ _ _ _ h => h⟩
  cases ds with
  | nil => exact p1.elim
  | cons d ds =>
    cases ds with
    | cons _ _ => exact (by cases d <;> exact p1.elim)
    | nil =>
      obtain ⟨v, e1, r2⟩ := (show RpL X.K X.mg F1 [d] vs from r1).one
      cases d with
      | int j =>
        obtain ⟨c, p2⟩ := ifR p1
        obtain ⟨c1, c2⟩ := in62 c
        exact ⟨j, by rw [e1, r2.int_iff], c1, c2, PostG.ok p2 x1.fh walkD_range⟩
      | _ => exact p1.elim
end
theorem wipeE_len (Γ : DL.Env) : ∀ vs : List Nat, (wipeE Γ vs).length = Γ.length
  | [] => rfl
  | v :: vs => by unfold wipeE; rw [List.length_set, wipeE_len Γ vs]
theorem wipeE_get {Γ : DL.Env} {i : Nat} {s : Slot} : ∀ {vs : List Nat}, (wipeE Γ vs)[i]? = some (some s) → Γ[i]? = some (some s) ∧ i ∉ vs
  | [], h => ⟨h, by simp⟩
  | v :: vs, h => by
    unfold wipeE at h
    by_cases hi : v = i
    · subst hi
      by_cases hv : v < (wipeE Γ vs).length
      · rw [List.getElem?_set_self hv] at h; cases h
      · rw [List.getElem?_eq_none (by simpa using hv)] at h; cases h
    · rw [List.getElem?_set_ne hi] at h
      obtain ⟨h1, h2⟩ := wipeE_get h
      exact ⟨h1, by simp only [List.mem_cons, not_or]; exact ⟨fun e => hi e.symm, h2⟩⟩
theorem wipe_out {σ : L2.St} {i : Nat} : ∀ {vs : List Nat}, i ∉ vs → (wipe σ vs)[i]? = σ[i]?
  | [], _ => rfl
  | v :: vs, h => by
    simp only [List.mem_cons, not_or] at h
    unfold wipe
    rw [List.getElem?_set_ne (fun e => h.1 e.symm)]
    exact wipe_out h.2
theorem wipe_in {σ : L2.St} {i : Nat} : ∀ {vs : List Nat}, i ∈ vs → (wipe σ vs)[i]? = if i < σ.length then some none else none
  | [], h => by cases h
  | v :: vs, h => by
    unfold wipe
    by_cases e : v = i
    · subst e
      by_cases hl : v < σ.length
      · rw [if_pos hl, List.getElem?_set_self (by rw [wipe_length]; exact hl)]
      · rw [if_neg hl, List.getElem?_eq_none (by rw [List.length_set, wipe_length]; omega)]
    · rw [List.getElem?_set_ne e]
      rcases List.mem_cons.mp h with z | z
      · exact absurd z.symm e
      · exact wipe_in z
theorem wipe_same {σ σ' : L2.St} {vs : List Nat} (l : σ'.length = σ.length) (h : ∀ j, j ∉ vs → σ'[j]? = σ[j]?) : wipe σ' vs = wipe σ vs := by
  apply List.ext_getElem?
  intro j
  by_cases hj : j ∈ vs
  · rw [wipe_in hj, wipe_in hj, l]
  · rw [wipe_out hj, wipe_out hj, h j hj]
theorem wipe_wipe {σ : L2.St} {vs : List Nat} : wipe (wipe σ vs) vs = wipe σ vs := by
  apply List.ext_getElem?
  intro j
  by_cases hj : j ∈ vs
  · rw [wipe_in hj, wipe_in hj, wipe_length]
  · rw [wipe_out hj, wipe_out hj]
section
variable {K : PySem.W.Frag} {mg : Str → Option Value} {F0 : Fe} {H0 F H : Hp} {σ : L2.St} {Γ : DL.Env}
theorem Rel.wipe (r : Rel K mg F0 H0 F H σ Γ) (vs : List Nat) : Rel K mg F0 H0 F H (L2.wipe σ vs) (wipeE Γ vs) := by
  have back : ∀ {j : Nat} {v : V}, (L2.wipe σ vs)[j]? = some (some v) → σ[j]? = some (some v) := fun h => (wipe_some h).1
  refine ⟨r.ext, by rw [wipe_length, wipeE_len]; exact r.len, fun i s e => ?_, fun i j s t v u l ei ej hi hj os ot => ?_, fun i s k v e1 tk e2 => r.slf i s k v (wipeE_get e1).1 tk (back e2)⟩
  · obtain ⟨e1, e2⟩ := wipeE_get e
    obtain ⟨v, h1, h2⟩ := r.slot i s e1
    exact ⟨v, by rw [wipe_out e2]; exact h1, h2⟩
  · exact r.inj i j s t v u l (wipeE_get ei).1 (wipeE_get ej).1 (back hi) (back hj) os ot
end
section
variable {X : Cx} {W : WX}
abbrev DTs (X : Cx) (W : WX) (ifs : List Expr) (f : DL.Env → R Bool) : Prop := PTs X ifs (tDT X W f)
def bYes : DL.Env → R Bool := fun _ => .ok true
theorem PTs.weak {X : Cx} {ifs : List Expr} {t t' : TT} (h : PTs X ifs t) (w : ∀ σ H Q, t' σ H Q → t σ H Q) : PTs X ifs t' := ⟨fun pins s σ H Q I q => h.run pins s σ H Q I (w σ H Q q)⟩
theorem dts_nil : DTs X W [] bYes := PTs.weak pts_nil fun σ H Q ⟨_, _, _, _, r, p⟩ => PostG.ok p r.fz rfl
abbrev W0 : WX := fun _ _ _ _ => False
theorem lc_read {own : List (Str × Nat)} {fi : DL.Env → R (List D)} {h : Tg} {ft : DL.Env → R Bool} {fe : DL.Env → R D} : ∀ (σ : L2.St) (H : Hp) (Q : VK), tDO X W (oLc (own.map (·.2)) fi h ft fe) σ H Q →
    tLc (tDI X W fi) (tDG X (own.map (fun q : Str × Nat => q.2)) h) (tDT X W0 ft) (tD X W0 fe) (own.map (·.2)) σ H Q := by
  rintro σ H Q ⟨F0, H0, F, Γ, r, p⟩
  refine ⟨F0, H0, F, Γ, r, PostG.bind p (fun ds J F1 H1 _ x1 w p1 => ?_) upO⟩
  intro A hA
  have p1 : PostG X.K X.mg (repO X.K X.mg) F1 H1 (WE W σ) Q (match lcF h ft fe (wipeE Γ (own.map (·.2))) ds with | .ok es => if ds.length ≤ LIM then .ok es else .stuck | _ => .stuck) := p1
  cases el : lcF h ft fe (wipeE Γ (own.map (·.2))) ds with
  | exc x => rw [el] at p1; exact p1.elim
  | stuck => rw [el] at p1; exact p1.elim
  | ok es =>
    rw [el] at p1
    obtain ⟨hlen, p2⟩ := ifR p1
    have rw0 := (r.step x1).wipe (own.map (·.2))
    have nFA : F1 A = none := x1.fh.free hA
    -- behind i turns: the list at A holds the trees made so far
    refine lc_it w (fun i Hc => ∃ Fc acc ws, Fz Fc Hc ∧ Same F1 Fc ∧ (∀ b o, H1 b = some o → Hc b = some o) ∧ (∀ b o, Fc b = some o → F1 b = some o ∨ H1 b = none) ∧ Hc A = some (.lst ws) ∧ Fc A = none ∧ RpL X.K X.mg Fc acc ws ∧ acc.length ≤ i ∧
        (match lcF h ft fe (wipeE Γ (own.map (·.2))) (ds.drop i) with | .ok r => acc ++ r = es | _ => False)) ?_ (fun i Hc _ ⟨Fc, _, _, z, s, _⟩ => z.sub s) ?_ ?_
    · refine ⟨F1, [], [], (Ext.heap x1.fh hA).fh, Same.refl _, (Ext.heap (o := .lst []) x1.fh hA).hh, fun _ _ e => .inl e, upd_same, nFA, RpL.nil, Nat.le_refl _, ?_⟩
      show (match lcF h ft fe (wipeE Γ (own.map (·.2))) ds with | .ok r => [] ++ r = es | _ => False)
      rw [el]
      rfl
    · rintro i xv Hc Hc2 hi ⟨Fc, acc, ws, z, s, hh, nw, eA, fA, racc, la, eq⟩ y
      obtain ⟨F2, d, x2, ed, rd⟩ := y Fc s z
      have edr : ds.drop i = d :: ds.drop (i + 1) := by
        obtain ⟨hlt, he⟩ := List.getElem?_eq_some_iff.mp ed
        rw [← he]
        exact List.drop_eq_getElem_cons hlt
      rw [edr] at eq
      have rel1 : Rel X.K X.mg F0 H0 F2 Hc2 (L2.wipe σ (own.map (·.2))) (wipeE Γ (own.map (·.2))) := by
        have e1 : Ext F1 H1 F2 Hc2 := ⟨s.trans x2.ff, x2.fh, fun b o e => x2.hh _ _ (hh _ _ e), fun b o e => by
          rcases x2.new b o e with q | q
          · exact nw b o q
          · exact .inr (by
              cases e3 : H1 b with
              | none => rfl
              | some u => rw [hh _ _ e3] at q; cases q)⟩
        exact rw0.step e1
      have hA2 : Hc2 A = some (.lst ws) := x2.hh _ _ eA
      have fA2 : F2 A = none := by
        cases q : F2 A with
        | none => rfl
        | some o =>
          rcases x2.new A o q with z | z
          · rw [fA] at z; cases z
          · rw [eA] at z; cases z
      unfold lcF at eq
      cases eh : h d (wipeE Γ (own.map (·.2))) with
      | none => rw [eh] at eq; exact eq.elim
      | some Γ1 =>
        rw [eh] at eq
        refine ⟨F0, H0, F2, wipeE Γ (own.map (·.2)), d, rel1, rd, Γ1, eh, fun σ2 l2 k2 r2 => ⟨(wipe_same l2 k2).trans wipe_wipe, ?_⟩⟩
        cases et : ft Γ1 with
        | exc x => simp only [et] at eq
        | stuck => simp only [et] at eq
        | ok k =>
          refine ⟨F0, H0, F2, Γ1, r2, ?_⟩
          rw [et]
          intro k' F3 H3 x3 ek
          have ek : k' = k := ek
          subst ek
          have up3 : Ext Fc Hc F3 H3 := x2.trans x3
          have fA3 : F3 A = none := by
            cases q : F3 A with
            | none => rfl
            | some o =>
              rcases up3.new A o q with z | z
              · rw [fA] at z; cases z
              · rw [eA] at z; cases z
          have nw3 : ∀ b o, F3 b = some o → F1 b = some o ∨ H1 b = none := fun b o e => by
            rcases up3.new b o e with q | q
            · exact nw b o q
            · exact .inr (by
                cases e3 : H1 b with
                | none => rfl
                | some u => rw [hh _ _ e3] at q; cases q)
          cases k' with
          | false =>
            simp only [et] at eq
            exact iteF ⟨F3, acc, ws, up3.fh, s.trans up3.ff, fun b o e => up3.hh _ _ (hh _ _ e), nw3, up3.hh _ _ eA, fA3, RpL.mono up3.ff _ _ racc, Nat.le_succ_of_le la, eq⟩
          | true =>
            simp only [et] at eq
            refine iteT ⟨F0, H0, F3, Γ1, r2.step x3, ?_⟩
            cases ee : fe Γ1 with
            | exc x => simp only [ee] at eq
            | stuck => simp only [ee] at eq
            | ok e =>
              simp only [ee] at eq
              intro v F4 H4 x4 rv
              have up4 := up3.trans x4
              have fA4 : F4 A = none := by
                cases q : F4 A with
                | none => rfl
                | some o =>
                  rcases up4.new A o q with z | z
                  · rw [fA] at z; cases z
                  · rw [eA] at z; cases z
              have hA4 := up4.hh _ _ eA
              refine ⟨ws, hA4, ?_, ?_⟩
              · rw [LIM_eq, ← racc.length]
                have : i < LIM := Nat.lt_of_lt_of_le hi hlen
                omega
              · have nA : ∀ {b : Addr} {o : HO}, F4 b = some o → b ≠ A := fun e q => by rw [q, fA4] at e; cases e
                refine ⟨F4, acc ++ [e], ws ++ [v], fun b o q => ?_, s.trans up4.ff, fun b o q => ?_, fun b o q => ?_, upd_same, fA4, RpL.append (RpL.mono up4.ff _ _ racc) (RpL.cons rv RpL.nil), by simp; omega, ?_⟩
                · rw [upd_ne (nA q)]
                  exact up4.fh b o q
                · rw [upd_ne (fun z => by rw [z, hA] at q; cases q)]
                  exact up4.hh _ _ (hh _ _ q)
                · rcases up4.new b o q with z | z
                  · exact nw b o z
                  · exact .inr (by
                      cases e3 : H1 b with
                      | none => rfl
                      | some u => rw [hh _ _ e3] at z; cases z)
                · cases er : lcF h ft fe (wipeE Γ (own.map (·.2))) (ds.drop (i + 1)) with
                  | exc x => simp only [er] at eq
                  | stuck => simp only [er] at eq
                  | ok r =>
                    simp only [er] at eq ⊢
                    rw [← eq]
                    simp
    · rintro Hc ⟨Fc, acc, ws, z, s, hh, nw, eA, fA, racc, la, eq⟩
      have ed : ds.drop ds.length = [] := List.drop_length
      rw [ed] at eq
      have eq : acc ++ [] = es := eq
      rw [List.append_nil] at eq
      subst eq
      exact PostG.at p2 ⟨s, z, hh, nw⟩ ⟨A, ws, rfl, eA, fA, hA, racc⟩
theorem do_lc {elt tg iter : Expr} {ifs : List Expr} {scope : Scope} {own : List (Str × Nat)} {pos : Pos} {fi : DL.Env → R (List D)} {h : Tg} {ft : DL.Env → R Bool} {fe : DL.Env → R D} (hc : X.calm = true) (hN : X.N.Nodup) (hi : DI X W tg iter fi) (ok : BlkOk X.N X.env.scope scope own)
    (hg : ∀ (s : Shared) (H : Hp) (C : Addr) (cl : List (Str × Addr)) (fp : List Addr), DG (X.blk s H scope (compEnvC scope cl C X.env) fp) tg (own.map (·.2)) h) (ht : ∀ (s : Shared) (H : Hp) (C : Addr) (cl : List (Str × Addr)) (fp : List Addr), DTs (X.blk s H scope (compEnvC scope cl C X.env) fp) W0 ifs ft)
    (he : ∀ (s : Shared) (H : Hp) (C : Addr) (cl : List (Str × Addr)) (fp : List Addr), DE (X.blk s H scope (compEnvC scope cl C X.env) fp) W0 elt fe) (hs : ∀ x, foldedSetIterable iter X.env x = pure x := by intro _; rfl) :
    DO X W (.ListComp elt [⟨tg, iter, ifs, 0⟩] scope pos) (oLc (own.map (·.2)) fi h ft fe) := by
  exact PE.weak (pe_lc (g := tDG X (own.map (fun q : Str × Nat => q.2)) h) (tt := tDT X W0 ft) (te := tD X W0 fe) hc hN hi ok (fun s H C cl fp => hg s H C cl fp) (fun s H C cl fp => ht s H C cl fp) (fun s H C cl fp => he s H C cl fp) hs) lc_read
theorem ds_setLc (i : Nat) {y : Str} {py : Pos} {elt tg iter : Expr} {ifs : List Expr} {scope : Scope} {own : List (Str × Nat)} {pos spos : Pos} {fi : DL.Env → R (List D)} {h : Tg} {ft : DL.Env → R Bool} {fe : DL.Env → R D} (hc : X.calm = true) (hN : X.N.Nodup) (hyl : X.env.scope.names.lookup y = some .local)
    (hsw : swapsWith (.ListComp elt [⟨tg, iter, ifs, 0⟩] scope pos) (some (.Name y py)) spos.line X.env = pure true) (hi : DI X W tg iter fi) (ok : BlkOk X.N X.env.scope scope own)
    (hg : ∀ (s : Shared) (H : Hp) (C : Addr) (cl : List (Str × Addr)) (fp : List Addr), DG (X.blk s H scope (compEnvC scope cl C X.env) fp) tg (own.map (·.2)) h) (ht : ∀ (s : Shared) (H : Hp) (C : Addr) (cl : List (Str × Addr)) (fp : List Addr), DTs (X.blk s H scope (compEnvC scope cl C X.env) fp) W0 ifs ft)
    (he : ∀ (s : Shared) (H : Hp) (C : Addr) (cl : List (Str × Addr)) (fp : List Addr), DE (X.blk s H scope (compEnvC scope cl C X.env) fp) W0 elt fe) (hy : X.N[i]? = some y := by rfl) (hs : ∀ x, foldedSetIterable iter X.env x = pure x := by intro _; rfl) :
    DS X W (.Assign [.Name y py] (.ListComp elt [⟨tg, iter, ifs, 0⟩] scope pos) spos) (sSetO i (oLc (own.map (·.2)) fi h ft fe)) := by
  refine PS.weak (ps_setLc (g := tDG X (own.map (fun q : Str × Nat => q.2)) h) (tt := tDT X W0 ft) (te := tD X W0 fe) hc hN hy hyl hsw hi ok (fun s H C cl fp => hg s H C cl fp) (fun s H C cl fp => ht s H C cl fp) (fun s H C cl fp => he s H C cl fp) hs) ?_
  rintro Dn σ H ⟨F0, H0, F, Γ, r, p⟩
  exact lc_read (X := X) (W := W) (fi := fi) (ft := ft) (fe := fe) (h := h) σ H _ ⟨F0, H0, F, Γ, r, PostS.out r p fun ds v F' H' _ x q p' => p' _ _ _ (r.setO x (s := .own ds) rfl q)⟩
end
def Out.fin : Out → R D
  | .nx _ => .ok .non
  | .rt d => .ok d
  | .rs d _ => .ok d
  | .ro ds => .ok (.lst ds)
  | .exc x _ => .exc x
  | _ => .stuck
def Out.finO : Out → R (List D)
  | .ro ds => .ok ds
  | .exc x _ => .exc x
  | _ => .stuck
def stE (N : Nat) (ds : List D) : DL.Env := (ds.map fun d => some (Slot.val d)) ++ List.replicate (N - ds.length) none
def mk (N : Nat) (g : DL.Env → Out) : List D → R D := fun ds => (g (stE N ds)).fin
def mkO (N : Nat) (g : DL.Env → Out) : List D → R (List D) := fun ds => (g (stE N ds)).finO
def spD (K : PySem.W.Frag) (mg : Str → Option Value) (n : Nat) (m : List D → R D) : Sp := fun vs H Q E => ∃ F ds, ds.length = n ∧ Fz F H ∧ RpL K mg F ds vs ∧ PostG K mg (repV K mg) F H E Q (m ds)
def spO (K : PySem.W.Frag) (mg : Str → Option Value) (n : Nat) (m : List D → R (List D)) : Sp := fun vs H Q E => ∃ F ds, ds.length = n ∧ Fz F H ∧ RpL K mg F ds vs ∧ PostG K mg (repO K mg) F H E Q (m ds)
theorem spD_len {K : PySem.W.Frag} {mg : Str → Option Value} {n : Nat} {m : List D → R D} {vs : List V} {H : Hp} {Q : VK} {E : XK} (h : spD K mg n m vs H Q E) : vs.length = n := by
  obtain ⟨F, ds, l, _, r, _⟩ := h
  rw [← r.length, l]
theorem spO_len {K : PySem.W.Frag} {mg : Str → Option Value} {n : Nat} {m : List D → R (List D)} {vs : List V} {H : Hp} {Q : VK} {E : XK} (h : spO K mg n m vs H Q E) : vs.length = n := by
  obtain ⟨F, ds, l, _, r, _⟩ := h
  rw [← r.length, l]
theorem start_rel {K : PySem.W.Frag} {mg : Str → Option Value} {F H : Hp} {sv : Nat → V} {N : List Str} {ds : List D} {vs : List V} (z : Fz F H) (r : RpL K mg F ds vs) (hl : ds.length ≤ N.length) : Rel K mg ⟨F, sv⟩ H F H (L2.start N vs) (stE N.length ds) := by
  have hv : ∀ (i : Nat) (s : Slot), (stE N.length ds)[i]? = some (some s) → ∃ d, ds[i]? = some d ∧ s = .val d := fun i s e => by
    unfold stE at e
    by_cases hi : i < ds.length
    · rw [List.getElem?_append_left (by simpa using hi), List.getElem?_map] at e
      cases ed : ds[i]? with
      | none => rw [ed] at e; cases e
      | some d =>
        rw [ed] at e
        cases e
        exact ⟨d, rfl, rfl⟩
    · rw [List.getElem?_append_right (by simpa using hi), List.getElem?_replicate] at e
      split at e <;> cases e
  refine ⟨Ext.refl z, ?_, fun i s e => ?_, fun i j s t v u l ei ej hi hj os => ?_, fun i s k v e1 tk _ => by
    obtain ⟨_, _, e⟩ := hv i _ e1
    subst e
    cases tk⟩
  · unfold L2.start stE
    simp only [List.length_append, List.length_map, List.length_replicate]
    rw [r.length]
  · obtain ⟨d, ed, rfl⟩ := hv i s e
    obtain ⟨v, ev, rv⟩ := r.get ed
    refine ⟨v, ?_, rv⟩
    unfold L2.start
    rw [List.getElem?_append_left (by simpa using (List.getElem?_eq_some_iff.mp ev).1), List.getElem?_map, ev]
    rfl
  · obtain ⟨d, _, rfl⟩ := hv i s ei
    cases os
abbrev WOf (E : XK) : WX := fun cls d _ H => E cls d H
section
variable {P : Program} {w : World} {K : PySem.W.Frag} {mg : Str → Option Value} {base : Heap} {x qual : Str} {params : Arguments} {body : List Stmt} {scope : Scope} {f : Addr} {fd : FuncData} {N ps : List Str} {k : Nat} {g : DL.Env → Out}
theorem fn_ok (Fd : FunD K x qual params body scope [] [] f fd) (S : FnScope N ps scope) (hl : ps.length ≤ N.length)
    (hb : ∀ (cdv : Value) (A : Around) (outer : List PySem.Env) (s : Shared) (H : Hp) (E : XK), Room k (A.deeper (PyProof.Rows.envOfC qual scope s.heap.objs.size f cdv)) → DSs (cxOf (L2.CX P w) P w K mg base N qual scope f cdv A outer s H E) (WOf E) body g) :
    FnOk P w K mg base (L2.CX P w) (k + 1) f fd ps (spD K mg ps.length (mk N.length g)) := by
  refine Fd.ok S (fun vs H Q E h => spD_len h) fun cdv A outer s H vs Q E hr h => ?_
  obtain ⟨F, ds, l, z, r, p⟩ := h
  refine ⟨_, hb cdv A outer s H E hr, ⟨F, fun _ => .non⟩, H, F, stE N.length ds, start_rel z r (by rw [l]; exact hl), ?_⟩
  revert p
  unfold mk
  cases g (stE N.length ds) with
  | nx Γ => exact fun p σ F1 H1 r1 => p _ F1 H1 r1.ext Rp.non
  | rt d => exact fun p v F1 H1 x1 r1 => p v F1 H1 x1 r1
  | ro ds =>
    intro p v F1 H1 x1 r1
    obtain ⟨F2, x2, r2, _⟩ := frzO x1 r1
    exact p v F2 H1 x2 r2
  | rs d Γ => exact fun p v σ F1 H1 r1 q => p v F1 H1 r1.ext q
  | exc x Γ => exact fun p cls od σ F1 H1 r1 q => p cls od F1 H1 r1.ext q
  | bk Γ => exact fun p => p.elim
  | ct Γ => exact fun p => p.elim
  | stuck => exact fun p => p.elim
theorem fn_okO (Fd : FunD K x qual params body scope [] [] f fd) (S : FnScope N ps scope) (hl : ps.length ≤ N.length)
    (hb : ∀ (cdv : Value) (A : Around) (outer : List PySem.Env) (s : Shared) (H : Hp) (E : XK), Room k (A.deeper (PyProof.Rows.envOfC qual scope s.heap.objs.size f cdv)) → DSs (cxOf (L2.CX P w) P w K mg base N qual scope f cdv A outer s H E) (WOf E) body g) :
    FnOk P w K mg base (L2.CX P w) (k + 1) f fd ps (spO K mg ps.length (mkO N.length g)) := by
  refine Fd.ok S (fun vs H Q E h => spO_len h) fun cdv A outer s H vs Q E hr h => ?_
  obtain ⟨F, ds, l, z, r, p⟩ := h
  refine ⟨_, hb cdv A outer s H E hr, ⟨F, fun _ => .non⟩, H, F, stE N.length ds, start_rel z r (by rw [l]; exact hl), ?_⟩
  revert p
  unfold mkO
  cases g (stE N.length ds) with
  | ro ds => exact fun p v F1 H1 x1 r1 => p v F1 H1 x1 r1
  | rs d Γ => exact fun p => p.elim
  | exc x Γ => exact fun p cls od σ F1 H1 r1 q => p cls od F1 H1 r1.ext q
  | nx Γ => exact fun p => p.elim
  | rt d => exact fun p => p.elim
  | bk Γ => exact fun p => p.elim
  | ct Γ => exact fun p => p.elim
  | stuck => exact fun p => p.elim
end
section
variable {X : Cx} {W : WX} {k : Nat} {f : Addr} {fd : FuncData} {ps : List Str} {n : Nat} {x : Str} {e : Expr} {es : List Expr} {p pos : Pos} {fs : DL.Env → R (List D)}
def eFn (n : Nat) (m : List D → R D) (f : DL.Env → R (List D)) : DL.Env → R D := fun Γ => (f Γ).bind fun ds => if ds.length = n then m ds else .stuck
def oFn (n : Nat) (m : List D → R (List D)) (f : DL.Env → R (List D)) : DL.Env → R (List D) := fun Γ => (f Γ).bind fun ds => if ds.length = n then m ds else .stuck
abbrev OkW (X : Cx) (W : WX) : Prop := ∀ σ, PassesAt (L2.CX X.prog X.w) X σ (WE W σ)
theorem okW0 {X : Cx} : OkW X W0 := fun σ _ _ _ _ _ _ h => by
  obtain ⟨_, _, _, _, _, _, _, _, _, _, _, _, z⟩ := h
  exact z.elim
theorem de_fn {m : List D → R D} (G : FnOk X.prog X.w X.K X.mg X.base (L2.CX X.prog X.w) k f fd ps (spD X.K X.mg n m)) (hr : Room k X.A) (hg : Gl X x) (hm : X.mg x = some (.ref f)) (hk : PySem.W.keepIn X.K (.ref f) = true) (hb : Binds X.K fd ps []) (hx : OkW X W)
    (ha : DA X W (e :: es) fs) (hdb : (x == ("__debug__" : Str)) = false := by kernel_rfl) (he : starEach (e :: es) X.env = (false, eval e X.env) :: starEach es X.env := by rfl) (hpl : (backTo pos (starEach es X.env)).any (·.1) = false := by rfl) :
    DE X W (.Call (.Name x p) (e :: es) [] pos) (eFn n m fs) := by
  refine PE.weak (pe_callSD G hr hg hm hk hb .nil hx ha hdb he hpl) ?_
  rintro σ H Q ⟨F0, H0, F, Γ, r, p⟩
  refine ⟨F0, H0, F, Γ, r, PostG.bind p (fun ds vs F1 H1 _ x1 r1 p1 => ?_) fun _ _ _ _ _ h => h⟩
  obtain ⟨hl, p2⟩ := ifR p1
  rw [List.append_nil]
  exact ⟨F1, ds, hl, x1.fh, r1, p2⟩
theorem do_fn {m : List D → R (List D)} (G : FnOk X.prog X.w X.K X.mg X.base (L2.CX X.prog X.w) k f fd ps (spO X.K X.mg n m)) (hr : Room k X.A) (hg : Gl X x) (hm : X.mg x = some (.ref f)) (hk : PySem.W.keepIn X.K (.ref f) = true) (hb : Binds X.K fd ps []) (hx : OkW X W)
    (ha : DA X W (e :: es) fs) (hdb : (x == ("__debug__" : Str)) = false := by kernel_rfl) (he : starEach (e :: es) X.env = (false, eval e X.env) :: starEach es X.env := by rfl) (hpl : (backTo pos (starEach es X.env)).any (·.1) = false := by rfl) :
    DO X W (.Call (.Name x p) (e :: es) [] pos) (oFn n m fs) := by
  refine PE.weak (pe_callSD G hr hg hm hk hb .nil hx ha hdb he hpl) ?_
  rintro σ H Q ⟨F0, H0, F, Γ, r, p⟩
  refine ⟨F0, H0, F, Γ, r, PostG.bind p (fun ds vs F1 H1 _ x1 r1 p1 => ?_) upO⟩
  obtain ⟨hl, p2⟩ := ifR p1
  rw [List.append_nil]
  exact ⟨F1, ds, hl, x1.fh, r1, p2⟩
theorem okWOf {P : Program} {w : World} {K : PySem.W.Frag} {mg : Str → Option Value} {base : Heap} {N : List Str} {qual : Str} {scope : Scope} {f : Addr} {cdv : Value} {A : Around} {outer : List PySem.Env} {s : Shared} {H : Hp} {E : XK} :
    OkW (cxOf (L2.CX P w) P w K mg base N qual scope f cdv A outer s H E) (WOf E) := fun σ => passAt (takes_of rfl rfl rfl rfl) σ
theorem passOwnOf {P : Program} {w : World} {K : PySem.W.Frag} {mg : Str → Option Value} {base : Heap} {N : List Str} {qual : Str} {scope : Scope} {f : Addr} {cdv : Value} {A : Around} {outer : List PySem.Env} {s : Shared} {H : Hp} {E : XK} :
    PassesOwn (model P w) (cxOf (L2.CX P w) P w K mg base N qual scope f cdv A outer s H E).A (cxOf (L2.CX P w) P w K mg base N qual scope f cdv A outer s H E).env (cxOf (L2.CX P w) P w K mg base N qual scope f cdv A outer s H E).xe := passes_of rfl
end
end DL
namespace DL
open PySem PySem.Spec L2
section
variable {X : Cx} {W : WX} {F0 : Fe} {H0 F H : Hp} {σ : L2.St} {Γ : DL.Env} {Dn : Ends} {e a b c : Expr} {es : List Expr} {g : DL.Env → Out} {f fa fb : DL.Env → R D} {fo : DL.Env → R (List D)} {ft : DL.Env → R Bool} {pos p : Pos}
theorem items_rp {K : PySem.W.Frag} {mg : Str → Option Value} {F : Hp} {d : D} {v : V} {ds : List D} (r : Rp K mg F d v) (h : d.items = .ok ds) : ∃ a vs, v = .ref a ∧ SqL K F a vs ∧ RpL K mg F ds vs := by
  cases d with
  | lst xs =>
    cases h
    obtain ⟨a, vs, e1, e2, e3⟩ := r.lst_iff
    exact ⟨a, vs, e1, SqL.of e2, e3⟩
  | scr ns =>
    cases h
    obtain ⟨a, e1, e2⟩ := r.scr_iff
    exact ⟨a, _, e1, e2, RpL.ints⟩
  | _ => cases h
def enumL : Nat → List D → List D
  | _, [] => []
  | i, d :: ds => .tup [.int i, d] :: enumL (i + 1) ds
theorem enumL_len (i : Nat) (ds : List D) : (enumL i ds).length = ds.length := by
  induction ds generalizing i with
  | nil => rfl
  | cons d ds ih => show (enumL (i + 1) ds).length + 1 = _; rw [ih]; rfl
theorem enumL_get {i j : Nat} {ds : List D} {d : D} (h : ds[j]? = some d) : (enumL i ds)[j]? = some (.tup [.int ((i + j : Nat) : Int), d]) := by
  induction ds generalizing i j with
  | nil => simp at h
  | cons x xs ih =>
    cases j with
    | zero =>
      have e : x = d := by simpa using h
      subst e
      rfl
    | succ j =>
      show (enumL (i + 1) xs)[j]? = _
      rw [ih (by simpa using h)]
      congr 5
      omega
def iEnumD : List D → R (List D) := fun ds => match ds with
  | [d] => d.items.bind fun xs => .ok (enumL 0 xs)
  | _ => .stuck
theorem walkD_enum {K : PySem.W.Frag} {mg : Str → Option Value} {F' : Hp} {ds : List D} {vs : List V} {a : Addr} (e : SqL K F' a vs) (r : RpL K mg F' ds vs) : WalkD K mg F' (enumL 0 ds) (Ite K a) := by
  have w := walk_enum (K := K) (a := a) (xs := vs)
  unfold WalkD
  rw [enumL_len, r.length]
  refine w.mono (fun H z => z.seq e) fun i H x H' hi z y Fc s zc => ?_
  obtain ⟨T, u, v, e1, nT, e2, e3, e4⟩ := y
  subst e1 e2
  cases e3
  obtain ⟨d, ed, rd⟩ := r.getV e4
  have x2 := Ext.laid (o := .tup [.int (i : Nat), v]) zc nT
  refine ⟨_, .tup [.int ((i : Nat) : Int), d], x2, ?_, Rp.tup upd_same (RpL.cons Rp.int (RpL.cons (Rp.mono (s.trans x2.ff) _ _ rd) RpL.nil))⟩
  rw [enumL_get ed]
  simp
theorem di_enum {elts : List Expr} {kk : Nat} {tpos : Pos} (hg : Gl X "enumerate") (hm : X.mg "enumerate" = none) (ha : DA X W [a] fo) (hs : starEach [a] X.env = [(false, eval a X.env)] := by rfl) :
    DI X W (.Tuple elts kk tpos) (.Call (.Name "enumerate" p) [a] [] pos) (iCall iEnumD fo) := by
  refine PI.weak (pi_enum hg hm ha hs) ?_
  rintro σ H Q ⟨F0, H0, F, Γ, r, p⟩
  refine ⟨F0, H0, F, Γ, r, PostG.bind p (fun ds vs F1 H1 _ x1 r1 p1 => ?_) fun _ _ _ _ _ h => h⟩
  have r1 : RpL X.K X.mg F1 ds vs := r1
  cases ds with
  | nil => exact p1.elim
  | cons d ds =>
    cases ds with
    | cons _ _ => exact p1.elim
    | nil =>
      obtain ⟨v, e1, r2⟩ := r1.one
      have p1 : PostG X.K X.mg (fun _ F' _ ds J => WalkD X.K X.mg F' ds J) F1 H1 (WE W σ) Q (d.items.bind fun xs => .ok (enumL 0 xs)) := p1
      cases ei : d.items with
      | ok xs =>
        rw [ei] at p1
        obtain ⟨a, us, e2, e3, e4⟩ := items_rp r2 ei
        exact ⟨a, us, by rw [e1, e2], x1.fh.seq e3, PostG.ok p1 x1.fh (walkD_enum e3 e4)⟩
      | exc x => cases d <;> cases ei
      | stuck => rw [ei] at p1; exact p1.elim
def zipL : List D → List D → List D
  | d :: ds, e :: es => .tup [d, e] :: zipL ds es
  | _, _ => []
theorem zipL_len : ∀ ds es : List D, (zipL ds es).length = min ds.length es.length
  | [], es => by simp [zipL]
  | d :: ds, [] => by simp [zipL]
  | d :: ds, e :: es => by
    show (zipL ds es).length + 1 = _
    rw [zipL_len ds es]
    simp only [List.length_cons]
    omega
theorem zipL_get : ∀ {ds es : List D} {j : Nat} {d e : D}, ds[j]? = some d → es[j]? = some e → (zipL ds es)[j]? = some (.tup [d, e])
  | [], _, _, _, _, h, _ => by simp at h
  | _ :: _, [], _, _, _, _, h => by simp at h
  | d :: ds, e :: es, 0, _, _, h, k => by
    simp at h k
    subst h k
    rfl
  | d :: ds, e :: es, j + 1, _, _, h, k => by
    show (zipL ds es)[j]? = _
    exact zipL_get (by simpa using h) (by simpa using k)
def iZipD : List D → R (List D) := fun ds => match ds with
  | [d, e] => d.items.bind fun xs => e.items.bind fun ys => .ok (zipL xs ys)
  | _ => .stuck
theorem walkD_zip {K : PySem.W.Frag} {mg : Str → Option Value} {F' : Hp} {ds es : List D} {vs us : List V} {a b : Addr} (ea : SqL K F' a vs) (eb : SqL K F' b us) (ra : RpL K mg F' ds vs) (rb : RpL K mg F' es us) : WalkD K mg F' (zipL ds es) (Itz K a b) := by
  have w := walk_zip (K := K) (a := a) (b := b) (xs := vs) (ys := us) rfl
  unfold WalkD
  rw [zipL_len, ra.length, rb.length]
  refine w.mono (fun H z => ⟨z.seq ea, z.seq eb⟩) fun i H x H' hi z y Fc s zc => ?_
  obtain ⟨T, u, v, e1, nT, e2, e3, e4⟩ := y
  subst e1 e2
  obtain ⟨d, ed, rd⟩ := ra.getV e3
  obtain ⟨d', ed', rd'⟩ := rb.getV e4
  have x2 := Ext.laid (o := .tup [u, v]) zc nT
  exact ⟨_, .tup [d, d'], x2, zipL_get ed ed', Rp.tup upd_same (RpL.cons (Rp.mono (s.trans x2.ff) _ _ rd) (RpL.cons (Rp.mono (s.trans x2.ff) _ _ rd') RpL.nil))⟩
theorem di_zip {e2 : Expr} {elts : List Expr} {kk : Nat} {tpos : Pos} (hg : Gl X "zip") (hm : X.mg "zip" = none) (ha : DA X W [a, e2] fo)
    (hs : starEach [a, e2] X.env = (false, eval a X.env) :: starEach [e2] X.env := by rfl) (hpl : (backTo pos (starEach [e2] X.env)).any (·.1) = false := by rfl) :
    DI X W (.Tuple elts kk tpos) (.Call (.Name "zip" p) [a, e2] [] pos) (iCall iZipD fo) := by
  refine PI.weak (pi_zip hg hm ha hs hpl) ?_
  rintro σ H Q ⟨F0, H0, F, Γ, r, p⟩
  refine ⟨F0, H0, F, Γ, r, PostG.bind p (fun ds vs F1 H1 _ x1 r1 p1 => ?_) fun _ _ _ _ _ h => h⟩
  have r1 : RpL X.K X.mg F1 ds vs := r1
  cases ds with
  | nil => exact p1.elim
  | cons d ds =>
    cases ds with
    | nil => exact p1.elim
    | cons d' ds =>
      cases ds with
      | cons _ _ => exact p1.elim
      | nil =>
        obtain ⟨v, u, e1, r2, r3⟩ := r1.two
        have p1 : PostG X.K X.mg (fun _ F' _ ds J => WalkD X.K X.mg F' ds J) F1 H1 (WE W σ) Q (d.items.bind fun xs => d'.items.bind fun ys => .ok (zipL xs ys)) := p1
        cases ei : d.items with
        | ok xs =>
          rw [ei] at p1
          have p1 : PostG X.K X.mg (fun _ F' _ ds J => WalkD X.K X.mg F' ds J) F1 H1 (WE W σ) Q (d'.items.bind fun ys => .ok (zipL xs ys)) := p1
          cases ej : d'.items with
          | ok ys =>
            rw [ej] at p1
            obtain ⟨a, us, e2, e3, e4⟩ := items_rp r2 ei
            obtain ⟨b, ws, f2, f3, f4⟩ := items_rp r3 ej
            exact ⟨a, b, us, ws, by rw [e1, e2, f2], x1.fh.seq e3, x1.fh.seq f3, PostG.ok p1 x1.fh (walkD_zip e3 f3 e4 f4)⟩
          | exc x => cases d' <;> cases ej
          | stuck => rw [ej] at p1; exact p1.elim
        | exc x => cases d <;> cases ei
        | stuck => rw [ei] at p1; exact p1.elim
def iRevD : List D → R (List D) := fun ds => match ds with
  | [d] => d.items.bind fun xs => .ok xs.reverse
  | _ => .stuck
def rngDn (lo : Int) (n : Nat) : List D := (List.range n).map fun (i : Nat) => D.int (lo + (i : Nat) * (-1))
def iRange3 : List D → R (List D) := fun ds => match ds with
  | [.int i, .int j, .int k] => if inR62 i && inR62 j && decide (k = -1) then .ok (rngDn i (i - j).toNat) else .stuck
  | _ => .stuck
theorem walkD_dn {K : PySem.W.Frag} {mg : Str → Option Value} {F' : Hp} {lo : Int} {n : Nat} : WalkD K mg F' (rngDn lo n) (Itc lo (-1) n) := by
  have w := walk_rangeC (lo := lo) (c := -1) (n := n)
  unfold WalkD
  have hl : (rngDn lo n).length = n := by unfold rngDn; rw [List.length_map, List.length_range]
  rw [hl]
  refine w.mono (fun H z => trivial) fun i H x H' hi z y Fc s zc => ?_
  obtain ⟨rfl, rfl⟩ := y
  refine ⟨Fc, .int (lo + (i : Nat) * (-1)), Ext.refl zc, ?_, Rp.int⟩
  unfold rngDn
  rw [List.getElem?_map, List.getElem?_range hi]
  rfl
theorem di_range3 {tg : Expr} (hg : Gl X "range") (hm : X.mg "range" = none) (ha : DA X W [a, b, c] fo)
    (hs : starEach [a, b, c] X.env = (false, eval a X.env) :: starEach [b, c] X.env := by rfl) (hpl : (backTo pos (starEach [b, c] X.env)).any (·.1) = false := by rfl) : DI X W tg (.Call (.Name "range" p) [a, b, c] [] pos) (iCall iRange3 fo) := by
  refine PI.weak (pi_range3 hg hm ha hs hpl) ?_
  rintro σ H Q ⟨F0, H0, F, Γ, r, p⟩
  refine ⟨F0, H0, F, Γ, r, PostG.bind p (fun ds vs F1 H1 _ x1 r1 p1 => ?_) fun _ _ _ _ _ h => h⟩
  have r1 : RpL X.K X.mg F1 ds vs := r1
  cases ds with
  | nil => exact p1.elim
  | cons d1 ds =>
    cases ds with
    | nil => cases d1 <;> exact p1.elim
    | cons d2 ds =>
      cases ds with
      | nil => cases d1 <;> cases d2 <;> exact p1.elim
      | cons d3 ds =>
        cases ds with
        | cons _ _ => cases d1 <;> first | exact p1.elim | (cases d2 <;> first | exact p1.elim | (cases d3 <;> exact p1.elim))
        | nil =>
          cases d1 with
          | int i =>
            cases d2 with
            | int j =>
              cases d3 with
              | int k =>
                obtain ⟨v1, us, e1, r2, r3⟩ := r1.cons_iff
                obtain ⟨v2, v3, e2, r4, r5⟩ := r3.two
                obtain ⟨cc, p2⟩ := ifR p1
                obtain ⟨c1, c2⟩ := andB cc
                obtain ⟨c3, c4⟩ := andB c1
                obtain ⟨q1, q2⟩ := in62 c3
                obtain ⟨q3, q4⟩ := in62 c4
                have ek := of_decide_eq_true c2
                subst ek
                exact ⟨i, j, -1, (i - j).toNat, by rw [e1, e2, r2.int_iff, r4.int_iff, r5.int_iff], RgC.neg q1 q2 q3 q4, PostG.ok p2 x1.fh walkD_dn⟩
              | _ => exact p1.elim
            | _ => exact p1.elim
          | _ => exact p1.elim
def signsD (z : Str) : List D := z.cps.toList.map fun c => D.str ⟨#[c]⟩
def D.itemsS : D → R (List D)
  | .str z => .ok (signsD z)
  | _ => .stuck
def iOfS (f : DL.Env → R D) : DL.Env → R (List D) := fun Γ => (f Γ).bind D.itemsS
def cutL {α : Type} (xs : List α) (lo hi : Option Int) : List α := (xs.drop (HT.sIx xs.length 0 lo)).take (HT.sIx xs.length xs.length hi - HT.sIx xs.length 0 lo)
def oSl1 (d : D) (lo hi : Option Int) : R (List D) := d.items.bind fun xs => .ok (cutL xs lo hi)
def sl1 (d : D) (lo hi : Option Int) : R D := match d with
  | .lst xs => .ok (.lst (cutL xs lo hi))
  | .scr ns => .ok (.lst (cutL (ns.map D.int) lo hi))
  | .tup xs => if decide (HT.sIx xs.length 0 lo = 0) && decide (HT.sIx xs.length xs.length hi = xs.length) then .stuck else .ok (.tup (cutL xs lo hi))
  | .str z => if z.length ≤ LIM then .ok (.str (cutS z lo hi)) else .stuck
  | _ => .stuck
theorem PO.weak {X : Cx} {e : Option Expr} {t t' : TO} (h : PO X e t) (w : ∀ σ H Q, t' σ H Q → t σ H Q) : PO X e t' := ⟨fun pins s σ H Q I q => h.run pins s σ H Q I (w σ H Q q)⟩
def pNo : DL.Env → R (Option Int) := fun _ => .ok none
def asI : D → R (Option Int)
  | .int i => .ok (some i)
  | _ => .stuck
def pSo (f : DL.Env → R D) : DL.Env → R (Option Int) := fun Γ => (f Γ).bind asI
def eSl (f : DL.Env → R D) (fl fh : DL.Env → R (Option Int)) : DL.Env → R D := fun Γ => (f Γ).bind fun d => (fl Γ).bind fun lo => (fh Γ).bind fun hi => sl1 d lo hi
def oSl (f : DL.Env → R D) (fl fh : DL.Env → R (Option Int)) : DL.Env → R (List D) := fun Γ => (f Γ).bind fun d => (fl Γ).bind fun lo => (fh Γ).bind fun hi => oSl1 d lo hi
def oRev (f : DL.Env → R D) : DL.Env → R (List D) := fun Γ => (f Γ).bind fun d => d.items.bind fun xs => .ok xs.reverse
end
end DL
namespace DL
open PySem PySem.Spec L2
def oList : List D → R (List D) := fun ds => match ds with
  | [.lst xs] => .ok xs
  | [.scr ns] => .ok (ns.map D.int)
  | [.tup xs] => .ok xs
  | _ => .stuck
def sClear (i : Nat) : DL.Env → Out := fun Γ => match Env.at_ Γ i with
  | some (.own _) => .nx (Γ.set i (some (.own [])))
  | _ => .stuck
def sPop (i : Nat) : DL.Env → Out := fun Γ => match Env.at_ Γ i with
  | some (.own ds) => if ds = [] then .stuck else .nx (Γ.set i (some (.own ds.dropLast)))
  | _ => .stuck
section
variable {X : Cx} {W : WX} {F0 : Fe} {H0 F H : Hp} {σ : L2.St} {Γ : DL.Env} {Dn : Ends} {e a b c : Expr} {es : List Expr} {g : DL.Env → Out} {f fa fb fk fv : DL.Env → R D} {fo : DL.Env → R (List D)} {ft : DL.Env → R Bool} {pos p : Pos}
theorem satO_list : SatLO X (fun xs H Q => ∃ p ys, xs = [.ref p] ∧ (SqL X.K H p ys ∨ SqT X.K H p ys) ∧ ∀ l, H l = none → Q (.ref l) (upd H l (.lst ys))) oList := by
  intro F H ds vs E Q z r p
  cases ds with
  | nil => exact p.elim
  | cons d ds =>
    cases ds with
    | cons _ _ => cases d <;> exact p.elim
    | nil =>
      obtain ⟨v, e, r1⟩ := r.one
      cases d with
      | lst xs =>
        obtain ⟨l, ws, e1, e2, e3⟩ := r1.lstH z
        exact ⟨l, ws, by rw [e, e1], .inl (SqL.of e2), fun q hq => PostG.at p (Ext.heap z hq) ⟨q, ws, rfl, upd_same, z.free hq, hq, e3⟩⟩
      | scr ns =>
        obtain ⟨l, e1, e2⟩ := r1.scr_iff
        exact ⟨l, _, by rw [e, e1], .inl (z.seq e2), fun q hq => PostG.at p (Ext.heap z hq) ⟨q, _, rfl, upd_same, z.free hq, hq, RpL.ints⟩⟩
      | tup xs =>
        obtain ⟨l, ws, e1, e2, e3⟩ := r1.tupH z
        exact ⟨l, ws, by rw [e, e1], .inr (SqT.of e2), fun q hq => PostG.at p (Ext.heap z hq) ⟨q, ws, rfl, upd_same, z.free hq, hq, e3⟩⟩
      | _ => exact p.elim
end
end DL
namespace DL
open PySem PySem.Spec L2
def dKey : D → Option Key
  | .int i => some (.inl i)
  | .str x => some (.inr x)
  | _ => none
section
variable {α : Type}
def lkD : List Key → List α → Key → Option α
  | k :: ks, d :: ds, j => if k = j then some d else lkD ks ds j
  | _, _, _ => none
def puV : List Key → List α → Key → α → List α
  | k :: ks, d :: ds, j, x => (if k = j then x else d) :: puV ks ds j x
  | _, _, _, _ => []
def putD (ks : List Key) (ds : List α) (j : Key) (x : α) : List Key × List α := if (lkD ks ds j).isSome = true then (ks, puV ks ds j x) else (ks ++ [j], ds ++ [x])
theorem puV_len : ∀ (ks : List Key) (ds : List α) (j : Key) (x : α), ks.length = ds.length → (puV ks ds j x).length = ks.length
  | [], [], _, _, _ => rfl
  | [], _ :: _, _, _, h => by simp at h
  | _ :: _, [], _, _, h => by simp at h
  | k :: ks, d :: ds, j, x, h => by
    show (puV ks ds j x).length + 1 = _
    rw [puV_len ks ds j x (by simpa using h)]
    rfl
theorem putD_len (ks : List Key) (ds : List α) (j : Key) (x : α) (h : ks.length = ds.length) : (putD ks ds j x).1.length = (putD ks ds j x).2.length := by
  unfold putD
  split
  · exact (puV_len ks ds j x h).symm
  · simp [h]
end
theorem lkD_valV : ∀ (ks : List Key) (vs : List V) (j : Key), valV (ks.zip vs) j = lkD ks vs j
  | [], _, _ => rfl
  | _ :: _, [], _ => rfl
  | k :: ks, v :: vs, j => by
    rw [List.zip_cons_cons]
    by_cases e : k = j
    · rw [valV_pos (p := (k, v)) e]
      unfold lkD
      rw [if_pos e]
    · rw [valV_neg (p := (k, v)) e, lkD_valV ks vs j]
      conv => rhs; unfold lkD
      rw [if_neg e]
theorem putD_zip (ks : List Key) (vs : List V) (j : Key) (v : V) (h : ks.length = vs.length) : putK (ks.zip vs) j v = (putD ks vs j v).1.zip (putD ks vs j v).2 := by
  have hm : ∀ (ks : List Key) (vs : List V), ks.length = vs.length → (ks.zip vs).map (fun kv => if kv.1 = j then (kv.1, v) else kv) = ks.zip (puV ks vs j v) := by
    intro ks
    induction ks with
    | nil => intro vs _; rfl
    | cons k ks ih =>
      intro vs h
      cases vs with
      | nil => simp at h
      | cons w vs =>
        show (if k = j then (k, v) else (k, w)) :: (ks.zip vs).map _ = (k, if k = j then v else w) :: ks.zip (puV ks vs j v)
        rw [ih vs (by simpa using h)]
        split <;> rfl
  unfold putK putD
  rw [valV_any, lkD_valV]
  split
  · exact hm ks vs h
  · rw [List.zip_append h]
    rfl
section
variable {K : PySem.W.Frag} {mg : Str → Option Value} {F : Hp}
theorem RpL.lk : ∀ {ks : List Key} {ds : List D} {vs : List V} {j : Key} {d : D}, RpL K mg F ds vs → lkD ks ds j = some d → ∃ v, lkD ks vs j = some v ∧ Rp K mg F d v
  | [], _, _, _, _, _, e => by simp [lkD] at e
  | _ :: _, [], _, _, _, _, e => by simp [lkD] at e
  | k :: ks, d :: ds, vs, j, d', r, e => by
    obtain ⟨v, us, rfl, r1, r2⟩ := r.cons_iff
    unfold lkD at e ⊢
    by_cases q : k = j
    · rw [if_pos q] at e ⊢
      cases e
      exact ⟨v, rfl, r1⟩
    · rw [if_neg q] at e ⊢
      exact RpL.lk r2 e
theorem RpL.lkS : ∀ {ks : List Key} {ds : List D} {vs : List V} {j : Key}, RpL K mg F ds vs → (lkD ks vs j).isSome = (lkD ks ds j).isSome
  | [], _, _, _, _ => by simp [lkD]
  | _ :: _, [], _, _, r => by rw [r.nil_iff]; simp [lkD]
  | k :: ks, d :: ds, vs, j, r => by
    obtain ⟨v, us, rfl, r1, r2⟩ := r.cons_iff
    unfold lkD
    by_cases q : k = j
    · rw [if_pos q, if_pos q]; rfl
    · rw [if_neg q, if_neg q]
      exact RpL.lkS r2
theorem RpL.pu : ∀ {ks : List Key} {ds : List D} {vs : List V} {j : Key} {d : D} {v : V}, RpL K mg F ds vs → Rp K mg F d v → RpL K mg F (puV ks ds j d) (puV ks vs j v)
  | [], _, _, _, _, _, _, _ => by simp [puV]; exact RpL.nil
  | _ :: _, [], _, _, _, _, r, _ => by rw [r.nil_iff]; simp [puV]; exact RpL.nil
  | k :: ks, d' :: ds, vs, j, d, v, r, rd => by
    obtain ⟨w, us, rfl, r1, r2⟩ := r.cons_iff
    unfold puV
    by_cases q : k = j
    · rw [if_pos q, if_pos q]
      exact RpL.cons rd (RpL.pu r2 rd)
    · rw [if_neg q, if_neg q]
      exact RpL.cons r1 (RpL.pu r2 rd)
theorem RpL.put {ks : List Key} {ds : List D} {vs : List V} {j : Key} {d : D} {v : V} (r : RpL K mg F ds vs) (rd : Rp K mg F d v) : (putD ks ds j d).1 = (putD ks vs j v).1 ∧ RpL K mg F (putD ks ds j d).2 (putD ks vs j v).2 := by
  unfold putD
  rw [r.lkS]
  split
  · exact ⟨rfl, RpL.pu r rd⟩
  · exact ⟨rfl, RpL.append r (RpL.cons rd RpL.nil)⟩
theorem dKey_rp {d : D} {v : V} {k : Key} (r : Rp K mg F d v) (h : dKey d = some k) : v = kV k := by
  cases d with
  | int i => cases h; exact r.int_iff
  | str x => cases h; exact r.str_iff
  | _ => cases h
end
def dNew : DL.Env → R (List Key × List D) := fun _ => .ok ([], [])
def sPut (i : Nat) (fk fv : DL.Env → R D) : DL.Env → Out := fun Γ => (fv Γ).out Γ fun d => match Env.at_ Γ i with
  | some (.dic ks ds) => (fk Γ).out Γ fun k => match dKey k with
    | some j => if ks.length < LIM then .nx (Γ.set i (some (.dic (putD ks ds j d).1 (putD ks ds j d).2))) else .stuck
    | none => .stuck
  | some (.hdc m ks ds) => (fk Γ).out Γ fun k => match dKey k with
    | some j => if ks.length < LIM then .nx (Γ.set i (some (.hdc m (putD ks ds j d).1 (putD ks ds j d).2))) else .stuck
    | none => .stuck
  | _ => .stuck
def bHas (n : Bool) (i : Nat) (fk : DL.Env → R D) : DL.Env → R Bool := fun Γ => (fk Γ).bind fun k => match Env.at_ Γ i with
  | some (.dic ks ds) => (match dKey k with
    | some j => .ok ((lkD ks ds j).isSome != n)
    | none => .stuck)
  | some (.hdc _ ks ds) => (match dKey k with
    | some j => .ok ((lkD ks ds j).isSome != n)
    | none => .stuck)
  | _ => .stuck
def eOwnGet (i : Nat) (fk : DL.Env → R D) : DL.Env → R D := fun Γ => match Env.at_ Γ i with
  | some (.dic ks ds) => (fk Γ).bind fun k => match dKey k with
    | some j => (match lkD ks ds j with | some d => .ok d | none => .stuck)
    | none => .stuck
  | some (.hdc _ ks ds) => (fk Γ).bind fun k => match dKey k with
    | some j => (match lkD ks ds j with | some d => .ok d | none => .stuck)
    | none => .stuck
  | _ => .stuck
def dGet : D → D → R D
  | .dk ks ds, k => match dKey k with
    | some j => (match lkD ks ds j with | some d => .ok d | none => .stuck)
    | none => .stuck
  | _, _ => .stuck
def dInD : D → D → R D
  | k, .dk ks ds => match dKey k with
    | some j => .ok (.bl (lkD ks ds j).isSome)
    | none => .stuck
  | _, _ => .stuck
def dNotInD : D → D → R D
  | k, .dk ks ds => match dKey k with
    | some j => .ok (.bl (!(lkD ks ds j).isSome))
    | none => .stuck
  | _, _ => .stuck
section
variable {X : Cx} {W : WX} {F0 : Fe} {H0 F H : Hp} {σ : L2.St} {Γ : DL.Env} {Dn : Ends} {e a b c : Expr} {es : List Expr} {g : DL.Env → Out} {f fa fb fk fv : DL.Env → R D} {fo : DL.Env → R (List D)} {ft : DL.Env → R Bool} {pos p : Pos}
theorem hu_of (h : X.A.units + 64 < cLine) : X.A.units + 1 < cLine := by omega
theorem dd_new : DDt X W (.Dict [] [] pos) dNew := by
  refine PE.weak pe_dnewK ?_
  rintro σ H Q ⟨F0, H0, F, Γ, r, p⟩
  intro q hq
  exact PostG.at p (Ext.heap r.fz hq) ⟨q, [], rfl, upd_same, rfl, r.fz.free hq, hq, RpL.nil⟩
theorem ds_put (i : Nat) {x : Str} {p1 : Pos} (hu : X.A.units + 1 < cLine) (hk : DE X W b fk) (he : DE X W e fv) (hN : X.N[i]? = some x := by rfl) (hv : Vis X.env.scope x := by first | exact Or.inl (by kernel_rfl) | exact Or.inr (Or.inl (by kernel_rfl)) | exact Or.inr (Or.inr (by kernel_rfl))) (hd : (x == ("__debug__" : Str)) = false := by kernel_rfl)
    (hcd : (x == ("__classdict__" : Str)) = false := by kernel_rfl) (hs : swapsWith e (some (.Subscript (.Name x p1) b p)) pos.line X.env = pure false := by rfl) : DS X W (.Assign [.Subscript (.Name x p1) b p] e pos) (sPut i fk fv) := by
  refine PS.weak (ps_dput hu (pe_var hN hv hd hcd) hk he hs) ?_
  rintro Dn σ H ⟨F0, H0, F, Γ, r, p⟩
  refine ⟨F0, H0, F, Γ, r, PostS.out r p fun d w F1 H1 _ x1 r1 p1 => ?_⟩
  revert p1
  cases ei : Env.at_ Γ i with
  | none => exact fun p => p.elim
  | some s =>
    cases s with
    | abs _ _ => exact fun p => p.elim
    | oob b c ns fs => exact fun p => p.elim
    | hnd _ _ => exact fun p => p.elim
    | val d => exact fun p => p.elim
    | own ds => exact fun p => p.elim
    | dic ks ds =>
      intro p1
      have rl1 := r.step x1
      obtain ⟨v, h1, l, vs, e1, e2, el, e3, e4, e5⟩ := rl1.slot i _ (at_get ei)
      subst e1
      refine ⟨_, h1, F0, H0, F1, Γ, rl1, PostS.out rl1 p1 fun k kv F2 H2 _ x2 r2 p2 => ?_⟩
      revert p2
      cases ek : dKey k with
      | none => exact fun p => p.elim
      | some j =>
        intro p2
        by_cases hl : ks.length < LIM
        · have p2' : PostS X W F0 H0 Dn (if ks.length < LIM then Out.nx (Γ.set i (some (.dic (putD ks ds j d).1 (putD ks ds j d).2))) else Out.stuck) := p2
          rw [if_pos hl] at p2'
          have ekv := dKey_rp r2 ek
          have rl2 := rl1.step x2
          have rr := RpL.mono x2.ff _ _ e5
          have rd := Rp.mono x2.ff _ _ r1
          have pz := RpL.put (ks := ks) (j := j) rr rd
          refine ⟨l, _, rfl, .inl ⟨ks.zip vs, j, x2.hh _ _ e2, ekv, by rw [List.length_zip, ← el, Nat.min_self, LIM_eq]; exact hl, rfl⟩, p2' _ F2 _ ?_⟩
          refine rl2.mutO (at_get ei) rfl h1 rfl ⟨l, (putD ks vs j w).2, rfl, by rw [upd_same, putD_zip ks vs j w el, pz.1], ?_, ?_, e4, pz.2⟩
          · rw [pz.1]
            exact putD_len ks vs j w el
          · cases q : F2 l with
            | none => rfl
            | some o =>
              rcases x2.new l o q with z | z
              · rw [e3] at z; cases z
              · rw [e2] at z; cases z
        · have p2' : PostS X W F0 H0 Dn (if ks.length < LIM then Out.nx (Γ.set i (some (.dic (putD ks ds j d).1 (putD ks ds j d).2))) else Out.stuck) := p2
          rw [if_neg hl] at p2'
          exact p2'.elim
    | hdc m ks ds =>
      intro p1
      have rl1 := r.step x1
      obtain ⟨v, h1, l, vs, e1, e2, el, e3, e4, e5⟩ := rl1.slot i _ (at_get ei)
      subst e1
      refine ⟨_, h1, F0, H0, F1, Γ, rl1, PostS.out rl1 p1 fun k kv F2 H2 _ x2 r2 p2 => ?_⟩
      revert p2
      cases ek : dKey k with
      | none => exact fun p => p.elim
      | some j =>
        intro p2
        by_cases hl : ks.length < LIM
        · have p2' : PostS X W F0 H0 Dn (if ks.length < LIM then Out.nx (Γ.set i (some (.hdc m (putD ks ds j d).1 (putD ks ds j d).2))) else Out.stuck) := p2
          rw [if_pos hl] at p2'
          have ekv := dKey_rp r2 ek
          have rl2 := rl1.step x2
          have rr := RpL.mono x2.ff _ _ e5
          have rd := Rp.mono x2.ff _ _ r1
          have pz := RpL.put (ks := ks) (j := j) rr rd
          refine ⟨l, _, rfl, .inl ⟨ks.zip vs, j, x2.hh _ _ e2, ekv, by rw [List.length_zip, ← el, Nat.min_self, LIM_eq]; exact hl, rfl⟩, p2' _ F2 _ ?_⟩
          refine rl2.mutO (at_get ei) rfl h1 rfl ⟨l, (putD ks vs j w).2, rfl, by rw [upd_same, putD_zip ks vs j w el, pz.1], ?_, ?_, e4, pz.2⟩
          · rw [pz.1]
            exact putD_len ks vs j w el
          · cases q : F2 l with
            | none => rfl
            | some o =>
              rcases x2.new l o q with z | z
              · rw [e3] at z; cases z
              · rw [e2] at z; cases z
        · have p2' : PostS X W F0 H0 Dn (if ks.length < LIM then Out.nx (Γ.set i (some (.hdc m (putD ks ds j d).1 (putD ks ds j d).2))) else Out.stuck) := p2
          rw [if_neg hl] at p2'
          exact p2'.elim
theorem de_ownGet (i : Nat) {x : Str} (hu : X.A.units + 1 < cLine) (hb : DE X W b f) (hN : X.N[i]? = some x := by rfl) (hv : Vis X.env.scope x := by first | exact Or.inl (by kernel_rfl) | exact Or.inr (Or.inl (by kernel_rfl)) | exact Or.inr (Or.inr (by kernel_rfl))) (hd : (x == ("__debug__" : Str)) = false := by kernel_rfl)
    (hcd : (x == ("__classdict__" : Str)) = false := by kernel_rfl) (hs : NoSl b := by exact fun _ _ => rfl) : DE X W (.Subscript (.Name x p) b pos) (eOwnGet i f) := by
  refine PE.weak (pe_dget hu (pe_var hN hv hd hcd) hb hs) ?_
  rintro σ H Q ⟨F0, H0, F, Γ, r, p⟩
  revert p
  unfold eOwnGet
  cases ei : Env.at_ Γ i with
  | none => exact fun p => p.elim
  | some s =>
    cases s with
    | abs _ _ => exact fun p => p.elim
    | oob b c ns fs => exact fun p => p.elim
    | hnd _ _ => exact fun p => p.elim
    | val d => exact fun p => p.elim
    | own ds => exact fun p => p.elim
    | dic ks ds =>
      intro p
      obtain ⟨v, h1, l, vs, e1, e2, el, e3, e4, e5⟩ := r.slot i _ (at_get ei)
      subst e1
      refine ⟨_, h1, F0, H0, F, Γ, r, PostG.bind p (fun k w F1 H1 _ x1 r1 p1 => ?_) fun _ _ _ _ _ h => h⟩
      cases ek : dKey k with
      | none => rw [ek] at p1; exact p1.elim
      | some j =>
        rw [ek] at p1
        have p1' : PostG X.K X.mg (repV X.K X.mg) F1 H1 (WE W σ) Q (match lkD ks ds j with | some d => .ok d | none => .stuck) := p1
        cases el2 : lkD ks ds j with
        | none => rw [el2] at p1'; exact p1'.elim
        | some d =>
          rw [el2] at p1'
          obtain ⟨z, ez, rz⟩ := RpL.lk (RpL.mono x1.ff _ _ e5) el2
          exact ⟨l, z, rfl, .inl ⟨ks.zip vs, j, .inl (x1.hh _ _ e2), dKey_rp r1 ek, by rw [lkD_valV]; exact ez.symm⟩, PostG.ok p1' x1.fh rz⟩
    | hdc m ks ds =>
      intro p
      obtain ⟨v, h1, l, vs, e1, e2, el, e3, e4, e5⟩ := r.slot i _ (at_get ei)
      subst e1
      refine ⟨_, h1, F0, H0, F, Γ, r, PostG.bind p (fun k w F1 H1 _ x1 r1 p1 => ?_) fun _ _ _ _ _ h => h⟩
      cases ek : dKey k with
      | none => rw [ek] at p1; exact p1.elim
      | some j =>
        rw [ek] at p1
        have p1' : PostG X.K X.mg (repV X.K X.mg) F1 H1 (WE W σ) Q (match lkD ks ds j with | some d => .ok d | none => .stuck) := p1
        cases el2 : lkD ks ds j with
        | none => rw [el2] at p1'; exact p1'.elim
        | some d =>
          rw [el2] at p1'
          obtain ⟨z, ez, rz⟩ := RpL.lk (RpL.mono x1.ff _ _ e5) el2
          exact ⟨l, z, rfl, .inl ⟨ks.zip vs, j, .inl (x1.hh _ _ e2), dKey_rp r1 ek, by rw [lkD_valV]; exact ez.symm⟩, PostG.ok p1' x1.fh rz⟩
theorem dk_rdH {F H : Hp} {ks : List Key} {ds : List D} {v : V} (z : Fz F H) (r : Rp X.K X.mg F (.dk ks ds) v) : ∃ l vs, v = .ref l ∧ Rd H l (.dK (ks.zip vs)) ∧ ks.length = vs.length ∧ RpL X.K X.mg F ds vs := by
  unfold Rp at r
  obtain ⟨l, vs, e1, e2, e3, e4⟩ := r
  refine ⟨l, vs, e1, ?_, e3, e4⟩
  rcases z l _ e2 with q | ⟨_, ob, q⟩
  · exact .inl q
  · exact .inr ⟨ob, q⟩
theorem de_dget (hu : X.A.units + 1 < cLine) (ha : DE X W a fa) (hb : DE X W b fb) (hs : NoSl b := by exact fun _ _ => rfl) : DE X W (.Subscript a b pos) (eOp dGet fa fb) := by
  refine PE.weak (pe_dget hu ha hb hs) ?_
  rintro σ H Q ⟨F0, H0, F, Γ, rl, p⟩
  refine bind2 (fun _ _ _ _ _ h => h) rl p fun x y v u F2 H2 x2 r1 r2 p2 => ?_
  cases x with
  | dk ks ds =>
    obtain ⟨l, vs, e1, e2, e3, e4⟩ := dk_rdH x2.fh r1
    have p2' : PostG X.K X.mg (repV X.K X.mg) F2 H2 (WE W σ) Q (match dKey y with
      | some j => (match lkD ks ds j with | some d => R.ok d | none => .stuck)
      | none => .stuck) := p2
    cases ek : dKey y with
    | none => rw [ek] at p2'; exact p2'.elim
    | some j =>
      rw [ek] at p2'
      have p3 : PostG X.K X.mg (repV X.K X.mg) F2 H2 (WE W σ) Q (match lkD ks ds j with | some d => R.ok d | none => .stuck) := p2'
      cases el2 : lkD ks ds j with
      | none => rw [el2] at p3; exact p3.elim
      | some d =>
        rw [el2] at p3
        obtain ⟨z, ez, rz⟩ := RpL.lk e4 el2
        exact ⟨l, z, e1, .inl ⟨ks.zip vs, j, e2, dKey_rp r2 ek, by rw [lkD_valV]; exact ez.symm⟩, PostG.ok p3 x2.fh rz⟩
  | _ => exact p2.elim
end
end DL
namespace ZL
open PySem PySem.Spec PySem.Calls PyProof.Rows PyProof.V PySem.W
abbrev ZipK (h : Heap) (z TI TO a : Addr) (f : Bool) : Prop :=
  h.get? z = some { cls := .type "zip", dict := none, data := .fields #[rawInt a, .bool f, .bool false, .ref TI, .ref TO], slots := #[] }
section
variable {prog : Program} {w : World} {A : Around} {E : Value → Shared → Prop} {s : Shared} {z TI TO i1 i2 l1 l2 : Addr} {k1 k2 : Nat} {xs ys : Array Value} {x y : Value}
structure ZG (xs ys : Array Value) (lo : Addr) (h : Heap) (as : List Addr) : Prop where
  rise : as.Pairwise (· < ·)
  above : ∀ a ∈ as, lo < a
  pairs : ∀ (j : Nat) (a : Addr), as[j]? = some a → ∃ x y, xs[j]? = some x ∧ ys[j]? = some y ∧ h.get? a = some { cls := .type "tuple", data := .seq #[x, y] }
theorem ZG.there {lo : Addr} {h : Heap} {as : List Addr} (g : ZG xs ys lo h as) {a : Addr} (ha : a ∈ as) : a < h.objs.size := by
  obtain ⟨j, hj⟩ := List.mem_iff_getElem?.mp ha
  obtain ⟨_, _, _, _, e⟩ := g.pairs j a hj
  exact Heap.lt_size e
structure ZSt (h : Heap) (z TI TO i1 i2 l1 l2 S : Addr) (xs ys : Array Value) (i : Nat) : Prop where
  ti : IsPair h TI (.ref i1) (.ref i2)
  a1 : h.IsListIter i1 l1 i
  a2 : h.IsListIter i2 l2 i
  b1 : h.IsList l1 xs
  b2 : h.IsList l2 ys
  st : (IsZip h z TI TO .none ∧ ∃ a b, IsPair h TO a b) ∨ ∃ a f oa, ZipK h z TI TO a f ∧ h.get? a = some oa ∧ S < a
structure Below (z TI TO i1 i2 l1 l2 S : Addr) : Prop where
  z : z < S
  TI : TI < S
  TO : TO < S
  i1 : i1 < S
  i2 : i2 < S
  l1 : l1 < S
  l2 : l2 < S
theorem ZSt.keep {h h' : Heap} {S : Addr} {i : Nat} (B : Below z TI TO i1 i2 l1 l2 S) (x : ZSt h z TI TO i1 i2 l1 l2 S xs ys i) (hk : ∀ b o, b ≠ S → h.get? b = some o → h'.get? b = some o) : ZSt h' z TI TO i1 i2 l1 l2 S xs ys i := by
  refine ⟨hk _ _ (Nat.ne_of_lt B.TI) x.ti, x.a1.at fun o e => hk _ o (Nat.ne_of_lt B.i1) e, x.a2.at fun o e => hk _ o (Nat.ne_of_lt B.i2) e, x.b1.at fun o e => hk _ o (Nat.ne_of_lt B.l1) e, x.b2.at fun o e => hk _ o (Nat.ne_of_lt B.l2) e, ?_⟩
  rcases x.st with ⟨q, a, b, r⟩ | ⟨a, f, oa, q, r, t⟩
  · exact .inl ⟨hk _ _ (Nat.ne_of_lt B.z) q, a, b, hk _ _ (Nat.ne_of_lt B.TO) r⟩
  · exact .inr ⟨a, f, oa, hk _ _ (Nat.ne_of_lt B.z) q, hk _ _ (Nat.ne_of_gt t) r, t⟩
end
section
variable {prog : Program} {w : World} {A : Around} {s : Shared} {R : Result → Shared → Prop} {z TI TO i1 i2 l1 l2 S : Addr} {xs ys : Array Value}
end
section
variable {prog : Program} {w : World} {A : Around} {E : Value → Shared → Prop} {s : Shared} {z TI TO i1 i2 l1 l2 S : Addr} {xs ys : Array Value}
end
end ZL
namespace ZL
open PySem PySem.Spec PyProof.Rows L2
def putP : Hp → List Addr → List (V × V) → Hp
  | H, a :: as, p :: kvs => putP (upd H a (.tup [p.1, p.2])) as kvs
  | H, _, _ => H
theorem putP_off {b : Addr} : ∀ (as : List Addr) (kvs : List (V × V)) (H : Hp), b ∉ as → putP H as kvs b = H b
  | [], _, _, _ => rfl
  | _ :: _, [], _, _ => rfl
  | a :: as, p :: kvs, H, h => by
    show putP (upd H a (.tup [p.1, p.2])) as kvs b = H b
    rw [putP_off as kvs _ (fun z => h (List.mem_cons_of_mem _ z)), upd_ne (fun z => h (by rw [z]; exact List.mem_cons_self))]
theorem putP_at : ∀ (as : List Addr) (kvs : List (V × V)) (H : Hp), as.length = kvs.length → as.Nodup → ∀ (j : Nat) (a : Addr), as[j]? = some a → ∃ p, kvs[j]? = some p ∧ putP H as kvs a = some (.tup [p.1, p.2])
  | [], [], _, _, _, _, _, e => by simp at e
  | [], _ :: _, _, h, _, _, _, _ => by cases h
  | _ :: _, [], _, h, _, _, _, _ => by cases h
  | a :: as, p :: kvs, H, h, hn, j, b, e => by
    have hn' := List.nodup_cons.mp hn
    cases j with
    | zero =>
      have eb : a = b := by simpa using e
      subst eb
      refine ⟨p, rfl, ?_⟩
      show putP (upd H a (.tup [p.1, p.2])) as kvs a = _
      rw [putP_off as kvs _ hn'.1, upd_same]
    | succ j =>
      obtain ⟨q, h1, h2⟩ := putP_at as kvs (upd H a (.tup [p.1, p.2])) (Nat.succ.inj h) hn'.2 j b (by simpa using e)
      exact ⟨q, by simpa using h1, h2⟩
section
variable {X : Cx} {e e2 : Expr} {ta : TA} {p p2 pos pos2 : Pos}
theorem laid {pins : List (Addr × Obj)} {σ : L2.St} {H : Hp} {s : Shared} {h' : Heap} {tk : Nat} {xs ys : List V} {us ws : List Value} {acc : Array Value} {c : Nat} {as : List Addr} {S : Addr} (I : Inv X pins σ H s) (hle : s.heap.objs.size ≤ S) (vx : Vals xs us) (vy : Vals ys ws)
    (hz : min xs.length ys.length ≤ sizeLine) (hk : ∀ b o, s.heap.get? b = some o → h'.get? b = some o) (hS : h'.get? S = some { cls := .type "list", dict := none, data := .seq acc c, slots := #[] }) (hl : as.length = min us.toArray.size ws.toArray.size) (hG : ZG us.toArray ws.toArray S h' as) (hacc : acc.toList = as.map Value.ref) :
    ∃ H' : Hp, (∀ b o, H b = some o → H' b = some o) ∧ H S = none ∧ (∀ t ∈ as, H t = none) ∧ S ∉ as ∧ as.Nodup ∧ H' S = some (.lst (as.map V.ref)) ∧ (∀ b, b ≠ S → b ∉ as → H' b = H b) ∧ as.length = min xs.length ys.length ∧
      (∀ (j : Nat) (t : Addr), as[j]? = some t → ∃ x y, xs[j]? = some x ∧ ys[j]? = some y ∧ H' t = some (.tup [x, y])) ∧ Inv X pins σ H' { s with heap := h', toks := tk } := by
  have lx : xs.length = us.length := vx.length
  have ly : ys.length = ws.length := vy.length
  have hl' : as.length = min xs.length ys.length := by rw [hl, lx, ly]; rfl
  have lz : as.length = (xs.zip ys).length := by rw [hl', List.length_zip]
  have hSn : S ∉ as := fun z => Nat.lt_irrefl _ (hG.above _ z)
  have nd : as.Nodup := List.Pairwise.imp (fun {a b} (h : a < b) => Nat.ne_of_lt h) hG.rise
  have new : ∀ t ∈ as, H t = none := fun t ht => I.hok.fresh (Nat.le_of_lt (Nat.lt_of_le_of_lt hle (hG.above t ht)))
  have newS : H S = none := I.hok.fresh hle
  have atP := putP_at as (xs.zip ys) (upd H S (.lst (as.map V.ref))) lz nd
  have off : ∀ b, b ∉ as → b ≠ S → putP (upd H S (.lst (as.map V.ref))) as (xs.zip ys) b = H b := fun b h1 h2 => by rw [putP_off as _ _ h1, upd_ne h2]
  have low : ∀ b o, s.heap.get? b = some o → b ∉ as ∧ b ≠ S := fun b o e => ⟨fun z => absurd (Heap.lt_size e) (Nat.not_lt.mpr (Nat.le_of_lt (Nat.lt_of_le_of_lt hle (hG.above b z)))), Nat.ne_of_lt (Nat.lt_of_lt_of_le (Heap.lt_size e) hle)⟩
  have kp : ∀ b u, H b = some u → (putP (upd H S (.lst (as.map V.ref))) as (xs.zip ys)) b = some u := fun b u e => by
    rw [off b (fun z => by rw [new b z] at e; cases e) (fun z => by rw [z, newS] at e; cases e)]
    exact e
  have eS : putP (upd H S (.lst (as.map V.ref))) as (xs.zip ys) S = some (.lst (as.map V.ref)) := by rw [putP_off as _ _ hSn, upd_same]
  have pr : ∀ (j : Nat) (t : Addr), as[j]? = some t → ∃ x y, xs[j]? = some x ∧ ys[j]? = some y ∧ putP (upd H S (.lst (as.map V.ref))) as (xs.zip ys) t = some (.tup [x, y]) := fun j t e => by
    obtain ⟨q, h1, h2⟩ := atP j t e
    obtain ⟨h3, h4⟩ := List.getElem?_zip_eq_some.mp h1
    exact ⟨q.1, q.2, h3, h4, h2⟩
  refine ⟨putP (upd H S (.lst (as.map V.ref))) as (xs.zip ys), kp, newS, new, hSn, nd, eS, fun b h1 h2 => off b h2 h1, hl', pr, ?_⟩
  refine I.call' (ch := []) rfl ⟨fun b o q _ _ _ => hk b o q, fun b o q _ _ _ => ⟨o.slots, hk b o q⟩, fun b o q n _ => ?_, fun b o q _ => ⟨o, hk b o q⟩, fun b xs q => kp b _ q, fun b o u q => kp b _ q, fun b ps q => ⟨#[], by rw [kp b _ q]; simp⟩⟩ (fun b u q => ?_) I.bare fun b z => by simp at z
  · obtain ⟨z1, z2⟩ := low b o q
    rw [off b z1 z2]
    exact n
  · by_cases hb : b ∈ as
    · obtain ⟨j, ej⟩ := List.mem_iff_getElem?.mp hb
      obtain ⟨x, y, e1, e2, e3⟩ := pr j b ej
      rw [e3] at q
      cases q
      obtain ⟨u, v, f1, f2, f3⟩ := hG.pairs j b ej
      obtain ⟨u', g1, g2⟩ := vx.get e1
      obtain ⟨v', g3, g4⟩ := vy.get e2
      have k1 : u' = u := by
        have : us[j]? = some u := by simpa using f1
        rw [this] at g1
        exact (Option.some.inj g1).symm
      have k2 : v' = v := by
        have : ws[j]? = some v := by simpa using f2
        rw [this] at g3
        exact (Option.some.inj g3).symm
      subst k1 k2
      exact ⟨by show 2 ≤ sizeLine; decide, [u', v'], .cons g2 (.cons g4 .nil), ⟨_, f3, rfl, _, rfl⟩⟩
    · by_cases hb2 : b = S
      · rw [hb2] at q ⊢
        rw [eS] at q
        cases q
        refine ⟨by rw [List.length_map, hl']; exact hz, acc.toList, c, by rw [hacc]; exact LiI.vals_refs as, ?_⟩
        rw [Array.toArray_toList]
        exact hS
      · rw [off b hb hb2] at q
        exact (I.hok b u q).stay (fun d v _ y => hk d v y) (fun d y => kp d _ y) fun d xs y => kp d _ y
end
end ZL
namespace DL
open PySem PySem.Spec L2
def oZip : List D → R (List D) := fun ds => match ds with
  | [x, y] => x.items.bind fun xs => y.items.bind fun ys => .ok (zipL xs ys)
  | _ => .stuck
section
variable {X : Cx} {W : WX} {e e2 : Expr} {f : DL.Env → R (List D)} {p p2 pos pos2 : Pos}
end
end DL
namespace DL
open PySem PySem.Spec L2
def intsOf : List D → Option (List Int)
  | [] => some []
  | .int i :: ds => (intsOf ds).map fun ns => i :: ns
  | _ => none
theorem intsOf_map : ∀ ns : List Int, intsOf (ns.map D.int) = some ns
  | [] => rfl
  | n :: ns => by show (intsOf (ns.map D.int)).map _ = _; rw [intsOf_map ns]; rfl
theorem intsOf_rp {K : PySem.W.Frag} {mg : Str → Option Value} {F : Hp} : ∀ {ds : List D} {vs : List V} {ns : List Int}, RpL K mg F ds vs → intsOf ds = some ns → vs = ns.map V.int
  | [], vs, ns, r, h => by cases h; rw [r.nil_iff]; rfl
  | d :: ds, vs, ns, r, h => by
    obtain ⟨v, us, rfl, r1, r2⟩ := r.cons_iff
    cases d with
    | int i =>
      have h' : (intsOf ds).map (fun ns => i :: ns) = some ns := h
      cases e : intsOf ds with
      | none => rw [e] at h'; cases h'
      | some ms =>
        rw [e] at h'
        cases h'
        rw [intsOf_rp r2 e, r1.int_iff]
        rfl
    | _ => cases h
def dSum1 : D → R D
  | .lst xs => match intsOf xs with | some ns => .ok (.int ns.sum) | none => .stuck
  | _ => .stuck
abbrev dSum := un1 dSum1
section
variable {X : Cx}
theorem sat_sum : SatL X (rSum X.K) dSum := by
  intro F H ds vs E Q z r p
  cases ds with
  | nil => exact p.elim
  | cons d ds =>
    cases ds with
    | cons _ _ => cases d <;> exact p.elim
    | nil =>
      obtain ⟨v, rfl, r1⟩ := r.one
      cases d with
      | lst xs =>
        obtain ⟨l, ws, e1, e2, e3⟩ := r1.lstH z
        have p' : PostG X.K X.mg (repV X.K X.mg) F H E Q (match intsOf xs with | some ns => R.ok (D.int ns.sum) | none => .stuck) := p
        cases e : intsOf xs with
        | none => rw [e] at p'; exact p'.elim
        | some ns =>
          rw [e] at p'
          have ew := intsOf_rp e3 e
          exact ⟨l, ns, by rw [e1], by rw [← ew]; exact SqL.of e2, PostG.ok p' z (by show Rp _ _ _ _ _; unfold Rp; rfl)⟩
      | _ => exact p.elim
end
end DL
namespace DL
open PySem PySem.Spec L2
def Kn (P : Program) (w : World) (K : PySem.W.Frag) (mg : Str → Option Value) (base : Heap) (k : Nat) (x : Str) (n : Nat) (m : List D → R D) : Prop :=
  ∃ (f : Addr) (fd : FuncData) (ps : List Str), mg x = some (.ref f) ∧ PySem.W.keepIn K (.ref f) = true ∧ Binds K fd ps [] ∧ FnOk P w K mg base (L2.CX P w) k f fd ps (spD K mg n m)
def KnO (P : Program) (w : World) (K : PySem.W.Frag) (mg : Str → Option Value) (base : Heap) (k : Nat) (x : Str) (n : Nat) (m : List D → R (List D)) : Prop :=
  ∃ (f : Addr) (fd : FuncData) (ps : List Str), mg x = some (.ref f) ∧ PySem.W.keepIn K (.ref f) = true ∧ Binds K fd ps [] ∧ FnOk P w K mg base (L2.CX P w) k f fd ps (spO K mg n m)
section
variable {X : Cx} {W : WX} {j k n : Nat} {x : Str} {e : Expr} {es : List Expr} {p pos : Pos} {fs : DL.Env → R (List D)}
theorem de_kn {m : List D → R D} (h : Kn X.prog X.w X.K X.mg X.base j x n m) (hr : Room k X.A) (ha : DA X W (e :: es) fs) (hx : OkW X W) (hg : Gl X x := by unfold L2.Gl; kernel_rfl) (hj : j ≤ k := by decide) (hdb : (x == ("__debug__" : Str)) = false := by kernel_rfl)
    (he : starEach (e :: es) X.env = (false, eval e X.env) :: starEach es X.env := by rfl) (hpl : (backTo pos (starEach es X.env)).any (·.1) = false := by rfl) :
    DE X W (.Call (.Name x p) (e :: es) [] pos) (eFn n m fs) := by
  obtain ⟨f, fd, ps, hm, hk, hb, G⟩ := h
  exact de_fn G (hr.mono hj) hg hm hk hb hx ha hdb he hpl
theorem do_kn {m : List D → R (List D)} (h : KnO X.prog X.w X.K X.mg X.base j x n m) (hr : Room k X.A) (ha : DA X W (e :: es) fs) (hx : OkW X W) (hg : Gl X x := by unfold L2.Gl; kernel_rfl) (hj : j ≤ k := by decide) (hdb : (x == ("__debug__" : Str)) = false := by kernel_rfl)
    (he : starEach (e :: es) X.env = (false, eval e X.env) :: starEach es X.env := by rfl) (hpl : (backTo pos (starEach es X.env)).any (·.1) = false := by rfl) :
    DO X W (.Call (.Name x p) (e :: es) [] pos) (oFn n m fs) := by
  obtain ⟨f, fd, ps, hm, hk, hb, G⟩ := h
  exact do_fn G (hr.mono hj) hg hm hk hb hx ha hdb he hpl
end
section
variable {P : Program} {w : World} {K : PySem.W.Frag} {mg : Str → Option Value} {base : Heap} {k n : Nat} {x : Str}
theorem KnO.kn {m : List D → R (List D)} (h : KnO P w K mg base k x n m) : Kn P w K mg base k x n (fun ds => (m ds).bind fun r => .ok (.lst r)) := by
  obtain ⟨f, fd, ps, hm, hk, hb, G⟩ := h
  refine ⟨f, fd, ps, hm, hk, hb, G.imp fun vs H Q E q => ?_⟩
  obtain ⟨F, ds, l, z, r, p⟩ := q
  refine ⟨F, ds, l, z, r, ?_⟩
  revert p
  dsimp only
  cases m ds with
  | ok ds =>
    intro p v F1 H1 x1 r1
    obtain ⟨F2, x2, r2, _⟩ := frzO x1 r1
    exact p v F2 H1 x2 r2
  | exc x => exact fun p => p
  | stuck => exact fun p => p
theorem Kn.mono {j : Nat} {m : List D → R D} (h : Kn P w K mg base j x n m) (l : j ≤ k) : Kn P w K mg base k x n m := by
  obtain ⟨f, fd, ps, hm, hk, hb, G⟩ := h
  exact ⟨f, fd, ps, hm, hk, hb, G.mono l⟩
end
theorem walkE {l : PySem.W.OpenLaw} {n k : Nat} {q : Program} {loose : List Str} {XP : (Str → Option Value) → Heap → Prop} {YP : World → Heap → Prop} {d : DefRec} {x : Str} {m : List D → R D}
    (hn : l.most = some n) (hn2 : n ≤ sizeLine) (hdf : d.params.defaults = []) (hr : Room k callerA) (true_ : ∀ ns : List Int, ns.length ≤ n → m [.scr ns] = .ok (.bl true))
    (F : ∀ (w : World) (mg : Str → Option Value) (fa : Addr) (h : Heap), YP w h → h.Ns mainGlobals mg → mg d.name = some (.ref fa) →
      ∃ (K : PySem.W.Frag) (fd : FuncData), K.In h ∧ (∀ (s : Shared) (u : Value), BindsTo s fd ⟨[u], []⟩ [(x, u)]) ∧
        ∀ base : Heap, K.In base → base.Ns mainGlobals mg → FnOk l.prog w K mg base (L2.CX l.prog w) k fa fd [x] (spD K mg 1 m)) :
    PySem.W.WalkO q loose XP YP l.row.toRowW d [] (fun f vs => PySem.call f vs) := by
  refine Att.attach_call hn hdf fun w s₀ s₁ mg mb fa o pm cd doc a vs ns G Y ho hd hcd hmg hobj hints hlen hg => ?_
  obtain ⟨K, fd, KX, hb, hF⟩ := F w mg fa _ Y G.T.g hmg
  refine law_call KX G.T.g G.T.b G.T.builtins G.T.nolimit hg hobj hints (Nat.le_trans hlen hn2) hr hF hb (fun H hO hS => ?_) fun H e s' hc => ?_
  · refine ⟨H, [.scr ns], rfl, Fz.refl H, RpL.cons (by unfold Rp; exact ⟨a, rfl, hS⟩) RpL.nil, ?_⟩
    rw [true_ ns hlen]
    exact fun v F' H' _ r => (show Rp K mg F' (.bl true) v from r).bl_iff
  · obtain ⟨_, _, _, _, _, _, _, _, _, _, _, _, z⟩ := hc
    exact z
end DL
namespace HX
open PySem PySem.Spec PyProof.Rows L2
section
variable {X : Cx} {B : Addr} {mc : Value} {x : Str} {e : Expr} {es : List Expr} {ta : TA} {p1 p2 pos : Pos}
end
end HX
namespace DL
open PySem PySem.Spec L2
def sRaise0 (c : Str) : DL.Env → Out := fun Γ => .exc (.exc c [] []) Γ
def sRaise (c : Str) (ns : List Str) (fs : DL.Env → R (List D)) : DL.Env → Out := fun Γ => (fs Γ).out Γ fun ds => if ds.length = ns.length then .exc (.exc c ns ds.reverse) Γ else .stuck
def sTryK (i k : Nat) (sub : Str → Option Bool) (g : DL.Env → Out) : DL.Env → Out := fun Γ => match g Γ with
  | .exc (.exc c ns ds) Γ' => (match sub c with
    | some true => if i < Γ'.length then .nx ((Γ'.set k (some (.val (.exc c ns ds)))).set i none) else .stuck
    | some false => .exc (.exc c ns ds) Γ'
    | none => .stuck)
  | .exc _ _ => .stuck
  | o => o
section
variable {K : PySem.W.Frag} {mg : Str → Option Value} {F0 : Fe} {H0 F H : Hp} {σ : L2.St} {Γ : DL.Env}
end
section
variable {X : Cx} {W : WX} {e : Expr} {fs : DL.Env → R (List D)} {c : Str} {C : Addr} {p pos pos2 : Pos}
end
section
variable {X : Cx} {Wout : WX} {body : List Stmt} {x n kn : Str} {cc : Value} {i k : Nat} {sub : Str → Option Bool} {g : DL.Env → Out} {np kp np2 apos pos pos' : Pos}
end
end DL
namespace HX
open PySem PySem.Spec PyProof.Rows L2
def hangs (K : PySem.W.Frag) (C : Addr) : Bool := match K.lookup C with
  | some ⟨.type "type", _, .cls cd, sl⟩ => (match cd.mro, sl.toList with
    | .ref C' :: bm, [_, _, _, _, some (.builtin n), _] => C' == C && n == "ValueError.__new__" && !cd.hasDel && cd.hasDict && PySem.HandSPX.refsVE bm
    | _, _ => false)
  | _ => false
theorem hangs_ok {K : PySem.W.Frag} {C : Addr} (q : hangs K C = true) : ∃ nm q N bs bm sn sub ab col dd k0 k1 k2 k3 k5, K.lookup C = some (excClassObj nm q C N bs bm true sn sub ab col dd k0 k1 k2 k3 k5 "ValueError.__new__") ∧ PySem.HandSPX.refsVE bm = true := by
  unfold hangs at q
  split at q
  · rename_i dd cd sl ho
    split at q
    · rename_i C' bm k0 k1 k2 k3 n k5 hm hs
      simp only [Bool.and_eq_true, beq_iff_eq, Bool.not_eq_true'] at q
      obtain ⟨⟨⟨⟨rfl, rfl⟩, hdel⟩, hdct⟩, ht⟩ := q
      obtain ⟨nm, bs, mro, ns, qn, hd, sn, sub, ab, col, del⟩ := cd
      dsimp only at hm hdel hdct
      subst hm hdel hdct
      have hsl : sl = #[k0, k1, k2, k3, some (.builtin "ValueError.__new__"), k5] := by
        obtain ⟨l⟩ := sl
        simp only at hs
        rw [hs]
      subst hsl
      exact ⟨nm, qn, ns, bs, bm, sn, sub, ab, col, dd, k0, k1, k2, k3, k5, ho, ht⟩
    · cases q
  · cases q
def excB (K : PySem.W.Frag) (C : Addr) : Bool := hangs K C && (He.eqO (PySem.W.findIn K (.ref C) "__setattr__") (some (some (.builtin "object.__setattr__"))) && (decide (PySem.W.subIn K (.ref C) (.type "BaseException") = some true) &&
  (decide (PySem.W.typeIn K (.ref C) = some (.type "type")) && (PySem.W.keepIn K (.ref C) && (He.eqO (PySem.W.findIn K (.ref C) "__getattribute__") (some (some (.builtin "BaseException.__getattribute__"))) && (He.eqO (PySem.W.findIn K (.ref C) "__getattr__") (some none) &&
  (PySem.W.hasDictIn K C && (He.eqO (PySem.W.findIn K (.ref C) "__class__") (some (some (.builtin "object.__class__"))) && (He.eqO (PySem.W.specialIn K (.builtin "object.__class__") "__get__") (some (some (.builtin "getset_descriptor.__get__"))) &&
  (decide (PySem.W.takesIn K (.builtin "object.__class__") = some true) && (decide (PySem.W.mroIn K C (.type "object") = some true) && (PySem.W.clsIn K C).isSome)))))))))))
structure XC (K : PySem.W.Frag) (C : Addr) : Prop where
  o : OexC K C
  f : XfC K C
  hc : (PySem.W.clsIn K C).isSome = true
  ha : PySem.W.findIn K (.ref C) "__class__" = some (some (.builtin "object.__class__"))
  hn : PySem.W.specialIn K (.builtin "object.__class__") "__get__" = some (some (.builtin "getset_descriptor.__get__"))
  ht : PySem.W.takesIn K (.builtin "object.__class__") = some true
  hm : PySem.W.mroIn K C (.type "object") = some true
theorem excB_ok {K : PySem.W.Frag} {C : Addr} (h : excB K C = true) : XC K C := by
  obtain ⟨a1, h⟩ := He.ba h
  obtain ⟨a2, h⟩ := He.ba h
  obtain ⟨a3, h⟩ := He.ba h
  obtain ⟨a4, h⟩ := He.ba h
  obtain ⟨a5, h⟩ := He.ba h
  obtain ⟨a6, h⟩ := He.ba h
  obtain ⟨a7, h⟩ := He.ba h
  obtain ⟨a8, h⟩ := He.ba h
  obtain ⟨a9, h⟩ := He.ba h
  obtain ⟨a10, h⟩ := He.ba h
  obtain ⟨a11, h⟩ := He.ba h
  obtain ⟨a12, a13⟩ := He.ba h
  exact ⟨⟨hangs_ok a1, He.eqO_ok a2, of_decide_eq_true a3, of_decide_eq_true a4, a5⟩, ⟨He.eqO_ok a6, He.eqO_ok a7, of_decide_eq_true a3, a8⟩, a13, He.eqO_ok a9, He.eqO_ok a10, of_decide_eq_true a11, of_decide_eq_true a12⟩
section
variable {X : Cx} {pins : List (Addr × Obj)} {σ : L2.St} {H : Hp} {s : Shared} {a C : Addr} {d : Option Addr}
end
end HX
namespace HX
open PySem PySem.Spec PyProof.Rows L2
end HX
namespace DL
open PySem PySem.Spec L2
abbrev CK := Str ⊕ String
abbrev Tb := List (CK × CK × Bool)
def OSG : List Str := ["Move", "Up", "Down", "Put", "Take", "Price", "ByMoves", "ByGrips", "ByBeads", "Hand", "Script", "Scribe", "Reckoner", "Maker", "Kept", "Desk"]
def D.ck (cs : List Str) : D → Option CK
  | .exc c _ _ => if c ∈ cs ∧ c ∉ OSG then some (.inl c) else none
  | .obj c _ _ => if c ∈ cs ∧ c ∈ OSG then some (.inl c) else none
  | x => x.tyOf.map .inr
def ckV (mg : Str → Option Value) : CK → Value → Prop
  | .inl c, v => ∃ C, mg c = some (.ref C) ∧ v = .ref C
  | .inr n, v => v = .type n
structure OC (K : PySem.W.Frag) (C : Addr) : Prop where
  cl : Cls K C
  ha : PySem.W.findIn K (.ref C) "__class__" = some (some (.builtin "object.__class__"))
  hn : PySem.W.specialIn K (.builtin "object.__class__") "__get__" = some (some (.builtin "getset_descriptor.__get__"))
  ht : PySem.W.takesIn K (.builtin "object.__class__") = some true
  hm : PySem.W.mroIn K C (.type "object") = some true
structure ExF (K : PySem.W.Frag) (mg : Str → Option Value) (cs : List Str) (tb : Tb) : Prop where
  cls : ∀ c ∈ cs, ∃ C, mg c = some (.ref C) ∧ (c ∉ OSG → HX.XC K C) ∧ (c ∈ OSG → OC K C)
  tab : ∀ e ∈ tb, ∀ u v, ckV mg e.1 u → ckV mg e.2.1 v → PySem.W.kitOne K u v = some e.2.2
section
variable {K : PySem.W.Frag} {mg : Str → Option Value} {cs : List Str} {tb : Tb} {F H : Hp}
end
section
variable {X : Cx} {cs : List Str} {tb : Tb}
end
section
variable {X : Cx} {W : WX} {cs : List Str} {tb : Tb} {e : Expr} {fa : DL.Env → R D} {f : Str} {pos : Pos}
theorem PE.or {t1 t2 : TE} (h1 : PE X e t1) (h2 : PE X e t2) : PE X e (fun σ H Q => t1 σ H Q ∨ t2 σ H Q) := ⟨fun pins s σ H Q I q => q.elim (h1.run pins s σ H Q I) (h2.run pins s σ H Q I)⟩
end
end DL
namespace DL
open PySem PySem.Spec L2
section
variable {X : Cx} {W : WX} {k j : Nat} {c f g : Str} {e e2 : Expr} {fs : DL.Env → R (List D)} {p pos pos2 : Pos}
end
def ckA (K : PySem.W.Frag) : CK → Value
  | .inl c => .ref (He.ga K c)
  | .inr n => .type n
def objB (K : PySem.W.Frag) (C : Addr) : Bool := PySem.W.plainGet K C Str.empty && (PySem.W.hasDictIn K C && (PySem.W.plainOver K C && (He.eqO (PySem.W.findIn K (.ref C) "__setattr__") (some (some (.builtin "object.__setattr__"))) &&
  (He.eqO (PySem.W.findIn K (.ref C) "__class__") (some (some (.builtin "object.__class__"))) && (He.eqO (PySem.W.specialIn K (.builtin "object.__class__") "__get__") (some (some (.builtin "getset_descriptor.__get__"))) &&
  (decide (PySem.W.takesIn K (.builtin "object.__class__") = some true) && decide (PySem.W.mroIn K C (.type "object") = some true)))))))
theorem objB_ok {K : PySem.W.Frag} {C : Addr} (h : objB K C = true) : OC K C := by
  obtain ⟨a1, h⟩ := He.ba h
  obtain ⟨a2, h⟩ := He.ba h
  obtain ⟨a3, h⟩ := He.ba h
  obtain ⟨a4, h⟩ := He.ba h
  obtain ⟨a5, h⟩ := He.ba h
  obtain ⟨a6, h⟩ := He.ba h
  obtain ⟨a7, a8⟩ := He.ba h
  exact ⟨⟨a1, a2, a3, He.eqO_ok a4⟩, He.eqO_ok a5, He.eqO_ok a6, of_decide_eq_true a7, of_decide_eq_true a8⟩
def exAll (cs : List Str) (tb : Tb) (K : PySem.W.Frag) : Bool := cs.all (fun c => if c ∈ OSG then objB K (He.ga K c) else HX.excB K (He.ga K c)) && tb.all fun e => decide (PySem.W.kitOne K (ckA K e.1) (ckA K e.2.1) = some e.2.2)
theorem exF_of {K : PySem.W.Frag} {mg : Str → Option Value} {cs : List Str} {tb : Tb} (hg : ∀ c ∈ cs, mg c = some (.ref (He.ga K c))) (ht : tb.all (fun e => (match e.1 with | .inl c => decide (c ∈ cs) | .inr _ => true) && (match e.2.1 with | .inl c => decide (c ∈ cs) | .inr _ => true)) = true) (h : exAll cs tb K = true) : ExF K mg cs tb := by
  obtain ⟨h1, h2⟩ := He.ba h
  have cv : ∀ (k : CK) (u : Value), (match k with | .inl c => decide (c ∈ cs) | .inr _ => true) = true → ckV mg k u → u = ckA K k := fun k u hk hu => by
    cases k with
    | inl c =>
      obtain ⟨C, e1, e2⟩ := hu
      rw [hg c (of_decide_eq_true hk)] at e1
      cases e1
      exact e2
    | inr n => exact hu
  refine ⟨fun c hc => ⟨_, hg c hc, fun n => ?_, fun n => ?_⟩, fun e he u v hu hv => ?_⟩
  · have q := List.all_eq_true.mp h1 c hc
    rw [if_neg n] at q
    exact HX.excB_ok q
  · have q := List.all_eq_true.mp h1 c hc
    rw [if_pos n] at q
    exact objB_ok q
  obtain ⟨k1, k2⟩ := He.ba (List.all_eq_true.mp ht e he)
  rw [cv _ _ k1 hu, cv _ _ k2 hv]
  exact of_decide_eq_true (List.all_eq_true.mp h2 e he)
section
variable {X : Cx} {W : WX} {cs : List Str} {tb : Tb} {c : Str} {p pos pos' np kp np2 apos : Pos} {body : List Stmt} {n kn : Str} {sub : Str → Option Bool} {g : DL.Env → Out}
end
theorem ExF.sub {K : PySem.W.Frag} {mg : Str → Option Value} {cs cs' : List Str} {tb : Tb} (E : ExF K mg cs tb) (h : ∀ c ∈ cs', c ∈ cs) : ExF K mg cs' tb := ⟨fun c hc => E.cls c (h c hc), E.tab⟩
end DL
namespace DHk
open PySem PySem.Spec PyProof.Rows L2 He
def asS (g : Addr → Option Obj) (n : Nat) : List Addr := He.asD g n ++ [cStatics]
abbrev AlS : Type := He.AlD × Bool
def obsS (fa : List Fa) (fn : List DefD) (ex : PySem.W.Frag → Bool) (K : PySem.W.Frag) : AlS := (obsD fa fn K, ex K)
def valS (fn : List DefD) : AlS := (valD fn, true)
def SaysS (fa : List Fa) (fn : List DefD) (ex : PySem.W.Frag → Bool) (K : PySem.W.Frag) : Prop := obsS fa fn ex K = valS fn
def obsSG (n : Nat) (fa : List Fa) (fn : List DefD) (ex : PySem.W.Frag → Bool) (g : Addr → Option Obj) : AlS := obsS fa fn ex (frG g (asS g n))
def hookS (n : Nat) (fa : List Fa) (fn : List DefD) (ex : PySem.W.Frag → Bool) : PySem.W.Hook where
  α := AlS
  obs := fun s => obsSG n fa fn ex s.heap.get?
  val := fun _ => valS fn
  says := fun _ h => ∃ K : PySem.W.Frag, K.In h ∧ SaysS fa fn ex K
  of := fun _ _ e => ⟨_, frG_in, e⟩
  keeps := fun _ _ _ ⟨K, hK, c⟩ k => ⟨K, PySem.W.Frag.In.keeps hK k, c⟩
theorem obsS_eq {n : Nat} {fa : List Fa} {fn : List DefD} {ex : PySem.W.Frag → Bool} {g : Addr → Option Obj} {s : Shared} (h : ∀ a, g a = s.heap.get? a) : obsSG n fa fn ex g = (hookS n fa fn ex).obs s := by
  have e : g = s.heap.get? := funext h
  rw [e] <;> rfl
theorem SaysS.d {fa : List Fa} {fn : List DefD} {ex : PySem.W.Frag → Bool} {K : PySem.W.Frag} (c : SaysS fa fn ex K) : SaysD fa fn K := congrArg (fun z : AlS => z.1) c
theorem SaysS.more {fa : List Fa} {fn : List DefD} {ex : PySem.W.Frag → Bool} {K : PySem.W.Frag} (c : SaysS fa fn ex K) : ex K = true := congrArg (fun z : AlS => z.2) c
end DHk
namespace DL
open PySem PySem.Spec L2
def sFgt (vs : List Nat) (g : DL.Env → Out) : DL.Env → Out := fun Γ => g (wipeE Γ vs)
def Out.wp (vs : List Nat) : Out → Out
  | .nx Γ => .nx (wipeE Γ vs)
  | .bk Γ => .bk (wipeE Γ vs)
  | .ct Γ => .ct (wipeE Γ vs)
  | o => o
def sWp (vs : List Nat) (g : DL.Env → Out) : DL.Env → Out := fun Γ => (g Γ).wp vs
section
variable {K : PySem.W.Frag} {mg : Str → Option Value} {F0 : Fe} {H0 F H : Hp} {σ : L2.St} {Γ : DL.Env}
theorem Rel.forget (r : Rel K mg F0 H0 F H σ Γ) (vs : List Nat) : Rel K mg F0 H0 F H σ (wipeE Γ vs) := by
  refine ⟨r.ext, by rw [wipeE_len]; exact r.len, fun i s e => r.slot i s (wipeE_get e).1, fun i j s t v u l ei ej hi hj os ot => ?_, fun i s k v e1 tk e2 => r.slf i s k v (wipeE_get e1).1 tk e2⟩
  exact r.inj i j s t v u l (wipeE_get ei).1 (wipeE_get ej).1 hi hj os ot
end
section
variable {X : Cx} {W : WX} {st : Stmt} {sts : List Stmt} {g : DL.Env → Out}
theorem ds_fgt (vs : List Nat) (h : DS X W st g) : DS X W st (sFgt vs g) := by
  refine PS.weak h ?_
  rintro Dn σ H ⟨F0, H0, F, Γ, r, p⟩
  exact ⟨F0, H0, F, _, r.forget vs, p⟩
theorem dss_wp (vs : List Nat) (h : DSs X W sts g) : DSs X W sts (sWp vs g) := by
  refine PSs.weak h ?_
  rintro Dn σ H ⟨F0, H0, F, Γ, r, p⟩
  refine ⟨F0, H0, F, Γ, r, ?_⟩
  revert p
  unfold sWp
  cases g Γ with
  | nx Γ' => exact fun p σ F H r => p σ F H (r.forget vs)
  | bk Γ' => exact fun p σ F H r => p σ F H (r.forget vs)
  | ct Γ' => exact fun p σ F H r => p σ F H (r.forget vs)
  | _ => exact fun p => p
end
end DL
namespace DL
open PySem PySem.Spec L2
def sPar (i j : Nat) (fs : DL.Env → R (List D)) : DL.Env → Out := fun Γ => (fs Γ).out Γ fun ds => match ds with
  | [d, e] => .nx ((Γ.set i (some (.val d))).set j (some (.val e)))
  | _ => .stuck
def sPar3 (i j l : Nat) (fs : DL.Env → R (List D)) : DL.Env → Out := fun Γ => (fs Γ).out Γ fun ds => match ds with
  | [d, e, f] => .nx (((Γ.set i (some (.val d))).set j (some (.val e))).set l (some (.val f)))
  | _ => .stuck
def fuelI (i : Nat) : DL.Env → Nat := fun Γ => match Env.at_ Γ i with
  | some (.val (.int n)) => n.toNat + 1
  | _ => 0
section
variable {X : Cx} {W : WX} {fs : DL.Env → R (List D)}
end
end DL
namespace HX
open PySem PySem.Spec PyProof.Rows L2
section
variable {X : Cx} {pins : List (Addr × Obj)} {σ : L2.St} {H : Hp} {s : Shared}
end
section
variable {X : Cx} {x n : Str} {c : Value} {i : Nat} {body suite : List Stmt} {b₀ : Stmt} {np pos pos' : Pos} {tb : WX → TS} {ts : Addr → Value → Option Addr → TS} {Wout : WX}
end
end HX
namespace DL
open PySem PySem.Spec L2
def Out.gone (i : Nat) : Out → Out
  | .nx Γ => .nx (Γ.set i none)
  | .bk Γ => .bk (Γ.set i none)
  | .ct Γ => .ct (Γ.set i none)
  | .rt d => .rt d
  | .ro d => .ro d
  | .rs d Γ => .rs d (Γ.set i none)
  | _ => .stuck
def Out.noX : Out → Out
  | .exc _ _ => .stuck
  | o => o
def sTryS (i : Nat) (sub : Str → Option Bool) (g gs : DL.Env → Out) : DL.Env → Out := fun Γ => match g Γ with
  | .exc (.exc c ns ds) Γ' => (match sub c with
    | some true => if i < Γ'.length then (gs (Γ'.set i (some (.val (.exc c ns ds))))).gone i else .stuck
    | some false => .exc (.exc c ns ds) Γ'
    | none => .stuck)
  | .exc _ _ => .stuck
  | o => o
def sTryO (sub : Str → Option Bool) (g gs : DL.Env → Out) : DL.Env → Out := fun Γ => match g Γ with
  | .exc (.exc c ns ds) Γ' => (match sub c with
    | some true => (gs Γ').noX
    | some false => .exc (.exc c ns ds) Γ'
    | none => .stuck)
  | .exc _ _ => .stuck
  | o => o
section
variable {X : Cx} {Wout : WX} {body suite : List Stmt} {b₀ : Stmt} {x n : Str} {cc : Value} {sub : Str → Option Bool} {g gs : DL.Env → Out} {np pos pos' : Pos}
end
end DL
namespace HO
open PySem PySem.Spec PyProof.Rows L2
def tMethD (X : Cx) (W : WX) (k : Nat) (m : Str) (ta : TE) (t : TA) : TE := fun σ H Q => ta σ H fun x H1 => ∃ a C dx fs f fd ps sp, x = .ref a ∧ H1 a = some (.ins C dx fs) ∧ fs.lookup m = none ∧ Cls X.K C ∧ Meth X.K C m f ∧ Binds X.K fd ps [] ∧
  FnOk X.prog X.w X.K X.mg X.base (L2.CX X.prog X.w) k f fd ps sp ∧ t σ H1 fun vs H2 => sp (x :: vs) H2 Q (WE W σ)
section
variable {X : Cx} {W : WX} {k : Nat} {m : Str} {pos apos : Pos} {e o : Expr} {es : List Expr} {ta : TE} {t : TA}
theorem pe_methD {pl : Sem Bool} (he : PE X o ta) (hr : Room k X.A) (hx : ∀ σ, PassesAt (L2.CX X.prog X.w) X σ (WE W σ)) (ha : PA X (e :: es) t)
    (hst : starEach (e :: es) X.env = (false, eval e X.env) :: starEach es X.env := by rfl) (hpl : (backTo pos (starEach es X.env)).any (·.1) = false := by rfl)
    (ht : eval (.Call (.Attribute o m apos) (e :: es) [] pos) X.env = (do
      let ov ← eval o X.env
      standAt apos.atName
      let (f, first) ← holding [ov] (getMethod ov m pl)
      callWith pos f first (backTo pos (starEach (e :: es) X.env)) (backToKw pos (keywordEach [] X.env))) := by rfl) :
    PE X (.Call (.Attribute o m apos) (e :: es) [] pos) (tMethD X W k m ta t) := by
  refine ⟨fun pins s σ H Q I h => ?_⟩
  refine PySem.W.methodCall_KW (pl := pl) (thn (he.run pins s σ H _ I h) fun u s1 ⟨x, H1, I1, rx, a, C, dx, fs, f, fd, ps, sp, ex, ea, l, c, hm, hb, F, q⟩ => ?_) ht
  subst ex
  obtain rfl : u = Value.ref a := rx
  refine getmeth_ok I1 ea c hm l ?_
  refine PySem.W.callWith_K (first := [.ref a]) (h₀ := X.base) I.ok.mod.kin hm.kp (thn (ha.run pos pins s1 σ H1 _ I1 q) fun us s2 ⟨vs, H2, I2, r, q2⟩ => ⟨I2.kIn, ?_⟩) hst hpl
  exact run_fnSD (us := .ref a :: us) (vs := .ref a :: vs) (ds := []) (dvs := []) (E := WE W) F hr hb .nil (hx σ) I2 (.cons rfl r) (by rw [List.append_nil]; exact q2)
end
structure Mk0 (K : PySem.W.Frag) (C : Addr) : Prop where
  makes : PySem.W.makesIn K C = true
  init : PySem.W.findIn K (.ref C) "__init__" = some (some (.builtin "object.__init__"))
  kp : PySem.W.keepIn K (.ref C) = true
section
variable {X : Cx} {C : Addr} {x : Str} {p pos : Pos}
theorem pe_makeN (M : Mk0 X.K C) (hg : Gl X x) (hm : X.mg x = some (.ref C)) (hdb : (x == ("__debug__" : Str)) = false := by kernel_rfl) :
    PE X (.Call (.Name x p) [] [] pos) (fun _ H Q => ∀ a dx, H a = none → H dx = none → dx ≠ a → Q (.ref a) (upd (upd H dx (.own a)) a (.ins C dx []))) := by
  refine ⟨fun pins s σ H Q I h => ?_⟩
  refine wpAny_Call_Name_kw (ld_glob I hg hm ?_ hdb)
  refine PySem.W.callWith_K0 I.kIn M.kp ?_
  have hq := h (s.heap.objs.size + 1) s.heap.objs.size (I.hok.fresh (Nat.le_succ _)) (I.hok.fresh (Nat.le_refl _)) (Nat.ne_of_lt (Nat.lt_succ_self _))
  have I2 := Inv.made (C := C) I
  refine wpAny_call (make_map0 I.kIn M.makes M.init (fun self => PySem.W.Looks.of_pure (PySem.W.oi_bind self)) ?_)
  have g2 : ((s.heap.push PySem.W.emptyDict).push (PySem.W.instObj C s.heap.objs.size)).get? (s.heap.objs.size + 1) = some (PySem.W.instObj C s.heap.objs.size) := by
    have := Heap.get?_push_size (s.heap.push PySem.W.emptyDict) (o := PySem.W.instObj C s.heap.objs.size) rfl
    rwa [Heap.size_push] at this
  have t1 : PySem.W.Looks (model X.prog X.w) ((s.heap.push PySem.W.emptyDict).push (PySem.W.instObj C s.heap.objs.size)) (typeOf (.ref (s.heap.objs.size + 1))) (.ref C) := (PySem.W.Looks.ld g2).andThen .now
  have Y := PySem.W.makes_of (M := model X.prog X.w) I.kIn M.makes
  have t2 : PySem.W.Looks (model X.prog X.w) ((s.heap.push PySem.W.emptyDict).push (PySem.W.instObj C s.heap.objs.size)) (isInstance (.ref (s.heap.objs.size + 1)) (.type "object")) true := t1.andThen (Y.top.keeps fun b o e => Heap.get?_push_of_some _ (Heap.get?_push_of_some _ e))
  refine codeAny_call_builtin PySem.W.oi_plain PySem.W.entry_oi (@PySem.W.check_slot (model X.prog X.w) _ _ _ "object.__init__" "object" "__init__" (.ref (s.heap.objs.size + 1)) [] [] _ PySem.W.oi_kind PySem.W.oi_split t2 (PySem.W.oi_args (.ref (s.heap.objs.size + 1))) ?_)
  rw [PySem.W.oi_run]
  exact wpAny_pure (And.intro rfl ⟨V.ref (s.heap.objs.size + 1), _, I2, rfl, hq⟩)
end
end HO
namespace DL
open PySem PySem.Spec L2
def eNew0 (c : Str) : DL.Env → R D := fun _ => .ok (.obj c [] [])
def eNew2 (c f g : Str) (fs : DL.Env → R (List D)) : DL.Env → R D := fun Γ => (fs Γ).bind fun ds => match ds with
  | [d, e] => .ok (.obj c [f, g] [d, e])
  | _ => .stuck
def lkC : List (Str × (List D → R D)) → Str → Option (List D → R D)
  | [], _ => none
  | e :: tb, c => if e.1 = c then some e.2 else lkC tb c
def dMeth (tb : List (Str × (List D → R D))) (m : Str) (n : Nat) (x : D) (fs : R (List D)) : R D := match x with
  | .obj c ns ws => if m ∈ ns then .stuck else (match lkC tb c with
    | some mf => fs.bind fun ds => if ds.length = n then mf (.obj c ns ws :: ds) else .stuck
    | none => .stuck)
  | _ => .stuck
def eMeth (tb : List (Str × (List D → R D))) (m : Str) (n : Nat) (fo : DL.Env → R D) (fs : DL.Env → R (List D)) : DL.Env → R D := fun Γ => (fo Γ).bind fun x => dMeth tb m n x (fs Γ)
def KO0 (K : PySem.W.Frag) (mg : Str → Option Value) (c : Str) : Prop := ∃ C, mg c = some (.ref C) ∧ HO.Mk0 K C
def KnM (P : Program) (w : World) (K : PySem.W.Frag) (mg : Str → Option Value) (base : Heap) (k : Nat) (tb : List (Str × (List D → R D))) (m : Str) (n : Nat) : Prop :=
  ∀ e ∈ tb, ∃ C f fd ps, mg e.1 = some (.ref C) ∧ Cls K C ∧ Meth K C m f ∧ Binds K fd ps [] ∧ FnOk P w K mg base (L2.CX P w) k f fd ps (spD K mg (n + 1) e.2)
theorem lkC_ok : ∀ {tb : List (Str × (List D → R D))} {c : Str} {mf : List D → R D}, lkC tb c = some mf → (c, mf) ∈ tb
  | [], _, _, h => by cases h
  | e :: tb, c, mf, h => by
    unfold lkC at h
    by_cases q : e.1 = c
    · rw [if_pos q] at h
      cases h
      subst q
      exact List.mem_cons_self
    · rw [if_neg q] at h
      exact List.mem_cons_of_mem _ (lkC_ok h)
theorem zip_none {m : Str} : ∀ {ns : List Str} {vs : List V}, m ∉ ns → (ns.zip vs).lookup m = none
  | [], _, _ => by simp
  | _ :: _, [], _ => by simp
  | n :: ns, v :: vs, h => by
    simp only [List.mem_cons, not_or] at h
    rw [List.zip_cons_cons, lookup_put, if_neg h.1]
    exact zip_none h.2
theorem Ext.made {F H : Hp} (z : Fz F H) {a dx C : Addr} {o o2 : HO} {fs : List (Str × V)} (na : H a = none) (nd : H dx = none) (ne : dx ≠ a) : Ext F H (upd F a (.ins C dx fs)) (upd (upd (upd H dx o2) a o) a (.ins C dx fs)) := by
  have e : upd (upd (upd H dx o2) a o) a (.ins C dx fs) = upd (upd H dx o2) a (.ins C dx fs) := by
    funext b
    by_cases h : b = a
    · rw [h, upd_same, upd_same]
    · rw [upd_ne h, upd_ne h, upd_ne h]
  rw [e]
  exact (Ext.heap z nd).trans (Ext.laid (Ext.heap z nd).fh (by rw [upd_ne (Ne.symm ne)]; exact na))
section
variable {X : Cx} {W : WX} {j k n : Nat} {c f g m : Str} {e e2 o : Expr} {es : List Expr} {p pos apos : Pos} {fs : DL.Env → R (List D)} {fo : DL.Env → R D} {tb : List (Str × (List D → R D))}
theorem de_new0 (h : KO0 X.K X.mg c) (hg : Gl X c := by unfold L2.Gl; kernel_rfl) (hdb : (c == ("__debug__" : Str)) = false := by kernel_rfl) : DE X W (.Call (.Name c p) [] [] pos) (eNew0 c) := by
  obtain ⟨C, hm, M⟩ := h
  refine PE.weak (HO.pe_makeN M hg hm hdb) ?_
  rintro σ H Q ⟨F0, H0, F, Γ, r, p⟩
  intro a dx na nd ne
  have ex := Ext.made (C := C) (o := .ins C dx []) (o2 := .own a) (fs := []) r.fz na nd ne
  have e : upd (upd (upd H dx (.own a)) a (.ins C dx [])) a (.ins C dx []) = upd (upd H dx (.own a)) a (.ins C dx []) := by
    funext b
    by_cases h : b = a
    · rw [h, upd_same, upd_same]
    · rw [upd_ne h]
  rw [e] at ex
  refine PostG.at p ex ?_
  show Rp _ _ _ _ _
  unfold Rp
  exact ⟨a, C, dx, [], rfl, hm, upd_same, rfl, RpL.nil⟩
theorem meth_read (h : KnM X.prog X.w X.K X.mg X.base j tb m n) (hj : j ≤ k) {t : TA} (ht : ∀ (F0 : Fe) (H0 F H : Hp) (σ : L2.St) (Γ : DL.Env) (Q : List V → Hp → Prop), Rel X.K X.mg F0 H0 F H σ Γ → PostG X.K X.mg (repL X.K X.mg) F H (WE W σ) Q (fs Γ) → t σ H Q) :
    ∀ σ H Q, tD X W (eMeth tb m n fo fs) σ H Q → HO.tMethD X W k m (tD X W fo) t σ H Q := by
  rintro σ H Q ⟨F0, H0, F, Γ, r, p⟩
  refine ⟨F0, H0, F, Γ, r, PostG.bind p (fun x v F1 H1 _ x1 r1 p1 => ?_) fun _ _ _ _ _ h => h⟩
  have r1 : Rp X.K X.mg F1 x v := r1
  cases x with
  | obj c ns ws =>
    have r0 := r1
    unfold Rp at r1
    obtain ⟨a, C, dx, vs, rfl, hm, ea, hl, rr⟩ := r1
    have p1 : PostG X.K X.mg (repV X.K X.mg) F1 H1 (WE W σ) Q (if m ∈ ns then .stuck else (match lkC tb c with
      | some mf => (fs Γ).bind fun ds => if ds.length = n then mf (.obj c ns ws :: ds) else .stuck
      | none => .stuck)) := p1
    by_cases q1 : m ∈ ns
    · rw [if_pos q1] at p1
      exact p1.elim
    · rw [if_neg q1] at p1
      cases el : lkC tb c with
      | none => rw [el] at p1; exact p1.elim
      | some mf =>
        rw [el] at p1
        have p1 : PostG X.K X.mg (repV X.K X.mg) F1 H1 (WE W σ) Q ((fs Γ).bind fun ds => if ds.length = n then mf (.obj c ns ws :: ds) else .stuck) := p1
        obtain ⟨C', f, fd, ps, hm', cl, me, hb, G⟩ := h (c, mf) (lkC_ok el)
        rw [hm] at hm'
        cases hm'
        refine ⟨a, C, dx, _, f, fd, ps, _, rfl, x1.fh.ins ea, zip_none q1, cl, me, hb, G.mono hj, ht _ _ _ _ _ _ _ (r.step x1) ?_⟩
        refine PostG.bind p1 (fun ds us F2 H2 _ x2 r2 p2 => ?_) fun _ _ _ _ _ h => h
        obtain ⟨hl2, p3⟩ := ifR p2
        exact ⟨F2, .obj c ns ws :: ds, by rw [List.length_cons, hl2], x2.fh, RpL.cons (Rp.mono x2.ff _ _ r0) r2, p3⟩
  | _ => exact p1.elim
theorem de_meth {pl : Sem Bool} (h : KnM X.prog X.w X.K X.mg X.base j tb m n) (hr : Room k X.A) (ho : DE X W o fo) (ha : DA X W (e :: es) fs) (hx : OkW X W) (hj : j ≤ k := by decide)
    (hst : starEach (e :: es) X.env = (false, eval e X.env) :: starEach es X.env := by rfl) (hpl : (backTo pos (starEach es X.env)).any (·.1) = false := by rfl)
    (ht : eval (.Call (.Attribute o m apos) (e :: es) [] pos) X.env = (do
      let ov ← eval o X.env
      standAt apos.atName
      let (f, first) ← holding [ov] (getMethod ov m pl)
      callWith pos f first (backTo pos (starEach (e :: es) X.env)) (backToKw pos (keywordEach [] X.env))) := by rfl) :
    DE X W (.Call (.Attribute o m apos) (e :: es) [] pos) (eMeth tb m n fo fs) :=
  PE.weak (HO.pe_methD (pl := pl) ho hr hx ha hst hpl ht) (meth_read h hj fun F0 H0 F H σ Γ Q r p => ⟨F0, H0, F, Γ, r, p⟩)
end
def mk0B (K : PySem.W.Frag) (C : Addr) : Bool := PySem.W.makesIn K C && (He.eqO (PySem.W.findIn K (.ref C) "__init__") (some (some (.builtin "object.__init__"))) && PySem.W.keepIn K (.ref C))
theorem mk0B_ok {K : PySem.W.Frag} {C : Addr} (h : mk0B K C = true) : HO.Mk0 K C := by
  obtain ⟨a1, h⟩ := He.ba h
  obtain ⟨a2, a3⟩ := He.ba h
  exact ⟨a1, He.eqO_ok a2, a3⟩
end DL
namespace DL
open PySem PySem.Spec L2
def dInt1 : D → R D
  | .int i => .ok (.int i)
  | .bl b => .ok (.int (if b then 1 else 0))
  | _ => .stuck
abbrev dInt := un1 dInt1
def sExtO (i : Nat) (f : DL.Env → R (List D)) : DL.Env → Out := fun Γ => match Env.at_ Γ i with
  | some (.own ds) => (f Γ).out Γ fun es => if ds.length + es.length ≤ LIM then .nx (Γ.set i (some (.own (ds ++ es)))) else .stuck
  | some (.hnd m ds) => (f Γ).out Γ fun es => if ds.length + es.length ≤ LIM then .nx (Γ.set i (some (.hnd m (ds ++ es)))) else .stuck
  | _ => .stuck
def iRevRng1 : D → R (List D)
  | .int j => if inR62 j then .ok (rngDn ((j.toNat : Nat) - 1) j.toNat) else .stuck
  | _ => .stuck
def iRevRng (f : DL.Env → R D) : DL.Env → R (List D) := fun Γ => (f Γ).bind iRevRng1
section
variable {X : Cx} {W : WX} {e a : Expr} {f : DL.Env → R (List D)} {fo : DL.Env → R (List D)} {pos p p2 : Pos}
theorem sat_int : SatL X (fun xs H Q => (∃ i, xs = [.int i] ∧ Q (.int i) H) ∨ ∃ k, xs = [.bl k] ∧ Q (.int (if k then 1 else 0)) H) dInt := sat_un1 fun F H x v E Q z r p => by
  cases x with
  | int i => exact .inl ⟨i, by rw [r.int_iff], PostG.ok p z Rp.int⟩
  | bl b => exact .inr ⟨b, by rw [r.bl_iff], PostG.ok p z Rp.int⟩
  | _ => exact p.elim
end
end DL
namespace HX
open PySem PySem.Spec PyProof.Rows L2
section
variable {X : Cx} {e : Expr} {es : List Expr} {ta : TA} {p pos : Pos}
end
end HX
namespace HX
open PySem PySem.Spec PyProof.Rows L2
section
variable {X : Cx} {n : Str} {i : Nat} {pos : Pos} {Wout : WX}
end
section
variable {X : Cx} {x n : Str} {c : Value} {i : Nat} {body suite : List Stmt} {b₀ : Stmt} {np pos pos' : Pos} {tb : WX → TS} {ts : Addr → Value → Option Addr → TS} {Wout : WX}
end
end HX
namespace HX
open PySem PySem.Spec PyProof.Rows L2
section
variable {P : Program} {w : World} {K : PySem.W.Frag} {mg : Str → Option Value} {base : Heap} {N ps : List Str} {f : Addr} {x qual : Str} {params : Arguments} {body : List Stmt} {scope : Scope} {fd : FuncData} {k : Nat} {sp : Sp} {Y : CXT}
end
end HX
namespace HX
open PySem PySem.Spec PyProof.Rows L2
section
variable {Y : CXT} {P : Program} {w : World} {K : PySem.W.Frag} {mg : Str → Option Value} {base : Heap} {N ps : List Str} {f : Addr} {x qual : Str} {params : Arguments} {body : List Stmt} {scope : Scope} {fd : FuncData} {k : Nat} {sp : Sp}
structure FnU (P : Program) (w : World) (K : PySem.W.Frag) (mg : Str → Option Value) (base : Heap) (Y : CXT) (k : Nat) (f : Addr) (fd : FuncData) (ps : List Str) (sp : Sp) : Prop where
  len : ∀ vs H Q E, sp vs H Q E → vs.length = ps.length
  run : ∀ (B : Around) (outer : List Env) (s : Shared) (H : Hp) (args : Args) (us : List Value) (vs : List V) (Q : VK) (E : XK), L2H.RoomH k B → Env0 P w K mg base B outer s H → BindsTo s fd args (ps.zip us) → Vals vs us → sp vs H Q E →
    codeAny (model P w) B (.call (.ref f) args) (CR Y outer P w H s Q E) s
theorem FnU.mono {j : Nat} (G : FnU P w K mg base Y j f fd ps sp) (l : j ≤ k) : FnU P w K mg base Y k f fd ps sp := ⟨G.len, fun B outer s H args us vs Q E hr => G.run B outer s H args us vs Q E (hr.mono l)⟩
theorem FnU.ok (G : FnU P w K mg base Y k f fd ps sp) : FnOk P w K mg base Y k f fd ps sp := ⟨G.len, fun B outer s H args us vs Q E hr => G.run B outer s H args us vs Q E ⟨hr.dp, hr.un⟩⟩
end
section
variable {X : Cx} {Y : CXT} {k : Nat} {f : Addr} {fd : FuncData} {ps : List Str} {sp : Sp} {E : L2.St → XK} {x : Str} {q pos : Pos} {e : Expr} {es : List Expr} {t : TA}
end
end HX
namespace DL
open PySem PySem.Spec L2
def KnU (P : Program) (w : World) (K : PySem.W.Frag) (mg : Str → Option Value) (base : Heap) (k : Nat) (x : Str) (n : Nat) (m : List D → R D) : Prop :=
  ∃ (f : Addr) (fd : FuncData) (ps : List Str), mg x = some (.ref f) ∧ PySem.W.keepIn K (.ref f) = true ∧ Binds K fd ps [] ∧ HX.FnU P w K mg base (L2.CX P w) k f fd ps (spD K mg n m)
theorem KnU.kn {P : Program} {w : World} {K : PySem.W.Frag} {mg : Str → Option Value} {base : Heap} {k n : Nat} {x : Str} {m : List D → R D} (h : KnU P w K mg base k x n m) : Kn P w K mg base k x n m := by
  obtain ⟨f, fd, ps, hm, hk, hb, G⟩ := h
  exact ⟨f, fd, ps, hm, hk, hb, G.ok⟩
section
variable {P : Program} {w : World} {K : PySem.W.Frag} {mg : Str → Option Value} {base : Heap} {x qual : Str} {params : Arguments} {body : List Stmt} {scope : Scope} {f : Addr} {fd : FuncData} {N ps : List Str} {k : Nat} {g : DL.Env → Out}
end
section
variable {X : Cx} {W : WX} {j k n : Nat} {x : Str} {e : Expr} {es : List Expr} {p pos : Pos} {fs : DL.Env → R (List D)}
end
section
variable {K : PySem.W.Frag} {mg : Str → Option Value} {F : Hp}
end
section
variable {X : Cx}
variable {W : WX} {o e : Expr} {fo fe : DL.Env → R D} {apos cpos : Pos}
end
def D.fl : D → Option V
  | .non => some .non
  | .bl b => some (.bl b)
  | .int i => some (.int i)
  | .str x => some (.str x)
  | _ => none
section
variable {K : PySem.W.Frag} {mg : Str → Option Value} {F : Hp}
end
section
variable {X : Cx}
end
end DL
namespace DL
open PySem PySem.Spec L2
section
variable {K : PySem.W.Frag} {mg : Str → Option Value} {F0 : Fe} {H0 F H F1 H1 : Hp} {σ σ1 : L2.St} {Γ Γ1 : DL.Env} {d : Addr} {kvs : List (Key × V)} {od : Obj} {u : HO}
def DkAt (u : HO) (kvs : List (Key × V)) : Prop := u = .dK kvs ∨ ∃ ob, u = .frz ob (.dK kvs)
theorem Rel.lock (r : Rel K mg F0 H0 F H σ Γ) (fd : F d = some (.dK kvs)) (hu : H d = some u) (hk : DkAt u kvs) : Rel K mg ⟨F, F0.sv⟩ (upd H0 d (.frz od (.dK kvs))) F (upd H d (.frz od (.dK kvs))) σ Γ := by
  have off : ∀ (i : Nat) (s : Slot) (v : V) (l : Addr), Γ[i]? = some (some s) → σ[i]? = some (some v) → foot H s v l → l ≠ d := fun i s v l e1 e2 q z => by
    obtain ⟨w, h1, h2⟩ := r.slot i s e1
    rw [e2] at h1
    cases h1
    obtain ⟨_, _, y, _⟩ := foot_at h2 q
    rw [z, fd] at y
    cases y
  refine ⟨⟨Same.refl _, fun a o e => ?_, fun a o e => ?_, fun a o e => .inl e⟩, r.len, fun i s e => ?_, r.injG fun i s v l ob e1 e2 q e3 => by rw [upd_ne (off i s v l e1 e2 q)]; exact e3, r.slf⟩
  · by_cases q : a = d
    · subst q
      rw [fd] at e
      cases e
      exact .inr ⟨⟨_, rfl⟩, _, upd_same⟩
    · rw [upd_ne q]
      exact r.fz a o e
  · by_cases q : a = d
    · subst q
      rw [upd_same] at e ⊢
      exact e
    · rw [upd_ne q] at e ⊢
      exact r.ext.hh a o e
  · obtain ⟨v, h1, h2⟩ := r.slot i s e
    refine ⟨v, h1, h2.gen (Same.refl _) (fun l q => (foot_at h2 q).choose_spec.2.1) (fun l ob q e3 => ?_) fun l q => ?_⟩
    · rw [upd_ne (off i s v l e h1 q)]
      exact e3
    · rw [upd_ne (off i s v l e h1 q)]
      exact (foot_at h2 q).choose_spec.2.2
theorem Ext.unlock (x : Ext F0 H0 F H) (fd : F d = some (.dK kvs)) (hu : H d = some u) (hk : DkAt u kvs) (y : Ext F (upd H0 d (.frz od (.dK kvs))) F1 H1) : Ext F0 H0 F1 (upd H1 d u) := by
  refine ⟨x.ff.trans y.ff, fun a o e => ?_, fun a o e => ?_, fun a o e => ?_⟩
  · by_cases q : a = d
    · subst q
      rw [y.ff _ _ fd] at e
      cases e
      rw [upd_same]
      rcases hk with rfl | ⟨ob, rfl⟩
      · exact .inl rfl
      · exact .inr ⟨⟨_, rfl⟩, ob, rfl⟩
    · rw [upd_ne q]
      exact y.fh a o e
  · by_cases q : a = d
    · subst q
      rw [x.hh _ _ e] at hu
      cases hu
      exact upd_same
    · rw [upd_ne q]
      exact y.hh a o (by rw [upd_ne q]; exact e)
  · rcases y.new a o e with z | z
    · exact x.new a o z
    · by_cases q : a = d
      · subst q
        rw [upd_same] at z
        cases z
      · rw [upd_ne q] at z
        exact .inr z
theorem Rel.unlock (r : Rel K mg F0 H0 F H σ Γ) (fd : F d = some (.dK kvs)) (hu : H d = some u) (hk : DkAt u kvs) (r1 : Rel K mg ⟨F, F0.sv⟩ (upd H0 d (.frz od (.dK kvs))) F1 H1 σ1 Γ1) : Rel K mg F0 H0 F1 (upd H1 d u) σ1 Γ1 := by
  have h1d : H1 d = some (.frz od (.dK kvs)) := r1.ext.hh _ _ upd_same
  have hf1 : F1 d = some (.dK kvs) := r1.ext.ff _ _ fd
  have off : ∀ (i : Nat) (s : Slot) (v : V) (l : Addr), Γ1[i]? = some (some s) → σ1[i]? = some (some v) → foot H1 s v l → l ≠ d := fun i s v l e1 e2 q z => by
    obtain ⟨w, h1, h2⟩ := r1.slot i s e1
    rw [e2] at h1
    cases h1
    obtain ⟨_, _, y, _⟩ := foot_at h2 q
    rw [z, hf1] at y
    cases y
  refine ⟨r.ext.unlock fd hu hk r1.ext, r1.len, fun i s e => ?_, r1.injG fun i s v l ob e1 e2 q e3 => by rw [upd_ne (off i s v l e1 e2 q)]; exact e3, r1.slf⟩
  obtain ⟨v, h1, h2⟩ := r1.slot i s e
  refine ⟨v, h1, h2.gen (Same.refl _) (fun l q => (foot_at h2 q).choose_spec.2.1) (fun l ob q e3 => ?_) fun l q => ?_⟩
  · rw [upd_ne (off i s v l e h1 q)]
    exact e3
  · have := (foot_at h2 q).choose_spec.2.2
    rw [upd_ne (off i s v l e h1 q)] at this
    exact this
end
def keyD : Key → D
  | .inl i => .int i
  | .inr x => .str x
theorem keyD_rp {K : PySem.W.Frag} {mg : Str → Option Value} {F : Hp} (k : Key) : Rp K mg F (keyD k) (kV k) := by
  cases k with
  | inl i => exact Rp.int
  | inr x => exact Rp.str
def itemsD (ks : List Key) (ds : List D) : List D := (ks.zip ds).map fun q => .tup [keyD q.1, q.2]
def atDk (i : Nat) (fx : DL.Env → R D) : DL.Env → Option (List Key × List D) := fun Γ => match Env.at_ Γ i, fx Γ with
  | some (.val (.lst ds)), .ok (.int k) => (match atI ds k with
    | some (.dk ks vs) => some (ks, vs)
    | _ => none)
  | _, _ => none
def Out.calmL : Out → Out
  | .nx Γ => .nx Γ
  | .rt d => .rt d
  | _ => .stuck
section
variable {X : Cx} {W : WX} {ix : Expr} {elts : List Expr} {kk : Nat} {tpos p1 p2 apos cpos pos : Pos} {body : List Stmt} {fx : DL.Env → R D} {h : Tg} {g : DL.Env → Out} {vs : List Nat}
theorem atDk_of {F0 : Fe} {H0 F H : Hp} {σ : L2.St} {Γ : DL.Env} {i : Nat} {ks : List Key} {vs : List D} (r : Rel X.K X.mg F0 H0 F H σ Γ) (e : atDk i fx Γ = some (ks, vs)) :
    ∃ (a d : Addr) (us ws : List V) (k : Int), σ[i]? = some (some (.ref a)) ∧ F a = some (.lst us) ∧ fx Γ = .ok (.int k) ∧ atI us k = some (.ref d) ∧ F d = some (.dK (ks.zip ws)) ∧ ks.length = ws.length ∧ RpL X.K X.mg F vs ws := by
  unfold atDk at e
  split at e
  case h_2 => cases e
  rename_i ds k e1 e2
  cases e3 : atI ds k with
  | none => rw [e3] at e; cases e
  | some y =>
    rw [e3] at e
    cases y with
    | dk ks' vs' =>
      cases e
      obtain ⟨v, hv, rp⟩ := r.slot i _ (at_get e1)
      obtain ⟨a, us, ev, ea, rr⟩ := Rp.lst_iff (show Rp X.K X.mg F (.lst ds) v from rp)
      obtain ⟨w, h1, h2⟩ := atI_rp rr e3
      obtain ⟨d, ws, ew, ed, el, rl⟩ := h2.dk_iff
      subst ev ew
      exact ⟨a, d, us, ws, k, hv, ea, e2, h1, ed, el, rl⟩
    | _ => cases e
theorem or_ps {st : Stmt} {t t' : TS} (h : PS X st t) (h' : PS X st t') : PS X st (fun D σ H => t D σ H ∨ t' D σ H) := ⟨fun pins s σ H D I q => q.elim (fun q => h.run pins s σ H D I q) fun q => h'.run pins s σ H D I q⟩
theorem itemsD_len {F : Hp} {ks : List Key} {ds : List D} {ws : List V} (l : ks.length = ws.length) (r : RpL X.K X.mg F ds ws) : (itemsD ks ds).length = (ks.zip ws).length := by
  unfold itemsD
  rw [List.length_map, List.length_zip, List.length_zip, r.length]
theorem for_locked {J : It} {ds : List D} {Dn : Ends} {F : Fe} {H0 F2 H2 : Hp} {σ : L2.St} {Γ : DL.Env} {d : Addr} {L : HO} (r : Rel X.K X.mg F H0 F2 H2 σ Γ) (h0 : H0 d = some L)
    (w : Walk J ds.length (fun H => Fz F2 H ∧ H d = some L) (fun i H x H'' => ∀ Fc, Same F2 Fc → Fz Fc H → ∃ Fi d, Ext Fc H Fi H'' ∧ ds[i]? = some d ∧ Rp X.K X.mg Fi d x))
    (p : PostS X W F H0 Dn (loopF h g ds Γ).calmL) :
    ∃ Wf : Nat → Nat → L2.St → Hp → Prop, (∃ m, Wf 0 m σ H2) ∧ ∀ i m σ H, Wf i m σ H →
      (J.stop i H ∧ Dn.nx σ H) ∨ (J.go i H ∧ ∃ N : L2.St → Hp → Prop, (∀ σ' H', N σ' H' → ∃ m', m' < m ∧ Wf (i + 1) m' σ' H') ∧ ∀ x H', J.yld i H x H' → tDG X vs h x σ H' fun σ2 H2 => tDS X W g { Dn with nx := N, ct := N, bk := Dn.nx } σ2 H2) := by
  have s0 : Same F F2 := r.ext.ff
  have n0 : ∀ a o, F2 a = some o → F a = some o ∨ H0 a = none := r.ext.new
  refine for_it w (fun i σ H => ∃ F1 Γ1, Rel X.K X.mg ⟨F2, F.sv⟩ H0 F1 H σ Γ1 ∧ PostS X W F H0 Dn (loopF h g (ds.drop i) Γ1).calmL) ⟨F2, Γ, r.rebase s0 (Same.refl _), by simpa using p⟩ (fun i σ H _ ⟨F1, Γ1, r1, _⟩ => ⟨r1.ext.fh.sub r1.ext.ff, r1.ext.hh _ _ h0⟩) ?_ ?_
  · rintro i xv σ1 H1 H3 hi ⟨F1, Γ1, r1, p1⟩ y
    obtain ⟨F3, dd, x2, ed, rd⟩ := y F1 r1.ext.ff r1.ext.fh
    have edr : ds.drop i = dd :: ds.drop (i + 1) := by
      obtain ⟨hlt, he⟩ := List.getElem?_eq_some_iff.mp ed
      rw [← he]
      exact List.drop_eq_getElem_cons hlt
    rw [edr] at p1
    unfold loopF at p1
    cases eh : h dd Γ1 with
    | none => rw [eh] at p1; exact p1.elim
    | some Γ2 =>
      rw [eh] at p1
      refine ⟨⟨F2, F.sv⟩, H0, F3, Γ1, dd, r1.step x2, rd, Γ2, eh, fun σ2 _ _ r2 => ?_⟩
      refine ⟨⟨F2, F.sv⟩, H0, F3, Γ2, r2, ?_⟩
      revert p1
      dsimp only
      cases eg : g Γ2 with
      | nx Γ3 => exact fun p1 σ3 F3 H3 r3 => ⟨F3, Γ3, r3, p1⟩
      | ct Γ3 => exact fun p1 σ3 F3 H3 r3 => ⟨F3, Γ3, r3, p1⟩
      | bk Γ3 => exact fun p1 σ3 F3 H3 r3 => p1 σ3 F3 H3 (r3.unbase s0 n0)
      | rt z => exact fun p1 => PostS.unbase (o := .rt z) s0 n0 p1
      | ro z => exact fun p1 => p1.elim
      | rs z Γ => exact fun p1 => p1.elim
      | exc x Γ => exact fun p1 => p1.elim
      | stuck => exact fun p1 => p1
  · rintro σ1 H1 ⟨F1, Γ1, r1, p1⟩
    have ed : ds.drop ds.length = [] := List.drop_length
    rw [ed] at p1
    exact p1 σ1 F1 H1 (r1.unbase s0 n0)
theorem walk_itemsD {F2 : Hp} {d : Addr} {od : Obj} {ks : List Key} {ds : List D} {ws : List V} (l : ks.length = ws.length) (rl : RpL X.K X.mg F2 ds ws) :
    Walk (Iti d od (ks.zip ws)) (itemsD ks ds).length (fun H => Fz F2 H ∧ H d = some (.frz od (.dK (ks.zip ws)))) (fun i H x H'' => ∀ Fc, Same F2 Fc → Fz Fc H → ∃ Fi dd, Ext Fc H Fi H'' ∧ (itemsD ks ds)[i]? = some dd ∧ Rp X.K X.mg Fi dd x) := by
  rw [itemsD_len l rl]
  refine walk_items.mono (fun H z => z.2) fun i H x H' hi z y Fc s zc => ?_
  obtain ⟨T, a, b, e1, nT, e2, e3, e4⟩ := y
  subst e1 e2
  have hi1 : i < ks.length := by rw [List.length_zip] at hi; omega
  have hi2 : i < ws.length := by omega
  have hz : (ks.zip ws)[i]? = some (ks[i], ws[i]) := by
    rw [List.getElem?_eq_getElem hi, List.getElem_zip]
  have e3 : ((ks.zip ws)[i]?.map fun kv => kV kv.1) = some a := e3
  have e4 : ((ks.zip ws)[i]?.map Prod.snd) = some b := e4
  rw [hz] at e3 e4
  cases e3
  cases e4
  obtain ⟨dd, ed, rd⟩ := rl.getV (List.getElem?_eq_getElem hi2)
  have x2 := Ext.laid (o := .tup [kV ks[i], ws[i]]) zc nT
  refine ⟨_, .tup [keyD ks[i], dd], x2, ?_, Rp.tup upd_same (RpL.cons (keyD_rp _) (RpL.cons (Rp.mono (s.trans x2.ff) _ _ rd) RpL.nil))⟩
  unfold itemsD
  obtain ⟨hd1, hd2⟩ := List.getElem?_eq_some_iff.mp ed
  have hzl : i < (ks.zip ds).length := by rw [List.length_zip]; omega
  rw [List.getElem?_map, List.getElem?_eq_getElem hzl, List.getElem_zip, hd2]
  rfl
structure AccD (X : Cx) (e : Expr) (td : TE) (acc : DL.Env → Option (List Key × List D)) : Prop where
  he : PE X e td
  sp : ∀ {F0 : Fe} {H0 F H : Hp} {σ : L2.St} {Γ : DL.Env} {ks : List Key} {es : List D}, Rel X.K X.mg F0 H0 F H σ Γ → acc Γ = some (ks, es) →
    ∃ (d : Addr) (ws : List V), F d = some (.dK (ks.zip ws)) ∧ ks.length = ws.length ∧ RpL X.K X.mg F es ws ∧
      ∀ (H0' H' : Hp) (Q : VK), Rel X.K X.mg ⟨F, F0.sv⟩ H0' F H' σ Γ → (∀ F2 H2, Ext F H' F2 H2 → Q (.ref d) H2) → td σ H' Q
def accV (i : Nat) : DL.Env → Option (List Key × List D) := fun Γ => match Env.at_ Γ i with
  | some (.val (.dk ks vs)) => some (ks, vs)
  | _ => none
theorem acc_v (i : Nat) {x : Str} (hN : X.N[i]? = some x := by rfl) (hv : Vis X.env.scope x := by first | exact Or.inl (by kernel_rfl) | exact Or.inr (Or.inl (by kernel_rfl)) | exact Or.inr (Or.inr (by kernel_rfl))) (hd : (x == ("__debug__" : Str)) = false := by kernel_rfl)
    (hcd : (x == ("__classdict__" : Str)) = false := by kernel_rfl) : AccD X (.Name x p1) (tVar i) (accV i) := by
  refine ⟨pe_var hN hv hd hcd, fun {F0 H0 F H σ Γ ks es} r e => ?_⟩
  unfold accV at e
  split at e
  case h_2 => cases e
  rename_i ks' es' e1
  cases e
  obtain ⟨v, hv, rp⟩ := r.slot i _ (at_get e1)
  obtain ⟨d, ws, ew, ed, el, rl⟩ := Rp.dk_iff (show Rp X.K X.mg F (.dk ks es) v from rp)
  subst ew
  exact ⟨d, ws, ed, el, rl, fun H0' H' Q r' q => ⟨_, hv, q F H' (Ext.refl r'.fz)⟩⟩
theorem acc_ix (i : Nat) {x : Str} (hix : DE X W ix fx) (hpx : PlainIx ix) (hN : X.N[i]? = some x := by rfl) (hv : Vis X.env.scope x := by first | exact Or.inl (by kernel_rfl) | exact Or.inr (Or.inl (by kernel_rfl)) | exact Or.inr (Or.inr (by kernel_rfl))) (hd : (x == ("__debug__" : Str)) = false := by kernel_rfl)
    (hcd : (x == ("__classdict__" : Str)) = false := by kernel_rfl) : AccD X (.Subscript (.Name x p1) ix p2) (tOp (rIxL X.K) (tVar i) (tD X W fx)) (atDk i fx) := by
  refine ⟨pe_ix ix_list (pe_var hN hv hd hcd) hix hpx, fun {F0 H0 F H σ Γ ks es} r e => ?_⟩
  obtain ⟨a, d, us, ws, k, hσ, ea, efx, eat, ed, el, rl⟩ := atDk_of r e
  refine ⟨d, ws, ed, el, rl, fun H0' H' Q r' q => ⟨_, hσ, _, _, F, Γ, r', ?_⟩⟩
  rw [efx]
  intro b F2 H2 x2 rb
  have eb : b = V.int k := (show Rp X.K X.mg F2 (.int k) b from rb).int_iff
  subst eb
  exact ⟨a, us, k, .ref d, rfl, rfl, SqL.of (x2.fh.lst (x2.ff _ _ ea)), eat, q F2 H2 x2⟩
def iDk (J : Addr → Obj → List (Key × V) → It) (td : TE) : TI := fun σ H Rr => td σ H fun x H1 => ∃ d o kvs, x = .ref d ∧ H1 d = some (.frz o (.dK kvs)) ∧ Rr (J d o kvs) H1
def sForDk (acc : DL.Env → Option (List Key × List D)) (f : List Key → List D → List D) (h : Tg) (g : DL.Env → Out) : DL.Env → Out := fun Γ => match acc Γ with
  | some (ks, vs) => (loopF h g (f ks vs) Γ).calmL
  | none => .stuck
theorem ds_forDk {tg e iter : Expr} {td : TE} {acc : DL.Env → Option (List Key × List D)} {J : Addr → Obj → List (Key × V) → It} {f : List Key → List D → List D} (A : AccD X e td acc) (hi : PI X tg iter (iDk J td))
    (wk : ∀ {F2 : Hp} {d : Addr} {od : Obj} {ks : List Key} {ds : List D} {ws : List V}, ks.length = ws.length → RpL X.K X.mg F2 ds ws →
      Walk (J d od (ks.zip ws)) (f ks ds).length (fun H => Fz F2 H ∧ H d = some (.frz od (.dK (ks.zip ws)))) (fun i H x H'' => ∀ Fc, Same F2 Fc → Fz Fc H → ∃ Fi dd, Ext Fc H Fi H'' ∧ (f ks ds)[i]? = some dd ∧ Rp X.K X.mg Fi dd x))
    (hp : PassesOwn (model X.prog X.w) X.A X.env X.xe) (hc : X.calm = true) (hg : DG X tg vs h) (hb : DSs X W body g) (hs : ∀ z, foldedSetIterable iter X.env z = pure z := by intro _; rfl) :
    DS X W (.For tg iter body [] pos) (sForDk acc f h g) := by
  have one := ps_for (pos := pos) hp hc hi hg hb hs
  refine PS.weak (or_ps one (ps_lock one)) ?_
  rintro Dn σ H ⟨F0, H0, F, Γ, r, p⟩
  revert p
  unfold sForDk
  cases ek : acc Γ with
  | none => exact fun p => p.elim
  | some q =>
    obtain ⟨ks, es⟩ := q
    intro p
    have p : PostS X W F0 H0 Dn (loopF h g (f ks es) Γ).calmL := p
    obtain ⟨d, ws, ed, el, rl, run⟩ := A.sp r ek
    -- from the state in which d is locked
    have go : ∀ (od : Obj) (u : HO) (D2 : Ends), H d = some u → DkAt u (ks.zip ws) → PostS X W ⟨F, F0.sv⟩ (upd H0 d (.frz od (.dK (ks.zip ws)))) D2 (loopF h g (f ks es) Γ).calmL →
        tFor (iDk J td) (tDG X vs h) (tDS X W g) D2 σ (upd H d (.frz od (.dK (ks.zip ws)))) := by
      intro od u D2 hu hk p2
      have rL := r.lock (od := od) ed hu hk
      refine run _ _ _ rL fun F2 H2 x2 => ?_
      refine ⟨d, od, ks.zip ws, rfl, x2.hh _ _ upd_same, ?_⟩
      exact for_locked (rL.step x2) upd_same (wk el (RpL.mono x2.ff _ _ rl)) p2
    rcases r.fz d _ ed with z | ⟨_, ob, z⟩
    · refine .inr ⟨d, .dK (ks.zip ws), z, trivial, fun od => go od _ _ z (.inl rfl) ?_⟩
      revert p
      cases loopF h g (f ks es) Γ with
      | nx Γ' => exact fun p σ1 F1 H1 r1 => ⟨r1.ext.hh _ _ upd_same, p _ _ _ (r.unlock ed z (.inl rfl) r1)⟩
      | rt y => exact fun p v F1 H1 x1 q => ⟨x1.hh _ _ upd_same, p v F1 _ (r.ext.unlock ed z (.inl rfl) x1) q⟩
      | _ => exact fun p => p.elim
    · have eH : upd H d (.frz ob (.dK (ks.zip ws))) = H := funext fun b => by
        by_cases q : b = d
        · rw [q, upd_same, z]
        · rw [upd_ne q]
      refine .inl ?_
      have := go ob _ Dn z (.inr ⟨ob, rfl⟩) ?_
      · rw [eH] at this
        exact this
      have back : ∀ {H1 : Hp}, H1 d = some (.frz ob (.dK (ks.zip ws))) → upd H1 d (.frz ob (.dK (ks.zip ws))) = H1 := fun e => funext fun b => by
        by_cases q : b = d
        · rw [q, upd_same, e]
        · rw [upd_ne q]
      revert p
      cases loopF h g (f ks es) Γ with
      | nx Γ' => exact fun p σ1 F1 H1 r1 => by have := p _ _ _ (r.unlock ed z (.inr ⟨ob, rfl⟩) r1); rw [back (r1.ext.hh _ _ upd_same)] at this; exact this
      | rt y => exact fun p v F1 H1 x1 q => by have := p v F1 _ (r.ext.unlock ed z (.inr ⟨ob, rfl⟩) x1) q; rw [back (x1.hh _ _ upd_same)] at this; exact this
      | _ => exact fun p => p.elim
theorem ds_forItems {e : Expr} {td : TE} {acc : DL.Env → Option (List Key × List D)} (A : AccD X e td acc) (hp : PassesOwn (model X.prog X.w) X.A X.env X.xe) (hc : X.calm = true) (hg : DG X (.Tuple elts kk tpos) vs h) (hb : DSs X W body g)
    (hbase : attributeBase e "items" X.env (eval e X.env) = eval e X.env := by rfl) (hline : (apos.endLine == cpos.line) = true := by rfl) (hs : ∀ z, foldedSetIterable (.Call (.Attribute e "items" apos) [] [] cpos) X.env z = pure z := by intro _; rfl) :
    DS X W (.For (.Tuple elts kk tpos) (.Call (.Attribute e "items" apos) [] [] cpos) body [] pos) (sForDk acc itemsD h g) :=
  ds_forDk A (J := Iti) (pi_items (elts := elts) (kk := kk) (tpos := tpos) A.he hbase hline) (fun l r => walk_itemsD l r) hp hc hg hb hs
def keysD (ks : List Key) (_ : List D) : List D := ks.map keyD
theorem walk_keysD {F2 : Hp} {d : Addr} {od : Obj} {ks : List Key} {ds : List D} {ws : List V} (l : ks.length = ws.length) (rl : RpL X.K X.mg F2 ds ws) :
    Walk (Itk d od (ks.zip ws)) (keysD ks ds).length (fun H => Fz F2 H ∧ H d = some (.frz od (.dK (ks.zip ws)))) (fun i H x H'' => ∀ Fc, Same F2 Fc → Fz Fc H → ∃ Fi dd, Ext Fc H Fi H'' ∧ (keysD ks ds)[i]? = some dd ∧ Rp X.K X.mg Fi dd x) := by
  have el : (keysD ks ds).length = (ks.zip ws).length := by
    unfold keysD
    rw [List.length_map, List.length_zip]
    omega
  rw [el]
  refine ⟨fun i H hi q => ⟨q.2, hi⟩, fun H q => ⟨q.2, Nat.le_refl _⟩, fun i H x H' hi q y Fc s zc => ?_⟩
  obtain ⟨e1, k, v, e2, e3⟩ := y
  subst e1 e3
  refine ⟨Fc, keyD k, Ext.refl zc, ?_, keyD_rp k⟩
  have hi1 : i < ks.length := by rw [List.length_zip] at hi; omega
  rw [List.getElem?_eq_getElem hi, List.getElem_zip] at e2
  unfold keysD
  rw [List.getElem?_map, List.getElem?_eq_getElem hi1]
  cases e2
  rfl
theorem pi_keysK {tg e : Expr} {td : TE} (he : PE X e td) : PI X tg e (iDk Itk td) := by
  have he2 : PE X e (fun σ H Q => ∃ Q' : VK, td σ H Q' ∧ ∀ v H1, Q' v H1 → Q v H1) := ⟨fun pins s σ H Q I ⟨Q', q, m⟩ => thn (he.run pins s σ H Q' I q) fun u s1 ⟨v, H1, I1, rv, q1⟩ => ⟨v, H1, I1, rv, m v H1 q1⟩⟩
  exact PI.weak (pi_keys he2) fun σ H Rr q => ⟨_, q, fun v H1 ⟨d, o, kvs, e1, e2, e3⟩ => ⟨d, o, e1, .inl ⟨kvs, e2, e3⟩⟩⟩
theorem ds_forKeys {tg e : Expr} {td : TE} {acc : DL.Env → Option (List Key × List D)} (A : AccD X e td acc) (hp : PassesOwn (model X.prog X.w) X.A X.env X.xe) (hc : X.calm = true) (hg : DG X tg vs h) (hb : DSs X W body g)
    (hs : ∀ z, foldedSetIterable e X.env z = pure z := by intro _; rfl) : DS X W (.For tg e body [] pos) (sForDk acc keysD h g) :=
  ds_forDk A (J := Itk) (pi_keysK A.he) (fun l r => walk_keysD l r) hp hc hg hb hs
end
end DL
namespace HX
open PySem PySem.Spec PyProof.Rows L2
def rSortD (H0 : Hp → Prop) : List V → Hp → VK → Prop := fun xs H Q => ∃ (d : Addr) (es : List (Key × V)) (js : List Int), xs = [.ref d] ∧ Rd H d (.dK es) ∧ es.map Prod.fst = js.map Sum.inl ∧ js.length ≤ sizeLine ∧
  ∀ (rs : List Int) (q : Addr), rs.Perm js → rs.Pairwise (· ≤ ·) → H q = none → Q (.ref q) (upd H q (.lst (rs.map V.int)))
theorem call_sortD {X : Cx} (cm : X.calm = true) : CallR X (.builtin "sorted") (rSortD fun _ => True) := by
  rintro pins st σ H xs us Q I rv ⟨d, es, js, rfl, hd, ek, hsz, fin⟩
  obtain ⟨w, ew, rw1⟩ := vals1 rv
  cases ew
  cases rw1
  obtain ⟨_, low, ents, rel, dat⟩ := dk_rd I.hok hd
  obtain ⟨epo, hat⟩ := dat.dictAt
  have kk : ents.map Prod.fst = js.map Sum.inl := (rel.keys).symm.trans ek
  have ln : ents.length = js.length := by simpa using congrArg List.length kk
  have few : ents.length ≤ sizeLine := by omega
  refine Calls.call_function_entry PyProof.Rows.kind_sorted PyProof.Rows.plain_sorted PyProof.Rows.entry_sorted (PyProof.Rows.args_sorted1 _) (?_ : wpAny _ _ (Builtin.«sorted» _) _ _ _)
  unfold Builtin.«sorted»
  refine wpAny_bind (m := checkCount "sorted" 1 1 _) (wpAny_pure ?_)
  refine wpAny_bind (PySem.W.kdu_collect (A := X.A.in1) (PySem.W.kdl_dict (knd := mixKind X.prog X.w) (kvs := ents) (ep := epo) low) (I.ok.hd cm) hat few fun g tok got kept ⟨gl, gi⟩ => ?_)
  have gln : got.toList.length = js.length := by rw [Array.length_toList, gl, ln]
  have hin : IntsAre got.toList js := ints_each gln fun j v ej => by
    obtain ⟨ky, z, z1, z2⟩ := gi j v (by rw [← Array.getElem?_toList]; exact ej)
    have z3 : (js.map (Sum.inl (β := Str)))[j]? = some ky := by rw [← kk, List.getElem?_map, z1]; rfl
    obtain ⟨y, y1, y2⟩ := Option.map_eq_some_iff.mp (by rwa [List.getElem?_map] at z3)
    subst y2
    rcases keyIs_shape (show keyIs (Sum.inl y) v = true from z2) with ⟨i, t, e1, e2⟩ | ⟨z, t, e1, _⟩
    · cases e1
      exact ⟨y, t, y1, e2⟩
    · cases e1
  have J : Inv X pins σ H { st with heap := g, toks := tok } := I.kept kept
  refine wpAny_bind (wpAny_newList ?_ (by rw [gln]; exact hsz))
  have hob : (g.push (seqObj "list" got.toList.toArray 0)).get? g.objs.size = some (seqObj "list" got.toList.toArray 0) := Heap.get?_push_size _ rfl
  show wpAny _ _ _ _ _ { st with heap := g.push (seqObj "list" got.toList.toArray 0), toks := tok }
  refine wpAny_bind (wpAny_holding (wpAny_call_entry PyProof.Rows.slot_list_sort ⟨_, hob, rfl⟩ PyProof.Rows.entry_list_sort
    (SrtO.list_sort_ord (s := { st with heap := g.push (seqObj "list" got.toList.toArray 0), toks := tok }) SrtO.swo_int hob (by rw [gln]; exact hsz) (fun two => SrtO.ints_sortable hin two) fun srt s1 s2 => ⟨_, rfl, ?_⟩) (PyProof.Rows.args_list_sort _)))
  obtain ⟨k1, k2, k3⟩ := SrtO.ints_out hin s1 s2
  obtain ⟨e2, at2⟩ := PyProof.Rows.sortedHeap_at (vs := got.toList) (out := srt.toArray) hob
  have outl : ((srt.map SrtO.iv).map V.int).length ≤ sizeLine := by rw [List.length_map, k2.length_eq]; exact hsz
  refine wpAny_pure ⟨_, rfl, .ref g.objs.size, upd H g.objs.size (.lst ((srt.map SrtO.iv).map V.int)), J.laid (t' := tok) (fun b u eb => ?_) (Nat.le_refl _) ⟨outl, srt, e2, vals_of_ints k1, at2⟩, rfl, fin _ _ k2 k3 (J.hok.fresh (Nat.le_refl _))⟩
  have lt : b < g.objs.size := Heap.lt_size eb
  rw [PyProof.Rows.sortedHeap_old (Nat.ne_of_lt lt) (by rw [size_push']; exact Nat.lt_succ_of_lt lt)]
  exact Heap.get?_push_of_some _ eb
end HX
namespace HX
open PySem PySem.Spec PyProof.Rows L2
section
variable {X : Cx}
end
end HX
namespace ZR
open PySem PySem.Spec PyProof.Rows L2
section
variable (prog : Program) (w : World)
def Gv (it : Addr) (x : Value) (St St' : Heap → Prop) : Prop := ∀ (A : Around) (E : Value → Shared → Prop) (s : Shared) (Q : Value → Shared → Prop), St s.heap → (∀ g, St' g → Heap.SameBut it s.heap g → Q x { s with heap := g }) → wpAny (model prog w) A (Builtin.SmallTypes.nextOf (.ref it)) Q E s
def Of (St : Heap → Prop) (fp : List Addr) : Prop := ∀ h g, (∀ c ∈ fp, ∀ o, h.get? c = some o → g.get? c = some o) → St h → St g
end
section
variable {prog : Program} {w : World} {A : Around} {E : Value → Shared → Prop} {s : Shared}
theorem Of.but {St : Heap → Prop} {a b c : Addr} (k : Of St [a, b]) {h g : Heap} (e : Heap.ExtBut c h g) (n1 : a ≠ c) (n2 : b ≠ c) (x : St h) : St g := k h g (fun d hd o q => by
  rcases List.mem_cons.mp hd with z | z
  · subst z; exact e _ _ n1 q
  · rw [List.mem_singleton.mp z] at q ⊢; exact e _ _ n2 q) x
theorem step {z TI TO i1 i2 l1 l2 : Addr} {x y a b : Value} {S1 S1' S2 S2' : Heap → Prop} {Q : Option Value → Shared → Prop} (D : ZipApart z TI TO i1 i2 l1 l2)
    (kz : IsZip s.heap z TI TO .none) (kI : IsPair s.heap TI (.ref i1) (.ref i2)) (kO : IsPair s.heap TO a b) (g1 : Gv prog w i1 x S1 S1') (g2 : Gv prog w i2 y S2 S2')
    (o1 : Of S1 [i1, l1]) (o1' : Of S1' [i1, l1]) (o2 : Of S2 [i2, l2]) (o2' : Of S2' [i2, l2]) (s1 : S1 s.heap) (s2 : S2 s.heap)
    (fin : ∀ g, IsZip g z TI TO (rawInt s.heap.objs.size) → IsPair g TO x y → S1' g → S2' g → IsPair g s.heap.objs.size x y → g.objs.size = s.heap.objs.size + 1 →
      (∀ c o, c ≠ z → c ≠ TO → c ≠ i1 → c ≠ i2 → s.heap.get? c = some o → g.get? c = some o) → Q (some (.ref s.heap.objs.size)) { s with heap := g }) : wpAny (model prog w) A (pyNext (.ref z)) Q E s := by
  have ty : s.TypeIs (.ref z) "zip" := ⟨_, kz, rfl⟩
  unfold pyNext
  refine wpAny_bind (wpAny_attempt (wpAny_callSpecial?_slot (name := Str.ofString "__next__") ty F.slot_zip_next (wpAny_call_entry F.slot_zip_next ty F.entry_zip_next (?_ : wpAny _ _ (Builtin.«zip.__next__» ⟨[.ref z], []⟩) _ _ _) (F.args_zip_next_1 _))))
  show wpAny _ _ (field (.ref z) 2 >>= _) _ _ _
  refine wpAny_bind (wpAny_field kz rfl (x := .bool false) rfl (?_ : wpAny _ _ (field (.ref z) 3 >>= _) _ _ _))
  refine wpAny_bind (wpAny_field kz rfl (x := .ref TI) rfl (wpAny_bind (wpAny_seqItems kI rfl (?_ : wpAny _ _ (Builtin.SmallTypes.ownedTupleIsFree (.ref z) >>= _) _ _ _))))
  refine wpAny_bind ?_; unfold Builtin.SmallTypes.ownedTupleIsFree; refine wpAny_bind (wpAny_field kz rfl (x := .none) rfl (wpAny_pure ?_)); simp only [if_true]
  refine wpAny_bind (wpAny_rule (wpAny_bind (wpAny_field kz rfl (x := .ref TO) rfl (wpAny_bind (wpAny_setField_rec kz (by simp) fun m1 z1 e1 => wpAny_bind ?_)))))
  replace z1 : IsZip m1 z TI TO .ellipsis := z1
  simp only [List.zipIdx_cons, List.zipIdx_nil, List.forIn_cons, List.forIn_nil]
  refine wpAny_bind (wpAny_bind (wpAny_onRaise (wpAny_bind (g1 _ _ _ _ (o1.but e1.extBut D.i1z D.l1z s1) fun m2 t2 e2 => wpAny_pure ?_))))
  have p2 : IsPair m2 TO a b := e2.extBut _ _ D.TOi1 (e1.extBut _ _ D.TOz kO)
  refine wpAny_bind (wpAny_seqItems p2 rfl (wpAny_bind (wpAny_updateSeq_pair p2 fun m3 p3 e3 => wpAny_bind (wpAny_letGo (wpAny_pure ?_)))))
  replace p3 : IsPair m3 TO x b := p3
  refine wpAny_bind (wpAny_bind (wpAny_onRaise (wpAny_bind (g2 _ _ _ _ (o2.but e3.extBut D.TOi2.symm D.l2TO (o2.but e2.extBut D.i12.symm D.l2i1 (o2.but e1.extBut D.i2z D.l2z s2))) fun m4 t4 e4 => wpAny_pure ?_))))
  have p4 : IsPair m4 TO x b := e4.extBut _ _ D.TOi2 p3
  refine wpAny_bind (wpAny_seqItems p4 rfl (wpAny_bind (wpAny_updateSeq_pair p4 fun m5 p5 e5 => wpAny_bind (wpAny_letGo (wpAny_pure (wpAny_pure ?_))))))
  replace p5 : IsPair m5 TO x y := p5
  refine wpAny_bind (wpAny_seqItems p5 rfl (wpAny_bind (wpAny_newTuple ?_)))
  have sz : m5.objs.size = s.heap.objs.size := by rw [e5.1, e4.1, e3.1, e2.1, e1.1]
  have z5 : IsZip m5 z TI TO .ellipsis := e5.extBut _ _ D.TOz.symm (e4.extBut _ _ D.i2z.symm (e3.extBut _ _ D.TOz.symm (e2.extBut _ _ D.i1z.symm z1)))
  have k5 : ∀ c o, c ≠ z → c ≠ TO → c ≠ i1 → c ≠ i2 → s.heap.get? c = some o → m5.get? c = some o := fun c o c1 c2 c3 c4 q => e5.extBut _ _ c2 (e4.extBut _ _ c4 (e3.extBut _ _ c2 (e2.extBut _ _ c3 (e1.extBut _ _ c1 q))))
  have a5 : S1' m5 := o1'.but e5.extBut D.TOi1.symm D.l1TO (o1'.but e4.extBut D.i12 D.l1i2 (o1'.but e3.extBut D.TOi1.symm D.l1TO t2))
  have b5 : S2' m5 := o2'.but e5.extBut D.TOi2.symm D.l2TO t4
  have zl : z < m5.objs.size := Heap.lt_size z5
  show wpAny _ _ (Builtin.SmallTypes.ownedTupleHandOut (.ref z) (.ref m5.objs.size) >>= _) _ _ _
  refine wpAny_bind ?_
  have z6 : IsZip (m5.push { cls := .type "tuple", data := .seq #[x, y] }) z TI TO .ellipsis := Heap.get?_push_of_some _ z5
  unfold Builtin.SmallTypes.ownedTupleHandOut
  refine wpAny_bind (wpAny_setField_rec z6 (by simp) fun m7 z7 e7 => ?_)
  replace z7 : IsZip m7 z TI TO (rawInt m5.objs.size) := z7
  refine wpAny_setField_rec z7 (by simp) fun m8 z8 e8 => ?_
  replace z8 : IsZip m8 z TI TO (rawInt m5.objs.size) := z8
  have up : ∀ c o, c ≠ z → m5.get? c = some o → m8.get? c = some o := fun c o c1 q => e8.extBut _ _ c1 (e7.extBut _ _ c1 (Heap.get?_push_of_some _ q))
  have q8 : IsPair m8 m5.objs.size x y := e8.extBut _ _ (Nat.ne_of_gt zl) (e7.extBut _ _ (Nat.ne_of_gt zl) (Heap.get?_push_size _ rfl))
  have n8 : m8.objs.size = m5.objs.size + 1 := by rw [e8.1, e7.1, Heap.size_push]
  have a8 : S1' m8 := o1' m5 m8 (fun d hd o q => up d o (by
    rcases List.mem_cons.mp hd with r | r
    · rw [r]; exact D.i1z
    · rw [List.mem_singleton.mp r]; exact D.l1z) q) a5
  have b8 : S2' m8 := o2' m5 m8 (fun d hd o q => up d o (by
    rcases List.mem_cons.mp hd with r | r
    · rw [r]; exact D.i2z
    · rw [List.mem_singleton.mp r]; exact D.l2z) q) b5
  rw [sz] at z8 q8 n8
  refine wpAny_pure ⟨_, rfl, ?_⟩
  refine wpAny_pure ?_
  show Q (some (.ref m5.objs.size)) _
  rw [sz]
  exact fin m8 z8 (up _ _ D.TOz p5) a8 b8 q8 n8 fun c o c1 c2 c3 c4 q => up c o c1 (k5 c o c1 c2 c3 c4 q)
theorem gv_list {it l : Addr} {k : Nat} {xs : Array Value} {x : Value} (ne : l ≠ it) (hx : xs[k]? = some x) : Gv prog w it x (fun h => h.IsListIter it l k ∧ h.IsList l xs) (fun h => h.IsListIter it l (k + 1) ∧ h.IsList l xs) := fun A E s Q st fin =>
  wpAny_nextOf_list_item st.1 st.2 hx fun g t e => fin g ⟨t, st.2.extBut e.extBut ne⟩ e
theorem gv_rev {it l : Addr} {k : Nat} {xs : Array Value} {x : Value} (ne : l ≠ it) (hx : xs[k]? = some x) : Gv prog w it x (fun h => h.IsRevIter it l (k : Int) ∧ h.IsList l xs) (fun h => h.IsRevIter it l ((k : Int) - 1) ∧ h.IsList l xs) := fun A E s Q st fin => by
  obtain ⟨o, ho, hc, hd⟩ := id st.1
  obtain ⟨ol, hol, _, nl, hdl⟩ := id st.2
  unfold Builtin.SmallTypes.nextOf
  refine wpAny_bind (wpAny_callSpecial?_slot (name := Str.ofString "__next__") st.1.typeIs F.slot_lri_next (wpAny_call_entry F.slot_lri_next st.1.typeIs F.entry_lri_next (?_ : wpAny _ _ (Builtin.«list_reverseiterator.__next__» _) _ _ _) (F.args_lri_next_1 _)))
  unfold Builtin.«list_reverseiterator.__next__»
  refine wpAny_bind (wpAny_of_eq (a := (Value.ref it, [])) rfl ?_)
  dsimp only
  refine wpAny_bind (wpAny_field ho hd (x := rawInt (k : Int)) rfl (?_ : wpAny _ _ (if (k : Int) < 0 then _ else _) _ _ s))
  rw [if_neg (by omega)]
  refine wpAny_bind (m := field (.ref it) 0) (wpAny_field ho hd (x := .ref l) rfl (wpAny_bind (m := seqItems? (.ref l)) (wpAny_seqItems hol hdl ?_)))
  simp only [Int.toNat_natCast, hx]
  have un : ∀ g, g = s.heap.update it (·.mapFields (·.setIfInBounds 1 (rawInt ((k : Int) - 1)))) → Heap.IsRevIter g it l ((k : Int) - 1) := fun g eg => by
    subst eg
    refine ⟨_, Heap.get?_update_self _ ho (Obj.isFreed_of_fields (Obj.data_mapFields hd _)), (Obj.cls_mapFields ..).trans hc, ?_⟩
    rw [Obj.data_mapFields hd]; simp
  refine wpAny_bind (wpAny_setField ho hd (by simp) ?_)
  first
  | exact wpAny_pure ⟨x, rfl, wpAny_pure (fin _ ⟨un _ rfl, st.2.extBut (Heap.SameBut.update ..).extBut ne⟩ (Heap.SameBut.update ..))⟩
  | exact wpAny_bind (wpAny_pure (wpAny_pure ⟨x, rfl, wpAny_pure (fin _ ⟨un _ rfl, st.2.extBut (Heap.SameBut.update ..).extBut ne⟩ (Heap.SameBut.update ..))⟩))
theorem of_list {it l : Addr} {k : Nat} {xs : Array Value} : Of (fun h => h.IsListIter it l k ∧ h.IsList l xs) [it, l] := fun h g kp st => ⟨st.1.at fun o q => kp it (by simp) o q, st.2.at fun o q => kp l (by simp) o q⟩
theorem of_rev {it l : Addr} {k : Int} {xs : Array Value} : Of (fun h => h.IsRevIter it l k ∧ h.IsList l xs) [it, l] := fun h g kp st => ⟨st.1.at fun o q => kp it (by simp) o q, st.2.at fun o q => kp l (by simp) o q⟩
theorem stop {z TI TO i1 i2 l1 l2 : Addr} {k : Nat} {xs : Array Value} {a b : Value} {Q : Option Value → Shared → Prop} (hh : A.handled = none) (D : ZipApart z TI TO i1 i2 l1 l2)
    (kz : IsZip s.heap z TI TO .none) (kI : IsPair s.heap TI (.ref i1) (.ref i2)) (kO : IsPair s.heap TO a b) (st : s.heap.IsListIter i1 l1 k ∧ s.heap.IsList l1 xs) (none_ : xs[k]? = none)
    (fin : ∀ g, (∀ c o, c ≠ z → c ≠ TO → c ≠ i1 → c ≠ i2 → s.heap.get? c = some o → g.get? c = some o) → Q none { s with heap := g }) : wpAny (model prog w) A (pyNext (.ref z)) Q E s := by
  have ty : s.TypeIs (.ref z) "zip" := ⟨_, kz, rfl⟩
  unfold pyNext
  refine wpAny_bind (wpAny_attempt (wpAny_callSpecial?_slot (name := Str.ofString "__next__") ty F.slot_zip_next (wpAny_call_entry F.slot_zip_next ty F.entry_zip_next (?_ : wpAny _ _ (Builtin.«zip.__next__» ⟨[.ref z], []⟩) _ _ _) (F.args_zip_next_1 _))))
  show wpAny _ _ (field (.ref z) 2 >>= _) _ _ _
  refine wpAny_bind (wpAny_field kz rfl (x := .bool false) rfl (?_ : wpAny _ _ (field (.ref z) 3 >>= _) _ _ _))
  refine wpAny_bind (wpAny_field kz rfl (x := .ref TI) rfl (wpAny_bind (wpAny_seqItems kI rfl (?_ : wpAny _ _ (Builtin.SmallTypes.ownedTupleIsFree (.ref z) >>= _) _ _ _))))
  refine wpAny_bind ?_; unfold Builtin.SmallTypes.ownedTupleIsFree; refine wpAny_bind (wpAny_field kz rfl (x := .none) rfl (wpAny_pure ?_)); simp only [if_true]
  refine wpAny_bind (wpAny_rule (wpAny_bind (wpAny_field kz rfl (x := .ref TO) rfl (wpAny_bind (wpAny_setField_rec kz (by simp) fun m1 z1 e1 => wpAny_bind ?_)))))
  replace z1 : IsZip m1 z TI TO .ellipsis := z1
  simp only [List.zipIdx_cons, List.zipIdx_nil, List.forIn_cons, List.forIn_nil]
  refine wpAny_bind (wpAny_bind (wpAny_onRaise (wpAny_bind (wpAny_nextOf_list_end hh (st.1.extBut e1.extBut D.i1z) (st.2.extBut e1.extBut D.l1z) none_ fun m2 e e2 he => ?_))))
  obtain ⟨oe, hoe, hce⟩ := he
  have z2 : IsZip m2 z TI TO .ellipsis := e2 _ _ D.i1z.symm z1
  have ez : e ≠ z := fun q => by subst q; rw [z2] at hoe; cases hoe; simp at hce
  refine wpAny_setField_rec z2 (by simp) fun m3 _ e3 => ?_
  refine wpAny_bind (wpAny_isInstance (T := "StopIteration") (b := true) ⟨oe, e3.extBut _ _ ez hoe, hce⟩ isSubtype_stop (wpAny_pure ?_))
  exact fin _ fun c o c1 c2 c3 c4 q => e3.extBut _ _ c1 (e2 _ _ c3 (e1.extBut _ _ c1 q))
end
def ItR (K : PySem.W.Frag) (a b : Addr) (n : Nat) : It :=
  ⟨fun i H => i < n ∧ ∃ (xs ys : List V) (x y : V), SqL K H a xs ∧ SqL K H b ys ∧ xs[i]? = some x ∧ ys[n - 1 - i]? = some y,
    fun i H v H' => ∃ T x y, v = .ref T ∧ H T = none ∧ H' = upd H T (.tup [x, y]) ∧ (∀ xs, SqL K H a xs → xs[i]? = some x) ∧ ∀ ys, SqL K H b ys → ys[n - 1 - i]? = some y,
    fun i H => ∃ xs : List V, SqL K H a xs ∧ xs.length ≤ i⟩
theorem turn {P : Program} {w : World} {K : PySem.W.Frag} {elts : List Expr} {kk : Nat} {tpos : Pos} {a b z TI TO i1 i2 : Addr} {n : Nat} (D : ZipApart z TI TO i1 i2 a b) :
    Turn P w K (.Tuple elts kk tpos) (ItR K a b n) [z, TI, TO, i1, i2] z (fun i h => IsZip h z TI TO .none ∧ IsPair h TI (.ref i1) (.ref i2) ∧ (∃ x y, IsPair h TO x y) ∧ h.IsListIter i1 a i ∧ h.IsRevIter i2 b ((n : Int) - 1 - (i : Nat))) where
  mem := by simp
  obj := fun i h st c hc => by
    obtain ⟨kz, kI, ⟨x, y, kO⟩, ⟨o1, e1, _, d1⟩, ⟨o2, e2, _, d2⟩⟩ := st
    simp only [List.mem_cons, List.not_mem_nil, or_false] at hc
    rcases hc with rfl | rfl | rfl | rfl | rfl
    · exact ⟨_, kz, fun v q => nomatch q⟩
    · exact ⟨_, kI, fun v q => nomatch q⟩
    · exact ⟨_, kO, fun v q => nomatch q⟩
    · exact ⟨o1, e1, fun v q => by rw [d1] at q; cases q⟩
    · exact ⟨o2, e2, fun v q => by rw [d2] at q; cases q⟩
  keep := fun i h h' st k => by
    obtain ⟨kz, kI, ⟨x, y, kO⟩, q1, q2⟩ := st
    exact ⟨k z (by simp) _ kz, k TI (by simp) _ kI, ⟨x, y, k TO (by simp) _ kO⟩, q1.at fun o q => k i1 (by simp) o q, q2.at fun o q => k i2 (by simp) o q⟩
  item := by
    intro X hP hw hK hc i pins s σ H E I hf st hg
    subst hP hw hK
    obtain ⟨kz, kI, ⟨x0, y0, kO⟩, q1, q2⟩ := st
    obtain ⟨hin, xs, ys, x, y, sx, sy, gx, gy⟩ := hg
    obtain ⟨its, rv, p, _⟩ := I.list sx
    obtain ⟨its2, rv2, p2, _⟩ := I.list sy
    obtain ⟨u, hu, ru⟩ := rv.get gx
    obtain ⟨u2, hu2, ru2⟩ := rv2.get gy
    have zl : z < s.heap.objs.size := Heap.lt_size kz
    have ej : (n : Int) - 1 - (i : Nat) = ((n - 1 - i : Nat) : Int) := by omega
    rw [ej] at q2
    refine step D kz kI kO (gv_list (k := i) (xs := its.toArray) (x := u) D.l1i1 (by simpa using hu)) (gv_rev (k := n - 1 - i) (xs := its2.toArray) (x := u2) D.l2i2 (by simpa using hu2)) of_list of_list of_rev of_rev ⟨q1, p.isList⟩ ⟨q2, p2.isList⟩ fun h' z' TO' t1 t2 hT hsz hk => ⟨_, rfl, wpAny_letOwnedTupleGo_zip (s := { s with heap := h' }) z' fun h'' z'' sb => ?_⟩
    have hT2 : h''.get? s.heap.objs.size = some { cls := .type "tuple", data := .seq #[u, u2] } := (sb.2 _ (Nat.ne_of_gt zl)).trans hT
    have new : ObjOk X.prog X.w (upd H s.heap.objs.size (.tup [x, y])) h'' s.heap.objs.size (.tup [x, y]) := ⟨by show 2 ≤ sizeLine; decide, [u, u2], .cons ru (.cons ru2 .nil), ⟨_, hT2, rfl, _, rfl⟩⟩
    have I1 : Inv X pins σ (upd H s.heap.objs.size (.tup [x, y])) { s with heap := h'' } :=
      I.turnedNew (t' := s.toks) (ch := [z, TI, TO, i1, i2]) (fun c o hb q => (sb.2 c (fun q' => hb (by simp [q']))).trans (hk c o (fun q' => hb (by simp [q'])) (fun q' => hb (by simp [q'])) (fun q' => hb (by simp [q'])) (fun q' => hb (by simp [q'])) q)) hf (Nat.le_refl _) new
    have ej2 : ((n - 1 - i : Nat) : Int) - 1 = (n : Int) - 1 - ((i + 1 : Nat) : Int) := by omega
    rw [ej2] at t2
    refine ⟨.ref s.heap.objs.size, _, I1, rfl, ⟨_, x, y, rfl, I.hok.fresh (Nat.le_refl _), rfl, fun l hl => by rw [I.list_inj hl sx]; exact gx, fun l hl => by rw [I.list_inj hl sy]; exact gy⟩, ⟨z'', ?_, ⟨u, u2, ?_⟩, ?_, ?_⟩, fun c hcm => ?_⟩
    · exact (sb.2 _ D.TIz).trans (hk _ _ D.TIz D.TITO D.TIi1 D.TIi2 kI)
    · exact (sb.2 _ D.TOz).trans TO'
    · exact t1.1.at fun o q => (sb.2 _ D.i1z).trans q
    · exact t2.1.at fun o q => (sb.2 _ D.i2z).trans q
    · rw [upd_ne (Nat.ne_of_lt (by
        simp only [List.mem_cons, List.not_mem_nil, or_false] at hcm
        obtain ⟨_, f1, _⟩ := q1
        obtain ⟨_, f2, _⟩ := q2
        rcases hcm with r | r | r | r | r <;> rw [r]
        · exact zl
        · exact Heap.lt_size kI
        · exact Heap.lt_size kO
        · exact Heap.lt_size f1
        · exact Heap.lt_size f2))]
      exact (hf c hcm).1
  done := by
    intro X hP hw hK hc i pins s σ H E I hf st hg
    subst hP hw hK
    obtain ⟨kz, kI, ⟨x0, y0, kO⟩, q1, q2⟩ := st
    obtain ⟨xs, sx, hend⟩ := hg
    obtain ⟨its, rv, p, _⟩ := I.list sx
    have e1 := rv.length
    exact stop (I.ok.hd hc) D kz kI kO ⟨q1, p.isList⟩ (by simp; omega) fun g hk => ⟨rfl, I.turnedL (t' := s.toks) (ch := [z, TI, TO, i1, i2]) (fun c o hb q =>
      hk c o (fun q' => hb (by simp [q'])) (fun q' => hb (by simp [q'])) (fun q' => hb (by simp [q'])) (fun q' => hb (by simp [q'])) q) hf⟩
  self := fun A i s Q E st h => wpAny_pyIter_zip st.1 h
abbrev w1 (h : Heap) (l : Addr) : Heap := h.push { cls := .type "list_iterator", data := .fields #[.ref l, .int 0 0] }
abbrev w2 (h : Heap) (l r : Addr) : Heap := (w1 h l).push { cls := .type "tuple", data := .seq #[.ref h.objs.size, .ref r] }
abbrev w3 (h : Heap) (l r : Addr) : Heap := (w2 h l r).push { cls := .type "tuple", data := .seq #[.none, .none] }
section
variable {prog : Program} {w : World} {A : Around} {E : Value → Shared → Prop} {s : Shared}
end
theorem apart (N a b : Nat) (ha : a < N) (hb : b < N) : ZipApart (N + 1 + 3) (N + 1 + 1) (N + 1 + 2) (N + 1) N a b := by
  constructor <;> (refine PySem.W.neN ?_; omega)
end ZR
namespace DL
open PySem PySem.Spec L2
def ksI : List Key → Option (List Int)
  | [] => some []
  | .inl i :: ks => (ksI ks).map (i :: ·)
  | _ => none
theorem ksI_eq : ∀ {ks : List Key} {js : List Int}, ksI ks = some js → ks = js.map Sum.inl
  | [], js, e => by cases e; rfl
  | .inl i :: ks, js, e => by
    unfold ksI at e
    cases e2 : ksI ks with
    | none => rw [e2] at e; cases e
    | some js' =>
      rw [e2] at e
      cases e
      rw [ksI_eq e2]
      rfl
  | .inr _ :: _, _, e => by cases e
def srtI (js : List Int) : List Int := js.mergeSort fun a b => decide (a ≤ b)
theorem srtI_pw (js : List Int) : (srtI js).Pairwise (· ≤ ·) := by
  have := List.pairwise_mergeSort (le := fun a b : Int => decide (a ≤ b)) (fun a b c h1 h2 => decide_eq_true (Int.le_trans (of_decide_eq_true h1) (of_decide_eq_true h2))) (fun a b => by simp only [Bool.or_eq_true, decide_eq_true_eq]; omega) js
  exact this.imp fun h => of_decide_eq_true h
theorem srtI_perm (js : List Int) : (srtI js).Perm js := List.mergeSort_perm _ _
theorem srtI_uni {rs js : List Int} (h1 : rs.Perm js) (h2 : rs.Pairwise (· ≤ ·)) : rs = srtI js :=
  List.Perm.eq_of_pairwise (le := fun a b : Int => a ≤ b) (fun a b _ _ h h' => Int.le_antisymm h h') h2 (srtI_pw js) (h1.trans (srtI_perm js).symm)
def oSorted : List D → R (List D)
  | [.dk ks _] => (match ksI ks with
    | some js => if js.length ≤ LIM then .ok ((srtI js).map D.int) else .stuck
    | none => .stuck)
  | _ => .stuck
section
variable {X : Cx} {W : WX} {a : Expr} {es : List Expr} {fs : DL.Env → R (List D)} {p pos : Pos}
theorem rpL_ints {K : PySem.W.Frag} {mg : Str → Option Value} {F : Hp} : ∀ js : List Int, RpL K mg F (js.map D.int) (js.map V.int)
  | [] => RpL.nil
  | j :: js => RpL.cons Rp.int (rpL_ints js)
theorem RpL.inj {K : PySem.W.Frag} {mg : Str → Option Value} {F : Hp} : ∀ {js : List Int} {vs us : List V}, RpL K mg F (js.map D.int) vs → RpL K mg F (js.map D.int) us → vs = us
  | [], vs, us, h, h' => by rw [h.nil_iff, h'.nil_iff]
  | j :: js, vs, us, h, h' => by
    obtain ⟨v, vs', e1, r1, r2⟩ := h.cons_iff
    obtain ⟨u, us', e2, r3, r4⟩ := h'.cons_iff
    rw [e1, e2, r1.int_iff, r3.int_iff, RpL.inj r2 r4]
theorem satO_sorted : SatLO X (HX.rSortD fun _ => True) oSorted := by
  intro F H ds vs E Q z r p
  unfold oSorted at p
  split at p
  case h_2 => exact p.elim
  rename_i ks es
  cases e : ksI ks with
  | none => rw [e] at p; exact p.elim
  | some js =>
    rw [e] at p
    obtain ⟨hl, p⟩ := ifR p
    obtain ⟨v, e1, r1⟩ := r.one
    obtain ⟨d, ws, ev, ed, el, rl⟩ := r1.dk_iff
    subst ev
    have ek := ksI_eq e
    refine ⟨d, ks.zip ws, js, e1, ?_, ?_, by rw [LIM_eq]; exact hl, fun rs q h1 h2 n => ?_⟩
    · rcases z d _ ed with y | ⟨_, ob, y⟩
      · exact .inl y
      · exact .inr ⟨ob, y⟩
    · rw [List.map_fst_zip (by omega), ek]
    · rw [srtI_uni h1 h2]
      exact p _ F _ (Ext.heap z n) ⟨q, (srtI js).map V.int, rfl, upd_same, z.free n, n, rpL_ints _⟩
theorem do_callB {x : Str} {id : String} {r : List V → Hp → VK → Prop} {g : List D → R (List D)} (hc : CallR X (.builtin id) r) (hs : SatLO X r g) (hg : Gl X x) (hm : X.mg x = none) (hv : bootBuiltins x = some (.builtin id)) (ha : DA X W (a :: es) fs)
    (hn : x ≠ "__name__" := by decide +kernel) (hdb : (x == ("__debug__" : Str)) = false := by kernel_rfl)
    (he : starEach (a :: es) X.env = (false, eval a X.env) :: starEach es X.env := by rfl) (hpl : (backTo pos (starEach es X.env)).any (·.1) = false := by rfl) : DO X W (.Call (.Name x p) (a :: es) [] pos) (oCall g fs) := by
  refine PE.weak (pe_callB hc hg hm hv ha hn hdb he hpl) ?_
  rintro σ H Q ⟨F0, H0, F, Γ, rl, p⟩
  exact ⟨F0, H0, F, Γ, rl, PostG.bind p (fun ds vs F1 H1 _ x1 r1 p1 => hs F1 H1 ds vs _ _ x1.fh r1 p1) upO⟩
end
def dsI : List D → Option (List Int)
  | [] => some []
  | .int i :: ds => (dsI ds).map (i :: ·)
  | _ => none
theorem dsI_eq : ∀ {ds : List D} {js : List Int}, dsI ds = some js → ds = js.map D.int
  | [], js, e => by cases e; rfl
  | .int i :: ds, js, e => by
    unfold dsI at e
    cases e2 : dsI ds with
    | none => rw [e2] at e; cases e
    | some js' =>
      rw [e2] at e
      cases e
      rw [dsI_eq e2]
      rfl
  | .non :: _, _, e => by cases e
  | .bl _ :: _, _, e => by cases e
  | .str _ :: _, _, e => by cases e
  | .lst _ :: _, _, e => by cases e
  | .tup _ :: _, _, e => by cases e
  | .scr _ :: _, _, e => by cases e
  | .dk _ _ :: _, _, e => by cases e
  | .obj _ _ _ :: _, _, e => by cases e
  | .exc _ _ _ :: _, _, e => by cases e
  | .cls _ :: _, _, e => by cases e
  | .ty _ :: _, _, e => by cases e
def minL (j : Int) (js : List Int) : Int := js.foldl (fun a y => if y < a then y else a) j
def dMinNon : D → R D
  | .lst ds => (match dsI ds with
    | some [] => .ok .non
    | some (j :: js) => .ok (.int (minL j js))
    | none => .stuck)
  | _ => .stuck
theorem minOf_int (j : Int) (js : List Int) : PySem.W.minOf j js = minL j js := by
  unfold PySem.W.minOf minL
  congr 1
  funext a y
  show (if decide (y < a) = true then y else a) = _
  by_cases h : y < a
  · rw [if_pos h, if_pos (decide_eq_true h)]
  · rw [if_neg h, if_neg (by simp [h])]
def rMinNon (K : PySem.W.Frag) : List V → List V → Hp → VK → Prop := fun xs zs H Q => ∃ (a : Addr) (js : List Int), xs = [.ref a] ∧ zs = [.non] ∧ SqL K H a (js.map V.int) ∧ (match js with | [] => Q .non H | j :: js => Q (.int (minL j js)) H)
theorem call_minNon {X : Cx} (hc : X.calm = true) (hu : X.A.units + 64 < cLine) : CallRK X (.builtin "min") [Str.ofString "default"] (rMinNon X.K) := by
  rintro pins st σ H xs zs us ws Q I rv rz ⟨a, js, rfl, rfl, hs, q⟩
  obtain ⟨w, ew, rw1⟩ := vals1 rv
  cases ew
  cases rw1
  obtain ⟨w2, ew2, rw2⟩ := vals1 rz
  cases ew2
  cases rw2
  obtain ⟨its, r, hl, _⟩ := I.list hs
  refine PySem.W.min_list_datum_default (α := Int) (xs := js) (I.ok.hd hc) hl.isList (PySem.W.HoldAll.of_ints (by simpa using r.ints)) (by show _ + 1 + 0 < _; omega) (fun e h' tk k => ?_) fun y ys i v h' tk e hv hh k => ?_
  · subst e
    exact ⟨.non, H, I.kept (t' := tk) k, rfl, q⟩
  · subst e
    obtain ⟨as, rd⟩ := hh
    have rd : PySem.Reads h' v (.int (PySem.W.minOf y ys)) as := rd
    cases rd
    refine ⟨.int (PySem.W.minOf y ys), H, I.kept (t' := tk) k, ⟨_, rfl⟩, ?_⟩
    rw [minOf_int]
    exact q
section
variable {X : Cx} {W : WX} {e : Expr} {f : DL.Env → R D} {p pos kpos cp : Pos}
theorem de_minNon {ck : Nat} (hc : X.calm = true) (hu : X.A.units + 64 < cLine) (ha : DE X W e f) (hg : Gl X "min") (hm : X.mg "min" = none)
    (he : backTo pos (starEach [e] X.env) = (false, eval e X.env) :: backTo pos (starEach [] X.env) := by rfl) (hpl : (backTo pos (starEach [e] X.env)).any (·.1) = false := by rfl) (he1 : starEach [e] X.env = (false, eval e X.env) :: starEach [] X.env := by rfl)
    (hall : (backToKw pos (keywordEach [⟨some "default", .Constant .none ck cp, kpos⟩] X.env)).all (·.1.isSome) = true := by rfl) (hnone : (backToKw pos (keywordEach [⟨some "default", .Constant .none ck cp, kpos⟩] X.env)).any (·.1.isNone) = false := by rfl)
    (hks : (backToKw pos (keywordEach [⟨some "default", .Constant .none ck cp, kpos⟩] X.env)).filterMap (·.1) = [Str.ofString "default"] := by rfl) :
    DE X W (.Call (.Name "min" p) [e] [⟨some "default", .Constant .none ck cp, kpos⟩] pos) (eUn dMinNon f) := by
  refine PE.weak (pe_callBK (call_minNon hc hu) hg hm (by decide +kernel) (pa_cons ha pa_nil he1) (pk_cons pe_non pk_nil) (by decide +kernel) (by kernel_rfl) he hpl hall hnone hks) ?_
  rintro σ H Q ⟨F0, H0, F, Γ, r, p⟩
  refine ⟨F0, H0, F, Γ, r, PostG.bind p (fun d v F1 H1 _ x1 r1 p1 => ?_) fun _ _ _ _ _ h => h⟩
  unfold dMinNon at p1
  cases d with
  | lst ds =>
    have p2 : PostG X.K X.mg (repV X.K X.mg) F1 H1 (WE W σ) Q (match dsI ds with
      | some [] => .ok .non
      | some (j :: js) => .ok (.int (minL j js))
      | none => .stuck) := p1
    cases e : dsI ds with
    | none => rw [e] at p2; exact p2.elim
    | some js =>
      rw [e] at p2
      obtain ⟨a, vs, ev, ea, rr⟩ := Rp.lstH x1.fh r1
      have ed := dsI_eq e
      subst ev ed
      have ek : vs = js.map V.int := RpL.inj rr (rpL_ints js)
      subst ek
      refine ⟨a, js, rfl, rfl, SqL.of ea, ?_⟩
      cases js with
      | nil => exact PostG.ok (show PostG X.K X.mg (repV X.K X.mg) F1 H1 (WE W σ) Q (.ok .non) from p2) x1.fh Rp.non
      | cons j js =>
        have p3 : PostG X.K X.mg (repV X.K X.mg) F1 H1 (WE W σ) Q (.ok (.int (minL j js))) := p2
        exact PostG.ok p3 x1.fh Rp.int
  | _ => exact p1.elim
end
end DL
namespace DL
open PySem PySem.Spec L2
section
variable {X : Cx} {W : WX} {a : Expr} {es : List Expr} {fs : DL.Env → R (List D)} {p pos : Pos}
end
def mrgD : List Key → List D → List Key × List D → List Key × List D
  | k :: ks, d :: ds, a => mrgD ks ds (putD a.1 a.2 k d)
  | _, _, a => a
def pNil : DL.Env → R (List Key × List D) := fun _ => .ok ([], [])
def pCons (fk fv : DL.Env → R D) (f : DL.Env → R (List Key × List D)) : DL.Env → R (List Key × List D) := fun Γ => (fk Γ).bind fun k => (fv Γ).bind fun v => (f Γ).bind fun r => match dKey k with
  | some j => .ok (j :: r.1, v :: r.2)
  | none => .stuck
def eDisp (f : DL.Env → R (List Key × List D)) : DL.Env → R D := fun Γ => (f Γ).bind fun r => if r.1.length ≤ 15 then .ok (.dk (mrgD r.1 r.2 ([], [])).1 (mrgD r.1 r.2 ([], [])).2) else .stuck
abbrev repP (K : PySem.W.Frag) (mg : Str → Option Value) : Hp → Hp → Hp → List Key × List D → List (V × V) → Prop := fun _ F' _ r ps => ∃ vs, ps = (r.1.zip vs).map (fun kv => (kV kv.1, kv.2)) ∧ r.1.length = vs.length ∧ RpL K mg F' r.2 vs
structure DPs (X : Cx) (W : WX) (pos : Pos) (keys : List (Option Expr)) (values : List Expr) (f : DL.Env → R (List Key × List D)) (trs : List (TE × TE)) : Prop where
  ps : PPs X pos keys values trs
  ok : ∀ (σ : L2.St) (F0 : Fe) (H0 F H : Hp) (Γ : DL.Env) (Q : List (V × V) → Hp → Prop), Rel X.K X.mg F0 H0 F H σ Γ → PostG X.K X.mg (repP X.K X.mg) F H (WE W σ) Q (f Γ) → tPairs trs σ H Q
theorem merge_zip : ∀ (ks : List Key) (vs : List V) (ks0 : List Key) (vs0 : List V) (ds ds0 : List D) (K : PySem.W.Frag) (mg : Str → Option Value) (F : Hp), ks.length = vs.length → ks0.length = vs0.length → RpL K mg F ds vs → RpL K mg F ds0 vs0 →
    ∃ ws, mergeK (ks0.zip vs0) (ks.zip vs) = (mrgD ks ds (ks0, ds0)).1.zip ws ∧ (mrgD ks ds (ks0, ds0)).1.length = ws.length ∧ RpL K mg F (mrgD ks ds (ks0, ds0)).2 ws
  | [], vs, ks0, vs0, ds, ds0, K, mg, F, l, l0, r, r0 => by
    refine ⟨vs0, ?_, ?_, ?_⟩
    · show mergeK (ks0.zip vs0) [] = _
      cases ds <;> rfl
    · cases ds <;> exact l0
    · cases ds <;> exact r0
  | k :: ks, [], _, _, _, _, _, _, _, l, _, _, _ => nomatch l
  | k :: ks, v :: vs, ks0, vs0, [], ds0, K, mg, F, l, l0, r, r0 => nomatch r.nil_iff
  | k :: ks, v :: vs, ks0, vs0, d :: ds, ds0, K, mg, F, l, l0, r, r0 => by
    obtain ⟨v', us, e, r1, r2⟩ := r.cons_iff
    cases e
    obtain ⟨e1, e2⟩ := RpL.put (ks := ks0) (j := k) r0 r1
    have e3 := putD_zip ks0 vs0 k v l0
    have e4 := putD_len ks0 vs0 k v l0
    obtain ⟨ws, h1, h2, h3⟩ := merge_zip ks vs (putD ks0 vs0 k v).1 (putD ks0 vs0 k v).2 ds (putD ks0 ds0 k d).2 K mg F (by simpa using l) e4 r2 e2
    refine ⟨ws, ?_, ?_, ?_⟩
    · show mergeK (putK (ks0.zip vs0) k v) (ks.zip vs) = (mrgD ks ds (putD ks0 ds0 k d)).1.zip ws
      rw [e3, h1, ← e1]
    · show (mrgD ks ds (putD ks0 ds0 k d)).1.length = _
      rw [← h2, ← e1]
    · show RpL K mg F (mrgD ks ds (putD ks0 ds0 k d)).2 ws
      have e5 : mrgD ks ds (putD ks0 ds0 k d) = mrgD ks ds ((putD ks0 vs0 k v).1, (putD ks0 ds0 k d).2) := by rw [← e1]
      rw [e5]
      exact h3
section
variable {X : Cx} {W : WX} {pos : Pos} {keys : List (Option Expr)} {values : List Expr} {k v : Expr} {fk fv : DL.Env → R D} {f : DL.Env → R (List Key × List D)} {trs : List (TE × TE)}
theorem dps_nil : DPs X W pos [] [] pNil [] := ⟨pps_nil, fun σ F0 H0 F H Γ Q r p => PostG.ok (show PostG X.K X.mg (repP X.K X.mg) F H (WE W σ) Q (.ok ([], [])) from p) r.fz ⟨[], rfl, rfl, RpL.nil⟩⟩
theorem dps_cons (hk : DE X W k fk) (hv : DE X W v fv) (h : DPs X W pos keys values f trs) : DPs X W pos (some k :: keys) (v :: values) (pCons fk fv f) ((tD X W fk, tD X W fv) :: trs) := by
  refine ⟨pps_cons hk hv h.ps, fun σ F0 H0 F H Γ Q r p => ?_⟩
  refine ⟨F0, H0, F, Γ, r, PostG.bind (rep := repV X.K X.mg) p (fun x u F1 H1 _ x1 r1 p1 => ?_) fun _ _ _ _ _ h => h⟩
  refine ⟨F0, H0, F1, Γ, r.step x1, PostG.bind (rep := repV X.K X.mg) p1 (fun y t F2 H2 _ x2 r2 p2 => ?_) fun _ _ _ _ _ h => h⟩
  refine h.ok σ F0 H0 F2 H2 Γ _ (r.step (x1.trans x2)) (PostG.bind (rep := repP X.K X.mg) p2 (fun q ps F3 H3 _ x3 r3 p3 => ?_) fun _ _ _ _ _ h => h)
  cases ek : dKey x with
  | none => rw [ek] at p3; exact p3.elim
  | some j =>
    rw [ek] at p3
    have p4 : PostG X.K X.mg (repP X.K X.mg) F3 H3 (WE W σ) Q (.ok (j :: q.1, y :: q.2)) := p3
    obtain ⟨vs, e1, e2, e3⟩ := r3
    refine PostG.ok p4 x3.fh ⟨t :: vs, ?_, ?_, RpL.cons (Rp.mono x3.ff _ _ r2) e3⟩
    · rw [e1, dKey_rp r1 ek]
      rfl
    · show q.1.length + 1 = vs.length + 1
      rw [e2]
theorem de_disp (h : DPs X W pos keys values f trs) (hall : keys.all (·.isSome) = true := by rfl) (hl : keys.length = values.length := by rfl) (h0 : keys ≠ [] := by exact fun z => nomatch z) (h15 : keys.length ≤ 15 := by decide) :
    DE X W (.Dict keys values pos) (eDisp f) := by
  refine PE.weak (pe_disp h.ps hall hl h0 h15) ?_
  rintro σ H Q ⟨F0, H0, F, Γ, r, p⟩ q hq
  have x0 : Ext F H F (upd H q (.dK [])) := Ext.heap r.fz hq
  refine h.ok σ F0 H0 F (upd H q (.dK [])) Γ _ (r.step x0) ?_
  have key : ∀ rr : R (List Key × List D), PostG X.K X.mg (repV X.K X.mg) F H (WE W σ) Q (rr.bind fun r => if r.1.length ≤ 15 then .ok (.dk (mrgD r.1 r.2 ([], [])).1 (mrgD r.1 r.2 ([], [])).2) else .stuck) →
      PostG X.K X.mg (repP X.K X.mg) F (upd H q (.dK [])) (WE W σ) (fun ps H2 => H2 q = some (.dK []) ∧ ∃ kvs : List (Key × V), ps = kvs.map (fun kv => (kV kv.1, kv.2)) ∧ kvs.length ≤ 15 ∧ Q (.ref q) (upd H2 q (.dK (mergeK [] kvs)))) rr := by
    intro rr
    cases rr with
    | ok a =>
      intro p b F' H' x hr
      obtain ⟨hc, p2⟩ := ifR (show PostG X.K X.mg (repV X.K X.mg) F H (WE W σ) Q (if a.1.length ≤ 15 then .ok (.dk (mrgD a.1 a.2 ([], [])).1 (mrgD a.1 a.2 ([], [])).2) else .stuck) from p)
      obtain ⟨vs, e1, e2, e3⟩ := hr
      have hH' : H' q = some (.dK []) := x.hh _ _ upd_same
      refine ⟨hH', a.1.zip vs, e1, by rw [List.length_zip]; omega, ?_⟩
      obtain ⟨ws, h1, h2, h3⟩ := merge_zip a.1 vs [] [] a.2 [] X.K X.mg F' e2 rfl e3 RpL.nil
      have em : mergeK [] (a.1.zip vs) = (mrgD a.1 a.2 ([], [])).1.zip ws := h1
      rw [em]
      have nF : F' q = none := by
        cases z : F' q with
        | none => rfl
        | some o =>
          rcases x.new q o z with y | y
          · rw [r.fz.free hq] at y; cases y
          · rw [upd_same] at y; cases y
      have ne : ∀ {c : Addr} {o : HO}, F' c = some o → c ≠ q := fun e z => by rw [z, nF] at e; cases e
      refine p2 _ (upd F' q (.dK ((mrgD a.1 a.2 ([], [])).1.zip ws))) _ ⟨fun c o e => ?_, fun c o e => ?_, fun c o e => ?_, fun c o e => ?_⟩ ?_
      · rw [upd_ne (ne (x.ff _ _ e))]
        exact x.ff _ _ e
      · by_cases z : c = q
        · subst z
          rw [upd_same] at e ⊢
          exact .inl e
        · rw [upd_ne z] at e ⊢
          exact x.fh c o e
      · have z : c ≠ q := fun z => by rw [z, hq] at e; cases e
        rw [upd_ne z]
        exact x.hh c o (by rw [upd_ne z]; exact e)
      · by_cases z : c = q
        · subst z
          exact .inr hq
        · rw [upd_ne z] at e
          rcases x.new c o e with y | y
          · exact .inl y
          · rw [upd_ne z] at y
            exact .inr y
      · show Rp X.K X.mg _ (.dk _ _) _
        unfold Rp
        exact ⟨q, ws, rfl, upd_same, h2, RpL.mono (fun c o e => by rw [upd_ne (ne e)]; exact e) _ _ h3⟩
    | exc y =>
      intro p cls od F' H' x hr
      exact p cls od F' H' (x0.trans x) hr
    | stuck => exact fun p => p
  exact key (f Γ) p
end
end DL
namespace HO
open PySem PySem.Spec PyProof.Rows L2
section
variable {X : Cx} {W : WX} {k : Nat} {m : Str} {pos apos : Pos} {e o : Expr} {es : List Expr} {ta : TE} {t : TA}
end
end HO
namespace DL
open PySem PySem.Spec L2
section
variable {P : Program} {w : World} {K : PySem.W.Frag} {mg : Str → Option Value} {base : Heap} {x qual : Str} {params : Arguments} {body : List Stmt} {scope : Scope} {f : Addr} {fd : FuncData} {N ps : List Str} {k : Nat} {g : DL.Env → Out}
end
section
variable {X : Cx} {W : WX} {j k n : Nat} {c f g m : Str} {e e2 o : Expr} {es : List Expr} {p pos pos2 apos : Pos} {fs : DL.Env → R (List D)} {fo : DL.Env → R D} {tb : List (Str × (List D → R D))}
end
section
variable {K : PySem.W.Frag} {mg : Str → Option Value} {F0 : Fe} {H0 F H : Hp} {σ : L2.St} {Γ : DL.Env}
end
section
variable {X : Cx} {Wout : WX} {body : List Stmt} {x n c f1 f2 fl : Str} {j : Nat} {sub : Str → Option Bool} {g : DL.Env → Out} {fe : DL.Env → R D} {e2 : Expr} {np pos pos' p2 p3 p4 p5 p6 p7 : Pos} {ck : Nat}
end
end DL
namespace DL
open PySem PySem.Spec L2
section
variable {X : Cx} {W : WX} {e o v1 v2 : Expr} {rest es : List Expr} {f fo fe : DL.Env → R D} {fs : List (DL.Env → R D)} {pos apos : Pos}
inductive DJ (X : Cx) (W : WX) : List Expr → List (DL.Env → R D) → Prop where
  | nil : DJ X W [] []
  | cons {e : Expr} {f : DL.Env → R D} {es : List Expr} {fs : List (DL.Env → R D)} (h : DE X W e f) (r : DJ X W es fs) : DJ X W (e :: es) (f :: fs)
end
end DL
namespace DL
open PySem PySem.Spec L2
section
variable {X : Cx} {W : WX} {e : Expr} {f : DL.Env → R D} {F0 : Fe} {H0 F H : Hp} {σ : L2.St} {Γ : DL.Env} {pos : Pos}
theorem CallR.two {f : Value} {r1 r2 : List V → Hp → VK → Prop} (h1 : CallR X f r1) (h2 : CallR X f r2) : CallR X f (fun xs H Q => r1 xs H Q ∨ r2 xs H Q) := by
  intro pins s σ H xs us Q I r h
  rcases h with h | h
  · exact h1 pins s σ H xs us Q I r h
  · exact h2 pins s σ H xs us Q I r h
end
end DL
namespace DL
open PySem PySem.Spec L2
section
variable {X : Cx}
end
def oRng1 : D → R (List D)
  | .int j => if inR62 j && decide (j.toNat ≤ 16777216) then .ok (rngL 0 j.toNat) else .stuck
  | _ => .stuck
def oRng (f : DL.Env → R D) : DL.Env → R (List D) := fun Γ => (f Γ).bind oRng1
section
variable {X : Cx} {W : WX} {a : Expr} {fa : DL.Env → R D} {p p3 pos pos2 : Pos}
end
end DL
namespace DL
open PySem PySem.Spec L2
section
variable {X : Cx} {W : WX} {e : Expr} {f : DL.Env → R D} {p pos kpos cp : Pos}
end
end DL
namespace DL
open PySem PySem.Spec L2
def sExtV (i : Nat) (f : DL.Env → R D) : DL.Env → Out := fun Γ => match Env.at_ Γ i with
  | some (.own ds) => (f Γ).out Γ fun d => match d with
    | .lst es => if ds.length + es.length ≤ LIM then .nx (Γ.set i (some (.own (ds ++ es)))) else .stuck
    | _ => .stuck
  | _ => .stuck
section
variable {X : Cx} {W : WX} {e : Expr} {f : DL.Env → R D} {pos : Pos}
end
section
variable {K : PySem.W.Frag} {mg : Str → Option Value} {F0 : Fe} {H0 F H F1 F2 : Hp} {σ : L2.St} {Γ : DL.Env}
theorem RpL.scal : ∀ {xs : List D} {ws : List V}, xs.all D.scal = true → RpL K mg F1 xs ws → RpL K mg F2 xs ws
  | [], ws, _, h => h
  | x :: xs, ws, c, h => by
    obtain ⟨w, us, rfl, h1, h2⟩ := h
    rw [List.all_cons, Bool.and_eq_true] at c
    refine ⟨w, us, rfl, ?_, RpL.scal c.2 h2⟩
    cases x with
    | non => rw [h1.non_iff]; exact Rp.non
    | bl b => rw [h1.bl_iff]; exact Rp.bl
    | int b => rw [h1.int_iff]; exact Rp.int
    | str b => rw [h1.str_iff]; exact Rp.str
    | _ => exact absurd c.1 (by simp [D.scal])
end
section
variable {X : Cx} {W : WX} {e : Expr} {f : DL.Env → R D}
end
end DL
namespace HX
open PySem PySem.Spec PyProof.Rows L2 HT
section
variable {prog : Program} {w : World} {A : Around} {E : Value → Shared → Prop} {s : Shared}
end
section
variable {X : Cx}
end
end HX
namespace DL
open PySem PySem.Spec L2
section
variable {X : Cx} {W : WX} {e : Expr} {f : DL.Env → R D} {pos : Pos}
end
end DL
namespace DL
open PySem PySem.Spec L2
section
variable {X : Cx} {W : WX} {o e : Expr} {fo fe : DL.Env → R D} {apos pos : Pos}
end
end DL
namespace DL
open PySem PySem.Spec L2
section
variable {X : Cx} {W : WX} {a : Expr} {fa : DL.Env → R D} {p p2 q pos : Pos}
end
end DL
namespace DL
open PySem PySem.Spec L2
section
variable {X : Cx} {W : WX} {e e2 : Expr} {fa fb : DL.Env → R D} {p p2 pos pos2 tpos : Pos} {elts : List Expr} {kk : Nat}
end
end DL
namespace DL
open PySem PySem.Spec L2
abbrev OB := List Str × List Fl
section
variable {α : Type}
end
section
variable {K : PySem.W.Frag} {mg : Str → Option Value} {F0 : Fe} {H0 F H F1 H1 H2 : Hp} {σ : L2.St} {Γ : DL.Env}
open Classical in
noncomputable def hole (H : Hp) (s : Slot) (v : V) : Hp := fun l => if foot H s v l then none else H l
theorem hole_out {s : Slot} {v : V} {l : Addr} (q : ¬ foot H s v l) : hole H s v l = H l := if_neg q
theorem hole_none {s : Slot} {v : V} {l : Addr} (h : hole H s v l = none) : foot H s v l ∨ H l = none := by
  by_cases q : foot H s v l
  · exact .inl q
  · rw [hole_out q] at h; exact .inr h
theorem Rel.call (r : Rel K mg F0 H0 F H σ Γ) {i : Nat} {s s' : Slot} {v : V} (ei : Γ[i]? = some (some s)) (hv : σ[i]? = some (some v)) (x : Ext F (hole H s v) F1 H1) (h : SlotOk K mg (hole H s v) F1 H1 s' v)
    (hb : s'.tag = none ∨ s'.tag = s.tag) : Rel K mg F0 H0 F1 H1 σ (Γ.set i (some s')) := by
  obtain ⟨v', hv', sv⟩ := r.slot i s ei
  rw [hv] at hv'
  cases hv'
  have hi : i < Γ.length := (List.getElem?_eq_some_iff.mp ei).1
  have off : ∀ (j : Nat) (t : Slot) (u : V) (l : Addr), i ≠ j → Γ[j]? = some (some t) → σ[j]? = some (some u) → foot H t u l → ¬ foot H s v l := fun j t u l q ej hj f1 f2 => q (r.inj i j s t v u l ei ej hv hj f2 f1)
  have keep : ∀ (j : Nat) (t : Slot) (u : V) (l : Addr) (ob : HO), i ≠ j → Γ[j]? = some (some t) → σ[j]? = some (some u) → foot H t u l → H l = some ob → H1 l = some ob := fun j t u l ob q ej hj f1 e => x.hh l ob (by rw [hole_out (off j t u l q ej hj f1)]; exact e)
  have back : ∀ (j : Nat) (t : Slot) (u : V) (l : Addr), i ≠ j → Γ[j]? = some (some t) → σ[j]? = some (some u) → foot H1 t u l → foot H t u l := fun j t u l q ej hj f1 => by
    obtain ⟨w, h1, h2⟩ := r.slot j t ej
    rw [hj] at h1
    cases h1
    exact foot_gen h2 (fun l2 ob q2 e => keep j t _ l2 ob q ej hj q2 e) f1
  have apart : ∀ (j : Nat) (t : Slot) (u : V) (l : Addr), i ≠ j → Γ[j]? = some (some t) → σ[j]? = some (some u) → foot H1 t u l → foot H1 s' v l → False := fun j t u l q ej hj f1 f2 => by
    have b := back j t u l q ej hj f1
    obtain ⟨_, _, _, e0⟩ := foot_at h f2
    rw [hole_out (off j t u l q ej hj b)] at e0
    obtain ⟨w, h1, h2⟩ := r.slot j t ej
    rw [hj] at h1
    cases h1
    obtain ⟨ob, e1, _, _⟩ := foot_at h2 b
    rw [e0] at e1
    cases e1
  refine ⟨⟨r.ext.ff.trans x.ff, x.fh, fun a u e => ?_, fun a u e => ?_⟩, by rw [List.length_set]; exact r.len, fun j t e => ?_, fun j k t t' u w l ej ek hj hk os ot => ?_, r.slf.setE ei hb⟩
  · refine x.hh a u ?_
    rw [hole_out fun q => by
      obtain ⟨_, _, _, z⟩ := foot_at sv q
      rw [e] at z
      cases z]
    exact r.ext.hh a u e
  · rcases x.new a u e with z | z
    · exact r.ext.new a u z
    · rcases hole_none z with y | y
      · exact .inr (foot_at sv y).choose_spec.2.2
      · exact .inr (r.ext.hh.free y)
  · by_cases q : i = j
    · subst q
      rw [List.getElem?_set_self hi] at e
      cases e
      refine ⟨v, hv, h.gen (Same.refl _) (fun l z => (foot_at h z).choose_spec.2.1) (fun l ob _ e => e) fun l z => ?_⟩
      rcases hole_none (foot_at h z).choose_spec.2.2 with y | y
      · exact (foot_at sv y).choose_spec.2.2
      · exact r.ext.hh.free y
    · rw [List.getElem?_set_ne q] at e
      obtain ⟨w, h1, h2⟩ := r.slot j t e
      refine ⟨w, h1, h2.gen x.ff (fun l z => ?_) (fun l ob z e2 => keep j t w l ob q e h1 z e2) (fun l z => (foot_at h2 z).choose_spec.2.2)⟩
      obtain ⟨ob, e1, e2, e3⟩ := foot_at h2 z
      cases y : F1 l with
      | none => rfl
      | some o =>
        rcases x.new l o y with y2 | y2
        · rw [e2] at y2; cases y2
        · rw [hole_out (off j t w l q e h1 z), e1] at y2; cases y2
  · by_cases qj : i = j
    · by_cases qk : i = k
      · rw [← qj, ← qk]
      · subst qj
        rw [List.getElem?_set_self hi] at ej
        cases ej
        rw [hv] at hj
        cases hj
        rw [List.getElem?_set_ne qk] at ek
        exact (apart k t' w l qk ek hk ot os).elim
    · by_cases qk : i = k
      · subst qk
        rw [List.getElem?_set_self hi] at ek
        cases ek
        rw [hv] at hk
        cases hk
        rw [List.getElem?_set_ne qj] at ej
        exact (apart j t u l qj ej hj os ot).elim
      · rw [List.getElem?_set_ne qj] at ej
        rw [List.getElem?_set_ne qk] at ek
        exact r.inj j k t t' u w l ej ek hj hk (back j t u l qj ej hj os) (back k t' w l qk ek hk ot)
end
section
variable {K : PySem.W.Frag} {mg : Str → Option Value} {F0 : Fe} {H0 F H F1 H1 H2 : Hp} {σ : L2.St} {Γ : DL.Env}
theorem FlOk.ne {f : Fl} {u : V} {l a C dx : Addr} {kvs : List (Str × V)} (h : FlOk K mg H0 F H f u) (o : f.isOwn = true) (e : u = .ref l) (ha : H a = some (.ins C dx kvs)) : l ≠ a := by
  intro z
  subst z
  cases f with
  | val d => cases o
  | own ds =>
    obtain ⟨l2, vs, g1, g2, _⟩ := h
    rw [e] at g1
    cases g1
    rw [g2] at ha
    cases ha
  | dic ks ds =>
    obtain ⟨l2, vs, g1, g2, _⟩ := h
    rw [e] at g1
    cases g1
    rw [g2] at ha
    cases ha
end
section
variable {X : Cx} {W : WX} {c x y : Str} {xs : List Str} {e : Expr} {f : DL.Env → R D} {fo : DL.Env → R (List D)} {p1 p2 pos cpos : Pos}
end
end DL
namespace DL
open PySem PySem.Spec L2
section
variable {K : PySem.W.Frag} {mg : Str → Option Value} {F0 : Fe} {H0 F H F1 H1 H2 : Hp} {σ : L2.St} {Γ : DL.Env}
end
section
variable {X : Cx} {W : WX} {c x y : Str} {xs : List Str} {e : Expr} {f : DL.Env → R D} {fo : DL.Env → R (List D)} {p1 p2 p3 pos cpos : Pos}
end
section
variable {K : PySem.W.Frag} {mg : Str → Option Value} {F0 : Fe} {H0 F H F1 H1 H2 : Hp} {σ : L2.St} {Γ : DL.Env}
theorem Rel.drop (r : Rel K mg F0 H0 F H σ Γ) (i : Nat) : Rel K mg F0 H0 F H σ (Γ.set i none) := by
  have g : ∀ {j : Nat} {s : Slot}, (Γ.set i none)[j]? = some (some s) → Γ[j]? = some (some s) := fun {j s} e => by
    by_cases q : i = j
    · subst q
      have hi : i < Γ.length := by
        have := (List.getElem?_eq_some_iff.mp e).1
        rwa [List.length_set] at this
      rw [List.getElem?_set_self hi] at e
      cases e
    · rw [List.getElem?_set_ne q] at e
      exact e
  exact ⟨r.ext, by rw [List.length_set]; exact r.len, fun j s e => r.slot j s (g e), fun j k s t u w l ej ek hj hk os ot => r.inj j k s t u w l (g ej) (g ek) hj hk os ot, fun j s k v e1 tk e2 => r.slf j s k v (g e1) tk e2⟩
end
section
variable {X : Cx} {W : WX} {j k n : Nat} {c m y : Str} {e : Expr} {es : List Expr} {p1 pos cpos apos : Pos} {fs : DL.Env → R (List D)} {mf : OB → List D → R OB}
end
section
variable {P : Program} {w : World} {K : PySem.W.Frag} {mg : Str → Option Value} {base : Heap} {x qual c : Str} {params : Arguments} {body : List Stmt} {scope : Scope} {f : Addr} {fd : FuncData} {N ps : List Str} {k : Nat} {g : DL.Env → Out}
end
end DL
namespace DL
open PySem PySem.Spec L2
section
variable {X : Cx} {W : WX} {j k n : Nat} {c x : Str} {e : Expr} {es : List Expr} {p pos : Pos} {fs : DL.Env → R (List D)} {f : DL.Env → R OB}
end
section
variable {X : Cx} {W : WX} {c x : Str} {st : Stmt} {rest : List Stmt} {g1 : DL.Env → Out} {g : DL.Env → R OB} {p pos : Pos}
end
section
variable {P : Program} {w : World} {K : PySem.W.Frag} {mg : Str → Option Value} {base : Heap} {x qual c : Str} {params : Arguments} {body : List Stmt} {scope : Scope} {f : Addr} {fd : FuncData} {N ps : List Str} {k : Nat} {g : DL.Env → R OB}
end
end DL
namespace DL
open PySem PySem.Spec L2
section
variable {K : PySem.W.Frag} {mg : Str → Option Value} {F0 : Fe} {H0 F H Hr F1 H1 : Hp} {σ : L2.St} {Γ Γ' : DL.Env}
end
abbrev ML := D → List D → D → D → List D → R (List D × List D)
def Slot.put : Slot → List D → Slot
  | .hnd j _, ys => .hnd j ys
  | _, ys => .own ys
section
variable {X : Cx} {W : WX} {j k : Nat} {x y1 y4 : Str} {e0 e2 e3 : Expr} {f0 f2 f3 : DL.Env → R D} {mf : ML} {p p1 p4 pos cpos : Pos}
end
section
variable {P : Program} {w : World} {K : PySem.W.Frag} {mg : Str → Option Value} {base : Heap} {x qual : Str} {params : Arguments} {body : List Stmt} {scope : Scope} {f : Addr} {fd : FuncData} {N' ps : List Str} {n0 n1 n2 n3 n4 : Str} {k : Nat} {g : DL.Env → Out}
end
abbrev repOO (K : PySem.W.Frag) (mg : Str → Option Value) : Hp → Hp → Hp → Option (List D) → V → Prop := fun H F' H' o v => match o with
  | some ds => OwnL K mg H F' H' ds v
  | none => v = .non
def spOO (K : PySem.W.Frag) (mg : Str → Option Value) (n : Nat) (mf : List D → R (Option (List D))) : Sp := fun vs H Q E => ∃ F ds, ds.length = n ∧ Fz F H ∧ RpL K mg F ds vs ∧ PostG K mg (repOO K mg) F H E Q (mf ds)
def KnOO (P : Program) (w : World) (K : PySem.W.Frag) (mg : Str → Option Value) (base : Heap) (k : Nat) (x : Str) (n : Nat) (mf : List D → R (Option (List D))) : Prop :=
  ∃ (f : Addr) (fd : FuncData) (ps : List Str), mg x = some (.ref f) ∧ PySem.W.keepIn K (.ref f) = true ∧ Binds K fd ps [] ∧ FnOk P w K mg base (L2.CX P w) k f fd ps (spOO K mg n mf)
def ooV (m : List D → R (Option (List D))) : List D → R D := fun ds => (m ds).bind fun o => match o with
  | some xs => .ok (.lst xs)
  | none => .ok .non
section
variable {X : Cx} {W : WX} {j k n : Nat} {x : Str} {e : Expr} {es : List Expr} {p pos : Pos} {fs : DL.Env → R (List D)} {f : DL.Env → R (Option (List D))}
end
section
variable {P : Program} {w : World} {K : PySem.W.Frag} {mg : Str → Option Value} {base : Heap} {x qual : Str} {params : Arguments} {body : List Stmt} {scope : Scope} {f : Addr} {fd : FuncData} {N ps : List Str} {k n : Nat} {g : DL.Env → Out}
theorem KnOO.kn {mf : List D → R (Option (List D))} (h : KnOO P w K mg base k x n mf) : Kn P w K mg base k x n (ooV mf) := by
  obtain ⟨f, fd, ps, hm, hk, hb, G⟩ := h
  refine ⟨f, fd, ps, hm, hk, hb, G.imp fun vs H Q E q => ?_⟩
  obtain ⟨F, ds, l, z, r, p⟩ := q
  refine ⟨F, ds, l, z, r, ?_⟩
  revert p
  unfold ooV
  cases mf ds with
  | ok o =>
    cases o with
    | some ds =>
      intro p v F1 H1 x1 r1
      obtain ⟨F2, x2, r2, _⟩ := frzO x1 r1
      exact p v F2 H1 x2 r2
    | none =>
      intro p v F1 H1 x1 r1
      exact p v F1 H1 x1 (show Rp K mg F1 .non v from r1).non_iff
  | exc x => exact fun p => p
  | stuck => exact fun p => p
end
section
variable {X : Cx} {W : WX} {e : Expr} {f : DL.Env → R (List D)}
end
end DL
namespace DL
open PySem L2
section
variable {α β : Type} {Γ : DL.Env} {s : Option Slot}
theorem at_0 : Env.at_ (s :: Γ) 0 = s := rfl
theorem at_s {n : Nat} : Env.at_ (s :: Γ) (n + 1) = Env.at_ Γ n := by
  unfold Env.at_
  rw [List.getElem?_cons_succ]
theorem bind_ok {a : α} {k : α → R β} : R.bind (.ok a) k = k a := rfl
theorem bind_exc {x : D} {k : α → R β} : R.bind (.exc x) k = .exc x := rfl
theorem out_ok {a : α} {k : α → Out} : R.out Γ (.ok a) k = k a := rfl
theorem out_exc {x : D} {k : α → Out} : R.out Γ (.exc x) k = .exc x Γ := rfl
theorem then_nx {g : DL.Env → Out} : Out.andThen (.nx Γ) g = g Γ := rfl
theorem then_rt {d : D} {g : DL.Env → Out} : Out.andThen (.rt d) g = .rt d := rfl
theorem then_ro {d : List D} {g : DL.Env → Out} : Out.andThen (.ro d) g = .ro d := rfl
theorem then_bk {g : DL.Env → Out} : Out.andThen (.bk Γ) g = .bk Γ := rfl
theorem then_ct {g : DL.Env → Out} : Out.andThen (.ct Γ) g = .ct Γ := rfl
theorem then_exc {x : D} {g : DL.Env → Out} : Out.andThen (.exc x Γ) g = .exc x Γ := rfl
theorem fin_nx : Out.fin (.nx Γ) = .ok .non := rfl
theorem fin_rt {d : D} : Out.fin (.rt d) = .ok d := rfl
theorem fin_ro {d : List D} : Out.fin (.ro d) = .ok (.lst d) := rfl
theorem fin_exc {x : D} : Out.fin (.exc x Γ) = .exc x := rfl
theorem finO_ro {d : List D} : Out.finO (.ro d) = .ok d := rfl
theorem finO_exc {x : D} : Out.finO (.exc x Γ) = .exc x := rfl
end
def boR (r : R Bool) : R Bool := match r with
  | .ok d => .ok d
  | _ => .stuck
def eoR (r : R D) : R D := match r with
  | .ok d => if d.scal then .ok d else .stuck
  | _ => .stuck
theorem bBor_eq {i : Nat} {f : DL.Env → R Bool} {Γ : DL.Env} : bBor i f Γ = boR (f (Env.frz Γ i)) := rfl
theorem eBor_eq {i : Nat} {f : DL.Env → R D} {Γ : DL.Env} : eBor i f Γ = eoR (f (Env.frz Γ i)) := rfl
theorem boR_ok {b : Bool} : boR (.ok b) = .ok b := rfl
theorem eoR_bl {b : Bool} : eoR (.ok (.bl b)) = .ok (.bl b) := rfl
theorem eoR_i {i : Int} : eoR (.ok (.int i)) = .ok (.int i) := rfl
theorem eoR_n : eoR (.ok .non) = .ok .non := rfl
theorem eoR_s {z : Str} : eoR (.ok (.str z)) = .ok (.str z) := rfl
section
variable {i j : Int} {x y : D} {b c : Bool} {z w : Str} {xs ys : List D}
theorem dAdd_i : dAdd (.int i) (.int j) = .ok (.int (i + j)) := rfl
theorem dSub_i : dSub (.int i) (.int j) = .ok (.int (i - j)) := rfl
theorem dNeg_i : dNeg (.int i) = .ok (.int (-i)) := rfl
theorem dMul_r (h : -18446744073709551616 < j) (h' : j < 18446744073709551616) : dMul (.int i) (.int j) = .ok (.int (i * j)) := by
  have e : smallI j = true := by unfold smallI; simp [h, h']
  show (if (smallI j || (smallI i || decide (i.natAbs.log2 + j.natAbs.log2 < 1000000))) = true then R.ok (D.int (i * j)) else R.stuck) = _
  rw [e]
  rfl
theorem dMul_l (h : -18446744073709551616 < i) (h' : i < 18446744073709551616) : dMul (.int i) (.int j) = .ok (.int (i * j)) := by
  have e : smallI i = true := by unfold smallI; simp [h, h']
  show (if (smallI j || (smallI i || decide (i.natAbs.log2 + j.natAbs.log2 < 1000000))) = true then R.ok (D.int (i * j)) else R.stuck) = _
  rw [e, Bool.true_or, Bool.or_true]
  rfl
theorem dMod_i (h : 0 < j) : dMod (.int i) (.int j) = .ok (.int (i % j)) := if_pos h
theorem dDiv_i (h : 0 < j) (h' : j < 18446744073709551616) : dDiv (.int i) (.int j) = .ok (.int (i / j)) := by
  have e : decide (j.natAbs.log2 < 9000) = true := decide_eq_true (by
    have := (Nat.log2_lt (n := j.natAbs) (k := 64) (by omega)).mpr (by omega)
    omega)
  show (if (decide (0 < j) && decide (j.natAbs.log2 < 9000)) = true then R.ok (D.int (i / j)) else R.stuck) = _
  rw [e, decide_eq_true h]
  rfl
theorem dLt_i : dLt (.int i) (.int j) = .ok (.bl (decide (i < j))) := rfl
theorem dLe_i : dLe (.int i) (.int j) = .ok (.bl (decide (i ≤ j))) := rfl
theorem dGt_i : dGt (.int i) (.int j) = .ok (.bl (decide (j < i))) := rfl
theorem dGe_i : dGe (.int i) (.int j) = .ok (.bl (decide (j ≤ i))) := rfl
theorem dEq_i : dEq (.int i) (.int j) = .ok (.bl (decide (i = j))) := rfl
theorem dNe_i : dNe (.int i) (.int j) = .ok (.bl (!decide (i = j))) := rfl
theorem dEq_s : dEq (.str z) (.str w) = .ok (.bl (decide (z = w))) := rfl
theorem dNe_s : dNe (.str z) (.str w) = .ok (.bl (!decide (z = w))) := rfl
theorem asB_bl : asB (.bl b) = .ok b := rfl
theorem dTru_bl : dTru (.bl b) = .ok b := rfl
theorem dIs_n : dIs x .non = .ok (.bl x.isNon) := by cases x <;> rfl
theorem dIsNot_n : dIsNot x .non = .ok (.bl (!x.isNon)) := by cases x <;> rfl
theorem dMin_i : dMin2 [.int i, .int j] = .ok (.int (if j < i then j else i)) := rfl
theorem dMax_i : dMax2 [.int i, .int j] = .ok (.int (if j > i then j else i)) := rfl
theorem dAbs_i : dAbs [.int i] = .ok (.int (if i < 0 then -i else i)) := rfl
theorem dLen_l : dLen [.lst xs] = .ok (.int xs.length) := rfl
theorem dLen_t : dLen [.tup xs] = .ok (.int xs.length) := rfl
theorem dLen_s {ns : List Int} : dLen [.scr ns] = .ok (.int ns.length) := rfl
theorem atI_ok {α : Type} {xs : List α} {i : Int} (h0 : 0 ≤ i) (h1 : i < xs.length) (d : α) : atI xs i = some (xs.getD i.toNat d) := by
  unfold atI ixN
  rw [if_pos h0, if_pos h1]
  have : i.toNat < xs.length := by omega
  simp [List.getD, this]
theorem atI_nat' {α : Type} {xs : List α} {n : Nat} {d : α} (h : xs[n]? = some d) : atI xs (n : Int) = some d := atI_nat h
theorem ixN_i {n : Nat} {i : Int} (h0 : 0 ≤ i) (h1 : i < n) : ixN n i = some i.toNat := by
  unfold ixN
  rw [if_pos h0, if_pos h1]
theorem ixN_last {n : Nat} (h : 0 < n) : ixN n (-1) = some (n - 1) := by
  unfold ixN
  rw [if_neg (by decide), if_pos (by omega)]
  congr 1
  omega
theorem atI_l {α : Type} {xs : List α} {d : α} (h : xs[xs.length - 1]? = some d) : atI xs (-1) = some d := by
  have h0 : 0 < xs.length := by
    have := (List.getElem?_eq_some_iff.mp h).1
    omega
  unfold atI
  rw [ixN_last h0]
  exact h
theorem dIx_scr {ns : List Int} (h0 : 0 ≤ i) (h1 : i < ns.length) : dIx (.scr ns) (.int i) = .ok (.int (ns.getD i.toNat 0)) := by
  show (match atI ns i with | some d => R.ok (D.int d) | none => .stuck) = _
  rw [atI_ok h0 h1 0]
theorem dIx_lst {d : D} (h : atI xs i = some d) : dIx (.lst xs) (.int i) = .ok d := by
  show (match atI xs i with | some d => R.ok d | none => .stuck) = _
  rw [h]
theorem dIx_tup {d : D} (h : atI xs i = some d) : dIx (.tup xs) (.int i) = .ok d := by
  show (match atI xs i with | some d => R.ok d | none => .stuck) = _
  rw [h]
theorem dIx_n {d : D} {n : Nat} (h : xs[n]? = some d) : dIx (.lst xs) (.int (n : Int)) = .ok d := dIx_lst (atI_nat h)
theorem dIx_t0 {a : D} : dIx (.tup (a :: xs)) (.int 0) = .ok a := dIx_tup (atI_nat (j := 0) rfl)
theorem dIx_t1 {a b : D} : dIx (.tup (a :: b :: xs)) (.int 1) = .ok b := dIx_tup (atI_nat (j := 1) rfl)
theorem dIx_t2 {a b c : D} : dIx (.tup (a :: b :: c :: xs)) (.int 2) = .ok c := dIx_tup (atI_nat (j := 2) rfl)
theorem dIx_t3 {a b c d : D} : dIx (.tup (a :: b :: c :: d :: xs)) (.int 3) = .ok d := dIx_tup (atI_nat (j := 3) rfl)
theorem dIx_l0 {a : D} : dIx (.lst (a :: xs)) (.int 0) = .ok a := dIx_lst (atI_nat (j := 0) rfl)
theorem dIx_l1 {a b : D} : dIx (.lst (a :: b :: xs)) (.int 1) = .ok b := dIx_lst (atI_nat (j := 1) rfl)
theorem dIx_l2 {a b c : D} : dIx (.lst (a :: b :: c :: xs)) (.int 2) = .ok c := dIx_lst (atI_nat (j := 2) rfl)
theorem dIx_l3 {a b c d : D} : dIx (.lst (a :: b :: c :: d :: xs)) (.int 3) = .ok d := dIx_lst (atI_nat (j := 3) rfl)
theorem dIx_last {a : D} : dIx (.lst (xs ++ [a])) (.int (-1)) = .ok a := dIx_lst (atI_last xs a)
theorem dIx_two {a b : D} (h0 : 0 ≤ i) (h1 : i < 2) : dIx (.lst [a, b]) (.int i) = .ok (if i = 0 then a else b) := by
  rcases (by omega : i = 0 ∨ i = 1) with e | e
  · subst e; rfl
  · subst e; rfl
end
section
variable {α : Type} {h : Tg} {g : DL.Env → Out} {Γ : DL.Env} {ft : DL.Env → R Bool} {fe : DL.Env → R D}
theorem loopF_ds (ds : List D) (P : Nat → DL.Env → Prop) (h0 : P 0 Γ)
    (hs : ∀ (i : Nat) (d : D) (Γ : DL.Env), ds[i]? = some d → P i Γ → ∃ Γ1 Γ2, h d Γ = some Γ1 ∧ (g Γ1 = .nx Γ2 ∨ g Γ1 = .ct Γ2) ∧ P (i + 1) Γ2) : ∃ Γ', loopF h g ds Γ = .nx Γ' ∧ P ds.length Γ' := by
  induction ds generalizing P Γ with
  | nil => exact ⟨Γ, rfl, h0⟩
  | cons d ds ih =>
    obtain ⟨Γ1, Γ2, e1, e2, p⟩ := hs 0 d Γ rfl h0
    obtain ⟨Γ', e3, p'⟩ := ih (Γ := Γ2) (fun i Γ => P (i + 1) Γ) p fun i d' Γ' hd hp => hs (i + 1) d' Γ' (by simpa using hd) hp
    refine ⟨Γ', ?_, p'⟩
    unfold loopF
    rw [e1]
    rcases e2 with e2 | e2
    · simp only [e2]; exact e3
    · simp only [e2]; exact e3
theorem enumL_at {ds : List D} {i j : Nat} {d : D} (h : (enumL j ds)[i]? = some d) : ∃ e, ds[i]? = some e ∧ d = .tup [.int ((j + i : Nat) : Int), e] := by
  have hl : i < ds.length := by
    have := (List.getElem?_eq_some_iff.mp h).1
    rwa [enumL_len] at this
  have e := enumL_get (i := j) (j := i) (ds := ds) (d := ds[i]) (by simp [hl])
  rw [e] at h
  exact ⟨ds[i], by simp [hl], (Option.some.inj h).symm⟩
theorem loopF_enum (xs : List α) (enc : α → D) (P : Nat → DL.Env → Prop) (h0 : P 0 Γ)
    (hs : ∀ (i : Nat) (x : α) (Γ : DL.Env), xs[i]? = some x → P i Γ → ∃ Γ1 Γ2, h (.tup [.int (i : Nat), enc x]) Γ = some Γ1 ∧ (g Γ1 = .nx Γ2 ∨ g Γ1 = .ct Γ2) ∧ P (i + 1) Γ2) : ∃ Γ', loopF h g (enumL 0 (xs.map enc)) Γ = .nx Γ' ∧ P xs.length Γ' := by
  have q := loopF_ds (h := h) (g := g) (enumL 0 (xs.map enc)) P h0 fun i d Γ hd hp => by
    obtain ⟨e, he, rfl⟩ := enumL_at hd
    rw [List.getElem?_map] at he
    cases ex : xs[i]? with
    | none => rw [ex] at he; cases he
    | some x =>
      rw [ex] at he
      cases he
      rw [Nat.zero_add]
      exact hs i x Γ ex hp
  rwa [enumL_len, List.length_map] at q
theorem lcF_map (xs : List α) (enc f : α → D) (hs : ∀ x ∈ xs, ∃ Γ1, h (enc x) Γ = some Γ1 ∧ ft Γ1 = .ok true ∧ fe Γ1 = .ok (f x)) : lcF h ft fe Γ (xs.map enc) = .ok (xs.map f) := by
  induction xs with
  | nil => rfl
  | cons d ds ih =>
    obtain ⟨Γ1, e1, e2, e3⟩ := hs d List.mem_cons_self
    show lcF h ft fe Γ (enc d :: ds.map enc) = _
    unfold lcF
    simp only [e1, e2, e3, ih fun x hx => hs x (List.mem_cons_of_mem _ hx)]
    rfl
theorem lcF_rng (lo : Int) (n : Nat) (f : Nat → D) (hs : ∀ i, i < n → ∃ Γ1, h (.int (lo + i)) Γ = some Γ1 ∧ ft Γ1 = .ok true ∧ fe Γ1 = .ok (f i)) : lcF h ft fe Γ (rngL lo n) = .ok ((List.range n).map f) :=
  lcF_map (List.range n) (fun (i : Nat) => D.int (lo + i)) f fun i hi => hs i (List.mem_range.mp hi)
theorem oLc_ok {vs : List Nat} {fi : DL.Env → R (List D)} {ds es : List D} (e1 : fi Γ = .ok ds) (e2 : lcF h ft fe (wipeE Γ vs) ds = .ok es) (hl : ds.length ≤ LIM) : oLc vs fi h ft fe Γ = .ok es := by
  unfold oLc
  rw [e1]
  show (match lcF h ft fe (wipeE Γ vs) ds with | .ok es => if ds.length ≤ LIM then R.ok es else .stuck | _ => .stuck) = _
  rw [e2]
  exact if_pos hl
theorem iRng1 {j : Int} (h0 : -4611686018427387904 ≤ j) (h1 : j < 4611686018427387904) : iRange1 [.int j] = .ok (rngL 0 j.toNat) := by
  have e : inR62 j = true := by unfold inR62; simp [h0, h1]
  show (if inR62 j = true then R.ok (rngL 0 j.toNat) else .stuck) = _
  rw [e]
  rfl
theorem iEnum_l {ds : List D} : iEnumD [.lst ds] = .ok (enumL 0 ds) := rfl
theorem iZip_l {ds es : List D} : iZipD [.lst ds, .lst es] = .ok (zipL ds es) := rfl
theorem oZip_l {ds es : List D} : oZip [.lst ds, .lst es] = .ok (zipL ds es) := rfl
theorem iRev_l {ds : List D} : iRevD [.lst ds] = .ok ds.reverse := rfl
theorem enumL_map (xs : List α) (enc : α → D) : enumL 0 (xs.map enc) = xs.zipIdx.map fun q => .tup [.int (q.2 : Nat), enc q.1] := by
  have : ∀ (n : Nat) (xs : List α), enumL n (xs.map enc) = (xs.zipIdx n).map fun q => .tup [.int (q.2 : Nat), enc q.1] := by
    intro n xs
    induction xs generalizing n with
    | nil => rfl
    | cons x xs ih => show D.tup [.int n, enc x] :: enumL (n + 1) (xs.map enc) = _; rw [ih]; rfl
  exact this 0 xs
theorem zipL_map {β : Type} (xs : List α) (ys : List β) (enc : α → D) (enc' : β → D) : zipL (xs.map enc) (ys.map enc') = (xs.zip ys).map fun q => .tup [enc q.1, enc' q.2] := by
  induction xs generalizing ys with
  | nil => rfl
  | cons x xs ih =>
    cases ys with
    | nil => rfl
    | cons y ys => show D.tup [enc x, enc' y] :: zipL (xs.map enc) (ys.map enc') = _; rw [ih]; rfl
theorem putD_size {ks : List Key} {ds : List α} {j : Key} {x : α} : (putD ks ds j x).1.length ≤ ks.length + 1 := by
  unfold putD
  split <;> simp
theorem dGet_i {ks : List Key} {ds : List D} {i : Int} {d : D} (h : lkD ks ds (.inl i) = some d) : dGet (.dk ks ds) (.int i) = .ok d := by
  show (match lkD ks ds (.inl i) with | some d => R.ok d | none => .stuck) = _
  rw [h]
theorem dInD_i {ks : List Key} {ds : List D} {i : Int} : dInD (.int i) (.dk ks ds) = .ok (.bl (lkD ks ds (.inl i)).isSome) := rfl
theorem dNotInD_i {ks : List Key} {ds : List D} {i : Int} : dNotInD (.int i) (.dk ks ds) = .ok (.bl (!(lkD ks ds (.inl i)).isSome)) := rfl
theorem dKey_i {i : Int} : dKey (.int i) = some (.inl i) := rfl
theorem dKey_s {i : Str} : dKey (.str i) = some (.inr i) := rfl
theorem sl1_l {xs : List D} {lo hi : Option Int} : sl1 (.lst xs) lo hi = .ok (.lst (cutL xs lo hi)) := rfl
theorem oSl1_l {xs : List D} {lo hi : Option Int} : oSl1 (.lst xs) lo hi = .ok (cutL xs lo hi) := rfl
theorem cutL_init {xs : List α} : cutL xs none (some (-1)) = xs.dropLast := by
  have e0 : HT.sIx xs.length 0 none = 0 := rfl
  have e1 : HT.sIx xs.length xs.length (some (-1)) = xs.length - 1 := by
    show (if (-1 : Int) < 0 then ((-1 : Int) + (xs.length : Int)).toNat else min (-1 : Int).toNat xs.length) = _
    rw [if_pos (by decide)]
    omega
  unfold cutL
  rw [e0, e1, List.drop_zero, Nat.sub_zero]
  exact List.dropLast_eq_take.symm
theorem dEqB_refl {x : D} {n : Nat} (h : x.sh n = true) : dEqB x x = true := PySem.SeqAt.eqv_refl _ (sh_ok n x h).1
theorem dEqV_same {x : D} (h : x.sh 60 = true) : dEqV x x = .ok true := by
  have e : (if x.sh 60 && x.sh 60 then R.ok (dEqB x x) else R.stuck) = .ok true := by rw [h, dEqB_refl h]; rfl
  cases x <;> first | exact e | (show R.ok (decide _) = _; rw [decide_eq_true rfl])
theorem dEq_same {x : D} (h : x.sh 60 = true) : dEq x x = .ok (.bl true) := by unfold dEq; rw [dEqV_same h]; rfl
theorem dNe_same {x : D} (h : x.sh 60 = true) : dNe x x = .ok (.bl false) := by unfold dNe; rw [dEqV_same h]; rfl
def D.kd : Nat → D → Bool
  | _, .int _ => true | _, .str x => PyData.canLay0 (.str x) | _, .non => true
  | n + 1, .lst xs => xs.all (D.kd n)
  | n + 1, .tup xs => xs.all (D.kd n)
  | _, _ => false
theorem kd_sh : ∀ (n : Nat) (x : D), x.kd n = true → x.sh n = true
  | n, .int _, _ => by cases n <;> rfl
  | n, .str _, h => by cases n <;> exact h
  | n, .non, _ => by cases n <;> rfl
  | n + 1, .lst xs, h => List.all_eq_true.mpr fun d hd => kd_sh n d (List.all_eq_true.mp h d hd)
  | n + 1, .tup xs, h => List.all_eq_true.mpr fun d hd => kd_sh n d (List.all_eq_true.mp h d hd)
  | 0, .lst _, h => by cases h
  | 0, .tup _, h => by cases h
  | 0, .bl _, h => by cases h
  | n + 1, .bl _, h => by cases h
  | 0, .scr _, h => by cases h
  | n + 1, .scr _, h => by cases h
  | 0, .dk _ _, h => by cases h
  | n + 1, .dk _ _, h => by cases h
  | 0, .obj _ _ _, h => by cases h
  | n + 1, .obj _ _ _, h => by cases h
  | 0, .exc _ _ _, h => by cases h
  | n + 1, .exc _ _ _, h => by cases h
  | 0, .cls _, h => by cases h
  | n + 1, .cls _, h => by cases h
  | 0, .ty _, h => by cases h
  | n + 1, .ty _, h => by cases h
theorem kd_eqL (n : Nat) (ih : ∀ x y : D, x.kd n = true → y.kd n = true → (PyData.eqv x.pd y.pd = true ↔ x = y)) : ∀ (xs ys : List D), xs.all (D.kd n) = true → ys.all (D.kd n) = true → (PyData.eqvAll (D.pdL xs) (D.pdL ys) = true ↔ xs = ys)
  | [], [], _, _ => by simp [D.pdL, PyData.eqvAll]
  | [], _ :: _, _, _ => by simp [D.pdL, PyData.eqvAll]
  | _ :: _, [], _, _ => by simp [D.pdL, PyData.eqvAll]
  | x :: xs, y :: ys, h, h' => by
    rw [List.all_cons, Bool.and_eq_true] at h h'
    simp only [D.pdL, PyData.eqvAll, Bool.and_eq_true]
    rw [ih x y h.1 h'.1, kd_eqL n ih xs ys h.2 h'.2]
    simp
theorem kd_eq : ∀ (n : Nat) (x y : D), x.kd n = true → y.kd n = true → (PyData.eqv x.pd y.pd = true ↔ x = y) := by
  intro n
  induction n with
  | zero => intro x y hx hy; cases x <;> cases y <;> first | exact Bool.noConfusion hx | exact Bool.noConfusion hy | simp [D.pd, PyData.eqv]
  | succ n ih =>
    intro x y hx hy
    have l := kd_eqL n ih
    cases x with
    | lst xs =>
      cases y with
      | lst ys => show PyData.eqvAll _ _ = true ↔ _; rw [l xs ys hx hy]; simp
      | _ => first | exact Bool.noConfusion hy | simp [D.pd, PyData.eqv]
    | tup xs =>
      cases y with
      | tup ys => show PyData.eqvAll _ _ = true ↔ _; rw [l xs ys hx hy]; simp
      | _ => first | exact Bool.noConfusion hy | simp [D.pd, PyData.eqv]
    | _ => cases y <;> first | exact Bool.noConfusion hx | exact Bool.noConfusion hy | simp [D.pd, PyData.eqv]
theorem dEqV_ne {x y : D} (hx : x.kd 60 = true) (hy : y.kd 60 = true) (h : x ≠ y) : dEqV x y = .ok false := by
  have e : (if x.sh 60 && y.sh 60 then R.ok (dEqB x y) else R.stuck) = .ok false := by
    rw [kd_sh _ _ hx, kd_sh _ _ hy]
    show R.ok (dEqB x y) = _
    congr 1
    cases q : dEqB x y with
    | false => rfl
    | true => exact absurd ((kd_eq 60 x y hx hy).mp q) h
  cases x <;> cases y <;> first | exact e | (show R.ok (decide _) = _; rw [decide_eq_false]; intro h'; exact h (by rw [h']))
theorem dNe_ne {x y : D} (hx : x.kd 60 = true) (hy : y.kd 60 = true) (h : x ≠ y) : dNe x y = .ok (.bl true) := by unfold dNe; rw [dEqV_ne hx hy h]; rfl
end
end DL
namespace DL
open PySem L2
def Out.ctn : Out → Out
  | .ct Γ => .nx Γ
  | o => o
def Out.brk : Out → Out
  | .bk Γ => .nx Γ
  | o => o
def tOut (r : Option DL.Env) (g : DL.Env → Out) : Out := match r with
  | none => .stuck
  | some Γ => (g Γ).ctn
def turn (h : Tg) (g : DL.Env → Out) (d : D) (Γ : DL.Env) : Out := tOut (h d Γ) g
section
variable {α : Type} {h : Tg} {g : DL.Env → Out} {Γ : DL.Env} {d : D} {ds : List D} {vs : List Nat} {x : D}
theorem turn_eq : turn h g d Γ = tOut (h d Γ) g := rfl
theorem tOut_some : tOut (some Γ) g = (g Γ).ctn := rfl
theorem ctn_nx : (Out.nx Γ).ctn = .nx Γ := rfl
theorem ctn_ct : (Out.ct Γ).ctn = .nx Γ := rfl
theorem ctn_bk : (Out.bk Γ).ctn = .bk Γ := rfl
theorem ctn_rt : (Out.rt d).ctn = .rt d := rfl
theorem ctn_ro : (Out.ro ds).ctn = .ro ds := rfl
theorem ctn_exc : (Out.exc x Γ).ctn = .exc x Γ := rfl
theorem wp_nx : (Out.nx Γ).wp vs = .nx (wipeE Γ vs) := rfl
theorem wp_bk : (Out.bk Γ).wp vs = .bk (wipeE Γ vs) := rfl
theorem wp_ct : (Out.ct Γ).wp vs = .ct (wipeE Γ vs) := rfl
theorem wp_rt : (Out.rt d).wp vs = .rt d := rfl
theorem wp_ro : (Out.ro ds).wp vs = .ro ds := rfl
theorem wp_exc : (Out.exc x Γ).wp vs = .exc x Γ := rfl
theorem wipeE_n : wipeE Γ [] = Γ := rfl
theorem wipeE_c {v : Nat} : wipeE Γ (v :: vs) = (wipeE Γ vs).set v none := rfl
theorem loopF_turn {ds : List D} : loopF h g (d :: ds) Γ = match turn h g d Γ with
    | .nx Γ' => loopF h g ds Γ'
    | o => o.brk := by
  unfold turn tOut
  conv => lhs; unfold loopF
  cases h d Γ with
  | none => rfl
  | some Γ1 =>
    dsimp only
    cases g Γ1 <;> rfl
theorem for_ds (ds : List D) (E : Nat → DL.Env) (hs : ∀ (i : Nat) (d : D), ds[i]? = some d → turn h g d (E i) = .nx (E (i + 1))) : loopF h g ds (E 0) = .nx (E ds.length) := by
  induction ds generalizing E with
  | nil => rfl
  | cons d ds ih =>
    rw [loopF_turn, hs 0 d rfl]
    exact ih (fun i => E (i + 1)) fun i d' hd => hs (i + 1) d' (by simpa using hd)
theorem for_map (xs : List α) (enc : α → D) (E : Nat → DL.Env) (hs : ∀ (i : Nat) (x : α), xs[i]? = some x → turn h g (enc x) (E i) = .nx (E (i + 1))) : loopF h g (xs.map enc) (E 0) = .nx (E xs.length) := by
  have q := for_ds (h := h) (g := g) (xs.map enc) E fun i d hd => by
    rw [List.getElem?_map] at hd
    cases e : xs[i]? with
    | none => rw [e] at hd; cases hd
    | some x =>
      rw [e] at hd
      cases hd
      exact hs i x e
  rwa [List.length_map] at q
theorem for_rng (lo : Int) (n : Nat) (E : Nat → DL.Env) (hs : ∀ i : Nat, i < n → turn h g (.int (lo + i)) (E i) = .nx (E (i + 1))) : loopF h g (rngL lo n) (E 0) = .nx (E n) := by
  have q := for_map (h := h) (g := g) (List.range n) (fun (i : Nat) => D.int (lo + i)) E fun i x hx => by
    have hi : i < n := by
      have := (List.getElem?_eq_some_iff.mp hx).1
      simpa using this
    have : x = i := by rw [List.getElem?_range hi] at hx; exact (Option.some.inj hx).symm
    subst this
    exact hs x hi
  rwa [List.length_range] at q
theorem for_dn (lo : Int) (n : Nat) (E : Nat → DL.Env) (hs : ∀ i : Nat, i < n → turn h g (.int (lo + (i : Nat) * (-1))) (E i) = .nx (E (i + 1))) : loopF h g (rngDn lo n) (E 0) = .nx (E n) := by
  have q := for_map (h := h) (g := g) (List.range n) (fun (i : Nat) => D.int (lo + (i : Nat) * (-1))) E fun i x hx => by
    have hi : i < n := by
      have := (List.getElem?_eq_some_iff.mp hx).1
      simpa using this
    have : x = i := by rw [List.getElem?_range hi] at hx; exact (Option.some.inj hx).symm
    subst this
    exact hs x hi
  rwa [List.length_range] at q
theorem for_enum (xs : List α) (enc : α → D) (E : Nat → DL.Env) (hs : ∀ (i : Nat) (x : α), xs[i]? = some x → turn h g (.tup [.int (i : Nat), enc x]) (E i) = .nx (E (i + 1))) : loopF h g (enumL 0 (xs.map enc)) (E 0) = .nx (E xs.length) := by
  have q := for_ds (h := h) (g := g) (enumL 0 (xs.map enc)) E fun i d hd => by
    obtain ⟨e, he, rfl⟩ := enumL_at hd
    rw [List.getElem?_map] at he
    cases ex : xs[i]? with
    | none => rw [ex] at he; cases he
    | some x =>
      rw [ex] at he
      cases he
      rw [Nat.zero_add]
      exact hs i x ex
  rwa [enumL_len, List.length_map] at q
end
theorem for_inv {α : Type} {h : Tg} {g : DL.Env → Out} {Γ : DL.Env} (xs : List α) (enc : α → D) (P : Nat → DL.Env → Prop) (h0 : P 0 Γ) (hs : ∀ (i : Nat) (x : α) (Γ : DL.Env), xs[i]? = some x → P i Γ → ∃ Γ', turn h g (enc x) Γ = .nx Γ' ∧ P (i + 1) Γ') : ∃ Γ', loopF h g (xs.map enc) Γ = .nx Γ' ∧ P xs.length Γ' := by
  induction xs generalizing P Γ with
  | nil => exact ⟨Γ, rfl, h0⟩
  | cons x xs ih =>
    obtain ⟨Γ1, e1, p1⟩ := hs 0 x Γ rfl h0
    obtain ⟨Γ', e2, p2⟩ := ih (Γ := Γ1) (fun i Γ => P (i + 1) Γ) p1 fun i x' Γ' hx hp => hs (i + 1) x' Γ' (by simpa using hx) hp
    refine ⟨Γ', ?_, p2⟩
    rw [List.map_cons, loopF_turn, e1]
    exact e2
def lcO (r : Option DL.Env) (fe : DL.Env → R D) : R D := match r with
  | none => .stuck
  | some Γ => fe Γ
def lcT (h : Tg) (fe : DL.Env → R D) (d : D) (Γ : DL.Env) : R D := lcO (h d Γ) fe
section
variable {α : Type} {h : Tg} {fe : DL.Env → R D} {Γ : DL.Env} {d : D} {vs : List Nat} {fi : DL.Env → R (List D)}
theorem lcT_eq : lcT h fe d Γ = lcO (h d Γ) fe := rfl
theorem lcO_some : lcO (some Γ) fe = fe Γ := rfl
theorem lcF_yes : ∀ (ds es : List D), ds.map (fun d => lcT h fe d Γ) = es.map R.ok → lcF h bYes fe Γ ds = .ok es
  | [], es, e => by
    cases es with
    | nil => rfl
    | cons e' es => simp at e
  | d :: ds, es, e => by
    cases es with
    | nil => simp at e
    | cons e' es =>
      rw [List.map_cons, List.map_cons, List.cons.injEq] at e
      have ih := lcF_yes ds es e.2
      have e1 := e.1
      unfold lcF
      unfold lcT lcO at e1
      cases q : h d Γ with
      | none => rw [q] at e1; cases e1
      | some Γ1 =>
        rw [q] at e1
        dsimp only at e1
        simp only [bYes, e1, ih]
theorem oLc_map (xs : List α) (enc res : α → D) (hfi : fi Γ = .ok (xs.map enc)) (hl : xs.length ≤ LIM) (hs : ∀ x ∈ xs, lcT h fe (enc x) (wipeE Γ vs) = .ok (res x)) : oLc vs fi h bYes fe Γ = .ok (xs.map res) := by
  unfold oLc
  rw [hfi]
  show (match lcF h bYes fe (wipeE Γ vs) (xs.map enc) with | .ok es => if (xs.map enc).length ≤ LIM then R.ok es else .stuck | _ => .stuck) = _
  rw [lcF_yes (xs.map enc) (xs.map res) (by
    rw [List.map_map, List.map_map]
    exact List.map_congr_left fun x hx => hs x hx)]
  show (if (xs.map enc).length ≤ LIM then R.ok _ else .stuck) = _
  rw [if_pos (by rw [List.length_map]; exact hl)]
end
section
variable {α : Type} {i j : Int} {p : Prop} [Decidable p]
theorem dec_t (h : p) : decide p = true := decide_eq_true h
theorem dec_f (h : ¬p) : decide p = false := decide_eq_false h
theorem dIx_mapI [Inhabited α] {xs : List α} {enc : α → D} (h0 : 0 ≤ i) (h1 : i < xs.length) : dIx (.lst (xs.map enc)) (.int i) = .ok (enc xs[i.toNat]!) := by
  refine dIx_lst ?_
  have hi : i.toNat < xs.length := by omega
  unfold atI
  rw [ixN_i h0 (by rw [List.length_map]; exact h1)]
  show (xs.map enc)[i.toNat]? = _
  rw [List.getElem?_map, List.getElem?_eq_getElem hi]
  simp [hi]
theorem dIx_mapL [Inhabited α] {xs : List α} {enc : α → D} (h : 0 < xs.length) : dIx (.lst (xs.map enc)) (.int (-1)) = .ok (enc xs[xs.length - 1]!) := by
  refine dIx_lst (atI_l ?_)
  have hi : xs.length - 1 < xs.length := by omega
  rw [List.length_map, List.getElem?_map, List.getElem?_eq_getElem hi]
  simp [hi]
def Sm (i : Int) (a : Nat) : Prop := 0 ≤ i ∧ i < (2 : Int) ^ a
theorem pow2_le {a b : Nat} (h : a ≤ b) : (2 : Int) ^ a ≤ 2 ^ b := by
  have := Nat.pow_le_pow_right (show 0 < 2 by decide) h
  exact_mod_cast this
theorem Sm.mono {i : Int} {a b : Nat} (h : Sm i a) (l : a ≤ b) : Sm i b := ⟨h.1, Int.lt_of_lt_of_le h.2 (pow2_le l)⟩
theorem Sm.le {i j : Int} {a : Nat} (h : Sm j a) (h0 : 0 ≤ i) (l : i ≤ j) : Sm i a := ⟨h0, Int.lt_of_le_of_lt l h.2⟩
theorem rngL_0 {n : Nat} : rngL 0 n = (List.range n).map fun (k : Nat) => D.int (k : Nat) := by
  unfold rngL
  refine List.map_congr_left fun k _ => ?_
  rw [Int.zero_add]
theorem oAdd_l {xs ys : List D} (h : xs.length + ys.length ≤ 16777216) : oAdd (.lst xs) (.lst ys) = .ok (xs ++ ys) := if_pos h
theorem dAdd_l {xs ys : List D} (h : xs.length + ys.length ≤ 16777216) : dAdd (.lst xs) (.lst ys) = .ok (.lst (xs ++ ys)) := if_pos h
theorem dInt_i {i : Int} : dInt [.int i] = .ok (.int i) := rfl
theorem dInt_b {b : Bool} : dInt [.bl b] = .ok (.int (if b = true then 1 else 0)) := by cases b <;> rfl
theorem gTp_t {n : Nat} {hs : Tgs} {ds : List D} {Γ : DL.Env} : gTp n hs (.tup ds) Γ = if ds.length = n then hs ds Γ else none := rfl
theorem isi_ii {i : Int} : dIsi [.int i, .ty "int"] = .ok (.bl true) := rfl
theorem isi_ib {i : Int} : dIsi [.int i, .ty "bool"] = .ok (.bl false) := rfl
theorem isi_bb {b : Bool} : dIsi [.bl b, .ty "bool"] = .ok (.bl true) := rfl
theorem isi_bi {b : Bool} : dIsi [.bl b, .ty "int"] = .ok (.bl true) := rfl
theorem isi_ll {ds : List D} : dIsi [.lst ds, .ty "list"] = .ok (.bl true) := rfl
theorem isi_tt {ds : List D} : dIsi [.tup ds, .ty "tuple"] = .ok (.bl true) := rfl
theorem isi_ss {z : Str} : dIsi [.str z, .ty "str"] = .ok (.bl true) := rfl
theorem isi_lt {ds : List D} : dIsi [.lst ds, .ty "tuple"] = .ok (.bl false) := rfl
theorem isi_nt : dIsi [.non, .ty "tuple"] = .ok (.bl false) := rfl
end
end DL
namespace HLX
open PySem PySem.Spec L2
section
variable {X : Cx} {s : Shared} {H : Hp} {scope : Scope} {cenv : Env} {fp : List Addr} {E : XK} {pn : List (Addr × Obj)} {σ : St} {H' : Hp} {s' : Shared}
end
section
variable {X : Cx} {pins : List (Addr × Obj)} {σ : St} {H2 : Hp} {s2 s' : Shared} {E : XK} {W : WX} {u : Value} {C : Addr} {m : Str → Option Value} {cenv : Env}
end
section
variable {X : Cx} {W : WX}
end
end HLX
namespace DL
open PySem PySem.Spec L2
section
variable {X : Cx} {W : WX}
end
section
variable {α : Type} {h : Tg} {fe : DL.Env → R D} {Γ : DL.Env} {vs : List Nat} {fi : DL.Env → R (List D)}
end
end DL
namespace DL
open PySem PySem.Spec L2
end DL
namespace DL
open PySem PySem.Spec L2
def Idt (v : V) : Prop := flatB v = true ∨ ∃ a, v = V.ref a
def HKs (F : Hp) (σ : St) : List Nat → List Addr → Prop
  | [], Bs => Bs = []
  | k :: ks, Bs => ∃ B r a vs, Bs = B :: r ∧ σ[k]? = some (some (V.ref a)) ∧ F a = some (.lst vs) ∧ F B = some (.lst vs) ∧ (∀ v ∈ vs, Idt v) ∧ HKs F σ ks r
def HK (i : Nat) (ks : List Nat) (σ : St) (F : Hp) : Prop := ∃ A Bs, σ[i]? = some (some (V.ref A)) ∧ F A = some (.lst (Bs.map V.ref)) ∧ HKs F σ ks Bs
theorem HKs.mono {F F' : Hp} {σ σ' : St} (s : Same F F') : ∀ {ks : List Nat} {Bs : List Addr}, (∀ k ∈ ks, σ'[k]? = σ[k]?) → HKs F σ ks Bs → HKs F' σ' ks Bs
  | [], _, _, h => h
  | k :: ks, Bs, hk, h => by
    obtain ⟨B, r, a, vs, e, e1, e2, e3, e4, e5⟩ := h
    exact ⟨B, r, a, vs, e, by rw [hk k List.mem_cons_self]; exact e1, s _ _ e2, s _ _ e3, e4, HKs.mono s (fun j hj => hk j (List.mem_cons_of_mem _ hj)) e5⟩
theorem HK.mono {i : Nat} {ks : List Nat} {F F' : Hp} {σ σ' : St} (h : HK i ks σ F) (s : Same F F') (hi : σ'[i]? = σ[i]?) (hk : ∀ k ∈ ks, σ'[k]? = σ[k]?) : HK i ks σ' F' := by
  obtain ⟨A, Bs, e1, e2, e3⟩ := h
  exact ⟨A, Bs, by rw [hi]; exact e1, s _ _ e2, e3.mono s hk⟩
theorem HKs.len {F : Hp} {σ : St} : ∀ {ks : List Nat} {Bs : List Addr}, HKs F σ ks Bs → Bs.length = ks.length
  | [], _, h => by have h : _ = [] := h; simp [h]
  | _ :: _, _, ⟨_, _, _, _, e, _, _, _, _, h⟩ => by rw [e, List.length_cons, List.length_cons, h.len]
section
variable {X : Cx} {W : WX}
variable {e : Expr} {es : List Expr} {rest : List Stmt} {g : DL.Env → Out} {f : DL.Env → R D} {pos p : Pos}
end
end DL
namespace DL
open PySem PySem.Spec L2
section
variable {X : Cx} {W : WX} {pins : List (Addr × Obj)} {σ : St} {H : Hp} {s : Shared}
end
end DL
namespace DL
open PySem PySem.Spec L2
inductive OV where
  | o (ds : List D) | v (d : D)
abbrev repE (K : PySem.W.Frag) (mg : Str → Option Value) : Hp → Hp → Hp → OV → V → Prop := fun H F' H' o v => match o with
  | .o ds => OwnL K mg H F' H' ds v
  | .v d => Rp K mg F' d v
def spE (K : PySem.W.Frag) (mg : Str → Option Value) (n : Nat) (mf : List D → R OV) : Sp := fun vs H Q E => ∃ F ds, ds.length = n ∧ Fz F H ∧ RpL K mg F ds vs ∧ PostG K mg (repE K mg) F H E Q (mf ds)
def KnE (P : Program) (w : World) (K : PySem.W.Frag) (mg : Str → Option Value) (base : Heap) (k : Nat) (x : Str) (n : Nat) (mf : List D → R OV) : Prop :=
  ∃ (f : Addr) (fd : FuncData) (ps : List Str), mg x = some (.ref f) ∧ PySem.W.keepIn K (.ref f) = true ∧ Binds K fd ps [] ∧ FnOk P w K mg base (L2.CX P w) k f fd ps (spE K mg n mf)
def eiV (m : List D → R OV) : List D → R D := fun ds => (m ds).bind fun o => match o with
  | .o xs => .ok (.lst xs)
  | .v d => .ok d
section
variable {X : Cx} {W : WX} {j k n : Nat} {x : Str} {e : Expr} {es : List Expr} {p pos : Pos} {fs : DL.Env → R (List D)} {f : DL.Env → R OV}
end
section
variable {P : Program} {w : World} {K : PySem.W.Frag} {mg : Str → Option Value} {base : Heap} {x qual : Str} {params : Arguments} {body : List Stmt} {scope : Scope} {f : Addr} {fd : FuncData} {N ps : List Str} {k n : Nat} {g : DL.Env → Out}
theorem KnE.kn {mf : List D → R OV} (h : KnE P w K mg base k x n mf) : Kn P w K mg base k x n (eiV mf) := by
  obtain ⟨f, fd, ps, hm, hk, hb, G⟩ := h
  refine ⟨f, fd, ps, hm, hk, hb, G.imp fun vs H Q E q => ?_⟩
  obtain ⟨F, ds, l, z, r, p⟩ := q
  refine ⟨F, ds, l, z, r, ?_⟩
  revert p
  unfold eiV
  cases mf ds with
  | ok o =>
    cases o with
    | o ds =>
      intro p v F1 H1 x1 r1
      obtain ⟨F2, x2, r2, _⟩ := frzO x1 r1
      exact p v F2 H1 x2 r2
    | v d =>
      intro p v F1 H1 x1 r1
      exact p v F1 H1 x1 r1
  | exc x => exact fun p => p
  | stuck => exact fun p => p
end
end DL
namespace DL
open PySem PySem.Spec L2
section
variable {P : Program} {w : World} {K : PySem.W.Frag} {mg : Str → Option Value} {base : Heap} {x qual : Str} {params : Arguments} {body : List Stmt} {scope : Scope} {f : Addr} {fd : FuncData} {N ps : List Str} {k : Nat} {g : DL.Env → Out}
end
section
variable {X : Cx} {W : WX} {j k n : Nat} {c f g m : Str} {e e2 o : Expr} {es : List Expr} {p pos pos2 apos : Pos} {fs : DL.Env → R (List D)} {fo : DL.Env → R D} {tb : List (Str × (List D → R (List D)))}
end
end DL
namespace DL
open PySem PySem.Spec L2
section
variable {X : Cx} {W : WX} {e : Expr} {rest : List Stmt} {g : DL.Env → Out} {f : DL.Env → R OV} {pos p : Pos}
end
end DL
namespace DL
open PySem PySem.Spec L2
mutual
/-- no dict within -/
def D.nodk : D → Bool
  | .lst xs => D.nodkL xs
  | .tup xs => D.nodkL xs
  | .obj _ _ xs => D.nodkL xs
  | .exc _ _ xs => D.nodkL xs
  | .dk _ _ => false
  | _ => true
def D.nodkL : List D → Bool
  | [] => true
  | d :: ds => d.nodk && D.nodkL ds
end
def noDk (F : Hp) : Hp := fun a => match F a with
  | some (.dK _) => none
  | o => o
theorem noDk_of {F : Hp} {a : Addr} {o : HO} (h : F a = some o) (n : ∀ kvs, o ≠ .dK kvs) : noDk F a = some o := by
  unfold noDk
  rw [h]
  cases o <;> first | rfl | exact absurd rfl (n _)
theorem noDk_sub {F : Hp} {a : Addr} {o : HO} (h : noDk F a = some o) : F a = some o ∧ ∀ kvs, o ≠ .dK kvs := by
  unfold noDk at h
  cases e : F a with
  | none => rw [e] at h; cases h
  | some u => rw [e] at h; cases u <;> first | (cases h; done) | (cases h; exact ⟨rfl, fun _ z => nomatch z⟩)
section
variable {K : PySem.W.Frag} {mg : Str → Option Value} {F : Hp}
mutual
theorem Rp.noDk : ∀ (d : D) (v : V), d.nodk = true → Rp K mg F d v → Rp K mg (DL.noDk F) d v
  | .non, _, _, h => by unfold Rp at h ⊢; exact h
  | .bl _, _, _, h => by unfold Rp at h ⊢; exact h
  | .int _, _, _, h => by unfold Rp at h ⊢; exact h
  | .str _, _, _, h => by unfold Rp at h ⊢; exact h
  | .cls _, _, _, h => by unfold Rp at h ⊢; exact h
  | .ty _, _, _, h => by unfold Rp at h ⊢; exact h
  | .lst ds, _, n, h => by
    unfold Rp at h ⊢
    obtain ⟨a, vs, e, ea, r⟩ := h
    exact ⟨a, vs, e, noDk_of ea (fun _ z => nomatch z), RpL.noDk ds vs n r⟩
  | .tup ds, _, n, h => by
    unfold Rp at h ⊢
    obtain ⟨a, vs, e, ea, r⟩ := h
    exact ⟨a, vs, e, noDk_of ea (fun _ z => nomatch z), RpL.noDk ds vs n r⟩
  | .scr ns, _, _, h => by
    unfold Rp at h ⊢
    obtain ⟨a, e, q⟩ := h
    refine ⟨a, e, ?_⟩
    rcases q with (q | ⟨o, q⟩) | q
    · exact .inl (.inl (noDk_of q (fun _ z => nomatch z)))
    · exact .inl (.inr ⟨o, noDk_of q (fun _ z => nomatch z)⟩)
    · exact .inr q
  | .dk _ _, _, n, _ => by cases n
  | .obj c ns ds, _, n, h => by
    unfold Rp at h ⊢
    obtain ⟨a, C, dx, vs, e, ec, ea, l, r⟩ := h
    exact ⟨a, C, dx, vs, e, ec, noDk_of ea (fun _ z => nomatch z), l, RpL.noDk ds vs n r⟩
  | .exc c ns ds, _, n, h => by
    unfold Rp at h ⊢
    obtain ⟨a, C, od, e, ec, ea, q⟩ := h
    refine ⟨a, C, od, e, ec, noDk_of ea (fun _ z => nomatch z), ?_⟩
    rcases q with q | ⟨dd, vs, e1, e2, l, r⟩
    · exact .inl q
    · exact .inr ⟨dd, vs, e1, noDk_of e2 (fun _ z => nomatch z), l, RpL.noDk ds vs n r⟩
theorem RpL.noDk : ∀ (ds : List D) (vs : List V), D.nodkL ds = true → RpL K mg F ds vs → RpL K mg (DL.noDk F) ds vs
  | [], _, _, h => by unfold RpL at h ⊢; exact h
  | d :: ds, _, n, h => by
    unfold RpL at h ⊢
    obtain ⟨v, us, e, r, rr⟩ := h
    obtain ⟨n1, n2⟩ := Bool.and_eq_true_iff.mp (show (d.nodk && D.nodkL ds) = true from n)
    exact ⟨v, us, e, Rp.noDk d v n1 r, RpL.noDk ds us n2 rr⟩
end
end
def okNk : DL.Env → Bool
  | [] => true
  | none :: Γ => okNk Γ
  | some (.val d) :: Γ => d.nodk && okNk Γ
  | _ :: _ => false
theorem okNk_at : ∀ {Γ : DL.Env} {i : Nat} {s : Slot}, okNk Γ = true → Γ[i]? = some (some s) → ∃ d, s = .val d ∧ d.nodk = true
  | [], _, _, _, e => by simp at e
  | none :: Γ, 0, _, _, e => by simp at e
  | none :: Γ, i + 1, _, h, e => okNk_at (Γ := Γ) (i := i) h (by simpa using e)
  | some (.val d) :: Γ, 0, s, h, e => by
    simp at e
    exact ⟨d, e.symm, (Bool.and_eq_true_iff.mp (show (d.nodk && okNk Γ) = true from h)).1⟩
  | some (.val d) :: Γ, i + 1, s, h, e => okNk_at (Γ := Γ) (i := i) (Bool.and_eq_true_iff.mp (show (d.nodk && okNk Γ) = true from h)).2 (by simpa using e)
  | some (.own _) :: _, _, _, h, _ => by cases h
  | some (.dic _ _) :: _, _, _, h, _ => by cases h
  | some (.oob _ _ _ _) :: _, _, _, h, _ => by cases h
  | some (.hnd _ _) :: _, _, _, h, _ => by cases h
  | some (.hdc _ _ _) :: _, _, _, h, _ => by cases h
  | some (.abs _ _) :: _, _, _, h, _ => by cases h
section
variable {K : PySem.W.Frag} {mg : Str → Option Value} {F0 : Fe} {H0 F H H1 : Hp} {σ : L2.St} {Γ : DL.Env}
theorem Rel.noDk (r : Rel K mg F0 H0 F H σ Γ) (n : okNk Γ = true) : Rel K mg ⟨DL.noDk F, F0.sv⟩ H0 (DL.noDk F) H σ Γ := by
  refine ⟨⟨Same.refl _, fun a o e => r.fz a o (noDk_sub e).1, r.ext.hh, fun a o e => .inl e⟩, r.len, fun i s e => ?_, fun i j s t v u l ei ej hi hj os ot => ?_, fun i s k v e1 tk e2 => ?_⟩
  · obtain ⟨v, h1, h2⟩ := r.slot i s e
    obtain ⟨d, rfl, nd⟩ := okNk_at n e
    exact ⟨v, h1, Rp.noDk d v nd h2⟩
  · obtain ⟨d, rfl, _⟩ := okNk_at n ei
    exact os.elim
  · obtain ⟨d, rfl, _⟩ := okNk_at n e1
    cases tk
theorem Ext.up (z : Fz F H) (s : Same H H1) : Ext F H F H1 :=
  ⟨Same.refl _, fun a o e => (z a o e).elim (fun q => .inl (s _ _ q)) fun ⟨q, ob, w⟩ => .inr ⟨q, ob, s _ _ w⟩, s, fun _ _ e => .inl e⟩
theorem Rel.setNo (r : Rel K mg F0 H0 F H σ Γ) (i : Nat) (x : Option V) : Rel K mg F0 H0 F H (σ.set i x) (Γ.set i none) := by
  have back : ∀ {j : Nat} {s : Slot}, (Γ.set i none)[j]? = some (some s) → i ≠ j ∧ Γ[j]? = some (some s) := fun {j s} e => by
    by_cases q : i = j
    · subst q
      have hi : i < Γ.length := by
        have := (List.getElem?_eq_some_iff.mp e).1
        rwa [List.length_set] at this
      rw [List.getElem?_set_self hi] at e
      cases e
    · rw [List.getElem?_set_ne q] at e
      exact ⟨q, e⟩
  refine ⟨r.ext, by rw [List.length_set, List.length_set]; exact r.len, fun j s e => ?_, fun j k s t u w l ej ek hj hk os ot => ?_, r.slf.set i fun s z => by cases z⟩
  · obtain ⟨q, e⟩ := back e
    rw [List.getElem?_set_ne q]
    exact r.slot j s e
  · obtain ⟨q1, ej⟩ := back ej
    obtain ⟨q2, ek⟩ := back ek
    rw [List.getElem?_set_ne q1] at hj
    rw [List.getElem?_set_ne q2] at hk
    exact r.inj j k s t u w l ej ek hj hk os ot
end
def DkIn (H : Hp) (a : Addr) : Prop := ∃ kvs, H a = some (.dK kvs) ∨ ∃ ob, H a = some (.frz ob (.dK kvs))
section
variable {X : Cx}
def tUn (X : Cx) (t : TS) : TS := fun D σ H => t D σ H ∨ ∃ d od u, H d = some (.frz od u) ∧ (∀ o' u', X.H_0 d ≠ some (.frz o' u')) ∧ t D σ (upd H d u)
theorem ps_un {st : Stmt} {t : TS} (h : PS X st t) : PS X st (tUn X t) := by
  refine ⟨fun pins s σ H D I q => ?_⟩
  rcases q with q | ⟨d, od, u, e, n, q⟩
  · exact h.run pins s σ H D I q
  · exact h.run pins s σ _ D (I.unlock e n) q
theorem pss_nf {sts : List Stmt} {t : TS} (h : PSs X sts t) : PSs X sts (fun D σ H => (∀ d, H d = none → ∀ o' u', X.H_0 d ≠ some (.frz o' u')) → t D σ H) := by
  refine ⟨fun pins s σ H D I q => h.run pins s σ H D I (q fun d e o' u' z => ?_)⟩
  have := I.base.frzs d o' u' z
  rw [e] at this
  cases this
theorem tUn.at {t : TS} {D : Ends} {σ : L2.St} {H : Hp} {a : Addr} {kvs : List (Key × V)} (h : H a = some (.dK kvs) ∨ ∃ ob, H a = some (.frz ob (.dK kvs))) (n : ∀ o' u', X.H_0 a ≠ some (.frz o' u')) (q : ∀ H1, H1 a = some (.dK kvs) → (∀ b, b ≠ a → H1 b = H b) → t D σ H1) : tUn X t D σ H := by
  rcases h with h | ⟨ob, h⟩
  · exact .inl (q H h fun _ _ => rfl)
  · exact .inr ⟨a, ob, _, h, n, q _ upd_same fun b hb => upd_ne hb⟩
end
def D.isDk : D → Bool
  | .dk ks _ => decide (ks.length < LIM)
  | _ => false
def noNx : Out → Out
  | .nx _ => .stuck
  | o => o
theorem noNx_post {X : Cx} {W : WX} {F0 : Fe} {H0 : Hp} {Dn : Ends} {n : L2.St → Hp → Prop} {o : Out} (p : PostS X W F0 H0 Dn (noNx o)) : PostS X W F0 H0 { Dn with nx := n } o := by
  cases o with
  | nx _ => exact p.elim
  | _ => exact p
def gTabs (i : Nat) (vs : List Nat) (fo : DL.Env → R (List D)) (ft : DL.Env → R Bool) (g1 : DL.Env → Out) (fk fv fd : DL.Env → R D) : DL.Env → Out := fun Γ =>
  if okNk (wipeE Γ vs) = true then (match fo (wipeE Γ vs) with
    | .ok ds => if ds.all D.isDk = true ∧ ds ≠ [] ∧ ds.length < LIM ∧ i < Γ.length then (match ft (Γ.set i (some (.own ds))) with
      | .ok true => noNx (g1 (Γ.set i (some (.own ds))))
      | .ok false => (match fv (Γ.set i none), fk (Γ.set i none), fd (Γ.set i none) with
        | .ok _, .ok k, .ok _ => if (dKey k).isSome = true then .nx (Γ.set i none) else .stuck
        | _, _, _ => .stuck)
      | _ => .stuck) else .stuck
    | _ => .stuck) else .stuck
section
variable {X : Cx} {W : WX} {e1 c k v d z m : Expr} {as : List Stmt} {fo : DL.Env → R (List D)} {ft : DL.Env → R Bool} {g1 : DL.Env → Out} {fk fv fd : DL.Env → R D} {x : Str} {py p1 p2 p3 q1 q2 q3 q4 r1 r2 r3 s1 s2 s3 s4 s5 : Pos}
theorem dss_tabs (i : Nat) (vs : List Nat) (hu : X.A.units + 1 < cLine) (hNd : X.N.Nodup) (he : DO X W e1 fo) (hc : DT X W c ft) (ha : DSs X W as g1) (hz : DE X W z (eC (.int 0))) (hm : DE X W m (eUn dNeg (eC (.int 1)))) (hk : DE X W k fk) (hv_ : DE X W v fv) (hd_ : DE X W d fd)
    (hpz : PlainIx z) (hpm : PlainIx m) (hN : X.N[i]? = some x := by rfl) (hv : Vis X.env.scope x := by first | exact Or.inl (by kernel_rfl) | exact Or.inr (Or.inl (by kernel_rfl)) | exact Or.inr (Or.inr (by kernel_rfl))) (hd : (x == ("__debug__" : Str)) = false := by kernel_rfl)
    (hcd : (x == ("__classdict__" : Str)) = false := by kernel_rfl) (hx : Loc X.env.scope x := by first | exact Or.inl (by kernel_rfl) | exact Or.inr (by kernel_rfl)) (hf : X.fn x = true ∨ X.env.scope.names.lookup x = some .local := by first | exact .inl rfl | exact .inr (by kernel_rfl) | exact .inl (by kernel_rfl))
    (hs : swapsWithSole [.Name x py] e1 s1.line X.env = pure false := by rfl) (hw : swappedStores [.Name x py] e1 X.env = pure none := by rfl) (h1 : (assignEach [.Name x py] X.env).map (·.2) = [assign (.Name x py) X.env] := by rfl)
    (hs3 : swapsWith v (some (.Subscript (.Subscript (.Name x p1) z p2) k p3)) s3.line X.env = pure false := by rfl)
    (hbase : attributeBase (.Subscript (.Name x q1) m q2) "clear" X.env (eval (.Subscript (.Name x q1) m q2) X.env) = eval (.Subscript (.Name x q1) m q2) X.env := by rfl) (hline4 : (q3.endLine == q4.line) = true := by rfl)
    (hs4 : swapsWith (.Call (.Attribute (.Subscript (.Name x q1) m q2) "clear" q3) [] [] q4) none s4.line X.env = pure false := by rfl)
    (hs1 : starEach [d] X.env = (false, eval d X.env) :: starEach [] X.env := by rfl) (hline : (r2.endLine == r3.line) = true := by rfl)
    (hfew : ((backTo r3 (starEach [d] X.env)).all (fun x => !x.1) && (backToKw r3 (keywordEach [] X.env)).all (fun x => x.1.isSome)
      && decide (([d] : List Expr).length + ([] : List Keyword).length + (if ([] : List Keyword).isEmpty then 0 else 1) < 30)) = true := by rfl)
    (hs5 : swapsWith (.Call (.Attribute (.Name x r1) "append" r2) [d] [] r3) none s5.line X.env = pure false := by rfl) :
    DSs X W [.Assign [.Name x py] e1 s1, .If c as [] s2, .Assign [.Subscript (.Subscript (.Name x p1) z p2) k p3] v s3, .Expr (.Call (.Attribute (.Subscript (.Name x q1) m q2) "clear" q3) [] [] q4) s4, .Expr (.Call (.Attribute (.Name x r1) "append" r2) [d] [] r3) s5] (gTabs i vs fo ft g1 fk fv fd) := by
  have S1 := ps_asg (pos := s1) he (pg_name (pos := py) hNd hN hx hf) hs hw h1
  have S2 := ps_if (pos := s2) hc ha pss_nil
  have S3 := ps_un (ps_dput (pos := s3) (pos' := p3) hu (pe_ix (pos := p2) ix_list (pe_var (pos := p1) hN hv hd hcd) hz hpz) hk hv_ hs3)
  have S4 := ps_un (ps_expr (pos := s4) (pe_dclear (apos := q3) (cpos := q4) (pe_ix (pos := q2) ix_list (pe_var (pos := q1) hN hv hd hcd) hm hpm) hbase hline4) hs4)
  have S5 := ps_expr (pos := s5) (pe_bm (apos := r2) (cpos := r3) PySem.F.plainAttrs_list PySem.F.slot_list_append PySem.F.type_list_append mt_append (pe_var (pos := r1) hN hv hd hcd) (pa_cons hd_ pa_nil hs1) rfl hfew hline hs1) hs5
  refine PSs.weak (pss_nf (pss_cons S1 (pss_cons S2 (pss_cons S3 (pss_cons S4 (pss_one S5)))))) ?_
  rintro Dn σ H ⟨F0, H0, F, Γ, r, p⟩ nf
  revert p
  unfold gTabs
  by_cases nk : okNk (wipeE Γ vs) = true
  case neg => rw [if_neg nk]; exact fun p => p.elim
  rw [if_pos nk]
  have r0 := (r.forget vs).noDk nk
  refine fun p => ⟨_, H0, _, _, r0, ?_⟩
  revert p
  cases fo (wipeE Γ vs) with
  | exc _ => exact fun p => p.elim
  | stuck => exact fun p => p.elim
  | ok ds =>
    intro p b F1 H1 x1 ow
    obtain ⟨l, us, rfl, hl, fl, hl0, rl⟩ := ow
    have p : PostS X W F0 H0 Dn (if ds.all D.isDk = true ∧ ds ≠ [] ∧ ds.length < LIM ∧ i < Γ.length then (match ft (Γ.set i (some (.own ds))) with
      | .ok true => noNx (g1 (Γ.set i (some (.own ds))))
      | .ok false => (match fv (Γ.set i none), fk (Γ.set i none), fd (Γ.set i none) with
        | .ok _, .ok k, .ok _ => if (dKey k).isSome = true then .nx (Γ.set i none) else .stuck
        | _, _, _ => .stuck)
      | _ => .stuck) else .stuck) := p
    by_cases cd : ds.all D.isDk = true ∧ ds ≠ [] ∧ ds.length < LIM ∧ i < Γ.length
    case neg => rw [if_neg cd] at p; exact p.elim
    rw [if_pos cd] at p
    obtain ⟨cd1, cd2, cd3, cd4⟩ := cd
    -- the dicts are new
    have new : ∀ u ∈ us, ∃ a, u = .ref a ∧ H a = none ∧ ∃ kvs, F1 a = some (.dK kvs) ∧ kvs.length < LIM := by
      intro u hu'
      obtain ⟨j, hj⟩ := List.getElem?_of_mem hu'
      obtain ⟨dd, edd, rd⟩ := rl.getV hj
      have q := List.all_eq_true.mp cd1 dd (List.mem_of_getElem? edd)
      cases dd with
      | dk ks vs' =>
        obtain ⟨a, ws, ew, ea, el, _⟩ := rd.dk_iff
        refine ⟨a, ew, ?_, _, ea, ?_⟩
        · rcases x1.new a _ ea with z | z
          · exact absurd rfl ((noDk_sub z).2 _)
          · exact z
        · rw [List.length_zip]
          have : ks.length < LIM := of_decide_eq_true q
          omega
      | _ => cases q
    -- all that is known
    let J : Hp := fun a => match F a with | some o => some o | none => F1 a
    have jF : ∀ a o, F a = some o → J a = some o := fun a o e => by show (match F a with | some o => some o | none => F1 a) = _; rw [e]
    have jcase : ∀ a o, J a = some o → F a = some o ∨ (F a = none ∧ F1 a = some o) := fun a o e => by
      cases q : F a with
      | some u => rw [jF a u q] at e; cases e; exact .inl rfl
      | none =>
        have e : (match F a with | some o => some o | none => F1 a) = some o := e
        rw [q] at e
        exact .inr ⟨rfl, e⟩
    have hh1 : Same H H1 := x1.hh
    have upF := (Ext.up r.fz hh1).fh
    have xJ : Ext F H J H1 := ⟨jF, fun a o e => (jcase a o e).elim (fun q => upF a o q) fun q => x1.fh a o q.2, hh1, fun a o e => (jcase a o e).elim .inl fun q => by
      rcases x1.new a o q.2 with z | z
      · rw [(noDk_sub z).1] at q; cases q.1
      · exact .inr z⟩
    have j1 : Same F1 J := fun a o e => by
      cases q : F a with
      | none => show (match F a with | some o => some o | none => F1 a) = _; rw [q]; exact e
      | some u =>
        rcases x1.new a o e with z | z
        · have := (noDk_sub z).1
          exact jF a o this
        · have := r.fz.free z
          rw [q] at this; cases this
    have jl : J l = none := by
      have : F l = none := r.fz.free hl0
      show (match F l with | some o => some o | none => F1 l) = none
      rw [this]
      exact fl
    have r1 := r.setO xJ (i := i) (s := .own ds) (v := .ref l) rfl ⟨l, us, rfl, hl, jl, hl0, RpL.mono j1 _ _ rl⟩
    refine ⟨F0, H0, J, _, r1, ?_⟩
    -- the test
    revert p
    cases ft (Γ.set i (some (.own ds))) with
    | exc _ => exact fun p => p.elim
    | stuck => exact fun p => p.elim
    | ok bb =>
      intro p b' F3 H3 x3 eb
      have eb : b' = bb := eb
      subst eb
      cases b' with
      | true => exact iteT ⟨F0, H0, F3, _, r1.step x3, noNx_post p⟩
      | false =>
        refine iteF ?_
        have p : PostS X W F0 H0 Dn (match fv (Γ.set i none), fk (Γ.set i none), fd (Γ.set i none) with
          | .ok _, .ok k, .ok _ => if (dKey k).isSome = true then .nx (Γ.set i none) else .stuck
          | _, _, _ => .stuck) := p
        cases evv : fv (Γ.set i none) with
        | exc _ => rw [evv] at p; exact p.elim
        | stuck => rw [evv] at p; exact p.elim
        | ok dv =>
          cases ekk : fk (Γ.set i none) with
          | exc _ => rw [evv, ekk] at p; exact p.elim
          | stuck => rw [evv, ekk] at p; exact p.elim
          | ok dk =>
            cases edd : fd (Γ.set i none) with
            | exc _ => rw [evv, ekk, edd] at p; exact p.elim
            | stuck => rw [evv, ekk, edd] at p; exact p.elim
            | ok dd =>
              rw [evv, ekk, edd] at p
              have p : PostS X W F0 H0 Dn (if (dKey dk).isSome = true then .nx (Γ.set i none) else .stuck) := p
              cases ejk : dKey dk with
              | none => rw [ejk] at p; exact p.elim
              | some j =>
                rw [ejk] at p
                have p : ∀ σ F H, Rel X.K X.mg F0 H0 F H σ (Γ.set i none) → Dn.nx σ H := p
                -- from here on only the heap is looked at
                have h3 : Same H H3 := hh1.trans x3.hh
                have rc : ∀ {Hc : Hp}, Same H Hc → Rel X.K X.mg F0 H0 F Hc (σ.set i (some (.ref l))) (Γ.set i none) := fun s => (r.step (Ext.up r.fz s)).setNo i _
                have hi : i < σ.length := by rw [r.len]; exact cd4
                have hσ : (σ.set i (some (V.ref l)))[i]? = some (some (.ref l)) := List.getElem?_set_self hi
                have notin : ∀ u ∈ us, ∃ a, u = .ref a ∧ H a = none ∧ DkIn H3 a := fun u hu' => by
                  obtain ⟨a, e1, e2, kvs, e3, _⟩ := new u hu'
                  refine ⟨a, e1, e2, kvs, ?_⟩
                  rcases x1.fh a _ e3 with q | ⟨_, ob, q⟩
                  · exact .inl (x3.hh _ _ q)
                  · exact .inr ⟨ob, x3.hh _ _ q⟩
                have h3l : H3 l = some (.lst us) := x3.hh _ _ hl
                have ul : us ≠ [] := fun q => cd2 (by
                  rw [q] at rl
                  exact List.eq_nil_of_length_eq_zero rl.length)
                obtain ⟨u0, ut, eus⟩ : ∃ u0 ut, us = u0 :: ut := by
                  cases us with
                  | nil => exact absurd rfl ul
                  | cons a b => exact ⟨a, b, rfl⟩
                obtain ⟨a0, e0, n0, k0⟩ := notin u0 (by rw [eus]; exact List.mem_cons_self)
                obtain ⟨_, e0', _, kvs0, f0, kl0⟩ := new u0 (by rw [eus]; exact List.mem_cons_self)
                subst e0
                cases e0'
                obtain ⟨ui, uz, eus2⟩ : ∃ ui uz, us = ui ++ [uz] := by
                  rcases List.eq_nil_or_concat us with q | ⟨a, b, q⟩
                  · exact absurd q ul
                  · exact ⟨a, b, by rw [q, List.concat_eq_append]⟩
                obtain ⟨az, ez, nz, kz⟩ := notin uz (by rw [eus2]; exact List.mem_append_right _ List.mem_cons_self)
                subst ez
                have lne : ∀ a, DkIn H3 a → l ≠ a := fun a h q => by
                  subst q
                  obtain ⟨kvs, h | ⟨ob, h⟩⟩ := h
                  · rw [h3l] at h; cases h
                  · rw [h3l] at h; cases h
                have k0e : H3 a0 = some (.dK kvs0) ∨ ∃ ob, H3 a0 = some (.frz ob (.dK kvs0)) := by
                  rcases x1.fh a0 _ f0 with q | ⟨_, ob, q⟩
                  · exact .inl (x3.hh _ _ q)
                  · exact .inr ⟨ob, x3.hh _ _ q⟩
                -- d[0][k] = v
                refine tUn.at k0e (nf a0 n0) fun Ha ea sa => ?_
                have hsa : Same H Ha := fun b o e => by
                  rw [sa b (fun q => by rw [q, n0] at e; cases e)]
                  exact h3 b o e
                have la : Ha l = some (.lst us) := by rw [sa l (lne a0 k0)]; exact h3l
                refine ⟨F0, H0, F, _, rc hsa, ?_⟩
                rw [evv]
                intro w Hb1 Hb y1 rw_
                refine ⟨_, hσ, F0, H0, Hb1, _, (rc hsa).step y1, ?_⟩
                intro w0 Hc1 Hc y2 rw0
                have rw0 : Rp X.K X.mg Hc1 (.int 0) w0 := rw0
                have ba : Same Ha Hc := y1.hh.trans y2.hh
                refine ⟨l, us, 0, .ref a0, rfl, rw0.int_iff, SqL.of (ba _ _ la), by rw [eus]; exact atI_nat (j := 0) rfl, ?_⟩
                refine ⟨F0, H0, Hc1, _, ((rc hsa).step y1).step y2, ?_⟩
                rw [ekk]
                intro kw Hd1 Hd y3 rkw
                have bd : Same Ha Hd := ba.trans y3.hh
                have ekv := dKey_rp (show Rp X.K X.mg Hd1 dk kw from rkw) ejk
                refine ⟨a0, _, rfl, .inl ⟨kvs0, j, bd _ _ ea, ekv, by rw [LIM_eq]; exact kl0, rfl⟩, ?_⟩
                -- d[-1].clear()
                have s4 : Same H (upd Hd a0 (.dK (putK kvs0 j w))) := fun b o e => by
                  rw [upd_ne (fun q => by rw [q, n0] at e; cases e)]
                  exact bd _ _ (hsa b o e)
                have l4 : upd Hd a0 (.dK (putK kvs0 j w)) l = some (.lst us) := by
                  rw [upd_ne (lne a0 k0)]
                  exact bd _ _ la
                obtain ⟨kvz, kze⟩ : DkIn (upd Hd a0 (.dK (putK kvs0 j w))) az := by
                  by_cases q : az = a0
                  · subst q
                    exact ⟨_, .inl upd_same⟩
                  · obtain ⟨kk, h⟩ := kz
                    refine ⟨kk, ?_⟩
                    rw [upd_ne q]
                    rcases h with h | ⟨ob, h⟩
                    · exact .inl (bd _ _ (by rw [sa az q]; exact h))
                    · exact .inr ⟨ob, bd _ _ (by rw [sa az q]; exact h)⟩
                generalize upd Hd a0 (.dK (putK kvs0 j w)) = He at s4 l4 kze ⊢
                refine tUn.at kze (nf az nz) fun Hf ef sf => ?_
                have hsf : Same H Hf := fun b o e => by
                  rw [sf b (fun q => by rw [q, nz] at e; cases e)]
                  exact s4 b o e
                have lf : Hf l = some (.lst us) := by rw [sf l (lne az kz)]; exact l4
                refine ⟨_, hσ, F0, H0, F, _, rc hsf, ?_⟩
                have neg1 : eUn dNeg (eC (.int 1)) (Γ.set i none) = .ok (.int (-1)) := rfl
                rw [neg1]
                intro w1 Hg1 Hg y4 rw1
                have rw1 : Rp X.K X.mg Hg1 (.int (-1)) w1 := rw1
                have eg := y4.hh _ _ ef
                refine ⟨l, us, -1, .ref az, rfl, rw1.int_iff, SqL.of (y4.hh _ _ lf), by rw [eus2]; exact atI_last _ _, .inr (.inr (.inl ⟨rfl, .inl ⟨_, eg⟩⟩)), az, _, rfl, rfl, eg, ?_⟩
                -- d.append(..)
                have s5 : Same H (upd Hg az (.dK [])) := fun b o e => by
                  rw [upd_ne (fun q => by rw [q, nz] at e; cases e)]
                  exact y4.hh _ _ (hsf b o e)
                have l5 : upd Hg az (.dK []) l = some (.lst us) := by
                  rw [upd_ne (lne az kz)]
                  exact y4.hh _ _ lf
                generalize upd Hg az (.dK []) = Hh at s5 l5 ⊢
                refine ⟨_, hσ, .inl ⟨rfl, _, SqL.of l5⟩, F0, H0, F, _, rc s5, ?_⟩
                rw [edd]
                intro wd Hi1 Hi y5 rwd
                refine ⟨l, us, wd, rfl, rfl, y5.hh _ _ l5, by rw [LIM_eq, ← rl.length]; exact cd3, p _ F _ (rc fun b o e => ?_)⟩
                have := y5.hh _ _ (s5 b o e)
                rw [upd_ne (fun q => by rw [q, hl0] at e; cases e)]
                exact this
end
def atDkO (i : Nat) (fx : DL.Env → R D) : DL.Env → Option (List Key × List D) := fun Γ => match Env.at_ Γ i, fx Γ with
  | some (.own ds), .ok (.int k) => (match atI ds k with
    | some (.dk ks vs) => some (ks, vs)
    | _ => none)
  | _, _ => none
section
variable {X : Cx} {W : WX} {ix : Expr} {p1 p2 pos : Pos} {body : List Stmt} {fx : DL.Env → R D} {h : Tg} {g : DL.Env → Out} {vs : List Nat}
theorem atDkO_of {F0 : Fe} {H0 F H : Hp} {σ : L2.St} {Γ : DL.Env} {i : Nat} {ks : List Key} {vs : List D} (r : Rel X.K X.mg F0 H0 F H σ Γ) (e : atDkO i fx Γ = some (ks, vs)) :
    ∃ (a d : Addr) (us ws : List V) (k : Int), σ[i]? = some (some (.ref a)) ∧ H a = some (.lst us) ∧ F a = none ∧ fx Γ = .ok (.int k) ∧ atI us k = some (.ref d) ∧ F d = some (.dK (ks.zip ws)) ∧ ks.length = ws.length ∧ RpL X.K X.mg F vs ws := by
  unfold atDkO at e
  split at e
  case h_2 => cases e
  rename_i ds k e1 e2
  cases e3 : atI ds k with
  | none => rw [e3] at e; cases e
  | some y =>
    rw [e3] at e
    cases y with
    | dk ks' vs' =>
      cases e
      obtain ⟨v, hv, l, us, ev, hl, fl, _, rr⟩ := r.slot i _ (at_get e1)
      obtain ⟨w, h1, h2⟩ := atI_rp rr e3
      obtain ⟨d, ws, ew, ed, el, rl⟩ := h2.dk_iff
      subst ev ew
      exact ⟨l, d, us, ws, k, hv, hl, fl, e2, h1, ed, el, rl⟩
    | _ => cases e
theorem ds_forDkO {tg iter : Expr} {x : Str} (i : Nat) {J : Addr → Obj → List (Key × V) → It} {f : List Key → List D → List D} (hi : PI X tg iter (iDk J (tOp (rIxL X.K) (tVar i) (tD X W fx))))
    (wk : ∀ {F2 : Hp} {d : Addr} {od : Obj} {ks : List Key} {ds : List D} {ws : List V}, ks.length = ws.length → RpL X.K X.mg F2 ds ws →
      Walk (J d od (ks.zip ws)) (f ks ds).length (fun H => Fz F2 H ∧ H d = some (.frz od (.dK (ks.zip ws)))) (fun i H x H'' => ∀ Fc, Same F2 Fc → Fz Fc H → ∃ Fi dd, Ext Fc H Fi H'' ∧ (f ks ds)[i]? = some dd ∧ Rp X.K X.mg Fi dd x))
    (hp : PassesOwn (model X.prog X.w) X.A X.env X.xe) (hc : X.calm = true) (hg : DG X tg vs h) (hb : DSs X W body g) (hs : ∀ z, foldedSetIterable iter X.env z = pure z := by intro _; rfl) :
    DS X W (.For tg iter body [] pos) (sForDk (atDkO i fx) f h g) := by
  have one := ps_for (pos := pos) hp hc hi hg hb hs
  refine PS.weak (or_ps one (ps_lock one)) ?_
  rintro Dn σ H ⟨F0, H0, F, Γ, r, p⟩
  revert p
  unfold sForDk
  cases ek : atDkO i fx Γ with
  | none => exact fun p => p.elim
  | some q =>
    obtain ⟨ks, es⟩ := q
    intro p
    have p : PostS X W F0 H0 Dn (loopF h g (f ks es) Γ).calmL := p
    obtain ⟨l, d, us, ws, k, hσ, hl, fl, efx, eat, ed, el, rl⟩ := atDkO_of r ek
    have ld : l ≠ d := fun q => by rw [q, ed] at fl; cases fl
    -- from the state in which d is locked
    have go : ∀ (od : Obj) (u : HO) (D2 : Ends), H d = some u → DkAt u (ks.zip ws) → PostS X W ⟨F, F0.sv⟩ (upd H0 d (.frz od (.dK (ks.zip ws)))) D2 (loopF h g (f ks es) Γ).calmL →
        tFor (iDk J (tOp (rIxL X.K) (tVar i) (tD X W fx))) (tDG X vs h) (tDS X W g) D2 σ (upd H d (.frz od (.dK (ks.zip ws)))) := by
      intro od u D2 hu hk p2
      have rL := r.lock (od := od) ed hu hk
      refine ⟨_, hσ, _, _, F, Γ, rL, ?_⟩
      rw [efx]
      intro b F2 H2 x2 rb
      have eb : b = V.int k := (show Rp X.K X.mg F2 (.int k) b from rb).int_iff
      subst eb
      refine ⟨l, us, k, .ref d, rfl, rfl, SqL.of (x2.hh _ _ (by rw [upd_ne ld]; exact hl)), eat, ?_⟩
      refine ⟨d, od, ks.zip ws, rfl, x2.hh _ _ upd_same, ?_⟩
      exact for_locked (rL.step x2) upd_same (wk el (RpL.mono x2.ff _ _ rl)) p2
    rcases r.fz d _ ed with z | ⟨_, ob, z⟩
    · refine .inr ⟨d, .dK (ks.zip ws), z, trivial, fun od => go od _ _ z (.inl rfl) ?_⟩
      revert p
      cases loopF h g (f ks es) Γ with
      | nx Γ' => exact fun p σ1 F1 H1 r1 => ⟨r1.ext.hh _ _ upd_same, p _ _ _ (r.unlock ed z (.inl rfl) r1)⟩
      | rt y => exact fun p v F1 H1 x1 q => ⟨x1.hh _ _ upd_same, p v F1 _ (r.ext.unlock ed z (.inl rfl) x1) q⟩
      | _ => exact fun p => p.elim
    · have eH : upd H d (.frz ob (.dK (ks.zip ws))) = H := funext fun b => by
        by_cases q : b = d
        · rw [q, upd_same, z]
        · rw [upd_ne q]
      refine .inl ?_
      have := go ob _ Dn z (.inr ⟨ob, rfl⟩) ?_
      · rw [eH] at this
        exact this
      have back : ∀ {H1 : Hp}, H1 d = some (.frz ob (.dK (ks.zip ws))) → upd H1 d (.frz ob (.dK (ks.zip ws))) = H1 := fun e => funext fun b => by
        by_cases q : b = d
        · rw [q, upd_same, e]
        · rw [upd_ne q]
      revert p
      cases loopF h g (f ks es) Γ with
      | nx Γ' => exact fun p σ1 F1 H1 r1 => by have := p _ _ _ (r.unlock ed z (.inr ⟨ob, rfl⟩) r1); rw [back (r1.ext.hh _ _ upd_same)] at this; exact this
      | rt y => exact fun p v F1 H1 x1 q => by have := p v F1 _ (r.ext.unlock ed z (.inr ⟨ob, rfl⟩) x1) q; rw [back (x1.hh _ _ upd_same)] at this; exact this
      | _ => exact fun p => p.elim
theorem ds_forKeysO {tg : Expr} {x : Str} (i : Nat) (hix : DE X W ix fx) (hpx : PlainIx ix) (hp : PassesOwn (model X.prog X.w) X.A X.env X.xe) (hc : X.calm = true) (hg : DG X tg vs h) (hb : DSs X W body g) (hN : X.N[i]? = some x := by rfl)
    (hv : Vis X.env.scope x := by first | exact Or.inl (by kernel_rfl) | exact Or.inr (Or.inl (by kernel_rfl)) | exact Or.inr (Or.inr (by kernel_rfl))) (hd : (x == ("__debug__" : Str)) = false := by kernel_rfl) (hcd : (x == ("__classdict__" : Str)) = false := by kernel_rfl)
    (hs : ∀ z, foldedSetIterable (.Subscript (.Name x p1) ix p2) X.env z = pure z := by intro _; rfl) : DS X W (.For tg (.Subscript (.Name x p1) ix p2) body [] pos) (sForDk (atDkO i fx) keysD h g) :=
  ds_forDkO (x := x) i (J := Itk) (pi_keysK (pe_ix ix_list (pe_var hN hv hd hcd) hix hpx)) (fun l r => walk_keysD l r) hp hc hg hb hs
end
end DL
namespace FA
open PySem DL
def b_count_of : DL.Env → Out :=
    sRet (eOp dAdd (eOp dMul (eOp dIx (eV 1) (eC (.int 0))) (eOp dIx (eV 0) (eC (.int 1)))) (eOp dIx (eV 1) (eC (.int 1))))
def m_count_of : List D → R D := mk 2 b_count_of
end FA
namespace FP
open PySem DL
def b_Price_rod_price : DL.Env → Out :=
    sRet (eC (.int 0))
def m_Price_rod_price : List D → R D := mk 3 b_Price_rod_price
def b_ByMoves_rod_price : DL.Env → Out :=
    sRet (eOp dAdd (eCall dInt (aCons (eOp dNe (eOp dIx (eV 1) (eC (.int 0))) (eOp dIx (eV 2) (eC (.int 0)))) (aNil))) (eCall dInt (aCons (eOp dNe (eOp dIx (eV 1) (eC (.int 1))) (eOp dIx (eV 2) (eC (.int 1)))) (aNil))))
def m_ByMoves_rod_price : List D → R D := mk 3 b_ByMoves_rod_price
def b_ByGrips_rod_price : DL.Env → Out :=
    sRet (eCall dInt (aCons (eOp dNe (eV 1) (eV 2)) (aNil)))
def m_ByGrips_rod_price : List D → R D := mk 3 b_ByGrips_rod_price
def b_ByBeads_rod_price : DL.Env → Out :=
    sRet (eOp dAdd (eCall dAbs (aCons (eOp dSub (eOp dIx (eV 1) (eC (.int 0))) (eOp dIx (eV 2) (eC (.int 0)))) (aNil))) (eCall dAbs (aCons (eOp dSub (eOp dIx (eV 1) (eC (.int 1))) (eOp dIx (eV 2) (eC (.int 1)))) (aNil))))
def m_ByBeads_rod_price : List D → R D := mk 3 b_ByBeads_rod_price
def tb_rod_price : List (Str × (List D → R D)) := [("Price", m_Price_rod_price), ("ByMoves", m_ByMoves_rod_price), ("ByGrips", m_ByGrips_rod_price), ("ByBeads", m_ByBeads_rod_price)]
def le_Price_price1 : DL.Env → R D :=
    eMeth tb_rod_price "rod_price" 2 (eV 0) (aCons (eV 3) (aCons (eV 4) (aNil)))
def b_Price_price : DL.Env → Out :=
    sRet (eCall dSum (aCons (eFrz (oLc [3, 4] (iCall iZipD (aCons (eV 1) (aCons (eV 2) (aNil)))) (gTp 2 (gsCons (gNm 3) (gsCons (gNm 4) (gsNil)))) (bYes) (le_Price_price1))) (aNil)))
def m_Price_price : List D → R D := mk 5 b_Price_price
end FP
namespace FQ
open PySem DL
def le_rod_standings1 : DL.Env → R D :=
    eTup (aCons (eOp dDiv (eV 5) (eOp dAdd (eV 3) (eC (.int 1)))) (aCons (eOp dMod (eV 5) (eOp dAdd (eV 3) (eC (.int 1)))) (aNil)))
def b_rod_standings : DL.Env → Out :=
    sSeq (sSet (gTp 4 (gsCons (gNm 1) (gsCons (gNm 2) (gsCons (gNm 3) (gsCons (gNm 4) (gsNil)))))) (eV 0)) <|
    sRetO (oLc [5] (iCall iRange1 (aCons (eOp dMul (eOp dAdd (eV 1) (eC (.int 1))) (eOp dAdd (eV 3) (eC (.int 1)))) (aNil))) (gNm 5) (bYes) (le_rod_standings1))
def mo_rod_standings : List D → R (List D) := mkO 6 b_rod_standings
def m_rod_standings : List D → R D := fun ds => (mo_rod_standings ds).bind fun r => .ok (.lst r)
def h_choices_at1 : Tg :=
    gNm 3
def g_choices_at1 : DL.Env → Out :=
    sWp [3, 4] (sSeq (sSet (gNm 4) (eOp dSub (eV 1) (eFn 2 FA.m_count_of (aCons (eV 0) (aCons (eV 3) (aNil)))))) <|
    sIf (bAnd (eB (eOp dGe (eV 4) (eC (.int 0)))) (eB (eOp dEq (eOp dMod (eV 4) (eOp dIx (eV 0) (eC (.int 3)))) (eC (.int 0))))) (sApp 2 (eTup (aCons (eV 3) (aCons (eOp dDiv (eV 4) (eOp dIx (eV 0) (eC (.int 3)))) (aNil))))) (sNx))
def b_choices_at : DL.Env → Out :=
    sSeq (sSetO 2 (oLst (aNil))) <|
    sSeq (sFor (iOf (eFn 1 m_rod_standings (aCons (eV 0) (aNil)))) h_choices_at1 g_choices_at1) <|
    sRetS 2
def mo_choices_at : List D → R (List D) := mkO 5 b_choices_at
def m_choices_at : List D → R D := fun ds => (mo_choices_at ds).bind fun r => .ok (.lst r)
abbrev tb_rod_price : List (Str × (List D → R D)) := FP.tb_rod_price
def h_least_of1 : Tg :=
    gTp 2 (gsCons (gNm 5) (gsCons (gNm 6) (gsNil)))
def g_least_of1 : DL.Env → Out :=
    sWp [5, 6] (sIf (eB (eOp dIsNot (eOp dGet (eV 2) (eV 6)) (eC .non))) (sApp 4 (eOp dAdd (eMeth tb_rod_price "rod_price" 2 (eV 3) (aCons (eV 1) (aCons (eV 5) (aNil)))) (eOp dGet (eV 2) (eV 6)))) (sNx))
def b_least_of : DL.Env → Out :=
    sSeq (sSetO 4 (oLst (aNil))) <|
    sSeq (sFor (iOf (eV 0)) h_least_of1 g_least_of1) <|
    sFrz 4 (sRet (eUn dMinNon (eV 4)))
def m_least_of : List D → R D := mk 7 b_least_of
def h_keys_of1 : Tg :=
    gNm 7
def g_keys_of1 : DL.Env → Out :=
    sWp [7] (sPut 5 (eV 7) (eFrz (oLst (aNil))))
def h_keys_of4 : Tg :=
    gTp 2 (gsCons (gNm 8) (gsCons (gNm 9) (gsNil)))
def g_keys_of4 : DL.Env → Out :=
    sWp [8, 9] (sPut 6 (eV 9) (eC (.bl true)))
def h_keys_of3 : Tg :=
    gNm 7
def g_keys_of3 : DL.Env → Out :=
    sWp [7, 8, 9] (sSeq (sPut 5 (eV 7) (eFn 2 m_choices_at (aCons (eV 4) (aCons (eV 7) (aNil))))) <|
    sFor (iOf (eOwnGet 5 (eV 7))) h_keys_of4 g_keys_of4)
def h_keys_of2 : Tg :=
    gNm 4
def g_keys_of2 : DL.Env → Out :=
    sWp [4, 5, 6, 7, 8, 9] (sSeq (sSetD 5 dNew) <|
    sSeq (sSetD 6 dNew) <|
    sSeq (sFor (iOf (eV 3)) h_keys_of3 g_keys_of3) <|
    sSeq (sFrz 5 (sApp 2 (eV 5))) <|
    sFrz 6 (sSet (gNm 3) (eFrz (oCall oSorted (aCons (eV 6) (aNil))))))
def b_keys_of : DL.Env → Out :=
    sSeq (sSetO 2 (oLst (aNil))) <|
    sSeq (sSet (gNm 3) (eFrz (oLst (aCons (eV 1) (aNil))))) <|
    sSeq (sFor (iOf (eV 0)) h_keys_of2 g_keys_of2) <|
    sSeq (sSetD 5 dNew) <|
    sSeq (sFgt [7] (sFor (iOf (eV 3)) h_keys_of1 g_keys_of1)) <|
    sFrz 2 (sFrz 5 (sRetO (oOp oAdd (eV 2) (eFrz (oLst (aCons (eV 5) (aNil)))))))
def mo_keys_of : List D → R (List D) := mkO 10 b_keys_of
def m_keys_of : List D → R D := fun ds => (mo_keys_of ds).bind fun r => .ok (.lst r)
def h_table_of2 : Tg :=
    gTp 2 (gsCons (gNm 6) (gsCons (gNm 10) (gsNil)))
def g_table_of2 : DL.Env → Out :=
    sWp [6, 10] (sPut 9 (eV 6) (eFn 4 m_least_of (aCons (eV 10) (aCons (eOp dIx (eV 1) (eV 8)) (aCons (eOp dIx (eV 7) (eC (.int 0))) (aCons (eV 3) (aNil)))))))
def h_table_of1 : Tg :=
    gNm 8
def g_table_of1 : DL.Env → Out :=
    sWp [6, 8, 9, 10] (sSeq (sSetD 9 dNew) <|
    sSeq (sFgt [6] (sForDk (atDk 4 (eV 8)) itemsD h_table_of2 g_table_of2)) <|
    sFrz 9 (sSet (gNm 7) (eOp dAdd (eFrz (oLst (aCons (eV 9) (aNil)))) (eV 7))))
def h_table_of3 : Tg :=
    gNm 6
def g_table_of3 : DL.Env → Out :=
    sWp [6] (sSeq (sPut 5 (eV 6) (eC .non)) <|
    sIf (eB (eOp dEq (eV 6) (eC (.int 0)))) (sPut 5 (eV 6) (eC (.int 0))) (sNx))
def b_table_of : DL.Env → Out :=
    sSeq (sSet (gNm 4) (eFn 2 m_keys_of (aCons (eV 0) (aCons (eV 2) (aNil))))) <|
    sSeq (sSetD 5 dNew) <|
    sSeq (sForDk (atDk 4 (eUn dNeg (eC (.int 1)))) keysD h_table_of3 g_table_of3) <|
    sSeq (sFrz 5 (sSet (gNm 7) (eFrz (oLst (aCons (eV 5) (aNil)))))) <|
    sSeq (sFgt [6] (sFor (iCall iRange3 (aCons (eOp dSub (eCall dLen (aCons (eV 0) (aNil))) (eC (.int 1))) (aCons (eUn dNeg (eC (.int 1))) (aCons (eUn dNeg (eC (.int 1))) (aNil))))) h_table_of1 g_table_of1)) <|
    sRet (eV 7)
def m_table_of : List D → R D := mk 11 b_table_of
end FQ
namespace LQ
open PySem DL
def b_law_mixed : DL.Env → Out :=
    sSeq (sIf (eB (eOp dEq (eV 0) (eFrz (oLst (aNil))))) (sRet (eOp dAdd (eOp dMul (eV 1) (eC (.int 7919))) (eC (.int 5)))) (sNx)) <|
    sRet (eOp dMod (eOp dMul (eOp dAdd (eOp dAdd (eOp dIx (eV 0) (eOp dMod (eV 1) (eCall dLen (aCons (eV 0) (aNil))))) (eC (.int 1))) (eV 1)) (eOp dAdd (eC (.int 48271)) (eOp dMul (eC (.int 7919)) (eV 1)))) (eC (.int 2147483647)))
def m_law_mixed : List D → R D := mk 2 b_law_mixed
def b_law_layout : DL.Env → Out :=
    sSeq (sSet (gNm 3) (eOp dAdd (eC (.int 2)) (eOp dMod (eV 0) (eOp dSub (eV 2) (eC (.int 1)))))) <|
    sSeq (sSet (gNm 4) (eOp dMod (eOp dDiv (eV 0) (eC (.int 32))) (eOp dAdd (eV 1) (eC (.int 1))))) <|
    sSeq (sSet (gNm 5) (eC (.int 1))) <|
    sSeq (sSet (gNm 6) (eOp dSub (eV 3) (eC (.int 1)))) <|
    sSeq (sIf (eB (eOp dGt (eV 4) (eC (.int 0)))) (sSeq (sSet (gNm 5) (eOp dAdd (eC (.int 1)) (eOp dMod (eOp dDiv (eV 0) (eC (.int 256))) (eC (.int 8))))) <|
    sSet (gNm 6) (eCall dMax2 (aCons (eOp dSub (eV 5) (eC (.int 1))) (aCons (eOp dSub (eOp dSub (eV 3) (eC (.int 1))) (eOp dMul (eV 4) (eV 5))) (aNil))))) (sNx)) <|
    sRet (eTup (aCons (eV 4) (aCons (eV 5) (aCons (eCall dMin2 (aCons (eC (.int 24)) (aCons (eOp dAdd (eV 6) (eOp dMod (eOp dDiv (eV 0) (eC (.int 4096))) (eC (.int 3)))) (aNil)))) (aCons (eV 3) (aNil))))))
def m_law_layout : List D → R D := mk 7 b_law_layout
def h_law_borne1 : Tg :=
    gTp 2 (gsCons (gNm 4) (gsCons (gNm 5) (gsNil)))
def g_law_borne1 : DL.Env → Out :=
    sWp [4, 5] (sSeq (sSet (gNm 2) (eOp dAdd (eV 2) (eOp dMul (eOp dAdd (eOp dMul (eOp dIx (eV 5) (eC (.int 0))) (eOp dIx (eV 4) (eC (.int 1)))) (eOp dIx (eV 5) (eC (.int 1)))) (eV 3)))) <|
    sSet (gNm 3) (eOp dMul (eV 3) (eOp dIx (eV 4) (eC (.int 3)))))
def b_law_borne : DL.Env → Out :=
    sSeq (sSet (gNm 2) (eC (.int 0))) <|
    sSeq (sSet (gNm 3) (eC (.int 1))) <|
    sSeq (sFor (iCall iZipD (aCons (eV 0) (aCons (eV 1) (aNil)))) h_law_borne1 g_law_borne1) <|
    sRet (eV 2)
def m_law_borne : List D → R D := mk 6 b_law_borne
def le_law_frame1 : DL.Env → R D :=
    eFn 3 m_law_layout (aCons (eFn 2 m_law_mixed (aCons (eV 0) (aCons (eOp dAdd (eC (.int 10)) (eV 4)) (aNil)))) (aCons (eV 2) (aCons (eV 3) (aNil))))
def b_law_frame : DL.Env → Out :=
    sRetO (oLc [4] (iCall iRange1 (aCons (eV 1) (aNil))) (gNm 4) (bYes) (le_law_frame1))
def mo_law_frame : List D → R (List D) := mkO 5 b_law_frame
def m_law_frame : List D → R D := fun ds => (mo_law_frame ds).bind fun r => .ok (.lst r)
def h_law_standing1 : Tg :=
    gTp 2 (gsCons (gNm 4) (gsCons (gNm 5) (gsNil)))
def g_law_standing1 : DL.Env → Out :=
    sWp [4, 5, 6] (sSeq (sSet (gNm 6) (eFn 2 m_law_mixed (aCons (eV 0) (aCons (eOp dAdd (eV 2) (eV 4)) (aNil))))) <|
    sApp 3 (eTup (aCons (eOp dMod (eV 6) (eOp dAdd (eOp dIx (eV 5) (eC (.int 0))) (eC (.int 1)))) (aCons (eOp dMod (eOp dDiv (eV 6) (eC (.int 64))) (eOp dAdd (eOp dIx (eV 5) (eC (.int 2))) (eC (.int 1)))) (aNil)))))
def b_law_standing : DL.Env → Out :=
    sSeq (sSetO 3 (oLst (aNil))) <|
    sSeq (sFor (iCall iEnumD (aCons (eV 1) (aNil))) h_law_standing1 g_law_standing1) <|
    sRetS 3
def mo_law_standing : List D → R (List D) := mkO 7 b_law_standing
def m_law_standing : List D → R D := fun ds => (mo_law_standing ds).bind fun r => .ok (.lst r)
end LQ
namespace LR
open PySem DL
def le_law_number1 : DL.Env → R D :=
    eTup (aCons (eOp dIx (eV 5) (eC (.int 0))) (aCons (eOp dIx (eV 5) (eC (.int 2))) (aNil)))
def b_law_number : DL.Env → Out :=
    sSeq (sSet (gNm 2) (eOp dMod (eFn 2 LQ.m_law_mixed (aCons (eV 0) (aCons (eC (.int 3)) (aNil)))) (eC (.int 4)))) <|
    sSeq (sSetO 3 (oLc [5] (iOf (eV 1)) (gNm 5) (bYes) (le_law_number1))) <|
    sSeq (sFrz 3 (sSet (gNm 4) (eFn 2 LQ.m_law_borne (aCons (eV 1) (aCons (eV 3) (aNil)))))) <|
    sSeq (sIf (eB (eOp dEq (eV 2) (eC (.int 0)))) (sRet (eOp dAdd (eV 4) (eOp dMod (eFn 2 LQ.m_law_mixed (aCons (eV 0) (aCons (eC (.int 4)) (aNil)))) (eC (.int 3))))) (sNx)) <|
    sSeq (sIf (eB (eOp dEq (eV 2) (eC (.int 1)))) (sRet (eOp dMod (eOp dMul (eOp dMul (eFn 2 LQ.m_law_mixed (aCons (eV 0) (aCons (eC (.int 4)) (aNil)))) (eFn 2 LQ.m_law_mixed (aCons (eV 0) (aCons (eC (.int 5)) (aNil))))) (eFn 2 LQ.m_law_mixed (aCons (eV 0) (aCons (eC (.int 6)) (aNil))))) (eOp dAdd (eV 4) (eC (.int 1))))) (sNx)) <|
    sRet (eFn 2 LQ.m_law_borne (aCons (eV 1) (aCons (eFn 3 LQ.m_law_standing (aCons (eV 0) (aCons (eV 1) (aCons (eC (.int 60)) (aNil))))) (aNil))))
def m_law_number : List D → R D := mk 6 b_law_number
end LR
namespace FB
open PySem DL
end FB
namespace LA
open PySem DL
def b_law_mixed : DL.Env → Out :=
    sSeq (sIf (eB (eOp dEq (eV 0) (eFrz (oLst (aNil))))) (sRet (eOp dMul (eV 1) (eC (.int 7919)))) (sNx)) <|
    sRet (eOp dMod (eOp dMul (eOp dAdd (eOp dAdd (eOp dIx (eV 0) (eOp dMod (eV 1) (eCall dLen (aCons (eV 0) (aNil))))) (eC (.int 1))) (eV 1)) (eOp dAdd (eC (.int 48271)) (eOp dMul (eC (.int 7919)) (eV 1)))) (eC (.int 2147483647)))
def m_law_mixed : List D → R D := mk 2 b_law_mixed
def b_law_layout : DL.Env → Out :=
    sSeq (sIf (eB (eOp dEq (eOp dMod (eV 0) (eC (.int 3))) (eC (.int 0)))) (sSeq (sSet (gNm 1) (eOp dAdd (eC (.int 2)) (eOp dMod (eOp dDiv (eV 0) (eC (.int 3))) (eC (.int 24))))) <|
    sRet (eTup (aCons (eC (.int 0)) (aCons (eC (.int 1)) (aCons (eCall dMin2 (aCons (eC (.int 24)) (aCons (eOp dAdd (eOp dSub (eV 1) (eC (.int 1))) (eOp dMod (eOp dDiv (eV 0) (eC (.int 72))) (eC (.int 4)))) (aNil)))) (aCons (eV 1) (aNil))))))) (sNx)) <|
    sSeq (sSet (gNm 2) (eOp dAdd (eC (.int 1)) (eOp dMod (eOp dDiv (eV 0) (eC (.int 3))) (eC (.int 6))))) <|
    sSeq (sSet (gNm 3) (eOp dIx (eFrz (oLst (aCons (eC (.int 5)) (aCons (eOp dAdd (eC (.int 1)) (eOp dMod (eOp dDiv (eV 0) (eC (.int 18))) (eC (.int 20)))) (aNil))))) (eOp dMod (eOp dDiv (eV 0) (eC (.int 360))) (eC (.int 2))))) <|
    sSeq (sSet (gNm 4) (eOp dAdd (eOp dSub (eV 3) (eC (.int 1))) (eOp dMod (eOp dDiv (eV 0) (eC (.int 720))) (eC (.int 6))))) <|
    sSeq (sSet (gNm 5) (eCall dMin2 (aCons (eC (.int 25)) (aCons (eOp dAdd (eOp dAdd (eOp dMul (eV 2) (eV 3)) (eV 4)) (eC (.int 1))) (aNil))))) <|
    sRet (eTup (aCons (eV 2) (aCons (eV 3) (aCons (eV 4) (aCons (eOp dAdd (eC (.int 2)) (eOp dMod (eOp dDiv (eV 0) (eC (.int 4320))) (eOp dSub (eV 5) (eC (.int 1))))) (aNil))))))
def m_law_layout : List D → R D := mk 6 b_law_layout
def b_law_frame : DL.Env → Out :=
    sRetO (oLc [2] (iCall iRange1 (aCons (eOp dAdd (eC (.int 1)) (eOp dMod (eFn 2 m_law_mixed (aCons (eV 0) (aCons (eC (.int 9)) (aNil)))) (eV 1))) (aNil))) (gNm 2) (bYes) (eFn 1 m_law_layout (aCons (eFn 2 m_law_mixed (aCons (eV 0) (aCons (eOp dAdd (eC (.int 10)) (eV 2)) (aNil)))) (aNil))))
def mo_law_frame : List D → R (List D) := mkO 3 b_law_frame
def m_law_frame : List D → R D := fun ds => (mo_law_frame ds).bind fun r => .ok (.lst r)
def b_law_standing : DL.Env → Out :=
    sSeq (sSetO 3 (oLst (aNil))) <|
    sSeq (sFor (iCall iEnumD (aCons (eV 2) (aNil))) (gTp 2 (gsCons (gNm 4) (gsCons (gNm 5) (gsNil)))) (sSeq (sSet (gNm 6) (eFn 2 m_law_mixed (aCons (eV 0) (aCons (eOp dAdd (eV 1) (eV 4)) (aNil))))) <|
    sApp 3 (eTup (aCons (eOp dMod (eV 6) (eOp dAdd (eOp dIx (eV 5) (eC (.int 0))) (eC (.int 1)))) (aCons (eOp dMod (eOp dDiv (eV 6) (eC (.int 7))) (eOp dAdd (eOp dIx (eV 5) (eC (.int 2))) (eC (.int 1)))) (aNil)))))) <|
    sRetS 3
def mo_law_standing : List D → R (List D) := mkO 7 b_law_standing
def m_law_standing : List D → R D := fun ds => (mo_law_standing ds).bind fun r => .ok (.lst r)
end LA
local macro_rules
  | `(tactic| simp_arith [$ls,*] $[$l:location]?) => `(tactic| simp -implicitDefEqProofs (disch := omega) only [
      DL.sSeq, DL.sIf, DL.sRet, DL.sRetN, DL.sRetS, DL.sRetO, DL.sDrop, DL.sNx, DL.sBk, DL.sCt, DL.sFrz, DL.sSet, DL.sSetO, DL.sSetD, DL.sApp, DL.sSetIx,
      DL.sFor, DL.sWhile, DL.sClear, DL.sSetD, DL.sPut, DL.bHas, DL.eOwnGet, DL.dNew, DL.dKey_i, DL.dKey_s, DL.dInD_i, DL.dNotInD_i, DL.gNm, DL.gsNil,
      DL.gsCons, DL.eV, DL.eC, DL.eOp, DL.eUn, DL.eChain, DL.eAnd, DL.eOr, DL.eNot, DL.eIf, DL.eB, DL.eTru, DL.bNot, DL.bAnd, DL.bOr, DL.aNil, DL.aCons,
      DL.eCall, DL.eTup, DL.oLst, DL.eFrz, DL.oOp, DL.oCall, DL.eFn, DL.oFn, DL.eBor_eq, DL.bBor_eq, DL.boR_ok, DL.eoR_bl, DL.eoR_i, DL.eoR_n, DL.eoR_s,
      DL.eOwnIx, DL.iZip_l, DL.oZip_l, DL.iRev_l, DL.iOf, DL.iOfT, DL.iOfS, DL.iCall, DL.pNo, DL.pSo, DL.eSl, DL.oSl, DL.oRev, DL.asI, DL.at_0, DL.at_s,
      DL.bind_ok, DL.bind_exc, DL.out_ok, DL.out_exc, DL.then_nx, DL.then_rt, DL.then_ro, DL.then_bk, DL.then_ct, DL.then_exc, DL.fin_nx, DL.fin_rt,
      DL.fin_ro, DL.fin_exc, DL.finO_ro, DL.finO_exc, DL.dMod_i, DL.dDiv_i, DL.dMul_r, DL.dMul_l, DL.dAdd_i, DL.dSub_i, DL.dNeg_i, DL.dLt_i, DL.dLe_i,
      DL.dGt_i, DL.dGe_i, DL.dEq_i, DL.dNe_i, DL.dEq_s, DL.dNe_s, DL.asB_bl, DL.dTru_bl, DL.dIs_n, DL.dIsNot_n, DL.dMin_i, DL.dMax_i, DL.dAbs_i, DL.dLen_l,
      DL.dLen_t, DL.dLen_s, DL.dIx_t0, DL.dIx_t1, DL.dIx_t2, DL.dIx_t3, DL.dIx_l0, DL.dIx_l1, DL.dIx_l2, DL.dIx_l3, DL.dIx_last, DL.sl1_l, DL.oSl1_l,
      DL.cutL_init, List.set_cons_zero, List.set_cons_succ, List.length_cons, List.length_nil, DL.D.isNon, DL.D.scal, DL.Slot.frz, DL.Env.frz, DL.mk,
      DL.mkO, DL.stE, List.map, List.replicate, List.cons_append, List.nil_append, Nat.reduceSub, Nat.reduceAdd, Nat.zero_add, Nat.sub_self,
      Nat.reduceLeDiff, Nat.reduceEqDiff, Nat.reduceLT, decide_true, decide_false, Bool.not_true, Bool.not_false, Option.bind_some, DL.D.items,
      DL.D.itemsT, if_true, if_false, Int.reduceLT, Int.reduceNeg, Int.reduceEq, Int.reduceLE, Int.reduceGT, Int.reduceAdd, Int.reduceSub,
      Int.reduceMul, ite_true, ite_false, reduceIte, DL.LIM, List.length_map, Bool.false_eq_true, eq_self, DL.dInt_i, DL.dInt_b, DL.eNew0, DL.eNew2,
      DL.eMeth, DL.sExtO, DL.sExtV, DL.iRevRng, DL.iRevRng1, DL.Out.gone, DL.Out.noX, DL.sTryK, DL.sTryS, DL.sTryO, DL.sPar, DL.sPar3, DL.fuelI, if_pos,
      if_neg, DL.gTp_t, DL.lcT_eq, DL.lcO_some, DL.turn_eq, DL.tOut_some, DL.ctn_nx, DL.ctn_ct, DL.ctn_bk, DL.ctn_rt, DL.ctn_ro, DL.ctn_exc, DL.wp_nx,
      DL.wp_bk, DL.wp_ct, DL.wp_rt, DL.wp_ro, DL.wp_exc, DL.wipeE_n, DL.wipeE_c, DL.dec_t, DL.dec_f, DL.dIx_mapI, DL.dIx_mapL, DL.dIx_scr, DL.sFgt, DL.sWp,
      DL.sRaise, DL.sRaise0, DL.sPop, DL.oList, DL.isi_ii, DL.isi_ib, DL.isi_bb, DL.isi_bi, DL.isi_ll, DL.isi_tt, DL.isi_ss, DL.isi_lt, DL.isi_nt, DL.oRev,
      List.reverse_cons, List.reverse_nil, List.nil_append, List.append_nil, Int.natCast_zero, Int.zero_add, Int.add_zero, Int.zero_mul, Int.one_mul,
      Int.mul_one, DL.zipL_map, DL.enumL_map, DL.iEnum_l, Function.comp, DL.oRng,
      $ls,*] $[$l]?)
local macro_rules
  | `(tactic| simp_arith! [$ls,*] $[$l:location]?) => `(tactic| simp -implicitDefEqProofs only [
      DL.sSeq, DL.sIf, DL.sRet, DL.sRetN, DL.sRetS, DL.sRetO, DL.sDrop, DL.sNx, DL.sBk, DL.sCt, DL.sFrz, DL.sSet, DL.sSetO, DL.sSetD, DL.sApp, DL.sSetIx,
      DL.sFor, DL.sWhile, DL.sClear, DL.sSetD, DL.sPut, DL.bHas, DL.eOwnGet, DL.dNew, DL.dKey_i, DL.dKey_s, DL.dInD_i, DL.dNotInD_i, DL.gNm, DL.gsNil,
      DL.gsCons, DL.gTp, DL.eV, DL.eC, DL.eOp, DL.eUn, DL.eChain, DL.eAnd, DL.eOr, DL.eNot, DL.eIf, DL.eB, DL.eTru, DL.bNot, DL.bAnd, DL.bOr, DL.aNil,
      DL.aCons, DL.eCall, DL.eTup, DL.oLst, DL.eFrz, DL.oOp, DL.oCall, DL.eFn, DL.oFn, DL.eBor_eq, DL.bBor_eq, DL.boR_ok, DL.eoR_bl, DL.eoR_i, DL.eoR_n,
      DL.eoR_s, DL.eOwnIx, DL.iZip_l, DL.oZip_l, DL.iRev_l, DL.iOf, DL.iOfT, DL.iOfS, DL.iCall, DL.pNo, DL.pSo, DL.eSl, DL.oSl, DL.oRev, DL.asI, DL.at_0,
      DL.at_s, DL.bind_ok, DL.bind_exc, DL.out_ok, DL.out_exc, DL.then_nx, DL.then_rt, DL.then_ro, DL.then_bk, DL.then_ct, DL.then_exc, DL.fin_nx,
      DL.fin_rt, DL.fin_ro, DL.fin_exc, DL.finO_ro, DL.finO_exc, DL.dMod_i, DL.dDiv_i, DL.dMul_r, DL.dMul_l, DL.dAdd_i, DL.dSub_i, DL.dNeg_i, DL.dLt_i,
      DL.dLe_i, DL.dGt_i, DL.dGe_i, DL.dEq_i, DL.dNe_i, DL.dEq_s, DL.dNe_s, DL.asB_bl, DL.dTru_bl, DL.dIs_n, DL.dIsNot_n, DL.dMin_i, DL.dMax_i, DL.dAbs_i,
      DL.dLen_l, DL.dLen_t, DL.dLen_s, DL.dIx_t0, DL.dIx_t1, DL.dIx_t2, DL.dIx_t3, DL.dIx_l0, DL.dIx_l1, DL.dIx_l2, DL.dIx_l3, DL.dIx_last, DL.sl1_l,
      DL.oSl1_l, DL.cutL_init, List.set_cons_zero, List.set_cons_succ, List.length_cons, List.length_nil, DL.D.isNon, DL.D.scal, DL.Slot.frz, DL.Env.frz,
      DL.mk, DL.mkO, DL.stE, List.map, List.replicate, List.cons_append, List.nil_append, Nat.reduceSub, Nat.reduceAdd, Nat.zero_add, Nat.sub_self,
      Nat.reduceLeDiff, Nat.reduceEqDiff, Nat.reduceLT, decide_true, decide_false, Bool.not_true, Bool.not_false, Option.bind_some, DL.D.items,
      DL.D.itemsT, if_true, if_false, Int.reduceLT, Int.reduceNeg, Int.reduceEq, Int.reduceLE, Int.reduceGT, Int.reduceAdd, Int.reduceSub,
      Int.reduceMul, ite_true, ite_false, reduceIte, DL.LIM, List.length_map, Bool.false_eq_true, eq_self,
      $ls,*] $[$l]?)
local macro_rules
  | `(tactic| simp! [$ls,*] $[$l:location]?) => `(tactic| simp -implicitDefEqProofs (disch := omega) only [
      DL.sSeq, DL.sIf, DL.sRet, DL.sRetN, DL.sRetS, DL.sRetO, DL.sDrop, DL.sNx, DL.sBk, DL.sCt, DL.sFrz, DL.sSet, DL.sSetO, DL.sSetD, DL.sApp, DL.sSetIx,
      DL.sFor, DL.sWhile, DL.sClear, DL.sSetD, DL.sPut, DL.bHas, DL.eOwnGet, DL.dNew, DL.dKey_i, DL.dKey_s, DL.dInD_i, DL.dNotInD_i, DL.gNm, DL.gsNil,
      DL.gsCons, DL.eV, DL.eC, DL.eOp, DL.eUn, DL.eChain, DL.eAnd, DL.eOr, DL.eNot, DL.eIf, DL.eB, DL.eTru, DL.bNot, DL.bAnd, DL.bOr, DL.aNil, DL.aCons,
      DL.eCall, DL.eTup, DL.oLst, DL.eFrz, DL.oOp, DL.oCall, DL.eFn, DL.oFn, DL.eBor_eq, DL.bBor_eq, DL.boR_ok, DL.eoR_bl, DL.eoR_i, DL.eoR_n, DL.eoR_s,
      DL.eOwnIx, DL.iZip_l, DL.oZip_l, DL.iRev_l, DL.iOf, DL.iOfT, DL.iOfS, DL.iCall, DL.pNo, DL.pSo, DL.eSl, DL.oSl, DL.oRev, DL.asI, DL.at_0, DL.at_s,
      DL.bind_ok, DL.bind_exc, DL.out_ok, DL.out_exc, DL.then_nx, DL.then_rt, DL.then_ro, DL.then_bk, DL.then_ct, DL.then_exc, DL.fin_nx, DL.fin_rt,
      DL.fin_ro, DL.fin_exc, DL.finO_ro, DL.finO_exc, DL.dMod_i, DL.dDiv_i, DL.dMul_r, DL.dMul_l, DL.dAdd_i, DL.dSub_i, DL.dNeg_i, DL.dLt_i, DL.dLe_i,
      DL.dGt_i, DL.dGe_i, DL.dEq_i, DL.dNe_i, DL.dEq_s, DL.dNe_s, DL.asB_bl, DL.dTru_bl, DL.dIs_n, DL.dIsNot_n, DL.dMin_i, DL.dMax_i, DL.dAbs_i, DL.dLen_l,
      DL.dLen_t, DL.dLen_s, DL.dIx_t0, DL.dIx_t1, DL.dIx_t2, DL.dIx_t3, DL.dIx_l0, DL.dIx_l1, DL.dIx_l2, DL.dIx_l3, DL.dIx_last, DL.sl1_l, DL.oSl1_l,
      DL.cutL_init, List.set_cons_zero, List.set_cons_succ, List.length_cons, List.length_nil, DL.D.isNon, DL.D.scal, DL.Slot.frz, DL.Env.frz, DL.mk,
      DL.mkO, DL.stE, List.map, List.replicate, List.cons_append, List.nil_append, Nat.reduceSub, Nat.reduceAdd, Nat.zero_add, Nat.sub_self,
      Nat.reduceLeDiff, Nat.reduceEqDiff, Nat.reduceLT, decide_true, decide_false, Bool.not_true, Bool.not_false, Option.bind_some, DL.D.items,
      DL.D.itemsT, if_true, if_false, Int.reduceLT, Int.reduceNeg, Int.reduceEq, Int.reduceLE, Int.reduceGT, Int.reduceAdd, Int.reduceSub,
      Int.reduceMul, ite_true, ite_false, reduceIte, DL.LIM, List.length_map, Bool.false_eq_true, eq_self, DL.dInt_i, DL.dInt_b, DL.eNew0, DL.eNew2,
      DL.eMeth, DL.sExtO, DL.sExtV, DL.iRevRng, DL.iRevRng1, DL.Out.gone, DL.Out.noX, DL.sTryK, DL.sTryS, DL.sTryO, DL.sPar, DL.sPar3, DL.fuelI, if_pos,
      if_neg, DL.gTp_t, DL.lcT_eq, DL.lcO_some, DL.turn_eq, DL.tOut_some, DL.ctn_nx, DL.ctn_ct, DL.ctn_bk, DL.ctn_rt, DL.ctn_ro, DL.ctn_exc, DL.wp_nx,
      DL.wp_bk, DL.wp_ct, DL.wp_rt, DL.wp_ro, DL.wp_exc, DL.wipeE_n, DL.wipeE_c, DL.dec_t, DL.dec_f, DL.dIx_mapI, DL.dIx_mapL, DL.dIx_scr, DL.sFgt, DL.sWp,
      DL.sRaise, DL.sRaise0, DL.sPop, DL.oList, DL.isi_ii, DL.isi_ib, DL.isi_bb, DL.isi_bi, DL.isi_ll, DL.isi_tt, DL.isi_ss, DL.isi_lt, DL.isi_nt, DL.oRev,
      List.reverse_cons, List.reverse_nil, List.nil_append, List.append_nil, Int.natCast_zero, Int.zero_add, Int.add_zero, Int.zero_mul, Int.one_mul,
      Int.mul_one, DL.zipL_map, DL.enumL_map, DL.iEnum_l, Function.comp, DL.oRng, DL.sRetH, DL.sRetHN, DL.sRetX, DL.sDropX, DL.sSetX, DL.sIfX, DL.xP,
      DL.xNot, DL.xB, DL.xOp, DL.xAnd, DL.xOr, DL.rxb_ok, DL.rxb_exc, DL.rxo_ok, DL.rxo_exc, DL.inE_ok, DL.inE_exc, DL.then_rs, DL.ctn_rs, DL.wp_rs,
      DL.fin_rs, DL.RHo_ok, DL.RHo_exc,
      $ls,*] $[$l]?)
namespace LA
open PySem DL L2
structure Lay where
  u : Int
  w : Int
  l : Int
  b : Int
  deriving DecidableEq
def Lay.d (x : Lay) : D := .tup [.int x.u, .int x.w, .int x.l, .int x.b]
def pairD (p : Int × Int) : D := .tup [.int p.1, .int p.2]
structure Lay.Ok (x : Lay) : Prop where
  u0 : 0 ≤ x.u
  u6 : x.u ≤ 6
  w1 : 1 ≤ x.w
  w20 : x.w ≤ 20
  l0 : 0 ≤ x.l
  l24 : x.l ≤ 24
  b2 : 2 ≤ x.b
  b25 : x.b ≤ 25
  uw : x.u = 0 → x.w = 1
  ul : 0 < x.u → x.w - 1 ≤ x.l
  full : x.b - 1 ≤ x.u * x.w + x.l
def mix (ns : List Int) (k : Int) : Int := if ns = [] then k * 7919 else (ns.getD (k % (ns.length : Nat)).toNat 0 + 1 + k) * (48271 + 7919 * k) % 2147483647
theorem mix_nonneg (ns : List Int) {k : Int} (h : 0 ≤ k) : 0 ≤ mix ns k := by
  unfold mix
  split
  · omega
  · exact Int.emod_nonneg _ (by decide)
theorem mix_lt (ns : List Int) {k : Int} (h : k < 200000) : mix ns k < 2147483647 := by
  unfold mix
  split
  · omega
  · exact Int.emod_lt_of_pos _ (by decide)
theorem mixed (ns : List Int) {k : Int} (h0 : 0 ≤ k) (h1 : k < 1000000) : m_law_mixed [.scr ns, .int k] = .ok (.int (mix ns k)) := by
  cases ns with
  | nil => rfl
  | cons a t =>
    have hl : (0 : Int) < ((a :: t).length : Nat) := by simp
    have e1 := dMod_i (i := k) hl
    have e2 := dIx_scr (ns := a :: t) (i := k % ((a :: t).length : Nat)) (Int.emod_nonneg _ (by omega)) (Int.emod_lt_of_pos _ hl)
    have e3 := dMul_r (i := (a :: t).getD (k % ((a :: t).length : Nat)).toNat 0 + 1 + k) (j := 48271 + 7919 * k) (by omega) (by omega)
    have e4 := dMul_r (i := 7919) (j := k) (by omega) (by omega)
    have e5 := fun i : Int => dMod_i (i := i) (j := 2147483647) (by decide)
    have e0 : dLen [.scr (a :: t)] = .ok (.int ((a :: t).length : Nat)) := rfl
    have e6 : dEq (.scr (a :: t)) (.lst []) = .ok (.bl false) := rfl
    unfold mix
    rw [if_neg (List.cons_ne_nil a t)]
    generalize hL : (a :: t).length = L at *
    unfold m_law_mixed b_law_mixed
    simp_arith! [e6, e0, e1, e2, e3, e4, e5]
def lay (c : Int) : Lay :=
  if c % 3 = 0 then
    let b := 2 + c / 3 % 24
    ⟨0, 1, if b - 1 + c / 72 % 4 < 24 then b - 1 + c / 72 % 4 else 24, b⟩
  else
    let u := 1 + c / 3 % 6
    let w := if c / 360 % 2 = 0 then 5 else 1 + c / 18 % 20
    let l := w - 1 + c / 720 % 6
    let m := if u * w + l + 1 < 25 then u * w + l + 1 else 25
    ⟨u, w, l, 2 + c / 4320 % (m - 1)⟩
theorem layout {c : Int} (h : 0 ≤ c) : m_law_layout [.int c] = .ok (lay c).d := by
  unfold m_law_layout b_law_layout lay Lay.d
  by_cases hc : c % 3 = 0
  · simp_arith! [hc]
  · have hu : 0 ≤ c / 3 % 6 ∧ c / 3 % 6 < 6 := ⟨Int.emod_nonneg _ (by decide), Int.emod_lt_of_pos _ (by decide)⟩
    have hw : 0 ≤ c / 18 % 20 ∧ c / 18 % 20 < 20 := ⟨Int.emod_nonneg _ (by decide), Int.emod_lt_of_pos _ (by decide)⟩
    have h2 : 0 ≤ c / 360 % 2 ∧ c / 360 % 2 < 2 := ⟨Int.emod_nonneg _ (by decide), Int.emod_lt_of_pos _ (by decide)⟩
    have h6 : 0 ≤ c / 720 % 6 ∧ c / 720 % 6 < 6 := ⟨Int.emod_nonneg _ (by decide), Int.emod_lt_of_pos _ (by decide)⟩
    have ix := fun a b : D => dIx_two (a := a) (b := b) h2.1 h2.2
    generalize hx : c / 3 % 6 = x at *
    generalize hy : c / 18 % 20 = y at *
    generalize hz : c / 720 % 6 = z at *
    generalize hq : c / 360 % 2 = q at *
    have k1 : ∀ w : Int, 1 ≤ w → w ≤ 20 → dMul (.int (1 + x)) (.int w) = .ok (.int ((1 + x) * w)) := fun w _ _ => dMul_r (by omega) (by omega)
    have key : ∀ w : Int, 1 ≤ w → w ≤ 20 → 0 < (if (1 + x) * w + (w - 1 + z) + 1 < 25 then (1 + x) * w + (w - 1 + z) + 1 else 25) - 1 := fun w a b => by
      have : 1 * w ≤ (1 + x) * w := Int.mul_le_mul_of_nonneg_right (by omega) (by omega)
      split <;> omega
    by_cases e : q = 0
    · have k2 := fun i => dMod_i (i := i) (j := (if (1 + x) * 5 + (4 + z) + 1 < 25 then (1 + x) * 5 + (4 + z) + 1 else 25) - 1) (key 5 (by decide) (by decide))
      simp_arith! [hc, hx, hy, hz, hq, ix, e, k1 5 (by decide) (by decide), k2]
    · have k2 := fun i => dMod_i (i := i) (key (1 + y) (by omega) (by omega))
      simp_arith! [hc, hx, hy, hz, hq, ix, e, k1 (1 + y) (by omega) (by omega), k2]
theorem lay_ok {c : Int} (h : 0 ≤ c) : (lay c).Ok := by
  unfold lay
  by_cases hc : c % 3 = 0
  · rw [if_pos hc]
    dsimp only
    refine ⟨?_, ?_, ?_, ?_, ?_, ?_, ?_, ?_, ?_, ?_, ?_⟩ <;> dsimp only <;> first | omega | (split <;> omega)
  · rw [if_neg hc]
    have hu : 0 ≤ c / 3 % 6 ∧ c / 3 % 6 < 6 := ⟨Int.emod_nonneg _ (by decide), Int.emod_lt_of_pos _ (by decide)⟩
    have hw : 0 ≤ c / 18 % 20 ∧ c / 18 % 20 < 20 := ⟨Int.emod_nonneg _ (by decide), Int.emod_lt_of_pos _ (by decide)⟩
    have h6 : 0 ≤ c / 720 % 6 ∧ c / 720 % 6 < 6 := ⟨Int.emod_nonneg _ (by decide), Int.emod_lt_of_pos _ (by decide)⟩
    have hd : 0 ≤ c / 4320 := by omega
    generalize c / 3 % 6 = x at *
    generalize c / 720 % 6 = z at *
    generalize c / 4320 = t at *
    have hw' : 1 ≤ (if c / 360 % 2 = 0 then (5 : Int) else 1 + c / 18 % 20) ∧ (if c / 360 % 2 = 0 then (5 : Int) else 1 + c / 18 % 20) ≤ 20 := by split <;> omega
    generalize (if c / 360 % 2 = 0 then (5 : Int) else 1 + c / 18 % 20) = v at *
    dsimp only
    have p1 : 1 * v ≤ (1 + x) * v := Int.mul_le_mul_of_nonneg_right (by omega) (by omega)
    generalize hpr : (1 + x) * v = pr at *
    have hm : 1 < (if pr + (v - 1 + z) + 1 < 25 then pr + (v - 1 + z) + 1 else 25) ∧ (if pr + (v - 1 + z) + 1 < 25 then pr + (v - 1 + z) + 1 else 25) ≤ 25 ∧ (if pr + (v - 1 + z) + 1 < 25 then pr + (v - 1 + z) + 1 else 25) ≤ pr + (v - 1 + z) + 1 := by split <;> omega
    generalize (if pr + (v - 1 + z) + 1 < 25 then pr + (v - 1 + z) + 1 else 25) = m at *
    have e1 := Int.emod_nonneg t (show m - 1 ≠ 0 by omega)
    have e2 := Int.emod_lt_of_pos t (show 0 < m - 1 by omega)
    generalize t % (m - 1) = r at *
    refine ⟨?_, ?_, ?_, ?_, ?_, ?_, ?_, ?_, ?_, ?_, ?_⟩ <;> dsimp only <;> omega
def fr (ns : List Int) (most : Int) : List Lay := (List.range (1 + mix ns 9 % most).toNat).map fun (k : Nat) => lay (mix ns (10 + k))
theorem frame (ns : List Int) {most : Int} (h0 : 0 < most) (h1 : most ≤ 1000) : mo_law_frame [.scr ns, .int most] = .ok ((fr ns most).map Lay.d) := by
  have hm := mixed ns (k := 9) (by decide) (by decide)
  have e1 := Int.emod_nonneg (mix ns 9) (show most ≠ 0 by omega)
  have e2 := Int.emod_lt_of_pos (mix ns 9) h0
  have hr := iRng1 (j := 1 + mix ns 9 % most) (by omega) (by omega)
  have el : oLc [2] (iCall iRange1 (aCons (eOp dAdd (eC (.int 1)) (eOp dMod (eFn 2 m_law_mixed (aCons (eV 0) (aCons (eC (.int 9)) (aNil)))) (eV 1))) (aNil))) (gNm 2) (bYes) (eFn 1 m_law_layout (aCons (eFn 2 m_law_mixed (aCons (eV 0) (aCons (eOp dAdd (eC (.int 10)) (eV 2)) (aNil)))) (aNil)))
      [some (.val (.scr ns)), some (.val (.int most)), none] = .ok ((fr ns most).map Lay.d) := by
    refine oLc_ok (ds := rngL 0 (1 + mix ns 9 % most).toNat) ?_ ?_ ?_
    · simp_arith! [hm, h0, hr]
    · unfold fr
      rw [List.map_map]
      refine lcF_rng 0 _ _ fun i hi => ⟨_, rfl, rfl, ?_⟩
      have hi' : (i : Int) < 1000000 - 10 := by omega
      have h2 := mixed ns (k := 10 + i) (by omega) (by omega)
      have h3 := layout (mix_nonneg ns (k := 10 + i) (by omega))
      simp_arith! [wipeE, h2, h3, Int.zero_add, Function.comp]
    · rw [rngL_len]
      show _ ≤ 16777216
      omega
  unfold mo_law_frame b_law_frame
  simp_arith! [el]
theorem fr_len (ns : List Int) {most : Int} (h0 : 0 < most) : 1 ≤ (fr ns most).length ∧ ((fr ns most).length : Int) ≤ most := by
  have e1 := Int.emod_nonneg (mix ns 9) (show most ≠ 0 by omega)
  have e2 := Int.emod_lt_of_pos (mix ns 9) h0
  unfold fr
  rw [List.length_map, List.length_range]
  omega
theorem fr_ok (ns : List Int) (most : Int) : ∀ x ∈ fr ns most, x.Ok := by
  intro x hx
  unfold fr at hx
  obtain ⟨k, _, rfl⟩ := List.mem_map.mp hx
  exact lay_ok (mix_nonneg ns (by omega))
def st1 (c : Int) (x : Lay) : Int × Int := (c % (x.u + 1), c / 7 % (x.l + 1))
def st (ns : List Int) (at_ : Int) (f : List Lay) : List (Int × Int) := f.zipIdx.map fun q => st1 (mix ns (at_ + (q.2 : Nat))) q.1
theorem st_len (ns : List Int) (at_ : Int) (f : List Lay) : (st ns at_ f).length = f.length := by
  unfold st
  rw [List.length_map, List.length_zipIdx]
theorem st_get (ns : List Int) (at_ : Int) (f : List Lay) {i : Nat} {x : Lay} (h : f[i]? = some x) : (st ns at_ f)[i]? = some (st1 (mix ns (at_ + (i : Nat))) x) := by
  unfold st
  rw [List.getElem?_map, List.getElem?_zipIdx, h]
  simp
theorem take_succ_get {α : Type} {l : List α} {i : Nat} {x : α} (h : l[i]? = some x) : l.take (i + 1) = l.take i ++ [x] := by
  rw [List.take_add_one, h]
  rfl
theorem standing (ns : List Int) {at_ : Int} (f : List Lay) (hf : ∀ x ∈ f, x.Ok) (h0 : 0 ≤ at_) (h1 : at_ < 900000) (hl : f.length ≤ 1000) : mo_law_standing [.scr ns, .int at_, .lst (f.map Lay.d)] = .ok ((st ns at_ f).map pairD) := by
  have lp := loopF_enum (h := gTp 2 (gsCons (gNm 4) (gsCons (gNm 5) (gsNil)))) (g := sSeq (sSet (gNm 6) (eFn 2 m_law_mixed (aCons (eV 0) (aCons (eOp dAdd (eV 1) (eV 4)) (aNil))))) <|
    sApp 3 (eTup (aCons (eOp dMod (eV 6) (eOp dAdd (eOp dIx (eV 5) (eC (.int 0))) (eC (.int 1)))) (aCons (eOp dMod (eOp dDiv (eV 6) (eC (.int 7))) (eOp dAdd (eOp dIx (eV 5) (eC (.int 2))) (eC (.int 1)))) (aNil)))))
    (Γ := [some (.val (.scr ns)), some (.val (.int at_)), some (.val (.lst (f.map Lay.d))), some (.own []), none, none, none]) f Lay.d
    (fun i Γ => ∃ a b c, Γ = [some (.val (.scr ns)), some (.val (.int at_)), some (.val (.lst (f.map Lay.d))), some (.own (((st ns at_ f).take i).map pairD)), a, b, c]) ⟨_, _, _, rfl⟩ (by
      rintro i x Γ hx ⟨a, b, c, rfl⟩
      have ok := hf x (List.mem_of_getElem? hx)
      have hi : i < f.length := (List.getElem?_eq_some_iff.mp hx).1
      have e1 := mixed ns (k := at_ + (i : Nat)) (by omega) (by omega)
      have e2 : ((st ns at_ f).take i).length < LIM := by
        rw [List.length_take]
        show _ < 16777216
        omega
      have pu : 0 < x.u + 1 := by have := ok.u0; omega
      have pl : 0 < x.l + 1 := by have := ok.l0; omega
      refine ⟨_, [some (.val (.scr ns)), some (.val (.int at_)), some (.val (.lst (f.map Lay.d))), some (.own (((st ns at_ f).take (i + 1)).map pairD)), some (.val (.int (i : Nat))), some (.val x.d), some (.val (.int (mix ns (at_ + (i : Nat)))))], rfl, .inl ?_, _, _, _, rfl⟩
      rw [take_succ_get (st_get ns at_ f hx), List.map_append]
      simp only [LIM] at e2
      simp_arith! [e1, Lay.d, pu, pl, List.length_map, e2, st1, pairD])
  obtain ⟨Γ', e, a, b, c, rfl⟩ := lp
  have e2 : (st ns at_ f).take f.length = st ns at_ f := by rw [← st_len ns at_ f, List.take_length]
  rw [e2] at e
  unfold mo_law_standing b_law_standing
  simp_arith! [iEnum_l, e]
end LA
namespace FA
open PySem DL L2 LA
def cnt (x : Lay) (p : Int × Int) : Int := p.1 * x.w + p.2
def hi (x : Lay) (n : Int) : Int := if n / x.w < x.u then n / x.w else x.u
def pl (x : Lay) (n : Int) : Int × Int := (hi x n, n - hi x n * x.w)
theorem count_of {x : Lay} (ok : x.Ok) (p : Int × Int) : m_count_of [x.d, pairD p] = .ok (.int (cnt x p)) := by
  have := ok.w1
  have := ok.w20
  have e := dMul_r (i := p.1) (j := x.w) (by omega) (by omega)
  unfold m_count_of b_count_of
  simp_arith! [Lay.d, pairD, e, cnt]
theorem pr_ne {p q : Int × Int} (h : p ≠ q) : dNe (pairD p) (pairD q) = .ok (.bl true) := dNe_ne rfl rfl (by
  intro e
  simp only [pairD, D.tup.injEq, D.int.injEq, List.cons.injEq, and_true] at e
  exact h (Prod.ext e.1 e.2))
theorem pr_same (p : Int × Int) : dNe (pairD p) (pairD p) = .ok (.bl false) := dNe_same rfl
end FA
namespace FB
open PySem DL L2 LA FA
def dft : Lay := ⟨0, 1, 1, 2⟩
def lat (f : List Lay) (i : Nat) : Lay := f.getD i dft
theorem lat_get {f : List Lay} {i : Nat} (h : i < f.length) : f[i]? = some (lat f i) := by
  unfold lat
  rw [List.getD, List.getElem?_eq_getElem h]
  rfl
theorem lat_of {f : List Lay} {i : Nat} {x : Lay} (h : f[i]? = some x) : lat f i = x := by
  unfold lat
  rw [List.getD, h]
  rfl
theorem lat_ok {f : List Lay} (hf : ∀ x ∈ f, x.Ok) (i : Nat) : (lat f i).Ok := by
  by_cases h : i < f.length
  · exact hf _ (List.mem_of_getElem? (lat_get h))
  · unfold lat
    rw [List.getD, List.getElem?_eq_none (by omega)]
    exact ⟨by decide, by decide, by decide, by decide, by decide, by decide, by decide, by decide, by decide, by decide, by decide⟩
def plc (f : List Lay) : Nat → Int
  | 0 => 1
  | i + 1 => plc f i * (lat f i).b
end FB
namespace LA
open PySem DL L2
instance : Inhabited Lay := ⟨⟨0, 1, 1, 2⟩⟩
section
variable {x : Lay} {p : Int × Int} {hs : Tgs} {Γ : DL.Env}
theorem Lay.ix0 : dIx x.d (.int 0) = .ok (.int x.u) := rfl
theorem Lay.ix1 : dIx x.d (.int 1) = .ok (.int x.w) := rfl
theorem Lay.ix2 : dIx x.d (.int 2) = .ok (.int x.l) := rfl
theorem Lay.ix3 : dIx x.d (.int 3) = .ok (.int x.b) := rfl
theorem Lay.tp : gTp 4 hs x.d Γ = hs [.int x.u, .int x.w, .int x.l, .int x.b] Γ := rfl
theorem pr_0 : dIx (pairD p) (.int 0) = .ok (.int p.1) := rfl
theorem pr_1 : dIx (pairD p) (.int 1) = .ok (.int p.2) := rfl
theorem pr_tp : gTp 2 hs (pairD p) Γ = hs [.int p.1, .int p.2] Γ := rfl
theorem pr_isi : dIsi [pairD p, .ty "tuple"] = .ok (.bl true) := rfl
theorem pr_len : dLen [pairD p] = .ok (.int 2) := rfl
theorem sh_pairs (s : List (Int × Int)) : (D.lst (s.map pairD)).sh 60 = true := by
  show (s.map pairD).all (D.sh 59) = true
  rw [List.all_map, List.all_eq_true]
  exact fun _ _ => rfl
theorem sh_lays (f : List Lay) : (D.lst (f.map Lay.d)).sh 60 = true := by
  show (f.map Lay.d).all (D.sh 59) = true
  rw [List.all_map, List.all_eq_true]
  exact fun _ _ => rfl
theorem prs_same (s : List (Int × Int)) : dEq (.lst (s.map pairD)) (.lst (s.map pairD)) = .ok (.bl true) := dEq_same (sh_pairs s)
theorem prs_nsame (s : List (Int × Int)) : dNe (.lst (s.map pairD)) (.lst (s.map pairD)) = .ok (.bl false) := dNe_same (sh_pairs s)
theorem lays_same (f : List Lay) : dEq (.lst (f.map Lay.d)) (.lst (f.map Lay.d)) = .ok (.bl true) := dEq_same (sh_lays f)
theorem lays_nsame (f : List Lay) : dNe (.lst (f.map Lay.d)) (.lst (f.map Lay.d)) = .ok (.bl false) := dNe_same (sh_lays f)
end
end LA
namespace FP
open PySem DL L2 LA FA
def prD (w : Nat) : D := if w = 0 then .obj "ByMoves" [] [] else if w = 1 then .obj "ByGrips" [] [] else .obj "ByBeads" [] []
def b01 (b : Bool) : Int := if b = true then 0 else 1
def rp (w : Nat) (p q : Int × Int) : Int :=
  if w = 0 then b01 (decide (p.1 = q.1)) + b01 (decide (p.2 = q.2))
  else if w = 1 then b01 (decide (p = q))
  else (if p.1 - q.1 < 0 then -(p.1 - q.1) else p.1 - q.1) + (if p.2 - q.2 < 0 then -(p.2 - q.2) else p.2 - q.2)
theorem pr_dne (p q : Int × Int) : dNe (pairD p) (pairD q) = .ok (.bl (!decide (p = q))) := by
  by_cases h : p = q
  · subst h
    rw [pr_same, decide_eq_true rfl]; rfl
  · rw [pr_ne h, decide_eq_false h]; rfl
theorem b01_not (b : Bool) : (if (!b) = true then (1 : Int) else 0) = b01 b := by cases b <;> rfl
theorem rod_price {w : Nat} (hw : w < 3) (p q : Int × Int) : dMeth tb_rod_price "rod_price" 2 (prD w) (.ok [pairD p, pairD q]) = .ok (.int (rp w p q)) := by
  rcases (by omega : w = 0 ∨ w = 1 ∨ w = 2) with rfl | rfl | rfl
  · show m_ByMoves_rod_price [prD 0, pairD p, pairD q] = _
    unfold m_ByMoves_rod_price b_ByMoves_rod_price
    simp_arith [pr_0, pr_1, pr_tp, pr_isi, b01_not, rp]
  · show m_ByGrips_rod_price [prD 1, pairD p, pairD q] = _
    unfold m_ByGrips_rod_price b_ByGrips_rod_price
    simp_arith [pr_0, pr_1, pr_tp, pr_isi, b01_not, rp, pr_dne]
  · show m_ByBeads_rod_price [prD 2, pairD p, pairD q] = _
    unfold m_ByBeads_rod_price b_ByBeads_rod_price
    simp_arith [pr_0, pr_1, pr_tp, pr_isi, rp]
theorem dSum_map (xs : List Int) : dSum [.lst (xs.map D.int)] = .ok (.int xs.sum) := by
  show (match intsOf (xs.map D.int) with | some ns => R.ok (D.int ns.sum) | none => .stuck) = _
  rw [intsOf_map]
def pp (w : Nat) (a b : List (Int × Int)) : Int := ((a.zip b).map fun q => rp w q.1 q.2).sum
theorem price_fn {w : Nat} (hw : w < 3) (a b : List (Int × Int)) (hl : a.length ≤ 1000) : m_Price_price [prD w, .lst (a.map pairD), .lst (b.map pairD)] = .ok (.int (pp w a b)) := by
  have lc := oLc_map (h := gTp 2 (gsCons (gNm 3) (gsCons (gNm 4) (gsNil)))) (fe := le_Price_price1) (vs := [3, 4]) (fi := iCall iZipD (aCons (eV 1) (aCons (eV 2) (aNil))))
    (Γ := [some (.val (prD w)), some (.val (.lst (a.map pairD))), some (.val (.lst (b.map pairD))), none, none]) (a.zip b) (fun q => .tup [pairD q.1, pairD q.2]) (fun q => .int (rp w q.1 q.2)) (by simp_arith [pr_0, pr_1, pr_tp, pr_isi]) (by rw [List.length_zip]; show _ ≤ 16777216; omega) (by
      rintro ⟨p, q⟩ _
      have e := rod_price hw p q
      simp_arith [pr_0, pr_1, pr_tp, pr_isi, le_Price_price1, e])
  have e1 : (a.zip b).map (fun q => D.int (rp w q.1 q.2)) = ((a.zip b).map fun q => rp w q.1 q.2).map D.int := by rw [List.map_map]; rfl
  rw [e1] at lc
  unfold m_Price_price b_Price_price
  simp_arith [pr_0, pr_1, pr_tp, pr_isi, lc, dSum_map, pp]
theorem price {w : Nat} (hw : w < 3) {tb : List (Str × (List D → R D))} (ht : lkC tb "ByMoves" = some m_Price_price ∧ lkC tb "ByGrips" = some m_Price_price ∧ lkC tb "ByBeads" = some m_Price_price) (a b : List (Int × Int)) (hl : a.length ≤ 1000) :
    dMeth tb "price" 2 (prD w) (.ok [.lst (a.map pairD), .lst (b.map pairD)]) = .ok (.int (pp w a b)) := by
  have e := price_fn hw a b hl
  rcases (by omega : w = 0 ∨ w = 1 ∨ w = 2) with rfl | rfl | rfl
  · show (match lkC tb "ByMoves" with | some mf => (R.ok [D.lst (a.map pairD), .lst (b.map pairD)]).bind fun ds => if ds.length = 2 then mf (prD 0 :: ds) else .stuck | none => .stuck) = _
    rw [ht.1]
    exact e
  · show (match lkC tb "ByGrips" with | some mf => (R.ok [D.lst (a.map pairD), .lst (b.map pairD)]).bind fun ds => if ds.length = 2 then mf (prD 1 :: ds) else .stuck | none => .stuck) = _
    rw [ht.2.1]
    exact e
  · show (match lkC tb "ByBeads" with | some mf => (R.ok [D.lst (a.map pairD), .lst (b.map pairD)]).bind fun ds => if ds.length = 2 then mf (prD 2 :: ds) else .stuck | none => .stuck) = _
    rw [ht.2.2]
    exact e
end FP
namespace FQ
open PySem DL L2 LA FA FB FP
def rods (x : Lay) : List (Int × Int) := (List.range ((x.u + 1) * (x.l + 1)).toNat).map fun (k : Nat) => ((k : Int) / (x.l + 1), (k : Int) % (x.l + 1))
theorem rod_standingsO {x : Lay} (ok : x.Ok) : mo_rod_standings [x.d] = .ok ((rods x).map pairD) := by
  have u0 := ok.u0
  have u6 := ok.u6
  have l0 := ok.l0
  have l24 := ok.l24
  have h0 : 0 ≤ (x.u + 1) * (x.l + 1) := Int.mul_nonneg (by omega) (by omega)
  have h1 : (x.u + 1) * (x.l + 1) ≤ 7 * 25 := Int.mul_le_mul (by omega) (by omega) (by omega) (by omega)
  have ir : iRange1 [.int ((x.u + 1) * (x.l + 1))] = .ok (rngL 0 ((x.u + 1) * (x.l + 1)).toNat) := by
    unfold iRange1
    have e : inR62 ((x.u + 1) * (x.l + 1)) = true := by
      unfold inR62
      simp only [Bool.and_eq_true, decide_eq_true_eq]
      omega
    show (if inR62 ((x.u + 1) * (x.l + 1)) = true then R.ok (rngL 0 ((x.u + 1) * (x.l + 1)).toNat) else R.stuck) = _
    rw [e, if_pos rfl]
  unfold mo_rod_standings b_rod_standings
  have lc := oLc_map (fi := iCall iRange1 (aCons (eOp dMul (eOp dAdd (eV 1) (eC (.int 1))) (eOp dAdd (eV 3) (eC (.int 1)))) (aNil))) (h := gNm 5) (fe := le_rod_standings1) (vs := [5]) (Γ := [some (.val (x.d)), some (.val (.int (x.u))), some (.val (.int (x.w))), some (.val (.int (x.l))), some (.val (.int (x.b))), none])
    (List.range ((x.u + 1) * (x.l + 1)).toNat) (fun (k : Nat) => D.int (k : Nat)) (fun (k : Nat) => pairD ((k : Int) / (x.l + 1), (k : Int) % (x.l + 1))) (by
      simp_arith [Lay.ix0, Lay.ix1, Lay.ix2, Lay.ix3, Lay.tp, pr_0, pr_1, pr_tp, pr_isi, pr_len, ir, rngL_0]) (by
      rw [List.length_range]
      show _ ≤ 16777216
      omega) (by
      intro k hk
      have d1 := dDiv_i (i := (k : Int)) (j := x.l + 1) (by omega) (by omega)
      have d2 := dMod_i (i := (k : Int)) (j := x.l + 1) (by omega)
      simp_arith [Lay.ix0, Lay.ix1, Lay.ix2, Lay.ix3, Lay.tp, pr_0, pr_1, pr_tp, pr_isi, pr_len, le_rod_standings1, d1, d2, pairD])
  simp_arith [Lay.ix0, Lay.ix1, Lay.ix2, Lay.ix3, Lay.tp, pr_0, pr_1, pr_tp, pr_isi, pr_len]
  rw [lc]
  unfold rods
  rw [List.map_map]
  rfl
theorem rod_standings {x : Lay} (ok : x.Ok) : m_rod_standings [x.d] = .ok (.lst ((rods x).map pairD)) := by
  show R.bind _ _ = _
  rw [rod_standingsO ok]
  rfl
theorem rods_len {x : Lay} (ok : x.Ok) : (rods x).length ≤ 175 := by
  have u0 := ok.u0
  have u6 := ok.u6
  have l0 := ok.l0
  have l24 := ok.l24
  have h1 : (x.u + 1) * (x.l + 1) ≤ 7 * 25 := Int.mul_le_mul (by omega) (by omega) (by omega) (by omega)
  unfold rods
  rw [List.length_map, List.length_range]
  omega
abbrev Ch := (Int × Int) × Int
def chD (c : Ch) : D := .tup [pairD c.1, .int c.2]
def ch1 (x : Lay) (k : Int) (p : Int × Int) : Option Ch := if 0 ≤ k - cnt x p ∧ (k - cnt x p) % x.b = 0 then some (p, (k - cnt x p) / x.b) else none
def chL (x : Lay) (k : Int) (l : List (Int × Int)) : List Ch := l.filterMap (ch1 x k)
def choices (x : Lay) (k : Int) : List Ch := chL x k (rods x)
theorem chL_len (x : Lay) (k : Int) (l : List (Int × Int)) : (chL x k l).length ≤ l.length := List.length_filterMap_le _ _
theorem choices_atO {x : Lay} (ok : x.Ok) (k : Int) : mo_choices_at [x.d, .int k] = .ok ((choices x k).map chD) := by
  have b2 := ok.b2
  have b25 := ok.b25
  have rs := rod_standings ok
  have rl := rods_len ok
  unfold mo_choices_at b_choices_at
  have l1 := for_map (h := h_choices_at1) (g := g_choices_at1) (rods x) pairD (fun i => [some (.val (x.d)), some (.val (.int (k))), some (.own ((chL x k ((rods x).take i)).map chD)), none, none]) (by
    intro i p hp
    have hi : i < (rods x).length := (List.getElem?_eq_some_iff.mp hp).1
    have ct := count_of ok p
    have et : (rods x).take (i + 1) = (rods x).take i ++ [p] := by rw [List.take_succ, hp]; rfl
    have ll := chL_len x k ((rods x).take i)
    rw [List.length_take] at ll
    have em := dMod_i (i := k - cnt x p) (j := x.b) (by omega)
    have ed := dDiv_i (i := k - cnt x p) (j := x.b) (by omega) (by omega)
    have ec : chL x k ((rods x).take (i + 1)) = chL x k ((rods x).take i) ++ (ch1 x k p).toList := by
      unfold chL
      rw [et, List.filterMap_append]
      congr 1
    rw [ec]
    unfold ch1
    by_cases c1 : 0 ≤ k - cnt x p
    · by_cases c2 : (k - cnt x p) % x.b = 0
      · rw [if_pos ⟨c1, c2⟩]
        simp_arith [Lay.ix0, Lay.ix1, Lay.ix2, Lay.ix3, Lay.tp, pr_0, pr_1, pr_tp, pr_isi, pr_len, h_choices_at1, g_choices_at1, ct, em, ed, c1, c2, Option.toList, List.map_append, chD]
      · rw [if_neg (fun q => c2 q.2)]
        simp_arith [Lay.ix0, Lay.ix1, Lay.ix2, Lay.ix3, Lay.tp, pr_0, pr_1, pr_tp, pr_isi, pr_len, h_choices_at1, g_choices_at1, ct, em, ed, c1, c2, Option.toList, List.append_nil]
    · rw [if_neg (fun q => c1 q.1)]
      simp_arith [Lay.ix0, Lay.ix1, Lay.ix2, Lay.ix3, Lay.tp, pr_0, pr_1, pr_tp, pr_isi, pr_len, h_choices_at1, g_choices_at1, ct, em, ed, c1, Option.toList, List.append_nil])
  have e0 : (chL x k ((rods x).take 0)).map chD = [] := by rw [List.take_zero]; rfl
  rw [e0, List.take_length] at l1
  simp_arith [Lay.ix0, Lay.ix1, Lay.ix2, Lay.ix3, Lay.tp, pr_0, pr_1, pr_tp, pr_isi, pr_len, rs, l1]
  rfl
theorem choices_at {x : Lay} (ok : x.Ok) (k : Int) : m_choices_at [x.d, .int k] = .ok (.lst ((choices x k).map chD)) := by
  show R.bind _ _ = _
  rw [choices_atO ok]
  rfl
def oD : Option Int → D
  | none => .non
  | some v => .int v
def oV (V : Int → Option Int) (k : Int) : D := oD (V k)
def tabD (ks : List Int) (g : Int → D) : D := .dk (ks.map Sum.inl) (ks.map g)
theorem lk_tab {ks : List Int} {g : Int → D} {j : Int} (h : j ∈ ks) : lkD (ks.map (Sum.inl (β := Str))) (ks.map g) (.inl j) = some (g j) := by
  induction ks with
  | nil => cases h
  | cons k ks ih =>
    show (if (Sum.inl k : Key) = Sum.inl j then some (g k) else lkD (ks.map Sum.inl) (ks.map g) (.inl j)) = _
    by_cases e : k = j
    · rw [if_pos (by rw [e]), e]
    · rw [if_neg (fun q => e (Sum.inl.inj q))]
      rcases List.mem_cons.mp h with q | q
      · exact absurd q.symm e
      · exact ih q
theorem get_tab {ks : List Int} {g : Int → D} {j : Int} (h : j ∈ ks) : dGet (tabD ks g) (.int j) = .ok (g j) := dGet_i (lk_tab h)
def minO : List Int → Option Int
  | [] => none
  | j :: js => some (minL j js)
theorem dsI_ints : ∀ js : List Int, dsI (js.map D.int) = some js
  | [] => rfl
  | j :: js => by
    show (dsI (js.map D.int)).map (j :: ·) = _
    rw [dsI_ints js]
    rfl
theorem dMinNon_i (js : List Int) : dMinNon (.lst (js.map D.int)) = .ok (oD (minO js)) := by
  show (match dsI (js.map D.int) with
    | some [] => R.ok D.non
    | some (j :: js) => R.ok (D.int (minL j js))
    | none => R.stuck) = _
  rw [dsI_ints]
  cases js <;> rfl
def cost (w : Nat) (now : Int × Int) (V : Int → Option Int) (c : Ch) : Option Int := (V c.2).map fun v => rp w now c.1 + v
def costs (w : Nat) (now : Int × Int) (V : Int → Option Int) (cs : List Ch) : List Int := cs.filterMap (cost w now V)
theorem least_of {w : Nat} (hw : w < 3) (now : Int × Int) (V : Int → Option Int) {cs : List Ch} {ks : List Int} (hl : cs.length ≤ 1000) (hk : ∀ c ∈ cs, c.2 ∈ ks) :
    m_least_of [.lst (cs.map chD), pairD now, tabD ks (oV V), prD w] = .ok (oD (minO (costs w now V cs))) := by
  unfold m_least_of b_least_of
  have l1 := for_map (h := h_least_of1) (g := g_least_of1) cs chD (fun i => [some (.val (.lst (cs.map chD))), some (.val (pairD now)), some (.val (tabD ks (oV V))), some (.val (prD w)), some (.own ((costs w now V (cs.take i)).map D.int)), none, none]) (by
    intro i c hc
    have hi : i < cs.length := (List.getElem?_eq_some_iff.mp hc).1
    have gt := get_tab (g := oV V) (hk c (List.mem_of_getElem? hc))
    have pr := rod_price hw now c.1
    have et : cs.take (i + 1) = cs.take i ++ [c] := by rw [List.take_succ, hc]; rfl
    have ll : (costs w now V (cs.take i)).length ≤ (cs.take i).length := List.length_filterMap_le _ _
    rw [List.length_take] at ll
    have ec : costs w now V (cs.take (i + 1)) = costs w now V (cs.take i) ++ (cost w now V c).toList := by
      unfold costs
      rw [et, List.filterMap_append]
      congr 1
    rw [ec]
    have cd : chD c = .tup [pairD c.1, .int c.2] := rfl
    unfold cost
    have eo : oV V c.2 = oD (V c.2) := rfl
    rw [eo] at gt
    cases ev : V c.2 with
    | none =>
      rw [ev] at gt
      have gt : dGet (tabD ks (oV V)) (.int c.2) = .ok .non := gt
      simp_arith [Lay.ix0, Lay.ix1, Lay.ix2, Lay.ix3, Lay.tp, pr_0, pr_1, pr_tp, pr_isi, pr_len, h_least_of1, g_least_of1, cd, gt, Option.map, Option.toList, List.append_nil]
    | some v =>
      rw [ev] at gt
      have gt : dGet (tabD ks (oV V)) (.int c.2) = .ok (.int v) := gt
      simp_arith [Lay.ix0, Lay.ix1, Lay.ix2, Lay.ix3, Lay.tp, pr_0, pr_1, pr_tp, pr_isi, pr_len, h_least_of1, g_least_of1, cd, gt, pr, Option.map, Option.toList, List.map_append])
  have e0 : (costs w now V (cs.take 0)).map D.int = [] := by rw [List.take_zero]; rfl
  rw [e0, List.take_length] at l1
  have mn := dMinNon_i (costs w now V cs)
  simp_arith [Lay.ix0, Lay.ix1, Lay.ix2, Lay.ix3, Lay.tp, pr_0, pr_1, pr_tp, pr_isi, pr_len, l1, mn]
def addK (B : List Int) (r : Int) : List Int := if r ∈ B then B else B ++ [r]
def addL (B : List Int) (rs : List Int) : List Int := rs.foldl addK B
theorem addK_len (B : List Int) (r : Int) : B.length ≤ (addK B r).length := by
  unfold addK
  split
  · exact Nat.le_refl _
  · rw [List.length_append]; omega
theorem addL_len (rs : List Int) : ∀ B : List Int, B.length ≤ (addL B rs).length := by
  induction rs with
  | nil => exact fun B => Nat.le_refl _
  | cons r rs ih => exact fun B => Nat.le_trans (addK_len B r) (ih (addK B r))
theorem addL_snoc (B rs : List Int) (r : Int) : addL B (rs ++ [r]) = addK (addL B rs) r := by
  unfold addL
  rw [List.foldl_append]
  rfl
theorem lk_none {α : Type} {ks : List Int} {g : Int → α} {j : Int} (h : j ∉ ks) : lkD (ks.map (Sum.inl (β := Str))) (ks.map g) (.inl j) = none := by
  induction ks with
  | nil => rfl
  | cons k ks ih =>
    show (if (Sum.inl k : Key) = Sum.inl j then some (g k) else lkD (ks.map Sum.inl) (ks.map g) (.inl j)) = _
    rw [if_neg (fun q => h (by rw [Sum.inl.inj q]; exact List.mem_cons_self)), ih fun q => h (List.mem_cons_of_mem _ q)]
theorem pu_tab {ks : List Int} {g : Int → D} {j : Int} : puV (ks.map (Sum.inl (β := Str))) (ks.map g) (.inl j) (g j) = ks.map g := by
  induction ks with
  | nil => rfl
  | cons k ks ih =>
    show (if (Sum.inl k : Key) = Sum.inl j then g j else g k) :: puV (ks.map Sum.inl) (ks.map g) (.inl j) (g j) = g k :: ks.map g
    rw [ih]
    by_cases e : k = j
    · rw [if_pos (by rw [e]), e]
    · rw [if_neg (fun q => e (Sum.inl.inj q))]
theorem put_tab (ks : List Int) (g : Int → D) (j : Int) : putD (ks.map (Sum.inl (β := Str))) (ks.map g) (.inl j) (g j) = ((addK ks j).map Sum.inl, (addK ks j).map g) := by
  unfold putD addK
  by_cases h : j ∈ ks
  · rw [lk_tab h, if_pos (show (some (g j)).isSome = true from rfl), if_pos h, pu_tab]
  · rw [lk_none h, if_neg (show ¬ ((none : Option D).isSome = true) from fun q => nomatch q), if_neg h, List.map_append, List.map_append]
    rfl
def gT (_ : Int) : D := .bl true
def chG (x : Lay) (k : Int) : D := .lst ((choices x k).map chD)
def gE (_ : Int) : D := .lst []
def ded (K : List Int) : List Int := addL [] K
def rests1 (x : Lay) (B : List Int) (k : Int) : List Int := addL B ((choices x k).map (·.2))
def rests (x : Lay) (K : List Int) : List Int := K.foldl (rests1 x) []
theorem rests_snoc (x : Lay) (K : List Int) (k : Int) : rests x (K ++ [k]) = rests1 x (rests x K) k := by
  unfold rests
  rw [List.foldl_append]
  rfl
theorem foldR_len (x : Lay) (K : List Int) : ∀ B : List Int, B.length ≤ (K.foldl (rests1 x) B).length := by
  induction K with
  | nil => exact fun B => Nat.le_refl _
  | cons k K ih => exact fun B => Nat.le_trans (addL_len _ B) (ih (rests1 x B k))
theorem rests_take (x : Lay) (K : List Int) (i : Nat) : (rests x (K.take i)).length ≤ (rests x K).length := by
  have := foldR_len x (K.drop i) (rests x (K.take i))
  unfold rests at this ⊢
  rw [← List.foldl_append, List.take_append_drop] at this
  exact this
theorem keys_in {x : Lay} {f0 n0 fo kk rw5 : Option Slot} (B : List Int) (k : Int) (hl : (rests1 x B k).length ≤ 10000) :
    loopF h_keys_of4 g_keys_of4 ((choices x k).map chD) [f0, n0, fo, kk, some (.val (x.d)), rw5, some (.dic (B.map Sum.inl) (B.map gT)), some (.val (.int (k))), none, none] =
      .nx [f0, n0, fo, kk, some (.val (x.d)), rw5, some (.dic ((rests1 x B k).map Sum.inl) ((rests1 x B k).map gT)), some (.val (.int (k))), none, none] := by
  have l1 := for_map (h := h_keys_of4) (g := g_keys_of4) (choices x k) chD (fun i => [f0, n0, fo, kk, some (.val (x.d)), rw5, some (.dic ((addL B (((choices x k).take i).map (·.2))).map Sum.inl) ((addL B (((choices x k).take i).map (·.2))).map gT)), some (.val (.int (k))), none, none]) (by
    intro i c hc
    have et : (choices x k).take (i + 1) = (choices x k).take i ++ [c] := by rw [List.take_succ, hc]; rfl
    have e1 : addL B (((choices x k).take (i + 1)).map (·.2)) = addK (addL B (((choices x k).take i).map (·.2))) c.2 := by
      rw [et, List.map_append]
      exact addL_snoc _ _ _
    have e2 : (addL B (((choices x k).take i).map (·.2))).length ≤ (rests1 x B k).length := by
      have := addL_len (((choices x k).drop i).map (·.2)) (addL B (((choices x k).take i).map (·.2)))
      unfold rests1
      unfold addL at this ⊢
      rw [← List.foldl_append, ← List.map_append, List.take_append_drop] at this
      exact this
    have pt := put_tab (addL B (((choices x k).take i).map (·.2))) gT c.2
    have cd : chD c = .tup [pairD c.1, .int c.2] := rfl
    rw [e1]
    have gt : gT c.2 = .bl true := rfl
    rw [gt] at pt
    simp_arith [Lay.ix0, Lay.ix1, Lay.ix2, Lay.ix3, Lay.tp, pr_0, pr_1, pr_tp, pr_isi, pr_len, h_keys_of4, g_keys_of4, cd, pt])
  have e0 : addL B (((choices x k).take 0).map (·.2)) = B := by rw [List.take_zero]; rfl
  rw [e0, List.take_length] at l1
  exact l1
theorem ded_snoc (K : List Int) (k : Int) : ded (K ++ [k]) = addK (ded K) k := addL_snoc [] K k
theorem mem_addK {B : List Int} {r j : Int} : j ∈ addK B r ↔ j ∈ B ∨ j = r := by
  unfold addK
  by_cases h : r ∈ B
  · rw [if_pos h]
    constructor
    · exact .inl
    · rintro (q | q)
      · exact q
      · rw [q]; exact h
  · rw [if_neg h]
    simp
theorem mem_addL {rs : List Int} {j : Int} : ∀ {B : List Int}, j ∈ addL B rs ↔ j ∈ B ∨ j ∈ rs := by
  induction rs with
  | nil => intro B; simp [addL]
  | cons r rs ih =>
    intro B
    show j ∈ addL (addK B r) rs ↔ _
    rw [ih, mem_addK, List.mem_cons]
    constructor
    · rintro ((q | q) | q)
      · exact .inl q
      · exact .inr (.inl q)
      · exact .inr (.inr q)
    · rintro (q | q | q)
      · exact .inl (.inl q)
      · exact .inl (.inr q)
      · exact .inr q
theorem mem_ded {K : List Int} {j : Int} : j ∈ ded K ↔ j ∈ K := by
  unfold ded
  rw [mem_addL]
  simp
theorem ded_len (K : List Int) : (ded K).length ≤ K.length := by
  have : ∀ (rs B : List Int), (addL B rs).length ≤ B.length + rs.length := by
    intro rs
    induction rs with
    | nil => exact fun B => Nat.le_refl _
    | cons r rs ih =>
      intro B
      have h := ih (addK B r)
      have : (addK B r).length ≤ B.length + 1 := by
        unfold addK
        split
        · omega
        · rw [List.length_append]; exact Nat.le_refl _
      show (addL (addK B r) rs).length ≤ _
      rw [List.length_cons]
      omega
  have := this K []
  unfold ded
  rw [List.length_nil] at this
  omega
theorem keys_mid {x : Lay} (ok : x.Ok) {f0 n0 fo : Option Slot} (K : List Int) (hK : K.length ≤ 10000) (hl : (rests x K).length ≤ 10000) :
    loopF h_keys_of3 g_keys_of3 (K.map D.int) [f0, n0, fo, some (.val (.lst (K.map D.int))), some (.val (x.d)), some (.dic [] []), some (.dic [] []), none, none, none] =
      .nx [f0, n0, fo, some (.val (.lst (K.map D.int))), some (.val (x.d)), some (.dic ((ded K).map Sum.inl) ((ded K).map (chG x))), some (.dic ((rests x K).map Sum.inl) ((rests x K).map gT)), none, none, none] := by
  have l1 := for_map (h := h_keys_of3) (g := g_keys_of3) K D.int (fun i => [f0, n0, fo, some (.val (.lst (K.map D.int))), some (.val (x.d)), some (.dic ((ded (K.take i)).map Sum.inl) ((ded (K.take i)).map (chG x))), some (.dic ((rests x (K.take i)).map Sum.inl) ((rests x (K.take i)).map gT)), none, none, none]) (by
    intro i k hk
    have et : K.take (i + 1) = K.take i ++ [k] := by rw [List.take_succ, hk]; rfl
    have ch := choices_at ok k
    have pt := put_tab (ded (K.take i)) (chG x) k
    rw [show chG x k = .lst ((choices x k).map chD) from rfl] at pt
    have dl := ded_len (K.take i)
    rw [List.length_take] at dl
    have lt := rests_take x K (i + 1)
    rw [et, rests_snoc] at lt
    have kin := fun rw5 => keys_in (f0 := f0) (n0 := n0) (fo := fo) (kk := some (.val (.lst (K.map D.int)))) (rw5 := rw5) (rests x (K.take i)) k (by omega : (rests1 x (rests x (K.take i)) k).length ≤ 10000)
    have lk : lkD ((addK (ded (K.take i)) k).map (Sum.inl (β := Str))) ((addK (ded (K.take i)) k).map (chG x)) (.inl k) = some (.lst ((choices x k).map chD)) := lk_tab (g := chG x) (mem_addK.mpr (.inr rfl))
    rw [et, ded_snoc, rests_snoc]
    simp_arith [Lay.ix0, Lay.ix1, Lay.ix2, Lay.ix3, Lay.tp, pr_0, pr_1, pr_tp, pr_isi, pr_len, h_keys_of3, g_keys_of3, ch, pt, lk, kin])
  have e0 : ded (K.take 0) = [] := by rw [List.take_zero]; rfl
  have e1 : rests x (K.take 0) = [] := by rw [List.take_zero]; rfl
  rw [e0, e1, List.take_length] at l1
  exact l1
theorem ksI_map : ∀ js : List Int, ksI (js.map (Sum.inl (β := Str))) = some js
  | [] => rfl
  | j :: js => by
    show (ksI (js.map Sum.inl)).map (j :: ·) = _
    rw [ksI_map js]
    rfl
theorem oSorted_i {js : List Int} {ds : List D} (h : js.length ≤ 10000) : oSorted [.dk (js.map Sum.inl) ds] = .ok ((srtI js).map D.int) := by
  show (match ksI (js.map Sum.inl) with
    | some js => if js.length ≤ LIM then R.ok ((srtI js).map D.int) else R.stuck
    | none => R.stuck) = _
  rw [ksI_map]
  exact if_pos (show js.length ≤ 16777216 by omega)
theorem srtI_len (js : List Int) : (srtI js).length = js.length := (srtI_perm js).length_eq
def kAt (f : List Lay) (n : Int) : Nat → List Int
  | 0 => [n]
  | i + 1 => srtI (rests (lat f i) (kAt f n i))
def rowK (f : List Lay) (n : Int) (i : Nat) : D := tabD (ded (kAt f n i)) (chG (lat f i))
theorem keys_ofO {f : List Lay} (hf : ∀ x ∈ f, x.Ok) (hl : f.length ≤ 1000) {n : Int} (hb : ∀ i ≤ f.length, (kAt f n i).length ≤ 10000) :
    mo_keys_of [.lst (f.map Lay.d), .int n] = .ok (((List.range f.length).map (rowK f n)) ++ [tabD (ded (kAt f n f.length)) gE]) := by
  unfold mo_keys_of b_keys_of
  have l2 := for_map (h := h_keys_of2) (g := g_keys_of2) f Lay.d (fun i => [some (.val (.lst (f.map Lay.d))), some (.val (.int (n))), some (.own ((List.range i).map (rowK f n))), some (.val (.lst ((kAt f n i).map D.int))), none, none, none, none, none, none]) (by
    intro i x hx
    have ok := hf x (List.mem_of_getElem? hx)
    have hi : i < f.length := (List.getElem?_eq_some_iff.mp hx).1
    have ex : lat f i = x := lat_of hx
    have b1 := hb i (by omega)
    have b2 : (rests x (kAt f n i)).length ≤ 10000 := by
      have := hb (i + 1) (by omega)
      show _ ≤ _
      rw [← srtI_len, ← ex]
      exact this
    have km := fun f0 n0 fo => keys_mid ok (f0 := f0) (n0 := n0) (fo := fo) (kAt f n i) b1 b2
    have os := oSorted_i (ds := (rests x (kAt f n i)).map gT) b2
    have ek : kAt f n (i + 1) = srtI (rests x (kAt f n i)) := by
      show srtI (rests (lat f i) _) = _
      rw [ex]
    have er : rowK f n i = .dk ((ded (kAt f n i)).map Sum.inl) ((ded (kAt f n i)).map (chG x)) := by
      unfold rowK tabD
      rw [ex]
    rw [ek, List.range_succ, List.map_append]
    simp_arith [Lay.ix0, Lay.ix1, Lay.ix2, Lay.ix3, Lay.tp, pr_0, pr_1, pr_tp, pr_isi, pr_len, h_keys_of2, g_keys_of2, km, os, er, List.length_range, Env.frz, Slot.frz])
  have l1 := for_map (h := h_keys_of1) (g := g_keys_of1) (kAt f n f.length) D.int (fun i => [some (.val (.lst (f.map Lay.d))), some (.val (.int (n))), some (.own ((List.range f.length).map (rowK f n))), some (.val (.lst ((kAt f n f.length).map D.int))), none, some (.dic ((ded ((kAt f n f.length).take i)).map Sum.inl) ((ded ((kAt f n f.length).take i)).map gE)), none, none, none, none]) (by
    intro i k hk
    have et : (kAt f n f.length).take (i + 1) = (kAt f n f.length).take i ++ [k] := by rw [List.take_succ, hk]; rfl
    have pt := put_tab (ded ((kAt f n f.length).take i)) gE k
    rw [show gE k = .lst [] from rfl] at pt
    have dl := ded_len ((kAt f n f.length).take i)
    rw [List.length_take] at dl
    have := hb f.length (Nat.le_refl _)
    rw [et, ded_snoc]
    simp_arith [Lay.ix0, Lay.ix1, Lay.ix2, Lay.ix3, Lay.tp, pr_0, pr_1, pr_tp, pr_isi, pr_len, h_keys_of1, g_keys_of1, pt])
  have e0 : ded ((kAt f n f.length).take 0) = [] := by rw [List.take_zero]; rfl
  rw [e0, List.take_length] at l1
  simp_arith [Lay.ix0, Lay.ix1, Lay.ix2, Lay.ix3, Lay.tp, pr_0, pr_1, pr_tp, pr_isi, pr_len, List.range_zero] at l2
  simp_arith [Lay.ix0, Lay.ix1, Lay.ix2, Lay.ix3, Lay.tp, pr_0, pr_1, pr_tp, pr_isi, pr_len] at l1
  have ad := oAdd_l (xs := (List.range f.length).map (rowK f n)) (ys := [tabD (ded (kAt f n f.length)) gE]) (by rw [List.length_map, List.length_range]; show _ + 1 ≤ _; omega)
  unfold tabD at ad ⊢
  have k0 : [D.int n] = (kAt f n 0).map D.int := rfl
  simp_arith [Lay.ix0, Lay.ix1, Lay.ix2, Lay.ix3, Lay.tp, pr_0, pr_1, pr_tp, pr_isi, pr_len]
  rw [k0, l2]
  simp_arith [Lay.ix0, Lay.ix1, Lay.ix2, Lay.ix3, Lay.tp, pr_0, pr_1, pr_tp, pr_isi, pr_len, dNew, l1, ad, Env.frz, Slot.frz]
theorem keys_of {f : List Lay} (hf : ∀ x ∈ f, x.Ok) (hl : f.length ≤ 1000) {n : Int} (hb : ∀ i ≤ f.length, (kAt f n i).length ≤ 10000) :
    m_keys_of [.lst (f.map Lay.d), .int n] = .ok (.lst (((List.range f.length).map (rowK f n)) ++ [tabD (ded (kAt f n f.length)) gE])) := by
  show R.bind _ _ = _
  rw [keys_ofO hf hl hb]
  rfl
section
variable {α : Type}
theorem lk_isSome : ∀ {ks : List Key} {ds : List α} {j : Key}, ks.length = ds.length → ((lkD ks ds j).isSome = true ↔ j ∈ ks)
  | [], _, j, _ => by simp [lkD]
  | k :: ks, [], j, h => by simp at h
  | k :: ks, d :: ds, j, h => by
    show (if k = j then some d else lkD ks ds j).isSome = true ↔ _
    by_cases e : k = j
    · rw [if_pos e, e]; simp
    · rw [if_neg e, lk_isSome (by simpa using h)]
      constructor
      · exact fun q => List.mem_cons_of_mem _ q
      · intro q
        rcases List.mem_cons.mp q with q | q
        · exact absurd q.symm e
        · exact q
theorem pu_pu : ∀ (ks : List Key) (ds : List α) (j : Key) (a b : α), puV ks (puV ks ds j a) j b = puV ks ds j b
  | [], _, _, _, _ => rfl
  | k :: ks, [], j, a, b => rfl
  | k :: ks, d :: ds, j, a, b => by
    show (if k = j then b else (if k = j then a else d)) :: puV ks (puV ks ds j a) j b = (if k = j then b else d) :: puV ks ds j b
    rw [pu_pu ks ds j a b]
    by_cases e : k = j
    · rw [if_pos e, if_pos e]
    · rw [if_neg e, if_neg e, if_neg e]
theorem pu_snoc : ∀ (ks : List Key) (ds : List α) (j : Key) (a b : α), ks.length = ds.length → j ∉ ks → puV (ks ++ [j]) (ds ++ [a]) j b = ds ++ [b]
  | [], [], j, a, b, _, _ => by
    show [if j = j then b else a] = [b]
    rw [if_pos rfl]
  | [], _ :: _, _, _, _, h, _ => by simp at h
  | _ :: _, [], _, _, _, h, _ => by simp at h
  | k :: ks, d :: ds, j, a, b, h, n => by
    show (if k = j then b else d) :: puV (ks ++ [j]) (ds ++ [a]) j b = _
    rw [if_neg (fun e => n (by rw [e]; exact List.mem_cons_self)), pu_snoc ks ds j a b (by simpa using h) (fun q => n (List.mem_cons_of_mem _ q))]
    rfl
theorem put_put (ks : List Key) (ds : List α) (j : Key) (a b : α) (h : ks.length = ds.length) : putD (putD ks ds j a).1 (putD ks ds j a).2 j b = putD ks ds j b := by
  have hl := putD_len ks ds j a h
  have hs := lk_isSome (j := j) hl
  by_cases m : j ∈ ks
  · have h1 : (lkD ks ds j).isSome = true := (lk_isSome h).mpr m
    have e : putD ks ds j a = (ks, puV ks ds j a) := by unfold putD; rw [if_pos h1]
    rw [e] at hs ⊢
    show putD ks (puV ks ds j a) j b = _
    unfold putD
    rw [if_pos (hs.mpr m), if_pos h1, pu_pu]
  · have h1 : ¬ (lkD ks ds j).isSome = true := fun q => m ((lk_isSome h).mp q)
    have e : putD ks ds j a = (ks ++ [j], ds ++ [a]) := by unfold putD; rw [if_neg h1]
    rw [e] at hs ⊢
    show putD (ks ++ [j]) (ds ++ [a]) j b = _
    unfold putD
    rw [if_pos (hs.mpr (by simp)), if_neg h1, pu_snoc ks ds j a b h m]
end
theorem atDk_e {i : Nat} {fx : DL.Env → R D} {Γ : DL.Env} {ds : List D} {k : Int} {ks : List Key} {vs : List D} (h1 : Env.at_ Γ i = some (.val (.lst ds))) (h2 : fx Γ = .ok (.int k)) (h3 : atI ds k = some (.dk ks vs)) : atDk i fx Γ = some (ks, vs) := by
  unfold atDk
  rw [h1, h2]
  show (match atI ds k with
    | some (.dk ks vs) => some (ks, vs)
    | _ => none) = _
  rw [h3]
theorem sForDk_e {acc : DL.Env → Option (List Key × List D)} {f : List Key → List D → List D} {h : Tg} {g : DL.Env → Out} {Γ : DL.Env} {ks : List Key} {vs : List D} (e : acc Γ = some (ks, vs)) : sForDk acc f h g Γ = (loopF h g (f ks vs) Γ).calmL := by
  unfold sForDk
  rw [e]
theorem keysD_tab (ks : List Int) (g : Int → D) : keysD (ks.map Sum.inl) (ks.map g) = ks.map D.int := by
  unfold keysD
  rw [List.map_map]
  rfl
theorem itemsD_tab (g : Int → D) : ∀ ks : List Int, itemsD (ks.map Sum.inl) (ks.map g) = ks.map fun k => .tup [.int k, g k]
  | [] => rfl
  | k :: ks => by
    show D.tup [.int k, g k] :: itemsD (ks.map Sum.inl) (ks.map g) = _
    rw [itemsD_tab g ks]
    rfl
def vR (f : List Lay) (s : List (Int × Int)) (w : Nat) : Nat → Int → Option Int
  | 0 => fun k => if k = 0 then some 0 else none
  | j + 1 => fun k => minO (costs w (s.getD (f.length - 1 - j) (0, 0)) (vR f s w j) (choices (lat f (f.length - 1 - j)) k))
def rowT (f : List Lay) (s : List (Int × Int)) (w : Nat) (n : Int) (i : Nat) : D := tabD (ded (ded (kAt f n i))) (oV (vR f s w (f.length - i)))
theorem last_row {Γ0 Γ1 Γ2 Γ3 Γ4 : Option Slot} (f : List Lay) (s : List (Int × Int)) (w : Nat) (K : List Int) (hK : K.length ≤ 10000) :
    loopF h_table_of3 g_table_of3 (K.map D.int) [Γ0, Γ1, Γ2, Γ3, Γ4, some (.dic [] []), none, none, none, none, none] =
      .nx [Γ0, Γ1, Γ2, Γ3, Γ4, some (.dic ((ded K).map Sum.inl) ((ded K).map (oV (vR f s w 0)))), none, none, none, none, none] := by
  have l1 := for_map (h := h_table_of3) (g := g_table_of3) K D.int (fun i => [Γ0, Γ1, Γ2, Γ3, Γ4, some (.dic ((ded (K.take i)).map Sum.inl) ((ded (K.take i)).map (oV (vR f s w 0)))), none, none, none, none, none]) (by
    intro i k hk
    have et : K.take (i + 1) = K.take i ++ [k] := by rw [List.take_succ, hk]; rfl
    have pt := put_tab (ded (K.take i)) (oV (vR f s w 0)) k
    have dl := ded_len (K.take i)
    rw [List.length_take] at dl
    rw [et, ded_snoc]
    by_cases c : k = 0
    · subst c
      have p2 := put_put ((ded (K.take i)).map (Sum.inl (β := Str))) ((ded (K.take i)).map (oV (vR f s w 0))) (.inl 0) .non (.int 0) (by rw [List.length_map, List.length_map])
      rw [show oV (vR f s w 0) 0 = .int 0 from rfl] at pt
      rw [pt] at p2
      have sz := putD_size (ks := (ded (K.take i)).map (Sum.inl (β := Str))) (ds := (ded (K.take i)).map (oV (vR f s w 0))) (j := .inl 0) (x := D.non)
      rw [List.length_map] at sz
      simp_arith [Lay.ix0, Lay.ix1, Lay.ix2, Lay.ix3, Lay.tp, pr_0, pr_1, pr_tp, pr_isi, pr_len, h_table_of3, g_table_of3, p2]
    · have ev : oV (vR f s w 0) k = .non := by
        show oD (if k = 0 then some 0 else none) = _
        rw [if_neg c]
        rfl
      rw [ev] at pt
      simp_arith [Lay.ix0, Lay.ix1, Lay.ix2, Lay.ix3, Lay.tp, pr_0, pr_1, pr_tp, pr_isi, pr_len, h_table_of3, g_table_of3, pt, c])
  have e0 : ded (K.take 0) = [] := by rw [List.take_zero]; rfl
  rw [e0, List.take_length] at l1
  exact l1
theorem mem_rests1 {x : Lay} {B : List Int} {k j : Int} : j ∈ rests1 x B k ↔ j ∈ B ∨ ∃ c ∈ choices x k, c.2 = j := by
  unfold rests1
  rw [mem_addL, List.mem_map]
theorem mem_rests {x : Lay} {j : Int} : ∀ {K B : List Int}, j ∈ K.foldl (rests1 x) B ↔ j ∈ B ∨ ∃ k ∈ K, ∃ c ∈ choices x k, c.2 = j
  | [], B => by simp
  | k :: K, B => by
    show j ∈ K.foldl (rests1 x) (rests1 x B k) ↔ _
    rw [mem_rests, mem_rests1]
    constructor
    · rintro ((q | q) | ⟨k', h1, q⟩)
      · exact .inl q
      · exact .inr ⟨k, List.mem_cons_self, q⟩
      · exact .inr ⟨k', List.mem_cons_of_mem _ h1, q⟩
    · rintro (q | ⟨k', h1, q⟩)
      · exact .inl (.inl q)
      · rcases List.mem_cons.mp h1 with rfl | h1
        · exact .inl (.inr q)
        · exact .inr ⟨k', h1, q⟩
theorem rest_next {f : List Lay} {n : Int} {i : Nat} {k : Int} {c : Ch} (hk : k ∈ kAt f n i) (hc : c ∈ choices (lat f i) k) : c.2 ∈ kAt f n (i + 1) := by
  show c.2 ∈ srtI (rests (lat f i) (kAt f n i))
  rw [(srtI_perm _).mem_iff]
  exact mem_rests.mpr (.inr ⟨k, hk, c, hc, rfl⟩)
theorem choices_len {x : Lay} (ok : x.Ok) (k : Int) : (choices x k).length ≤ 175 := Nat.le_trans (chL_len x k _) (rods_len ok)
theorem row_in {f0 n0 kk Γ5 : Option Slot} {x : Lay} (ok : x.Ok) {w : Nat} (hw : w < 3) {s : List (Int × Int)} {i : Nat} (hi : i < s.length) {V V' : Int → Option Int} {K ks : List Int} (rest : List D) (hK : K.length ≤ 10000)
    (hks : ∀ k ∈ K, ∀ c ∈ choices x k, c.2 ∈ ks) (hV : ∀ k, V' k = minO (costs w (s.getD i (0, 0)) V (choices x k))) :
    loopF h_table_of2 g_table_of2 (K.map fun k => .tup [.int k, chG x k]) [f0, some (.val (.lst (s.map pairD))), n0, some (.val (prD w)), kk, Γ5, none, some (.val (.lst (tabD ks (oV V) :: rest))), some (.val (.int ((i : Nat)))), some (.dic [] []), none] =
      .nx [f0, some (.val (.lst (s.map pairD))), n0, some (.val (prD w)), kk, Γ5, none, some (.val (.lst (tabD ks (oV V) :: rest))), some (.val (.int ((i : Nat)))), some (.dic ((ded K).map Sum.inl) ((ded K).map (oV V'))), none] := by
  have l1 := for_map (h := h_table_of2) (g := g_table_of2) K (fun k => .tup [.int k, chG x k]) (fun j => [f0, some (.val (.lst (s.map pairD))), n0, some (.val (prD w)), kk, Γ5, none, some (.val (.lst (tabD ks (oV V) :: rest))), some (.val (.int ((i : Nat)))), some (.dic ((ded (K.take j)).map Sum.inl) ((ded (K.take j)).map (oV V'))), none]) (by
    intro j k hk
    have et : K.take (j + 1) = K.take j ++ [k] := by rw [List.take_succ, hk]; rfl
    have pt := put_tab (ded (K.take j)) (oV V') k
    have dl := ded_len (K.take j)
    rw [List.length_take] at dl
    have ix : dIx (.lst (s.map pairD)) (.int (i : Nat)) = .ok (pairD (s.getD i (0, 0))) := dIx_n (by
      rw [List.getElem?_map, List.getElem?_eq_getElem hi, List.getD_eq_getElem?_getD, List.getElem?_eq_getElem hi]
      rfl)
    have lo := least_of hw (s.getD i (0, 0)) V (cs := choices x k) (ks := ks) (by have := choices_len ok k; omega) (hks k (List.mem_of_getElem? hk))
    rw [show oV V' k = oD (minO (costs w (s.getD i (0, 0)) V (choices x k))) by show oD (V' k) = _; rw [hV]] at pt
    rw [et, ded_snoc]
    unfold chG
    simp_arith [Lay.ix0, Lay.ix1, Lay.ix2, Lay.ix3, Lay.tp, pr_0, pr_1, pr_tp, pr_isi, pr_len, h_table_of2, g_table_of2, ix, lo, pt])
  have e0 : ded (K.take 0) = [] := by rw [List.take_zero]; rfl
  rw [e0, List.take_length] at l1
  exact l1
def tabs (f : List Lay) (s : List (Int × Int)) (w : Nat) (n : Int) (k : Nat) : List D := (List.range (k + 1)).map fun t => rowT f s w n (f.length - k + t)
theorem tabs_succ (f : List Lay) (s : List (Int × Int)) (w : Nat) (n : Int) {k : Nat} (h : k < f.length) : tabs f s w n (k + 1) = rowT f s w n (f.length - 1 - k) :: tabs f s w n k := by
  unfold tabs
  rw [List.range_succ_eq_map, List.map_cons, List.map_map]
  congr 1
  · congr 1
    omega
  · refine List.map_congr_left fun t _ => ?_
    show rowT f s w n (f.length - (k + 1) + (t + 1)) = _
    congr 1
    omega
theorem tabs_head (f : List Lay) (s : List (Int × Int)) (w : Nat) (n : Int) {k : Nat} (h : k ≤ f.length) : ∃ r, tabs f s w n k = tabD (ded (ded (kAt f n (f.length - k)))) (oV (vR f s w k)) :: r := by
  refine ⟨(List.range k).map fun t => rowT f s w n (f.length - k + (t + 1)), ?_⟩
  unfold tabs
  rw [List.range_succ_eq_map, List.map_cons, List.map_map]
  congr 1
  unfold rowT
  rw [Nat.add_zero, show f.length - (f.length - k) = k by omega]
theorem table_of {f : List Lay} (hf : ∀ x ∈ f, x.Ok) (hl : f.length ≤ 1000) {s : List (Int × Int)} (hs : s.length = f.length) {w : Nat} (hw : w < 3) {n : Int} (hb : ∀ i ≤ f.length, (kAt f n i).length ≤ 10000) :
    m_table_of [.lst (f.map Lay.d), .lst (s.map pairD), .int n, prD w] = .ok (.lst (tabs f s w n f.length)) := by
  have ko := keys_of hf hl hb
  unfold m_table_of b_table_of
  generalize hR : (List.range f.length).map (rowK f n) ++ [tabD (ded (kAt f n f.length)) gE] = R at ko
  have hRl : atI R (-1) = some (tabD (ded (kAt f n f.length)) gE) := atI_l (by rw [← hR]; simp)
  have hRi : ∀ i, i < f.length → atI R (i : Nat) = some (rowK f n i) := fun i hi => atI_nat' (by
    rw [← hR, List.getElem?_append_left (by simpa using hi), List.getElem?_map, List.getElem?_range hi]
    rfl)
  have k1 := sForDk_e (f := keysD) (h := h_table_of3) (g := g_table_of3) (atDk_e (i := 4) (fx := eUn dNeg (eC (.int 1))) (Γ := [some (.val (.lst (f.map Lay.d))), some (.val (.lst (s.map pairD))), some (.val (.int (n))), some (.val (prD w)), some (.val (.lst R)), some (.dic [] []), none, none, none, none, none]) rfl rfl hRl)
  rw [keysD_tab, last_row f s w (ded (kAt f n f.length)) (by have := ded_len (kAt f n f.length); have := hb f.length (Nat.le_refl _); omega)] at k1
  have l1 := fun Γ5 => for_dn (h := h_table_of1) (g := g_table_of1) ((f.length : Nat) - 1) f.length (fun k => [some (.val (.lst (f.map Lay.d))), some (.val (.lst (s.map pairD))), some (.val (.int (n))), some (.val (prD w)), some (.val (.lst R)), Γ5, none, some (.val (.lst (tabs f s w n k))), none, none, none]) (by
    intro k hk
    have e : ((f.length : Nat) : Int) - 1 + (k : Nat) * (-1) = ((f.length - 1 - k : Nat) : Int) := by omega
    rw [e]
    have hi : f.length - 1 - k < f.length := by omega
    have ok := lat_ok hf (f.length - 1 - k)
    obtain ⟨r, er⟩ := tabs_head f s w n (k := k) (by omega)
    have k2 := fun Γ6 Γ7 Γ9 Γ10 => sForDk_e (f := itemsD) (h := h_table_of2) (g := g_table_of2) (atDk_e (i := 4) (fx := eV 8) (Γ := [some (.val (.lst (f.map Lay.d))), some (.val (.lst (s.map pairD))), some (.val (.int (n))), some (.val (prD w)), some (.val (.lst R)), Γ5, Γ6, Γ7, some (.val (.int ((f.length - 1 - k : Nat)))), Γ9, Γ10]) rfl rfl (hRi _ hi))
    have ri := row_in (f0 := some (.val (.lst (f.map Lay.d)))) (n0 := some (.val (.int (n)))) (kk := some (.val (.lst R))) (Γ5 := Γ5) ok hw (s := s) (i := f.length - 1 - k) (by omega) (V := vR f s w k) (V' := vR f s w (k + 1)) (K := ded (kAt f n (f.length - 1 - k))) (ks := ded (ded (kAt f n (f.length - k)))) r
      (by have := ded_len (kAt f n (f.length - 1 - k)); have := hb (f.length - 1 - k) (by omega); omega)
      (fun q hq c hc => by
        rw [mem_ded] at hq
        rw [mem_ded, mem_ded]
        have := rest_next hq hc
        rw [show f.length - 1 - k + 1 = f.length - k by omega] at this
        exact this) (fun q => rfl)
    rw [← er, ← itemsD_tab] at ri
    have et : rowT f s w n (f.length - 1 - k) = .dk ((ded (ded (kAt f n (f.length - 1 - k)))).map Sum.inl) ((ded (ded (kAt f n (f.length - 1 - k)))).map (oV (vR f s w (k + 1)))) := by
      unfold rowT tabD
      rw [show f.length - (f.length - 1 - k) = k + 1 by omega]
    have ts := tabs_succ f s w n hk
    rw [et] at ts
    have al : (tabs f s w n k).length = k + 1 := by unfold tabs; rw [List.length_map, List.length_range]
    have ad := dAdd_l (xs := [.dk ((ded (ded (kAt f n (f.length - 1 - k)))).map Sum.inl) ((ded (ded (kAt f n (f.length - 1 - k)))).map (oV (vR f s w (k + 1))))]) (ys := tabs f s w n k) (by rw [al]; show 1 + _ ≤ _; omega)
    rw [ts]
    simp_arith [Lay.ix0, Lay.ix1, Lay.ix2, Lay.ix3, Lay.tp, pr_0, pr_1, pr_tp, pr_isi, pr_len, h_table_of1, g_table_of1, dNew, k2, ri, Out.calmL, ad, Env.frz, Slot.frz, List.singleton_append])
  have t0 : tabs f s w n 0 = [.dk ((ded (ded (kAt f n f.length))).map Sum.inl) ((ded (ded (kAt f n f.length))).map (oV (vR f s w 0)))] := by
    unfold tabs
    show [rowT f s w n (f.length - 0 + 0)] = _
    unfold rowT tabD
    rw [Nat.sub_zero, Nat.add_zero, Nat.sub_self]
  have ir : iRange3 [.int ((f.length : Nat) - 1), .int (-1), .int (-1)] = .ok (rngDn ((f.length : Nat) - 1) f.length) := by
    unfold iRange3
    have h1 : inR62 ((f.length : Nat) - 1 : Int) = true := by
      unfold inR62
      simp only [Bool.and_eq_true, decide_eq_true_eq]
      omega
    show (if (inR62 ((f.length : Nat) - 1 : Int) && inR62 (-1) && decide ((-1 : Int) = -1)) = true then DL.R.ok (rngDn ((f.length : Nat) - 1) ((f.length : Nat) - 1 - -1 : Int).toNat) else DL.R.stuck) = _
    rw [h1, if_pos (by decide)]
    rw [show ((f.length : Nat) - 1 - -1 : Int).toNat = f.length by omega]
  rw [t0] at l1
  simp_arith [Lay.ix0, Lay.ix1, Lay.ix2, Lay.ix3, Lay.tp, pr_0, pr_1, pr_tp, pr_isi, pr_len, ko, dNew, k1, Out.calmL, ir, l1, Env.frz, Slot.frz]
theorem minL_mem (js : List Int) : ∀ j : Int, minL j js ∈ j :: js := by
  induction js with
  | nil => exact fun j => List.mem_cons_self
  | cons y js ih =>
    intro j
    show minL (if y < j then y else j) js ∈ _
    have := ih (if y < j then y else j)
    rcases List.mem_cons.mp this with q | q
    · rw [q]
      split
      · exact List.mem_cons_of_mem _ List.mem_cons_self
      · exact List.mem_cons_self
    · exact List.mem_cons_of_mem _ (List.mem_cons_of_mem _ q)
theorem minL_le (js : List Int) : ∀ j : Int, ∀ y ∈ j :: js, minL j js ≤ y := by
  induction js with
  | nil =>
    intro j y hy
    rw [List.mem_singleton.mp hy]
    exact Int.le_refl _
  | cons z js ih =>
    intro j y hy
    show minL (if z < j then z else j) js ≤ y
    have h := ih (if z < j then z else j)
    have h0 := h _ List.mem_cons_self
    by_cases c : z < j
    · rw [if_pos c] at h h0 ⊢
      rcases List.mem_cons.mp hy with q | q
      · rw [q]; omega
      · exact h y q
    · rw [if_neg c] at h h0 ⊢
      rcases List.mem_cons.mp hy with q | q
      · rw [q]; exact h0
      · rcases List.mem_cons.mp q with q | q
        · rw [q]; omega
        · exact h y (List.mem_cons_of_mem _ q)
theorem minO_mem {l : List Int} {m : Int} (h : minO l = some m) : m ∈ l ∧ ∀ y ∈ l, m ≤ y := by
  cases l with
  | nil => cases h
  | cons j js => cases h; exact ⟨minL_mem js j, minL_le js j⟩
theorem tabs_at (f : List Lay) (s : List (Int × Int)) (w : Nat) (n : Int) {i : Nat} (h : i ≤ f.length) : dIx (.lst (tabs f s w n f.length)) (.int (i : Nat)) = .ok (rowT f s w n i) := dIx_n (by
  unfold tabs
  rw [List.getElem?_map, List.getElem?_range (by omega), Nat.sub_self, Option.map_some, Nat.zero_add])
end FQ
namespace FD
open PySem DL
end FD
namespace FC
open PySem DL
end FC
namespace FC
open PySem DL L2 LA FA FB
def bnz : List (Lay × (Int × Int)) → Int
  | [] => 0
  | q :: t => bnz t * q.1.b + cnt q.1 q.2
end FC
namespace FD
open PySem DL L2 LA FA FB FC
def full (x : Lay) : Int := x.u * x.w + x.l
theorem full_le {x : Lay} (ok : x.Ok) : full x ≤ 144 := by
  have := Int.mul_le_mul ok.u6 ok.w20 (by have := ok.w1; omega) (by decide)
  have := ok.l24
  unfold full
  omega
abbrev tg (i : Int) : D := .exc "TooGreat" ["rod"] [.int i]
end FD
namespace FQ
open PySem DL L2 LA FA FB FP FD
theorem nodup_addK {B : List Int} {r : Int} (h : B.Nodup) : (addK B r).Nodup := by
  unfold addK
  by_cases c : r ∈ B
  · rw [if_pos c]; exact h
  · rw [if_neg c, List.nodup_append]
    refine ⟨h, by simp, fun a ha b hb e => c ?_⟩
    rw [List.mem_singleton.mp hb] at e
    rw [← e]
    exact ha
theorem nodup_addL : ∀ {rs B : List Int}, B.Nodup → (addL B rs).Nodup
  | [], _, h => h
  | r :: rs, B, h => nodup_addL (rs := rs) (nodup_addK h)
theorem nodup_fold (x : Lay) : ∀ (K B : List Int), B.Nodup → (K.foldl (rests1 x) B).Nodup
  | [], _, h => h
  | k :: K, B, h => nodup_fold x K _ (nodup_addL h)
theorem nodup_kAt (f : List Lay) (n : Int) : ∀ i, (kAt f n i).Nodup
  | 0 => by simp [kAt]
  | i + 1 => (srtI_perm _).nodup_iff.mpr (nodup_fold _ _ [] List.nodup_nil)
theorem len_range : ∀ (N : Nat) (l : List Int) (lo : Int), l.Nodup → (∀ k ∈ l, lo ≤ k ∧ k < lo + N) → l.length ≤ N
  | 0, l, lo, _, h => by
    cases l with
    | nil => exact Nat.le_refl _
    | cons a l =>
      have := h a List.mem_cons_self
      omega
  | N + 1, l, lo, hn, h => by
    have ih := len_range N (l.erase (lo + N)) lo (hn.erase _) (fun k hk => by
      have h1 := h k (List.mem_of_mem_erase hk)
      have h2 : k ≠ lo + N := fun e => by
        rw [e] at hk
        exact (List.Nodup.not_mem_erase hn) hk
      omega)
    have : l.length ≤ (l.erase (lo + N)).length + 1 := by
      rw [List.length_erase]
      split <;> omega
    omega
theorem rods_fit {x : Lay} (ok : x.Ok) {q : Int × Int} (h : q ∈ rods x) : 0 ≤ q.1 ∧ q.1 ≤ x.u ∧ 0 ≤ q.2 ∧ q.2 ≤ x.l := by
  unfold rods at h
  obtain ⟨k, hk, rfl⟩ := List.mem_map.mp h
  rw [List.mem_range] at hk
  have u0 := ok.u0
  have l0 := ok.l0
  have h0 : 0 ≤ (x.u + 1) * (x.l + 1) := Int.mul_nonneg (by omega) (by omega)
  refine ⟨Int.ediv_nonneg (by omega) (by omega), ?_, Int.emod_nonneg _ (by omega), ?_⟩
  · have : (k : Int) / (x.l + 1) < x.u + 1 := Int.ediv_lt_of_lt_mul (by omega) (by omega)
    omega
  · have := Int.emod_lt_of_pos (k : Int) (show 0 < x.l + 1 by omega)
    show (k : Int) % (x.l + 1) ≤ _
    omega
theorem cnt_fit {x : Lay} (ok : x.Ok) {q : Int × Int} (h : q ∈ rods x) : 0 ≤ cnt x q ∧ cnt x q ≤ 144 := by
  obtain ⟨h1, h2, h3, h4⟩ := rods_fit ok h
  have w1 := ok.w1
  have f := full_le ok
  have e : full x = x.u * x.w + x.l := rfl
  have c : cnt x q = q.1 * x.w + q.2 := rfl
  have a := Int.mul_nonneg h1 (show 0 ≤ x.w by omega)
  have b := Int.mul_le_mul_of_nonneg_right h2 (show 0 ≤ x.w by omega)
  omega
theorem kAt_in {f : List Lay} (hf : ∀ x ∈ f, x.Ok) (n : Int) : ∀ i, ∃ lo, ∀ k ∈ kAt f n i, lo ≤ k ∧ k < lo + (147 : Nat)
  | 0 => ⟨n, fun k hk => by rw [List.mem_singleton.mp hk]; omega⟩
  | i + 1 => by
    obtain ⟨lo, h⟩ := kAt_in hf n i
    have ok := lat_ok hf i
    have b2 := ok.b2
    refine ⟨(lo - 144) / (lat f i).b, fun k hk => ?_⟩
    have hk : k ∈ srtI (rests (lat f i) (kAt f n i)) := hk
    rw [(srtI_perm _).mem_iff] at hk
    rcases mem_rests.mp hk with q | ⟨k', h1, c, h2, h3⟩
    · cases q
    · have h4 := h k' h1
      unfold choices chL at h2
      obtain ⟨q, hq, e⟩ := List.mem_filterMap.mp h2
      unfold ch1 at e
      split at e
      case isFalse => cases e
      cases e
      have cf := cnt_fit ok hq
      rw [← h3]
      generalize (lat f i).b = b at *
      have m1 : (lo - 144) / b ≤ (k' - cnt (lat f i) q) / b := Int.ediv_le_ediv (by omega) (by omega)
      have m2 : (k' - cnt (lat f i) q) / b ≤ (lo - 144 + 145 * b) / b := Int.ediv_le_ediv (by omega) (by omega)
      rw [Int.add_mul_ediv_right _ _ (by omega)] at m2
      exact ⟨m1, by show _ < _; omega⟩
theorem kAt_len {f : List Lay} (hf : ∀ x ∈ f, x.Ok) (n : Int) (i : Nat) : (kAt f n i).length ≤ 147 := by
  obtain ⟨lo, h⟩ := kAt_in hf n i
  exact len_range 147 _ lo (nodup_kAt f n i) h
end FQ
namespace FQ
open PySem DL L2 LA FA FB FP FD
theorem mem_rods {x : Lay} (ok : x.Ok) {p : Int × Int} (h1 : 0 ≤ p.1) (h2 : p.1 ≤ x.u) (h3 : 0 ≤ p.2) (h4 : p.2 ≤ x.l) : p ∈ rods x := by
  unfold rods
  have l0 := ok.l0
  have a := Int.mul_nonneg h1 (show 0 ≤ x.l + 1 by omega)
  have b := Int.mul_le_mul_of_nonneg_right h2 (show 0 ≤ x.l + 1 by omega)
  have e : (x.u + 1) * (x.l + 1) = x.u * (x.l + 1) + (x.l + 1) := by rw [Int.add_mul, Int.one_mul]
  refine List.mem_map.mpr ⟨(p.1 * (x.l + 1) + p.2).toNat, ?_, ?_⟩
  · rw [List.mem_range]
    omega
  · rw [Int.toNat_of_nonneg (by omega), Int.mul_comm, Int.mul_add_ediv_left _ _ (by omega), Int.mul_add_emod_self_left, Int.ediv_eq_zero_of_lt h3 (by omega), Int.emod_eq_of_lt h3 (by omega), Int.add_zero]
theorem mem_choices {x : Lay} {k : Int} {p : Int × Int} {r : Int} (hp : p ∈ rods x) (hb : 0 < x.b) (h0 : 0 ≤ r) (h : k - cnt x p = x.b * r) : (p, r) ∈ choices x k := by
  unfold choices chL
  refine List.mem_filterMap.mpr ⟨p, hp, ?_⟩
  unfold ch1
  rw [h, if_pos ⟨Int.mul_nonneg (by omega) h0, Int.mul_emod_right _ _⟩, Int.mul_ediv_cancel_left _ (by omega)]
theorem choices_mem {x : Lay} {k : Int} {c : Ch} (hb : 0 < x.b) (h : c ∈ choices x k) : c.1 ∈ rods x ∧ 0 ≤ c.2 ∧ k - cnt x c.1 = x.b * c.2 := by
  unfold choices chL at h
  obtain ⟨p, hp, e⟩ := List.mem_filterMap.mp h
  unfold ch1 at e
  split at e
  case isFalse => cases e
  rename_i c1
  cases e
  refine ⟨hp, Int.ediv_nonneg c1.1 (by omega), ?_⟩
  have := Int.mul_ediv_add_emod (k - cnt x p) x.b
  rw [c1.2, Int.add_zero] at this
  exact this.symm
end FQ
namespace LQ
open PySem DL L2 LA
def mix (ns : List Int) (k : Int) : Int := if ns = [] then k * 7919 + 5 else (ns.getD (k % (ns.length : Nat)).toNat 0 + 1 + k) * (48271 + 7919 * k) % 2147483647
theorem mix_nonneg (ns : List Int) {k : Int} (h : 0 ≤ k) : 0 ≤ mix ns k := by
  unfold mix
  split
  · omega
  · exact Int.emod_nonneg _ (by decide)
theorem mixed (ns : List Int) {k : Int} (h0 : 0 ≤ k) (h1 : k < 1000000) : m_law_mixed [.scr ns, .int k] = .ok (.int (mix ns k)) := by
  cases ns with
  | nil =>
    have e4 := dMul_r (i := k) (j := 7919) (by omega) (by omega)
    have e6 : dEq (.scr []) (.lst []) = .ok (.bl true) := rfl
    unfold m_law_mixed b_law_mixed mix
    simp_arith! [e6, e4]
  | cons a t =>
    have hl : (0 : Int) < ((a :: t).length : Nat) := by simp
    have e1 := dMod_i (i := k) hl
    have e2 := dIx_scr (ns := a :: t) (i := k % ((a :: t).length : Nat)) (Int.emod_nonneg _ (by omega)) (Int.emod_lt_of_pos _ hl)
    have e3 := dMul_r (i := (a :: t).getD (k % ((a :: t).length : Nat)).toNat 0 + 1 + k) (j := 48271 + 7919 * k) (by omega) (by omega)
    have e4 := dMul_r (i := 7919) (j := k) (by omega) (by omega)
    have e5 := fun i : Int => dMod_i (i := i) (j := 2147483647) (by decide)
    have e0 : dLen [.scr (a :: t)] = .ok (.int ((a :: t).length : Nat)) := rfl
    have e6 : dEq (.scr (a :: t)) (.lst []) = .ok (.bl false) := rfl
    unfold mix
    rw [if_neg (List.cons_ne_nil a t)]
    generalize hL : (a :: t).length = L at *
    unfold m_law_mixed b_law_mixed
    simp_arith! [e6, e0, e1, e2, e3, e4, e5]
def lay (c mu mb : Int) : Lay :=
  let b := 2 + c % (mb - 1)
  let u := c / 32 % (mu + 1)
  let w := if 0 < u then 1 + c / 256 % 8 else 1
  let l0 := if 0 < u then (if w - 1 < b - 1 - u * w then b - 1 - u * w else w - 1) else b - 1
  ⟨u, w, if l0 + c / 4096 % 3 < 24 then l0 + c / 4096 % 3 else 24, b⟩
theorem layout {c mu mb : Int} (h0 : 0 ≤ mu) (h1 : mu ≤ 6) (h2 : 2 ≤ mb) (h3 : mb ≤ 25) : m_law_layout [.int c, .int mu, .int mb] = .ok (lay c mu mb).d := by
  have m1 := dMod_i (i := c) (j := mb - 1) (by omega)
  have m2 := dMod_i (i := c / 32) (j := mu + 1) (by omega)
  have a1 := Int.emod_nonneg (c / 32) (show mu + 1 ≠ 0 by omega)
  have a2 := Int.emod_lt_of_pos (c / 32) (show 0 < mu + 1 by omega)
  unfold m_law_layout b_law_layout lay Lay.d
  dsimp only
  generalize hu : c / 32 % (mu + 1) = u at *
  have mm := dMul_r (i := u) (j := 1 + c / 256 % 8) (by omega) (by omega)
  by_cases c1 : 0 < u
  · simp_arith [Lay.ix0, Lay.ix1, Lay.ix2, Lay.ix3, Lay.tp, pr_0, pr_1, pr_tp, pr_isi, pr_len, m1, m2, c1, mm]
  · simp_arith [Lay.ix0, Lay.ix1, Lay.ix2, Lay.ix3, Lay.tp, pr_0, pr_1, pr_tp, pr_isi, pr_len, m1, m2, c1]
theorem lay_ok {c mu mb : Int} (h0 : 0 ≤ mu) (h1 : mu ≤ 6) (h2 : 2 ≤ mb) (h3 : mb ≤ 25) : (lay c mu mb).Ok := by
  have a1 := Int.emod_nonneg (c / 32) (show mu + 1 ≠ 0 by omega)
  have a2 := Int.emod_lt_of_pos (c / 32) (show 0 < mu + 1 by omega)
  have a3 := Int.emod_nonneg c (show mb - 1 ≠ 0 by omega)
  have a4 := Int.emod_lt_of_pos c (show 0 < mb - 1 by omega)
  unfold lay
  dsimp only
  generalize c / 32 % (mu + 1) = u at *
  generalize c % (mb - 1) = r at *
  have a5 : 0 ≤ c / 256 % 8 ∧ c / 256 % 8 < 8 := by omega
  have a6 : 0 ≤ c / 4096 % 3 ∧ c / 4096 % 3 < 3 := by omega
  generalize c / 256 % 8 = v at *
  generalize c / 4096 % 3 = t at *
  by_cases c1 : 0 < u
  · rw [if_pos c1, if_pos c1]
    have p0 := Int.mul_nonneg a1 (show 0 ≤ 1 + v by omega)
    generalize hq : u * (1 + v) = q at *
    refine ⟨?_, ?_, ?_, ?_, ?_, ?_, ?_, ?_, ?_, ?_, ?_⟩ <;> dsimp only <;> first | omega | (split <;> first | omega | (split <;> omega))
  · rw [if_neg c1, if_neg c1]
    have e : u = 0 := by omega
    subst e
    refine ⟨?_, ?_, ?_, ?_, ?_, ?_, ?_, ?_, ?_, ?_, ?_⟩ <;> dsimp only <;> first | omega | (split <;> first | omega | (split <;> omega))
def fr (ns : List Int) (r : Nat) (mu mb : Int) : List Lay := (List.range r).map fun (k : Nat) => lay (mix ns (10 + (k : Int))) mu mb
theorem fr_len (ns : List Int) (r : Nat) (mu mb : Int) : (fr ns r mu mb).length = r := by unfold fr; rw [List.length_map, List.length_range]
theorem fr_ok (ns : List Int) (r : Nat) {mu mb : Int} (h0 : 0 ≤ mu) (h1 : mu ≤ 6) (h2 : 2 ≤ mb) (h3 : mb ≤ 25) : ∀ x ∈ fr ns r mu mb, x.Ok := by
  intro x hx
  unfold fr at hx
  obtain ⟨k, _, rfl⟩ := List.mem_map.mp hx
  exact lay_ok h0 h1 h2 h3
theorem frame (ns : List Int) {r : Nat} (hr : r ≤ 1000) {mu mb : Int} (h0 : 0 ≤ mu) (h1 : mu ≤ 6) (h2 : 2 ≤ mb) (h3 : mb ≤ 25) : m_law_frame [.scr ns, .int (r : Nat), .int mu, .int mb] = .ok (.lst ((fr ns r mu mb).map Lay.d)) := by
  have ir : iRange1 [.int (r : Nat)] = .ok (rngL 0 r) := by
    unfold iRange1
    have e : inR62 ((r : Nat) : Int) = true := by
      unfold inR62
      simp only [Bool.and_eq_true, decide_eq_true_eq]
      omega
    show (if inR62 ((r : Nat) : Int) = true then R.ok (rngL 0 ((r : Nat) : Int).toNat) else R.stuck) = _
    rw [e, if_pos rfl, Int.toNat_natCast]
  have lc := oLc_map (fi := iCall iRange1 (aCons (eV 1) (aNil))) (h := gNm 4) (fe := le_law_frame1) (vs := [4]) (Γ := [some (.val (.scr ns)), some (.val (.int ((r : Nat)))), some (.val (.int (mu))), some (.val (.int (mb))), none])
    (List.range r) (fun (k : Nat) => D.int (k : Nat)) (fun (k : Nat) => (lay (mix ns (10 + (k : Int))) mu mb).d) (by
      simp_arith [Lay.ix0, Lay.ix1, Lay.ix2, Lay.ix3, Lay.tp, pr_0, pr_1, pr_tp, pr_isi, pr_len, ir, rngL_0]) (by
      rw [List.length_range]
      show _ ≤ 16777216
      omega) (by
      intro k hk
      rw [List.mem_range] at hk
      have e1 := mixed ns (k := 10 + (k : Int)) (by omega) (by omega)
      have e2 := layout (c := mix ns (10 + (k : Int))) h0 h1 h2 h3
      simp_arith [Lay.ix0, Lay.ix1, Lay.ix2, Lay.ix3, Lay.tp, pr_0, pr_1, pr_tp, pr_isi, pr_len, le_law_frame1, e1, e2])
  show R.bind (mo_law_frame _) _ = _
  unfold mo_law_frame b_law_frame
  simp_arith [Lay.ix0, Lay.ix1, Lay.ix2, Lay.ix3, Lay.tp, pr_0, pr_1, pr_tp, pr_isi, pr_len, lc]
  unfold fr
  rw [List.map_map]
  rfl
def st1 (c : Int) (x : Lay) : Int × Int := (c % (x.u + 1), c / 64 % (x.l + 1))
def st (ns : List Int) (at_ : Int) (f : List Lay) : List (Int × Int) := f.zipIdx.map fun q => st1 (mix ns (at_ + (q.2 : Nat))) q.1
theorem st_len (ns : List Int) (at_ : Int) (f : List Lay) : (st ns at_ f).length = f.length := by
  unfold st
  rw [List.length_map, List.length_zipIdx]
theorem st_get (ns : List Int) (at_ : Int) (f : List Lay) {i : Nat} {x : Lay} (h : f[i]? = some x) : (st ns at_ f)[i]? = some (st1 (mix ns (at_ + (i : Nat))) x) := by
  unfold st
  rw [List.getElem?_map, List.getElem?_zipIdx, h]
  simp
theorem standing (ns : List Int) {at_ : Int} {f : List Lay} (hf : ∀ x ∈ f, x.Ok) (h0 : 0 ≤ at_) (h1 : at_ < 900000) (hl : f.length ≤ 1000) : m_law_standing [.scr ns, .lst (f.map Lay.d), .int at_] = .ok (.lst ((st ns at_ f).map pairD)) := by
  have l1 := for_enum (h := h_law_standing1) (g := g_law_standing1) f Lay.d (fun i => [some (.val (.scr ns)), some (.val (.lst (f.map Lay.d))), some (.val (.int (at_))), some (.own (((st ns at_ f).take i).map pairD)), none, none, none]) (by
    intro i x hx
    have ok := hf x (List.mem_of_getElem? hx)
    have hi : i < f.length := (List.getElem?_eq_some_iff.mp hx).1
    have e1 := mixed ns (k := at_ + (i : Nat)) (by omega) (by omega)
    have u0 := ok.u0
    have l0 := ok.l0
    have m1 := dMod_i (i := mix ns (at_ + (i : Nat))) (j := x.u + 1) (by omega)
    have m2 := dMod_i (i := mix ns (at_ + (i : Nat)) / 64) (j := x.l + 1) (by omega)
    have e2 : ((st ns at_ f).take i).length < 16777216 := by
      rw [List.length_take]
      omega
    rw [take_succ_get (st_get ns at_ f hx), List.map_append]
    simp_arith [Lay.ix0, Lay.ix1, Lay.ix2, Lay.ix3, Lay.tp, pr_0, pr_1, pr_tp, pr_isi, pr_len, h_law_standing1, g_law_standing1, e1, m1, m2, st1, pairD])
  have e0 : ((st ns at_ f).take 0).map pairD = [] := rfl
  have e3 : (st ns at_ f).take f.length = st ns at_ f := by rw [← st_len ns at_ f, List.take_length]
  rw [e0, e3] at l1
  simp_arith [Lay.ix0, Lay.ix1, Lay.ix2, Lay.ix3, Lay.tp, pr_0, pr_1, pr_tp, pr_isi, pr_len] at l1
  show R.bind (mo_law_standing _) _ = _
  unfold mo_law_standing b_law_standing
  simp_arith [Lay.ix0, Lay.ix1, Lay.ix2, Lay.ix3, Lay.tp, pr_0, pr_1, pr_tp, pr_isi, pr_len, iEnumD, l1]
end LQ
namespace LB
open PySem DL
def b_law_cell : DL.Env → Out :=
    sSeq (sIf (eB (eOp dLt (eV 1) (eCall dLen (aCons (eV 0) (aNil))))) (sRet (eOp dIx (eV 0) (eV 1))) (sNx)) <|
    sSeq (sSet (gNm 2) (eOp dAdd (eOp dMul (eV 1) (eC (.int 48271))) (eC (.int 11)))) <|
    sSeq (sIf (eB (eOp dGt (eCall dLen (aCons (eV 0) (aNil))) (eC (.int 0)))) (sSet (gNm 2) (eOp dAdd (eV 2) (eOp dMul (eOp dMod (eOp dIx (eV 0) (eOp dMod (eOp dMul (eV 1) (eC (.int 7))) (eCall dLen (aCons (eV 0) (aNil))))) (eC (.int 2147483647))) (eC (.int 69621))))) (sNx)) <|
    sRet (eOp dMod (eOp dMul (eV 2) (eV 2)) (eC (.int 2147483629)))
def m_law_cell : List D → R D := mk 3 b_law_cell
def b_law_layout : DL.Env → Out :=
    sSeq (sSet (gNm 0) (eOp dMod (eV 0) (eOp dPow (eC (.int 10)) (eC (.int 40))))) <|
    sSeq (sSet (gNm 1) (eOp dIx (eFrz (oLst (aCons (eC (.int 0)) (aCons (eC (.int 1)) (aCons (eC (.int 2)) (aCons (eOp dAdd (eC (.int 1)) (eOp dMod (eOp dDiv (eV 0) (eC (.int 4))) (eC (.int 6)))) (aNil))))))) (eOp dMod (eV 0) (eC (.int 4))))) <|
    sSeq (sIf (eB (eOp dEq (eV 1) (eC (.int 0)))) (sSeq (sSet (gNm 2) (eOp dAdd (eC (.int 2)) (eOp dMod (eOp dDiv (eV 0) (eC (.int 24))) (eC (.int 24))))) <|
    sRet (eTup (aCons (eC (.int 0)) (aCons (eC (.int 1)) (aCons (eCall dMin2 (aCons (eC (.int 24)) (aCons (eOp dAdd (eOp dSub (eV 2) (eC (.int 1))) (eOp dMod (eOp dDiv (eV 0) (eC (.int 576))) (eC (.int 4)))) (aNil)))) (aCons (eV 2) (aNil))))))) (sNx)) <|
    sSeq (sSet (gNm 3) (eOp dIx (eFrz (oLst (aCons (eC (.int 5)) (aCons (eOp dAdd (eC (.int 1)) (eOp dMod (eOp dDiv (eV 0) (eC (.int 24))) (eC (.int 20)))) (aNil))))) (eOp dMod (eOp dDiv (eV 0) (eC (.int 480))) (eC (.int 2))))) <|
    sSeq (sSet (gNm 4) (eOp dAdd (eOp dSub (eV 3) (eC (.int 1))) (eOp dMod (eOp dDiv (eV 0) (eC (.int 960))) (eC (.int 5))))) <|
    sSeq (sSet (gNm 5) (eCall dMin2 (aCons (eC (.int 25)) (aCons (eOp dAdd (eOp dAdd (eOp dMul (eV 1) (eV 3)) (eV 4)) (eC (.int 1))) (aNil))))) <|
    sRet (eTup (aCons (eV 1) (aCons (eV 3) (aCons (eV 4) (aCons (eOp dIx (eFrz (oLst (aCons (eV 5) (aCons (eOp dAdd (eC (.int 2)) (eOp dMod (eOp dDiv (eV 0) (eC (.int 4800))) (eOp dSub (eV 5) (eC (.int 1))))) (aNil))))) (eOp dMod (eOp dDiv (eV 0) (eC (.int 9600))) (eC (.int 2)))) (aNil))))))
def m_law_layout : List D → R D := mk 6 b_law_layout
def le_law_frame1 : DL.Env → R D :=
    eFn 1 m_law_layout (aCons (eFn 2 m_law_cell (aCons (eV 0) (aCons (eOp dAdd (eOp dAdd (eV 1) (eC (.int 1))) (eV 3)) (aNil)))) (aNil))
def b_law_frame : DL.Env → Out :=
    sRetO (oLc [3] (iCall iRange1 (aCons (eOp dAdd (eC (.int 1)) (eOp dMod (eFn 2 m_law_cell (aCons (eV 0) (aCons (eV 1) (aNil)))) (eV 2))) (aNil))) (gNm 3) (bYes) (le_law_frame1))
def mo_law_frame : List D → R (List D) := mkO 4 b_law_frame
def m_law_frame : List D → R D := fun ds => (mo_law_frame ds).bind fun r => .ok (.lst r)
def h_law_standing1 : Tg :=
    gTp 2 (gsCons (gNm 4) (gsCons (gNm 5) (gsNil)))
def g_law_standing1 : DL.Env → Out :=
    sWp [4, 5, 6] (sSeq (sSet (gNm 6) (eOp dMod (eFn 2 m_law_cell (aCons (eV 0) (aCons (eOp dAdd (eV 1) (eV 4)) (aNil)))) (eOp dPow (eC (.int 10)) (eC (.int 40))))) <|
    sApp 3 (eTup (aCons (eOp dMod (eV 6) (eOp dAdd (eOp dIx (eV 5) (eC (.int 0))) (eC (.int 1)))) (aCons (eOp dMod (eOp dDiv (eV 6) (eC (.int 7))) (eOp dAdd (eOp dIx (eV 5) (eC (.int 2))) (eC (.int 1)))) (aNil)))))
def b_law_standing : DL.Env → Out :=
    sSeq (sSetO 3 (oLst (aNil))) <|
    sSeq (sFor (iCall iEnumD (aCons (eV 2) (aNil))) h_law_standing1 g_law_standing1) <|
    sRetS 3
def mo_law_standing : List D → R (List D) := mkO 7 b_law_standing
def m_law_standing : List D → R D := fun ds => (mo_law_standing ds).bind fun r => .ok (.lst r)
def h_law_borne1 : Tg :=
    gTp 2 (gsCons (gNm 4) (gsCons (gNm 5) (gsNil)))
def g_law_borne1 : DL.Env → Out :=
    sWp [4, 5, 6, 7] (sSeq (sSet (gTp 2 (gsCons (gNm 6) (gsCons (gNm 7) (gsNil)))) (eOp dIx (eV 1) (eV 4))) <|
    sSeq (sSet (gNm 2) (eOp dAdd (eV 2) (eOp dMul (eOp dAdd (eOp dMul (eV 6) (eOp dIx (eV 5) (eC (.int 1)))) (eV 7)) (eV 3)))) <|
    sSet (gNm 3) (eOp dMul (eV 3) (eOp dIx (eV 5) (eC (.int 3)))))
def b_law_borne : DL.Env → Out :=
    sSeq (sSet (gNm 2) (eC (.int 0))) <|
    sSeq (sSet (gNm 3) (eC (.int 1))) <|
    sSeq (sFor (iCall iEnumD (aCons (eV 0) (aNil))) h_law_borne1 g_law_borne1) <|
    sRet (eV 2)
def m_law_borne : List D → R D := mk 8 b_law_borne
end LB
namespace LB
open PySem DL L2 LA FA FB FC FD
def Fits (f : List Lay) (s : List (Int × Int)) : Prop := s.length = f.length ∧ ∀ (i : Nat) (x : Lay) (p : Int × Int), f[i]? = some x → s[i]? = some p → 0 ≤ p.1 ∧ p.1 ≤ x.u ∧ 0 ≤ p.2 ∧ p.2 ≤ x.l
def bsum (l : List (Lay × (Int × Int))) (f : List Lay) (i : Nat) : Int := bnz l - plc f i * bnz (l.drop i)
theorem law_borne {f : List Lay} {s : List (Int × Int)} (hf : ∀ x ∈ f, x.Ok) (hs : Fits f s) : m_law_borne [.lst (f.map Lay.d), .lst (s.map pairD)] = .ok (.int (bnz (f.zip s))) := by
  have e := for_enum (h := h_law_borne1) (g := g_law_borne1) f Lay.d (fun i => [some (.val (.lst (f.map Lay.d))), some (.val (.lst (s.map pairD))), some (.val (.int (bsum (f.zip s) f i))), some (.val (.int (plc f i))), none, none, none, none]) (by
    intro i x hx
    have ok := hf x (List.mem_of_getElem? hx)
    have hi : i < f.length := (List.getElem?_eq_some_iff.mp hx).1
    have his : i < s.length := by rw [hs.1]; exact hi
    have w1 := ok.w1
    have w20 := ok.w20
    have b2 := ok.b2
    have b25 := ok.b25
    have u6 := ok.u6
    have l24 := ok.l24
    have hp : s[i]? = some s[i] := List.getElem?_eq_getElem his
    obtain ⟨p1, p2, p3, p4⟩ := hs.2 i x _ hx hp
    have ix : dIx (.lst (s.map pairD)) (.int (i : Nat)) = .ok (pairD s[i]) := dIx_n (by rw [List.getElem?_map, hp]; rfl)
    generalize s[i] = p at *
    have hq := Int.mul_le_mul (show p.1 ≤ 6 by omega) w20 (by omega) (by decide)
    have hq0 := Int.mul_nonneg p1 (show 0 ≤ x.w by omega)
    have e1 : plc f (i + 1) = plc f i * x.b := by
      show plc f i * (lat f i).b = _
      rw [lat_of hx]
    have e2 : bsum (f.zip s) f (i + 1) = bsum (f.zip s) f i + (p.1 * x.w + p.2) * plc f i := by
      have hz : (f.zip s)[i]? = some (x, p) := by
        rw [List.getElem?_zip_eq_some]
        exact ⟨hx, hp⟩
      have hd : (f.zip s).drop i = (x, p) :: (f.zip s).drop (i + 1) := by
        obtain ⟨h1, h2⟩ := List.getElem?_eq_some_iff.mp hz
        rw [← h2]
        exact List.drop_eq_getElem_cons h1
      unfold bsum
      rw [hd, e1]
      show _ = bnz (f.zip s) - plc f i * (bnz ((f.zip s).drop (i + 1)) * x.b + (p.1 * x.w + p.2)) + _
      rw [Int.mul_add, Int.mul_comm (p.1 * x.w + p.2), Int.mul_assoc, Int.mul_comm x.b]
      omega
    simp_arith [Lay.ix0, Lay.ix1, Lay.ix2, Lay.ix3, Lay.tp, pr_0, pr_1, pr_tp, pr_isi, prs_same, prs_nsame, lays_same, lays_nsame, h_law_borne1, g_law_borne1, ix, e1, e2])
  have e0 : bsum (f.zip s) f 0 = 0 := by
    unfold bsum
    rw [List.drop_zero]
    show bnz _ - 1 * bnz _ = 0
    omega
  have e1 : bsum (f.zip s) f f.length = bnz (f.zip s) := by
    unfold bsum
    rw [List.drop_of_length_le (by rw [List.length_zip]; omega)]
    show bnz _ - _ * 0 = _
    omega
  have e2 : plc f 0 = 1 := rfl
  rw [e1] at e
  simp_arith [Lay.ix0, Lay.ix1, Lay.ix2, Lay.ix3, Lay.tp, pr_0, pr_1, pr_tp, pr_isi, prs_same, prs_nsame, lays_same, lays_nsame, e0, e2] at e
  unfold m_law_borne b_law_borne
  simp_arith [Lay.ix0, Lay.ix1, Lay.ix2, Lay.ix3, Lay.tp, pr_0, pr_1, pr_tp, pr_isi, prs_same, prs_nsame, lays_same, lays_nsame, e]
end LB
namespace LR
open PySem DL L2 LA FA FB FP FQ
open LB in
theorem law_borne {f : List Lay} {s : List (Int × Int)} (hf : ∀ x ∈ f, x.Ok) (hs : LB.Fits f s) : LQ.m_law_borne [.lst (f.map Lay.d), .lst (s.map pairD)] = .ok (.int (FC.bnz (f.zip s))) := by
  have hlen : (f.zip s).length = f.length := by rw [List.length_zip, hs.1, Nat.min_self]
  have e := for_map (h := LQ.h_law_borne1) (g := LQ.g_law_borne1) (f.zip s) (fun q => .tup [q.1.d, pairD q.2]) (fun i => [some (.val (.lst (f.map Lay.d))), some (.val (.lst (s.map pairD))), some (.val (.int (bsum (f.zip s) f i))), some (.val (.int (plc f i))), none, none]) (by
    intro i q hq
    obtain ⟨x, p⟩ := q
    obtain ⟨hx, hp⟩ := List.getElem?_zip_eq_some.mp hq
    have hx : f[i]? = some x := hx
    have hp : s[i]? = some p := hp
    have ok := hf x (List.mem_of_getElem? hx)
    have w1 := ok.w1
    have w20 := ok.w20
    have b2 := ok.b2
    have b25 := ok.b25
    have u6 := ok.u6
    have l24 := ok.l24
    obtain ⟨p1, p2, p3, p4⟩ := hs.2 i x _ hx hp
    have hq2 := Int.mul_le_mul (show p.1 ≤ 6 by omega) w20 (by omega) (by decide)
    have hq0 := Int.mul_nonneg p1 (show 0 ≤ x.w by omega)
    have e1 : plc f (i + 1) = plc f i * x.b := by
      show plc f i * (lat f i).b = _
      rw [lat_of hx]
    have e2 : bsum (f.zip s) f (i + 1) = bsum (f.zip s) f i + (p.1 * x.w + p.2) * plc f i := by
      have hd : (f.zip s).drop i = (x, p) :: (f.zip s).drop (i + 1) := by
        obtain ⟨h1, h2⟩ := List.getElem?_eq_some_iff.mp hq
        rw [← h2]
        exact List.drop_eq_getElem_cons h1
      unfold bsum
      rw [hd, e1]
      show _ = FC.bnz (f.zip s) - plc f i * (FC.bnz ((f.zip s).drop (i + 1)) * x.b + (p.1 * x.w + p.2)) + _
      rw [Int.mul_add, Int.mul_comm (p.1 * x.w + p.2), Int.mul_assoc, Int.mul_comm x.b]
      omega
    simp_arith [Lay.ix0, Lay.ix1, Lay.ix2, Lay.ix3, Lay.tp, pr_0, pr_1, pr_tp, pr_isi, pr_len, LQ.h_law_borne1, LQ.g_law_borne1, e1, e2])
  have e0 : bsum (f.zip s) f 0 = 0 := by
    unfold bsum
    rw [List.drop_zero]
    show FC.bnz _ - 1 * FC.bnz _ = 0
    omega
  have e1 : bsum (f.zip s) f (f.zip s).length = FC.bnz (f.zip s) := by
    unfold bsum
    rw [List.drop_of_length_le (Nat.le_refl _)]
    show FC.bnz _ - _ * 0 = _
    omega
  have e2 : plc f 0 = 1 := rfl
  rw [e1] at e
  simp_arith [Lay.ix0, Lay.ix1, Lay.ix2, Lay.ix3, Lay.tp, pr_0, pr_1, pr_tp, pr_isi, pr_len, e0, e2] at e
  unfold LQ.m_law_borne LQ.b_law_borne
  simp_arith [Lay.ix0, Lay.ix1, Lay.ix2, Lay.ix3, Lay.tp, pr_0, pr_1, pr_tp, pr_isi, pr_len, e]
end LR
namespace LR
open PySem DL L2 LA FA FB FP FQ
def ful (f : List Lay) : List (Int × Int) := f.map fun x => (x.u, x.l)
theorem ful_fits {f : List Lay} (hf : ∀ x ∈ f, x.Ok) : LB.Fits f (ful f) := by
  refine ⟨by unfold ful; rw [List.length_map], fun i x p hx hp => ?_⟩
  have ok := hf x (List.mem_of_getElem? hx)
  unfold ful at hp
  rw [List.getElem?_map, hx] at hp
  cases hp
  have := ok.u0
  have := ok.l0
  exact ⟨ok.u0, Int.le_refl _, ok.l0, Int.le_refl _⟩
theorem mix_lt (ns : List Int) {k : Int} (h : k < 200000) : LQ.mix ns k < 2147483647 := by
  unfold LQ.mix
  split
  · omega
  · exact Int.emod_lt_of_pos _ (by decide)
theorem st_fits (ns : List Int) (a : Int) {f : List Lay} (hf : ∀ x ∈ f, x.Ok) : LB.Fits f (LQ.st ns a f) := by
  refine ⟨LQ.st_len ns a f, fun i x p hx hp => ?_⟩
  rw [LQ.st_get ns a f hx] at hp
  cases hp
  have ok := hf x (List.mem_of_getElem? hx)
  have u0 := ok.u0
  have l0 := ok.l0
  unfold LQ.st1
  have h1 := Int.emod_nonneg (LQ.mix ns (a + (i : Nat))) (show x.u + 1 ≠ 0 by omega)
  have h2 := Int.emod_lt_of_pos (LQ.mix ns (a + (i : Nat))) (show 0 < x.u + 1 by omega)
  have h3 := Int.emod_nonneg (LQ.mix ns (a + (i : Nat)) / 64) (show x.l + 1 ≠ 0 by omega)
  have h4 := Int.emod_lt_of_pos (LQ.mix ns (a + (i : Nat)) / 64) (show 0 < x.l + 1 by omega)
  dsimp only
  omega
theorem bnz_fits {f : List Lay} {s : List (Int × Int)} (hf : ∀ x ∈ f, x.Ok) (hs : LB.Fits f s) : 0 ≤ FC.bnz (f.zip s) := by
  have gen : ∀ l : List (Lay × (Int × Int)), (∀ q ∈ l, q.1.Ok ∧ 0 ≤ q.2.1 ∧ 0 ≤ q.2.2) → 0 ≤ FC.bnz l := by
    intro l
    induction l with
    | nil => exact fun _ => Int.le_refl _
    | cons q t ih =>
      intro h
      obtain ⟨ok, h1, h2⟩ := h q List.mem_cons_self
      have a := Int.mul_nonneg (ih fun q hq => h q (List.mem_cons_of_mem _ hq)) (show 0 ≤ q.1.b by have := ok.b2; omega)
      have b := Int.mul_nonneg h1 (show 0 ≤ q.1.w by have := ok.w1; omega)
      show 0 ≤ FC.bnz t * q.1.b + (q.2.1 * q.1.w + q.2.2)
      omega
  refine gen _ fun q hq => ?_
  obtain ⟨i, hi⟩ := List.mem_iff_getElem?.mp hq
  obtain ⟨x, p⟩ := q
  obtain ⟨hx, hp⟩ := List.getElem?_zip_eq_some.mp hi
  have := hs.2 i x p hx hp
  exact ⟨hf x (List.mem_of_getElem? hx), this.1, this.2.2.1⟩
theorem ful_comp {f : List Lay} (hl : f.length ≤ 1000) {Γ : DL.Env} (hΓ : iOf (eV 1) Γ = .ok (f.map Lay.d)) (h5 : ∀ x : Lay, lcT (gNm 5) le_law_number1 x.d (wipeE Γ [5]) = .ok (pairD (x.u, x.l))) : oLc [5] (iOf (eV 1)) (gNm 5) (bYes) le_law_number1 Γ = .ok ((ful f).map pairD) := by
  have := oLc_map (fi := iOf (eV 1)) (h := gNm 5) (fe := le_law_number1) (vs := [5]) (Γ := Γ) f Lay.d (fun x => pairD (x.u, x.l)) hΓ (by show _ ≤ 16777216; omega) fun x _ => h5 x
  rw [this]
  unfold ful
  rw [List.map_map]
  rfl
theorem law_number (ns : List Int) {f : List Lay} (hf : ∀ x ∈ f, x.Ok) (hl : f.length ≤ 1000) : ∃ n : Int, 0 ≤ n ∧ m_law_number [.scr ns, .lst (f.map Lay.d)] = .ok (.int n) := by
  have m3 := LQ.mixed ns (k := 3) (by decide) (by decide)
  have m4 := LQ.mixed ns (k := 4) (by decide) (by decide)
  have m5 := LQ.mixed ns (k := 5) (by decide) (by decide)
  have m6 := LQ.mixed ns (k := 6) (by decide) (by decide)
  have g4 := LQ.mix_nonneg ns (k := 4) (by decide)
  have g5 := LQ.mix_nonneg ns (k := 5) (by decide)
  have g6 := LQ.mix_nonneg ns (k := 6) (by decide)
  have t5 := mix_lt ns (k := 5) (by decide)
  have t6 := mix_lt ns (k := 6) (by decide)
  have fc := ful_comp hl (Γ := [some (.val (.scr ns)), some (.val (.lst (f.map Lay.d))), some (.val (.int (LQ.mix ns 3 % 4))), none, none, none]) (by simp_arith [Lay.ix0, Lay.ix1, Lay.ix2, Lay.ix3, Lay.tp, pr_0, pr_1, pr_tp, pr_isi, pr_len]) (fun x => by simp_arith [Lay.ix0, Lay.ix1, Lay.ix2, Lay.ix3, Lay.tp, pr_0, pr_1, pr_tp, pr_isi, pr_len, le_law_number1, pairD])
  have bo := law_borne hf (ful_fits hf)
  have b0 := bnz_fits hf (ful_fits hf)
  have sd := LQ.standing ns (at_ := 60) hf (by decide) (by decide) hl
  have bs := law_borne hf (st_fits ns 60 hf)
  have c0 := bnz_fits hf (st_fits ns 60 hf)
  generalize FC.bnz (f.zip (ful f)) = M at *
  generalize FC.bnz (f.zip (LQ.st ns 60 f)) = S at *
  have p1 := dMul_r (i := LQ.mix ns 4) (j := LQ.mix ns 5) (by omega) (by omega)
  have p2 := dMul_r (i := LQ.mix ns 4 * LQ.mix ns 5) (j := LQ.mix ns 6) (by omega) (by omega)
  have em := dMod_i (i := LQ.mix ns 4 * LQ.mix ns 5 * LQ.mix ns 6) (j := M + 1) (by omega)
  unfold m_law_number b_law_number
  by_cases h0 : LQ.mix ns 3 % 4 = 0
  · rw [h0] at fc
    exact ⟨M + LQ.mix ns 4 % 3, by omega, by simp_arith [Lay.ix0, Lay.ix1, Lay.ix2, Lay.ix3, Lay.tp, pr_0, pr_1, pr_tp, pr_isi, pr_len, m3, m4, h0, fc, bo, Env.frz, Slot.frz]⟩
  · by_cases h1 : LQ.mix ns 3 % 4 = 1
    · rw [h1] at fc
      exact ⟨LQ.mix ns 4 * LQ.mix ns 5 * LQ.mix ns 6 % (M + 1), Int.emod_nonneg _ (by omega), by simp_arith [Lay.ix0, Lay.ix1, Lay.ix2, Lay.ix3, Lay.tp, pr_0, pr_1, pr_tp, pr_isi, pr_len, m3, m4, m5, m6, h1, fc, bo, p1, p2, em, Env.frz, Slot.frz]⟩
    · exact ⟨S, c0, by simp_arith [Lay.ix0, Lay.ix1, Lay.ix2, Lay.ix3, Lay.tp, pr_0, pr_1, pr_tp, pr_isi, pr_len, m3, h0, h1, fc, bo, sd, bs, Env.frz, Slot.frz]⟩
end LR
namespace K34
open PySem DL
def cs : List Str := ["Price", "ByMoves", "ByGrips", "ByBeads"]
def tb : Tb := []
abbrev b_count_of : DL.Env → Out := FA.b_count_of
abbrev m_count_of : List D → R D := FA.m_count_of
abbrev b_rod_standings : DL.Env → Out := FQ.b_rod_standings
abbrev mo_rod_standings : List D → R (List D) := FQ.mo_rod_standings
abbrev m_rod_standings : List D → R D := FQ.m_rod_standings
abbrev b_Price_rod_price : DL.Env → Out := FP.b_Price_rod_price
abbrev m_Price_rod_price : List D → R D := FP.m_Price_rod_price
abbrev b_ByMoves_rod_price : DL.Env → Out := FP.b_ByMoves_rod_price
abbrev m_ByMoves_rod_price : List D → R D := FP.m_ByMoves_rod_price
abbrev b_ByGrips_rod_price : DL.Env → Out := FP.b_ByGrips_rod_price
abbrev m_ByGrips_rod_price : List D → R D := FP.m_ByGrips_rod_price
abbrev b_ByBeads_rod_price : DL.Env → Out := FP.b_ByBeads_rod_price
abbrev m_ByBeads_rod_price : List D → R D := FP.m_ByBeads_rod_price
abbrev b_law_mixed : DL.Env → Out := LQ.b_law_mixed
abbrev m_law_mixed : List D → R D := LQ.m_law_mixed
abbrev b_law_layout : DL.Env → Out := LQ.b_law_layout
abbrev m_law_layout : List D → R D := LQ.m_law_layout
abbrev b_law_borne : DL.Env → Out := LQ.b_law_borne
abbrev m_law_borne : List D → R D := LQ.m_law_borne
def le_law_keys1 : DL.Env → R D :=
    eFrz (oCall oSorted (aCons (eV 7) (aNil)))
def h_law_keys5 : Tg :=
    gNm 10
def g_law_keys5 : DL.Env → Out :=
    sWp [10, 11] (sSeq (sSet (gNm 11) (eOp dSub (eOp dSub (eV 8) (eOp dMul (eV 9) (eV 4))) (eV 10))) <|
    sIf (bAnd (eB (eOp dGe (eV 11) (eC (.int 0)))) (eB (eOp dEq (eOp dMod (eV 11) (eV 6)) (eC (.int 0))))) (sPut 7 (eOp dDiv (eV 11) (eV 6)) (eC (.bl true))) (sNx))
def h_law_keys4 : Tg :=
    gNm 9
def g_law_keys4 : DL.Env → Out :=
    sWp [9, 10, 11] (sFor (iCall iRange1 (aCons (eOp dAdd (eV 5) (eC (.int 1))) (aNil))) h_law_keys5 g_law_keys5)
def h_law_keys3 : Tg :=
    gNm 8
def g_law_keys3 : DL.Env → Out :=
    sWp [8, 9, 10, 11] (sFor (iCall iRange1 (aCons (eOp dAdd (eV 3) (eC (.int 1))) (aNil))) h_law_keys4 g_law_keys4)
def h_law_keys2 : Tg :=
    gTp 4 (gsCons (gNm 3) (gsCons (gNm 4) (gsCons (gNm 5) (gsCons (gNm 6) (gsNil)))))
def g_law_keys2 : DL.Env → Out :=
    sWp [3, 4, 5, 6, 7, 8, 9, 10, 11] (sSeq (sSetD 7 dNew) <|
    sSeq (sForDk (atDkO 2 (eUn dNeg (eC (.int 1)))) keysD h_law_keys3 g_law_keys3) <|
    sFrz 7 (sApp 2 (eV 7)))
def b_law_keys : DL.Env → Out :=
    sSeq (sSetO 2 (oLst (aCons (eDisp (pCons (eV 1) (eC (.bl true)) (pNil))) (aNil)))) <|
    sSeq (sFor (iOf (eV 0)) h_law_keys2 g_law_keys2) <|
    sFrz 2 (sFrz 7 (sRetO (oLc [7] (iOf (eV 2)) (gNm 7) (bYes) (le_law_keys1))))
def mo_law_keys : List D → R (List D) := mkO 12 b_law_keys
def m_law_keys : List D → R D := fun ds => (mo_law_keys ds).bind fun r => .ok (.lst r)
def h_law_values1 : Tg :=
    gTp 2 (gsCons (gNm 2) (gsCons (gNm 3) (gsNil)))
def g_law_values1 : DL.Env → Out :=
    sWp [2, 3] (sSeq (sIf (bOr (bNot (eTru (eCall dIsi (aCons (eV 2) (aCons (eC (.ty "int")) (aNil)))))) (eTru (eCall dIsi (aCons (eV 2) (aCons (eC (.ty "bool")) (aNil)))))) (sRet (eC (.bl false))) (sNx)) <|
    sSeq (sIf (bAnd (eTru (eV 1)) (eB (eOp dNe (eOp dIs (eV 3) (eC .non)) (eOp dNe (eV 2) (eC (.int 0)))))) (sRet (eC (.bl false))) (sNx)) <|
    sIf (eB (eOp dIsNot (eV 3) (eC .non))) (sIf (bOr (bNot (eTru (eCall dIsi (aCons (eV 3) (aCons (eC (.ty "int")) (aNil)))))) (bOr (eTru (eCall dIsi (aCons (eV 3) (aCons (eC (.ty "bool")) (aNil))))) (bOr (eB (eOp dLt (eV 3) (eC (.int 0)))) (bAnd (eTru (eV 1)) (eB (eOp dNe (eV 3) (eC (.int 0)))))))) (sRet (eC (.bl false))) (sNx)) (sNx))
def b_law_values : DL.Env → Out :=
    sSeq (sForDk (accV 0) itemsD h_law_values1 g_law_values1) <|
    sRet (eC (.bl true))
def m_law_values : List D → R D := mk 4 b_law_values
abbrev b_choices_at : DL.Env → Out := FQ.b_choices_at
abbrev mo_choices_at : List D → R (List D) := FQ.mo_choices_at
abbrev m_choices_at : List D → R D := FQ.m_choices_at
abbrev tb_rod_price : List (Str × (List D → R D)) := FP.tb_rod_price
abbrev b_least_of : DL.Env → Out := FQ.b_least_of
abbrev m_least_of : List D → R D := FQ.m_least_of
abbrev b_Price_price : DL.Env → Out := FP.b_Price_price
abbrev m_Price_price : List D → R D := FP.m_Price_price
abbrev b_law_frame : DL.Env → Out := LQ.b_law_frame
abbrev mo_law_frame : List D → R (List D) := LQ.mo_law_frame
abbrev m_law_frame : List D → R D := LQ.m_law_frame
abbrev b_law_standing : DL.Env → Out := LQ.b_law_standing
abbrev mo_law_standing : List D → R (List D) := LQ.mo_law_standing
abbrev m_law_standing : List D → R D := LQ.m_law_standing
def h_law_right1 : Tg :=
    gNm 2
def g_law_right1 : DL.Env → Out :=
    sWp [2] (sSeq (sIf (bOr (bNot (eTru (eCall dIsi (aCons (eOp dIx (eV 0) (eV 2)) (aCons (eC (.ty "dict")) (aNil)))))) (eB (eOp dNe (eFrz (oCall oSorted (aCons (eOp dIx (eV 0) (eV 2)) (aNil)))) (eOp dIx (eV 1) (eV 2))))) (sRet (eC (.bl false))) (sNx)) <|
    sIf (bNot (eTru (eFn 2 m_law_values (aCons (eOp dIx (eV 0) (eV 2)) (aCons (eOp dEq (eV 2) (eOp dSub (eCall dLen (aCons (eV 1) (aNil))) (eC (.int 1)))) (aNil)))))) (sRet (eC (.bl false))) (sNx))
def b_law_right : DL.Env → Out :=
    sSeq (sIf (bOr (bNot (eTru (eCall dIsi (aCons (eV 0) (aCons (eC (.ty "list")) (aNil)))))) (eB (eOp dNe (eCall dLen (aCons (eV 0) (aNil))) (eCall dLen (aCons (eV 1) (aNil)))))) (sRet (eC (.bl false))) (sNx)) <|
    sSeq (sFor (iCall iRange1 (aCons (eCall dLen (aCons (eV 1) (aNil))) (aNil))) h_law_right1 g_law_right1) <|
    sRet (eC (.bl true))
def m_law_right : List D → R D := mk 3 b_law_right
abbrev b_keys_of : DL.Env → Out := FQ.b_keys_of
abbrev mo_keys_of : List D → R (List D) := FQ.mo_keys_of
abbrev m_keys_of : List D → R D := FQ.m_keys_of
abbrev b_law_number : DL.Env → Out := LR.b_law_number
abbrev m_law_number : List D → R D := LR.m_law_number
def h_table_of2 : Tg :=
    gTp 2 (gsCons (gNm 6) (gsCons (gNm 10) (gsNil)))
def g_table_of2 : DL.Env → Out :=
    sWp [6, 10] (sPut 9 (eV 6) (eFn 4 m_least_of (aCons (eV 10) (aCons (eOp dIx (eV 1) (eV 8)) (aCons (eOwnIx 7 (eC (.int 0))) (aCons (eV 3) (aNil)))))))
def h_table_of1 : Tg :=
    gNm 8
def g_table_of1 : DL.Env → Out :=
    sWp [6, 8, 9, 10] (sSeq (sSetD 9 dNew) <|
    sSeq (sFgt [6] (sForDk (atDk 4 (eV 8)) itemsD h_table_of2 g_table_of2)) <|
    sFrz 9 (sFrz 7 (sSetO 7 (oOp oAdd (eFrz (oLst (aCons (eV 9) (aNil)))) (eV 7)))))
def h_table_of3 : Tg :=
    gNm 6
def g_table_of3 : DL.Env → Out :=
    sWp [6] (sSeq (sPut 5 (eV 6) (eC .non)) <|
    sIf (eB (eOp dEq (eV 6) (eC (.int 0)))) (sPut 5 (eV 6) (eC (.int 0))) (sNx))
def b_table_of : DL.Env → Out :=
    sSeq (sSet (gNm 4) (eFn 2 m_keys_of (aCons (eV 0) (aCons (eV 2) (aNil))))) <|
    sSeq (sSetD 5 dNew) <|
    sSeq (sForDk (atDk 4 (eUn dNeg (eC (.int 1)))) keysD h_table_of3 g_table_of3) <|
    sSeq (sFrz 5 (sSetO 7 (oLst (aCons (eV 5) (aNil))))) <|
    sSeq (sFgt [6] (sFor (iCall iRange3 (aCons (eOp dSub (eCall dLen (aCons (eV 0) (aNil))) (eC (.int 1))) (aCons (eUn dNeg (eC (.int 1))) (aCons (eUn dNeg (eC (.int 1))) (aNil))))) h_table_of1 g_table_of1)) <|
    sRetS 7
def mo_table_of : List D → R (List D) := mkO 11 b_table_of
def m_table_of : List D → R D := fun ds => (mo_table_of ds).bind fun r => .ok (.lst r)
def h_law1 : Tg :=
    gNm 6
def g_law1 : DL.Env → Out :=
    sWp [6, 7] (gTabs 7 [0, 1, 2, 4, 7] (oFn 4 mo_table_of (aCons (eOp dIx (eV 5) (eC (.int 0))) (aCons (eOp dIx (eV 5) (eC (.int 1))) (aCons (eV 3) (aCons (eV 6) (aNil)))))) (bNot (eTru (eBor 7 (eFn 2 m_law_right (aCons (eV 7) (aCons (eV 4) (aNil))))))) (sRet (eC (.bl false))) (eV 3) (eC (.str "more")) (eFrzD dNew))
def b_law : DL.Env → Out :=
    sSeq (sSet (gNm 1) (eFn 4 m_law_frame (aCons (eV 0) (aCons (eOp dAdd (eC (.int 1)) (eOp dMod (eFn 2 m_law_mixed (aCons (eV 0) (aCons (eC (.int 0)) (aNil)))) (eC (.int 6)))) (aCons (eC (.int 2)) (aCons (eC (.int 12)) (aNil))))))) <|
    sSeq (sSet (gNm 2) (eFn 3 m_law_standing (aCons (eV 0) (aCons (eV 1) (aCons (eC (.int 30)) (aNil)))))) <|
    sSeq (sSet (gNm 3) (eFn 2 m_law_number (aCons (eV 0) (aCons (eV 1) (aNil))))) <|
    sSeq (sSet (gNm 4) (eFn 2 m_law_keys (aCons (eV 1) (aCons (eV 3) (aNil))))) <|
    sSeq (sSet (gNm 5) (eFrz (oLst (aCons (eFrz (oCall oList (aCons (eV 1) (aNil)))) (aCons (eFrz (oCall oList (aCons (eV 2) (aNil)))) (aNil)))))) <|
    sSeq (sFor (iOf (eFrz (oLst (aCons (eNew0 "ByMoves") (aCons (eNew0 "ByGrips") (aCons (eNew0 "ByBeads") (aNil))))))) h_law1 g_law1) <|
    sSeq (sIf (eB (eOp dNe (eV 5) (eFrz (oLst (aCons (eV 1) (aCons (eV 2) (aNil))))))) (sRet (eC (.bl false))) (sNx)) <|
    sRet (eFn 2 m_law_right (aCons (eFn 4 m_table_of (aCons (eV 1) (aCons (eV 2) (aCons (eV 3) (aCons (eNew0 "ByMoves") (aNil)))))) (aCons (eV 4) (aNil))))
def m_law : List D → R D := mk 8 b_law
end K34
namespace K34
open PySem DL L2 LA FA FB FP FQ LR
theorem row_inO {f0 n0 kk Γ5 : Option Slot} {x : Lay} (ok : x.Ok) {w : Nat} (hw : w < 3) {s : List (Int × Int)} {i : Nat} (hi : i < s.length) {V V' : Int → Option Int} {K ks : List Int} (rest : List D) (hK : K.length ≤ 10000)
    (hks : ∀ k ∈ K, ∀ c ∈ choices x k, c.2 ∈ ks) (hV : ∀ k, V' k = minO (costs w (s.getD i (0, 0)) V (choices x k))) :
    loopF h_table_of2 g_table_of2 (K.map fun k => .tup [.int k, chG x k]) [f0, some (.val (.lst (s.map pairD))), n0, some (.val (prD w)), kk, Γ5, none, some (.own (tabD ks (oV V) :: rest)), some (.val (.int ((i : Nat)))), some (.dic [] []), none] =
      .nx [f0, some (.val (.lst (s.map pairD))), n0, some (.val (prD w)), kk, Γ5, none, some (.own (tabD ks (oV V) :: rest)), some (.val (.int ((i : Nat)))), some (.dic ((ded K).map Sum.inl) ((ded K).map (oV V'))), none] := by
  have l1 := for_map (h := h_table_of2) (g := g_table_of2) K (fun k => .tup [.int k, chG x k]) (fun j => [f0, some (.val (.lst (s.map pairD))), n0, some (.val (prD w)), kk, Γ5, none, some (.own (tabD ks (oV V) :: rest)), some (.val (.int ((i : Nat)))), some (.dic ((ded (K.take j)).map Sum.inl) ((ded (K.take j)).map (oV V'))), none]) (by
    intro j k hk
    have et : K.take (j + 1) = K.take j ++ [k] := by rw [List.take_succ, hk]; rfl
    have pt := put_tab (ded (K.take j)) (oV V') k
    have dl := ded_len (K.take j)
    rw [List.length_take] at dl
    have ix : dIx (.lst (s.map pairD)) (.int (i : Nat)) = .ok (pairD (s.getD i (0, 0))) := dIx_n (by
      rw [List.getElem?_map, List.getElem?_eq_getElem hi, List.getD_eq_getElem?_getD, List.getElem?_eq_getElem hi]
      rfl)
    have lo := least_of hw (s.getD i (0, 0)) V (cs := choices x k) (ks := ks) (by have := choices_len ok k; omega) (hks k (List.mem_of_getElem? hk))
    rw [show oV V' k = oD (minO (costs w (s.getD i (0, 0)) V (choices x k))) by show oD (V' k) = _; rw [hV]] at pt
    rw [et, ded_snoc]
    unfold chG
    simp_arith [Lay.ix0, Lay.ix1, Lay.ix2, Lay.ix3, Lay.tp, pr_0, pr_1, pr_tp, pr_isi, pr_len, prs_same, prs_nsame, lays_same, lays_nsame, h_table_of2, g_table_of2, ix, lo, pt])
  have e0 : ded (K.take 0) = [] := by rw [List.take_zero]; rfl
  rw [e0, List.take_length] at l1
  exact l1
theorem table_ofO {f : List Lay} (hf : ∀ x ∈ f, x.Ok) (hl : f.length ≤ 1000) {s : List (Int × Int)} (hs : s.length = f.length) {w : Nat} (hw : w < 3) {n : Int} (hb : ∀ i ≤ f.length, (kAt f n i).length ≤ 10000) :
    mo_table_of [.lst (f.map Lay.d), .lst (s.map pairD), .int n, prD w] = .ok (tabs f s w n f.length) := by
  have ko := keys_of hf hl hb
  unfold mo_table_of b_table_of
  generalize hR : (List.range f.length).map (rowK f n) ++ [tabD (ded (kAt f n f.length)) gE] = R at ko
  have hRl : atI R (-1) = some (tabD (ded (kAt f n f.length)) gE) := atI_l (by rw [← hR]; simp)
  have hRi : ∀ i, i < f.length → atI R (i : Nat) = some (rowK f n i) := fun i hi => atI_nat' (by
    rw [← hR, List.getElem?_append_left (by simpa using hi), List.getElem?_map, List.getElem?_range hi]
    rfl)
  have k1 := sForDk_e (f := keysD) (h := h_table_of3) (g := g_table_of3) (atDk_e (i := 4) (fx := eUn dNeg (eC (.int 1))) (Γ := [some (.val (.lst (f.map Lay.d))), some (.val (.lst (s.map pairD))), some (.val (.int (n))), some (.val (prD w)), some (.val (.lst R)), some (.dic [] []), none, none, none, none, none]) rfl rfl hRl)
  have e3 : h_table_of3 = FQ.h_table_of3 := rfl
  have e4 : g_table_of3 = FQ.g_table_of3 := rfl
  rw [keysD_tab, e3, e4, FQ.last_row f s w (ded (kAt f n f.length)) (by have := ded_len (kAt f n f.length); have := hb f.length (Nat.le_refl _); omega)] at k1
  rw [← e3, ← e4] at k1
  have l1 := fun Γ5 => for_dn (h := h_table_of1) (g := g_table_of1) ((f.length : Nat) - 1) f.length (fun k => [some (.val (.lst (f.map Lay.d))), some (.val (.lst (s.map pairD))), some (.val (.int (n))), some (.val (prD w)), some (.val (.lst R)), Γ5, none, some (.own (tabs f s w n k)), none, none, none]) (by
    intro k hk
    have e : ((f.length : Nat) : Int) - 1 + (k : Nat) * (-1) = ((f.length - 1 - k : Nat) : Int) := by omega
    rw [e]
    have hi : f.length - 1 - k < f.length := by omega
    have ok := lat_ok hf (f.length - 1 - k)
    obtain ⟨r, er⟩ := tabs_head f s w n (k := k) (by omega)
    have k2 := fun Γ6 Γ7 Γ9 Γ10 => sForDk_e (f := itemsD) (h := h_table_of2) (g := g_table_of2) (atDk_e (i := 4) (fx := eV 8) (Γ := [some (.val (.lst (f.map Lay.d))), some (.val (.lst (s.map pairD))), some (.val (.int (n))), some (.val (prD w)), some (.val (.lst R)), Γ5, Γ6, Γ7, some (.val (.int ((f.length - 1 - k : Nat)))), Γ9, Γ10]) rfl rfl (hRi _ hi))
    have ri := row_inO (f0 := some (.val (.lst (f.map Lay.d)))) (n0 := some (.val (.int (n)))) (kk := some (.val (.lst R))) (Γ5 := Γ5) ok hw (s := s) (i := f.length - 1 - k) (by omega) (V := vR f s w k) (V' := vR f s w (k + 1)) (K := ded (kAt f n (f.length - 1 - k))) (ks := ded (ded (kAt f n (f.length - k)))) r
      (by have := ded_len (kAt f n (f.length - 1 - k)); have := hb (f.length - 1 - k) (by omega); omega)
      (fun q hq c hc => by
        rw [mem_ded] at hq
        rw [mem_ded, mem_ded]
        have := rest_next hq hc
        rw [show f.length - 1 - k + 1 = f.length - k by omega] at this
        exact this) (fun q => rfl)
    rw [← er, ← itemsD_tab] at ri
    have et : rowT f s w n (f.length - 1 - k) = .dk ((ded (ded (kAt f n (f.length - 1 - k)))).map Sum.inl) ((ded (ded (kAt f n (f.length - 1 - k)))).map (oV (vR f s w (k + 1)))) := by
      unfold rowT tabD
      rw [show f.length - (f.length - 1 - k) = k + 1 by omega]
    have ts := tabs_succ f s w n hk
    rw [et] at ts
    have al : (tabs f s w n k).length = k + 1 := by unfold tabs; rw [List.length_map, List.length_range]
    have ad := oAdd_l (xs := [.dk ((ded (ded (kAt f n (f.length - 1 - k)))).map Sum.inl) ((ded (ded (kAt f n (f.length - 1 - k)))).map (oV (vR f s w (k + 1))))]) (ys := tabs f s w n k) (by rw [al]; show 1 + _ ≤ _; omega)
    rw [ts]
    simp_arith [Lay.ix0, Lay.ix1, Lay.ix2, Lay.ix3, Lay.tp, pr_0, pr_1, pr_tp, pr_isi, pr_len, prs_same, prs_nsame, lays_same, lays_nsame, h_table_of1, g_table_of1, dNew, k2, ri, Out.calmL, ad, Env.frz, Slot.frz, List.singleton_append])
  have t0 : tabs f s w n 0 = [.dk ((ded (ded (kAt f n f.length))).map Sum.inl) ((ded (ded (kAt f n f.length))).map (oV (vR f s w 0)))] := by
    unfold tabs
    show [rowT f s w n (f.length - 0 + 0)] = _
    unfold rowT tabD
    rw [Nat.sub_zero, Nat.add_zero, Nat.sub_self]
  have ir : iRange3 [.int ((f.length : Nat) - 1), .int (-1), .int (-1)] = .ok (rngDn ((f.length : Nat) - 1) f.length) := by
    unfold iRange3
    have h1 : inR62 ((f.length : Nat) - 1 : Int) = true := by
      unfold inR62
      simp only [Bool.and_eq_true, decide_eq_true_eq]
      omega
    show (if (inR62 ((f.length : Nat) - 1 : Int) && inR62 (-1) && decide ((-1 : Int) = -1)) = true then DL.R.ok (rngDn ((f.length : Nat) - 1) ((f.length : Nat) - 1 - -1 : Int).toNat) else DL.R.stuck) = _
    rw [h1, if_pos (by decide)]
    rw [show ((f.length : Nat) - 1 - -1 : Int).toNat = f.length by omega]
  rw [t0] at l1
  simp_arith [Lay.ix0, Lay.ix1, Lay.ix2, Lay.ix3, Lay.tp, pr_0, pr_1, pr_tp, pr_isi, pr_len, prs_same, prs_nsame, lays_same, lays_nsame, ko, dNew, k1, Out.calmL, ir, l1, Env.frz, Slot.frz]
theorem table_ofL {f : List Lay} (hf : ∀ x ∈ f, x.Ok) (hl : f.length ≤ 1000) {s : List (Int × Int)} (hs : s.length = f.length) {w : Nat} (hw : w < 3) {n : Int} (hb : ∀ i ≤ f.length, (kAt f n i).length ≤ 10000) :
    m_table_of [.lst (f.map Lay.d), .lst (s.map pairD), .int n, prD w] = .ok (.lst (tabs f s w n f.length)) := by
  show R.bind (mo_table_of _) _ = _
  rw [table_ofO hf hl hs hw hb]
  rfl
def Lf (x : Lay) (k h lo m : Int) : Prop := 0 ≤ k - h * x.w - lo ∧ (k - h * x.w - lo) % x.b = 0 ∧ m = (k - h * x.w - lo) / x.b
def rowSl (f0 n0 : Option Slot) (due : List D) (x : Lay) (B : List Int) (k9 k10 : Option Slot) (k8 : Option Slot) : DL.Env := [f0, n0, some (.own (due)), some (.val (.int (x.u))), some (.val (.int (x.w))), some (.val (.int (x.l))), some (.val (.int (x.b))), some (.dic (B.map Sum.inl) (B.map gT)), k8, k9, k10, none]
section
variable {f0 n0 : Option Slot} {due : List D} {x : Lay} {S : List Int} {k : Int}
theorem low_loop (ok : x.Ok) (hS : ∀ h lo m, 0 ≤ h → h ≤ x.u → 0 ≤ lo → lo ≤ x.l → Lf x k h lo m → m ∈ S) (hb : ∀ B : List Int, B.Nodup → (∀ m ∈ B, m ∈ S) → B.length ≤ 147) {h : Int} (h0 : 0 ≤ h) (h1 : h ≤ x.u) {B : List Int} (nd : B.Nodup) (hB : ∀ m ∈ B, m ∈ S) :
    ∃ B', B'.Nodup ∧ (∀ m ∈ B', m ∈ S) ∧ (∀ m, m ∈ B' ↔ m ∈ B ∨ ∃ lo, 0 ≤ lo ∧ lo ≤ x.l ∧ Lf x k h lo m) ∧
      loopF h_law_keys5 g_law_keys5 (rngL 0 (x.l + 1).toNat) (rowSl f0 n0 due x B (some (.val (.int (h)))) none (some (.val (.int (k))))) = .nx (rowSl f0 n0 due x B' (some (.val (.int (h)))) none (some (.val (.int (k))))) := by
  have b2 := ok.b2
  have b25 := ok.b25
  have w1 := ok.w1
  have w20 := ok.w20
  have l0 := ok.l0
  obtain ⟨Γ, lp, B', nd', hB', hm, rfl⟩ := for_inv (h := h_law_keys5) (g := g_law_keys5) (Γ := rowSl f0 n0 due x B (some (.val (.int (h)))) none (some (.val (.int (k))))) (List.range (x.l + 1).toNat) (fun (i : Nat) => D.int (i : Nat)) (fun i Γ => ∃ B' : List Int, B'.Nodup ∧ (∀ m ∈ B', m ∈ S) ∧ (∀ m, m ∈ B' ↔ m ∈ B ∨ ∃ lo : Int, 0 ≤ lo ∧ lo < (i : Nat) ∧ Lf x k h lo m) ∧ Γ = rowSl f0 n0 due x B' (some (.val (.int (h)))) none (some (.val (.int (k)))))
    ⟨B, nd, hB, fun m => ⟨fun q => .inl q, fun q => q.elim id fun ⟨lo, a, b, _⟩ => by omega⟩, rfl⟩ (by
    rintro i v Γ hv ⟨B1, nd1, hB1, hm1, rfl⟩
    have hi := (List.getElem?_eq_some_iff.mp hv).1
    rw [List.length_range] at hi
    rw [List.getElem?_range hi] at hv
    cases hv
    have len := hb B1 nd1 hB1
    have mw := dMul_r (i := h) (j := x.w) (by omega) (by omega)
    have md := dMod_i (i := k - h * x.w - (i : Nat)) (j := x.b) (by omega)
    have dv := dDiv_i (i := k - h * x.w - (i : Nat)) (j := x.b) (by omega) (by omega)
    by_cases c : 0 ≤ k - h * x.w - (i : Nat) ∧ (k - h * x.w - (i : Nat)) % x.b = 0
    · obtain ⟨c1, c2⟩ := c
      have lf : Lf x k h (i : Nat) ((k - h * x.w - (i : Nat)) / x.b) := ⟨c1, c2, rfl⟩
      have inS := hS h (i : Nat) _ h0 h1 (by omega) (by omega) lf
      refine ⟨_, ?_, addK B1 ((k - h * x.w - (i : Nat)) / x.b), nodup_addK nd1, fun m hm => ?_, fun m => ?_, rfl⟩
      · have pt := put_tab B1 gT ((k - h * x.w - (i : Nat)) / x.b)
        have kl : (B1.map (Sum.inl (β := Str))).length ≤ 1000000 := by rw [List.length_map]; omega
        rw [show gT ((k - h * x.w - (i : Nat)) / x.b) = .bl true from rfl] at pt
        unfold rowSl
        simp_arith [Lay.ix0, Lay.ix1, Lay.ix2, Lay.ix3, Lay.tp, pr_0, pr_1, pr_tp, pr_isi, pr_len, prs_same, prs_nsame, lays_same, lays_nsame, h_law_keys5, g_law_keys5, mw, md, dv, c1, c2, pt]
      · rw [mem_addK] at hm
        rcases hm with hm | rfl
        · exact hB1 m hm
        · exact inS
      · rw [mem_addK, hm1]
        constructor
        · rintro ((q | ⟨lo, a, b, d⟩) | rfl)
          · exact .inl q
          · exact .inr ⟨lo, a, by omega, d⟩
          · exact .inr ⟨(i : Nat), by omega, by omega, lf⟩
        · rintro (q | ⟨lo, a, b, d⟩)
          · exact .inl (.inl q)
          · by_cases e : lo = (i : Nat)
            · subst e
              exact .inr d.2.2
            · exact .inl (.inr ⟨lo, a, by omega, d⟩)
    · refine ⟨_, ?_, B1, nd1, hB1, fun m => ?_, rfl⟩
      · by_cases c1 : 0 ≤ k - h * x.w - (i : Nat)
        · have c2 : ¬ (k - h * x.w - (i : Nat)) % x.b = 0 := fun q => c ⟨c1, q⟩
          unfold rowSl
          simp_arith [Lay.ix0, Lay.ix1, Lay.ix2, Lay.ix3, Lay.tp, pr_0, pr_1, pr_tp, pr_isi, pr_len, prs_same, prs_nsame, lays_same, lays_nsame, h_law_keys5, g_law_keys5, mw, md, dv, c1, c2]
        · unfold rowSl
          simp_arith [Lay.ix0, Lay.ix1, Lay.ix2, Lay.ix3, Lay.tp, pr_0, pr_1, pr_tp, pr_isi, pr_len, prs_same, prs_nsame, lays_same, lays_nsame, h_law_keys5, g_law_keys5, mw, c1]
      · rw [hm1]
        constructor
        · rintro (q | ⟨lo, a, b, d⟩)
          · exact .inl q
          · exact .inr ⟨lo, a, by omega, d⟩
        · rintro (q | ⟨lo, a, b, d⟩)
          · exact .inl q
          · by_cases e : lo = (i : Nat)
            · subst e
              exact absurd ⟨d.1, d.2.1⟩ c
            · exact .inr ⟨lo, a, by omega, d⟩)
  rw [← rngL_0] at lp
  refine ⟨B', nd', hB', fun m => ?_, lp⟩
  rw [hm, List.length_range]
  constructor
  · rintro (q | ⟨lo, a, b, d⟩)
    · exact .inl q
    · exact .inr ⟨lo, a, by omega, d⟩
  · rintro (q | ⟨lo, a, b, d⟩)
    · exact .inl q
    · exact .inr ⟨lo, a, by omega, d⟩
theorem high_loop (ok : x.Ok) (hS : ∀ h lo m, 0 ≤ h → h ≤ x.u → 0 ≤ lo → lo ≤ x.l → Lf x k h lo m → m ∈ S) (hb : ∀ B : List Int, B.Nodup → (∀ m ∈ B, m ∈ S) → B.length ≤ 147) {B : List Int} (nd : B.Nodup) (hB : ∀ m ∈ B, m ∈ S) :
    ∃ B', B'.Nodup ∧ (∀ m ∈ B', m ∈ S) ∧ (∀ m, m ∈ B' ↔ m ∈ B ∨ ∃ h lo, 0 ≤ h ∧ h ≤ x.u ∧ 0 ≤ lo ∧ lo ≤ x.l ∧ Lf x k h lo m) ∧
      loopF h_law_keys4 g_law_keys4 (rngL 0 (x.u + 1).toNat) (rowSl f0 n0 due x B none none (some (.val (.int (k))))) = .nx (rowSl f0 n0 due x B' none none (some (.val (.int (k))))) := by
  have l0 := ok.l0
  have u0 := ok.u0
  have u6 := ok.u6
  have l24 := ok.l24
  obtain ⟨Γ, lp, B', nd', hB', hm, rfl⟩ := for_inv (h := h_law_keys4) (g := g_law_keys4) (Γ := rowSl f0 n0 due x B none none (some (.val (.int (k))))) (List.range (x.u + 1).toNat) (fun (i : Nat) => D.int (i : Nat)) (fun i Γ => ∃ B' : List Int, B'.Nodup ∧ (∀ m ∈ B', m ∈ S) ∧ (∀ m, m ∈ B' ↔ m ∈ B ∨ ∃ h lo : Int, 0 ≤ h ∧ h < (i : Nat) ∧ 0 ≤ lo ∧ lo ≤ x.l ∧ Lf x k h lo m) ∧ Γ = rowSl f0 n0 due x B' none none (some (.val (.int (k)))))
    ⟨B, nd, hB, fun m => ⟨fun q => .inl q, fun q => q.elim id fun ⟨h, lo, a, b, _⟩ => by omega⟩, rfl⟩ (by
    rintro i v Γ hv ⟨B1, nd1, hB1, hm1, rfl⟩
    have hi := (List.getElem?_eq_some_iff.mp hv).1
    rw [List.length_range] at hi
    rw [List.getElem?_range hi] at hv
    cases hv
    obtain ⟨B2, nd2, hB2, hm2, lp⟩ := low_loop (f0 := f0) (n0 := n0) (due := due) ok hS hb (h := (i : Nat)) (by omega) (by omega) nd1 hB1
    have rg := iRng1 (j := x.l + 1) (by omega) (by omega)
    refine ⟨_, ?_, B2, nd2, hB2, fun m => ?_, rfl⟩
    · unfold rowSl at lp ⊢
      simp_arith [Lay.ix0, Lay.ix1, Lay.ix2, Lay.ix3, Lay.tp, pr_0, pr_1, pr_tp, pr_isi, pr_len, prs_same, prs_nsame, lays_same, lays_nsame, h_law_keys4, g_law_keys4, rg, lp]
    · rw [hm2, hm1]
      constructor
      · rintro ((q | ⟨h, lo, a, b, d⟩) | ⟨lo, a, b, d⟩)
        · exact .inl q
        · exact .inr ⟨h, lo, a, by omega, d⟩
        · exact .inr ⟨(i : Nat), lo, by omega, by omega, a, b, d⟩
      · rintro (q | ⟨h, lo, a, b, c, d, e⟩)
        · exact .inl (.inl q)
        · by_cases eh : h = (i : Nat)
          · subst eh
            exact .inr ⟨lo, c, d, e⟩
          · exact .inl (.inr ⟨h, lo, a, by omega, c, d, e⟩))
  rw [← rngL_0] at lp
  refine ⟨B', nd', hB', fun m => ?_, lp⟩
  rw [hm, List.length_range]
  constructor
  · rintro (q | ⟨h, lo, a, b, d⟩)
    · exact .inl q
    · exact .inr ⟨h, lo, a, by omega, d⟩
  · rintro (q | ⟨h, lo, a, b, d⟩)
    · exact .inl q
    · exact .inr ⟨h, lo, a, by omega, d⟩
theorem key_loop (ok : x.Ok) {K : List Int} (hS : ∀ k ∈ K, ∀ h lo m, 0 ≤ h → h ≤ x.u → 0 ≤ lo → lo ≤ x.l → Lf x k h lo m → m ∈ S) (hb : ∀ B : List Int, B.Nodup → (∀ m ∈ B, m ∈ S) → B.length ≤ 147) :
    ∃ B', B'.Nodup ∧ (∀ m, m ∈ B' ↔ ∃ k ∈ K, ∃ h lo, 0 ≤ h ∧ h ≤ x.u ∧ 0 ≤ lo ∧ lo ≤ x.l ∧ Lf x k h lo m) ∧
      loopF h_law_keys3 g_law_keys3 (K.map D.int) (rowSl f0 n0 due x [] none none none) = .nx (rowSl f0 n0 due x B' none none none) := by
  have u0 := ok.u0
  have u6 := ok.u6
  obtain ⟨Γ, lp, B', nd', hB', hm, rfl⟩ := for_inv (h := h_law_keys3) (g := g_law_keys3) (Γ := rowSl f0 n0 due x [] none none none) K D.int (fun i Γ => ∃ B' : List Int, B'.Nodup ∧ (∀ m ∈ B', m ∈ S) ∧ (∀ m, m ∈ B' ↔ ∃ k ∈ K.take i, ∃ h lo, 0 ≤ h ∧ h ≤ x.u ∧ 0 ≤ lo ∧ lo ≤ x.l ∧ Lf x k h lo m) ∧ Γ = rowSl f0 n0 due x B' none none none)
    ⟨[], List.nodup_nil, (fun m hm => nomatch hm), (fun m => ⟨(fun q => nomatch q), (fun ⟨k, hk, _⟩ => by rw [List.take_zero] at hk; exact nomatch hk)⟩), rfl⟩ (by
    rintro i k Γ hk ⟨B1, nd1, hB1, hm1, rfl⟩
    obtain ⟨B2, nd2, hB2, hm2, lp⟩ := high_loop (f0 := f0) (n0 := n0) (due := due) (k := k) ok (hS k (List.mem_of_getElem? hk)) hb nd1 hB1
    have rg := iRng1 (j := x.u + 1) (by omega) (by omega)
    have et : K.take (i + 1) = K.take i ++ [k] := by rw [List.take_succ, hk]; rfl
    refine ⟨_, ?_, B2, nd2, hB2, fun m => ?_, rfl⟩
    · unfold rowSl at lp ⊢
      simp_arith [Lay.ix0, Lay.ix1, Lay.ix2, Lay.ix3, Lay.tp, pr_0, pr_1, pr_tp, pr_isi, pr_len, prs_same, prs_nsame, lays_same, lays_nsame, h_law_keys3, g_law_keys3, rg, lp]
    · rw [hm2, hm1, et]
      constructor
      · rintro (⟨k', a, d⟩ | d)
        · exact ⟨k', List.mem_append_left _ a, d⟩
        · exact ⟨k, List.mem_append_right _ (List.mem_singleton.mpr rfl), d⟩
      · rintro ⟨k', a, d⟩
        rcases List.mem_append.mp a with a | a
        · exact .inl ⟨k', a, d⟩
        · rw [List.mem_singleton.mp a] at d
          exact .inr d)
  rw [List.take_length] at hm
  exact ⟨B', nd', hm, lp⟩
end
theorem mem_next {f : List Lay} (hf : ∀ x ∈ f, x.Ok) {n : Int} {i : Nat} {m : Int} : (∃ k ∈ kAt f n i, ∃ h lo, 0 ≤ h ∧ h ≤ (lat f i).u ∧ 0 ≤ lo ∧ lo ≤ (lat f i).l ∧ Lf (lat f i) k h lo m) ↔ m ∈ kAt f n (i + 1) := by
  have ok := lat_ok hf i
  have b2 := ok.b2
  show _ ↔ m ∈ srtI (rests (lat f i) (kAt f n i))
  rw [(srtI_perm _).mem_iff]
  show _ ↔ m ∈ (kAt f n i).foldl (rests1 (lat f i)) []
  rw [mem_rests]
  constructor
  · rintro ⟨k, hk, h, lo, h0, h1, l0, l1, p1, p2, rfl⟩
    refine .inr ⟨k, hk, ((h, lo), (k - h * (lat f i).w - lo) / (lat f i).b), ?_, rfl⟩
    refine FQ.mem_choices (mem_rods ok h0 h1 l0 l1) (by omega) (Int.ediv_nonneg p1 (by omega)) ?_
    have := Int.mul_ediv_add_emod (k - h * (lat f i).w - lo) (lat f i).b
    show k - (h * (lat f i).w + lo) = _
    omega
  · rintro (q | ⟨k, hk, c, hc, rfl⟩)
    · cases q
    · obtain ⟨c1, c2, c3⟩ := FQ.choices_mem (by omega) hc
      obtain ⟨r1, r2, r3, r4⟩ := rods_fit ok c1
      have c3 : k - (c.1.1 * (lat f i).w + c.1.2) = (lat f i).b * c.2 := c3
      have e : k - c.1.1 * (lat f i).w - c.1.2 = (lat f i).b * c.2 := by omega
      refine ⟨k, hk, c.1.1, c.1.2, r1, r2, r3, r4, ?_, ?_, ?_⟩
      · rw [e]; exact Int.mul_nonneg (by omega) c2
      · rw [e]; exact Int.mul_emod_right _ _
      · rw [e, Int.mul_ediv_cancel_left _ (by omega)]
theorem same_srt {a b : List Int} (na : a.Nodup) (nb : b.Nodup) (h : ∀ m, m ∈ a ↔ m ∈ b) : srtI a = srtI b :=
  (srtI_uni ((srtI_perm a).trans ((List.perm_ext_iff_of_nodup na nb).mpr h)) (srtI_pw a))
def dueL (f : List Lay) (n : Int) : List D := (List.range (f.length + 1)).map fun j => D.lst ((srtI (kAt f n j)).map D.int)
theorem atO_e {i : Nat} {fx : DL.Env → R D} {Γ : DL.Env} {ds : List D} {k : Int} {ks : List Key} {vs : List D} (h1 : Env.at_ Γ i = some (.own ds)) (h2 : fx Γ = .ok (.int k)) (h3 : atI ds k = some (.dk ks vs)) : atDkO i fx Γ = some (ks, vs) := by
  unfold atDkO
  rw [h1, h2]
  dsimp only
  rw [h3]
theorem law_keys {f : List Lay} (hf : ∀ x ∈ f, x.Ok) (hl : f.length ≤ 1000) (n : Int) : m_law_keys [.lst (f.map Lay.d), .int n] = .ok (.lst (dueL f n)) := by
  obtain ⟨Γ, lp, Ks, kl, hK, rfl⟩ := for_inv (h := h_law_keys2) (g := g_law_keys2) (Γ := [some (.val (.lst (f.map Lay.d))), some (.val (.int (n))), some (.own ([tabD [n] gT])), none, none, none, none, none, none, none, none, none]) f Lay.d (fun i Γ => ∃ Ks : List (List Int), Ks.length = i + 1 ∧ (∀ j K, Ks[j]? = some K → K.Nodup ∧ ∀ m, m ∈ K ↔ m ∈ kAt f n j) ∧ Γ = [some (.val (.lst (f.map Lay.d))), some (.val (.int (n))), some (.own (Ks.map fun K => tabD K gT)), none, none, none, none, none, none, none, none, none])
    ⟨[[n]], rfl, (fun j K e => by
      match j, e with
      | 0, e => cases e; exact ⟨by simp, fun m => Iff.rfl⟩), rfl⟩ (by
    rintro i x Γ hx ⟨Ks, kl, hK, rfl⟩
    have hi : i < f.length := (List.getElem?_eq_some_iff.mp hx).1
    have ex := lat_of hx
    have ok := hf x (List.mem_of_getElem? hx)
    obtain ⟨K, ek⟩ : ∃ K, Ks[i]? = some K := ⟨Ks[i], List.getElem?_eq_getElem (by omega)⟩
    obtain ⟨nd, hm⟩ := hK i K ek
    obtain ⟨lo_, hin⟩ := kAt_in hf n (i + 1)
    obtain ⟨B, nB, mB, k3⟩ := key_loop (f0 := some (.val (.lst (f.map Lay.d)))) (n0 := some (.val (.int (n)))) (due := Ks.map fun K => tabD K gT) (x := x) ok (K := K) (S := kAt f n (i + 1)) (fun k hk h lo m h0 h1 l0 l1 p => by
      rw [← mem_next hf]
      rw [← ex] at h1 l1 p
      exact ⟨k, (hm k).mp hk, h, lo, h0, h1, l0, l1, p⟩) (fun B nd hB => len_range 147 B lo_ nd fun k hk => hin k (hB k hk))
    refine ⟨_, ?_, Ks ++ [B], by rw [List.length_append, kl]; rfl, fun j K' e => ?_, rfl⟩
    · have la : atI (Ks.map fun K => tabD K gT) (-1) = some (.dk (K.map Sum.inl) (K.map gT)) := atI_l (by
        rw [List.length_map, kl, Nat.add_sub_cancel, List.getElem?_map, ek]
        rfl)
      have k2 := sForDk_e (f := keysD) (h := h_law_keys3) (g := g_law_keys3) (atO_e (i := 2) (fx := eUn dNeg (eC (.int 1))) (Γ := [some (.val (.lst (f.map Lay.d))), some (.val (.int (n))), some (.own (Ks.map fun K => tabD K gT)), some (.val (.int (x.u))), some (.val (.int (x.w))), some (.val (.int (x.l))), some (.val (.int (x.b))), some (.dic [] []), none, none, none, none]) rfl rfl la)
      unfold rowSl at k3
      have k3 : loopF h_law_keys3 g_law_keys3 (K.map D.int) [some (.val (.lst (f.map Lay.d))), some (.val (.int (n))), some (.own (Ks.map fun K => tabD K gT)), some (.val (.int (x.u))), some (.val (.int (x.w))), some (.val (.int (x.l))), some (.val (.int (x.b))), some (.dic [] []), none, none, none, none] = _ := k3
      rw [keysD_tab, k3] at k2
      have ll : (Ks.map fun K => tabD K gT).length < 16777216 := by rw [List.length_map, kl]; omega
      have em : (Ks ++ [B]).map (fun K => tabD K gT) = (Ks.map fun K => tabD K gT) ++ [.dk (B.map Sum.inl) (B.map gT)] := by rw [List.map_append]; rfl
      rw [em]
      generalize (Ks.map fun K => tabD K gT) = due at *
      simp_arith [Lay.ix0, Lay.ix1, Lay.ix2, Lay.ix3, Lay.tp, pr_0, pr_1, pr_tp, pr_isi, pr_len, prs_same, prs_nsame, lays_same, lays_nsame, h_law_keys2, g_law_keys2, dNew, k2, Out.calmL, Env.frz, Slot.frz, ll]
    · by_cases hj : j < Ks.length
      · rw [List.getElem?_append_left hj] at e
        exact hK j K' e
      · rw [List.getElem?_append_right (by omega)] at e
        have : j - Ks.length = 0 := by
          have := (List.getElem?_eq_some_iff.mp e).1
          rw [List.length_singleton] at this
          omega
        rw [this] at e
        have e : some B = some K' := e
        cases e
        refine ⟨nB, fun m => ?_⟩
        rw [mB, show j = i + 1 by omega, ← mem_next hf, ex]
        constructor
        · rintro ⟨k, a, d⟩; exact ⟨k, (hm k).mp a, d⟩
        · rintro ⟨k, a, d⟩; exact ⟨k, (hm k).mpr a, d⟩)
  have lc := oLc_map (fi := iOf (eV 2)) (h := gNm 7) (fe := le_law_keys1) (vs := [7]) (Γ := [some (.val (.lst (f.map Lay.d))), some (.val (.int (n))), some (.val (.lst (Ks.map fun K => tabD K gT))), none, none, none, none, none, none, none, none, none]) Ks (fun K => tabD K gT) (fun K => D.lst ((srtI K).map D.int)) (by
    generalize (Ks.map fun K => tabD K gT) = ds
    simp_arith [Lay.ix0, Lay.ix1, Lay.ix2, Lay.ix3, Lay.tp, pr_0, pr_1, pr_tp, pr_isi, pr_len, prs_same, prs_nsame, lays_same, lays_nsame]) (by rw [kl]; show f.length + 1 ≤ 16777216; omega) (by
    intro K hK'
    obtain ⟨j, ej⟩ := List.getElem?_of_mem hK'
    obtain ⟨nd, hm⟩ := hK j K ej
    obtain ⟨lo_, hin⟩ := kAt_in hf n j
    have len := len_range 147 K lo_ nd fun k hk => hin k ((hm k).mp hk)
    have so := oSorted_i (js := K) (ds := K.map gT) (by omega)
    have so : oSorted [tabD K gT] = .ok ((srtI K).map D.int) := so
    generalize tabD K gT = td at so ⊢
    simp_arith [Lay.ix0, Lay.ix1, Lay.ix2, Lay.ix3, Lay.tp, pr_0, pr_1, pr_tp, pr_isi, pr_len, prs_same, prs_nsame, lays_same, lays_nsame, le_law_keys1, so])
  have ed : Ks.map (fun K => D.lst ((srtI K).map D.int)) = dueL f n := by
    apply List.ext_getElem?
    intro j
    unfold dueL
    rw [List.getElem?_map, List.getElem?_map]
    by_cases hj : j < f.length + 1
    · rw [List.getElem?_range hj]
      obtain ⟨K, ek⟩ : ∃ K, Ks[j]? = some K := ⟨Ks[j], List.getElem?_eq_getElem (by omega)⟩
      obtain ⟨nd, hm⟩ := hK j K ek
      rw [ek]
      show some (D.lst ((srtI K).map D.int)) = some (D.lst ((srtI (kAt f n j)).map D.int))
      rw [same_srt nd (nodup_kAt f n j) hm]
    · rw [List.getElem?_eq_none (by omega), List.getElem?_eq_none (by rw [List.length_range]; omega)]
      rfl
  rw [ed] at lc
  have e0 : eDisp (pCons (eV 1) (eC (.bl true)) (pNil)) [some (.val (.lst (f.map Lay.d))), some (.val (.int (n))), none, none, none, none, none, none, none, none, none, none] = .ok (tabD [n] gT) := by
    have mg : ∀ a : D, mrgD [.inl n] [a] ([], []) = ([.inl n], [a]) := fun a => rfl
    generalize D.lst (f.map Lay.d) = fd
    simp_arith [Lay.ix0, Lay.ix1, Lay.ix2, Lay.ix3, Lay.tp, pr_0, pr_1, pr_tp, pr_isi, pr_len, prs_same, prs_nsame, lays_same, lays_nsame, eDisp, pCons, pNil, dKey_i, mg]
    rfl
  show R.bind (mo_law_keys [.lst (f.map Lay.d), .int n]) _ = _
  have : mo_law_keys [.lst (f.map Lay.d), .int n] = .ok (dueL f n) := by
    generalize (Ks.map fun K => tabD K gT) = ds at lp lc
    generalize tabD [n] gT = t0 at e0 lp
    generalize dueL f n = due at lc ⊢
    unfold mo_law_keys b_law_keys
    generalize eDisp (pCons (eV 1) (eC (.bl true)) (pNil)) = E at e0 ⊢
    generalize f.map Lay.d = fd at *
    simp_arith [Lay.ix0, Lay.ix1, Lay.ix2, Lay.ix3, Lay.tp, pr_0, pr_1, pr_tp, pr_isi, pr_len, prs_same, prs_nsame, lays_same, lays_nsame, e0, lp, lc, Env.frz, Slot.frz]
  rw [this]
  rfl
theorem rp_0 (w : Nat) (p q : Int × Int) : 0 ≤ rp w p q := by
  unfold rp b01
  split
  · split <;> split <;> decide
  · split
    · split <;> decide
    · split <;> split <;> omega
theorem vR_nonneg {f : List Lay} {s : List (Int × Int)} {w : Nat} : ∀ (j : Nat) (k v : Int), vR f s w j k = some v → 0 ≤ v
  | 0, k, v, h => by
    have h : (if k = 0 then some (0 : Int) else none) = some v := h
    split at h
    · cases h; exact Int.le_refl 0
    · cases h
  | j + 1, k, v, h => by
    have h : minO (costs w (s.getD (f.length - 1 - j) (0, 0)) (vR f s w j) (choices (lat f (f.length - 1 - j)) k)) = some v := h
    obtain ⟨hm, _⟩ := minO_mem h
    obtain ⟨c, _, hc⟩ := List.mem_filterMap.mp hm
    unfold cost at hc
    cases e : vR f s w j c.2 with
    | none => rw [e] at hc; cases hc
    | some u =>
      rw [e] at hc
      have hc : some (rp w (s.getD (f.length - 1 - j) (0, 0)) c.1 + u) = some v := hc
      cases hc
      have := vR_nonneg j c.2 u e
      have := rp_0 w (s.getD (f.length - 1 - j) (0, 0)) c.1
      omega
theorem law_values {ks : List Int} {V : Int → Option Int} {b : Bool} (hV : ∀ k v, V k = some v → 0 ≤ v) (hb : b = true → ∀ k, V k = if k = 0 then some 0 else none) : m_law_values [tabD ks (oV V), .bl b] = .ok (.bl true) := by
  have lp := for_map (h := h_law_values1) (g := g_law_values1) ks (fun k => .tup [.int k, oV V k]) (fun _ => [some (.val (tabD ks (oV V))), some (.val (.bl b)), none, none]) (by
    intro i k hk
    have ov : oV V k = oD (V k) := rfl
    have i1 : dIsi [.int k, .ty "int"] = .ok (.bl true) := rfl
    have i2 : dIsi [.int k, .ty "bool"] = .ok (.bl false) := rfl
    have tt : dNe (.bl true) (.bl true) = .ok (.bl false) := rfl
    have ff : dNe (.bl false) (.bl false) = .ok (.bl false) := rfl
    rw [ov]
    generalize tabD ks (oV V) = td
    cases e : V k with
    | none =>
      have od : oD none = .non := rfl
      rw [od]
      cases b with
      | false => simp_arith [Lay.ix0, Lay.ix1, Lay.ix2, Lay.ix3, Lay.tp, pr_0, pr_1, pr_tp, pr_isi, pr_len, prs_same, prs_nsame, lays_same, lays_nsame, h_law_values1, g_law_values1, i1, i2]
      | true =>
        have := hb rfl k
        rw [e] at this
        have k0 : ¬ k = 0 := fun q => by rw [if_pos q] at this; cases this
        simp_arith [Lay.ix0, Lay.ix1, Lay.ix2, Lay.ix3, Lay.tp, pr_0, pr_1, pr_tp, pr_isi, pr_len, prs_same, prs_nsame, lays_same, lays_nsame, h_law_values1, g_law_values1, i1, i2, k0, tt]
    | some v =>
      have v0 := hV k v e
      have od : oD (some v) = .int v := rfl
      rw [od]
      have i3 : dIsi [.int v, .ty "int"] = .ok (.bl true) := rfl
      have i4 : dIsi [.int v, .ty "bool"] = .ok (.bl false) := rfl
      have v1 : ¬ v < 0 := by omega
      cases b with
      | false => simp_arith [Lay.ix0, Lay.ix1, Lay.ix2, Lay.ix3, Lay.tp, pr_0, pr_1, pr_tp, pr_isi, pr_len, prs_same, prs_nsame, lays_same, lays_nsame, h_law_values1, g_law_values1, i1, i2, i3, i4, v1]
      | true =>
        have := hb rfl k
        rw [e] at this
        have k0 : k = 0 := by
          by_cases q : k = 0
          · exact q
          · rw [if_neg q] at this; cases this
        subst k0
        rw [if_pos rfl] at this
        have vz : v = 0 := by cases this; rfl
        subst vz
        simp_arith [Lay.ix0, Lay.ix1, Lay.ix2, Lay.ix3, Lay.tp, pr_0, pr_1, pr_tp, pr_isi, pr_len, prs_same, prs_nsame, lays_same, lays_nsame, h_law_values1, g_law_values1, i1, i2, i3, i4, v1, ff])
  rw [← itemsD_tab] at lp
  have k1 := sForDk_e (acc := accV 0) (f := itemsD) (h := h_law_values1) (g := g_law_values1) (Γ := [some (.val (tabD ks (oV V))), some (.val (.bl b)), none, none]) (ks := ks.map Sum.inl) (vs := ks.map (oV V)) rfl
  rw [lp] at k1
  unfold m_law_values b_law_values
  generalize tabD ks (oV V) = td at *
  simp_arith [Lay.ix0, Lay.ix1, Lay.ix2, Lay.ix3, Lay.tp, pr_0, pr_1, pr_tp, pr_isi, pr_len, prs_same, prs_nsame, lays_same, lays_nsame, k1, Out.calmL]
theorem law_right {f : List Lay} (hf : ∀ x ∈ f, x.Ok) (hl : f.length ≤ 1000) {s : List (Int × Int)} {w : Nat} {n : Int} : m_law_right [.lst (tabs f s w n f.length), .lst (dueL f n)] = .ok (.bl true) := by
  have tl : (tabs f s w n f.length).length = f.length + 1 := by unfold tabs; rw [List.length_map, List.length_range]
  have dl : (dueL f n).length = f.length + 1 := by unfold dueL; rw [List.length_map, List.length_range]
  have lp := for_rng (h := h_law_right1) (g := g_law_right1) 0 (f.length + 1) (fun _ => [some (.val (.lst (tabs f s w n f.length))), some (.val (.lst (dueL f n))), none]) (by
    intro i hi
    rw [Int.zero_add]
    have ti := tabs_at f s w n (i := i) (by omega)
    have di : dIx (.lst (dueL f n)) (.int (i : Nat)) = .ok (.lst ((srtI (kAt f n i)).map D.int)) := dIx_n (by
      unfold dueL
      rw [List.getElem?_map, List.getElem?_range hi]
      rfl)
    have il : dIsi [rowT f s w n i, .ty "dict"] = .ok (.bl true) := rfl
    have n1 : (ded (kAt f n i)).Nodup := nodup_addL List.nodup_nil
    have n2 : (ded (ded (kAt f n i))).Nodup := nodup_addL List.nodup_nil
    have se : srtI (ded (ded (kAt f n i))) = srtI (kAt f n i) := same_srt n2 (nodup_kAt f n i) fun m => by rw [mem_ded, mem_ded]
    have kl := kAt_len hf n i
    have l1 := ded_len (kAt f n i)
    have l2 := ded_len (ded (kAt f n i))
    have so : oSorted [rowT f s w n i] = .ok ((srtI (kAt f n i)).map D.int) := by
      rw [← se]
      exact oSorted_i (by omega)
    have nn : dNe (.lst ((srtI (kAt f n i)).map D.int)) (.lst ((srtI (kAt f n i)).map D.int)) = .ok (.bl false) := dNe_same (by
      show ((srtI (kAt f n i)).map D.int).all (D.sh 59) = true
      rw [List.all_map, List.all_eq_true]
      intro k _
      rfl)
    have lv : m_law_values [rowT f s w n i, .bl (decide ((i : Int) = ((f.length + 1 : Nat) : Int) - 1))] = .ok (.bl true) := law_values (V := vR f s w (f.length - i)) (fun k v e => vR_nonneg _ k v e) (fun q k => by
      have e : f.length - i = 0 := by have := of_decide_eq_true q; omega
      rw [e]
      rfl)
    have dl' : (((dueL f n).length : Nat) : Int) = ((f.length + 1 : Nat) : Int) := by rw [dl]
    generalize rowT f s w n i = rw_ at *
    generalize (srtI (kAt f n i)).map D.int = si at *
    generalize tabs f s w n f.length = T at *
    generalize dueL f n = DU at *
    simp_arith [Lay.ix0, Lay.ix1, Lay.ix2, Lay.ix3, Lay.tp, pr_0, pr_1, pr_tp, pr_isi, pr_len, prs_same, prs_nsame, lays_same, lays_nsame, h_law_right1, g_law_right1, ti, di, il, so, nn, dl', lv])
  have il : dIsi [.lst (tabs f s w n f.length), .ty "list"] = .ok (.bl true) := rfl
  have tl' : (((tabs f s w n f.length).length : Nat) : Int) = ((f.length + 1 : Nat) : Int) := by rw [tl]
  have dl' : (((dueL f n).length : Nat) : Int) = ((f.length + 1 : Nat) : Int) := by rw [dl]
  have rg := iRng1 (j := ((f.length + 1 : Nat) : Int)) (by omega) (by omega)
  rw [Int.toNat_natCast] at rg
  generalize tabs f s w n f.length = T at *
  generalize dueL f n = DU at *
  unfold m_law_right b_law_right
  simp_arith [Lay.ix0, Lay.ix1, Lay.ix2, Lay.ix3, Lay.tp, pr_0, pr_1, pr_tp, pr_isi, pr_len, prs_same, prs_nsame, lays_same, lays_nsame, il, tl', dl', rg, lp]
theorem tabs_ok {i : Nat} {vs : List Nat} {fo : DL.Env → R (List D)} {ft : DL.Env → R Bool} {g1 : DL.Env → Out} {fk fv fd : DL.Env → R D} {Γ : DL.Env} {ds : List D} {k v d : D} (n : okNk (wipeE Γ vs) = true) (ho : fo (wipeE Γ vs) = .ok ds) (hc : ds.all D.isDk = true ∧ ds ≠ [] ∧ ds.length < LIM ∧ i < Γ.length) (ht : ft (Γ.set i (some (.own ds))) = .ok false) (hv : fv (Γ.set i none) = .ok v) (hk : fk (Γ.set i none) = .ok k) (hd : fd (Γ.set i none) = .ok d) (kk : (dKey k).isSome = true) :
    gTabs i vs fo ft g1 fk fv fd Γ = .nx (Γ.set i none) := by
  unfold gTabs
  rw [if_pos n, ho]
  dsimp only
  rw [if_pos hc, ht]
  dsimp only
  rw [hv, hk, hd]
  dsimp only
  rw [if_pos kk]
theorem nodk_map {α : Type} (xs : List α) (enc : α → D) (h : ∀ x, (enc x).nodk = true) : D.nodkL (xs.map enc) = true := by
  induction xs with
  | nil => rfl
  | cons x r ih =>
    show ((enc x).nodk && D.nodkL (r.map enc)) = true
    rw [h x, ih]
    rfl
theorem law_true (ns : List Int) (h : ns.length ≤ 63) : m_law [.scr ns] = .ok (.bl true) := by
  have m0 := LQ.mixed ns (k := 0) (by decide) (by decide)
  obtain ⟨r, hr⟩ : ∃ r : Nat, 1 + LQ.mix ns 0 % 6 = (r : Int) := ⟨(1 + LQ.mix ns 0 % 6).toNat, by omega⟩
  have e0 := LQ.frame ns (r := r) (by omega) (mu := 2) (mb := 12) (by decide) (by decide) (by decide) (by decide)
  have hf := LQ.fr_ok ns r (mu := 2) (mb := 12) (by decide) (by decide) (by decide) (by decide)
  have hl := LQ.fr_len ns r 2 12
  unfold m_law b_law
  generalize LQ.fr ns r 2 12 = f at *
  have hl1 : f.length ≤ 8 := by omega
  have e1 := LQ.standing ns (at_ := 30) hf (by decide) (by decide) (by omega)
  have sl := LQ.st_len ns 30 f
  generalize LQ.st ns 30 f = s at *
  obtain ⟨n, hn, e2⟩ := law_number ns hf (by omega)
  have lk := law_keys hf (by omega) n
  have hbk : ∀ i ≤ f.length, (kAt f n i).length ≤ 10000 := fun i _ => by have := kAt_len hf n i; omega
  have lr := fun w => law_right hf (by omega) (s := s) (w := w) (n := n)
  have to := fun (w : Nat) (hw : w < 3) => table_ofO hf (by omega) (s := s) sl hw (n := n) hbk
  have tz := table_ofL hf (by omega) (s := s) sl (w := 0) (by decide) (n := n) hbk
  have p0 : prD 0 = .obj "ByMoves" [] [] := rfl
  have oa : oList [.lst (f.map Lay.d)] = .ok (f.map Lay.d) := rfl
  have ob : oList [.lst (s.map pairD)] = .ok (s.map pairD) := rfl
  have h0 : dIx (.lst [.lst (f.map Lay.d), .lst (s.map pairD)]) (.int 0) = .ok (.lst (f.map Lay.d)) := rfl
  have h1 : dIx (.lst [.lst (f.map Lay.d), .lst (s.map pairD)]) (.int 1) = .ok (.lst (s.map pairD)) := rfl
  have nk : (D.lst [.lst (f.map Lay.d), .lst (s.map pairD)]).nodk = true := by
    show (D.nodkL (f.map Lay.d) && (D.nodkL (s.map pairD) && true)) = true
    rw [nodk_map f Lay.d (fun _ => rfl), nodk_map s pairD (fun _ => rfl)]
    rfl
  have ne : dNe (.lst [.lst (f.map Lay.d), .lst (s.map pairD)]) (.lst [.lst (f.map Lay.d), .lst (s.map pairD)]) = .ok (.bl false) := dNe_same (by
    show ((D.lst (f.map Lay.d)).sh 59 && ((D.lst (s.map pairD)).sh 59 && true)) = true
    have a : (D.lst (f.map Lay.d)).sh 59 = true := by
      show (f.map Lay.d).all (D.sh 58) = true
      rw [List.all_map, List.all_eq_true]
      intro x _
      rfl
    have b : (D.lst (s.map pairD)).sh 59 = true := by
      show (s.map pairD).all (D.sh 58) = true
      rw [List.all_map, List.all_eq_true]
      intro x _
      rfl
    rw [a, b]
    rfl)
  have ad : ∀ w, (tabs f s w n f.length).all D.isDk = true ∧ tabs f s w n f.length ≠ [] ∧ (tabs f s w n f.length).length < LIM ∧ 7 < 8 := fun w => by
    have tl : (tabs f s w n f.length).length = f.length + 1 := by unfold tabs; rw [List.length_map, List.length_range]
    refine ⟨?_, fun q => by rw [q] at tl; simp at tl, by rw [tl]; show f.length + 1 < 16777216; omega, by decide⟩
    rw [List.all_eq_true]
    intro d hd
    obtain ⟨t, _, rfl⟩ := List.mem_map.mp hd
    have l1 := ded_len (kAt f n (f.length - f.length + t))
    have l2 := ded_len (ded (kAt f n (f.length - f.length + t)))
    have kl := kAt_len hf n (f.length - f.length + t)
    show decide (((ded (ded (kAt f n (f.length - f.length + t)))).map (Sum.inl (β := Str))).length < 16777216) = true
    rw [List.length_map, decide_eq_true_eq]
    omega
  have l1 := for_map (h := h_law1) (g := g_law1) [0, 1, 2] prD (fun _ => [some (.val (.scr ns)), some (.val (.lst (f.map Lay.d))), some (.val (.lst (s.map pairD))), some (.val (.int (n))), some (.val (.lst (dueL f n))), some (.val (.lst [.lst (f.map Lay.d), .lst (s.map pairD)])), none, none]) (by
    intro i w hw
    have w3 : w < 3 := by
      have := List.mem_of_getElem? hw
      simp only [List.mem_cons, List.not_mem_nil, or_false] at this
      omega
    have tw := to w w3
    have lw := lr w
    have aw := ad w
    have nw : (prD w).nodk = true := by
      rcases (by omega : w = 0 ∨ w = 1 ∨ w = 2) with q | q | q <;> subst q <;> rfl
    generalize tabs f s w n f.length = T at *
    generalize prD w = pw at *
    generalize D.lst [.lst (f.map Lay.d), .lst (s.map pairD)] = hd at *
    generalize dueL f n = DU at *
    generalize f.map Lay.d = FD_ at *
    generalize s.map pairD = SD at *
    have tk := tabs_ok (i := 7) (vs := [0, 1, 2, 4, 7]) (g1 := sRet (eC (.bl false))) (fo := oFn 4 mo_table_of (aCons (eOp dIx (eV 5) (eC (.int 0))) (aCons (eOp dIx (eV 5) (eC (.int 1))) (aCons (eV 3) (aCons (eV 6) (aNil)))))) (ft := bNot (eTru (eBor 7 (eFn 2 m_law_right (aCons (eV 7) (aCons (eV 4) (aNil))))))) (fk := eV 3) (fv := eC (.str "more")) (fd := eFrzD dNew) (Γ := [some (.val (.scr ns)), some (.val (.lst FD_)), some (.val (.lst SD)), some (.val (.int (n))), some (.val (.lst DU)), some (.val (hd)), some (.val (pw)), none]) (ds := T)
      (by
        show (true && (hd.nodk && (pw.nodk && true))) = true
        rw [nk, nw]
        rfl) (by simp_arith [Lay.ix0, Lay.ix1, Lay.ix2, Lay.ix3, Lay.tp, pr_0, pr_1, pr_tp, pr_isi, pr_len, prs_same, prs_nsame, lays_same, lays_nsame, wipeE, h0, h1, tw]) aw (by simp_arith [Lay.ix0, Lay.ix1, Lay.ix2, Lay.ix3, Lay.tp, pr_0, pr_1, pr_tp, pr_isi, pr_len, prs_same, prs_nsame, lays_same, lays_nsame, lw, Env.frz, Slot.frz]) rfl rfl rfl rfl
    unfold h_law1 g_law1
    generalize gTabs 7 [0, 1, 2, 4, 7] (oFn 4 mo_table_of (aCons (eOp dIx (eV 5) (eC (.int 0))) (aCons (eOp dIx (eV 5) (eC (.int 1))) (aCons (eV 3) (aCons (eV 6) (aNil)))))) (bNot (eTru (eBor 7 (eFn 2 m_law_right (aCons (eV 7) (aCons (eV 4) (aNil))))))) (sRet (eC (.bl false))) (eV 3) (eC (.str "more")) (eFrzD dNew) = G at tk ⊢
    simp_arith [Lay.ix0, Lay.ix1, Lay.ix2, Lay.ix3, Lay.tp, pr_0, pr_1, pr_tp, pr_isi, pr_len, prs_same, prs_nsame, lays_same, lays_nsame, tk])
  have l1 : loopF h_law1 g_law1 [.obj "ByMoves" [] [], .obj "ByGrips" [] [], .obj "ByBeads" [] []] [some (.val (.scr ns)), some (.val (.lst (f.map Lay.d))), some (.val (.lst (s.map pairD))), some (.val (.int (n))), some (.val (.lst (dueL f n))), some (.val (.lst [.lst (f.map Lay.d), .lst (s.map pairD)])), none, none] = .nx [some (.val (.scr ns)), some (.val (.lst (f.map Lay.d))), some (.val (.lst (s.map pairD))), some (.val (.int (n))), some (.val (.lst (dueL f n))), some (.val (.lst [.lst (f.map Lay.d), .lst (s.map pairD)])), none, none] := l1
  have lz := lr 0
  rw [p0] at tz
  generalize tabs f s 0 n f.length = T at tz lz
  generalize dueL f n = DU at *
  generalize f.map Lay.d = FD_ at *
  generalize s.map pairD = SD at *
  simp_arith [Lay.ix0, Lay.ix1, Lay.ix2, Lay.ix3, Lay.tp, pr_0, pr_1, pr_tp, pr_isi, pr_len, prs_same, prs_nsame, lays_same, lays_nsame, m0, hr, e0, e1, e2, lk, oa, ob, l1, ne, tz, lz]
end K34
namespace K34
open PySem PySem.Spec L2 DL
def top (i : Nat) : Stmt := PySem.Challenge.pw_beadframe_k34_table_keys.main.body.getD i (.Pass ⟨0, 0, 0, 0⟩)
structure Bt (mg : Str → Option Value) : Prop where
  n_range : mg "range" = none
  n_int : mg "int" = none
  n_abs : mg "abs" = none
  n_len : mg "len" = none
  n_min : mg "min" = none
  n_max : mg "max" = none
  n_zip : mg "zip" = none
  n_sorted : mg "sorted" = none
  n_isinstance : mg "isinstance" = none
  n_bool : mg "bool" = none
  n_sum : mg "sum" = none
  n_enumerate : mg "enumerate" = none
  n_dict : mg "dict" = none
  n_list : mg "list" = none
def inCls (s : Stmt) (i : Nat) : Stmt := match s with
  | .ClassDef _ _ _ body _ _ _ _ _ _ _ => body.getD i (.Pass ⟨0, 0, 0, 0⟩)
  | s => s
abbrev s_count_of : Stmt := top 1
abbrev s_rod_standings : Stmt := top 3
abbrev s_Price_rod_price : Stmt := inCls (top 9) 0
abbrev s_ByMoves_rod_price : Stmt := inCls (top 10) 0
abbrev s_ByGrips_rod_price : Stmt := inCls (top 11) 0
abbrev s_ByBeads_rod_price : Stmt := inCls (top 12) 0
abbrev s_law_mixed : Stmt := top 14
abbrev s_law_layout : Stmt := top 15
abbrev s_law_borne : Stmt := top 18
abbrev s_law_keys : Stmt := top 20
abbrev s_law_values : Stmt := top 21
abbrev s_choices_at : Stmt := top 4
abbrev s_least_of : Stmt := top 6
abbrev s_Price_price : Stmt := inCls (top 9) 1
abbrev s_law_frame : Stmt := top 16
abbrev s_law_standing : Stmt := top 17
abbrev s_law_right : Stmt := top 22
abbrev s_keys_of : Stmt := top 5
abbrev s_law_number : Stmt := top 19
abbrev s_table_of : Stmt := top 7
abbrev s_law : Stmt := top 23
section
variable {P : Program} {w : World} {K : PySem.W.Frag} {mg : Str → Option Value} {base : Heap}
theorem sc_count_of : FnScope ["layout", "rod_standing"] ["layout", "rod_standing"] (defScope s_count_of) := ⟨rfl, rfl, rfl, by decide +kernel, rfl, by decide +kernel, by decide +kernel⟩
theorem k_count_of {a : Addr} (F : ∃ fd, FunD K "count_of" "count_of" (defArgs s_count_of) (defBody s_count_of) (defScope s_count_of) [] [] a fd) (gm : mg "count_of" = some (.ref a)) (B : Bt mg) : Kn P w K mg base 1 "count_of" 2 m_count_of := by
  obtain ⟨fd, Fd⟩ := F
  have hb : Binds K fd ["layout", "rod_standing"] [] := Fd.bindsN (fun _ _ _ _ _ _ us hl => match us, hl with | [_, _], _ => by kernel_rfl)
  have G : FnOk P w K mg base (L2.CX P w) 1 a fd ["layout", "rod_standing"] (spD K mg 2 (mk 2 b_count_of)) := by
    refine fn_ok (k := 0) (g := b_count_of) (N := ["layout", "rod_standing"]) (ps := ["layout", "rod_standing"]) Fd sc_count_of (by decide) ?_
    intro cdv A outer s H E hr
    exact dss_one (ds_ret (de_op opAdd sat_add (de_op opMul sat_mul (de_ix ix_seq sat_ix (de_var 1 (hv := Or.inl (by kernel_rfl))) (de_int) (fun _ _ => rfl)) (de_ix ix_seq sat_ix (de_var 0 (hv := Or.inl (by kernel_rfl))) (de_int) (fun _ _ => rfl))) (de_ix ix_seq sat_ix (de_var 1 (hv := Or.inl (by kernel_rfl))) (de_int) (fun _ _ => rfl))))
  exact ⟨a, fd, ["layout", "rod_standing"], gm, Fd.kp, hb, G⟩
theorem sc_rod_standings : FnScope ["layout", "upper", "worth", "lower", "base", "both"] ["layout"] (defScope s_rod_standings) := ⟨rfl, rfl, rfl, by decide +kernel, rfl, by decide +kernel, by decide +kernel⟩
theorem ko_rod_standings {a : Addr} (F : ∃ fd, FunD K "rod_standings" "rod_standings" (defArgs s_rod_standings) (defBody s_rod_standings) (defScope s_rod_standings) [] [] a fd) (gm : mg "rod_standings" = some (.ref a)) (B : Bt mg) : KnO P w K mg base 1 "rod_standings" 1 mo_rod_standings := by
  obtain ⟨fd, Fd⟩ := F
  have hb : Binds K fd ["layout"] [] := Fd.bindsN (fun _ _ _ _ _ _ us hl => match us, hl with | [_], _ => by kernel_rfl)
  have G : FnOk P w K mg base (L2.CX P w) 1 a fd ["layout"] (spO K mg 1 (mkO 6 b_rod_standings)) := by
    refine fn_okO (k := 0) (g := b_rod_standings) (N := ["layout", "upper", "worth", "lower", "base", "both"]) (ps := ["layout"]) Fd sc_rod_standings (by decide) ?_
    intro cdv A outer s H E hr
    exact dss_cons (ds_asg (de_var 0 (hv := Or.inl (by kernel_rfl))) (dg_tup rfl (dgs_cons (dg_name 1 sc_rod_standings.nd (hx := Or.inl (by kernel_rfl)) (hf := .inl rfl)) (dgs_cons (dg_name 2 sc_rod_standings.nd (hx := Or.inl (by kernel_rfl)) (hf := .inl rfl)) (dgs_cons (dg_name 3 sc_rod_standings.nd (hx := Or.inr (by kernel_rfl)) (hf := .inl rfl)) (dgs_cons (dg_name 4 sc_rod_standings.nd (hx := Or.inl (by kernel_rfl)) (hf := .inl rfl)) (dgs_nil))))))) <|
    dss_one (ds_retO (do_lc (own := [("both", 5)]) rfl sc_rod_standings.nd (di_range1 (by unfold L2.Gl; kernel_rfl) B.n_range (da_cons (de_op opMul sat_mul (de_op opAdd sat_add (de_var 1 (hv := Or.inl (by kernel_rfl))) (de_int)) (de_op opAdd sat_add (de_var 3 (hv := Or.inr (Or.inl (by kernel_rfl)))) (de_int))) (da_nil))) (blkOk_by (own := [("both", 5)]) (N := ["layout", "upper", "worth", "lower", "base", "both"]) (sc := defScope s_rod_standings) (by decide +kernel)) (fun _ _ _ _ _ => dg_name 5 sc_rod_standings.nd (hx := Or.inl (by kernel_rfl)) (hf := .inr (by kernel_rfl))) (fun _ _ _ _ _ => dts_nil) (fun _ _ _ _ _ => de_tup (da_cons (de_op op_fdivW sat_div (de_var 5 (hv := Or.inl (by kernel_rfl))) (de_op opAdd sat_add (de_var 3 (hv := Or.inr (Or.inl (by kernel_rfl)))) (de_int))) (da_cons (de_op op_mod sat_mod (de_var 5 (hv := Or.inl (by kernel_rfl))) (de_op opAdd sat_add (de_var 3 (hv := Or.inr (Or.inl (by kernel_rfl)))) (de_int))) (da_nil))))))
  exact ⟨a, fd, ["layout"], gm, Fd.kp, hb, G⟩
theorem sc_Price_rod_price : FnScope ["self", "one", "other"] ["self", "one", "other"] (defScope s_Price_rod_price) := ⟨rfl, rfl, rfl, by decide +kernel, rfl, by decide +kernel, by decide +kernel⟩
theorem k_Price_rod_price {a : Addr} (F : ∃ fd, FunD K "rod_price" "Price.rod_price" (defArgs s_Price_rod_price) (defBody s_Price_rod_price) (defScope s_Price_rod_price) [] [] a fd) (B : Bt mg) : ∃ fd ps, FnOk P w K mg base (L2.CX P w) 1 a fd ps (spD K mg 3 m_Price_rod_price) ∧ Binds K fd ps [] := by
  obtain ⟨fd, Fd⟩ := F
  have hb : Binds K fd ["self", "one", "other"] [] := Fd.bindsN (fun _ _ _ _ _ _ us hl => match us, hl with | [_, _, _], _ => by kernel_rfl)
  have G : FnOk P w K mg base (L2.CX P w) 1 a fd ["self", "one", "other"] (spD K mg 3 (mk 3 b_Price_rod_price)) := by
    refine fn_ok (k := 0) (g := b_Price_rod_price) (N := ["self", "one", "other"]) (ps := ["self", "one", "other"]) Fd sc_Price_rod_price (by decide) ?_
    intro cdv A outer s H E hr
    exact dss_one (ds_ret (de_int))
  exact ⟨fd, ["self", "one", "other"], G, hb⟩
theorem sc_ByMoves_rod_price : FnScope ["self", "one", "other"] ["self", "one", "other"] (defScope s_ByMoves_rod_price) := ⟨rfl, rfl, rfl, by decide +kernel, rfl, by decide +kernel, by decide +kernel⟩
theorem k_ByMoves_rod_price {a : Addr} (F : ∃ fd, FunD K "rod_price" "ByMoves.rod_price" (defArgs s_ByMoves_rod_price) (defBody s_ByMoves_rod_price) (defScope s_ByMoves_rod_price) [] [] a fd) (B : Bt mg) : ∃ fd ps, FnOk P w K mg base (L2.CX P w) 1 a fd ps (spD K mg 3 m_ByMoves_rod_price) ∧ Binds K fd ps [] := by
  obtain ⟨fd, Fd⟩ := F
  have hb : Binds K fd ["self", "one", "other"] [] := Fd.bindsN (fun _ _ _ _ _ _ us hl => match us, hl with | [_, _, _], _ => by kernel_rfl)
  have G : FnOk P w K mg base (L2.CX P w) 1 a fd ["self", "one", "other"] (spD K mg 3 (mk 3 b_ByMoves_rod_price)) := by
    refine fn_ok (k := 0) (g := b_ByMoves_rod_price) (N := ["self", "one", "other"]) (ps := ["self", "one", "other"]) Fd sc_ByMoves_rod_price (by decide) ?_
    intro cdv A outer s H E hr
    exact dss_one (ds_ret (de_op opAdd sat_add (de_callTy call_int1 sat_int (by unfold L2.Gl; kernel_rfl) B.n_int (by decide +kernel) (da_cons (de_cmp (opNe hr.units) sat_ne (de_ix ix_seq sat_ix (de_var 1 (hv := Or.inl (by kernel_rfl))) (de_int) (fun _ _ => rfl)) (de_ix ix_seq sat_ix (de_var 2 (hv := Or.inl (by kernel_rfl))) (de_int) (fun _ _ => rfl)) (nomark _)) (da_nil))) (de_callTy call_int1 sat_int (by unfold L2.Gl; kernel_rfl) B.n_int (by decide +kernel) (da_cons (de_cmp (opNe hr.units) sat_ne (de_ix ix_seq sat_ix (de_var 1 (hv := Or.inl (by kernel_rfl))) (de_int) (fun _ _ => rfl)) (de_ix ix_seq sat_ix (de_var 2 (hv := Or.inl (by kernel_rfl))) (de_int) (fun _ _ => rfl)) (nomark _)) (da_nil)))))
  exact ⟨fd, ["self", "one", "other"], G, hb⟩
theorem sc_ByGrips_rod_price : FnScope ["self", "one", "other"] ["self", "one", "other"] (defScope s_ByGrips_rod_price) := ⟨rfl, rfl, rfl, by decide +kernel, rfl, by decide +kernel, by decide +kernel⟩
theorem k_ByGrips_rod_price {a : Addr} (F : ∃ fd, FunD K "rod_price" "ByGrips.rod_price" (defArgs s_ByGrips_rod_price) (defBody s_ByGrips_rod_price) (defScope s_ByGrips_rod_price) [] [] a fd) (B : Bt mg) : ∃ fd ps, FnOk P w K mg base (L2.CX P w) 1 a fd ps (spD K mg 3 m_ByGrips_rod_price) ∧ Binds K fd ps [] := by
  obtain ⟨fd, Fd⟩ := F
  have hb : Binds K fd ["self", "one", "other"] [] := Fd.bindsN (fun _ _ _ _ _ _ us hl => match us, hl with | [_, _, _], _ => by kernel_rfl)
  have G : FnOk P w K mg base (L2.CX P w) 1 a fd ["self", "one", "other"] (spD K mg 3 (mk 3 b_ByGrips_rod_price)) := by
    refine fn_ok (k := 0) (g := b_ByGrips_rod_price) (N := ["self", "one", "other"]) (ps := ["self", "one", "other"]) Fd sc_ByGrips_rod_price (by decide) ?_
    intro cdv A outer s H E hr
    exact dss_one (ds_ret (de_callTy call_int1 sat_int (by unfold L2.Gl; kernel_rfl) B.n_int (by decide +kernel) (da_cons (de_cmp (opNe hr.units) sat_ne (de_var 1 (hv := Or.inl (by kernel_rfl))) (de_var 2 (hv := Or.inl (by kernel_rfl))) (nomark _)) (da_nil))))
  exact ⟨fd, ["self", "one", "other"], G, hb⟩
theorem sc_ByBeads_rod_price : FnScope ["self", "one", "other"] ["self", "one", "other"] (defScope s_ByBeads_rod_price) := ⟨rfl, rfl, rfl, by decide +kernel, rfl, by decide +kernel, by decide +kernel⟩
theorem k_ByBeads_rod_price {a : Addr} (F : ∃ fd, FunD K "rod_price" "ByBeads.rod_price" (defArgs s_ByBeads_rod_price) (defBody s_ByBeads_rod_price) (defScope s_ByBeads_rod_price) [] [] a fd) (B : Bt mg) : ∃ fd ps, FnOk P w K mg base (L2.CX P w) 1 a fd ps (spD K mg 3 m_ByBeads_rod_price) ∧ Binds K fd ps [] := by
  obtain ⟨fd, Fd⟩ := F
  have hb : Binds K fd ["self", "one", "other"] [] := Fd.bindsN (fun _ _ _ _ _ _ us hl => match us, hl with | [_, _, _], _ => by kernel_rfl)
  have G : FnOk P w K mg base (L2.CX P w) 1 a fd ["self", "one", "other"] (spD K mg 3 (mk 3 b_ByBeads_rod_price)) := by
    refine fn_ok (k := 0) (g := b_ByBeads_rod_price) (N := ["self", "one", "other"]) (ps := ["self", "one", "other"]) Fd sc_ByBeads_rod_price (by decide) ?_
    intro cdv A outer s H E hr
    exact dss_one (ds_ret (de_op opAdd sat_add (de_callB call_abs sat_abs (by unfold L2.Gl; kernel_rfl) B.n_abs (by decide +kernel) (da_cons (de_op op_sub sat_sub (de_ix ix_seq sat_ix (de_var 1 (hv := Or.inl (by kernel_rfl))) (de_int) (fun _ _ => rfl)) (de_ix ix_seq sat_ix (de_var 2 (hv := Or.inl (by kernel_rfl))) (de_int) (fun _ _ => rfl))) (da_nil))) (de_callB call_abs sat_abs (by unfold L2.Gl; kernel_rfl) B.n_abs (by decide +kernel) (da_cons (de_op op_sub sat_sub (de_ix ix_seq sat_ix (de_var 1 (hv := Or.inl (by kernel_rfl))) (de_int) (fun _ _ => rfl)) (de_ix ix_seq sat_ix (de_var 2 (hv := Or.inl (by kernel_rfl))) (de_int) (fun _ _ => rfl))) (da_nil)))))
  exact ⟨fd, ["self", "one", "other"], G, hb⟩
theorem sc_law_mixed : FnScope ["_law_script", "_law_k"] ["_law_script", "_law_k"] (defScope s_law_mixed) := ⟨rfl, rfl, rfl, by decide +kernel, rfl, by decide +kernel, by decide +kernel⟩
theorem k_law_mixed {a : Addr} (F : ∃ fd, FunD K "_law_mixed" "_law_mixed" (defArgs s_law_mixed) (defBody s_law_mixed) (defScope s_law_mixed) [] [] a fd) (gm : mg "_law_mixed" = some (.ref a)) (B : Bt mg) : Kn P w K mg base 1 "_law_mixed" 2 m_law_mixed := by
  obtain ⟨fd, Fd⟩ := F
  have hb : Binds K fd ["_law_script", "_law_k"] [] := Fd.bindsN (fun _ _ _ _ _ _ us hl => match us, hl with | [_, _], _ => by kernel_rfl)
  have G : FnOk P w K mg base (L2.CX P w) 1 a fd ["_law_script", "_law_k"] (spD K mg 2 (mk 2 b_law_mixed)) := by
    refine fn_ok (k := 0) (g := b_law_mixed) (N := ["_law_script", "_law_k"]) (ps := ["_law_script", "_law_k"]) Fd sc_law_mixed (by decide) ?_
    intro cdv A outer s H E hr
    exact dss_cons (ds_if (dt_cmp (opEq hr.units) sat_eq (de_var 0 (hv := Or.inl (by kernel_rfl))) (de_frz (do_lst (da_nil))) (nomark _)) (dss_one (ds_ret (de_op opAdd sat_add (de_op opMul sat_mul (de_var 1 (hv := Or.inl (by kernel_rfl))) (de_int)) (de_int)))) (dss_nil)) <|
    dss_one (ds_ret (de_op op_mod sat_mod (de_op opMul sat_mul (de_op opAdd sat_add (de_op opAdd sat_add (de_ix ix_seq sat_ix (de_var 0 (hv := Or.inl (by kernel_rfl))) (de_op op_mod sat_mod (de_var 1 (hv := Or.inl (by kernel_rfl))) (de_callB call_len sat_len (by unfold L2.Gl; kernel_rfl) B.n_len (by decide +kernel) (da_cons (de_var 0 (hv := Or.inl (by kernel_rfl))) (da_nil)))) (fun _ _ => rfl)) (de_int)) (de_var 1 (hv := Or.inl (by kernel_rfl)))) (de_op opAdd sat_add (de_int) (de_op opMul sat_mul (de_int) (de_var 1 (hv := Or.inl (by kernel_rfl)))))) (de_int)))
  exact ⟨a, fd, ["_law_script", "_law_k"], gm, Fd.kp, hb, G⟩
theorem sc_law_layout : FnScope ["_law_number_here", "_law_most_upper", "_law_most_base", "_law_base", "_law_upper", "_law_worth", "_law_lower"] ["_law_number_here", "_law_most_upper", "_law_most_base"] (defScope s_law_layout) := ⟨rfl, rfl, rfl, by decide +kernel, rfl, by decide +kernel, by decide +kernel⟩
theorem k_law_layout {a : Addr} (F : ∃ fd, FunD K "_law_layout" "_law_layout" (defArgs s_law_layout) (defBody s_law_layout) (defScope s_law_layout) [] [] a fd) (gm : mg "_law_layout" = some (.ref a)) (B : Bt mg) : Kn P w K mg base 1 "_law_layout" 3 m_law_layout := by
  obtain ⟨fd, Fd⟩ := F
  have hb : Binds K fd ["_law_number_here", "_law_most_upper", "_law_most_base"] [] := Fd.bindsN (fun _ _ _ _ _ _ us hl => match us, hl with | [_, _, _], _ => by kernel_rfl)
  have G : FnOk P w K mg base (L2.CX P w) 1 a fd ["_law_number_here", "_law_most_upper", "_law_most_base"] (spD K mg 3 (mk 7 b_law_layout)) := by
    refine fn_ok (k := 0) (g := b_law_layout) (N := ["_law_number_here", "_law_most_upper", "_law_most_base", "_law_base", "_law_upper", "_law_worth", "_law_lower"]) (ps := ["_law_number_here", "_law_most_upper", "_law_most_base"]) Fd sc_law_layout (by decide) ?_
    intro cdv A outer s H E hr
    exact dss_cons (ds_asg (de_op opAdd sat_add (de_int) (de_op op_mod sat_mod (de_var 0 (hv := Or.inl (by kernel_rfl))) (de_op op_sub sat_sub (de_var 2 (hv := Or.inl (by kernel_rfl))) (de_int)))) (dg_name 3 sc_law_layout.nd (hx := Or.inl (by kernel_rfl)) (hf := .inl rfl))) <|
    dss_cons (ds_asg (de_op op_mod sat_mod (de_op op_fdivW sat_div (de_var 0 (hv := Or.inl (by kernel_rfl))) (de_int)) (de_op opAdd sat_add (de_var 1 (hv := Or.inl (by kernel_rfl))) (de_int))) (dg_name 4 sc_law_layout.nd (hx := Or.inl (by kernel_rfl)) (hf := .inl rfl))) <|
    dss_cons (ds_asg (de_int) (dg_name 5 sc_law_layout.nd (hx := Or.inl (by kernel_rfl)) (hf := .inl rfl))) <|
    dss_cons (ds_asg (de_op op_sub sat_sub (de_var 3 (hv := Or.inl (by kernel_rfl))) (de_int)) (dg_name 6 sc_law_layout.nd (hx := Or.inl (by kernel_rfl)) (hf := .inl rfl))) <|
    dss_cons (ds_if (dt_cmp op_gt sat_gt (de_var 4 (hv := Or.inl (by kernel_rfl))) (de_int) (nomark _)) (dss_cons (ds_asg (de_op opAdd sat_add (de_int) (de_op op_mod sat_mod (de_op op_fdivW sat_div (de_var 0 (hv := Or.inl (by kernel_rfl))) (de_int)) (de_int))) (dg_name 5 sc_law_layout.nd (hx := Or.inl (by kernel_rfl)) (hf := .inl rfl))) <|
    dss_one (ds_asg (de_callB (call_max2 rfl) sat_max2 (by unfold L2.Gl; kernel_rfl) B.n_max (by decide +kernel) (da_cons (de_op op_sub sat_sub (de_var 5 (hv := Or.inl (by kernel_rfl))) (de_int)) (da_cons (de_op op_sub sat_sub (de_op op_sub sat_sub (de_var 3 (hv := Or.inl (by kernel_rfl))) (de_int)) (de_op opMul sat_mul (de_var 4 (hv := Or.inl (by kernel_rfl))) (de_var 5 (hv := Or.inl (by kernel_rfl))))) (da_nil)))) (dg_name 6 sc_law_layout.nd (hx := Or.inl (by kernel_rfl)) (hf := .inl rfl)))) (dss_nil)) <|
    dss_one (ds_ret (de_tup (da_cons (de_var 4 (hv := Or.inl (by kernel_rfl))) (da_cons (de_var 5 (hv := Or.inl (by kernel_rfl))) (da_cons (de_callB (call_min2 rfl) sat_min2 (by unfold L2.Gl; kernel_rfl) B.n_min (by decide +kernel) (da_cons (de_int) (da_cons (de_op opAdd sat_add (de_var 6 (hv := Or.inl (by kernel_rfl))) (de_op op_mod sat_mod (de_op op_fdivW sat_div (de_var 0 (hv := Or.inl (by kernel_rfl))) (de_int)) (de_int))) (da_nil)))) (da_cons (de_var 3 (hv := Or.inl (by kernel_rfl))) (da_nil)))))))
  exact ⟨a, fd, ["_law_number_here", "_law_most_upper", "_law_most_base"], gm, Fd.kp, hb, G⟩
theorem sc_law_borne : FnScope ["_law_frame_here", "_law_standing_here", "_law_found", "_law_place", "_law_layout_here", "_law_rod"] ["_law_frame_here", "_law_standing_here"] (defScope s_law_borne) := ⟨rfl, rfl, rfl, by decide +kernel, rfl, by decide +kernel, by decide +kernel⟩
theorem k_law_borne {a : Addr} (F : ∃ fd, FunD K "_law_borne" "_law_borne" (defArgs s_law_borne) (defBody s_law_borne) (defScope s_law_borne) [] [] a fd) (gm : mg "_law_borne" = some (.ref a)) (B : Bt mg) : Kn P w K mg base 1 "_law_borne" 2 m_law_borne := by
  obtain ⟨fd, Fd⟩ := F
  have hb : Binds K fd ["_law_frame_here", "_law_standing_here"] [] := Fd.bindsN (fun _ _ _ _ _ _ us hl => match us, hl with | [_, _], _ => by kernel_rfl)
  have G : FnOk P w K mg base (L2.CX P w) 1 a fd ["_law_frame_here", "_law_standing_here"] (spD K mg 2 (mk 6 b_law_borne)) := by
    refine fn_ok (k := 0) (g := b_law_borne) (N := ["_law_frame_here", "_law_standing_here", "_law_found", "_law_place", "_law_layout_here", "_law_rod"]) (ps := ["_law_frame_here", "_law_standing_here"]) Fd sc_law_borne (by decide) ?_
    intro cdv A outer s H E hr
    exact dss_cons (ds_asg (de_int) (dg_name 2 sc_law_borne.nd (hx := Or.inl (by kernel_rfl)) (hf := .inl rfl))) <|
    dss_cons (ds_asg (de_int) (dg_name 3 sc_law_borne.nd (hx := Or.inl (by kernel_rfl)) (hf := .inl rfl))) <|
    dss_cons (ds_for passOwnOf rfl (di_zip (by unfold L2.Gl; kernel_rfl) B.n_zip (da_cons (de_var 0 (hv := Or.inl (by kernel_rfl))) (da_cons (de_var 1 (hv := Or.inl (by kernel_rfl))) (da_nil)))) (dg_tup rfl (dgs_cons (dg_name 4 sc_law_borne.nd (hx := Or.inl (by kernel_rfl)) (hf := .inl rfl)) (dgs_cons (dg_name 5 sc_law_borne.nd (hx := Or.inl (by kernel_rfl)) (hf := .inl rfl)) (dgs_nil)))) (dss_wp [4, 5] (dss_cons (ds_asg (de_op opAdd sat_add (de_var 2 (hv := Or.inl (by kernel_rfl))) (de_op opMul sat_mul (de_op opAdd sat_add (de_op opMul sat_mul (de_ix ix_seq sat_ix (de_var 5 (hv := Or.inl (by kernel_rfl))) (de_int) (fun _ _ => rfl)) (de_ix ix_seq sat_ix (de_var 4 (hv := Or.inl (by kernel_rfl))) (de_int) (fun _ _ => rfl))) (de_ix ix_seq sat_ix (de_var 5 (hv := Or.inl (by kernel_rfl))) (de_int) (fun _ _ => rfl))) (de_var 3 (hv := Or.inl (by kernel_rfl))))) (dg_name 2 sc_law_borne.nd (hx := Or.inl (by kernel_rfl)) (hf := .inl rfl))) <|
    dss_one (ds_asg (de_op opMul sat_mul (de_var 3 (hv := Or.inl (by kernel_rfl))) (de_ix ix_seq sat_ix (de_var 4 (hv := Or.inl (by kernel_rfl))) (de_int) (fun _ _ => rfl))) (dg_name 3 sc_law_borne.nd (hx := Or.inl (by kernel_rfl)) (hf := .inl rfl)))))) <|
    dss_one (ds_ret (de_var 2 (hv := Or.inl (by kernel_rfl))))
  exact ⟨a, fd, ["_law_frame_here", "_law_standing_here"], gm, Fd.kp, hb, G⟩
theorem sc_law_keys : FnScope ["_law_frame_here", "_law_number_here", "_law_due", "_law_upper", "_law_worth", "_law_lower", "_law_base", "_law_row", "_law_key", "_law_high", "_law_low", "_law_rest"] ["_law_frame_here", "_law_number_here"] (defScope s_law_keys) := ⟨rfl, rfl, rfl, by decide +kernel, rfl, by decide +kernel, by decide +kernel⟩
theorem ko_law_keys {a : Addr} (F : ∃ fd, FunD K "_law_keys" "_law_keys" (defArgs s_law_keys) (defBody s_law_keys) (defScope s_law_keys) [] [] a fd) (gm : mg "_law_keys" = some (.ref a)) (B : Bt mg) : KnO P w K mg base 1 "_law_keys" 2 mo_law_keys := by
  obtain ⟨fd, Fd⟩ := F
  have hb : Binds K fd ["_law_frame_here", "_law_number_here"] [] := Fd.bindsN (fun _ _ _ _ _ _ us hl => match us, hl with | [_, _], _ => by kernel_rfl)
  have G : FnOk P w K mg base (L2.CX P w) 1 a fd ["_law_frame_here", "_law_number_here"] (spO K mg 2 (mkO 12 b_law_keys)) := by
    refine fn_okO (k := 0) (g := b_law_keys) (N := ["_law_frame_here", "_law_number_here", "_law_due", "_law_upper", "_law_worth", "_law_lower", "_law_base", "_law_row", "_law_key", "_law_high", "_law_low", "_law_rest"]) (ps := ["_law_frame_here", "_law_number_here"]) Fd sc_law_keys (by decide) ?_
    intro cdv A outer s H E hr
    exact dss_cons (ds_setO 2 sc_law_keys.nd (do_lst (da_cons (de_disp (dps_cons (de_var 1 (hv := Or.inl (by kernel_rfl))) (de_bl) (dps_nil))) (da_nil))) (hx := Or.inl (by kernel_rfl)) (hf := .inl rfl)) <|
    dss_cons (ds_for passOwnOf rfl (di_list (de_var 0 (hv := Or.inl (by kernel_rfl)))) (dg_tup rfl (dgs_cons (dg_name 3 sc_law_keys.nd (hx := Or.inl (by kernel_rfl)) (hf := .inl rfl)) (dgs_cons (dg_name 4 sc_law_keys.nd (hx := Or.inl (by kernel_rfl)) (hf := .inl rfl)) (dgs_cons (dg_name 5 sc_law_keys.nd (hx := Or.inl (by kernel_rfl)) (hf := .inl rfl)) (dgs_cons (dg_name 6 sc_law_keys.nd (hx := Or.inl (by kernel_rfl)) (hf := .inl rfl)) (dgs_nil)))))) (dss_wp [3, 4, 5, 6, 7, 8, 9, 10, 11] (dss_cons (ds_setD 7 sc_law_keys.nd dd_new (hx := Or.inl (by kernel_rfl)) (hf := .inl rfl)) <|
    dss_cons (ds_forKeysO 2 (de_un un_neg sat_neg (de_int)) (fun _ _ => rfl) (hv := Or.inl (by kernel_rfl))  passOwnOf rfl (dg_name 8 sc_law_keys.nd (hx := Or.inl (by kernel_rfl)) (hf := .inl rfl)) (dss_wp [8, 9, 10, 11] (dss_one (ds_for passOwnOf rfl (di_range1 (by unfold L2.Gl; kernel_rfl) B.n_range (da_cons (de_op opAdd sat_add (de_var 3 (hv := Or.inl (by kernel_rfl))) (de_int)) (da_nil))) (dg_name 9 sc_law_keys.nd (hx := Or.inl (by kernel_rfl)) (hf := .inl rfl)) (dss_wp [9, 10, 11] (dss_one (ds_for passOwnOf rfl (di_range1 (by unfold L2.Gl; kernel_rfl) B.n_range (da_cons (de_op opAdd sat_add (de_var 5 (hv := Or.inl (by kernel_rfl))) (de_int)) (da_nil))) (dg_name 10 sc_law_keys.nd (hx := Or.inl (by kernel_rfl)) (hf := .inl rfl)) (dss_wp [10, 11] (dss_cons (ds_asg (de_op op_sub sat_sub (de_op op_sub sat_sub (de_var 8 (hv := Or.inl (by kernel_rfl))) (de_op opMul sat_mul (de_var 9 (hv := Or.inl (by kernel_rfl))) (de_var 4 (hv := Or.inl (by kernel_rfl))))) (de_var 10 (hv := Or.inl (by kernel_rfl)))) (dg_name 11 sc_law_keys.nd (hx := Or.inl (by kernel_rfl)) (hf := .inl rfl))) <|
    dss_one (ds_if (dt_w (dw_and (dt_cmp op_ge sat_ge (de_var 11 (hv := Or.inl (by kernel_rfl))) (de_int) (nomark _)) (dw_and1 (dt_cmp (opEq hr.units) sat_eq (de_op op_mod sat_mod (de_var 11 (hv := Or.inl (by kernel_rfl))) (de_var 6 (hv := Or.inl (by kernel_rfl)))) (de_int) (nomark _))))) (dss_one (ds_put 7 (hu_of hr.units) (de_op op_fdivW sat_div (de_var 11 (hv := Or.inl (by kernel_rfl))) (de_var 6 (hv := Or.inl (by kernel_rfl)))) (de_bl) (hv := Or.inl (by kernel_rfl)))) (dss_nil))))))))))) <|
    dss_one (ds_frz 7 (ds_append 2 (de_var 7 (hv := Or.inl (by kernel_rfl))) (hv := Or.inl (by kernel_rfl))))))) <|
    dss_one (ds_frz 2 (ds_frz 7 (ds_retO (do_lc (own := [("_law_row", 7)]) rfl sc_law_keys.nd (di_list (de_var 2 (hv := Or.inl (by kernel_rfl)))) (blkOk_by (own := [("_law_row", 7)]) (N := ["_law_frame_here", "_law_number_here", "_law_due", "_law_upper", "_law_worth", "_law_lower", "_law_base", "_law_row", "_law_key", "_law_high", "_law_low", "_law_rest"]) (sc := defScope s_law_keys) (by decide +kernel)) (fun _ _ _ _ _ => dg_name 7 sc_law_keys.nd (hx := Or.inl (by kernel_rfl)) (hf := .inr (by kernel_rfl))) (fun _ _ _ _ _ => dts_nil) (fun _ _ _ _ _ => de_frz (do_callB (HX.call_sortD rfl) satO_sorted (by unfold L2.Gl; kernel_rfl) B.n_sorted (by decide +kernel) (da_cons (de_var 7 (hv := Or.inl (by kernel_rfl))) (da_nil))))))))
  exact ⟨a, fd, ["_law_frame_here", "_law_number_here"], gm, Fd.kp, hb, G⟩
theorem sc_law_values : FnScope ["_law_row", "_law_behind", "_law_key", "_law_told"] ["_law_row", "_law_behind"] (defScope s_law_values) := ⟨rfl, rfl, rfl, by decide +kernel, rfl, by decide +kernel, by decide +kernel⟩
theorem k_law_values {a : Addr} (F : ∃ fd, FunD K "_law_values" "_law_values" (defArgs s_law_values) (defBody s_law_values) (defScope s_law_values) [] [] a fd) (gm : mg "_law_values" = some (.ref a)) (B : Bt mg) : Kn P w K mg base 1 "_law_values" 2 m_law_values := by
  obtain ⟨fd, Fd⟩ := F
  have hb : Binds K fd ["_law_row", "_law_behind"] [] := Fd.bindsN (fun _ _ _ _ _ _ us hl => match us, hl with | [_, _], _ => by kernel_rfl)
  have G : FnOk P w K mg base (L2.CX P w) 1 a fd ["_law_row", "_law_behind"] (spD K mg 2 (mk 4 b_law_values)) := by
    refine fn_ok (k := 0) (g := b_law_values) (N := ["_law_row", "_law_behind", "_law_key", "_law_told"]) (ps := ["_law_row", "_law_behind"]) Fd sc_law_values (by decide) ?_
    intro cdv A outer s H E hr
    exact dss_cons (ds_forItems (acc_v 0 (hv := Or.inl (by kernel_rfl))) passOwnOf rfl (dg_tup rfl (dgs_cons (dg_name 2 sc_law_values.nd (hx := Or.inl (by kernel_rfl)) (hf := .inl rfl)) (dgs_cons (dg_name 3 sc_law_values.nd (hx := Or.inl (by kernel_rfl)) (hf := .inl rfl)) (dgs_nil)))) (dss_wp [2, 3] (dss_cons (ds_if (dt_w (dw_or (dt_not (dt_tru (de_callB call_isi sat_isi (by unfold L2.Gl; kernel_rfl) B.n_isinstance (by decide +kernel) (da_cons (de_var 2 (hv := Or.inl (by kernel_rfl))) (da_cons (de_ty (by unfold L2.Gl; kernel_rfl) B.n_int (by decide +kernel)) (da_nil)))) (by intro _; rfl))) (dw_or1 (dt_tru (de_callB call_isi sat_isi (by unfold L2.Gl; kernel_rfl) B.n_isinstance (by decide +kernel) (da_cons (de_var 2 (hv := Or.inl (by kernel_rfl))) (da_cons (de_ty (by unfold L2.Gl; kernel_rfl) B.n_bool (by decide +kernel)) (da_nil)))) (by intro _; rfl))))) (dss_one (ds_ret (de_bl))) (dss_nil)) <|
    dss_cons (ds_if (dt_w (dw_and (dt_tru (de_var 1 (hv := Or.inl (by kernel_rfl))) (by intro _; rfl)) (dw_and1 (dt_cmp (opNe hr.units) sat_ne (de_cmp op_isN sat_is (de_var 3 (hv := Or.inl (by kernel_rfl))) (de_non) (nomark _)) (de_cmp (opNe hr.units) sat_ne (de_var 2 (hv := Or.inl (by kernel_rfl))) (de_int) (nomark _)) (nomark _))))) (dss_one (ds_ret (de_bl))) (dss_nil)) <|
    dss_one (ds_if (dt_cmp op_notN sat_isnot (de_var 3 (hv := Or.inl (by kernel_rfl))) (de_non) (nomark _)) (dss_one (ds_if (dt_w (dw_or (dt_not (dt_tru (de_callB call_isi sat_isi (by unfold L2.Gl; kernel_rfl) B.n_isinstance (by decide +kernel) (da_cons (de_var 3 (hv := Or.inl (by kernel_rfl))) (da_cons (de_ty (by unfold L2.Gl; kernel_rfl) B.n_int (by decide +kernel)) (da_nil)))) (by intro _; rfl))) (dw_or (dt_tru (de_callB call_isi sat_isi (by unfold L2.Gl; kernel_rfl) B.n_isinstance (by decide +kernel) (da_cons (de_var 3 (hv := Or.inl (by kernel_rfl))) (da_cons (de_ty (by unfold L2.Gl; kernel_rfl) B.n_bool (by decide +kernel)) (da_nil)))) (by intro _; rfl)) (dw_or (dt_cmp op_lt sat_lt (de_var 3 (hv := Or.inl (by kernel_rfl))) (de_int) (nomark _)) (dw_or1 (dt_w (dw_and (dt_tru (de_var 1 (hv := Or.inl (by kernel_rfl))) (by intro _; rfl)) (dw_and1 (dt_cmp (opNe hr.units) sat_ne (de_var 3 (hv := Or.inl (by kernel_rfl))) (de_int) (nomark _)))))))))) (dss_one (ds_ret (de_bl))) (dss_nil))) (dss_nil))))) <|
    dss_one (ds_ret (de_bl))
  exact ⟨a, fd, ["_law_row", "_law_behind"], gm, Fd.kp, hb, G⟩
theorem sc_choices_at : FnScope ["layout", "left", "found", "rod_standing", "rest"] ["layout", "left"] (defScope s_choices_at) := ⟨rfl, rfl, rfl, by decide +kernel, rfl, by decide +kernel, by decide +kernel⟩
theorem ko_choices_at {a : Addr} (F : ∃ fd, FunD K "choices_at" "choices_at" (defArgs s_choices_at) (defBody s_choices_at) (defScope s_choices_at) [] [] a fd) (gm : mg "choices_at" = some (.ref a)) (B : Bt mg) (h_rod_standings : Kn P w K mg base 1 "rod_standings" 1 m_rod_standings) (h_count_of : Kn P w K mg base 1 "count_of" 2 m_count_of) : KnO P w K mg base 2 "choices_at" 2 mo_choices_at := by
  obtain ⟨fd, Fd⟩ := F
  have hb : Binds K fd ["layout", "left"] [] := Fd.bindsN (fun _ _ _ _ _ _ us hl => match us, hl with | [_, _], _ => by kernel_rfl)
  have G : FnOk P w K mg base (L2.CX P w) 2 a fd ["layout", "left"] (spO K mg 2 (mkO 5 b_choices_at)) := by
    refine fn_okO (k := 1) (g := b_choices_at) (N := ["layout", "left", "found", "rod_standing", "rest"]) (ps := ["layout", "left"]) Fd sc_choices_at (by decide) ?_
    intro cdv A outer s H E hr
    exact dss_cons (ds_setO 2 sc_choices_at.nd (do_lst (da_nil)) (hx := Or.inl (by kernel_rfl)) (hf := .inl rfl)) <|
    dss_cons (ds_for passOwnOf rfl (di_list (de_kn h_rod_standings hr (da_cons (de_var 0 (hv := Or.inl (by kernel_rfl))) (da_nil)) okWOf)) (dg_name 3 sc_choices_at.nd (hx := Or.inl (by kernel_rfl)) (hf := .inl rfl)) (dss_wp [3, 4] (dss_cons (ds_asg (de_op op_sub sat_sub (de_var 1 (hv := Or.inl (by kernel_rfl))) (de_kn h_count_of hr (da_cons (de_var 0 (hv := Or.inl (by kernel_rfl))) (da_cons (de_var 3 (hv := Or.inl (by kernel_rfl))) (da_nil))) okWOf)) (dg_name 4 sc_choices_at.nd (hx := Or.inl (by kernel_rfl)) (hf := .inl rfl))) <|
    dss_one (ds_if (dt_w (dw_and (dt_cmp op_ge sat_ge (de_var 4 (hv := Or.inl (by kernel_rfl))) (de_int) (nomark _)) (dw_and1 (dt_cmp (opEq hr.units) sat_eq (de_op op_mod sat_mod (de_var 4 (hv := Or.inl (by kernel_rfl))) (de_ix ix_seq sat_ix (de_var 0 (hv := Or.inl (by kernel_rfl))) (de_int) (fun _ _ => rfl))) (de_int) (nomark _))))) (dss_one (ds_append 2 (de_tup (da_cons (de_var 3 (hv := Or.inl (by kernel_rfl))) (da_cons (de_op op_fdivW sat_div (de_var 4 (hv := Or.inl (by kernel_rfl))) (de_ix ix_seq sat_ix (de_var 0 (hv := Or.inl (by kernel_rfl))) (de_int) (fun _ _ => rfl))) (da_nil)))) (hv := Or.inl (by kernel_rfl)))) (dss_nil))))) <|
    dss_one (ds_retS 2 (hv := Or.inl (by kernel_rfl)))
  exact ⟨a, fd, ["layout", "left"], gm, Fd.kp, hb, G⟩
theorem sc_least_of : FnScope ["some", "now", "behind", "price", "prices", "rod_standing", "rest"] ["some", "now", "behind", "price"] (defScope s_least_of) := ⟨rfl, rfl, rfl, by decide +kernel, rfl, by decide +kernel, by decide +kernel⟩
theorem k_least_of {a : Addr} (F : ∃ fd, FunD K "least_of" "least_of" (defArgs s_least_of) (defBody s_least_of) (defScope s_least_of) [] [] a fd) (gm : mg "least_of" = some (.ref a)) (B : Bt mg) (M_rod_price : KnM P w K mg base 1 tb_rod_price "rod_price" 2) : Kn P w K mg base 2 "least_of" 4 m_least_of := by
  obtain ⟨fd, Fd⟩ := F
  have hb : Binds K fd ["some", "now", "behind", "price"] [] := Fd.bindsN (fun _ _ _ _ _ _ us hl => match us, hl with | [_, _, _, _], _ => by kernel_rfl)
  have G : FnOk P w K mg base (L2.CX P w) 2 a fd ["some", "now", "behind", "price"] (spD K mg 4 (mk 7 b_least_of)) := by
    refine fn_ok (k := 1) (g := b_least_of) (N := ["some", "now", "behind", "price", "prices", "rod_standing", "rest"]) (ps := ["some", "now", "behind", "price"]) Fd sc_least_of (by decide) ?_
    intro cdv A outer s H E hr
    exact dss_cons (ds_setO 4 sc_least_of.nd (do_lst (da_nil)) (hx := Or.inl (by kernel_rfl)) (hf := .inl rfl)) <|
    dss_cons (ds_for passOwnOf rfl (di_list (de_var 0 (hv := Or.inl (by kernel_rfl)))) (dg_tup rfl (dgs_cons (dg_name 5 sc_least_of.nd (hx := Or.inl (by kernel_rfl)) (hf := .inl rfl)) (dgs_cons (dg_name 6 sc_least_of.nd (hx := Or.inl (by kernel_rfl)) (hf := .inl rfl)) (dgs_nil)))) (dss_wp [5, 6] (dss_one (ds_if (dt_cmp op_notN sat_isnot (de_dget (hu_of hr.units) (de_var 2 (hv := Or.inl (by kernel_rfl))) (de_var 6 (hv := Or.inl (by kernel_rfl)))) (de_non) (nomark _)) (dss_one (ds_append 4 (de_op opAdd sat_add (de_meth M_rod_price hr (de_var 3 (hv := Or.inl (by kernel_rfl))) (da_cons (de_var 1 (hv := Or.inl (by kernel_rfl))) (da_cons (de_var 5 (hv := Or.inl (by kernel_rfl))) (da_nil))) okWOf) (de_dget (hu_of hr.units) (de_var 2 (hv := Or.inl (by kernel_rfl))) (de_var 6 (hv := Or.inl (by kernel_rfl))))) (hv := Or.inl (by kernel_rfl)))) (dss_nil))))) <|
    dss_one (ds_frz 4 (ds_ret (de_minNon rfl hr.units (de_var 4 (hv := Or.inl (by kernel_rfl))) (by unfold L2.Gl; kernel_rfl) B.n_min)))
  exact ⟨a, fd, ["some", "now", "behind", "price"], gm, Fd.kp, hb, G⟩
theorem sc_Price_price : FnScope ["self", "one", "other", "here", "there"] ["self", "one", "other"] (defScope s_Price_price) := ⟨rfl, rfl, rfl, by decide +kernel, rfl, by decide +kernel, by decide +kernel⟩
theorem k_Price_price {a : Addr} (F : ∃ fd, FunD K "price" "Price.price" (defArgs s_Price_price) (defBody s_Price_price) (defScope s_Price_price) [] [] a fd) (B : Bt mg) (M_rod_price : KnM P w K mg base 1 tb_rod_price "rod_price" 2) : ∃ fd ps, FnOk P w K mg base (L2.CX P w) 2 a fd ps (spD K mg 3 m_Price_price) ∧ Binds K fd ps [] := by
  obtain ⟨fd, Fd⟩ := F
  have hb : Binds K fd ["self", "one", "other"] [] := Fd.bindsN (fun _ _ _ _ _ _ us hl => match us, hl with | [_, _, _], _ => by kernel_rfl)
  have G : FnOk P w K mg base (L2.CX P w) 2 a fd ["self", "one", "other"] (spD K mg 3 (mk 5 b_Price_price)) := by
    refine fn_ok (k := 1) (g := b_Price_price) (N := ["self", "one", "other", "here", "there"]) (ps := ["self", "one", "other"]) Fd sc_Price_price (by decide) ?_
    intro cdv A outer s H E hr
    exact dss_one (ds_ret (de_callB (cr_sum rfl) sat_sum (by unfold L2.Gl; kernel_rfl) B.n_sum (by decide +kernel) (da_cons (de_frz (do_lc (own := [("here", 3), ("there", 4)]) rfl sc_Price_price.nd (di_zip (by unfold L2.Gl; kernel_rfl) B.n_zip (da_cons (de_var 1 (hv := Or.inl (by kernel_rfl))) (da_cons (de_var 2 (hv := Or.inl (by kernel_rfl))) (da_nil)))) (blkOk_by (own := [("here", 3), ("there", 4)]) (N := ["self", "one", "other", "here", "there"]) (sc := defScope s_Price_price) (by decide +kernel)) (fun _ _ _ _ _ => dg_tup rfl (dgs_cons (dg_name 3 sc_Price_price.nd (hx := Or.inl (by kernel_rfl)) (hf := .inr (by kernel_rfl))) (dgs_cons (dg_name 4 sc_Price_price.nd (hx := Or.inl (by kernel_rfl)) (hf := .inr (by kernel_rfl))) (dgs_nil)))) (fun _ _ _ _ _ => dts_nil) (fun _ _ _ _ _ => de_meth M_rod_price hr (de_var 0 (hv := Or.inr (Or.inl (by kernel_rfl)))) (da_cons (de_var 3 (hv := Or.inl (by kernel_rfl))) (da_cons (de_var 4 (hv := Or.inl (by kernel_rfl))) (da_nil))) okW0))) (da_nil))))
  exact ⟨fd, ["self", "one", "other"], G, hb⟩
theorem sc_law_frame : FnScope ["_law_script", "_law_rods", "_law_most_upper", "_law_most_base", "_law_k"] ["_law_script", "_law_rods", "_law_most_upper", "_law_most_base"] (defScope s_law_frame) := ⟨rfl, rfl, rfl, by decide +kernel, rfl, by decide +kernel, by decide +kernel⟩
theorem ko_law_frame {a : Addr} (F : ∃ fd, FunD K "_law_frame" "_law_frame" (defArgs s_law_frame) (defBody s_law_frame) (defScope s_law_frame) [] [] a fd) (gm : mg "_law_frame" = some (.ref a)) (B : Bt mg) (h_law_mixed : Kn P w K mg base 1 "_law_mixed" 2 m_law_mixed) (h_law_layout : Kn P w K mg base 1 "_law_layout" 3 m_law_layout) : KnO P w K mg base 2 "_law_frame" 4 mo_law_frame := by
  obtain ⟨fd, Fd⟩ := F
  have hb : Binds K fd ["_law_script", "_law_rods", "_law_most_upper", "_law_most_base"] [] := Fd.bindsN (fun _ _ _ _ _ _ us hl => match us, hl with | [_, _, _, _], _ => by kernel_rfl)
  have G : FnOk P w K mg base (L2.CX P w) 2 a fd ["_law_script", "_law_rods", "_law_most_upper", "_law_most_base"] (spO K mg 4 (mkO 5 b_law_frame)) := by
    refine fn_okO (k := 1) (g := b_law_frame) (N := ["_law_script", "_law_rods", "_law_most_upper", "_law_most_base", "_law_k"]) (ps := ["_law_script", "_law_rods", "_law_most_upper", "_law_most_base"]) Fd sc_law_frame (by decide) ?_
    intro cdv A outer s H E hr
    exact dss_one (ds_retO (do_lc (own := [("_law_k", 4)]) rfl sc_law_frame.nd (di_range1 (by unfold L2.Gl; kernel_rfl) B.n_range (da_cons (de_var 1 (hv := Or.inl (by kernel_rfl))) (da_nil))) (blkOk_by (own := [("_law_k", 4)]) (N := ["_law_script", "_law_rods", "_law_most_upper", "_law_most_base", "_law_k"]) (sc := defScope s_law_frame) (by decide +kernel)) (fun _ _ _ _ _ => dg_name 4 sc_law_frame.nd (hx := Or.inl (by kernel_rfl)) (hf := .inr (by kernel_rfl))) (fun _ _ _ _ _ => dts_nil) (fun _ _ _ _ _ => de_kn h_law_layout hr (da_cons (de_kn h_law_mixed hr (da_cons (de_var 0 (hv := Or.inr (Or.inl (by kernel_rfl)))) (da_cons (de_op opAdd sat_add (de_int) (de_var 4 (hv := Or.inl (by kernel_rfl)))) (da_nil))) okW0) (da_cons (de_var 2 (hv := Or.inr (Or.inl (by kernel_rfl)))) (da_cons (de_var 3 (hv := Or.inr (Or.inl (by kernel_rfl)))) (da_nil)))) okW0)))
  exact ⟨a, fd, ["_law_script", "_law_rods", "_law_most_upper", "_law_most_base"], gm, Fd.kp, hb, G⟩
theorem sc_law_standing : FnScope ["_law_script", "_law_frame_here", "_law_begin", "_law_found", "_law_k", "_law_layout_here", "_law_number_here"] ["_law_script", "_law_frame_here", "_law_begin"] (defScope s_law_standing) := ⟨rfl, rfl, rfl, by decide +kernel, rfl, by decide +kernel, by decide +kernel⟩
theorem ko_law_standing {a : Addr} (F : ∃ fd, FunD K "_law_standing" "_law_standing" (defArgs s_law_standing) (defBody s_law_standing) (defScope s_law_standing) [] [] a fd) (gm : mg "_law_standing" = some (.ref a)) (B : Bt mg) (h_law_mixed : Kn P w K mg base 1 "_law_mixed" 2 m_law_mixed) : KnO P w K mg base 2 "_law_standing" 3 mo_law_standing := by
  obtain ⟨fd, Fd⟩ := F
  have hb : Binds K fd ["_law_script", "_law_frame_here", "_law_begin"] [] := Fd.bindsN (fun _ _ _ _ _ _ us hl => match us, hl with | [_, _, _], _ => by kernel_rfl)
  have G : FnOk P w K mg base (L2.CX P w) 2 a fd ["_law_script", "_law_frame_here", "_law_begin"] (spO K mg 3 (mkO 7 b_law_standing)) := by
    refine fn_okO (k := 1) (g := b_law_standing) (N := ["_law_script", "_law_frame_here", "_law_begin", "_law_found", "_law_k", "_law_layout_here", "_law_number_here"]) (ps := ["_law_script", "_law_frame_here", "_law_begin"]) Fd sc_law_standing (by decide) ?_
    intro cdv A outer s H E hr
    exact dss_cons (ds_setO 3 sc_law_standing.nd (do_lst (da_nil)) (hx := Or.inl (by kernel_rfl)) (hf := .inl rfl)) <|
    dss_cons (ds_for passOwnOf rfl (di_enum (by unfold L2.Gl; kernel_rfl) B.n_enumerate (da_cons (de_var 1 (hv := Or.inl (by kernel_rfl))) (da_nil))) (dg_tup rfl (dgs_cons (dg_name 4 sc_law_standing.nd (hx := Or.inl (by kernel_rfl)) (hf := .inl rfl)) (dgs_cons (dg_name 5 sc_law_standing.nd (hx := Or.inl (by kernel_rfl)) (hf := .inl rfl)) (dgs_nil)))) (dss_wp [4, 5, 6] (dss_cons (ds_asg (de_kn h_law_mixed hr (da_cons (de_var 0 (hv := Or.inl (by kernel_rfl))) (da_cons (de_op opAdd sat_add (de_var 2 (hv := Or.inl (by kernel_rfl))) (de_var 4 (hv := Or.inl (by kernel_rfl)))) (da_nil))) okWOf) (dg_name 6 sc_law_standing.nd (hx := Or.inl (by kernel_rfl)) (hf := .inl rfl))) <|
    dss_one (ds_append 3 (de_tup (da_cons (de_op op_mod sat_mod (de_var 6 (hv := Or.inl (by kernel_rfl))) (de_op opAdd sat_add (de_ix ix_seq sat_ix (de_var 5 (hv := Or.inl (by kernel_rfl))) (de_int) (fun _ _ => rfl)) (de_int))) (da_cons (de_op op_mod sat_mod (de_op op_fdivW sat_div (de_var 6 (hv := Or.inl (by kernel_rfl))) (de_int)) (de_op opAdd sat_add (de_ix ix_seq sat_ix (de_var 5 (hv := Or.inl (by kernel_rfl))) (de_int) (fun _ _ => rfl)) (de_int))) (da_nil)))) (hv := Or.inl (by kernel_rfl)))))) <|
    dss_one (ds_retS 3 (hv := Or.inl (by kernel_rfl)))
  exact ⟨a, fd, ["_law_script", "_law_frame_here", "_law_begin"], gm, Fd.kp, hb, G⟩
theorem sc_law_right : FnScope ["_law_found", "_law_due", "_law_k"] ["_law_found", "_law_due"] (defScope s_law_right) := ⟨rfl, rfl, rfl, by decide +kernel, rfl, by decide +kernel, by decide +kernel⟩
theorem k_law_right {a : Addr} (F : ∃ fd, FunD K "_law_right" "_law_right" (defArgs s_law_right) (defBody s_law_right) (defScope s_law_right) [] [] a fd) (gm : mg "_law_right" = some (.ref a)) (B : Bt mg) (h_law_values : Kn P w K mg base 1 "_law_values" 2 m_law_values) : Kn P w K mg base 2 "_law_right" 2 m_law_right := by
  obtain ⟨fd, Fd⟩ := F
  have hb : Binds K fd ["_law_found", "_law_due"] [] := Fd.bindsN (fun _ _ _ _ _ _ us hl => match us, hl with | [_, _], _ => by kernel_rfl)
  have G : FnOk P w K mg base (L2.CX P w) 2 a fd ["_law_found", "_law_due"] (spD K mg 2 (mk 3 b_law_right)) := by
    refine fn_ok (k := 1) (g := b_law_right) (N := ["_law_found", "_law_due", "_law_k"]) (ps := ["_law_found", "_law_due"]) Fd sc_law_right (by decide) ?_
    intro cdv A outer s H E hr
    exact dss_cons (ds_if (dt_w (dw_or (dt_not (dt_tru (de_callB call_isi sat_isi (by unfold L2.Gl; kernel_rfl) B.n_isinstance (by decide +kernel) (da_cons (de_var 0 (hv := Or.inl (by kernel_rfl))) (da_cons (de_ty (by unfold L2.Gl; kernel_rfl) B.n_list (by decide +kernel)) (da_nil)))) (by intro _; rfl))) (dw_or1 (dt_cmp (opNe hr.units) sat_ne (de_callB call_len sat_len (by unfold L2.Gl; kernel_rfl) B.n_len (by decide +kernel) (da_cons (de_var 0 (hv := Or.inl (by kernel_rfl))) (da_nil))) (de_callB call_len sat_len (by unfold L2.Gl; kernel_rfl) B.n_len (by decide +kernel) (da_cons (de_var 1 (hv := Or.inl (by kernel_rfl))) (da_nil))) (nomark _))))) (dss_one (ds_ret (de_bl))) (dss_nil)) <|
    dss_cons (ds_for passOwnOf rfl (di_range1 (by unfold L2.Gl; kernel_rfl) B.n_range (da_cons (de_callB call_len sat_len (by unfold L2.Gl; kernel_rfl) B.n_len (by decide +kernel) (da_cons (de_var 1 (hv := Or.inl (by kernel_rfl))) (da_nil))) (da_nil))) (dg_name 2 sc_law_right.nd (hx := Or.inl (by kernel_rfl)) (hf := .inl rfl)) (dss_wp [2] (dss_cons (ds_if (dt_w (dw_or (dt_not (dt_tru (de_callB call_isi sat_isi (by unfold L2.Gl; kernel_rfl) B.n_isinstance (by decide +kernel) (da_cons (de_ix ix_seq sat_ix (de_var 0 (hv := Or.inl (by kernel_rfl))) (de_var 2 (hv := Or.inl (by kernel_rfl))) (fun _ _ => rfl)) (da_cons (de_ty (by unfold L2.Gl; kernel_rfl) B.n_dict (by decide +kernel)) (da_nil)))) (by intro _; rfl))) (dw_or1 (dt_cmp (opNe hr.units) sat_ne (de_frz (do_callB (HX.call_sortD rfl) satO_sorted (by unfold L2.Gl; kernel_rfl) B.n_sorted (by decide +kernel) (da_cons (de_ix ix_seq sat_ix (de_var 0 (hv := Or.inl (by kernel_rfl))) (de_var 2 (hv := Or.inl (by kernel_rfl))) (fun _ _ => rfl)) (da_nil)))) (de_ix ix_seq sat_ix (de_var 1 (hv := Or.inl (by kernel_rfl))) (de_var 2 (hv := Or.inl (by kernel_rfl))) (fun _ _ => rfl)) (nomark _))))) (dss_one (ds_ret (de_bl))) (dss_nil)) <|
    dss_one (ds_if (dt_not (dt_tru (de_kn h_law_values hr (da_cons (de_ix ix_seq sat_ix (de_var 0 (hv := Or.inl (by kernel_rfl))) (de_var 2 (hv := Or.inl (by kernel_rfl))) (fun _ _ => rfl)) (da_cons (de_cmp (opEq hr.units) sat_eq (de_var 2 (hv := Or.inl (by kernel_rfl))) (de_op op_sub sat_sub (de_callB call_len sat_len (by unfold L2.Gl; kernel_rfl) B.n_len (by decide +kernel) (da_cons (de_var 1 (hv := Or.inl (by kernel_rfl))) (da_nil))) (de_int)) (nomark _)) (da_nil))) okWOf) (by intro _; rfl))) (dss_one (ds_ret (de_bl))) (dss_nil))))) <|
    dss_one (ds_ret (de_bl))
  exact ⟨a, fd, ["_law_found", "_law_due"], gm, Fd.kp, hb, G⟩
theorem sc_keys_of : FnScope ["frame", "number", "found", "keys", "layout", "row", "behind", "key", "rod_standing", "rest"] ["frame", "number"] (defScope s_keys_of) := ⟨rfl, rfl, rfl, by decide +kernel, rfl, by decide +kernel, by decide +kernel⟩
theorem ko_keys_of {a : Addr} (F : ∃ fd, FunD K "keys_of" "keys_of" (defArgs s_keys_of) (defBody s_keys_of) (defScope s_keys_of) [] [] a fd) (gm : mg "keys_of" = some (.ref a)) (B : Bt mg) (h_choices_at : Kn P w K mg base 2 "choices_at" 2 m_choices_at) : KnO P w K mg base 3 "keys_of" 2 mo_keys_of := by
  obtain ⟨fd, Fd⟩ := F
  have hb : Binds K fd ["frame", "number"] [] := Fd.bindsN (fun _ _ _ _ _ _ us hl => match us, hl with | [_, _], _ => by kernel_rfl)
  have G : FnOk P w K mg base (L2.CX P w) 3 a fd ["frame", "number"] (spO K mg 2 (mkO 10 b_keys_of)) := by
    refine fn_okO (k := 2) (g := b_keys_of) (N := ["frame", "number", "found", "keys", "layout", "row", "behind", "key", "rod_standing", "rest"]) (ps := ["frame", "number"]) Fd sc_keys_of (by decide) ?_
    intro cdv A outer s H E hr
    exact dss_cons (ds_setO 2 sc_keys_of.nd (do_lst (da_nil)) (hx := Or.inl (by kernel_rfl)) (hf := .inl rfl)) <|
    dss_cons (ds_asg (de_frz (do_lst (da_cons (de_var 1 (hv := Or.inl (by kernel_rfl))) (da_nil)))) (dg_name 3 sc_keys_of.nd (hx := Or.inl (by kernel_rfl)) (hf := .inl rfl))) <|
    dss_cons (ds_for passOwnOf rfl (di_list (de_var 0 (hv := Or.inl (by kernel_rfl)))) (dg_name 4 sc_keys_of.nd (hx := Or.inl (by kernel_rfl)) (hf := .inl rfl)) (dss_wp [4, 5, 6, 7, 8, 9] (dss_cons (ds_setD 5 sc_keys_of.nd dd_new (hx := Or.inl (by kernel_rfl)) (hf := .inl rfl)) <|
    dss_cons (ds_setD 6 sc_keys_of.nd dd_new (hx := Or.inl (by kernel_rfl)) (hf := .inl rfl)) <|
    dss_cons (ds_for passOwnOf rfl (di_list (de_var 3 (hv := Or.inl (by kernel_rfl)))) (dg_name 7 sc_keys_of.nd (hx := Or.inl (by kernel_rfl)) (hf := .inl rfl)) (dss_wp [7, 8, 9] (dss_cons (ds_put 5 (hu_of hr.units) (de_var 7 (hv := Or.inl (by kernel_rfl))) (de_kn h_choices_at hr (da_cons (de_var 4 (hv := Or.inl (by kernel_rfl))) (da_cons (de_var 7 (hv := Or.inl (by kernel_rfl))) (da_nil))) okWOf) (hv := Or.inl (by kernel_rfl))) <|
    dss_one (ds_for passOwnOf rfl (di_list (de_ownGet 5 (hu_of hr.units) (de_var 7 (hv := Or.inl (by kernel_rfl))) (hv := Or.inl (by kernel_rfl)))) (dg_tup rfl (dgs_cons (dg_name 8 sc_keys_of.nd (hx := Or.inl (by kernel_rfl)) (hf := .inl rfl)) (dgs_cons (dg_name 9 sc_keys_of.nd (hx := Or.inl (by kernel_rfl)) (hf := .inl rfl)) (dgs_nil)))) (dss_wp [8, 9] (dss_one (ds_put 6 (hu_of hr.units) (de_var 9 (hv := Or.inl (by kernel_rfl))) (de_bl) (hv := Or.inl (by kernel_rfl))))))))) <|
    dss_cons (ds_frz 5 (ds_append 2 (de_var 5 (hv := Or.inl (by kernel_rfl))) (hv := Or.inl (by kernel_rfl)))) <|
    dss_one (ds_frz 6 (ds_asg (de_frz (do_callB (HX.call_sortD rfl) satO_sorted (by unfold L2.Gl; kernel_rfl) B.n_sorted (by decide +kernel) (da_cons (de_var 6 (hv := Or.inl (by kernel_rfl))) (da_nil)))) (dg_name 3 sc_keys_of.nd (hx := Or.inl (by kernel_rfl)) (hf := .inl rfl))))))) <|
    dss_cons (ds_setD 5 sc_keys_of.nd dd_new (hx := Or.inl (by kernel_rfl)) (hf := .inl rfl)) <|
    dss_cons (ds_fgt [7] (ds_for passOwnOf rfl (di_list (de_var 3 (hv := Or.inl (by kernel_rfl)))) (dg_name 7 sc_keys_of.nd (hx := Or.inl (by kernel_rfl)) (hf := .inl rfl)) (dss_wp [7] (dss_one (ds_put 5 (hu_of hr.units) (de_var 7 (hv := Or.inl (by kernel_rfl))) (de_frz (do_lst (da_nil))) (hv := Or.inl (by kernel_rfl))))))) <|
    dss_one (ds_frz 2 (ds_frz 5 (ds_retO (do_op opAdd satO_add (de_var 2 (hv := Or.inl (by kernel_rfl))) (de_frz (do_lst (da_cons (de_var 5 (hv := Or.inl (by kernel_rfl))) (da_nil))))))))
  exact ⟨a, fd, ["frame", "number"], gm, Fd.kp, hb, G⟩
theorem sc_law_number : FnScope ["_law_script", "_law_frame_here", "_law_way", "_law_full", "_law_most", "_law_layout_here"] ["_law_script", "_law_frame_here"] (defScope s_law_number) := ⟨rfl, rfl, rfl, by decide +kernel, rfl, by decide +kernel, by decide +kernel⟩
theorem k_law_number {a : Addr} (F : ∃ fd, FunD K "_law_number" "_law_number" (defArgs s_law_number) (defBody s_law_number) (defScope s_law_number) [] [] a fd) (gm : mg "_law_number" = some (.ref a)) (B : Bt mg) (h_law_standing : Kn P w K mg base 2 "_law_standing" 3 m_law_standing) (h_law_borne : Kn P w K mg base 1 "_law_borne" 2 m_law_borne) (h_law_mixed : Kn P w K mg base 1 "_law_mixed" 2 m_law_mixed) : Kn P w K mg base 3 "_law_number" 2 m_law_number := by
  obtain ⟨fd, Fd⟩ := F
  have hb : Binds K fd ["_law_script", "_law_frame_here"] [] := Fd.bindsN (fun _ _ _ _ _ _ us hl => match us, hl with | [_, _], _ => by kernel_rfl)
  have G : FnOk P w K mg base (L2.CX P w) 3 a fd ["_law_script", "_law_frame_here"] (spD K mg 2 (mk 6 b_law_number)) := by
    refine fn_ok (k := 2) (g := b_law_number) (N := ["_law_script", "_law_frame_here", "_law_way", "_law_full", "_law_most", "_law_layout_here"]) (ps := ["_law_script", "_law_frame_here"]) Fd sc_law_number (by decide) ?_
    intro cdv A outer s H E hr
    exact dss_cons (ds_asg (de_op op_mod sat_mod (de_kn h_law_mixed hr (da_cons (de_var 0 (hv := Or.inl (by kernel_rfl))) (da_cons (de_int) (da_nil))) okWOf) (de_int)) (dg_name 2 sc_law_number.nd (hx := Or.inl (by kernel_rfl)) (hf := .inl rfl))) <|
    dss_cons (ds_setLc 3 (own := [("_law_layout_here", 5)]) rfl sc_law_number.nd (by kernel_rfl) (sw_true rfl (by kernel_rfl) rfl (by decide +kernel)) (di_list (de_var 1 (hv := Or.inl (by kernel_rfl)))) (blkOk_by (own := [("_law_layout_here", 5)]) (N := ["_law_script", "_law_frame_here", "_law_way", "_law_full", "_law_most", "_law_layout_here"]) (sc := defScope s_law_number) (by decide +kernel)) (fun _ _ _ _ _ => dg_name 5 sc_law_number.nd (hx := Or.inl (by kernel_rfl)) (hf := .inr (by kernel_rfl))) (fun _ _ _ _ _ => dts_nil) (fun _ _ _ _ _ => de_tup (da_cons (de_ix ix_seq sat_ix (de_var 5 (hv := Or.inl (by kernel_rfl))) (de_int) (fun _ _ => rfl)) (da_cons (de_ix ix_seq sat_ix (de_var 5 (hv := Or.inl (by kernel_rfl))) (de_int) (fun _ _ => rfl)) (da_nil))))) <|
    dss_cons (ds_frz 3 (ds_asg (de_kn h_law_borne hr (da_cons (de_var 1 (hv := Or.inl (by kernel_rfl))) (da_cons (de_var 3 (hv := Or.inl (by kernel_rfl))) (da_nil))) okWOf) (dg_name 4 sc_law_number.nd (hx := Or.inl (by kernel_rfl)) (hf := .inl rfl)))) <|
    dss_cons (ds_if (dt_cmp (opEq hr.units) sat_eq (de_var 2 (hv := Or.inl (by kernel_rfl))) (de_int) (nomark _)) (dss_one (ds_ret (de_op opAdd sat_add (de_var 4 (hv := Or.inl (by kernel_rfl))) (de_op op_mod sat_mod (de_kn h_law_mixed hr (da_cons (de_var 0 (hv := Or.inl (by kernel_rfl))) (da_cons (de_int) (da_nil))) okWOf) (de_int))))) (dss_nil)) <|
    dss_cons (ds_if (dt_cmp (opEq hr.units) sat_eq (de_var 2 (hv := Or.inl (by kernel_rfl))) (de_int) (nomark _)) (dss_one (ds_ret (de_op op_mod sat_mod (de_op opMul sat_mul (de_op opMul sat_mul (de_kn h_law_mixed hr (da_cons (de_var 0 (hv := Or.inl (by kernel_rfl))) (da_cons (de_int) (da_nil))) okWOf) (de_kn h_law_mixed hr (da_cons (de_var 0 (hv := Or.inl (by kernel_rfl))) (da_cons (de_int) (da_nil))) okWOf)) (de_kn h_law_mixed hr (da_cons (de_var 0 (hv := Or.inl (by kernel_rfl))) (da_cons (de_int) (da_nil))) okWOf)) (de_op opAdd sat_add (de_var 4 (hv := Or.inl (by kernel_rfl))) (de_int))))) (dss_nil)) <|
    dss_one (ds_ret (de_kn h_law_borne hr (da_cons (de_var 1 (hv := Or.inl (by kernel_rfl))) (da_cons (de_kn h_law_standing hr (da_cons (de_var 0 (hv := Or.inl (by kernel_rfl))) (da_cons (de_var 1 (hv := Or.inl (by kernel_rfl))) (da_cons (de_int) (da_nil)))) okWOf) (da_nil))) okWOf))
  exact ⟨a, fd, ["_law_script", "_law_frame_here"], gm, Fd.kp, hb, G⟩
theorem sc_table_of : FnScope ["frame", "standing", "number", "price", "keys", "last", "key", "table", "rod", "row", "some"] ["frame", "standing", "number", "price"] (defScope s_table_of) := ⟨rfl, rfl, rfl, by decide +kernel, rfl, by decide +kernel, by decide +kernel⟩
theorem ko_table_of {a : Addr} (F : ∃ fd, FunD K "table_of" "table_of" (defArgs s_table_of) (defBody s_table_of) (defScope s_table_of) [] [] a fd) (gm : mg "table_of" = some (.ref a)) (B : Bt mg) (h_least_of : Kn P w K mg base 2 "least_of" 4 m_least_of) (h_keys_of : Kn P w K mg base 3 "keys_of" 2 m_keys_of) : KnO P w K mg base 4 "table_of" 4 mo_table_of := by
  obtain ⟨fd, Fd⟩ := F
  have hb : Binds K fd ["frame", "standing", "number", "price"] [] := Fd.bindsN (fun _ _ _ _ _ _ us hl => match us, hl with | [_, _, _, _], _ => by kernel_rfl)
  have G : FnOk P w K mg base (L2.CX P w) 4 a fd ["frame", "standing", "number", "price"] (spO K mg 4 (mkO 11 b_table_of)) := by
    refine fn_okO (k := 3) (g := b_table_of) (N := ["frame", "standing", "number", "price", "keys", "last", "key", "table", "rod", "row", "some"]) (ps := ["frame", "standing", "number", "price"]) Fd sc_table_of (by decide) ?_
    intro cdv A outer s H E hr
    exact dss_cons (ds_asg (de_kn h_keys_of hr (da_cons (de_var 0 (hv := Or.inl (by kernel_rfl))) (da_cons (de_var 2 (hv := Or.inl (by kernel_rfl))) (da_nil))) okWOf) (dg_name 4 sc_table_of.nd (hx := Or.inl (by kernel_rfl)) (hf := .inl rfl))) <|
    dss_cons (ds_setD 5 sc_table_of.nd dd_new (hx := Or.inl (by kernel_rfl)) (hf := .inl rfl)) <|
    dss_cons (ds_forKeys (acc_ix (W := W0) 4 (de_un un_neg sat_neg (de_int)) (fun _ _ => rfl) (hv := Or.inl (by kernel_rfl))) passOwnOf rfl (dg_name 6 sc_table_of.nd (hx := Or.inl (by kernel_rfl)) (hf := .inl rfl)) (dss_wp [6] (dss_cons (ds_put 5 (hu_of hr.units) (de_var 6 (hv := Or.inl (by kernel_rfl))) (de_non) (hv := Or.inl (by kernel_rfl))) <|
    dss_one (ds_if (dt_cmp (opEq hr.units) sat_eq (de_var 6 (hv := Or.inl (by kernel_rfl))) (de_int) (nomark _)) (dss_one (ds_put 5 (hu_of hr.units) (de_var 6 (hv := Or.inl (by kernel_rfl))) (de_int) (hv := Or.inl (by kernel_rfl)))) (dss_nil))))) <|
    dss_cons (ds_frz 5 (ds_setO 7 sc_table_of.nd (do_lst (da_cons (de_var 5 (hv := Or.inl (by kernel_rfl))) (da_nil))) (hx := Or.inl (by kernel_rfl)) (hf := .inl rfl))) <|
    dss_cons (ds_fgt [6] (ds_for passOwnOf rfl (di_range3 (by unfold L2.Gl; kernel_rfl) B.n_range (da_cons (de_op op_sub sat_sub (de_callB call_len sat_len (by unfold L2.Gl; kernel_rfl) B.n_len (by decide +kernel) (da_cons (de_var 0 (hv := Or.inl (by kernel_rfl))) (da_nil))) (de_int)) (da_cons (de_un un_neg sat_neg (de_int)) (da_cons (de_un un_neg sat_neg (de_int)) (da_nil))))) (dg_name 8 sc_table_of.nd (hx := Or.inl (by kernel_rfl)) (hf := .inl rfl)) (dss_wp [6, 8, 9, 10] (dss_cons (ds_setD 9 sc_table_of.nd dd_new (hx := Or.inl (by kernel_rfl)) (hf := .inl rfl)) <|
    dss_cons (ds_fgt [6] (ds_forItems (acc_ix (W := W0) 4 (de_var 8 (hv := Or.inl (by kernel_rfl))) (fun _ _ => rfl) (hv := Or.inl (by kernel_rfl))) passOwnOf rfl (dg_tup rfl (dgs_cons (dg_name 6 sc_table_of.nd (hx := Or.inl (by kernel_rfl)) (hf := .inl rfl)) (dgs_cons (dg_name 10 sc_table_of.nd (hx := Or.inl (by kernel_rfl)) (hf := .inl rfl)) (dgs_nil)))) (dss_wp [6, 10] (dss_one (ds_put 9 (hu_of hr.units) (de_var 6 (hv := Or.inl (by kernel_rfl))) (de_kn h_least_of hr (da_cons (de_var 10 (hv := Or.inl (by kernel_rfl))) (da_cons (de_ix ix_seq sat_ix (de_var 1 (hv := Or.inl (by kernel_rfl))) (de_var 8 (hv := Or.inl (by kernel_rfl))) (fun _ _ => rfl)) (da_cons (de_ownIx 7 (de_int) (fun _ _ => rfl) (hv := Or.inl (by kernel_rfl))) (da_cons (de_var 3 (hv := Or.inl (by kernel_rfl))) (da_nil))))) okWOf) (hv := Or.inl (by kernel_rfl))))))) <|
    dss_one (ds_frz 9 (ds_frz 7 (ds_setO 7 sc_table_of.nd (do_op opAdd satO_add (de_frz (do_lst (da_cons (de_var 9 (hv := Or.inl (by kernel_rfl))) (da_nil)))) (de_var 7 (hv := Or.inl (by kernel_rfl)))) (hx := Or.inl (by kernel_rfl)) (hf := .inl rfl)))))))) <|
    dss_one (ds_retS 7 (hv := Or.inl (by kernel_rfl)))
  exact ⟨a, fd, ["frame", "standing", "number", "price"], gm, Fd.kp, hb, G⟩
theorem sc_law : FnScope ["_law_script", "_law_frame_here", "_law_standing_here", "_law_number_here", "_law_due", "_law_handed", "_law_price", "_law_found"] ["_law_script"] (defScope s_law) := ⟨rfl, rfl, rfl, by decide +kernel, rfl, by decide +kernel, by decide +kernel⟩
end
section
variable {P : Program} {w : World} {K : PySem.W.Frag} {mg : Str → Option Value} {base : Heap}
theorem law_ok {a : Addr} {fd : FuncData} (Fd : FunD K "law" "law" (defArgs s_law) (defBody s_law) (defScope s_law) [] [] a fd) (B : Bt mg) (h_table_of : Kn P w K mg base 4 "table_of" 4 m_table_of) (h_law_right : Kn P w K mg base 2 "_law_right" 2 m_law_right) (ho_table_of : KnO P w K mg base 4 "table_of" 4 mo_table_of) (h_law_keys : Kn P w K mg base 1 "_law_keys" 2 m_law_keys) (h_law_number : Kn P w K mg base 3 "_law_number" 2 m_law_number) (h_law_standing : Kn P w K mg base 2 "_law_standing" 3 m_law_standing) (h_law_mixed : Kn P w K mg base 1 "_law_mixed" 2 m_law_mixed) (h_law_frame : Kn P w K mg base 2 "_law_frame" 4 m_law_frame) (o_ByMoves : KO0 K mg "ByMoves") (o_ByBeads : KO0 K mg "ByBeads") (o_ByGrips : KO0 K mg "ByGrips") : FnOk P w K mg base (L2.CX P w) 5 a fd ["_law_script"] (spD K mg 1 m_law) := by
  refine fn_ok (k := 4) (g := b_law) (N := ["_law_script", "_law_frame_here", "_law_standing_here", "_law_number_here", "_law_due", "_law_handed", "_law_price", "_law_found"]) (ps := ["_law_script"]) Fd sc_law (by decide) ?_
  intro cdv A outer s H E hr
  exact dss_cons (ds_asg (de_kn h_law_frame hr (da_cons (de_var 0 (hv := Or.inl (by kernel_rfl))) (da_cons (de_op opAdd sat_add (de_int) (de_op op_mod sat_mod (de_kn h_law_mixed hr (da_cons (de_var 0 (hv := Or.inl (by kernel_rfl))) (da_cons (de_int) (da_nil))) okWOf) (de_int))) (da_cons (de_int) (da_cons (de_int) (da_nil))))) okWOf) (dg_name 1 sc_law.nd (hx := Or.inl (by kernel_rfl)) (hf := .inl rfl))) <|
    dss_cons (ds_asg (de_kn h_law_standing hr (da_cons (de_var 0 (hv := Or.inl (by kernel_rfl))) (da_cons (de_var 1 (hv := Or.inl (by kernel_rfl))) (da_cons (de_int) (da_nil)))) okWOf) (dg_name 2 sc_law.nd (hx := Or.inl (by kernel_rfl)) (hf := .inl rfl))) <|
    dss_cons (ds_asg (de_kn h_law_number hr (da_cons (de_var 0 (hv := Or.inl (by kernel_rfl))) (da_cons (de_var 1 (hv := Or.inl (by kernel_rfl))) (da_nil))) okWOf) (dg_name 3 sc_law.nd (hx := Or.inl (by kernel_rfl)) (hf := .inl rfl))) <|
    dss_cons (ds_asg (de_kn h_law_keys hr (da_cons (de_var 1 (hv := Or.inl (by kernel_rfl))) (da_cons (de_var 3 (hv := Or.inl (by kernel_rfl))) (da_nil))) okWOf) (dg_name 4 sc_law.nd (hx := Or.inl (by kernel_rfl)) (hf := .inl rfl))) <|
    dss_cons (ds_asg (de_frz (do_lst (da_cons (de_frz (do_callTy call_list_of satO_list (by unfold L2.Gl; kernel_rfl) B.n_list (by decide +kernel) (da_cons (de_var 1 (hv := Or.inl (by kernel_rfl))) (da_nil)))) (da_cons (de_frz (do_callTy call_list_of satO_list (by unfold L2.Gl; kernel_rfl) B.n_list (by decide +kernel) (da_cons (de_var 2 (hv := Or.inl (by kernel_rfl))) (da_nil)))) (da_nil))))) (dg_name 5 sc_law.nd (hx := Or.inl (by kernel_rfl)) (hf := .inl rfl))) <|
    dss_cons (ds_for passOwnOf rfl (di_list (de_frz (do_lst (da_cons (de_new0 o_ByMoves) (da_cons (de_new0 o_ByGrips) (da_cons (de_new0 o_ByBeads) (da_nil))))))) (dg_name 6 sc_law.nd (hx := Or.inl (by kernel_rfl)) (hf := .inl rfl)) (dss_wp [6, 7] (dss_tabs 7 [0, 1, 2, 4, 7] (hu_of hr.units) sc_law.nd (do_kn ho_table_of hr (da_cons (de_ix ix_seq sat_ix (de_var 5 (hv := Or.inl (by kernel_rfl))) (de_int) (fun _ _ => rfl)) (da_cons (de_ix ix_seq sat_ix (de_var 5 (hv := Or.inl (by kernel_rfl))) (de_int) (fun _ _ => rfl)) (da_cons (de_var 3 (hv := Or.inl (by kernel_rfl))) (da_cons (de_var 6 (hv := Or.inl (by kernel_rfl))) (da_nil))))) okWOf) (dt_not (dt_tru (de_bor 7 (de_kn h_law_right hr (da_cons (de_var 7 (hv := Or.inl (by kernel_rfl))) (da_cons (de_var 4 (hv := Or.inl (by kernel_rfl))) (da_nil))) okWOf)) (by intro _; rfl))) (dss_one (ds_ret (de_bl))) de_int (de_un un_neg sat_neg de_int) (de_var 3 (hv := Or.inl (by kernel_rfl))) (de_str) (de_frzD dd_new) (fun _ _ => rfl) (fun _ _ => rfl)))) <|
    dss_cons (ds_if (dt_cmp (opNe hr.units) sat_ne (de_var 5 (hv := Or.inl (by kernel_rfl))) (de_frz (do_lst (da_cons (de_var 1 (hv := Or.inl (by kernel_rfl))) (da_cons (de_var 2 (hv := Or.inl (by kernel_rfl))) (da_nil))))) (nomark _)) (dss_one (ds_ret (de_bl))) (dss_nil)) <|
    dss_one (ds_ret (de_kn h_law_right hr (da_cons (de_kn h_table_of hr (da_cons (de_var 1 (hv := Or.inl (by kernel_rfl))) (da_cons (de_var 2 (hv := Or.inl (by kernel_rfl))) (da_cons (de_var 3 (hv := Or.inl (by kernel_rfl))) (da_cons (de_new0 o_ByMoves) (da_nil))))) okWOf) (da_cons (de_var 4 (hv := Or.inl (by kernel_rfl))) (da_nil))) okWOf))
end
def d_count_of : He.DefD := ⟨("count_of", none), "count_of", "count_of", defArgs s_count_of, defBody s_count_of, defScope s_count_of, [], []⟩
def d_rod_standings : He.DefD := ⟨("rod_standings", none), "rod_standings", "rod_standings", defArgs s_rod_standings, defBody s_rod_standings, defScope s_rod_standings, [], []⟩
def d_law_mixed : He.DefD := ⟨("_law_mixed", none), "_law_mixed", "_law_mixed", defArgs s_law_mixed, defBody s_law_mixed, defScope s_law_mixed, [], []⟩
def d_law_layout : He.DefD := ⟨("_law_layout", none), "_law_layout", "_law_layout", defArgs s_law_layout, defBody s_law_layout, defScope s_law_layout, [], []⟩
def d_law_borne : He.DefD := ⟨("_law_borne", none), "_law_borne", "_law_borne", defArgs s_law_borne, defBody s_law_borne, defScope s_law_borne, [], []⟩
def d_law_keys : He.DefD := ⟨("_law_keys", none), "_law_keys", "_law_keys", defArgs s_law_keys, defBody s_law_keys, defScope s_law_keys, [], []⟩
def d_law_values : He.DefD := ⟨("_law_values", none), "_law_values", "_law_values", defArgs s_law_values, defBody s_law_values, defScope s_law_values, [], []⟩
def d_choices_at : He.DefD := ⟨("choices_at", none), "choices_at", "choices_at", defArgs s_choices_at, defBody s_choices_at, defScope s_choices_at, [], []⟩
def d_least_of : He.DefD := ⟨("least_of", none), "least_of", "least_of", defArgs s_least_of, defBody s_least_of, defScope s_least_of, [], []⟩
def d_law_frame : He.DefD := ⟨("_law_frame", none), "_law_frame", "_law_frame", defArgs s_law_frame, defBody s_law_frame, defScope s_law_frame, [], []⟩
def d_law_standing : He.DefD := ⟨("_law_standing", none), "_law_standing", "_law_standing", defArgs s_law_standing, defBody s_law_standing, defScope s_law_standing, [], []⟩
def d_law_right : He.DefD := ⟨("_law_right", none), "_law_right", "_law_right", defArgs s_law_right, defBody s_law_right, defScope s_law_right, [], []⟩
def d_keys_of : He.DefD := ⟨("keys_of", none), "keys_of", "keys_of", defArgs s_keys_of, defBody s_keys_of, defScope s_keys_of, [], []⟩
def d_law_number : He.DefD := ⟨("_law_number", none), "_law_number", "_law_number", defArgs s_law_number, defBody s_law_number, defScope s_law_number, [], []⟩
def d_table_of : He.DefD := ⟨("table_of", none), "table_of", "table_of", defArgs s_table_of, defBody s_table_of, defScope s_table_of, [], []⟩
def d_law : He.DefD := ⟨("law", none), "law", "law", defArgs s_law, defBody s_law, defScope s_law, [], []⟩
def dm_Price_rod_price : He.DefD := ⟨("Price", some "rod_price"), "rod_price", "Price.rod_price", defArgs s_Price_rod_price, defBody s_Price_rod_price, defScope s_Price_rod_price, [], []⟩
def dm_ByMoves_rod_price : He.DefD := ⟨("ByMoves", some "rod_price"), "rod_price", "ByMoves.rod_price", defArgs s_ByMoves_rod_price, defBody s_ByMoves_rod_price, defScope s_ByMoves_rod_price, [], []⟩
def dm_ByGrips_rod_price : He.DefD := ⟨("ByGrips", some "rod_price"), "rod_price", "ByGrips.rod_price", defArgs s_ByGrips_rod_price, defBody s_ByGrips_rod_price, defScope s_ByGrips_rod_price, [], []⟩
def dm_ByBeads_rod_price : He.DefD := ⟨("ByBeads", some "rod_price"), "rod_price", "ByBeads.rod_price", defArgs s_ByBeads_rod_price, defBody s_ByBeads_rod_price, defScope s_ByBeads_rod_price, [], []⟩
def fns : List He.DefD := [d_count_of, d_rod_standings, d_law_mixed, d_law_layout, d_law_borne, d_law_keys, d_law_values, d_choices_at, d_least_of, d_law_frame, d_law_standing, d_law_right, d_keys_of, d_law_number, d_table_of, d_law, dm_Price_rod_price, dm_ByMoves_rod_price, dm_ByGrips_rod_price, dm_ByBeads_rod_price]
def ex : PySem.W.Frag → Bool := fun K => exAll cs tb K && (mk0B K (He.ga K "ByMoves") && (mk0B K (He.ga K "ByBeads") && (mk0B K (He.ga K "ByGrips"))))
def fa : List He.Fa := [.glo "count_of", .glo "rod_standings", .glo "_law_mixed", .glo "_law_layout", .glo "_law_borne", .glo "_law_keys", .glo "_law_values", .glo "choices_at", .glo "least_of", .glo "_law_frame", .glo "_law_standing", .glo "_law_right", .glo "keys_of", .glo "_law_number", .glo "table_of", .glo "law", .free "range", .free "int", .free "abs", .free "len", .free "min", .free "max", .free "zip", .free "sorted", .free "isinstance", .free "bool", .free "sum", .free "enumerate", .free "dict", .free "list", .glo "Price", .glo "ByMoves", .glo "ByGrips", .glo "ByBeads", .cls "Price", .cls "ByMoves", .cls "ByGrips", .cls "ByBeads", .meth "Price" "rod_price", .meth "ByMoves" "rod_price", .meth "ByGrips" "rod_price", .meth "ByBeads" "rod_price"]
abbrev Rw : PySem.W.OpenRow := PySem.W.OpenLaw.row PySem.Challenge.rw_beadframe_k34_table_keys
abbrev hk : PySem.W.Hook := DHk.hookS 4 fa fns ex
def ob (s : PySem.W.SharedT) : DHk.AlS := DHk.obsSG 4 fa fns ex (HandSHeadRun.getT s)
theorem ob_eq (s : PySem.W.SharedT) : ob s = hk.obs s.abs := DHk.obsS_eq (HandSHeadRun.getT_eq s)
def names0 : List PySem.Str := ["count_of", "rod_standings", "choices_at", "keys_of", "least_of", "table_of", "Price", "ByMoves", "ByGrips", "ByBeads", "_law_mixed", "_law_layout", "_law_frame", "_law_standing", "_law_borne", "_law_number", "_law_keys", "_law_values", "_law_right"]
def names : List PySem.Str := names0
theorem run (w : World) : HandSHeadRun.RunEq Rw (PySem.W.view Rw.prog [23]) hk ob 20000 names w := by
  intro os
  kernel_rfl
theorem facts {P : Program} {w : World} {K : PySem.W.Frag} {h : Heap} {mg : Str → Option Value} {f : Addr} (X : K.In h) (G : h.Ns mainGlobals mg) (hfa : mg ("law" : Str) = some (.ref f)) (cX : DHk.SaysS fa fns ex K) :
    ∃ fd : FuncData, (∀ (s : Shared) (v : Value), BindsTo s fd ⟨[v], []⟩ [("_law_script", v)]) ∧ ∀ base : Heap, K.In base → base.Ns mainGlobals mg → FnOk P w K mg base (L2.CX P w) 5 f fd ["_law_script"] (spD K mg 1 m_law) := by
  have c := cX.d
  have B : Bt mg := ⟨He.free_ok X G (c.fact 16 (f := .free "range") rfl), He.free_ok X G (c.fact 17 (f := .free "int") rfl), He.free_ok X G (c.fact 18 (f := .free "abs") rfl), He.free_ok X G (c.fact 19 (f := .free "len") rfl), He.free_ok X G (c.fact 20 (f := .free "min") rfl), He.free_ok X G (c.fact 21 (f := .free "max") rfl), He.free_ok X G (c.fact 22 (f := .free "zip") rfl), He.free_ok X G (c.fact 23 (f := .free "sorted") rfl), He.free_ok X G (c.fact 24 (f := .free "isinstance") rfl), He.free_ok X G (c.fact 25 (f := .free "bool") rfl), He.free_ok X G (c.fact 26 (f := .free "sum") rfl), He.free_ok X G (c.fact 27 (f := .free "enumerate") rfl), He.free_ok X G (c.fact 28 (f := .free "dict") rfl), He.free_ok X G (c.fact 29 (f := .free "list") rfl)⟩
  have g_count_of := He.glo_ok X G (c.fact 0 (f := .glo "count_of") rfl)
  have g_rod_standings := He.glo_ok X G (c.fact 1 (f := .glo "rod_standings") rfl)
  have g_law_mixed := He.glo_ok X G (c.fact 2 (f := .glo "_law_mixed") rfl)
  have g_law_layout := He.glo_ok X G (c.fact 3 (f := .glo "_law_layout") rfl)
  have g_law_borne := He.glo_ok X G (c.fact 4 (f := .glo "_law_borne") rfl)
  have g_law_keys := He.glo_ok X G (c.fact 5 (f := .glo "_law_keys") rfl)
  have g_law_values := He.glo_ok X G (c.fact 6 (f := .glo "_law_values") rfl)
  have g_choices_at := He.glo_ok X G (c.fact 7 (f := .glo "choices_at") rfl)
  have g_least_of := He.glo_ok X G (c.fact 8 (f := .glo "least_of") rfl)
  have g_law_frame := He.glo_ok X G (c.fact 9 (f := .glo "_law_frame") rfl)
  have g_law_standing := He.glo_ok X G (c.fact 10 (f := .glo "_law_standing") rfl)
  have g_law_right := He.glo_ok X G (c.fact 11 (f := .glo "_law_right") rfl)
  have g_keys_of := He.glo_ok X G (c.fact 12 (f := .glo "keys_of") rfl)
  have g_law_number := He.glo_ok X G (c.fact 13 (f := .glo "_law_number") rfl)
  have g_table_of := He.glo_ok X G (c.fact 14 (f := .glo "table_of") rfl)
  have g_law := He.glo_ok X G (c.fact 15 (f := .glo "law") rfl)
  have gc_Price := He.glo_ok X G (c.fact 30 (f := .glo "Price") rfl)
  have gc_ByMoves := He.glo_ok X G (c.fact 31 (f := .glo "ByMoves") rfl)
  have gc_ByGrips := He.glo_ok X G (c.fact 32 (f := .glo "ByGrips") rfl)
  have gc_ByBeads := He.glo_ok X G (c.fact 33 (f := .glo "ByBeads") rfl)
  have gcs : ∀ c ∈ cs, mg c = some (.ref (He.ga K c)) := by
    intro c hc
    simp only [cs, List.mem_cons, List.not_mem_nil, or_false] at hc
    rcases hc with rfl | rfl | rfl | rfl
    · exact gc_Price
    · exact gc_ByMoves
    · exact gc_ByGrips
    · exact gc_ByBeads
  have q_ : ex K = true := cX.more
  obtain ⟨q0, r0⟩ := He.ba q_
  obtain ⟨q1, r1⟩ := He.ba r0
  obtain ⟨q2, r2⟩ := He.ba r1
  have q3 := r2
  have E_ : ExF K mg cs tb := exF_of gcs (by decide +kernel) q0
  have o_ByMoves : KO0 K mg "ByMoves" := ⟨_, gc_ByMoves, mk0B_ok q1⟩
  have o_ByBeads : KO0 K mg "ByBeads" := ⟨_, gc_ByBeads, mk0B_ok q2⟩
  have o_ByGrips : KO0 K mg "ByGrips" := ⟨_, gc_ByGrips, mk0B_ok q3⟩
  have h_count_of := fun base => k_count_of (P := P) (w := w) (base := base) (c.def_ 0 (d := d_count_of) rfl) g_count_of B
  have ho_rod_standings := fun base => ko_rod_standings (P := P) (w := w) (base := base) (c.def_ 1 (d := d_rod_standings) rfl) g_rod_standings B
  have h_rod_standings := fun base => (ho_rod_standings base).kn
  have h_law_mixed := fun base => k_law_mixed (P := P) (w := w) (base := base) (c.def_ 2 (d := d_law_mixed) rfl) g_law_mixed B
  have h_law_layout := fun base => k_law_layout (P := P) (w := w) (base := base) (c.def_ 3 (d := d_law_layout) rfl) g_law_layout B
  have h_law_borne := fun base => k_law_borne (P := P) (w := w) (base := base) (c.def_ 4 (d := d_law_borne) rfl) g_law_borne B
  have ho_law_keys := fun base => ko_law_keys (P := P) (w := w) (base := base) (c.def_ 5 (d := d_law_keys) rfl) g_law_keys B
  have h_law_keys := fun base => (ho_law_keys base).kn
  have h_law_values := fun base => k_law_values (P := P) (w := w) (base := base) (c.def_ 6 (d := d_law_values) rfl) g_law_values B
  have ho_choices_at := fun base => ko_choices_at (P := P) (w := w) (base := base) (c.def_ 7 (d := d_choices_at) rfl) g_choices_at B (h_rod_standings base) (h_count_of base)
  have h_choices_at := fun base => (ho_choices_at base).kn
  have M_rod_price : ∀ base, KnM P w K mg base 1 tb_rod_price "rod_price" 2 := fun base => by
    intro e he
    have he : e ∈ [(("Price" : Str), m_Price_rod_price), (("ByMoves" : Str), m_ByMoves_rod_price), (("ByGrips" : Str), m_ByGrips_rod_price), (("ByBeads" : Str), m_ByBeads_rod_price)] := he
    simp only [List.mem_cons, List.not_mem_nil, or_false] at he
    rcases he with rfl | rfl | rfl | rfl
    · obtain ⟨fd, ps, g, b⟩ := k_Price_rod_price (P := P) (w := w) (base := base) (c.def_ 16 (d := dm_Price_rod_price) rfl) B
      exact ⟨_, _, fd, ps, gc_Price, He.cls_ok (c.fact 34 (f := .cls "Price") rfl), He.meth_ok (c.fact 38 (f := .meth "Price" "rod_price") rfl), b, g.mono (by decide)⟩
    · obtain ⟨fd, ps, g, b⟩ := k_ByMoves_rod_price (P := P) (w := w) (base := base) (c.def_ 17 (d := dm_ByMoves_rod_price) rfl) B
      exact ⟨_, _, fd, ps, gc_ByMoves, He.cls_ok (c.fact 35 (f := .cls "ByMoves") rfl), He.meth_ok (c.fact 39 (f := .meth "ByMoves" "rod_price") rfl), b, g.mono (by decide)⟩
    · obtain ⟨fd, ps, g, b⟩ := k_ByGrips_rod_price (P := P) (w := w) (base := base) (c.def_ 18 (d := dm_ByGrips_rod_price) rfl) B
      exact ⟨_, _, fd, ps, gc_ByGrips, He.cls_ok (c.fact 36 (f := .cls "ByGrips") rfl), He.meth_ok (c.fact 40 (f := .meth "ByGrips" "rod_price") rfl), b, g.mono (by decide)⟩
    · obtain ⟨fd, ps, g, b⟩ := k_ByBeads_rod_price (P := P) (w := w) (base := base) (c.def_ 19 (d := dm_ByBeads_rod_price) rfl) B
      exact ⟨_, _, fd, ps, gc_ByBeads, He.cls_ok (c.fact 37 (f := .cls "ByBeads") rfl), He.meth_ok (c.fact 41 (f := .meth "ByBeads" "rod_price") rfl), b, g.mono (by decide)⟩
  have h_least_of := fun base => k_least_of (P := P) (w := w) (base := base) (c.def_ 8 (d := d_least_of) rfl) g_least_of B (M_rod_price base)
  have ho_law_frame := fun base => ko_law_frame (P := P) (w := w) (base := base) (c.def_ 9 (d := d_law_frame) rfl) g_law_frame B (h_law_mixed base) (h_law_layout base)
  have h_law_frame := fun base => (ho_law_frame base).kn
  have ho_law_standing := fun base => ko_law_standing (P := P) (w := w) (base := base) (c.def_ 10 (d := d_law_standing) rfl) g_law_standing B (h_law_mixed base)
  have h_law_standing := fun base => (ho_law_standing base).kn
  have h_law_right := fun base => k_law_right (P := P) (w := w) (base := base) (c.def_ 11 (d := d_law_right) rfl) g_law_right B (h_law_values base)
  have ho_keys_of := fun base => ko_keys_of (P := P) (w := w) (base := base) (c.def_ 12 (d := d_keys_of) rfl) g_keys_of B (h_choices_at base)
  have h_keys_of := fun base => (ho_keys_of base).kn
  have h_law_number := fun base => k_law_number (P := P) (w := w) (base := base) (c.def_ 13 (d := d_law_number) rfl) g_law_number B (h_law_standing base) (h_law_borne base) (h_law_mixed base)
  have ho_table_of := fun base => ko_table_of (P := P) (w := w) (base := base) (c.def_ 14 (d := d_table_of) rfl) g_table_of B (h_least_of base) (h_keys_of base)
  have h_table_of := fun base => (ho_table_of base).kn
  obtain ⟨fd, F⟩ := c.def_ 15 (d := d_law) rfl
  have e := hfa.symm.trans g_law
  cases e
  have b := FunD.bindsA (ps := ["_law_script"]) F fun _ _ _ _ _ _ us hl => match us, hl with | [_], _ => by kernel_rfl
  refine ⟨fd, fun s v => b s [v] rfl, fun base _ _ => ?_⟩
  exact law_ok F B (h_table_of base) (h_law_right base) (ho_table_of base) (h_law_keys base) (h_law_number base) (h_law_standing base) (h_law_mixed base) (h_law_frame base) o_ByMoves o_ByBeads o_ByGrips
end K34
open PySem PySem.W PySem.Calls PyProof.Rows
set_option maxRecDepth 100000 in
set_option maxHeartbeats 0 in
theorem PySem.Challenge.cw_beadframe_k34_table_keys_holds : PySem.Challenge.rw_beadframe_k34_table_keys.Holds := by
  w_on; o_law
  refine HandSHeadRun.head_any (r := OpenLaw.row PySem.Challenge.rw_beadframe_k34_table_keys) (q := view (OpenLaw.row PySem.Challenge.rw_beadframe_k34_table_keys).prog [23]) (H := K34.hk) (ob := K34.ob) (M := 20000) (loose := K34.names) (d := HandSHeadRun.topDef (OpenLaw.row PySem.Challenge.rw_beadframe_k34_table_keys).prog 23) (kwd := []) K34.ob_eq
    (by kernel_rfl) (fun s => by kernel_rfl) K34.run (by kernel_rfl) (by kernel_rfl) (by kernel_rfl) (by rfl) (by first | assumption | decide +kernel) (by decide +kernel) ⟨rfl, rfl, rfl, rfl, rfl, by decide +kernel⟩ ?hw ?hc
  case hw => w_witness2
  case hc =>
    refine DL.walkE (l := PySem.Challenge.rw_beadframe_k34_table_keys) (n := 63) (k := 5) (x := "_law_script") (m := K34.m_law) rfl (by decide) (by kernel_rfl) ⟨rfl, by decide, by decide⟩ K34.law_true ?F
    intro w mg fa h Y G hmg0
    obtain ⟨K, KX, c⟩ := Y
    have hmg : mg ("law" : PySem.Str) = some (.ref fa) := by
      have e : (HandSHeadRun.topDef (OpenLaw.row PySem.Challenge.rw_beadframe_k34_table_keys).prog 23).name = ("law" : PySem.Str) := by kernel_rfl
      rw [← e]
      exact hmg0
    obtain ⟨fd, hb, hF⟩ := K34.facts (P := (PySem.Challenge.rw_beadframe_k34_table_keys).prog) (w := w) KX G hmg c
    exact ⟨K, fd, KX, hb, hF⟩
