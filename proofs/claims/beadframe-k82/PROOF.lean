import PyProof.Rows.All
import Wide.All
import OpenK.AllK
import Wide.FinOn
import HandS.ForMost
import HandS.ForExc
import HandS.ClsMeth
import HandS.ExcIs
import HandS.ExcField
import HandS.ExcInit
import HandS.TryOnly
import HandS.Walk
import HandS.Wide
import HandS.IsInst
import HandS.CallSlots
import HandS.Defaults
import HandS.Deep
import HandS.Flow
import HandS.NoneIn
import HandS.Style
import HandS.Rev
import HandS.RevRange
import HandS.WideBits
import PyProof.ZipIter
import KE.KItemsList
import HandS.ListItems
import KE.KStateDown
import HandS.Ends
import HandS.HeadEnd
import HandS.Head0
import HandS.Head1
import HandS.Head2
import HandS.HeadHook1
import HandS.HeadHook2
import KE.KExcIs
import KE.KIsAll
import HandS.ExcInitHot
import HandS.Finally
import KE.DataFind
import HandS.Iter
import HandS.SortInts
import HandS.More
import HandS.TupSets
import HandS.Strs
import PyProof.DictWalks
import PyProof.MinMaxWalk
import PyProof.WalkInts
import PyProof.StrBlock2
import HandS.Zip
import KE.KRevIter
import KE.DatumOrd
import HandS.SortKw
import HandS.Flt
import HandS.DeepEq
import HandS.Text
import HandS.FStr
import HandS.TupAny
import HandS.RaiseMore
import KE.LtData
import HandS.Conv
import PyProof.NeKinds
import KE.GoesRaise
import KE.KSortTupG
import PySem.Challenge.RW_beadframe_k82_whole_slips_lead_there
set_option Elab.async false
set_option linter.all false
set_option maxRecDepth 100000
set_option maxHeartbeats 4000000
namespace HX
open PySem PySem.Spec PyProof.Rows L2
def HEx (cls : Value) (d : Option Addr) (a : Addr) : HO := .ext fun h => ∃ (oe : Obj) (vs : Array Value), h.get? a = some oe ∧ Zc cls d oe ∧ oe.data = .fields vs
theorem hex_at {P : Program} {w : World} {H : Hp} {h : Heap} {a : Addr} {cls : Value} {d : Option Addr} (x : HOk P w H h) (e : H a = some (HEx cls d a)) : ∃ (oe : Obj) (vs : Array Value), h.get? a = some oe ∧ Zc cls d oe ∧ oe.data = .fields vs := (x a _ e).1
section
variable {X : Cx} {pins : List (Addr × Obj)} {σ : L2.St} {H : Hp} {s : Shared} {a : Addr} {cls : Value} {d : Option Addr} {oe : Obj} {vs : Array Value}
end
section
variable {X : Cx} {x n : Str} {c : Value} {i : Nat} {body suite : List Stmt} {b₀ : Stmt} {np pos pos' : Pos} {tb : WX → TS} {ts : Addr → Value → Option Addr → TS} {Wout : WX}
end
end HX
namespace DL
open PySem PySem.Spec L2
inductive D where
  | non | bl (b : Bool) | int (i : Int) | str (x : Str)
  | lst (xs : List D) | tup (xs : List D)
  | scr (ns : List Int)
  | dk (ks : List Key) (vs : List D)
  | obj (c : Str) (ns : List Str) (vs : List D)
  | exc (c : Str) (ns : List Str) (vs : List D)
  | cls (c : Str) | ty (n : String)
instance : Inhabited D := ⟨.non⟩
inductive R (α : Type) where
  | ok (a : α) | exc (x : D) | stuck
namespace R
variable {α β : Type}
def bind : R α → (α → R β) → R β
  | .ok a, k => k a
  | .exc x, _ => .exc x
  | .stuck, _ => .stuck
def map (g : α → β) : R α → R β
  | .ok a => .ok (g a)
  | .exc x => .exc x
  | .stuck => .stuck
end R
inductive Fl where
  | val (d : D) | own (ds : List D) | dic (ks : List Key) (vs : List D)
def Fl.isOwn : Fl → Bool
  | .val _ => false
  | _ => true
inductive Ctx where
  | c3 (a b n : D) | c4 (a b c : D)
inductive Ab where
  | nst (out : List (List D × Ctx)) (inn : List D) | scb (ks : List Key) (vs : List D) (out : List (List D × Ctx)) (inn : List D) | dsk (ks : List Key) (obs : List (List Str × List Fl)) | dol (ks : List Key) (xss : List (List D))
inductive Slot where
  | val (d : D) | own (ds : List D) | dic (ks : List Key) (vs : List D) | oob (b : Bool) (c : Str) (ns : List Str) (fs : List Fl) | hnd (j : Nat) (ds : List D) | hdc (j : Nat) (ks : List Key) (vs : List D) | abs (b : Bool) (a : Ab)
def Slot.isOwn : Slot → Bool
  | .val _ => false
  | _ => true
def OFoot (H : Hp) (ns : List Str) (fs : List Fl) (v : V) (l : Addr) : Prop := v = V.ref l ∨ ∃ (a C dx : Addr) (vs : List V) (i : Nat) (f : Fl), v = V.ref a ∧ H a = some (HO.ins C dx (ns.zip vs)) ∧ ns.length = vs.length ∧ fs[i]? = some f ∧ f.isOwn = true ∧ vs[i]? = some (V.ref l)
def abFoot (H : Hp) : Ab → V → Addr → Prop
  | .nst _ _, v, l => v = V.ref l ∨ ∃ n vs, v = V.ref n ∧ H n = some (HO.lst vs) ∧ V.ref l ∈ vs
  | .scb _ _ _ _, v, l => v = V.ref l ∨ ∃ a C dx s n, v = V.ref a ∧ H a = some (HO.ins C dx [("script", V.ref s), ("nests", V.ref n)]) ∧ (l = s ∨ l = n ∨ (∃ vs, H n = some (HO.lst vs) ∧ V.ref l ∈ vs) ∨ ∃ C' dx' r, H s = some (HO.ins C' dx' [("frames", V.ref l), ("rows", r)]))
  | .dsk ks obs, v, l => v = V.ref l ∨ ∃ a C dx d, v = V.ref a ∧ H a = some (HO.ins C dx [("held", V.ref d)]) ∧ (l = d ∨ ∃ (us : List V) (i : Nat) (ob : List Str × List Fl) (u : V), H d = some (HO.dK (ks.zip us)) ∧ ks.length = us.length ∧ obs[i]? = some ob ∧ us[i]? = some u ∧ OFoot H ob.1 ob.2 u l)
  | .dol ks _, v, l => v = V.ref l ∨ ∃ (n : Addr) (us : List V), v = V.ref n ∧ H n = some (HO.dK (ks.zip us)) ∧ ks.length = us.length ∧ V.ref l ∈ us
def foot (H : Hp) : Slot → V → Addr → Prop
  | .val _, _, _ => False
  | .own _, v, l => v = V.ref l
  | .dic _ _, v, l => v = V.ref l
  | .oob _ _ ns fs, v, l => OFoot H ns fs v l
  | .hnd _ _, v, l => v = V.ref l
  | .hdc _ _ _, v, l => v = V.ref l
  | .abs _ a, v, l => abFoot H a v l
def Slot.tag : Slot → Option Nat
  | .oob true _ _ _ => some 0
  | .hnd j _ => some (j + 1)
  | .hdc j _ _ => some (j + 1)
  | .abs true _ => some 0
  | _ => none
abbrev Env := List (Option Slot)
def KTup (K : PySem.W.Frag) (a : Addr) (vs : List V) : Prop := (∃ (o : Obj) (its : Array Value) (n : Nat), K.lookup a = some o ∧ o.cls = .type "tuple" ∧ o.data = .seq its n ∧ its.size ≤ sizeLine ∧ Vals vs its.toList) ∧ vs ≠ [] ∧ ∀ v ∈ vs, ∃ x, v = .str x
def TpAt (K : PySem.W.Frag) (F : Hp) (a : Addr) (vs : List V) : Prop := F a = some (.tup vs) ∨ KTup K a vs
theorem TpAt.mono {K : PySem.W.Frag} {F F' : Hp} {a : Addr} {vs : List V} (s : Same F F') (h : TpAt K F a vs) : TpAt K F' a vs := h.imp (s _ _) id
section
variable (K : PySem.W.Frag) (mg : Str → Option Value)
mutual
/-- v in the heap F is the tree d -/
def Rp (F : Hp) : D → V → Prop
  | .non, v => v = .non
  | .bl b, v => v = .bl b
  | .int i, v => v = .int i
  | .str x, v => v = .str x
  | .lst ds, v => ∃ a vs, v = .ref a ∧ F a = some (.lst vs) ∧ RpL F ds vs
  | .tup ds, v => ∃ a vs, v = .ref a ∧ TpAt K F a vs ∧ RpL F ds vs
  | .scr ns, v => ∃ a, v = .ref a ∧ SqL K F a (ns.map V.int)
  | .dk ks ds, v => ∃ a vs, v = .ref a ∧ F a = some (.dK (ks.zip vs)) ∧ ks.length = vs.length ∧ RpL F ds vs
  | .obj c ns ds, v => ∃ a C dx vs, v = .ref a ∧ mg c = some (.ref C) ∧ F a = some (.ins C dx (ns.zip vs)) ∧ ns.length = vs.length ∧ RpL F ds vs
  | .exc c ns ds, v => ∃ a C od, v = .ref a ∧ mg c = some (.ref C) ∧ F a = some (HX.HEx (.ref C) od a) ∧
      ((ns = [] ∧ ds = [] ∧ od = none) ∨ ∃ dd vs, od = some dd ∧ F dd = some (.xd (ns.zip vs)) ∧ ns.length = vs.length ∧ RpL F ds vs)
  | .cls c, v => ∃ C, v = .ref C ∧ mg c = some (.ref C)
  | .ty n, v => v = .ty n
def RpL (F : Hp) : List D → List V → Prop
  | [], vs => vs = []
  | d :: ds, vs => ∃ v us, vs = v :: us ∧ Rp F d v ∧ RpL F ds us
end
def RpX (F : Hp) : D → Value → Option Addr → Prop
  | .exc c ns ds, cls, od => ∃ C, cls = .ref C ∧ mg c = some (.ref C) ∧
      ((ns = [] ∧ ds = [] ∧ od = none) ∨ ∃ dd vs, od = some dd ∧ F dd = some (.xd (ns.zip vs)) ∧ ns.length = vs.length ∧ RpL K mg F ds vs)
  | _, _, _ => False
end
def Fz (F H : Hp) : Prop := ∀ a o, F a = some o → H a = some o ∨ ((∃ kvs, o = .dK kvs) ∧ ∃ ob, H a = some (.frz ob o))
theorem Fz.refl (H : Hp) : Fz H H := fun _ _ h => .inl h
theorem Fz.free {F H : Hp} (h : Fz F H) {a : Addr} (n : H a = none) : F a = none := by
  cases q : F a with
  | none => rfl
  | some o =>
    rcases h a o q with z | ⟨_, _, z⟩
    · rw [n] at z; cases z
    · rw [n] at z; cases z
theorem Fz.sub {F F1 H : Hp} (h : Fz F1 H) (s : Same F F1) : Fz F H := fun a o e => h a o (s a o e)
theorem Fz.lst {F H : Hp} (h : Fz F H) {a : Addr} {vs : List V} (e : F a = some (.lst vs)) : H a = some (.lst vs) := by
  rcases h a _ e with z | ⟨⟨_, z⟩, _⟩
  · exact z
  · cases z
theorem Fz.tup {F H : Hp} (h : Fz F H) {a : Addr} {vs : List V} (e : F a = some (.tup vs)) : H a = some (.tup vs) := by
  rcases h a _ e with z | ⟨⟨_, z⟩, _⟩
  · exact z
  · cases z
theorem TpAt.sq {K : PySem.W.Frag} {F H : Hp} {a : Addr} {vs : List V} (h : TpAt K F a vs) (z : Fz F H) : SqT K H a vs := h.elim (fun e => .inl (.inl (z.tup e))) fun k => .inr k.1
theorem Fz.ins {F H : Hp} (h : Fz F H) {a C dx : Addr} {fs : List (Str × V)} (e : F a = some (.ins C dx fs)) : H a = some (.ins C dx fs) := by
  rcases h a _ e with z | ⟨⟨_, z⟩, _⟩
  · exact z
  · cases z
theorem Fz.xd {F H : Hp} (h : Fz F H) {a : Addr} {fs : List (Str × V)} (e : F a = some (.xd fs)) : H a = some (.xd fs) := by
  rcases h a _ e with z | ⟨⟨_, z⟩, _⟩
  · exact z
  · cases z
theorem Fz.seq {K : PySem.W.Frag} {F H : Hp} (h : Fz F H) {a : Addr} {vs : List V} (e : SqL K F a vs) : SqL K H a vs := by
  rcases e with (e | ⟨o, e⟩) | e
  · exact .inl (.inl (h.lst e))
  · rcases h a _ e with z | ⟨⟨_, z⟩, _⟩
    · exact .inl (.inr ⟨o, z⟩)
    · cases z
  · exact .inr e
structure Ext (F H F' H' : Hp) : Prop where
  ff : Same F F'
  fh : Fz F' H'
  hh : Same H H'
  new : ∀ a o, F' a = some o → F a = some o ∨ H a = none
theorem Ext.refl {F H : Hp} (h : Fz F H) : Ext F H F H := ⟨Same.refl _, h, Same.refl _, fun _ _ e => .inl e⟩
theorem Ext.trans {F H F1 H1 F2 H2 : Hp} (a : Ext F H F1 H1) (b : Ext F1 H1 F2 H2) : Ext F H F2 H2 :=
  ⟨a.ff.trans b.ff, b.fh, a.hh.trans b.hh, fun c o e => by
    rcases b.new c o e with z | z
    · exact a.new c o z
    · exact .inr (a.hh.free z)⟩
theorem Ext.laid {F H : Hp} (h : Fz F H) {p : Addr} {o : HO} (n : H p = none) : Ext F H (upd F p o) (upd H p o) := by
  have nF := h.free n
  refine ⟨fun a u e => by rw [upd_ne (ne_of_none e nF)]; exact e, fun a u e => ?_, fun a u e => by rw [upd_ne (ne_of_none e n)]; exact e, fun a u e => ?_⟩
  · by_cases q : a = p
    · subst q
      rw [upd_same] at e ⊢
      exact .inl e
    · rw [upd_ne q] at e ⊢
      exact h a u e
  · by_cases q : a = p
    · subst q
      exact .inr n
    · rw [upd_ne q] at e
      exact .inl e
theorem Ext.heap {F H : Hp} (h : Fz F H) {p : Addr} {o : HO} (n : H p = none) : Ext F H F (upd H p o) := by
  have nF := h.free n
  refine ⟨Same.refl _, fun a u e => ?_, fun a u e => by rw [upd_ne (ne_of_none e n)]; exact e, fun a u e => .inl e⟩
  rw [upd_ne (ne_of_none e nF)]
  exact h a u e
section
variable {K : PySem.W.Frag} {mg : Str → Option Value} {F F' : Hp}
theorem SqL.mono (s : Same F F') {a : Addr} {xs : List V} (h : SqL K F a xs) : SqL K F' a xs := s.seq h
mutual
theorem Rp.mono (s : Same F F') : ∀ (d : D) (v : V), Rp K mg F d v → Rp K mg F' d v
  | .non, _, h => h
  | .bl _, _, h => h
  | .int _, _, h => h
  | .str _, _, h => h
  | .lst ds, _, h => by
    unfold Rp at h ⊢
    obtain ⟨a, vs, e, ea, r⟩ := h
    exact ⟨a, vs, e, s _ _ ea, RpL.mono s ds vs r⟩
  | .tup ds, _, h => by
    unfold Rp at h ⊢
    obtain ⟨a, vs, e, ea, r⟩ := h
    exact ⟨a, vs, e, ea.mono s, RpL.mono s ds vs r⟩
  | .scr ns, _, h => by
    unfold Rp at h ⊢
    obtain ⟨a, e, q⟩ := h
    exact ⟨a, e, s.seq q⟩
  | .dk ks ds, _, h => by
    unfold Rp at h ⊢
    obtain ⟨a, vs, e, ea, l, r⟩ := h
    exact ⟨a, vs, e, s _ _ ea, l, RpL.mono s ds vs r⟩
  | .obj c ns ds, _, h => by
    unfold Rp at h ⊢
    obtain ⟨a, C, dx, vs, e, ec, ea, l, r⟩ := h
    exact ⟨a, C, dx, vs, e, ec, s _ _ ea, l, RpL.mono s ds vs r⟩
  | .exc c ns ds, _, h => by
    unfold Rp at h ⊢
    obtain ⟨a, C, od, e, ec, ea, q⟩ := h
    refine ⟨a, C, od, e, ec, s _ _ ea, ?_⟩
    rcases q with q | ⟨dd, vs, e1, e2, l, r⟩
    · exact .inl q
    · exact .inr ⟨dd, vs, e1, s _ _ e2, l, RpL.mono s ds vs r⟩
  | .cls c, _, h => by unfold Rp at h ⊢; exact h
  | .ty n, _, h => by unfold Rp at h ⊢; exact h
theorem RpL.mono (s : Same F F') : ∀ (ds : List D) (vs : List V), RpL K mg F ds vs → RpL K mg F' ds vs
  | [], _, h => by unfold RpL at h ⊢; exact h
  | d :: ds, _, h => by
    unfold RpL at h ⊢
    obtain ⟨v, us, e, r, rr⟩ := h
    exact ⟨v, us, e, Rp.mono s d v r, RpL.mono s ds us rr⟩
end
theorem RpX.mono (s : Same F F') {x : D} {cls : Value} {od : Option Addr} (h : RpX K mg F x cls od) : RpX K mg F' x cls od := by
  cases x with
  | exc c ns ds =>
    obtain ⟨C, e, ec, q⟩ := h
    refine ⟨C, e, ec, ?_⟩
    rcases q with q | ⟨dd, vs, e1, e2, l, r⟩
    · exact .inl q
    · exact .inr ⟨dd, vs, e1, s _ _ e2, l, RpL.mono s _ _ r⟩
  | _ => exact h.elim
theorem RpL.nil_iff {vs : List V} (h : RpL K mg F [] vs) : vs = [] := by unfold RpL at h; exact h
theorem RpL.cons_iff {d : D} {ds : List D} {vs : List V} (h : RpL K mg F (d :: ds) vs) : ∃ v us, vs = v :: us ∧ Rp K mg F d v ∧ RpL K mg F ds us := by unfold RpL at h; exact h
theorem RpL.nil : RpL K mg F [] [] := by unfold RpL; rfl
theorem RpL.cons {d : D} {ds : List D} {v : V} {vs : List V} (h : Rp K mg F d v) (t : RpL K mg F ds vs) : RpL K mg F (d :: ds) (v :: vs) := by unfold RpL; exact ⟨v, vs, rfl, h, t⟩
theorem RpL.length : ∀ {ds : List D} {vs : List V}, RpL K mg F ds vs → ds.length = vs.length
  | [], vs, h => by rw [h.nil_iff]; rfl
  | d :: ds, vs, h => by
    obtain ⟨v, us, e, _, r⟩ := h.cons_iff
    rw [e, List.length_cons, List.length_cons, RpL.length r]
theorem RpL.append : ∀ {ds es : List D} {vs us : List V}, RpL K mg F ds vs → RpL K mg F es us → RpL K mg F (ds ++ es) (vs ++ us)
  | [], es, vs, us, h, t => by rw [h.nil_iff]; exact t
  | d :: ds, es, vs, us, h, t => by
    obtain ⟨v, ws, e, r, rr⟩ := h.cons_iff
    rw [e]
    exact RpL.cons r (RpL.append rr t)
theorem RpL.get : ∀ {ds : List D} {vs : List V} {i : Nat} {d : D}, RpL K mg F ds vs → ds[i]? = some d → ∃ v, vs[i]? = some v ∧ Rp K mg F d v
  | [], _, _, _, _, e => by simp at e
  | d :: ds, vs, 0, d', h, e => by
    obtain ⟨v, ws, e', r, rr⟩ := h.cons_iff
    rw [e']
    simp at e
    subst e
    exact ⟨v, rfl, r⟩
  | d :: ds, vs, i + 1, d', h, e => by
    obtain ⟨v, ws, e', r, rr⟩ := h.cons_iff
    rw [e']
    obtain ⟨u, h1, h2⟩ := RpL.get (i := i) rr (by simpa using e)
    exact ⟨u, by simpa using h1, h2⟩
theorem RpL.getV : ∀ {ds : List D} {vs : List V} {i : Nat} {v : V}, RpL K mg F ds vs → vs[i]? = some v → ∃ d, ds[i]? = some d ∧ Rp K mg F d v := by
  intro ds vs i v h e
  have hl := h.length
  have hi : i < ds.length := by rw [hl]; exact (List.getElem?_eq_some_iff.mp e).1
  obtain ⟨u, h1, h2⟩ := h.get (i := i) (d := ds[i]) (by simp [hi])
  rw [e] at h1
  cases h1
  exact ⟨ds[i], by simp [hi], h2⟩
theorem RpL.set : ∀ {ds : List D} {vs : List V} {d : D} {v : V} (i : Nat), RpL K mg F ds vs → Rp K mg F d v → RpL K mg F (ds.set i d) (vs.set i v)
  | [], vs, _, _, _, h, _ => by rw [h.nil_iff]; exact RpL.nil
  | d :: ds, vs, d', v', 0, h, r' => by
    obtain ⟨v, ws, e', r, rr⟩ := h.cons_iff
    rw [e']
    exact RpL.cons r' rr
  | d :: ds, vs, d', v', i + 1, h, r' => by
    obtain ⟨v, ws, e', r, rr⟩ := h.cons_iff
    rw [e']
    exact RpL.cons r (RpL.set i rr r')
theorem RpL.take : ∀ {ds : List D} {vs : List V} (n : Nat), RpL K mg F ds vs → RpL K mg F (ds.take n) (vs.take n)
  | ds, vs, 0, h => by simp; exact RpL.nil
  | [], vs, n + 1, h => by rw [h.nil_iff]; exact RpL.nil
  | d :: ds, vs, n + 1, h => by
    obtain ⟨v, ws, e', r, rr⟩ := h.cons_iff
    rw [e']
    exact RpL.cons r (RpL.take n rr)
theorem RpL.drop : ∀ {ds : List D} {vs : List V} (n : Nat), RpL K mg F ds vs → RpL K mg F (ds.drop n) (vs.drop n)
  | ds, vs, 0, h => by simpa using h
  | [], vs, n + 1, h => by rw [h.nil_iff]; exact RpL.nil
  | d :: ds, vs, n + 1, h => by
    obtain ⟨v, ws, e', r, rr⟩ := h.cons_iff
    rw [e']
    exact RpL.drop n rr
theorem RpL.reverse : ∀ {ds : List D} {vs : List V}, RpL K mg F ds vs → RpL K mg F ds.reverse vs.reverse
  | [], vs, h => by rw [h.nil_iff]; exact RpL.nil
  | d :: ds, vs, h => by
    obtain ⟨v, ws, e', r, rr⟩ := h.cons_iff
    rw [e', List.reverse_cons, List.reverse_cons]
    exact RpL.append (RpL.reverse rr) (RpL.cons r RpL.nil)
theorem RpL.ints : ∀ {ns : List Int}, RpL K mg F (ns.map D.int) (ns.map V.int)
  | [] => RpL.nil
  | n :: ns => RpL.cons (by unfold Rp; rfl) RpL.ints
theorem RpL.rep {ds : List D} {vs : List V} (h : RpL K mg F ds vs) : ∀ k : Nat, RpL K mg F (List.replicate k ds).flatten (List.replicate k vs).flatten
  | 0 => by simp; exact RpL.nil
  | k + 1 => by
    rw [List.replicate_succ, List.replicate_succ, List.flatten_cons, List.flatten_cons]
    exact RpL.append h (RpL.rep h k)
end
section
variable (K : PySem.W.Frag) (mg : Str → Option Value)
def OwnL (H0 F H : Hp) (ds : List D) (v : V) : Prop := ∃ l vs, v = .ref l ∧ H l = some (.lst vs) ∧ F l = none ∧ H0 l = none ∧ RpL K mg F ds vs
def OwnD (H0 F H : Hp) (ks : List Key) (ds : List D) (v : V) : Prop := ∃ l vs, v = .ref l ∧ H l = some (.dK (ks.zip vs)) ∧ ks.length = vs.length ∧ F l = none ∧ H0 l = none ∧ RpL K mg F ds vs
def FlOk (H0 F H : Hp) : Fl → V → Prop
  | .val d, v => Rp K mg F d v
  | .own ds, v => OwnL K mg H0 F H ds v
  | .dic ks ds, v => OwnD K mg H0 F H ks ds v
def ObOk (H0 F H : Hp) (c : Str) (ns : List Str) (fs : List Fl) (v : V) : Prop := ∃ a C dx vs, v = .ref a ∧ mg c = some (.ref C) ∧ H a = some (.ins C dx (ns.zip vs)) ∧ ns.length = vs.length ∧ fs.length = vs.length ∧ F a = none ∧ H0 a = none ∧
  (∀ (i : Nat) (f : Fl) (u : V), fs[i]? = some f → vs[i]? = some u → FlOk K mg H0 F H f u) ∧
  ∀ (i j : Nat) (f g : Fl) (u : V), fs[i]? = some f → fs[j]? = some g → f.isOwn = true → g.isOwn = true → vs[i]? = some u → vs[j]? = some u → i = j
def CtxAt (F : Hp) : Ctx → V → Addr → Prop
  | .c3 a b n, u, r => ∃ t q va vb vn, u = .ref t ∧ F t = some (.tup [va, vb, .ref q]) ∧ F q = some (.lst [vn, .ref r]) ∧ Rp K mg F a va ∧ Rp K mg F b vb ∧ Rp K mg F n vn
  | .c4 a b c, u, r => ∃ t va vb vc, u = .ref t ∧ F t = some (.tup [va, vb, vc, .ref r]) ∧ Rp K mg F a va ∧ Rp K mg F b vb ∧ Rp K mg F c vc
def NestIn (F H : Hp) : List (List D × Ctx) → List D → List Addr → Prop
  | [], inn, rs => ∃ r vs, rs = [r] ∧ H r = some (.lst vs) ∧ RpL K mg F inn vs
  | (ds, c) :: out, inn, rs => ∃ r r2 rs' vs u, rs = r :: r2 :: rs' ∧ H r = some (.lst (vs ++ [u])) ∧ RpL K mg F ds vs ∧ CtxAt K mg F c u r2 ∧ NestIn F H out inn (r2 :: rs')
def AllIn (F H : Hp) : List (List D) → List Addr → Prop
  | [], rs => rs = []
  | ds :: xss, rs => ∃ r rs' vs, rs = r :: rs' ∧ H r = some (.lst vs) ∧ RpL K mg F ds vs ∧ AllIn F H xss rs'
def AbOk (H0 F H : Hp) : Ab → V → Prop
  | .nst out inn, v => ∃ l rs, v = .ref l ∧ H l = some (.lst (rs.map V.ref)) ∧ NestIn K mg F H out inn rs ∧ (l :: rs).Nodup ∧ ∀ m ∈ l :: rs, F m = none ∧ H0 m = none
  | .scb ks vs out inn, v => ∃ a C dx s Cs dxs n f r0 rs us, v = .ref a ∧ mg "Scribe" = some (.ref C) ∧ mg "Script" = some (.ref Cs) ∧ H a = some (.ins C dx [("script", .ref s), ("nests", .ref n)]) ∧ H s = some (.ins Cs dxs [("frames", .ref f), ("rows", .ref r0)]) ∧
      H f = some (.dK (ks.zip us)) ∧ ks.length = us.length ∧ RpL K mg F vs us ∧ H n = some (.lst ((r0 :: rs).map V.ref)) ∧ NestIn K mg F H out inn (r0 :: rs) ∧ (n :: r0 :: rs).Nodup ∧ ∀ m ∈ a :: s :: f :: n :: r0 :: rs, F m = none ∧ H0 m = none
  | .dsk ks obs, v => ∃ a C dx d us, v = .ref a ∧ mg "Desk" = some (.ref C) ∧ H a = some (.ins C dx [("held", .ref d)]) ∧ H d = some (.dK (ks.zip us)) ∧ ks.length = us.length ∧ obs.length = us.length ∧ (F a = none ∧ H0 a = none) ∧ (F d = none ∧ H0 d = none) ∧
      (∀ (i : Nat) (ob : List Str × List Fl) (u : V), obs[i]? = some ob → us[i]? = some u → ObOk K mg H0 F H "Kept" ob.1 ob.2 u) ∧
      (∀ (i j : Nat) (ob ob' : List Str × List Fl) (u u' : V) (l : Addr), obs[i]? = some ob → obs[j]? = some ob' → us[i]? = some u → us[j]? = some u' → OFoot H ob.1 ob.2 u l → OFoot H ob'.1 ob'.2 u' l → i = j) ∧
      ∀ (i : Nat) (ob : List Str × List Fl) (u : V) (l : Addr), obs[i]? = some ob → us[i]? = some u → OFoot H ob.1 ob.2 u l → l ≠ a ∧ l ≠ d
  | .dol ks xss, v => ∃ n rs, v = .ref n ∧ H n = some (.dK (ks.zip (rs.map V.ref))) ∧ ks.length = rs.length ∧ AllIn K mg F H xss rs ∧ (n :: rs).Nodup ∧ ∀ m ∈ n :: rs, F m = none ∧ H0 m = none
def SlotOk (H0 F H : Hp) : Slot → V → Prop
  | .val d, v => Rp K mg F d v
  | .own ds, v => OwnL K mg H0 F H ds v
  | .dic ks ds, v => OwnD K mg H0 F H ks ds v
  | .oob _ c ns fs, v => ObOk K mg H0 F H c ns fs v
  | .hnd _ ds, v => OwnL K mg H0 F H ds v
  | .hdc _ ks ds, v => OwnD K mg H0 F H ks ds v
  | .abs _ a, v => AbOk K mg H0 F H a v
structure Fe where
  hp : Hp
  sv : Nat → V
instance : Coe Fe Hp := ⟨Fe.hp⟩
instance : CoeFun Fe (fun _ => Addr → Option HO) := ⟨Fe.hp⟩
def Slf (F0 : Fe) (σ : St) (Γ : Env) : Prop := ∀ (i : Nat) (s : Slot) (k : Nat) (v : V), Γ[i]? = some (some s) → s.tag = some k → σ[i]? = some (some v) → v = F0.sv k
structure Rel (F0 : Fe) (H0 F H : Hp) (σ : St) (Γ : Env) : Prop where
  ext : Ext F0 H0 F H
  len : σ.length = Γ.length
  slot : ∀ (i : Nat) (s : Slot), Γ[i]? = some (some s) → ∃ v, σ[i]? = some (some v) ∧ SlotOk K mg H0 F H s v
  inj : ∀ (i j : Nat) (s t : Slot) (v u : V) (l : Addr), Γ[i]? = some (some s) → Γ[j]? = some (some t) → σ[i]? = some (some v) → σ[j]? = some (some u) → foot H s v l → foot H t u l → i = j
  slf : Slf F0 σ Γ
def PostG {α β : Type} (rep : Hp → Hp → Hp → α → β → Prop) (F H : Hp) (E : XK) (Q : β → Hp → Prop) : R α → Prop
  | .ok a => ∀ b F' H', Ext F H F' H' → rep H F' H' a b → Q b H'
  | .exc x => ∀ cls od F' H', Ext F H F' H' → RpX K mg F' x cls od → E cls od H'
  | .stuck => False
abbrev repV : Hp → Hp → Hp → D → V → Prop := fun _ F' _ d v => Rp K mg F' d v
abbrev repL : Hp → Hp → Hp → List D → List V → Prop := fun _ F' _ d v => RpL K mg F' d v
abbrev repO : Hp → Hp → Hp → List D → V → Prop := fun H F' H' d v => OwnL K mg H F' H' d v
abbrev repB {β : Type} : Hp → Hp → Hp → β → β → Prop := fun _ _ _ d v => v = d
end
section
variable {K : PySem.W.Frag} {mg : Str → Option Value} {F0 : Fe} {H0 F H F' H' : Hp} {σ : St} {Γ : Env} {α β : Type}
theorem Slf.set (h : Slf F0 σ Γ) (i : Nat) {x : Option Slot} {y : Option V} (nx : ∀ s, x = some s → s.tag = none) : Slf F0 (σ.set i y) (Γ.set i x) := by
  intro j s k v e1 tk e2
  by_cases q : i = j
  · subst q
    have hi : i < Γ.length := by
      have := (List.getElem?_eq_some_iff.mp e1).1
      rwa [List.length_set] at this
    rw [List.getElem?_set_self hi] at e1
    injection e1 with e1
    rw [nx s e1] at tk
    cases tk
  · rw [List.getElem?_set_ne q] at e1 e2
    exact h j s k v e1 tk e2
theorem Slf.setE (h : Slf F0 σ Γ) {i : Nat} {s s' : Slot} (ei : Γ[i]? = some (some s)) (hb : s'.tag = none ∨ s'.tag = s.tag) : Slf F0 σ (Γ.set i (some s')) := by
  intro j t k v e1 tk e2
  by_cases q : i = j
  · subst q
    have hi : i < Γ.length := (List.getElem?_eq_some_iff.mp ei).1
    rw [List.getElem?_set_self hi] at e1
    injection e1 with e1
    injection e1 with e1
    subst e1
    rcases hb with hb | hb
    · rw [hb] at tk
      cases tk
    · rw [hb] at tk
      exact h i s k v ei tk e2
  · rw [List.getElem?_set_ne q] at e1
    exact h j t k v e1 tk e2
theorem OwnL.ext {ds : List D} {v : V} (h : OwnL K mg H0 F H ds v) (x : Ext F H F' H') : OwnL K mg H0 F' H' ds v := by
  obtain ⟨l, vs, e, eh, ef, e0, r⟩ := h
  refine ⟨l, vs, e, x.hh _ _ eh, ?_, e0, RpL.mono x.ff _ _ r⟩
  cases q : F' l with
  | none => rfl
  | some o =>
    rcases x.new l o q with z | z
    · rw [ef] at z; cases z
    · rw [eh] at z; cases z
theorem OwnD.ext {ks : List Key} {ds : List D} {v : V} (h : OwnD K mg H0 F H ks ds v) (x : Ext F H F' H') : OwnD K mg H0 F' H' ks ds v := by
  obtain ⟨l, vs, e, eh, el, ef, e0, r⟩ := h
  refine ⟨l, vs, e, x.hh _ _ eh, el, ?_, e0, RpL.mono x.ff _ _ r⟩
  cases q : F' l with
  | none => rfl
  | some o =>
    rcases x.new l o q with z | z
    · rw [ef] at z; cases z
    · rw [eh] at z; cases z
theorem zip_snd : ∀ {ns : List Str} {vs us : List V}, ns.length = vs.length → ns.length = us.length → ns.zip vs = ns.zip us → vs = us
  | [], vs, us, h, h', _ => by
    rw [List.length_eq_zero_iff.mp h.symm, List.length_eq_zero_iff.mp h'.symm]
  | n :: ns, [], _, h, _, _ => by cases h
  | n :: ns, _ :: _, [], _, h, _ => by cases h
  | n :: ns, v :: vs, u :: us, h, h', e => by
    rw [List.zip_cons_cons, List.zip_cons_cons] at e
    injection e with e1 e2
    injection e1 with _ e1
    rw [e1, zip_snd (by simpa using h) (by simpa using h') e2]
theorem FlOk.own_at {f : Fl} {v : V} (o : f.isOwn = true) (h : FlOk K mg H0 F H f v) : ∃ l ob, v = .ref l ∧ H l = some ob ∧ F l = none ∧ H0 l = none := by
  cases f with
  | val d => cases o
  | own ds =>
    obtain ⟨l, vs, e, eh, ef, e0, _⟩ := h
    exact ⟨l, _, e, eh, ef, e0⟩
  | dic ks ds =>
    obtain ⟨l, vs, e, eh, _, ef, e0, _⟩ := h
    exact ⟨l, _, e, eh, ef, e0⟩
theorem FlOk.gen {H0' : Hp} {f : Fl} {v : V} (h : FlOk K mg H0 F H f v) (sF : Same F F') (nF : ∀ l, f.isOwn = true → v = .ref l → F' l = none) (sH : ∀ l ob, f.isOwn = true → v = .ref l → H l = some ob → H' l = some ob) (nH : ∀ l, f.isOwn = true → v = .ref l → H0' l = none) : FlOk K mg H0' F' H' f v := by
  cases f with
  | val d => exact Rp.mono sF d v h
  | own ds =>
    obtain ⟨l, vs, e, eh, ef, e0, r⟩ := h
    exact ⟨l, vs, e, sH l _ rfl e eh, nF l rfl e, nH l rfl e, RpL.mono sF _ _ r⟩
  | dic ks ds =>
    obtain ⟨l, vs, e, eh, el, ef, e0, r⟩ := h
    exact ⟨l, vs, e, sH l _ rfl e eh, el, nF l rfl e, nH l rfl e, RpL.mono sF _ _ r⟩
theorem ob_at {c : Str} {ns : List Str} {fs : List Fl} {v : V} {l : Addr} (h : ObOk K mg H0 F H c ns fs v) (q : OFoot H ns fs v l) : ∃ ob, H l = some ob ∧ F l = none ∧ H0 l = none := by
  obtain ⟨a, C, dx, vs, e, ec, eh, el, el2, ef, e0, hf, hi⟩ := h
  rcases q with q | ⟨a2, C2, dx2, vs2, i, f, q1, q2, q3, q4, q5, q6⟩
  · rw [e] at q
    cases q
    exact ⟨_, eh, ef, e0⟩
  · rw [e] at q1
    cases q1
    rw [eh] at q2
    injection q2 with q2
    injection q2 with _ _ q2
    have := zip_snd el q3 q2
    subst this
    obtain ⟨l', ob, e1, e2, e3, e4⟩ := FlOk.own_at q5 (hf i f _ q4 q6)
    cases e1
    exact ⟨ob, e2, e3, e4⟩
theorem ob_fg {c : Str} {ns : List Str} {fs : List Fl} {v : V} {l : Addr} (h : ObOk K mg H0 F H c ns fs v) (sH : ∀ l ob, OFoot H ns fs v l → H l = some ob → H' l = some ob) (q : OFoot H' ns fs v l) : OFoot H ns fs v l := by
  obtain ⟨a, C, dx, vs, e, ec, eh, el, el2, ef, e0, hf, hi⟩ := h
  rcases q with q | ⟨a2, C2, dx2, vs2, i, f, q1, q2, q3, q4, q5, q6⟩
  · exact Or.inl q
  · rw [e] at q1
    cases q1
    rw [sH a _ (Or.inl e) eh] at q2
    injection q2 with q2
    injection q2 with _ _ q2
    have := zip_snd el q3 q2
    subst this
    exact Or.inr ⟨a, C, dx, vs, i, f, e, eh, el, q4, q5, q6⟩
theorem ob_gen {H0' : Hp} {c : Str} {ns : List Str} {fs : List Fl} {v : V} (h : ObOk K mg H0 F H c ns fs v) (sF : Same F F') (nF : ∀ l, OFoot H ns fs v l → F' l = none) (sH : ∀ l ob, OFoot H ns fs v l → H l = some ob → H' l = some ob) (nH : ∀ l, OFoot H ns fs v l → H0' l = none) : ObOk K mg H0' F' H' c ns fs v := by
  obtain ⟨a, C, dx, vs, e, ec, eh, el, el2, ef, e0, hf, hi⟩ := h
  have inn : ∀ (i : Nat) (f : Fl) (l : Addr), fs[i]? = some f → f.isOwn = true → vs[i]? = some (.ref l) → OFoot H ns fs v l := fun i f l q1 q2 q3 => Or.inr ⟨a, C, dx, vs, i, f, e, eh, el, q1, q2, q3⟩
  refine ⟨a, C, dx, vs, e, ec, sH a _ (Or.inl e) eh, el, el2, nF a (Or.inl e), nH a (Or.inl e), fun i f u q1 q2 => ?_, hi⟩
  exact FlOk.gen (hf i f u q1 q2) sF (fun l o z => nF l (inn i f l q1 o (by rw [q2, z]))) (fun l ob o z => sH l ob (inn i f l q1 o (by rw [q2, z]))) (fun l o z => nH l (inn i f l q1 o (by rw [q2, z])))
theorem CtxAt.mono (s : Same F F') {c : Ctx} {u : V} {r : Addr} (h : CtxAt K mg F c u r) : CtxAt K mg F' c u r := by
  cases c with
  | c3 a b n =>
    obtain ⟨t, q, va, vb, vn, e, e1, e2, r1, r2, r3⟩ := h
    exact ⟨t, q, va, vb, vn, e, s _ _ e1, s _ _ e2, Rp.mono s _ _ r1, Rp.mono s _ _ r2, Rp.mono s _ _ r3⟩
  | c4 a b c =>
    obtain ⟨t, va, vb, vc, e, e1, r1, r2, r3⟩ := h
    exact ⟨t, va, vb, vc, e, s _ _ e1, Rp.mono s _ _ r1, Rp.mono s _ _ r2, Rp.mono s _ _ r3⟩
theorem NestIn.has : ∀ {out : List (List D × Ctx)} {inn : List D} {rs : List Addr}, NestIn K mg F H out inn rs → ∀ r ∈ rs, ∃ vs, H r = some (.lst vs)
  | [], inn, rs, h, r, hr => by
    obtain ⟨r0, vs, rfl, e, _⟩ := h
    cases List.mem_singleton.mp hr
    exact ⟨vs, e⟩
  | (ds, c) :: out, inn, rs, h, r, hr => by
    obtain ⟨r0, r2, rs', vs, u, rfl, e, _, _, h2⟩ := h
    rcases List.mem_cons.mp hr with q | q
    · subst q
      exact ⟨_, e⟩
    · exact NestIn.has h2 r q
theorem NestIn.gen : ∀ {out : List (List D × Ctx)} {inn : List D} {rs : List Addr}, NestIn K mg F H out inn rs → Same F F' → (∀ r ob, r ∈ rs → H r = some ob → H' r = some ob) → NestIn K mg F' H' out inn rs
  | [], inn, rs, h, sF, sH => by
    obtain ⟨r0, vs, rfl, e, r⟩ := h
    exact ⟨r0, vs, rfl, sH _ _ (List.mem_singleton.mpr rfl) e, RpL.mono sF _ _ r⟩
  | (ds, c) :: out, inn, rs, h, sF, sH => by
    obtain ⟨r0, r2, rs', vs, u, rfl, e, r, hc, h2⟩ := h
    exact ⟨r0, r2, rs', vs, u, rfl, sH _ _ List.mem_cons_self e, RpL.mono sF _ _ r, hc.mono sF, NestIn.gen h2 sF fun r ob hr => sH r ob (List.mem_cons_of_mem _ hr)⟩
theorem scb_mem {ks : List Key} {vs : List D} {out : List (List D × Ctx)} {inn : List D} {a C dx s Cs dxs n f r0 : Addr} {rs : List Addr} (eh : H a = some (.ins C dx [("script", .ref s), ("nests", .ref n)])) (es : H s = some (.ins Cs dxs [("frames", .ref f), ("rows", .ref r0)]))
    (en : H n = some (.lst ((r0 :: rs).map V.ref))) (l : Addr) : abFoot H (.scb ks vs out inn) (.ref a) l ↔ l ∈ a :: s :: f :: n :: r0 :: rs := by
  constructor
  · rintro (q | ⟨a', C', dx', s', n', q, q1, q2⟩)
    · cases q
      exact List.mem_cons_self
    · cases q
      rw [eh] at q1
      injection q1 with q1
      injection q1 with _ _ q1
      injection q1 with q3 q4
      injection q3 with _ q3
      cases q3
      injection q4 with q4 _
      injection q4 with _ q4
      cases q4
      rcases q2 with q2 | q2 | ⟨vs', q2, q3⟩ | ⟨C2, dx2, r, q2⟩
      · simp [q2]
      · simp [q2]
      · rw [en] at q2
        cases q2
        obtain ⟨x, hx, e⟩ := List.mem_map.mp q3
        cases e
        simp only [List.mem_cons] at hx ⊢
        rcases hx with hx | hx
        · exact .inr (.inr (.inr (.inr (.inl hx))))
        · exact .inr (.inr (.inr (.inr (.inr hx))))
      · rw [es] at q2
        injection q2 with q2
        injection q2 with _ _ q2
        injection q2 with q2 _
        injection q2 with _ q2
        cases q2
        simp
  · intro h
    simp only [List.mem_cons] at h
    rcases h with rfl | rfl | rfl | rfl | h
    · exact .inl rfl
    · exact .inr ⟨a, C, dx, _, n, rfl, eh, .inl rfl⟩
    · exact .inr ⟨a, C, dx, s, n, rfl, eh, .inr (.inr (.inr ⟨Cs, dxs, _, es⟩))⟩
    · exact .inr ⟨a, C, dx, s, _, rfl, eh, .inr (.inl rfl)⟩
    · exact .inr ⟨a, C, dx, s, n, rfl, eh, .inr (.inr (.inl ⟨_, en, List.mem_map.mpr ⟨l, by simpa using h, rfl⟩⟩))⟩
theorem nst_mem {out : List (List D × Ctx)} {inn : List D} {n : Addr} {rs : List Addr} (en : H n = some (.lst (rs.map V.ref))) (l : Addr) : abFoot H (.nst out inn) (.ref n) l ↔ l ∈ n :: rs := by
  constructor
  · rintro (q | ⟨n', vs, q, q1, q2⟩)
    · cases q
      exact List.mem_cons_self
    · cases q
      rw [en] at q1
      cases q1
      obtain ⟨x, hx, e⟩ := List.mem_map.mp q2
      cases e
      exact List.mem_cons_of_mem _ hx
  · intro h
    rcases List.mem_cons.mp h with rfl | h
    · exact .inl rfl
    · exact .inr ⟨n, _, rfl, en, List.mem_map.mpr ⟨l, h, rfl⟩⟩
theorem dsk_mem {ks : List Key} {obs : List (List Str × List Fl)} {a C dx d : Addr} {us : List V} (eh : H a = some (.ins C dx [("held", .ref d)])) (ed : H d = some (.dK (ks.zip us))) (el : ks.length = us.length) (l : Addr) :
    abFoot H (.dsk ks obs) (.ref a) l ↔ l = a ∨ l = d ∨ ∃ (i : Nat) (ob : List Str × List Fl) (u : V), obs[i]? = some ob ∧ us[i]? = some u ∧ OFoot H ob.1 ob.2 u l := by
  constructor
  · rintro (q | ⟨a', C', dx', d', q, q1, q2⟩)
    · cases q
      exact .inl rfl
    · cases q
      rw [eh] at q1
      injection q1 with q1
      injection q1 with _ _ q1
      injection q1 with q1 _
      injection q1 with _ q1
      cases q1
      rcases q2 with q2 | ⟨us', i, ob, u, q2, q3, q4, q5, q6⟩
      · exact .inr (.inl q2)
      · rw [ed] at q2
        injection q2 with q2
        injection q2 with q2
        have : us = us' := by
          have h1 := congrArg (List.map Prod.snd) q2
          rw [List.map_snd_zip (by omega), List.map_snd_zip (by omega)] at h1
          exact h1
        subst this
        exact .inr (.inr ⟨i, ob, u, q4, q5, q6⟩)
  · rintro (rfl | rfl | ⟨i, ob, u, q1, q2, q3⟩)
    · exact .inl rfl
    · exact .inr ⟨a, C, dx, _, rfl, eh, .inl rfl⟩
    · exact .inr ⟨a, C, dx, d, rfl, eh, .inr ⟨us, i, ob, u, ed, el, q1, q2, q3⟩⟩
theorem AllIn.has : ∀ {xss : List (List D)} {rs : List Addr}, AllIn K mg F H xss rs → ∀ r ∈ rs, ∃ vs, H r = some (.lst vs)
  | [], rs, h, r, hr => by
    have h : rs = [] := h
    rw [h] at hr
    cases hr
  | ds :: xss, rs, h, r, hr => by
    obtain ⟨r0, rs', vs, rfl, e, _, h2⟩ := h
    rcases List.mem_cons.mp hr with rfl | q
    · exact ⟨_, e⟩
    · exact AllIn.has h2 r q
theorem AllIn.gen : ∀ {xss : List (List D)} {rs : List Addr}, AllIn K mg F H xss rs → Same F F' → (∀ r ob, r ∈ rs → H r = some ob → H' r = some ob) → AllIn K mg F' H' xss rs
  | [], rs, h, _, _ => h
  | ds :: xss, rs, h, sF, sH => by
    obtain ⟨r0, rs', vs, rfl, e, r, h2⟩ := h
    exact ⟨r0, rs', vs, rfl, sH _ _ List.mem_cons_self e, RpL.mono sF _ _ r, AllIn.gen h2 sF fun r ob hr => sH r ob (List.mem_cons_of_mem _ hr)⟩
theorem dol_mem {ks : List Key} {xss : List (List D)} {n : Addr} {rs : List Addr} (en : H n = some (.dK (ks.zip (rs.map V.ref)))) (el : ks.length = rs.length) (l : Addr) : abFoot H (.dol ks xss) (.ref n) l ↔ l ∈ n :: rs := by
  constructor
  · rintro (q | ⟨n', us, q, q1, q3, q2⟩)
    · cases q
      exact List.mem_cons_self
    · cases q
      rw [en] at q1
      injection q1 with q1
      injection q1 with q1
      have : rs.map V.ref = us := by
        have h1 := congrArg (List.map Prod.snd) q1
        rw [List.map_snd_zip (by rw [List.length_map]; omega), List.map_snd_zip (by omega)] at h1
        exact h1
      subst this
      obtain ⟨x, hx, e⟩ := List.mem_map.mp q2
      cases e
      exact List.mem_cons_of_mem _ hx
  · intro h
    rcases List.mem_cons.mp h with rfl | h
    · exact .inl rfl
    · exact .inr ⟨n, _, rfl, en, by rw [List.length_map]; exact el, List.mem_map.mpr ⟨l, h, rfl⟩⟩
theorem ab_at {a : Ab} {v : V} {l : Addr} (h : AbOk K mg H0 F H a v) (q : abFoot H a v l) : ∃ ob, H l = some ob ∧ F l = none ∧ H0 l = none := by
  cases a with
  | nst out inn =>
    obtain ⟨n, rs, rfl, en, hn, hd, hm⟩ := h
    have q := (nst_mem en l).mp q
    obtain ⟨m1, m2⟩ := hm l q
    rcases List.mem_cons.mp q with rfl | q
    · exact ⟨_, en, m1, m2⟩
    · obtain ⟨vs, e⟩ := hn.has l q
      exact ⟨_, e, m1, m2⟩
  | scb ks vs out inn =>
    obtain ⟨a, C, dx, s, Cs, dxs, n, f, r0, rs, us, rfl, ec, ecs, eh, es, ef, el, er, en, hn, hd, hm⟩ := h
    have q := (scb_mem eh es en l).mp q
    obtain ⟨m1, m2⟩ := hm l q
    simp only [List.mem_cons] at q
    rcases q with rfl | rfl | rfl | rfl | q
    · exact ⟨_, eh, m1, m2⟩
    · exact ⟨_, es, m1, m2⟩
    · exact ⟨_, ef, m1, m2⟩
    · exact ⟨_, en, m1, m2⟩
    · obtain ⟨vs, e⟩ := hn.has l (by simpa using q)
      exact ⟨_, e, m1, m2⟩
  | dsk ks obs =>
    obtain ⟨a, C, dx, d, us, rfl, ec, eh, ed, el, el2, ⟨a1, a2⟩, ⟨d1, d2⟩, hf, hi, hs⟩ := h
    rcases (dsk_mem eh ed el l).mp q with rfl | rfl | ⟨i, ob, u, q1, q2, q3⟩
    · exact ⟨_, eh, a1, a2⟩
    · exact ⟨_, ed, d1, d2⟩
    · exact ob_at (hf i ob u q1 q2) q3
  | dol ks xss =>
    obtain ⟨n, rs, rfl, en, el, hn, hd, hm⟩ := h
    have q := (dol_mem en el l).mp q
    obtain ⟨m1, m2⟩ := hm l q
    rcases List.mem_cons.mp q with rfl | q
    · exact ⟨_, en, m1, m2⟩
    · obtain ⟨vs, e⟩ := hn.has l q
      exact ⟨_, e, m1, m2⟩
theorem ab_fg {a : Ab} {v : V} {l : Addr} (h : AbOk K mg H0 F H a v) (sH : ∀ l ob, abFoot H a v l → H l = some ob → H' l = some ob) (q : abFoot H' a v l) : abFoot H a v l := by
  cases a with
  | nst out inn =>
    obtain ⟨n, rs, rfl, en, hn, hd, hm⟩ := h
    exact (nst_mem en l).mpr ((nst_mem (sH _ _ ((nst_mem en n).mpr List.mem_cons_self) en) l).mp q)
  | scb ks vs out inn =>
    obtain ⟨a, C, dx, s, Cs, dxs, n, f, r0, rs, us, rfl, ec, ecs, eh, es, ef, el, er, en, hn, hd, hm⟩ := h
    have k := fun m => (scb_mem (ks := ks) (vs := vs) (out := out) (inn := inn) eh es en m).mpr
    exact k l ((scb_mem (sH _ _ (k a (by simp)) eh) (sH _ _ (k s (by simp)) es) (sH _ _ (k n (by simp)) en) l).mp q)
  | dsk ks obs =>
    obtain ⟨a, C, dx, d, us, rfl, ec, eh, ed, el, el2, ⟨a1, a2⟩, ⟨d1, d2⟩, hf, hi, hs⟩ := h
    have k := fun m => (dsk_mem (obs := obs) eh ed el m).mpr
    refine k l ?_
    rcases (dsk_mem (sH _ _ (k a (.inl rfl)) eh) (sH _ _ (k d (.inr (.inl rfl))) ed) el l).mp q with q | q | ⟨i, ob, u, q1, q2, q3⟩
    · exact .inl q
    · exact .inr (.inl q)
    · exact .inr (.inr ⟨i, ob, u, q1, q2, ob_fg (hf i ob u q1 q2) (fun m o z => sH m o (k m (.inr (.inr ⟨i, ob, u, q1, q2, z⟩)))) q3⟩)
  | dol ks xss =>
    obtain ⟨n, rs, rfl, en, el, hn, hd, hm⟩ := h
    exact (dol_mem en el l).mpr ((dol_mem (sH _ _ ((dol_mem en el n).mpr List.mem_cons_self) en) el l).mp q)
theorem ab_gen {H0' : Hp} {a : Ab} {v : V} (h : AbOk K mg H0 F H a v) (sF : Same F F') (nF : ∀ l, abFoot H a v l → F' l = none) (sH : ∀ l ob, abFoot H a v l → H l = some ob → H' l = some ob) (nH : ∀ l, abFoot H a v l → H0' l = none) : AbOk K mg H0' F' H' a v := by
  cases a with
  | nst out inn =>
    obtain ⟨n, rs, rfl, en, hn, hd, hm⟩ := h
    have k := fun m => (nst_mem (out := out) (inn := inn) en m).mpr
    exact ⟨n, rs, rfl, sH _ _ (k n List.mem_cons_self) en, hn.gen sF fun r ob hr => sH r ob (k r (List.mem_cons_of_mem _ hr)), hd, fun m q => ⟨nF m (k m q), nH m (k m q)⟩⟩
  | scb ks vs out inn =>
    obtain ⟨a, C, dx, s, Cs, dxs, n, f, r0, rs, us, rfl, ec, ecs, eh, es, ef, el, er, en, hn, hd, hm⟩ := h
    have k := fun m => (scb_mem (ks := ks) (vs := vs) (out := out) (inn := inn) eh es en m).mpr
    exact ⟨a, C, dx, s, Cs, dxs, n, f, r0, rs, us, rfl, ec, ecs, sH _ _ (k a (by simp)) eh, sH _ _ (k s (by simp)) es, sH _ _ (k f (by simp)) ef, el, RpL.mono sF _ _ er, sH _ _ (k n (by simp)) en,
      hn.gen sF fun r ob hr => sH r ob (k r (by simp only [List.mem_cons] at hr ⊢; exact .inr (.inr (.inr (.inr hr))))), hd, fun m q => ⟨nF m (k m q), nH m (k m q)⟩⟩
  | dsk ks obs =>
    have h0 := h
    obtain ⟨a, C, dx, d, us, rfl, ec, eh, ed, el, el2, ⟨a1, a2⟩, ⟨d1, d2⟩, hf, hi, hs⟩ := h
    have k := fun m => (dsk_mem (obs := obs) eh ed el m).mpr
    have ka := k a (.inl rfl)
    have kd := k d (.inr (.inl rfl))
    have ko : ∀ (i : Nat) (ob : List Str × List Fl) (u : V) (m : Addr), obs[i]? = some ob → us[i]? = some u → OFoot H ob.1 ob.2 u m → abFoot H (.dsk ks obs) (.ref a) m := fun i ob u m q1 q2 q3 => k m (.inr (.inr ⟨i, ob, u, q1, q2, q3⟩))
    have kf : ∀ (i : Nat) (ob : List Str × List Fl) (u : V) (m : Addr), obs[i]? = some ob → us[i]? = some u → OFoot H' ob.1 ob.2 u m → OFoot H ob.1 ob.2 u m := fun i ob u m q1 q2 q3 => ob_fg (hf i ob u q1 q2) (fun l o z => sH l o (ko i ob u l q1 q2 z)) q3
    exact ⟨a, C, dx, d, us, rfl, ec, sH _ _ ka eh, sH _ _ kd ed, el, el2, ⟨nF _ ka, nH _ ka⟩, ⟨nF _ kd, nH _ kd⟩,
      fun i ob u q1 q2 => ob_gen (hf i ob u q1 q2) sF (fun l z => nF l (ko i ob u l q1 q2 z)) (fun l o z => sH l o (ko i ob u l q1 q2 z)) fun l z => nH l (ko i ob u l q1 q2 z),
      fun i j ob ob' u u' l q1 q2 q3 q4 q5 q6 => hi i j ob ob' u u' l q1 q2 q3 q4 (kf i ob u l q1 q3 q5) (kf j ob' u' l q2 q4 q6),
      fun i ob u l q1 q2 q3 => hs i ob u l q1 q2 (kf i ob u l q1 q2 q3)⟩
  | dol ks xss =>
    obtain ⟨n, rs, rfl, en, el, hn, hd, hm⟩ := h
    have k := fun m => (dol_mem (xss := xss) en el m).mpr
    exact ⟨n, rs, rfl, sH _ _ (k n List.mem_cons_self) en, el, hn.gen sF fun r ob hr => sH r ob (k r (List.mem_cons_of_mem _ hr)), hd, fun m q => ⟨nF m (k m q), nH m (k m q)⟩⟩
theorem foot_at {s : Slot} {v : V} {l : Addr} (h : SlotOk K mg H0 F H s v) (q : foot H s v l) : ∃ ob, H l = some ob ∧ F l = none ∧ H0 l = none := by
  cases s with
  | val d => exact q.elim
  | own ds =>
    obtain ⟨l2, vs, e, eh, ef, e0, _⟩ := h
    have q : v = .ref l := q
    rw [e] at q
    cases q
    exact ⟨_, eh, ef, e0⟩
  | dic ks ds =>
    obtain ⟨l2, vs, e, eh, _, ef, e0, _⟩ := h
    have q : v = .ref l := q
    rw [e] at q
    cases q
    exact ⟨_, eh, ef, e0⟩
  | hnd j ds =>
    obtain ⟨l2, vs, e, eh, ef, e0, _⟩ := h
    have q : v = .ref l := q
    rw [e] at q
    cases q
    exact ⟨_, eh, ef, e0⟩
  | hdc j ks ds =>
    obtain ⟨l2, vs, e, eh, _, ef, e0, _⟩ := h
    have q : v = .ref l := q
    rw [e] at q
    cases q
    exact ⟨_, eh, ef, e0⟩
  | oob b c ns fs => exact ob_at h q
  | abs b a => exact ab_at h q
theorem foot_gen {s : Slot} {v : V} {l : Addr} (h : SlotOk K mg H0 F H s v) (sH : ∀ l ob, foot H s v l → H l = some ob → H' l = some ob) (q : foot H' s v l) : foot H s v l := by
  cases s with
  | val d => exact q
  | own ds => exact q
  | dic ks ds => exact q
  | hnd j ds => exact q
  | hdc j ks ds => exact q
  | oob b c ns fs => exact ob_fg h sH q
  | abs b a => exact ab_fg h sH q
theorem SlotOk.gen {H0' : Hp} {s : Slot} {v : V} (h : SlotOk K mg H0 F H s v) (sF : Same F F') (nF : ∀ l, foot H s v l → F' l = none) (sH : ∀ l ob, foot H s v l → H l = some ob → H' l = some ob) (nH : ∀ l, foot H s v l → H0' l = none) : SlotOk K mg H0' F' H' s v := by
  cases s with
  | val d => exact Rp.mono sF d v h
  | own ds => exact FlOk.gen (f := .own ds) h sF (fun l _ e => nF l e) (fun l ob _ e => sH l ob e) (fun l _ e => nH l e)
  | hnd j ds => exact FlOk.gen (f := .own ds) h sF (fun l _ e => nF l e) (fun l ob _ e => sH l ob e) (fun l _ e => nH l e)
  | dic ks ds => exact FlOk.gen (f := .dic ks ds) h sF (fun l _ e => nF l e) (fun l ob _ e => sH l ob e) (fun l _ e => nH l e)
  | hdc j ks ds => exact FlOk.gen (f := .dic ks ds) h sF (fun l _ e => nF l e) (fun l ob _ e => sH l ob e) (fun l _ e => nH l e)
  | oob b c ns fs => exact ob_gen h sF nF sH nH
  | abs b a => exact ab_gen h sF nF sH nH
theorem SlotOk.ext {s : Slot} {v : V} (h : SlotOk K mg H0 F H s v) (x : Ext F H F' H') : SlotOk K mg H0 F' H' s v :=
  h.gen x.ff (fun l q => by
    obtain ⟨ob, e1, e2, e3⟩ := foot_at h q
    cases z : F' l with
    | none => rfl
    | some o =>
      rcases x.new l o z with y | y
      · rw [e2] at y; cases y
      · rw [e1] at y; cases y) (fun l ob _ e => x.hh l ob e) (fun l q => (foot_at h q).choose_spec.2.2)
theorem foot_ext {s : Slot} {v : V} {l : Addr} (h : SlotOk K mg H0 F H s v) (x : Ext F H F' H') (q : foot H' s v l) : foot H s v l := foot_gen h (fun l ob _ e => x.hh l ob e) q
theorem Rel.injG {H' : Hp} (r : Rel K mg F0 H0 F H σ Γ) (sH : ∀ (i : Nat) (s : Slot) (v : V) (l : Addr) (ob : HO), Γ[i]? = some (some s) → σ[i]? = some (some v) → foot H s v l → H l = some ob → H' l = some ob) :
    ∀ (i j : Nat) (s t : Slot) (v u : V) (l : Addr), Γ[i]? = some (some s) → Γ[j]? = some (some t) → σ[i]? = some (some v) → σ[j]? = some (some u) → foot H' s v l → foot H' t u l → i = j := by
  intro i j s t v u l ei ej hi hj fi fj
  obtain ⟨v', h1, h2⟩ := r.slot i s ei
  rw [hi] at h1
  cases h1
  obtain ⟨u', h3, h4⟩ := r.slot j t ej
  rw [hj] at h3
  cases h3
  exact r.inj i j s t v u l ei ej hi hj (foot_gen h2 (fun l ob q e => sH i s v l ob ei hi q e) fi) (foot_gen h4 (fun l ob q e => sH j t u l ob ej hj q e) fj)
theorem Rel.step (r : Rel K mg F0 H0 F H σ Γ) (x : Ext F H F' H') : Rel K mg F0 H0 F' H' σ Γ :=
  ⟨r.ext.trans x, r.len, fun i s e => by
    obtain ⟨v, h1, h2⟩ := r.slot i s e
    exact ⟨v, h1, h2.ext x⟩, r.injG fun _ _ _ l ob _ _ _ e => x.hh l ob e, r.slf⟩
theorem Rel.fz (r : Rel K mg F0 H0 F H σ Γ) : Fz F H := r.ext.fh
theorem Rel.setV (r : Rel K mg F0 H0 F H σ Γ) {i : Nat} {d : D} {v : V} (h : Rp K mg F d v) : Rel K mg F0 H0 F H (σ.set i (some v)) (Γ.set i (some (.val d))) := by
  refine ⟨r.ext, by rw [List.length_set, List.length_set]; exact r.len, fun j s e => ?_, fun j k s t u w l ej ek hj hk os ot => ?_, r.slf.set i fun s z => by cases z; rfl⟩
  · by_cases q : i = j
    · subst q
      have hi : i < Γ.length := by
        have := (List.getElem?_eq_some_iff.mp e).1
        rwa [List.length_set] at this
      rw [List.getElem?_set_self hi] at e
      cases e
      exact ⟨v, List.getElem?_set_self (by rw [r.len]; exact hi), h⟩
    · rw [List.getElem?_set_ne q] at e ⊢
      exact r.slot j s e
  · have nj : i ≠ j := fun q => by
      subst q
      have hi : i < Γ.length := by
        have := (List.getElem?_eq_some_iff.mp ej).1
        rwa [List.length_set] at this
      rw [List.getElem?_set_self hi] at ej
      cases ej
      cases os
    have nk : i ≠ k := fun q => by
      subst q
      have hi : i < Γ.length := by
        have := (List.getElem?_eq_some_iff.mp ek).1
        rwa [List.length_set] at this
      rw [List.getElem?_set_self hi] at ek
      cases ek
      cases ot
    rw [List.getElem?_set_ne nj] at ej hj
    rw [List.getElem?_set_ne nk] at ek hk
    exact r.inj j k s t u w l ej ek hj hk os ot
theorem Slot.own_at {s : Slot} {v : V} (o : s.isOwn = true) (h : SlotOk K mg H0 F H s v) : ∃ l ob, v = .ref l ∧ H l = some ob ∧ F l = none ∧ H0 l = none := by
  cases s with
  | val d => cases o
  | own ds =>
    obtain ⟨l, vs, e, eh, ef, e0, _⟩ := h
    exact ⟨l, _, e, eh, ef, e0⟩
  | dic ks ds =>
    obtain ⟨l, vs, e, eh, _, ef, e0, _⟩ := h
    exact ⟨l, _, e, eh, ef, e0⟩
  | hnd j ds =>
    obtain ⟨l, vs, e, eh, ef, e0, _⟩ := h
    exact ⟨l, _, e, eh, ef, e0⟩
  | oob b c ns fs =>
    obtain ⟨l, C, dx, vs, e, _, eh, _, _, ef, e0, _⟩ := h
    exact ⟨l, _, e, eh, ef, e0⟩
  | hdc j ks ds =>
    obtain ⟨l, vs, e, eh, _, ef, e0, _⟩ := h
    exact ⟨l, _, e, eh, ef, e0⟩
  | abs b a =>
    have hr : ∃ l, v = .ref l := by
      cases a with
      | nst out inn =>
        obtain ⟨n, rs, e, _⟩ := h
        exact ⟨n, e⟩
      | scb ks vs out inn =>
        obtain ⟨a, _, _, _, _, _, _, _, _, _, _, e, _⟩ := h
        exact ⟨a, e⟩
      | dsk ks obs =>
        obtain ⟨a, _, _, _, _, e, _⟩ := h
        exact ⟨a, e⟩
      | dol ks xss =>
        obtain ⟨n, _, e, _⟩ := h
        exact ⟨n, e⟩
    obtain ⟨l, e⟩ := hr
    have q : abFoot H a v l := by cases a <;> exact .inl e
    obtain ⟨ob, h1, h2, h3⟩ := ab_at h q
    exact ⟨l, ob, e, h1, h2, h3⟩
theorem Rel.setO (r : Rel K mg F0 H0 F H σ Γ) (x : Ext F H F' H') {i : Nat} {s : Slot} {v : V} (o : s.isOwn = true) (h : SlotOk K mg H F' H' s v) (nb : s.tag = none := by rfl) : Rel K mg F0 H0 F' H' (σ.set i (some v)) (Γ.set i (some s)) := by
  have r' := r.step x
  have h0 : ∀ {l : Addr}, H l = none → H0 l = none := fun e => r.ext.hh.free e
  have hs : SlotOk K mg H0 F' H' s v := h.gen (Same.refl _) (fun l q => (foot_at h q).choose_spec.2.1) (fun l ob _ e => e) (fun l q => h0 (foot_at h q).choose_spec.2.2)
  have fresh : ∀ (j : Nat) (t : Slot) (u : V) (l : Addr), Γ[j]? = some (some t) → σ[j]? = some (some u) → foot H' t u l → foot H' s v l → False := fun j t u l ej hj q1 q2 => by
    obtain ⟨w, hw, sw⟩ := r.slot j t ej
    rw [hj] at hw
    cases hw
    obtain ⟨ob, e1, _, _⟩ := foot_at sw (foot_ext sw x q1)
    obtain ⟨_, _, _, e2⟩ := foot_at h q2
    rw [e2] at e1
    cases e1
  refine ⟨r'.ext, by rw [List.length_set, List.length_set]; exact r.len, fun j t e => ?_, fun j k t t' u w l ej ek hj hk os ot => ?_, r.slf.set i fun s2 z => by cases z; exact nb⟩
  · by_cases q : i = j
    · subst q
      have hi : i < Γ.length := by
        have := (List.getElem?_eq_some_iff.mp e).1
        rwa [List.length_set] at this
      rw [List.getElem?_set_self hi] at e
      cases e
      exact ⟨v, List.getElem?_set_self (by rw [r.len]; exact hi), hs⟩
    · rw [List.getElem?_set_ne q] at e ⊢
      exact r'.slot j t e
  · have own : ∀ {m : Nat} {z : Slot} {y : V}, i = m → (Γ.set i (some s))[m]? = some (some z) → (σ.set i (some v))[m]? = some (some y) → z = s ∧ y = v := fun {m z y} e h1 h2 => by
      subst e
      have hi : i < σ.length := by
        have := (List.getElem?_eq_some_iff.mp h2).1
        rwa [List.length_set] at this
      rw [List.getElem?_set_self (by rw [← r.len]; exact hi)] at h1
      rw [List.getElem?_set_self hi] at h2
      cases h1
      cases h2
      exact ⟨rfl, rfl⟩
    by_cases qj : i = j
    · by_cases qk : i = k
      · rw [← qj, ← qk]
      · obtain ⟨rfl, rfl⟩ := own qj ej hj
        rw [List.getElem?_set_ne qk] at ek hk
        exact (fresh k t' w l ek hk ot os).elim
    · by_cases qk : i = k
      · obtain ⟨rfl, rfl⟩ := own qk ek hk
        rw [List.getElem?_set_ne qj] at ej hj
        exact (fresh j t u l ej hj os ot).elim
      · rw [List.getElem?_set_ne qj] at ej hj
        rw [List.getElem?_set_ne qk] at ek hk
        exact r'.inj j k t t' u w l ej ek hj hk os ot
theorem Rel.mutG (r : Rel K mg F0 H0 F H σ Γ) {i : Nat} {s s' : Slot} {v : V} (ei : Γ[i]? = some (some s)) (hv : σ[i]? = some (some v)) {H1 : Hp}
    (hH : ∀ a ob, ¬ foot H s v a → H a = some ob → H1 a = some ob) (h : SlotOk K mg H0 F H1 s' v) (hf : ∀ l, foot H1 s' v l → foot H s v l ∨ H l = none) (hb : s'.tag = none ∨ s'.tag = s.tag) : Rel K mg F0 H0 F H1 σ (Γ.set i (some s')) := by
  obtain ⟨v', hv', sv⟩ := r.slot i s ei
  rw [hv] at hv'
  cases hv'
  have hi : i < Γ.length := (List.getElem?_eq_some_iff.mp ei).1
  have off : ∀ (j : Nat) (t : Slot) (u : V) (l : Addr), i ≠ j → Γ[j]? = some (some t) → σ[j]? = some (some u) → foot H t u l → ¬ foot H s v l := fun j t u l q ej hj f1 f2 => q (r.inj i j s t v u l ei ej hv hj f2 f1)
  have back : ∀ (j : Nat) (t : Slot) (u : V) (l : Addr), i ≠ j → Γ[j]? = some (some t) → σ[j]? = some (some u) → foot H1 t u l → foot H t u l := fun j t u l q ej hj f1 => by
    obtain ⟨w, h1, h2⟩ := r.slot j t ej
    rw [hj] at h1
    cases h1
    exact foot_gen h2 (fun l2 ob q2 e => hH l2 ob (off j t _ l2 q ej hj q2) e) f1
  have apart : ∀ (j : Nat) (t : Slot) (u : V) (l : Addr), i ≠ j → Γ[j]? = some (some t) → σ[j]? = some (some u) → foot H1 t u l → foot H1 s' v l → False := fun j t u l q ej hj f1 f2 => by
    have b := back j t u l q ej hj f1
    rcases hf l f2 with z | z
    · exact off j t u l q ej hj b z
    · obtain ⟨w, h1, h2⟩ := r.slot j t ej
      rw [hj] at h1
      cases h1
      obtain ⟨ob, e1, _, _⟩ := foot_at h2 b
      rw [z] at e1
      cases e1
  refine ⟨⟨r.ext.ff, fun a u e => ?_, fun a u e => ?_, r.ext.new⟩, by rw [List.length_set]; exact r.len, fun j t e => ?_, fun j k t t' u w l ej ek hj hk os ot => ?_, r.slf.setE ei hb⟩
  · have nf : ¬ foot H s v a := fun q => by
      obtain ⟨_, _, z, _⟩ := foot_at sv q
      rw [e] at z
      cases z
    rcases r.ext.fh a u e with z | ⟨z1, ob, z2⟩
    · exact .inl (hH a u nf z)
    · exact .inr ⟨z1, ob, hH a _ nf z2⟩
  · exact hH a u (fun q => by
      obtain ⟨_, _, _, z⟩ := foot_at sv q
      rw [e] at z
      cases z) (r.ext.hh a u e)
  · by_cases q : i = j
    · subst q
      rw [List.getElem?_set_self hi] at e
      cases e
      exact ⟨v, hv, h⟩
    · rw [List.getElem?_set_ne q] at e
      obtain ⟨w, h1, h2⟩ := r.slot j t e
      exact ⟨w, h1, h2.gen (Same.refl _) (fun l z => (foot_at h2 z).choose_spec.2.1) (fun l ob z e2 => hH l ob (off j t w l q e h1 z) e2) (fun l z => (foot_at h2 z).choose_spec.2.2)⟩
  · by_cases qj : i = j
    · by_cases qk : i = k
      · rw [← qj, ← qk]
      · subst qj
        rw [List.getElem?_set_self hi] at ej
        cases ej
        rw [hv] at hj
        cases hj
        rw [List.getElem?_set_ne qk] at ek
        exact (apart k t' w l qk ek hk ot os).elim
    · by_cases qk : i = k
      · subst qk
        rw [List.getElem?_set_self hi] at ek
        cases ek
        rw [hv] at hk
        cases hk
        rw [List.getElem?_set_ne qj] at ej
        exact (apart j t u l qj ej hj os ot).elim
      · rw [List.getElem?_set_ne qj] at ej
        rw [List.getElem?_set_ne qk] at ek
        exact r.inj j k t t' u w l ej ek hj hk (back j t u l qj ej hj os) (back k t' w l qk ek hk ot)
theorem Rel.mutO (r : Rel K mg F0 H0 F H σ Γ) {i : Nat} {s s' : Slot} {l : Addr} {ob : HO} (ei : Γ[i]? = some (some s)) (o : s.isOwn = true) (hv : σ[i]? = some (some (.ref l)))
    (o' : s'.isOwn = true) (h : SlotOk K mg H0 F (upd H l ob) s' (.ref l)) (so : (match s' with | .oob _ _ _ _ => false | .abs _ _ => false | _ => true) = true := by rfl) (ht : s'.tag = none ∨ s'.tag = s.tag := by first | exact Or.inl rfl | exact Or.inr rfl) : Rel K mg F0 H0 F (upd H l ob) σ (Γ.set i (some s')) := by
  have fl : foot H s (.ref l) l := by
    cases s with
    | val d => cases o
    | own ds => rfl
    | dic ks ds => rfl
    | hnd j ds => rfl
    | hdc j ks ds => rfl
    | oob b c ns fs => exact Or.inl rfl
    | abs b a => cases a <;> exact Or.inl rfl
  refine r.mutG ei hv (fun a u nf e => ?_) h (fun l2 z => ?_) ht
  · rw [upd_ne (fun q => nf (by rw [q]; exact fl))]
    exact e
  · left
    have e : (V.ref l : V) = .ref l2 := by
      cases s' with
      | val d => exact z.elim
      | own ds => exact z
      | dic ks ds => exact z
      | hnd j ds => exact z
      | hdc j ks ds => exact z
      | oob b c ns fs => cases so
      | abs b a => cases so
    cases e
    exact fl
theorem Rel.freeze (r : Rel K mg F0 H0 F H σ Γ) {i : Nat} {ds : List D} (ei : Γ[i]? = some (some (.own ds))) : ∃ F', Rel K mg F0 H0 F' H σ (Γ.set i (some (.val (.lst ds)))) ∧ Same F F' := by
  obtain ⟨v, hv, l, vs, e1, e2, e3, e4, e5⟩ := r.slot i _ ei
  subst e1
  have hi : i < Γ.length := (List.getElem?_eq_some_iff.mp ei).1
  have ss : Same F (upd F l (.lst vs)) := fun a u e => by rw [upd_ne (fun q => by rw [q, e3] at e; cases e)]; exact e
  refine ⟨upd F l (.lst vs), ⟨⟨r.ext.ff.trans ss, fun a u e => ?_, r.ext.hh, fun a u e => ?_⟩, by rw [List.length_set]; exact r.len, fun j t e => ?_, fun j k t t' u w m ej ek hj hk os ot => ?_, r.slf.setE ei (.inl rfl)⟩, ss⟩
  · by_cases q : a = l
    · subst q
      rw [upd_same] at e
      cases e
      exact .inl e2
    · rw [upd_ne q] at e
      exact r.ext.fh a u e
  · by_cases q : a = l
    · subst q
      exact .inr e4
    · rw [upd_ne q] at e
      exact r.ext.new a u e
  · by_cases q : i = j
    · subst q
      rw [List.getElem?_set_self hi] at e
      cases e
      refine ⟨.ref l, hv, ?_⟩
      show Rp K mg _ (.lst ds) _
      unfold Rp
      exact ⟨l, vs, rfl, upd_same, RpL.mono ss _ _ e5⟩
    · rw [List.getElem?_set_ne q] at e
      obtain ⟨v, h1, h2⟩ := r.slot j t e
      refine ⟨v, h1, h2.gen ss (fun m z => ?_) (fun m ob _ e => e) (fun m z => (foot_at h2 z).choose_spec.2.2)⟩
      have nl : m ≠ l := fun y => q (r.inj i j _ t (.ref l) v m ei e hv h1 (by rw [y]; rfl) z)
      rw [upd_ne nl]
      exact (foot_at h2 z).choose_spec.2.1
  · have nj : i ≠ j := fun q => by
      subst q
      rw [List.getElem?_set_self hi] at ej
      cases ej
      cases os
    have nk : i ≠ k := fun q => by
      subst q
      rw [List.getElem?_set_self hi] at ek
      cases ek
      cases ot
    rw [List.getElem?_set_ne nj] at ej
    rw [List.getElem?_set_ne nk] at ek
    exact r.inj j k t t' u w m ej ek hj hk os ot
theorem Rel.freezeH (r : Rel K mg F0 H0 F H σ Γ) {i : Nat} {n : Nat} {ds : List D} (ei : Γ[i]? = some (some (.hnd n ds))) : ∃ F', Rel K mg F0 H0 F' H σ (Γ.set i (some (.val (.lst ds)))) ∧ Same F F' := by
  obtain ⟨v, hv, l, vs, e1, e2, e3, e4, e5⟩ := r.slot i _ ei
  subst e1
  have hi : i < Γ.length := (List.getElem?_eq_some_iff.mp ei).1
  have ss : Same F (upd F l (.lst vs)) := fun a u e => by rw [upd_ne (fun q => by rw [q, e3] at e; cases e)]; exact e
  refine ⟨upd F l (.lst vs), ⟨⟨r.ext.ff.trans ss, fun a u e => ?_, r.ext.hh, fun a u e => ?_⟩, by rw [List.length_set]; exact r.len, fun j t e => ?_, fun j k t t' u w m ej ek hj hk os ot => ?_, r.slf.setE ei (.inl rfl)⟩, ss⟩
  · by_cases q : a = l
    · subst q
      rw [upd_same] at e
      cases e
      exact .inl e2
    · rw [upd_ne q] at e
      exact r.ext.fh a u e
  · by_cases q : a = l
    · subst q
      exact .inr e4
    · rw [upd_ne q] at e
      exact r.ext.new a u e
  · by_cases q : i = j
    · subst q
      rw [List.getElem?_set_self hi] at e
      cases e
      refine ⟨.ref l, hv, ?_⟩
      show Rp K mg _ (.lst ds) _
      unfold Rp
      exact ⟨l, vs, rfl, upd_same, RpL.mono ss _ _ e5⟩
    · rw [List.getElem?_set_ne q] at e
      obtain ⟨v, h1, h2⟩ := r.slot j t e
      refine ⟨v, h1, h2.gen ss (fun m z => ?_) (fun m ob _ e => e) (fun m z => (foot_at h2 z).choose_spec.2.2)⟩
      have nl : m ≠ l := fun y => q (r.inj i j _ t (.ref l) v m ei e hv h1 (by rw [y]; rfl) z)
      rw [upd_ne nl]
      exact (foot_at h2 z).choose_spec.2.1
  · have nj : i ≠ j := fun q => by
      subst q
      rw [List.getElem?_set_self hi] at ej
      cases ej
      cases os
    have nk : i ≠ k := fun q => by
      subst q
      rw [List.getElem?_set_self hi] at ek
      cases ek
      cases ot
    rw [List.getElem?_set_ne nj] at ej
    rw [List.getElem?_set_ne nk] at ek
    exact r.inj j k t t' u w m ej ek hj hk os ot
theorem Rel.freezeD (r : Rel K mg F0 H0 F H σ Γ) {i : Nat} {ks : List Key} {ds : List D} (ei : Γ[i]? = some (some (.dic ks ds))) : ∃ F', Rel K mg F0 H0 F' H σ (Γ.set i (some (.val (.dk ks ds)))) ∧ Same F F' := by
  obtain ⟨v, hv, l, vs, e1, e2, e6, e3, e4, e5⟩ := r.slot i _ ei
  subst e1
  have hi : i < Γ.length := (List.getElem?_eq_some_iff.mp ei).1
  have ss : Same F (upd F l (.dK (ks.zip vs))) := fun a u e => by rw [upd_ne (fun q => by rw [q, e3] at e; cases e)]; exact e
  refine ⟨upd F l (.dK (ks.zip vs)), ⟨⟨r.ext.ff.trans ss, fun a u e => ?_, r.ext.hh, fun a u e => ?_⟩, by rw [List.length_set]; exact r.len, fun j t e => ?_, fun j k t t' u w m ej ek hj hk os ot => ?_, r.slf.setE ei (.inl rfl)⟩, ss⟩
  · by_cases q : a = l
    · subst q
      rw [upd_same] at e
      cases e
      exact .inl e2
    · rw [upd_ne q] at e
      exact r.ext.fh a u e
  · by_cases q : a = l
    · subst q
      exact .inr e4
    · rw [upd_ne q] at e
      exact r.ext.new a u e
  · by_cases q : i = j
    · subst q
      rw [List.getElem?_set_self hi] at e
      cases e
      refine ⟨.ref l, hv, ?_⟩
      show Rp K mg _ (.dk ks ds) _
      unfold Rp
      exact ⟨l, vs, rfl, upd_same, e6, RpL.mono ss _ _ e5⟩
    · rw [List.getElem?_set_ne q] at e
      obtain ⟨v, h1, h2⟩ := r.slot j t e
      refine ⟨v, h1, h2.gen ss (fun m z => ?_) (fun m ob _ e => e) (fun m z => (foot_at h2 z).choose_spec.2.2)⟩
      have nl : m ≠ l := fun y => q (r.inj i j _ t (.ref l) v m ei e hv h1 (by rw [y]; rfl) z)
      rw [upd_ne nl]
      exact (foot_at h2 z).choose_spec.2.1
  · have nj : i ≠ j := fun q => by
      subst q
      rw [List.getElem?_set_self hi] at ej
      cases ej
      cases os
    have nk : i ≠ k := fun q => by
      subst q
      rw [List.getElem?_set_self hi] at ek
      cases ek
      cases ot
    rw [List.getElem?_set_ne nj] at ej
    rw [List.getElem?_set_ne nk] at ek
    exact r.inj j k t t' u w m ej ek hj hk os ot
theorem Rel.freezeHD (r : Rel K mg F0 H0 F H σ Γ) {i : Nat} {n : Nat} {ks : List Key} {ds : List D} (ei : Γ[i]? = some (some (.hdc n ks ds))) : ∃ F', Rel K mg F0 H0 F' H σ (Γ.set i (some (.val (.dk ks ds)))) ∧ Same F F' := by
  obtain ⟨v, hv, l, vs, e1, e2, e6, e3, e4, e5⟩ := r.slot i _ ei
  subst e1
  have hi : i < Γ.length := (List.getElem?_eq_some_iff.mp ei).1
  have ss : Same F (upd F l (.dK (ks.zip vs))) := fun a u e => by rw [upd_ne (fun q => by rw [q, e3] at e; cases e)]; exact e
  refine ⟨upd F l (.dK (ks.zip vs)), ⟨⟨r.ext.ff.trans ss, fun a u e => ?_, r.ext.hh, fun a u e => ?_⟩, by rw [List.length_set]; exact r.len, fun j t e => ?_, fun j k t t' u w m ej ek hj hk os ot => ?_, r.slf.setE ei (.inl rfl)⟩, ss⟩
  · by_cases q : a = l
    · subst q
      rw [upd_same] at e
      cases e
      exact .inl e2
    · rw [upd_ne q] at e
      exact r.ext.fh a u e
  · by_cases q : a = l
    · subst q
      exact .inr e4
    · rw [upd_ne q] at e
      exact r.ext.new a u e
  · by_cases q : i = j
    · subst q
      rw [List.getElem?_set_self hi] at e
      cases e
      refine ⟨.ref l, hv, ?_⟩
      show Rp K mg _ (.dk ks ds) _
      unfold Rp
      exact ⟨l, vs, rfl, upd_same, e6, RpL.mono ss _ _ e5⟩
    · rw [List.getElem?_set_ne q] at e
      obtain ⟨v, h1, h2⟩ := r.slot j t e
      refine ⟨v, h1, h2.gen ss (fun m z => ?_) (fun m ob _ e => e) (fun m z => (foot_at h2 z).choose_spec.2.2)⟩
      have nl : m ≠ l := fun y => q (r.inj i j _ t (.ref l) v m ei e hv h1 (by rw [y]; rfl) z)
      rw [upd_ne nl]
      exact (foot_at h2 z).choose_spec.2.1
  · have nj : i ≠ j := fun q => by
      subst q
      rw [List.getElem?_set_self hi] at ej
      cases ej
      cases os
    have nk : i ≠ k := fun q => by
      subst q
      rw [List.getElem?_set_self hi] at ek
      cases ek
      cases ot
    rw [List.getElem?_set_ne nj] at ej
    rw [List.getElem?_set_ne nk] at ek
    exact r.inj j k t t' u w m ej ek hj hk os ot
variable {rep : Hp → Hp → Hp → α → β → Prop} {E : XK} {Q Q' : β → Hp → Prop}
theorem PostG.imp {r : R α} (h : PostG K mg rep F H E Q r) (hQ : ∀ b H', Q b H' → Q' b H') : PostG K mg rep F H E Q' r := by
  cases r with
  | ok a => exact fun b F' H' x p => hQ b H' (h b F' H' x p)
  | exc x => exact h
  | stuck => exact h
theorem PostG.bind {α' β' : Type} {rep' : Hp → Hp → Hp → α' → β' → Prop} {Q' : β' → Hp → Prop} {r : R α} {k : α → R α'} (h : PostG K mg rep' F H E Q' (r.bind k))
    (hk : ∀ a b F' H', r = .ok a → Ext F H F' H' → rep H F' H' a b → PostG K mg rep' F' H' E Q' (k a) → Q b H')
    (up : ∀ {F' H'} (x : Ext F H F' H') a' b' F2 H2, rep' H' F2 H2 a' b' → rep' H F2 H2 a' b') : PostG K mg rep F H E Q r := by
  cases r with
  | ok a =>
    intro b F' H' x p
    refine hk a b F' H' rfl x p ?_
    have h' : PostG K mg rep' F H E Q' (k a) := h
    revert h'
    cases k a with
    | ok a' => exact fun h' b' F2 H2 y q => h' b' F2 H2 (x.trans y) (up x a' b' F2 H2 q)
    | exc z => exact fun h' cls od F2 H2 y q => h' cls od F2 H2 (x.trans y) q
    | stuck => exact fun h' => h'
  | exc x => exact h
  | stuck => exact h
end
end DL
namespace DL
open PySem PySem.Spec L2
def LIM : Nat := 16777216
theorem LIM_eq : sizeLine = LIM := sizeLine_eq
def tD (X : Cx) (W : WX) (f : Env → R D) : TE := fun σ H Q => ∃ F0 H0 F Γ, Rel X.K X.mg F0 H0 F H σ Γ ∧ PostG X.K X.mg (repV X.K X.mg) F H (WE W σ) Q (f Γ)
def tDO (X : Cx) (W : WX) (f : Env → R (List D)) : TE := fun σ H Q => ∃ F0 H0 F Γ, Rel X.K X.mg F0 H0 F H σ Γ ∧ PostG X.K X.mg (repO X.K X.mg) F H (WE W σ) Q (f Γ)
def tDT (X : Cx) (W : WX) (f : Env → R Bool) : TT := fun σ H Q => ∃ F0 H0 F Γ, Rel X.K X.mg F0 H0 F H σ Γ ∧ PostG X.K X.mg repB F H (WE W σ) Q (f Γ)
def tDA (X : Cx) (W : WX) (f : Env → R (List D)) : TA := fun σ H Q => ∃ F0 H0 F Γ, Rel X.K X.mg F0 H0 F H σ Γ ∧ PostG X.K X.mg (repL X.K X.mg) F H (WE W σ) Q (f Γ)
abbrev DE (X : Cx) (W : WX) (e : Expr) (f : Env → R D) : Prop := PE X e (tD X W f)
abbrev DO (X : Cx) (W : WX) (e : Expr) (f : Env → R (List D)) : Prop := PE X e (tDO X W f)
abbrev DT (X : Cx) (W : WX) (e : Expr) (f : Env → R Bool) : Prop := PT X e (tDT X W f)
abbrev DW (X : Cx) (W : WX) (e : Expr) (f : Env → R Bool) : Prop := PW X e (tDT X W f)
abbrev DA (X : Cx) (W : WX) (es : List Expr) (f : Env → R (List D)) : Prop := PA X es (tDA X W f)
section
variable {X : Cx} {e : Expr} {es : List Expr}
theorem PE.weak {t t' : TE} (h : PE X e t) (w : ∀ σ H Q, t' σ H Q → t σ H Q) : PE X e t' := ⟨fun pins s σ H Q I q => h.run pins s σ H Q I (w σ H Q q)⟩
theorem PT.weak {t t' : TT} (h : PT X e t) (w : ∀ σ H Q, t' σ H Q → t σ H Q) : PT X e t' := ⟨fun pins s σ H Q I q => h.run pins s σ H Q I (w σ H Q q)⟩
theorem PW.weak {t t' : TT} (h : PW X e t) (w : ∀ σ H Q, t' σ H Q → t σ H Q) : PW X e t' := ⟨fun wh pins s σ H Q I q => h.run wh pins s σ H Q I (w σ H Q q)⟩
theorem PA.weak {t t' : TA} (h : PA X es t) (w : ∀ σ H Q, t' σ H Q → t σ H Q) : PA X es t' := ⟨fun pos pins s σ H Q I q => h.run pos pins s σ H Q I (w σ H Q q)⟩
end
def D.sh : Nat → D → Bool
  | _, .non => true | _, .bl _ => true | _, .int _ => true | _, .str x => PyData.canLay0 (.str x)
  | n + 1, .lst xs => xs.all (D.sh n)
  | n + 1, .tup xs => xs.all (D.sh n)
  | _ + 1, .scr _ => true
  | _, _ => false
mutual
def D.pd : D → PyData
  | .bl b => .bool b
  | .int i => .int i
  | .str x => .str x
  | .lst xs => .list (D.pdL xs)
  | .tup xs => .tuple (D.pdL xs)
  | .scr ns => .list (ns.map PyData.int)
  | _ => .none
def D.pdL : List D → List PyData
  | [] => []
  | d :: ds => D.pd d :: D.pdL ds
end
theorem D.pdL_map (ds : List D) : D.pdL ds = ds.map D.pd := by
  induction ds with
  | nil => rfl
  | cons d ds ih => show D.pd d :: D.pdL ds = _; rw [ih]; rfl
def dEqB (x y : D) : Bool := PyData.eqv x.pd y.pd
def dEqV (x y : D) : R Bool := match x, y with
  | .int i, .int j => .ok (decide (i = j))
  | .str i, .str j => .ok (decide (i = j))
  | x, y => if x.sh 60 && y.sh 60 then .ok (dEqB x y) else .stuck
def dEq (x y : D) : R D := (dEqV x y).bind fun b => .ok (.bl b)
def dNe (x y : D) : R D := (dEqV x y).bind fun b => .ok (.bl (!b))
def smallI (i : Int) : Bool := decide (-18446744073709551616 < i) && decide (i < 18446744073709551616)
def dMul : D → D → R D
  | .int i, .int j => if smallI j || (smallI i || decide (i.natAbs.log2 + j.natAbs.log2 < 1000000)) then .ok (.int (i * j)) else .stuck
  | _, _ => .stuck
def dAdd : D → D → R D
  | .int i, .int j => .ok (.int (i + j))
  | .str x, .str y => if x.length + y.length ≤ LIM then .ok (.str (x ++ y)) else .stuck
  | .tup (x :: xs), .tup ys => if (x :: xs).length + ys.length ≤ LIM then .ok (.tup ((x :: xs) ++ ys)) else .stuck
  | .lst xs, .lst ys => if xs.length + ys.length ≤ LIM then .ok (.lst (xs ++ ys)) else .stuck
  | _, _ => .stuck
def oAdd : D → D → R (List D)
  | .lst xs, .lst ys => if xs.length + ys.length ≤ LIM then .ok (xs ++ ys) else .stuck
  | _, _ => .stuck
def dSub : D → D → R D
  | .int i, .int j => .ok (.int (i - j))
  | _, _ => .stuck
def dDiv : D → D → R D
  | .int i, .int j => if decide (0 < j) && decide (j.natAbs.log2 < 9000) then .ok (.int (i / j)) else .stuck
  | _, _ => .stuck
def dMod : D → D → R D
  | .int i, .int j => if 0 < j then .ok (.int (i % j)) else .stuck
  | _, _ => .stuck
def dPow : D → D → R D
  | .int i, .int j => if decide (0 ≤ j) && decide (j ≤ 1000000) && smallI i then .ok (.int (i ^ j.toNat)) else .stuck
  | _, _ => .stuck
def dLt : D → D → R D
  | .int i, .int j => .ok (.bl (decide (i < j)))
  | _, _ => .stuck
def dLe : D → D → R D
  | .int i, .int j => .ok (.bl (decide (i ≤ j)))
  | _, _ => .stuck
def dGt : D → D → R D
  | .int i, .int j => .ok (.bl (decide (j < i)))
  | _, _ => .stuck
def dGe : D → D → R D
  | .int i, .int j => .ok (.bl (decide (j ≤ i)))
  | _, _ => .stuck
def D.isNon : D → Bool
  | .non => true
  | _ => false
def dIs : D → D → R D
  | x, .non => .ok (.bl x.isNon)
  | _, _ => .stuck
def dIsNot : D → D → R D
  | x, .non => .ok (.bl (!x.isNon))
  | _, _ => .stuck
def dIx : D → D → R D
  | .lst xs, .int i => match atI xs i with | some d => .ok d | none => .stuck
  | .tup xs, .int i => match atI xs i with | some d => .ok d | none => .stuck
  | .scr ns, .int i => match atI ns i with | some d => .ok (.int d) | none => .stuck
  | .str z, .int i => if z.length ≤ LIM then (match atI z.cps.toList i with | some c => .ok (.str ⟨#[c]⟩) | none => .stuck) else .stuck
  | _, _ => .stuck
def un1 (g : D → R D) : List D → R D
  | [x] => g x
  | _ => .stuck
def un2 (g : D → D → R D) : List D → R D
  | [x, y] => g x y
  | _ => .stuck
def dLen1 : D → R D
  | .lst xs => .ok (.int xs.length)
  | .tup xs => .ok (.int xs.length)
  | .scr xs => .ok (.int xs.length)
  | .str x => if x.length ≤ LIM then .ok (.int x.length) else .stuck
  | _ => .stuck
abbrev dLen := un1 dLen1
def dMinB : D → D → R D
  | .int i, .int j => .ok (.int (if j < i then j else i))
  | _, _ => .stuck
abbrev dMin2 := un2 dMinB
def dMaxB : D → D → R D
  | .int i, .int j => .ok (.int (if j > i then j else i))
  | _, _ => .stuck
abbrev dMax2 := un2 dMaxB
def dAbs1 : D → R D
  | .int i => .ok (.int (if i < 0 then -i else i))
  | _ => .stuck
abbrev dAbs := un1 dAbs1
def dNeg : D → R D
  | .int i => .ok (.int (-i))
  | _ => .stuck
def D.tyOf : D → Option String
  | .non => some "NoneType" | .bl _ => some "bool" | .int _ => some "int" | .str _ => some "str"
  | .lst _ => some "list" | .scr _ => some "list" | .tup _ => some "tuple" | .dk _ _ => some "dict"
  | _ => none
def dIsiB : D → D → R D
  | x, .ty n => match x.tyOf with
    | some t => (match kitB t n with | some b => .ok (.bl b) | none => .stuck)
    | none => .stuck
  | _, _ => .stuck
abbrev dIsi := un2 dIsiB
def asB : D → R Bool
  | .bl b => .ok b
  | _ => .stuck
def dTru : D → R Bool
  | .bl b => .ok b
  | .non => .ok false
  | .int i => .ok (i != 0)
  | .str x => if x.length ≤ LIM then .ok ((x.length : Int) != 0) else .stuck
  | .lst xs => .ok (!xs.isEmpty)
  | .tup xs => .ok (!xs.isEmpty)
  | .scr xs => .ok (!xs.isEmpty)
  | _ => .stuck
def Env.at_ (Γ : Env) (i : Nat) : Option Slot := match Γ[i]? with
  | some s => s
  | none => none
def eV (i : Nat) : Env → R D := fun Γ => match Env.at_ Γ i with
  | some (.val d) => .ok d
  | _ => .stuck
def eC (d : D) : Env → R D := fun _ => .ok d
def eOp (g : D → D → R D) (fa fb : Env → R D) : Env → R D := fun Γ => (fa Γ).bind fun x => (fb Γ).bind fun y => g x y
def eUn (g : D → R D) (fa : Env → R D) : Env → R D := fun Γ => (fa Γ).bind g
def eChain (g g' : D → D → R D) (fa fb fc : Env → R D) : Env → R D := fun Γ => (fa Γ).bind fun x => (fb Γ).bind fun y => (g x y).bind fun z => (asB z).bind fun k =>
  match k with
  | true => (fc Γ).bind fun w => g' y w
  | false => .ok (.bl false)
def eAnd (fa fb : Env → R D) : Env → R D := fun Γ => (fa Γ).bind fun x => (asB x).bind fun k => match k with
  | true => fb Γ
  | false => .ok (.bl false)
def eOr (fa fb : Env → R D) : Env → R D := fun Γ => (fa Γ).bind fun x => (asB x).bind fun k => match k with
  | true => .ok (.bl true)
  | false => fb Γ
def eNot (fa : Env → R D) : Env → R D := fun Γ => (fa Γ).bind fun x => (asB x).bind fun k => .ok (.bl (!k))
def eIf (ft : Env → R Bool) (fa fb : Env → R D) : Env → R D := fun Γ => (ft Γ).bind fun k => match k with
  | true => fa Γ
  | false => fb Γ
def eB (fa : Env → R D) : Env → R Bool := fun Γ => (fa Γ).bind asB
def eTru (fa : Env → R D) : Env → R Bool := fun Γ => (fa Γ).bind dTru
def bNot (f : Env → R Bool) : Env → R Bool := fun Γ => (f Γ).bind fun k => .ok (!k)
def bAnd (f g : Env → R Bool) : Env → R Bool := fun Γ => (f Γ).bind fun k => match k with
  | true => g Γ
  | false => .ok false
def bOr (f g : Env → R Bool) : Env → R Bool := fun Γ => (f Γ).bind fun k => match k with
  | true => .ok true
  | false => g Γ
def aNil : Env → R (List D) := fun _ => .ok []
def aCons (f : Env → R D) (g : Env → R (List D)) : Env → R (List D) := fun Γ => (f Γ).bind fun d => (g Γ).bind fun ds => .ok (d :: ds)
def eCall (g : List D → R D) (f : Env → R (List D)) : Env → R D := fun Γ => (f Γ).bind g
def eTup (f : Env → R (List D)) : Env → R D := fun Γ => (f Γ).bind fun ds => if ds.length ≤ LIM then .ok (.tup ds) else .stuck
def oLst (f : Env → R (List D)) : Env → R (List D) := fun Γ => (f Γ).bind fun ds => if ds.length ≤ LIM then .ok ds else .stuck
def eFrz (f : Env → R (List D)) : Env → R D := fun Γ => (f Γ).bind fun ds => .ok (.lst ds)
def oOp (g : D → D → R (List D)) (fa fb : Env → R D) : Env → R (List D) := fun Γ => (fa Γ).bind fun x => (fb Γ).bind fun y => g x y
def oCall (g : List D → R (List D)) (f : Env → R (List D)) : Env → R (List D) := fun Γ => (f Γ).bind g
def D.scal : D → Bool
  | .non => true | .bl _ => true | .int _ => true | .str _ => true
  | _ => false
def Fl.frz : Fl → D
  | .val d => d
  | .own ds => .lst ds
  | .dic ks ds => .dk ks ds
def Slot.frz : Slot → Slot
  | .own ds => .val (.lst ds)
  | .dic ks ds => .val (.dk ks ds)
  | .oob _ c ns fs => .val (.obj c ns (fs.map Fl.frz))
  | .hnd _ ds => .val (.lst ds)
  | .hdc _ ks ds => .val (.dk ks ds)
  | .abs b a => .abs b a
  | .val d => .val d
def Env.frz (Γ : Env) (i : Nat) : Env := match Env.at_ Γ i with
  | some s => Γ.set i (some s.frz)
  | none => Γ
def eBor (i : Nat) (f : Env → R D) : Env → R D := fun Γ => match f (Env.frz Γ i) with
  | .ok d => if d.scal then .ok d else .stuck
  | _ => .stuck
def bBor (i : Nat) (f : Env → R Bool) : Env → R Bool := fun Γ => match f (Env.frz Γ i) with
  | .ok d => .ok d
  | _ => .stuck
def eOwnIx (i : Nat) (f : Env → R D) : Env → R D := fun Γ => match Env.at_ Γ i with
  | some (.own ds) => (f Γ).bind fun k => dIx (.lst ds) k
  | some (.hnd _ ds) => (f Γ).bind fun k => dIx (.lst ds) k
  | some (.val d) => (f Γ).bind fun k => dIx d k
  | _ => .stuck
section
variable {K : PySem.W.Frag} {mg : Str → Option Value} {F0 : Fe} {H0 F H F' H' : Hp} {σ : L2.St} {Γ : Env} {α β : Type} {E : XK} {Q : β → Hp → Prop}
theorem PostG.ok {rep : Hp → Hp → Hp → α → β → Prop} {a : α} {b : β} (h : PostG K mg rep F H E Q (.ok a)) (z : Fz F H) (r : rep H F H a b) : Q b H := h b F H (Ext.refl z) r
theorem PostG.at {rep : Hp → Hp → Hp → α → β → Prop} {a : α} {b : β} (h : PostG K mg rep F H E Q (.ok a)) (x : Ext F H F' H') (r : rep H F' H' a b) : Q b H' := h b F' H' x r
theorem at_get {s : Slot} {i : Nat} (h : Env.at_ Γ i = some s) : Γ[i]? = some (some s) := by
  unfold Env.at_ at h
  split at h
  · rename_i t e
    rw [e, h]
  · cases h
theorem Rel.val (r : Rel K mg F0 H0 F H σ Γ) {i : Nat} {d : D} (h : Env.at_ Γ i = some (.val d)) : ∃ v, σ[i]? = some (some v) ∧ Rp K mg F d v := r.slot i _ (at_get h)
end
section
variable {X : Cx} {W : WX} {a b c : Expr} {es : List Expr} {fa fb fc : Env → R D} {ft fu : Env → R Bool} {fs : Env → R (List D)} {pos p : Pos}
theorem de_var (i : Nat) {x : Str} (hN : X.N[i]? = some x := by rfl) (hv : Vis X.env.scope x := by first | exact Or.inl (by kernel_rfl) | exact Or.inr (Or.inl (by kernel_rfl)) | exact Or.inr (Or.inr (by kernel_rfl))) (hd : (x == ("__debug__" : Str)) = false := by kernel_rfl)
    (hcd : (x == ("__classdict__" : Str)) = false := by kernel_rfl) : DE X W (.Name x pos) (eV i) := by
  refine PE.weak (pe_var hN hv hd hcd) ?_
  rintro σ H Q ⟨F0, H0, F, Γ, r, p⟩
  revert p
  unfold eV
  cases e : Env.at_ Γ i with
  | none => exact fun p => p.elim
  | some s =>
    cases s with
    | hdc _ _ _ => exact fun p => p.elim
    | abs _ _ => exact fun p => p.elim
    | oob b c ns fs => exact fun p => p.elim
    | hnd _ _ => exact fun p => p.elim
    | val d =>
      intro p
      obtain ⟨v, h1, h2⟩ := r.val e
      exact ⟨v, h1, PostG.ok p r.fz h2⟩
    | own ds => exact fun p => p.elim
    | dic ks ds => exact fun p => p.elim
theorem de_int {i j} : DE X W (.Constant (.int i) j pos) (eC (.int i)) := by
  refine PE.weak pe_int ?_
  rintro σ H Q ⟨F0, H0, F, Γ, r, p⟩
  exact PostG.ok p r.fz (by show Rp _ _ _ _ _; unfold Rp; rfl)
theorem de_bl {i j} : DE X W (.Constant (.bool i) j pos) (eC (.bl i)) := by
  refine PE.weak pe_bl ?_
  rintro σ H Q ⟨F0, H0, F, Γ, r, p⟩
  exact PostG.ok p r.fz (by show Rp _ _ _ _ _; unfold Rp; rfl)
theorem de_non {j} : DE X W (.Constant .none j pos) (eC .non) := by
  refine PE.weak pe_non ?_
  rintro σ H Q ⟨F0, H0, F, Γ, r, p⟩
  exact PostG.ok p r.fz (by show Rp _ _ _ _ _; unfold Rp; rfl)
theorem de_str {i j} : DE X W (.Constant (.str i) j pos) (eC (.str i)) := by
  refine PE.weak pe_str ?_
  rintro σ H Q ⟨F0, H0, F, Γ, r, p⟩
  exact PostG.ok p r.fz (by show Rp _ _ _ _ _; unfold Rp; rfl)
theorem de_ty {x : Str} {n : String} (hg : Gl X x) (hm : X.mg x = none) (hv : bootBuiltins x = some (.type n)) (hn : x ≠ "__name__" := by decide +kernel) (hd : (x == ("__debug__" : Str)) = false := by kernel_rfl) : DE X W (.Name x pos) (eC (.ty n)) := by
  refine PE.weak (pe_bltn (v := .ty n) hg hm hv rfl hn hd) ?_
  rintro σ H Q ⟨F0, H0, F, Γ, r, p⟩
  exact PostG.ok p r.fz (by show Rp _ _ _ _ _; unfold Rp; rfl)
theorem de_cls {x : Str} {C : Addr} (hg : Gl X x) (hm : X.mg x = some (.ref C)) (hd : (x == ("__debug__" : Str)) = false := by kernel_rfl) : DE X W (.Name x pos) (eC (.cls x)) := by
  refine PE.weak (pe_glob (v := .ref C) hg hm rfl hd) ?_
  rintro σ H Q ⟨F0, H0, F, Γ, r, p⟩
  exact PostG.ok p r.fz (by show Rp _ _ _ _ _; unfold Rp; exact ⟨C, rfl, hm⟩)
def Sat2 (X : Cx) (r : R2) (g : D → D → R D) : Prop := ∀ (F H : Hp) (x y : D) (v u : V) (E : XK) (Q : VK), Fz F H → Rp X.K X.mg F x v → Rp X.K X.mg F y u → PostG X.K X.mg (repV X.K X.mg) F H E Q (g x y) → r v u H Q
def Sat2O (X : Cx) (r : R2) (g : D → D → R (List D)) : Prop := ∀ (F H : Hp) (x y : D) (v u : V) (E : XK) (Q : VK), Fz F H → Rp X.K X.mg F x v → Rp X.K X.mg F y u → PostG X.K X.mg (repO X.K X.mg) F H E Q (g x y) → r v u H Q
def Sat1 (X : Cx) (r : V → Hp → VK → Prop) (g : D → R D) : Prop := ∀ (F H : Hp) (x : D) (v : V) (E : XK) (Q : VK), Fz F H → Rp X.K X.mg F x v → PostG X.K X.mg (repV X.K X.mg) F H E Q (g x) → r v H Q
def SatL (X : Cx) (r : List V → Hp → VK → Prop) (g : List D → R D) : Prop := ∀ (F H : Hp) (ds : List D) (vs : List V) (E : XK) (Q : VK), Fz F H → RpL X.K X.mg F ds vs → PostG X.K X.mg (repV X.K X.mg) F H E Q (g ds) → r vs H Q
def SatLO (X : Cx) (r : List V → Hp → VK → Prop) (g : List D → R (List D)) : Prop := ∀ (F H : Hp) (ds : List D) (vs : List V) (E : XK) (Q : VK), Fz F H → RpL X.K X.mg F ds vs → PostG X.K X.mg (repO X.K X.mg) F H E Q (g ds) → r vs H Q
theorem bind2 {F H : Hp} {σ : L2.St} {Γ : Env} {F0 : Fe} {H0 : Hp} {α β : Type} {rep : Hp → Hp → Hp → α → β → Prop} {Q : β → Hp → Prop} {g : D → D → R α} {Q2 : V → V → Hp → Prop}
    (up : ∀ {F H F' H'} (x : Ext F H F' H') a' b' F2 H2, rep H' F2 H2 a' b' → rep H F2 H2 a' b') (r : Rel X.K X.mg F0 H0 F H σ Γ) (p : PostG X.K X.mg rep F H (WE W σ) Q ((fa Γ).bind fun x => (fb Γ).bind fun y => g x y))
    (k : ∀ x y v u F2 H2, Ext F H F2 H2 → Rp X.K X.mg F2 x v → Rp X.K X.mg F2 y u → PostG X.K X.mg rep F2 H2 (WE W σ) Q (g x y) → Q2 v u H2) :
    tD X W fa σ H (fun v H1 => tD X W fb σ H1 fun u H2 => Q2 v u H2) := by
  refine ⟨F0, H0, F, Γ, r, PostG.bind p (fun x v F1 H1 _ x1 r1 p1 => ?_) fun x => up x⟩
  refine ⟨F0, H0, F1, Γ, r.step x1, PostG.bind p1 (fun y u F2 H2 _ x2 r2 p2 => ?_) fun x => up x⟩
  exact k x y v u F2 H2 (x1.trans x2) (Rp.mono x2.ff _ _ r1) r2 p2
theorem de_op {op : Operator} {r : R2} {g : D → D → R D} (ho : OpR X (binaryOp op) r) (hs : Sat2 X r g) (ha : DE X W a fa) (hb : DE X W b fb) : DE X W (.BinOp a op b pos) (eOp g fa fb) := by
  refine PE.weak (pe_op ho ha hb) ?_
  rintro σ H Q ⟨F0, H0, F, Γ, rl, p⟩
  exact bind2 (fun _ _ _ _ _ h => h) rl p fun x y v u F2 H2 x2 r1 r2 p2 => hs F2 H2 x y v u _ _ x2.fh r1 r2 p2
theorem upO {K : PySem.W.Frag} {mg : Str → Option Value} {F H F' H' : Hp} (x : Ext F H F' H') (a' : List D) (b' : V) (F2 H2 : Hp) (h : repO K mg H' F2 H2 a' b') : repO K mg H F2 H2 a' b' := by
  obtain ⟨l, vs, e, eh, ef, e0, r⟩ := h
  exact ⟨l, vs, e, eh, ef, x.hh.free e0, r⟩
theorem do_op {op : Operator} {r : R2} {g : D → D → R (List D)} (ho : OpR X (binaryOp op) r) (hs : Sat2O X r g) (ha : DE X W a fa) (hb : DE X W b fb) : DO X W (.BinOp a op b pos) (oOp g fa fb) := by
  refine PE.weak (pe_op ho ha hb) ?_
  rintro σ H Q ⟨F0, H0, F, Γ, rl, p⟩
  exact bind2 upO rl p fun x y v u F2 H2 x2 r1 r2 p2 => hs F2 H2 x y v u _ _ x2.fh r1 r2 p2
theorem de_un {op : UnaryOp} {r : V → Hp → VK → Prop} {g : D → R D} (ho : UnR X (unaryOp op) r) (hs : Sat1 X r g) (ha : DE X W a fa) : DE X W (.UnaryOp op a pos) (eUn g fa) := by
  refine PE.weak (pe_un ho ha) ?_
  rintro σ H Q ⟨F0, H0, F, Γ, rl, p⟩
  exact ⟨F0, H0, F, Γ, rl, PostG.bind p (fun x v F1 H1 _ x1 r1 p1 => hs F1 H1 x v _ _ x1.fh r1 p1) fun _ _ _ _ _ h => h⟩
theorem de_cmp {op : CmpOp} {r : R2} {g : D → D → R D} (ho : OpR X (compareOp op) r) (hs : Sat2 X r g) (ha : DE X W a fa) (hb : DE X W b fb) (hm : behindInMarks op b = false) : DE X W (.Compare a [op] [b] pos) (eOp g fa fb) := by
  refine PE.weak (pe_cmpR ho ha hb hm) ?_
  rintro σ H Q ⟨F0, H0, F, Γ, rl, p⟩
  exact bind2 (fun _ _ _ _ _ h => h) rl p fun x y v u F2 H2 x2 r1 r2 p2 => hs F2 H2 x y v u _ _ x2.fh r1 r2 p2
theorem postB {K : PySem.W.Frag} {mg : Str → Option Value} {F H : Hp} {E : XK} {Q : Bool → Hp → Prop} {r : R D} (h : PostG K mg repB F H E Q (r.bind asB)) : PostG K mg (repV K mg) F H E (fun x H' => ∃ k, x = .bl k ∧ Q k H') r := by
  refine PostG.bind h (fun d v F1 H1 _ x1 r1 p1 => ?_) fun _ _ _ _ _ h => h
  cases d with
  | bl k =>
    refine ⟨k, ?_, PostG.ok p1 x1.fh rfl⟩
    have z : Rp K mg F1 (.bl k) v := r1
    unfold Rp at z
    exact z
  | _ => exact p1.elim
theorem dt_cmp {op : CmpOp} {r : R2} {g : D → D → R D} (ho : OpR X (compareOp op) r) (hs : Sat2 X r g) (ha : DE X W a fa) (hb : DE X W b fb) (hm : behindInMarks op b = false) : DT X W (.Compare a [op] [b] pos) (eB (eOp g fa fb)) := by
  refine PT.weak (pt_cmpR ho ha hb hm) ?_
  rintro σ H Q ⟨F0, H0, F, Γ, rl, p⟩
  have p' := postB p
  exact bind2 (fun _ _ _ _ _ h => h) rl p' fun x y v u F2 H2 x2 r1 r2 p2 => hs F2 H2 x y v u _ _ x2.fh r1 r2 p2
theorem dt_chain {op op' : CmpOp} {r r' : R2} {g g' : D → D → R D} (ho : OpR X (compareOp op) r) (hs : Sat2 X r g) (ho' : OpR X (compareOp op') r') (hs' : Sat2 X r' g') (ha : DE X W a fa) (hb : DE X W b fb) (hc : DE X W c fc)
    (hm : lastMarks [op, op'] [b, c] = false := by with_unfolding_all rfl) : DT X W (.Compare a [op, op'] [b, c] pos) (eB (eChain g g' fa fb fc)) := by
  refine PT.weak (pt_chain ho ho' ha hb hc hm) ?_
  rintro σ H Q ⟨F0, H0, F, Γ, rl, p⟩
  have p' := postB p
  refine bind2 (fun _ _ _ _ _ h => h) rl p' fun x y v u F2 H2 x2 r1 r2 p2 => hs F2 H2 x y v u (WE W σ) _ x2.fh r1 r2 (PostG.bind p2 (fun d z F3 H3 _ x3 r3 p3 => ?_) fun _ _ _ _ _ h => h)
  cases d with
  | bl k =>
    have ez : Rp X.K X.mg F3 (.bl k) z := r3
    unfold Rp at ez
    refine ⟨k, ez, ?_⟩
    cases k with
    | false => exact iteF (PostG.ok p3 x3.fh (by show Rp _ _ _ _ _; unfold Rp; rfl))
    | true =>
      refine iteT ⟨F0, H0, F3, Γ, (rl.step x2).step x3, PostG.bind p3 (fun w' t F4 H4 _ x4 r4 p4 => ?_) fun _ _ _ _ _ h => h⟩
      exact hs' F4 H4 y w' u t _ _ x4.fh (Rp.mono (x3.ff.trans x4.ff) _ _ r2) r4 p4
  | _ => exact p3.elim
theorem postTru {K : PySem.W.Frag} {mg : Str → Option Value} {F H : Hp} {E : XK} {Q : Bool → Hp → Prop} {r : R D} (h : PostG K mg repB F H E Q (r.bind dTru)) : PostG K mg (repV K mg) F H E (fun x H' => ∃ k, TruV K x H' k ∧ Q k H') r := by
  refine PostG.bind h (fun d v F1 H1 _ x1 r1 p1 => ?_) fun _ _ _ _ _ h => h
  have z : Rp K mg F1 d v := r1
  cases d with
  | bl k => unfold Rp at z; subst z; exact ⟨k, rfl, PostG.ok p1 x1.fh rfl⟩
  | non => unfold Rp at z; subst z; exact ⟨false, rfl, PostG.ok p1 x1.fh rfl⟩
  | int i => unfold Rp at z; subst z; exact ⟨_, rfl, PostG.ok p1 x1.fh rfl⟩
  | str x =>
    unfold Rp at z; subst z
    by_cases hl : x.length ≤ LIM
    · have p1' : PostG K mg repB F1 H1 E Q (if x.length ≤ LIM then R.ok ((x.length : Int) != 0) else R.stuck) := p1
      rw [if_pos hl] at p1'
      exact ⟨_, ⟨by rw [LIM_eq]; exact hl, rfl⟩, PostG.ok p1' x1.fh rfl⟩
    · have p1' : PostG K mg repB F1 H1 E Q (if x.length ≤ LIM then R.ok ((x.length : Int) != 0) else R.stuck) := p1
      rw [if_neg hl] at p1'
      exact p1'.elim
  | lst xs =>
    unfold Rp at z
    obtain ⟨l, vs, rfl, el, rv⟩ := z
    refine ⟨!vs.isEmpty, .inl ⟨vs, SqL.of (x1.fh.lst el), rfl⟩, ?_⟩
    have ee : (!vs.isEmpty) = !xs.isEmpty := by
      have hl := rv.length
      cases xs <;> cases vs <;> first | rfl | (simp at hl)
    rw [ee]
    exact PostG.ok p1 x1.fh rfl
  | tup xs =>
    unfold Rp at z
    obtain ⟨l, vs, rfl, el, rv⟩ := z
    refine ⟨!vs.isEmpty, .inr (.inl ⟨vs, el.sq x1.fh, rfl⟩), ?_⟩
    have ee : (!vs.isEmpty) = !xs.isEmpty := by
      have hl := rv.length
      cases xs <;> cases vs <;> first | rfl | (simp at hl)
    rw [ee]
    exact PostG.ok p1 x1.fh rfl
  | scr xs =>
    unfold Rp at z
    obtain ⟨l, rfl, el⟩ := z
    refine ⟨!(xs.map V.int).isEmpty, .inl ⟨_, x1.fh.seq el, rfl⟩, ?_⟩
    have ee : (!(xs.map V.int).isEmpty) = !xs.isEmpty := by cases xs <;> rfl
    rw [ee]
    exact PostG.ok p1 x1.fh rfl
  | _ => exact p1.elim
theorem dt_tru (h : DE X W a fa) (he : ∀ whole, isTrue a X.env whole = (do let v ← whole; standAt a.pos; holding [v] (truthy v)) := by intro _; rfl) : DT X W a (eTru fa) := by
  refine PT.weak (pt_truth h he) ?_
  rintro σ H Q ⟨F0, H0, F, Γ, rl, p⟩
  exact ⟨F0, H0, F, Γ, rl, postTru p⟩
theorem dt_not (h : DT X W a ft) : DT X W (.UnaryOp .Not a pos) (bNot ft) := by
  refine PT.weak (pt_not h) ?_
  rintro σ H Q ⟨F0, H0, F, Γ, rl, p⟩
  refine ⟨F0, H0, F, Γ, rl, PostG.bind p (fun k k' F1 H1 _ x1 r1 p1 => ?_) fun _ _ _ _ _ h => h⟩
  have e : k' = k := r1
  subst e
  exact PostG.ok p1 x1.fh rfl
theorem dw_and1 (h : DT X W a ft) : DW X W (.BoolOp .And [a] pos) ft := pw_and1 h
theorem dw_or1 (h : DT X W a ft) : DW X W (.BoolOp .Or [a] pos) ft := pw_or1 h
theorem dw_and {rest : List Expr} (h : DT X W a ft) (h' : DW X W (.BoolOp .And (b :: rest) pos) fu) : DW X W (.BoolOp .And (a :: b :: rest) pos) (bAnd ft fu) := by
  refine PW.weak (pw_and h h') ?_
  rintro σ H Q ⟨F0, H0, F, Γ, rl, p⟩
  refine ⟨F0, H0, F, Γ, rl, PostG.bind p (fun k k' F1 H1 _ x1 r1 p1 => ?_) fun _ _ _ _ _ h => h⟩
  have e : k' = k := r1
  subst e
  cases k' with
  | true => exact iteT ⟨F0, H0, F1, Γ, rl.step x1, p1⟩
  | false => exact iteF (PostG.ok p1 x1.fh rfl)
theorem dw_or {rest : List Expr} (h : DT X W a ft) (h' : DW X W (.BoolOp .Or (b :: rest) pos) fu) : DW X W (.BoolOp .Or (a :: b :: rest) pos) (bOr ft fu) := by
  refine PW.weak (pw_or h h') ?_
  rintro σ H Q ⟨F0, H0, F, Γ, rl, p⟩
  refine ⟨F0, H0, F, Γ, rl, PostG.bind p (fun k k' F1 H1 _ x1 r1 p1 => ?_) fun _ _ _ _ _ h => h⟩
  have e : k' = k := r1
  subst e
  cases k' with
  | true => exact iteT (PostG.ok p1 x1.fh rfl)
  | false => exact iteF ⟨F0, H0, F1, Γ, rl.step x1, p1⟩
theorem dt_w (h : DW X W a ft) : DT X W a ft := PW.pt h
theorem de_one {op} (h : DE X W a fa) : DE X W (.BoolOp op [a] pos) fa := pe_one h
theorem bindB {K : PySem.W.Frag} {mg : Str → Option Value} {F H : Hp} {E : XK} {Q Q' : VK} {r : R D} {k : Bool → R D} (h : PostG K mg (repV K mg) F H E Q (r.bind fun x => (asB x).bind k))
    (hk : ∀ c F' H', Ext F H F' H' → PostG K mg (repV K mg) F' H' E Q (k c) → Q' (.bl c) H') : PostG K mg (repV K mg) F H E Q' r := by
  refine PostG.bind h (fun d v F1 H1 _ x1 r1 p1 => ?_) fun _ _ _ _ _ h => h
  cases d with
  | bl c =>
    have z : Rp K mg F1 (.bl c) v := r1
    unfold Rp at z
    subst z
    exact hk c F1 H1 x1 p1
  | _ => exact p1.elim
theorem de_and {rest : List Expr} (h : DE X W a fa) (h' : DE X W (.BoolOp .And (b :: rest) pos) fb) : DE X W (.BoolOp .And (a :: b :: rest) pos) (eAnd fa fb) := by
  refine PE.weak (pe_and h h') ?_
  rintro σ H Q ⟨F0, H0, F, Γ, rl, p⟩
  refine ⟨F0, H0, F, Γ, rl, bindB p fun k F1 H1 x1 p1 => ⟨k, rfl, ?_⟩⟩
  cases k with
  | true => exact iteT ⟨F0, H0, F1, Γ, rl.step x1, p1⟩
  | false => exact iteF (PostG.ok p1 x1.fh (by show Rp _ _ _ _ _; unfold Rp; rfl))
theorem de_not (h : DE X W a fa) : DE X W (.UnaryOp .Not a pos) (eNot fa) := by
  refine PE.weak (pe_not h) ?_
  rintro σ H Q ⟨F0, H0, F, Γ, rl, p⟩
  exact ⟨F0, H0, F, Γ, rl, bindB p fun k F1 H1 x1 p1 => ⟨k, rfl, PostG.ok p1 x1.fh (by show Rp _ _ _ _ _; unfold Rp; rfl)⟩⟩
theorem da_nil : DA X W [] aNil := by
  refine PA.weak pa_nil ?_
  rintro σ H Q ⟨F0, H0, F, Γ, rl, p⟩
  exact PostG.ok p rl.fz RpL.nil
theorem da_cons (h : DE X W a fa) (h' : DA X W es fs) (hs : starEach (a :: es) X.env = (false, eval a X.env) :: starEach es X.env := by rfl) : DA X W (a :: es) (aCons fa fs) := by
  refine PA.weak (pa_cons h h' hs) ?_
  rintro σ H Q ⟨F0, H0, F, Γ, rl, p⟩
  refine ⟨F0, H0, F, Γ, rl, PostG.bind p (fun d v F1 H1 _ x1 r1 p1 => ?_) fun _ _ _ _ _ h => h⟩
  refine ⟨F0, H0, F1, Γ, rl.step x1, PostG.bind p1 (fun ds vs F2 H2 _ x2 r2 p2 => ?_) fun _ _ _ _ _ h => h⟩
  exact PostG.ok p2 x2.fh (RpL.cons (Rp.mono x2.ff _ _ r1) r2)
theorem ifR {α : Type} {c : Prop} [Decidable c] {K : PySem.W.Frag} {mg : Str → Option Value} {β : Type} {rep : Hp → Hp → Hp → α → β → Prop} {F H : Hp} {E : XK} {Q : β → Hp → Prop} {r : R α}
    (h : PostG K mg rep F H E Q (if c then r else .stuck)) : c ∧ PostG K mg rep F H E Q r := by
  by_cases hc : c
  · rw [if_pos hc] at h
    exact ⟨hc, h⟩
  · rw [if_neg hc] at h
    exact h.elim
theorem de_tup {k} (h : DA X W es fs) : DE X W (.Tuple es k pos) (eTup fs) := by
  refine PE.weak (pe_tup h) ?_
  rintro σ H Q ⟨F0, H0, F, Γ, rl, p⟩
  refine ⟨F0, H0, F, Γ, rl, PostG.bind p (fun ds vs F1 H1 _ x1 r1 p1 => ?_) fun _ _ _ _ _ h => h⟩
  obtain ⟨hl, p2⟩ := ifR p1
  refine ⟨by rw [LIM_eq, ← RpL.length r1]; exact hl, fun q hq => PostG.at p2 (Ext.laid x1.fh hq) ?_⟩
  show Rp _ _ _ (.tup ds) _
  unfold Rp
  exact ⟨q, vs, rfl, .inl upd_same, RpL.mono (Ext.laid (o := .tup vs) x1.fh hq).ff _ _ r1⟩
theorem do_lst (h : DA X W es fs) : DO X W (.List es pos) (oLst fs) := by
  refine PE.weak (pe_lst h) ?_
  rintro σ H Q ⟨F0, H0, F, Γ, rl, p⟩
  refine ⟨F0, H0, F, Γ, rl, PostG.bind p (fun ds vs F1 H1 _ x1 r1 p1 => ?_) upO⟩
  obtain ⟨hl, p2⟩ := ifR p1
  exact ⟨by rw [LIM_eq, ← RpL.length r1]; exact hl, fun q hq => PostG.at p2 (Ext.heap x1.fh hq) ⟨q, vs, rfl, upd_same, x1.fh.free hq, hq, r1⟩⟩
theorem frzO {K : PySem.W.Frag} {mg : Str → Option Value} {F H F' H' : Hp} {ds : List D} {v : V} (x : Ext F H F' H') (h : OwnL K mg H F' H' ds v) : ∃ F2, Ext F H F2 H' ∧ Rp K mg F2 (.lst ds) v ∧ Same F' F2 := by
  obtain ⟨l, vs, e, eh, ef, e0, r⟩ := h
  have ss : Same F' (upd F' l (.lst vs)) := fun a u q => by rw [upd_ne (fun z => by rw [z, ef] at q; cases q)]; exact q
  refine ⟨upd F' l (.lst vs), ⟨x.ff.trans ss, fun a u q => ?_, x.hh, fun a u q => ?_⟩, ?_, ss⟩
  · by_cases z : a = l
    · subst z
      rw [upd_same] at q
      cases q
      exact .inl eh
    · rw [upd_ne z] at q
      exact x.fh a u q
  · by_cases z : a = l
    · subst z
      exact .inr e0
    · rw [upd_ne z] at q
      exact x.new a u q
  · unfold Rp
    exact ⟨l, vs, e, upd_same, RpL.mono ss _ _ r⟩
theorem de_frz (h : DO X W a fs) : DE X W a (eFrz fs) := by
  refine PE.weak h ?_
  rintro σ H Q ⟨F0, H0, F, Γ, rl, p⟩
  refine ⟨F0, H0, F, Γ, rl, ?_⟩
  revert p
  unfold eFrz
  cases fs Γ with
  | ok ds =>
    intro p v F1 H1 x1 r1
    obtain ⟨F2, x2, r2, _⟩ := frzO x1 r1
    exact PostG.at p x2 r2
  | exc x => exact fun p => p
  | stuck => exact fun p => p
theorem de_ix {r : R2} {g : D → D → R D} (hr : IxR X r) (hs : Sat2 X r g) (ha : DE X W a fa) (hb : DE X W b fb) (hx : PlainIx b) : DE X W (.Subscript a b pos) (eOp g fa fb) := by
  refine PE.weak (pe_ix hr ha hb hx) ?_
  rintro σ H Q ⟨F0, H0, F, Γ, rl, p⟩
  exact bind2 (fun _ _ _ _ _ h => h) rl p fun x y v u F2 H2 x2 r1 r2 p2 => hs F2 H2 x y v u _ _ x2.fh r1 r2 p2
theorem de_callB {x : Str} {id : String} {r : List V → Hp → VK → Prop} {g : List D → R D} (hc : CallR X (.builtin id) r) (hs : SatL X r g) (hg : Gl X x) (hm : X.mg x = none) (hv : bootBuiltins x = some (.builtin id)) (ha : DA X W (a :: es) fs)
    (hn : x ≠ "__name__" := by decide +kernel) (hdb : (x == ("__debug__" : Str)) = false := by kernel_rfl)
    (he : starEach (a :: es) X.env = (false, eval a X.env) :: starEach es X.env := by rfl) (hpl : (backTo pos (starEach es X.env)).any (·.1) = false := by rfl) : DE X W (.Call (.Name x p) (a :: es) [] pos) (eCall g fs) := by
  refine PE.weak (pe_callB hc hg hm hv ha hn hdb he hpl) ?_
  rintro σ H Q ⟨F0, H0, F, Γ, rl, p⟩
  exact ⟨F0, H0, F, Γ, rl, PostG.bind p (fun ds vs F1 H1 _ x1 r1 p1 => hs F1 H1 ds vs _ _ x1.fh r1 p1) fun _ _ _ _ _ h => h⟩
theorem do_callTy {x : Str} {T : String} {r : List V → Hp → VK → Prop} {g : List D → R (List D)} (hc : CallR X (.type T) r) (hs : SatLO X r g) (hg : Gl X x) (hm : X.mg x = none) (hv : bootBuiltins x = some (.type T)) (ha : DA X W (a :: es) fs)
    (hn : x ≠ "__name__" := by decide +kernel) (hdb : (x == ("__debug__" : Str)) = false := by kernel_rfl)
    (he : starEach (a :: es) X.env = (false, eval a X.env) :: starEach es X.env := by rfl) (hpl : (backTo pos (starEach es X.env)).any (·.1) = false := by rfl) : DO X W (.Call (.Name x p) (a :: es) [] pos) (oCall g fs) := by
  refine PE.weak (pe_callTy hc hg hm hv ha hn hdb he hpl) ?_
  rintro σ H Q ⟨F0, H0, F, Γ, rl, p⟩
  exact ⟨F0, H0, F, Γ, rl, PostG.bind p (fun ds vs F1 H1 _ x1 r1 p1 => hs F1 H1 ds vs _ _ x1.fh r1 p1) upO⟩
end
end DL
namespace DL
open PySem PySem.Spec L2
section
variable {K : PySem.W.Frag} {mg : Str → Option Value} {F H : Hp} {v : V}
theorem Rp.int_iff {i : Int} (h : Rp K mg F (.int i) v) : v = .int i := by unfold Rp at h; exact h
theorem Rp.bl_iff {i : Bool} (h : Rp K mg F (.bl i) v) : v = .bl i := by unfold Rp at h; exact h
theorem Rp.str_iff {i : Str} (h : Rp K mg F (.str i) v) : v = .str i := by unfold Rp at h; exact h
theorem Rp.non_iff (h : Rp K mg F .non v) : v = .non := by unfold Rp at h; exact h
theorem Rp.ty_iff {n : String} (h : Rp K mg F (.ty n) v) : v = .ty n := by unfold Rp at h; exact h
theorem Rp.lst_iff {ds : List D} (h : Rp K mg F (.lst ds) v) : ∃ a vs, v = .ref a ∧ F a = some (.lst vs) ∧ RpL K mg F ds vs := by unfold Rp at h; exact h
theorem Rp.tup_iff {ds : List D} (h : Rp K mg F (.tup ds) v) : ∃ a vs, v = .ref a ∧ TpAt K F a vs ∧ RpL K mg F ds vs := by unfold Rp at h; exact h
theorem Rp.scr_iff {ns : List Int} (h : Rp K mg F (.scr ns) v) : ∃ a, v = .ref a ∧ SqL K F a (ns.map V.int) := by unfold Rp at h; exact h
theorem Rp.dk_iff {ks : List Key} {ds : List D} (h : Rp K mg F (.dk ks ds) v) : ∃ a vs, v = .ref a ∧ F a = some (.dK (ks.zip vs)) ∧ ks.length = vs.length ∧ RpL K mg F ds vs := by unfold Rp at h; exact h
theorem Rp.obj_iff {c : Str} {ns : List Str} {ds : List D} (h : Rp K mg F (.obj c ns ds) v) : ∃ a C dx vs, v = .ref a ∧ mg c = some (.ref C) ∧ F a = some (.ins C dx (ns.zip vs)) ∧ ns.length = vs.length ∧ RpL K mg F ds vs := by unfold Rp at h; exact h
theorem Rp.int {i : Int} : Rp K mg F (.int i) (.int i) := by unfold Rp; rfl
theorem Rp.bl {i : Bool} : Rp K mg F (.bl i) (.bl i) := by unfold Rp; rfl
theorem Rp.str {i : Str} : Rp K mg F (.str i) (.str i) := by unfold Rp; rfl
theorem Rp.non : Rp K mg F .non .non := by unfold Rp; rfl
theorem Rp.lst {ds : List D} {a : Addr} {vs : List V} (h : F a = some (.lst vs)) (r : RpL K mg F ds vs) : Rp K mg F (.lst ds) (.ref a) := by unfold Rp; exact ⟨a, vs, rfl, h, r⟩
theorem Rp.tup {ds : List D} {a : Addr} {vs : List V} (h : F a = some (.tup vs)) (r : RpL K mg F ds vs) : Rp K mg F (.tup ds) (.ref a) := by unfold Rp; exact ⟨a, vs, rfl, .inl h, r⟩
theorem Rp.lstH (z : Fz F H) {ds : List D} (h : Rp K mg F (.lst ds) v) : ∃ a vs, v = .ref a ∧ H a = some (.lst vs) ∧ RpL K mg F ds vs := by
  obtain ⟨a, vs, e, ea, r⟩ := h.lst_iff
  exact ⟨a, vs, e, z.lst ea, r⟩
theorem Rp.tupH (z : Fz F H) {ds : List D} (h : Rp K mg F (.tup ds) v) : ∃ a vs, v = .ref a ∧ SqT K H a vs ∧ RpL K mg F ds vs := by
  obtain ⟨a, vs, e, ea, r⟩ := h.tup_iff
  exact ⟨a, vs, e, ea.sq z, r⟩
end
section
variable {K : PySem.W.Frag} {mg : Str → Option Value} {F H : Hp}
theorem dp_scr : ∀ ns : List Int, DpAll K H (ns.map V.int) (ns.map PyData.int)
  | [] => .nil
  | n :: ns => .cons (.int n) (dp_scr ns)
mutual
theorem dp_of (z : Fz F H) : ∀ (n : Nat) (d : D) (v : V), d.sh n = true → Rp K mg F d v → Dp K H v d.pd
  | _, .non, v, _, h => by rw [h.non_iff]; exact .non
  | _, .bl b, v, _, h => by rw [h.bl_iff]; exact .bl b
  | _, .int i, v, _, h => by rw [h.int_iff]; exact .int i
  | _, .str x, v, _, h => by rw [h.str_iff]; exact .str x
  | n + 1, .lst ds, v, s, h => by
    obtain ⟨a, vs, e, ea, r⟩ := h.lstH z
    rw [e]
    exact .lst (SqL.of ea) (dp_all z n ds vs (by simpa [D.sh] using s) r)
  | n + 1, .tup ds, v, s, h => by
    obtain ⟨a, vs, e, ea, r⟩ := h.tupH z
    rw [e]
    exact .tup ea (dp_all z n ds vs (by simpa [D.sh] using s) r)
  | n + 1, .scr ns, v, s, h => by
    obtain ⟨a, e, ea⟩ := h.scr_iff
    rw [e]
    exact .lst (z.seq ea) (dp_scr ns)
  | 0, .lst _, _, s, _ => by simp [D.sh] at s
  | 0, .tup _, _, s, _ => by simp [D.sh] at s
  | 0, .scr _, _, s, _ => by simp [D.sh] at s
  | 0, .dk _ _, _, s, _ => by simp [D.sh] at s
  | 0, .obj _ _ _, _, s, _ => by simp [D.sh] at s
  | 0, .exc _ _ _, _, s, _ => by simp [D.sh] at s
  | 0, .cls _, _, s, _ => by simp [D.sh] at s
  | 0, .ty _, _, s, _ => by simp [D.sh] at s
  | _ + 1, .dk _ _, _, s, _ => by simp [D.sh] at s
  | _ + 1, .obj _ _ _, _, s, _ => by simp [D.sh] at s
  | _ + 1, .exc _ _ _, _, s, _ => by simp [D.sh] at s
  | _ + 1, .cls _, _, s, _ => by simp [D.sh] at s
  | _ + 1, .ty _, _, s, _ => by simp [D.sh] at s
theorem dp_all (z : Fz F H) : ∀ (n : Nat) (ds : List D) (vs : List V), (∀ d ∈ ds, d.sh n = true) → RpL K mg F ds vs → DpAll K H vs (D.pdL ds)
  | _, [], vs, _, h => by rw [h.nil_iff]; exact .nil
  | n, d :: ds, vs, s, h => by
    obtain ⟨v, us, e, r, rr⟩ := h.cons_iff
    rw [e]
    exact .cons (dp_of z n d v (s d List.mem_cons_self) r) (dp_all z n ds us (fun x hx => s x (List.mem_cons_of_mem _ hx)) rr)
end
mutual
theorem sh_ok : ∀ (n : Nat) (d : D), d.sh n = true → d.pd.canLay0 = true ∧ d.pd.depth ≤ n
  | _, .non, _ => ⟨rfl, Nat.zero_le _⟩
  | _, .bl b, _ => ⟨rfl, Nat.zero_le _⟩
  | _, .int i, _ => ⟨rfl, Nat.zero_le _⟩
  | _, .str x, s => ⟨by show (PyData.str x).canLay0 = true; simpa [D.sh] using s, Nat.zero_le _⟩
  | n + 1, .lst ds, s => by
    obtain ⟨h1, h2⟩ := sh_all n ds (by simpa [D.sh] using s)
    exact ⟨by simpa [D.pd, PyData.canLay0] using h1, by simpa [D.pd, PyData.depth] using h2⟩
  | n + 1, .tup ds, s => by
    obtain ⟨h1, h2⟩ := sh_all n ds (by simpa [D.sh] using s)
    exact ⟨by simpa [D.pd, PyData.canLay0] using h1, by simpa [D.pd, PyData.depth] using h2⟩
  | n + 1, .scr ns, s => by
    obtain ⟨h1, h2⟩ := sh_scr n ns
    exact ⟨by simpa [D.pd, PyData.canLay0] using h1, by simpa [D.pd, PyData.depth] using h2⟩
  | 0, .lst _, s => by simp [D.sh] at s
  | 0, .tup _, s => by simp [D.sh] at s
  | 0, .scr _, s => by simp [D.sh] at s
  | 0, .dk _ _, s => by simp [D.sh] at s
  | 0, .obj _ _ _, s => by simp [D.sh] at s
  | 0, .exc _ _ _, s => by simp [D.sh] at s
  | 0, .cls _, s => by simp [D.sh] at s
  | 0, .ty _, s => by simp [D.sh] at s
  | _ + 1, .dk _ _, s => by simp [D.sh] at s
  | _ + 1, .obj _ _ _, s => by simp [D.sh] at s
  | _ + 1, .exc _ _ _, s => by simp [D.sh] at s
  | _ + 1, .cls _, s => by simp [D.sh] at s
  | _ + 1, .ty _, s => by simp [D.sh] at s
theorem sh_all : ∀ (n : Nat) (ds : List D), (∀ d ∈ ds, d.sh n = true) → PyData.canLayAll0 (D.pdL ds) = true ∧ PyData.depthAll (D.pdL ds) ≤ n
  | _, [], _ => ⟨rfl, Nat.zero_le _⟩
  | n, d :: ds, s => by
    obtain ⟨h1, h2⟩ := sh_ok n d (s d List.mem_cons_self)
    obtain ⟨h3, h4⟩ := sh_all n ds fun x hx => s x (List.mem_cons_of_mem _ hx)
    refine ⟨by simp [D.pdL, PyData.canLayAll0, h1, h3], ?_⟩
    simp only [D.pdL, PyData.depthAll]
    omega
theorem sh_scr : ∀ (n : Nat) (ns : List Int), PyData.canLayAll0 (ns.map PyData.int) = true ∧ PyData.depthAll (ns.map PyData.int) ≤ n
  | _, [] => ⟨rfl, Nat.zero_le _⟩
  | n, i :: ns => by
    obtain ⟨h3, h4⟩ := sh_scr n ns
    refine ⟨by simp [PyData.canLayAll0, PyData.canLay0, h3], ?_⟩
    simp only [List.map_cons, PyData.depthAll, PyData.depth]
    omega
end
theorem shaped_of {d : D} (h : d.sh 60 = true) : SeqAt.shaped d.pd = true := by
  obtain ⟨h1, h2⟩ := sh_ok 60 d h
  show (d.pd.canLay0 && decide (d.pd.depth ≤ 64)) = true
  rw [h1, decide_eq_true (by omega)]
  rfl
end
section
variable {X : Cx}
theorem opEq (hu : X.A.units + 64 < cLine) : OpR X (compareOp .Eq) (fun x y H Q => rEq x y H Q ∨ rEqD X.K x y H Q) := op_eq.or (op_eqD hu)
theorem opNe (hu : X.A.units + 64 < cLine) : OpR X (compareOp .NotEq) (fun x y H Q => rNe x y H Q ∨ rNeD X.K x y H Q) := op_ne.or (op_neD hu)
theorem andB {a b : Bool} (h : (a && b) = true) : a = true ∧ b = true := Bool.and_eq_true_iff.mp h
theorem eqCore {F H : Hp} {x y : D} {v u : V} (z : Fz F H) (rx : Rp X.K X.mg F x v) (ry : Rp X.K X.mg F y u) {k : Bool} (h : dEqV x y = .ok k) :
    (scal v u = true ∧ decide (v = u) = k) ∨ (∃ d e, Dp X.K H v d ∧ Dp X.K H u e ∧ SeqAt.shaped d = true ∧ SeqAt.shaped e = true ∧ PyData.eqv d e = k) := by
  have dat : (if x.sh 60 && y.sh 60 then R.ok (dEqB x y) else R.stuck) = .ok k → (∃ d e, Dp X.K H v d ∧ Dp X.K H u e ∧ SeqAt.shaped d = true ∧ SeqAt.shaped e = true ∧ PyData.eqv d e = k) := fun h => by
    by_cases c : (x.sh 60 && y.sh 60) = true
    · rw [if_pos c] at h
      obtain ⟨c1, c2⟩ := andB c
      injection h with h
      exact ⟨x.pd, y.pd, dp_of z 60 x v c1 rx, dp_of z 60 y u c2 ry, shaped_of c1, shaped_of c2, h⟩
    · rw [if_neg c] at h
      cases h
  unfold dEqV at h
  split at h
  · rw [rx.int_iff, ry.int_iff]
    injection h with h
    refine .inl ⟨rfl, ?_⟩
    rw [← h]
    exact decide_eq_decide.mpr ⟨fun e => V.int.inj e, fun e => by rw [e]⟩
  · rw [rx.str_iff, ry.str_iff]
    injection h with h
    refine .inl ⟨rfl, ?_⟩
    rw [← h]
    exact decide_eq_decide.mpr ⟨fun e => V.str.inj e, fun e => by rw [e]⟩
  · exact .inr (dat h)
theorem sat_eq : Sat2 X (fun x y H Q => rEq x y H Q ∨ rEqD X.K x y H Q) dEq := by
  intro F H x y v u E Q z rx ry p
  unfold dEq at p
  cases e : dEqV x y with
  | ok k =>
    rw [e] at p
    have q : Q (.bl k) H := PostG.ok p z (Rp.bl)
    rcases eqCore z rx ry e with ⟨h1, h2⟩ | ⟨d, e, h1, h2, h3, h4, h5⟩
    · exact .inl ⟨h1, by rw [h2]; exact q⟩
    · exact .inr ⟨d, e, h1, h2, h3, h4, by rw [h5]; exact q⟩
  | exc x => unfold dEqV at e; split at e <;> first | cases e | (split at e <;> cases e)
  | stuck => rw [e] at p; exact p.elim
theorem sat_ne : Sat2 X (fun x y H Q => rNe x y H Q ∨ rNeD X.K x y H Q) dNe := by
  intro F H x y v u E Q z rx ry p
  unfold dNe at p
  cases e : dEqV x y with
  | ok k =>
    rw [e] at p
    have q : Q (.bl (!k)) H := PostG.ok p z (Rp.bl)
    rcases eqCore z rx ry e with ⟨h1, h2⟩ | ⟨d, e, h1, h2, h3, h4, h5⟩
    · exact .inl ⟨h1, by rw [h2]; exact q⟩
    · exact .inr ⟨d, e, h1, h2, h3, h4, by rw [h5]; exact q⟩
  | exc x => unfold dEqV at e; split at e <;> first | cases e | (split at e <;> cases e)
  | stuck => rw [e] at p; exact p.elim
theorem opMul : OpR X (binaryOp .Mult) (fun x y H Q => rI CMul (fun i j => .int (i * j)) x y H Q ∨ rI CMulW (fun i j => .int (i * j)) x y H Q) := op_mul.or op_mulW
theorem small_iff {i : Int} (h : smallI i = true) : -(2 ^ 64) < i ∧ i < 2 ^ 64 := by
  obtain ⟨h1, h2⟩ := andB h
  have h1 := of_decide_eq_true h1
  have h2 := of_decide_eq_true h2
  omega
theorem sat_mul : Sat2 X (fun x y H Q => rI CMul (fun i j => .int (i * j)) x y H Q ∨ rI CMulW (fun i j => .int (i * j)) x y H Q) dMul := by
  intro F H x y v u E Q z rx ry p
  cases x with
  | int i =>
    cases y with
    | int j =>
      rw [rx.int_iff, ry.int_iff]
      obtain ⟨c, p⟩ := ifR p
      have q : Q (.int (i * j)) H := PostG.ok p z Rp.int
      rcases Bool.or_eq_true_iff.mp c with c | c
      · exact .inl ⟨i, j, rfl, rfl, .inr (small_iff c), q⟩
      · rcases Bool.or_eq_true_iff.mp c with c | c
        · exact .inl ⟨i, j, rfl, rfl, .inl (small_iff c), q⟩
        · exact .inr ⟨i, j, rfl, rfl, (show i.natAbs.log2 + j.natAbs.log2 < 1000000 from of_decide_eq_true c), q⟩
    | _ => exact p.elim
  | _ => exact p.elim
theorem sat_sub : Sat2 X (rI0 fun i j => .int (i - j)) dSub := by
  intro F H x y v u E Q z rx ry p
  cases x with
  | int i =>
    cases y with
    | int j =>
      rw [rx.int_iff, ry.int_iff]
      exact ⟨i, j, rfl, rfl, PostG.ok p z Rp.int⟩
    | _ => exact p.elim
  | _ => exact p.elim
theorem sat_div : Sat2 X (rI CDivW fun i j => .int (i / j)) dDiv := by
  intro F H x y v u E Q z rx ry p
  cases x with
  | int i =>
    cases y with
    | int j =>
      rw [rx.int_iff, ry.int_iff]
      obtain ⟨c, p⟩ := ifR p
      obtain ⟨c1, c2⟩ := andB c
      exact ⟨i, j, rfl, rfl, ⟨of_decide_eq_true c1, of_decide_eq_true c2⟩, PostG.ok p z Rp.int⟩
    | _ => exact p.elim
  | _ => exact p.elim
theorem sat_mod : Sat2 X (rI (fun _ j => 0 < j) fun i j => .int (i % j)) dMod := by
  intro F H x y v u E Q z rx ry p
  cases x with
  | int i =>
    cases y with
    | int j =>
      rw [rx.int_iff, ry.int_iff]
      obtain ⟨c, p⟩ := ifR p
      exact ⟨i, j, rfl, rfl, c, PostG.ok p z Rp.int⟩
    | _ => exact p.elim
  | _ => exact p.elim
theorem sat_pow : Sat2 X (rI CPow fun i j => .int (i ^ j.toNat)) dPow := by
  intro F H x y v u E Q z rx ry p
  cases x with
  | int i =>
    cases y with
    | int j =>
      rw [rx.int_iff, ry.int_iff]
      obtain ⟨c, p⟩ := ifR p
      obtain ⟨c1, c2⟩ := andB c
      obtain ⟨c3, c4⟩ := andB c1
      have c5 := small_iff c2
      exact ⟨i, j, rfl, rfl, ⟨of_decide_eq_true c3, of_decide_eq_true c4, by omega⟩, PostG.ok p z Rp.int⟩
    | _ => exact p.elim
  | _ => exact p.elim
theorem sat_neg : Sat1 X (rU fun i => .int (-i)) dNeg := by
  intro F H x v E Q z rx p
  cases x with
  | int i =>
    rw [rx.int_iff]
    exact ⟨i, rfl, PostG.ok p z Rp.int⟩
  | _ => exact p.elim
theorem sat_lt : Sat2 X (rI0 fun i j => .bl (decide (i < j))) dLt := by
  intro F H x y v u E Q z rx ry p
  cases x with
  | int i =>
    cases y with
    | int j =>
      rw [rx.int_iff, ry.int_iff]
      exact ⟨i, j, rfl, rfl, PostG.ok p z Rp.bl⟩
    | _ => exact p.elim
  | _ => exact p.elim
theorem sat_le : Sat2 X (rI0 fun i j => .bl (decide (i ≤ j))) dLe := by
  intro F H x y v u E Q z rx ry p
  cases x with
  | int i =>
    cases y with
    | int j =>
      rw [rx.int_iff, ry.int_iff]
      exact ⟨i, j, rfl, rfl, PostG.ok p z Rp.bl⟩
    | _ => exact p.elim
  | _ => exact p.elim
theorem sat_gt : Sat2 X (rI0 fun i j => .bl (decide (j < i))) dGt := by
  intro F H x y v u E Q z rx ry p
  cases x with
  | int i =>
    cases y with
    | int j =>
      rw [rx.int_iff, ry.int_iff]
      exact ⟨i, j, rfl, rfl, PostG.ok p z Rp.bl⟩
    | _ => exact p.elim
  | _ => exact p.elim
theorem sat_ge : Sat2 X (rI0 fun i j => .bl (decide (j ≤ i))) dGe := by
  intro F H x y v u E Q z rx ry p
  cases x with
  | int i =>
    cases y with
    | int j =>
      rw [rx.int_iff, ry.int_iff]
      exact ⟨i, j, rfl, rfl, PostG.ok p z Rp.bl⟩
    | _ => exact p.elim
  | _ => exact p.elim
theorem isNon_iff {K : PySem.W.Frag} {mg : Str → Option Value} {F : Hp} {x : D} {v : V} (h : Rp K mg F x v) : decide (v = .non) = x.isNon := by
  cases x with
  | non => rw [h.non_iff]; rfl
  | bl b => rw [h.bl_iff]; rfl
  | int b => rw [h.int_iff]; rfl
  | str b => rw [h.str_iff]; rfl
  | lst b => obtain ⟨_, _, e, _⟩ := h.lst_iff; rw [e]; rfl
  | tup b => obtain ⟨_, _, e, _⟩ := h.tup_iff; rw [e]; rfl
  | scr b => obtain ⟨_, e, _⟩ := h.scr_iff; rw [e]; rfl
  | dk b c => obtain ⟨_, _, e, _⟩ := h.dk_iff; rw [e]; rfl
  | obj b c d => obtain ⟨_, _, _, _, e, _⟩ := h.obj_iff; rw [e]; rfl
  | exc b c d => unfold Rp at h; obtain ⟨_, _, _, e, _⟩ := h; rw [e]; rfl
  | cls c => unfold Rp at h; obtain ⟨_, e, _⟩ := h; rw [e]; rfl
  | ty c => rw [h.ty_iff]; rfl
theorem sat_is : Sat2 X (fun x y H Q => y = .non ∧ Q (.bl (decide (x = .non))) H) dIs := by
  intro F H x y v u E Q z rx ry p
  cases y with
  | non =>
    refine ⟨ry.non_iff, ?_⟩
    rw [isNon_iff rx]
    have p' : PostG X.K X.mg (repV X.K X.mg) F H E Q (.ok (.bl x.isNon)) := by cases x <;> exact p
    exact PostG.ok p' z Rp.bl
  | _ => exact (by cases x <;> exact p.elim)
theorem sat_isnot : Sat2 X (fun x y H Q => y = .non ∧ Q (.bl (!decide (x = .non))) H) dIsNot := by
  intro F H x y v u E Q z rx ry p
  cases y with
  | non =>
    refine ⟨ry.non_iff, ?_⟩
    rw [isNon_iff rx]
    have p' : PostG X.K X.mg (repV X.K X.mg) F H E Q (.ok (.bl (!x.isNon))) := by cases x <;> exact p
    exact PostG.ok p' z Rp.bl
  | _ => exact (by cases x <;> exact p.elim)
def rAddA (K : PySem.W.Frag) : R2 := fun x y H Q => ((rI0 fun i j => .int (i + j)) x y H Q ∨ (∃ i j, x = .str i ∧ y = .str j ∧ i.length + j.length ≤ sizeLine ∧ Q (.str (i ++ j)) H)) ∨ (rCatT K x y H Q ∨ rCat x y H Q)
theorem opAdd : OpR X (binaryOp .Add) (rAddA X.K) := (op_add.or op_add_str).or (op_catT.or op_cat)
theorem sat_add : Sat2 X (rAddA X.K) dAdd := by
  intro F H x y v u E Q z rx ry p
  cases x with
  | int i =>
    cases y with
    | int j =>
      rw [rx.int_iff, ry.int_iff]
      exact .inl (.inl ⟨i, j, rfl, rfl, PostG.ok p z Rp.int⟩)
    | _ => exact p.elim
  | str i =>
    cases y with
    | str j =>
      rw [rx.str_iff, ry.str_iff]
      obtain ⟨c, p⟩ := ifR p
      exact .inl (.inr ⟨i, j, rfl, rfl, by rw [LIM_eq]; exact c, PostG.ok p z Rp.str⟩)
    | _ => exact p.elim
  | tup xs =>
    cases xs with
    | nil => cases y <;> exact p.elim
    | cons d ds =>
      cases y with
      | tup ys =>
        obtain ⟨c, p⟩ := ifR p
        obtain ⟨a, vs, e1, e2, r1⟩ := rx.tupH z
        obtain ⟨b, us, e3, e4, r2⟩ := ry.tupH z
        rw [e1, e3]
        obtain ⟨w, ws, e5, _, _⟩ := r1.cons_iff
        have l1 := r1.length
        have l2 := r2.length
        refine .inr (.inl ⟨a, b, vs, us, rfl, rfl, e2, e4, by rw [e5]; exact List.cons_ne_nil _ _, by rw [LIM_eq, ← l1, ← l2]; exact c, ?_, ?_⟩)
        · intro en
          rw [en] at r2
          have : ys = [] := by
            cases ys with
            | nil => rfl
            | cons q qs => obtain ⟨_, _, e, _⟩ := r2.cons_iff; cases e
          subst this
          have p' : PostG X.K X.mg (repV X.K X.mg) F H E Q (.ok (.tup (d :: ds))) := by simpa using p
          exact PostG.ok p' z (by rw [← e1]; exact rx)
        · intro _ q hq
          refine PostG.at p (Ext.laid (o := .tup (vs ++ us)) z hq) (Rp.tup upd_same ?_)
          exact RpL.mono (Ext.laid (o := .tup (vs ++ us)) z hq).ff _ _ (RpL.append r1 r2)
      | _ => exact p.elim
  | lst xs =>
    cases y with
    | lst ys =>
      obtain ⟨c, p⟩ := ifR p
      obtain ⟨a, vs, e1, e2, r1⟩ := rx.lstH z
      obtain ⟨b, us, e3, e4, r2⟩ := ry.lstH z
      rw [e1, e3]
      refine .inr (.inr ⟨a, b, vs, us, rfl, rfl, e2, e4, by rw [LIM_eq, ← r1.length, ← r2.length]; exact c, fun q hq => ?_⟩)
      refine PostG.at p (Ext.laid (o := .lst (vs ++ us)) z hq) (Rp.lst upd_same ?_)
      exact RpL.mono (Ext.laid (o := .lst (vs ++ us)) z hq).ff _ _ (RpL.append r1 r2)
    | _ => exact p.elim
  | _ => exact p.elim
theorem satO_add : Sat2O X (rAddA X.K) oAdd := by
  intro F H x y v u E Q z rx ry p
  cases x with
  | lst xs =>
    cases y with
    | lst ys =>
      obtain ⟨c, p⟩ := ifR p
      obtain ⟨a, vs, e1, e2, r1⟩ := rx.lstH z
      obtain ⟨b, us, e3, e4, r2⟩ := ry.lstH z
      rw [e1, e3]
      refine .inr (.inr ⟨a, b, vs, us, rfl, rfl, e2, e4, by rw [LIM_eq, ← r1.length, ← r2.length]; exact c, fun q hq => ?_⟩)
      exact PostG.at p (Ext.heap z hq) ⟨q, _, rfl, upd_same, z.free hq, hq, RpL.append r1 r2⟩
    | _ => exact p.elim
  | _ => exact p.elim
theorem atI_rp {K : PySem.W.Frag} {mg : Str → Option Value} {F : Hp} {ds : List D} {vs : List V} {i : Int} {d : D} (r : RpL K mg F ds vs) (h : atI ds i = some d) : ∃ v, atI vs i = some v ∧ Rp K mg F d v := by
  unfold atI at h ⊢
  rw [← r.length]
  cases e : ixN ds.length i with
  | none => rw [e] at h; cases h
  | some j =>
    rw [e] at h
    exact r.get (show ds[j]? = some d from h)
theorem ixN_map {α β : Type} (f : α → β) (xs : List α) (i : Int) : atI (xs.map f) i = (atI xs i).map f := by
  unfold atI
  rw [List.length_map]
  cases ixN xs.length i with
  | none => rfl
  | some j => exact List.getElem?_map
theorem sat_ix : Sat2 X (rIx X.K) dIx := by
  intro F H x y v u E Q z rx ry p
  cases x with
  | lst ds =>
    cases y with
    | int i =>
      obtain ⟨a, vs, e1, e2, r1⟩ := rx.lstH z
      rw [e1, ry.int_iff]
      have p' : PostG X.K X.mg (repV X.K X.mg) F H E Q (match atI ds i with | some d => .ok d | none => .stuck) := p
      cases e : atI ds i with
      | none => rw [e] at p'; exact p'.elim
      | some d =>
        rw [e] at p'
        obtain ⟨w, h1, h2⟩ := atI_rp r1 e
        exact .inl ⟨a, vs, i, w, rfl, rfl, SqL.of e2, h1, PostG.ok p' z h2⟩
    | _ => exact p.elim
  | tup ds =>
    cases y with
    | int i =>
      obtain ⟨a, vs, e1, e2, r1⟩ := rx.tupH z
      rw [e1, ry.int_iff]
      have p' : PostG X.K X.mg (repV X.K X.mg) F H E Q (match atI ds i with | some d => .ok d | none => .stuck) := p
      cases e : atI ds i with
      | none => rw [e] at p'; exact p'.elim
      | some d =>
        rw [e] at p'
        obtain ⟨w, h1, h2⟩ := atI_rp r1 e
        exact .inr (.inl ⟨a, vs, i, w, rfl, rfl, e2, h1, PostG.ok p' z h2⟩)
    | _ => exact p.elim
  | scr ns =>
    cases y with
    | int i =>
      obtain ⟨a, e1, e2⟩ := rx.scr_iff
      rw [e1, ry.int_iff]
      have p' : PostG X.K X.mg (repV X.K X.mg) F H E Q (match atI ns i with | some d => .ok (.int d) | none => .stuck) := p
      cases e : atI ns i with
      | none => rw [e] at p'; exact p'.elim
      | some d =>
        rw [e] at p'
        exact .inl ⟨a, _, i, .int d, rfl, rfl, z.seq e2, by rw [ixN_map, e]; rfl, PostG.ok p' z Rp.int⟩
    | _ => exact p.elim
  | str s =>
    cases y with
    | int i =>
      rw [rx.str_iff, ry.int_iff]
      obtain ⟨c, p⟩ := ifR p
      have p' : PostG X.K X.mg (repV X.K X.mg) F H E Q (match atI s.cps.toList i with | some c => .ok (.str ⟨#[c]⟩) | none => .stuck) := p
      cases e : atI s.cps.toList i with
      | none => rw [e] at p'; exact p'.elim
      | some d =>
        rw [e] at p'
        exact .inr (.inr ⟨s, i, d, rfl, rfl, by rw [LIM_eq]; exact c, e, PostG.ok p' z Rp.str⟩)
    | _ => exact p.elim
  | _ => exact p.elim
theorem RpL.one {K : PySem.W.Frag} {mg : Str → Option Value} {F : Hp} {x : D} {vs : List V} (r : RpL K mg F [x] vs) : ∃ v, vs = [v] ∧ Rp K mg F x v := by
  obtain ⟨v, us, e, r1, rn⟩ := r.cons_iff
  have := rn.nil_iff
  subst this
  exact ⟨v, e, r1⟩
theorem RpL.two {K : PySem.W.Frag} {mg : Str → Option Value} {F : Hp} {x y : D} {vs : List V} (r : RpL K mg F [x, y] vs) : ∃ v u, vs = [v, u] ∧ Rp K mg F x v ∧ Rp K mg F y u := by
  obtain ⟨v, us, e, r1, rn⟩ := r.cons_iff
  obtain ⟨u, e', r2⟩ := rn.one
  subst e'
  exact ⟨v, u, e, r1, r2⟩
theorem sat_un1 {r : List V → Hp → VK → Prop} {g : D → R D} (h : ∀ (F H : Hp) (x : D) (v : V) (E : XK) (Q : VK), Fz F H → Rp X.K X.mg F x v → PostG X.K X.mg (repV X.K X.mg) F H E Q (g x) → r [v] H Q) : SatL X r (un1 g) := by
  intro F H ds vs E Q z r p
  cases ds with
  | nil => exact p.elim
  | cons x xs =>
    cases xs with
    | nil =>
      obtain ⟨v, e, r1⟩ := r.one
      rw [e]
      exact h F H x v E Q z r1 p
    | cons y ys => exact p.elim
theorem sat_un2 {r : List V → Hp → VK → Prop} {g : D → D → R D} (h : ∀ (F H : Hp) (x y : D) (v u : V) (E : XK) (Q : VK), Fz F H → Rp X.K X.mg F x v → Rp X.K X.mg F y u → PostG X.K X.mg (repV X.K X.mg) F H E Q (g x y) → r [v, u] H Q) : SatL X r (un2 g) := by
  intro F H ds vs E Q z r p
  cases ds with
  | nil => exact p.elim
  | cons x xs =>
    cases xs with
    | nil => exact p.elim
    | cons y ys =>
      cases ys with
      | nil =>
        obtain ⟨v, u, e, r1, r2⟩ := r.two
        rw [e]
        exact h F H x y v u E Q z r1 r2 p
      | cons a b => exact p.elim
theorem sat_len : SatL X (fun xs H Q => ∃ x n, xs = [x] ∧ LenV X.K x H n ∧ Q (.int n) H) dLen := sat_un1 fun F H x v E Q z r1 p => by
  cases x with
  | lst xs =>
    obtain ⟨a, ws, e1, e2, r2⟩ := r1.lstH z
    exact ⟨v, xs.length, rfl, by rw [e1]; exact .inl ⟨ws, SqL.of e2, r2.length⟩, PostG.ok p z Rp.int⟩
  | tup xs =>
    obtain ⟨a, ws, e1, e2, r2⟩ := r1.tupH z
    exact ⟨v, xs.length, rfl, by rw [e1]; exact .inr ⟨ws, e2, r2.length⟩, PostG.ok p z Rp.int⟩
  | scr xs =>
    obtain ⟨a, e1, e2⟩ := r1.scr_iff
    exact ⟨v, xs.length, rfl, by rw [e1]; exact .inl ⟨_, z.seq e2, by rw [List.length_map]⟩, PostG.ok p z Rp.int⟩
  | str x =>
    obtain ⟨c, p⟩ := ifR p
    exact ⟨v, x.length, rfl, by rw [r1.str_iff]; exact ⟨by rw [LIM_eq]; exact c, rfl⟩, PostG.ok p z Rp.int⟩
  | _ => exact p.elim
theorem sat_min2 : SatL X (fun xs H Q => ∃ i j, xs = [.int i, .int j] ∧ Q (.int (if j < i then j else i)) H) dMin2 := sat_un2 fun F H x y v u E Q z r1 r2 p => by
  cases x with
  | int i =>
    cases y with
    | int j => exact ⟨i, j, by rw [r1.int_iff, r2.int_iff], PostG.ok p z Rp.int⟩
    | _ => exact p.elim
  | _ => exact p.elim
theorem ty_ok {F H : Hp} {x : D} {v : V} {t : String} (z : Fz F H) (r : Rp X.K X.mg F x v) (h : x.tyOf = some t) : TyX X.K H v (.type t) := by
  cases x with
  | non => cases h; rw [r.non_iff]; exact .base .non
  | bl b => cases h; rw [r.bl_iff]; exact .base (.bl b)
  | int b => cases h; rw [r.int_iff]; exact .base (.int b)
  | str b => cases h; rw [r.str_iff]; exact .base (.str b)
  | lst b => cases h; obtain ⟨a, vs, e, ea, _⟩ := r.lstH z; rw [e]; exact .base (.lst ea)
  | tup b =>
    cases h
    obtain ⟨a, vs, e, ea, _⟩ := r.tupH z
    rw [e]
    rcases ea with (q | ⟨o, q⟩) | ⟨o, its, n, q, c, _⟩
    · exact .base (.tup q)
    · exact .fTuple q
    · exact .kTuple q c
  | scr b =>
    cases h
    obtain ⟨a, e, ea⟩ := r.scr_iff
    rw [e]
    rcases z.seq ea with (q | ⟨o, q⟩) | ⟨o, its, n, q, c, _⟩
    · exact .base (.lst q)
    · exact .base (.frz q)
    · exact .kList q c
  | dk b c =>
    cases h
    obtain ⟨a, vs, e, ea, _⟩ := r.dk_iff
    rw [e]
    rcases z a _ ea with q | ⟨_, ob, q⟩
    · exact .base (.dK q)
    · exact .fDict q
  | obj b c d => cases h
  | exc b c d => cases h
  | cls c => cases h
  | ty c => cases h
theorem sat_isi : SatL X (rIsi X.K) dIsi := sat_un2 fun F H x y v u E Q z r1 r2 p => by
  cases y with
  | ty n =>
    have p' : PostG X.K X.mg (repV X.K X.mg) F H E Q (match x.tyOf with | some t => (match kitB t n with | some b => .ok (.bl b) | none => .stuck) | none => .stuck) := p
    cases et : x.tyOf with
    | none => rw [et] at p'; exact p'.elim
    | some t =>
      rw [et] at p'
      have p2 : PostG X.K X.mg (repV X.K X.mg) F H E Q (match kitB t n with | some b => .ok (.bl b) | none => .stuck) := p'
      cases ek : kitB t n with
      | none => rw [ek] at p2; exact p2.elim
      | some b =>
        rw [ek] at p2
        exact ⟨v, .ty n, .type t, .type n, b, by rw [r2.ty_iff], .ty n, ty_ok z r1 et, kit_ty ek, PostG.ok p2 z Rp.bl⟩
  | _ => exact p.elim
end
end DL
namespace DL
open PySem PySem.Spec L2
inductive Out where
  | nx (Γ : DL.Env) | rt (d : D) | ro (ds : List D) | bk (Γ : DL.Env) | ct (Γ : DL.Env) | exc (x : D) (Γ : DL.Env) | stuck | rs (d : D) (Γ : DL.Env)
def R.out {α : Type} (Γ : DL.Env) (r : R α) (k : α → Out) : Out := match r with
  | .ok a => k a
  | .exc x => .exc x Γ
  | .stuck => .stuck
def PostS (X : Cx) (W : WX) (F0 : Fe) (H0 : Hp) (Dn : Ends) : Out → Prop
  | .nx Γ => ∀ σ F H, Rel X.K X.mg F0 H0 F H σ Γ → Dn.nx σ H
  | .bk Γ => ∀ σ F H, Rel X.K X.mg F0 H0 F H σ Γ → Dn.bk σ H
  | .ct Γ => ∀ σ F H, Rel X.K X.mg F0 H0 F H σ Γ → Dn.ct σ H
  | .rt d => ∀ v F H, Ext F0 H0 F H → Rp X.K X.mg F d v → Dn.rt v H
  | .rs d Γ => ∀ v σ F H, Rel X.K X.mg F0 H0 F H σ Γ → Rp X.K X.mg F d v → Dn.rt v H
  | .ro ds => ∀ v F H, Ext F0 H0 F H → OwnL X.K X.mg H0 F H ds v → Dn.rt v H
  | .exc x Γ => ∀ cls od σ F H, Rel X.K X.mg F0 H0 F H σ Γ → RpX X.K X.mg F x cls od → W cls od σ H
  | .stuck => False
def tDS (X : Cx) (W : WX) (g : DL.Env → Out) : TS := fun Dn σ H => ∃ F0 H0 F Γ, Rel X.K X.mg F0 H0 F H σ Γ ∧ PostS X W F0 H0 Dn (g Γ)
abbrev DS (X : Cx) (W : WX) (st : Stmt) (g : DL.Env → Out) : Prop := PS X st (tDS X W g)
abbrev DSs (X : Cx) (W : WX) (st : List Stmt) (g : DL.Env → Out) : Prop := PSs X st (tDS X W g)
section
variable {X : Cx} {st : Stmt} {sts : List Stmt}
theorem PS.weak {t t' : TS} (h : PS X st t) (w : ∀ Dn σ H, t' Dn σ H → t Dn σ H) : PS X st t' := ⟨fun pins s σ H Dn I q => h.run pins s σ H Dn I (w Dn σ H q)⟩
theorem PSs.weak {t t' : TS} (h : PSs X sts t) (w : ∀ Dn σ H, t' Dn σ H → t Dn σ H) : PSs X sts t' := ⟨fun pins s σ H Dn I q => h.run pins s σ H Dn I (w Dn σ H q)⟩
end
def sNx : DL.Env → Out := fun Γ => .nx Γ
def sBk : DL.Env → Out := fun Γ => .bk Γ
def sCt : DL.Env → Out := fun Γ => .ct Γ
def Out.andThen (o : Out) (g : DL.Env → Out) : Out := match o with
  | .nx Γ => g Γ
  | o => o
def sSeq (g1 g2 : DL.Env → Out) : DL.Env → Out := fun Γ => (g1 Γ).andThen g2
def sRet (f : DL.Env → R D) : DL.Env → Out := fun Γ => (f Γ).out Γ .rt
def sRetO (f : DL.Env → R (List D)) : DL.Env → Out := fun Γ => (f Γ).out Γ .ro
def sRetN : DL.Env → Out := fun _ => .rt .non
def sRetS (i : Nat) : DL.Env → Out := fun Γ => match Env.at_ Γ i with
  | some (.own ds) => .ro ds
  | _ => .stuck
def sDrop (f : DL.Env → R D) : DL.Env → Out := fun Γ => (f Γ).out Γ fun _ => .nx Γ
def sIf (f : DL.Env → R Bool) (g h : DL.Env → Out) : DL.Env → Out := fun Γ => (f Γ).out Γ fun b => match b with
  | true => g Γ
  | false => h Γ
def sFrz (i : Nat) (g : DL.Env → Out) : DL.Env → Out := fun Γ => g (Env.frz Γ i)
abbrev Tg := D → DL.Env → Option DL.Env
abbrev Tgs := List D → DL.Env → Option DL.Env
def gNm (i : Nat) : Tg := fun d Γ => some (Γ.set i (some (.val d)))
def gsNil : Tgs := fun ds Γ => match ds with
  | [] => some Γ
  | _ => none
def gsCons (h : Tg) (hs : Tgs) : Tgs := fun ds Γ => match ds with
  | d :: r => (h d Γ).bind fun Γ1 => hs r Γ1
  | [] => none
def gTp (n : Nat) (hs : Tgs) : Tg := fun d Γ => match d with
  | .tup ds => if ds.length = n then hs ds Γ else none
  | _ => none
def sSet (h : Tg) (f : DL.Env → R D) : DL.Env → Out := fun Γ => (f Γ).out Γ fun d => match h d Γ with
  | some Γ' => .nx Γ'
  | none => .stuck
def sSetO (i : Nat) (f : DL.Env → R (List D)) : DL.Env → Out := fun Γ => (f Γ).out Γ fun ds => .nx (Γ.set i (some (.own ds)))
def sSetD (i : Nat) (f : DL.Env → R (List Key × List D)) : DL.Env → Out := fun Γ => (f Γ).out Γ fun ds => .nx (Γ.set i (some (.dic ds.1 ds.2)))
def sApp (i : Nat) (f : DL.Env → R D) : DL.Env → Out := fun Γ => match Env.at_ Γ i with
  | some (.own ds) => (f Γ).out Γ fun d => if ds.length < LIM then .nx (Γ.set i (some (.own (ds ++ [d])))) else .stuck
  | _ => .stuck
def sSetIx (i : Nat) (fk fv : DL.Env → R D) : DL.Env → Out := fun Γ => (fv Γ).out Γ fun d => match Env.at_ Γ i with
  | some (.own ds) => (fk Γ).out Γ fun k => match k with
    | .int k => (match ixN ds.length k with | some j => .nx (Γ.set i (some (.own (ds.set j d)))) | none => .stuck)
    | _ => .stuck
  | some (.hnd m ds) => (fk Γ).out Γ fun k => match k with
    | .int k => (match ixN ds.length k with | some j => .nx (Γ.set i (some (.hnd m (ds.set j d)))) | none => .stuck)
    | _ => .stuck
  | _ => .stuck
def loopF (h : Tg) (g : DL.Env → Out) : List D → DL.Env → Out
  | [], Γ => .nx Γ
  | d :: ds, Γ => match h d Γ with
    | none => .stuck
    | some Γ1 => match g Γ1 with
      | .nx Γ2 => loopF h g ds Γ2
      | .ct Γ2 => loopF h g ds Γ2
      | .bk Γ2 => .nx Γ2
      | o => o
def sFor (fi : DL.Env → R (List D)) (h : Tg) (g : DL.Env → Out) : DL.Env → Out := fun Γ => (fi Γ).out Γ fun ds => loopF h g ds Γ
def loopW (f : DL.Env → R Bool) (g : DL.Env → Out) : Nat → DL.Env → Out
  | 0, _ => .stuck
  | n + 1, Γ => (f Γ).out Γ fun b => match b with
    | false => .nx Γ
    | true => match g Γ with
      | .nx Γ2 => loopW f g n Γ2
      | .ct Γ2 => loopW f g n Γ2
      | .bk Γ2 => .nx Γ2
      | o => o
def sWhile (n : DL.Env → Nat) (f : DL.Env → R Bool) (g : DL.Env → Out) : DL.Env → Out := fun Γ => loopW f g (n Γ) Γ
def wipeE (Γ : DL.Env) : List Nat → DL.Env
  | [] => Γ
  | v :: vs => (wipeE Γ vs).set v none
def lcF (h : Tg) (ft : DL.Env → R Bool) (fe : DL.Env → R D) (Γ : DL.Env) : List D → R (List D)
  | [] => .ok []
  | d :: ds => match h d Γ with
    | none => .stuck
    | some Γ1 => match ft Γ1 with
      | .ok true => (match fe Γ1 with
        | .ok e => (match lcF h ft fe Γ ds with
          | .ok es => .ok (e :: es)
          | _ => .stuck)
        | _ => .stuck)
      | .ok false => lcF h ft fe Γ ds
      | _ => .stuck
def oLc (vs : List Nat) (fi : DL.Env → R (List D)) (h : Tg) (ft : DL.Env → R Bool) (fe : DL.Env → R D) : DL.Env → R (List D) := fun Γ => (fi Γ).bind fun ds =>
  match lcF h ft fe (wipeE Γ vs) ds with
  | .ok es => if ds.length ≤ LIM then .ok es else .stuck
  | _ => .stuck
section
variable {X : Cx} {W : WX} {F0 : Fe} {H0 F H : Hp} {σ : L2.St} {Γ : DL.Env} {Dn : Ends} {st : Stmt} {rest : List Stmt} {e a b : Expr} {es : List Expr} {g g1 g2 : DL.Env → Out} {f fa fb : DL.Env → R D} {fo : DL.Env → R (List D)} {ft : DL.Env → R Bool} {pos p : Pos}
theorem PostS.out {α β : Type} {rep : Hp → Hp → Hp → α → β → Prop} {r : R α} {k : α → Out} {Q : β → Hp → Prop} (rl : Rel X.K X.mg F0 H0 F H σ Γ) (p : PostS X W F0 H0 Dn (r.out Γ k))
    (h : ∀ a b F' H', r = .ok a → Ext F H F' H' → rep H F' H' a b → PostS X W F0 H0 Dn (k a) → Q b H') : PostG X.K X.mg rep F H (WE W σ) Q r := by
  cases r with
  | ok a => exact fun b F' H' x q => h a b F' H' rfl x q p
  | exc x => exact fun cls od F' H' y q => p cls od σ F' H' (rl.step y) q
  | stuck => exact p
theorem dss_nil : DSs X W [] sNx := PSs.weak pss_nil fun _ _ _ ⟨_, _, _, _, r, p⟩ => p _ _ _ r
theorem dss_one (h : DS X W st g) : DSs X W [st] g := pss_one h
theorem dss_cons (h1 : DS X W st g1) (h2 : DSs X W rest g2) : DSs X W (st :: rest) (sSeq g1 g2) := by
  refine PSs.weak (pss_cons h1 h2) ?_
  rintro Dn σ H ⟨F0, H0, F, Γ, r, p⟩
  refine ⟨F0, H0, F, Γ, r, ?_⟩
  revert p
  unfold sSeq
  cases g1 Γ with
  | nx Γ' => exact fun p σ' F' H' r' => ⟨F0, H0, F', Γ', r', p⟩
  | _ => exact fun p => p
theorem ds_ret (h : DE X W e f) : DS X W (.Return (some e) pos) (sRet f) := by
  refine PS.weak (ps_ret h) ?_
  rintro Dn σ H ⟨F0, H0, F, Γ, r, p⟩
  exact ⟨F0, H0, F, Γ, r, PostS.out r p fun d v F' H' _ x q p' => p' v F' H' (r.ext.trans x) q⟩
theorem ds_retO (h : DO X W e fo) : DS X W (.Return (some e) pos) (sRetO fo) := by
  refine PS.weak (ps_ret h) ?_
  rintro Dn σ H ⟨F0, H0, F, Γ, r, p⟩
  refine ⟨F0, H0, F, Γ, r, PostS.out r p fun d v F' H' _ x q p' => p' v F' H' (r.ext.trans x) ?_⟩
  obtain ⟨l, vs, e1, e2, e3, e4, e5⟩ := q
  exact ⟨l, vs, e1, e2, e3, r.ext.hh.free e4, e5⟩
theorem ds_retS (i : Nat) {x : Str} (hN : X.N[i]? = some x := by rfl) (hv : Vis X.env.scope x := by first | exact Or.inl (by kernel_rfl) | exact Or.inr (Or.inl (by kernel_rfl)) | exact Or.inr (Or.inr (by kernel_rfl))) (hd : (x == ("__debug__" : Str)) = false := by kernel_rfl)
    (hcd : (x == ("__classdict__" : Str)) = false := by kernel_rfl) : DS X W (.Return (some (.Name x p)) pos) (sRetS i) := by
  refine PS.weak (ps_ret (pe_var hN hv hd hcd)) ?_
  rintro Dn σ H ⟨F0, H0, F, Γ, r, p⟩
  revert p
  unfold sRetS
  cases e : Env.at_ Γ i with
  | none => exact fun p => p.elim
  | some s =>
    cases s with
    | hdc _ _ _ => exact fun p => p.elim
    | abs _ _ => exact fun p => p.elim
    | oob b c ns fs => exact fun p => p.elim
    | hnd _ _ => exact fun p => p.elim
    | val d => exact fun p => p.elim
    | own ds =>
      intro p
      obtain ⟨v, h1, h2⟩ := r.slot i _ (at_get e)
      exact ⟨v, h1, p v F H r.ext h2⟩
    | dic ks ds => exact fun p => p.elim
theorem ds_expr (h : DE X W e f) (hs : swapsWith e none pos.line X.env = pure false := by rfl) : DS X W (.Expr e pos) (sDrop f) := by
  refine PS.weak (ps_expr h hs) ?_
  rintro Dn σ H ⟨F0, H0, F, Γ, r, p⟩
  exact ⟨F0, H0, F, Γ, r, PostS.out r p fun d v F' H' _ x q p' => p' _ _ _ (r.step x)⟩
theorem ds_if {c : Expr} {as bs : List Stmt} (hc : DT X W c ft) (ha : DSs X W as g1) (hb : DSs X W bs g2) : DS X W (.If c as bs pos) (sIf ft g1 g2) := by
  refine PS.weak (ps_if hc ha hb) ?_
  rintro Dn σ H ⟨F0, H0, F, Γ, r, p⟩
  refine ⟨F0, H0, F, Γ, r, PostS.out r p fun k k' F' H' _ x q p' => ?_⟩
  have e : k' = k := q
  subst e
  cases k' with
  | true => exact iteT ⟨F0, H0, F', Γ, r.step x, p'⟩
  | false => exact iteF ⟨F0, H0, F', Γ, r.step x, p'⟩
theorem RpL.of {K : PySem.W.Frag} {mg : Str → Option Value} {F : Hp} : ∀ {ds : List D} {vs : List V}, ds.length = vs.length → (∀ (i : Nat) (d : D) (v : V), ds[i]? = some d → vs[i]? = some v → Rp K mg F d v) → RpL K mg F ds vs
  | [], [], _, _ => RpL.nil
  | [], _ :: _, h, _ => by cases h
  | _ :: _, [], h, _ => by cases h
  | d :: ds, v :: vs, h, k => RpL.cons (k 0 d v rfl rfl) (RpL.of (by simpa using h) fun i d' v' e1 e2 => k (i + 1) d' v' (by simpa using e1) (by simpa using e2))
open Classical in
theorem Rel.freezeB {K : PySem.W.Frag} {mg : Str → Option Value} {F0 : Fe} {H0 F H : Hp} {σ : L2.St} {Γ : DL.Env} (r : Rel K mg F0 H0 F H σ Γ) {i : Nat} {b : Bool} {c : Str} {ns : List Str} {fs : List Fl} (ei : Γ[i]? = some (some (.oob b c ns fs))) :
    ∃ F', Rel K mg F0 H0 F' H σ (Γ.set i (some (.val (.obj c ns (fs.map Fl.frz))))) ∧ Same F F' := by
  obtain ⟨v, hv, sv⟩ := r.slot i _ ei
  have sv0 := sv
  obtain ⟨a, C, dx, vs, e, ec, eh, el, el2, ef, e0, hf, hi2⟩ := sv
  have hi : i < Γ.length := (List.getElem?_eq_some_iff.mp ei).1
  let F1 : Hp := fun l => if foot H (.oob b c ns fs) v l then H l else F l
  have inF : ∀ l, foot H (.oob b c ns fs) v l → F1 l = H l := fun l q => if_pos q
  have outF : ∀ l, ¬ foot H (.oob b c ns fs) v l → F1 l = F l := fun l q => if_neg q
  have ss : Same F F1 := fun l o q => by
    rw [outF l fun z => by
      have := (foot_at sv0 z).choose_spec.2.1
      rw [q] at this
      cases this]
    exact q
  refine ⟨F1, ⟨⟨r.ext.ff.trans ss, fun l o q => ?_, r.ext.hh, fun l o q => ?_⟩, by rw [List.length_set]; exact r.len, fun j t q => ?_, fun j k t t' u w m ej ek hj hk os ot => ?_, r.slf.setE ei (.inl rfl)⟩, ss⟩
  · by_cases z : foot H (.oob b c ns fs) v l
    · rw [inF l z] at q
      exact .inl q
    · rw [outF l z] at q
      exact r.ext.fh l o q
  · by_cases z : foot H (.oob b c ns fs) v l
    · exact .inr (foot_at sv0 z).choose_spec.2.2
    · rw [outF l z] at q
      exact r.ext.new l o q
  · by_cases z : i = j
    · subst z
      rw [List.getElem?_set_self hi] at q
      cases q
      refine ⟨v, hv, ?_⟩
      show Rp K mg F1 (.obj c ns (fs.map Fl.frz)) v
      unfold Rp
      refine ⟨a, C, dx, vs, e, ec, by rw [inF a (Or.inl e)]; exact eh, el, RpL.of (by rw [List.length_map, el2]) fun k d u h1 h2 => ?_⟩
      rw [List.getElem?_map, Option.map_eq_some_iff] at h1
      obtain ⟨f, h3, rfl⟩ := h1
      have hk := hf k f u h3 h2
      cases f with
      | val d => exact Rp.mono ss _ _ hk
      | own ds =>
        obtain ⟨l, us, g1, g2, g3, g4, g5⟩ := hk
        show Rp K mg F1 (.lst ds) u
        unfold Rp
        exact ⟨l, us, g1, by rw [inF l (Or.inr ⟨a, C, dx, vs, k, _, e, eh, el, h3, rfl, by rw [h2, g1]⟩)]; exact g2, RpL.mono ss _ _ g5⟩
      | dic ks ds =>
        obtain ⟨l, us, g1, g2, gl, g3, g4, g5⟩ := hk
        show Rp K mg F1 (.dk ks ds) u
        unfold Rp
        exact ⟨l, us, g1, by rw [inF l (Or.inr ⟨a, C, dx, vs, k, _, e, eh, el, h3, rfl, by rw [h2, g1]⟩)]; exact g2, gl, RpL.mono ss _ _ g5⟩
    · rw [List.getElem?_set_ne z] at q
      obtain ⟨w, h1, h2⟩ := r.slot j t q
      refine ⟨w, h1, h2.gen ss (fun m y => ?_) (fun m ob _ y => y) fun m y => (foot_at h2 y).choose_spec.2.2⟩
      rw [outF m fun y2 => z (r.inj i j _ t v w m ei q hv h1 y2 y)]
      exact (foot_at h2 y).choose_spec.2.1
  · have nj : i ≠ j := fun q => by
      subst q
      rw [List.getElem?_set_self hi] at ej
      cases ej
      exact os
    have nk : i ≠ k := fun q => by
      subst q
      rw [List.getElem?_set_self hi] at ek
      cases ek
      exact ot
    rw [List.getElem?_set_ne nj] at ej
    rw [List.getElem?_set_ne nk] at ek
    exact r.inj j k t t' u w m ej ek hj hk os ot
theorem frz_rel (r : Rel X.K X.mg F0 H0 F H σ Γ) (i : Nat) : ∃ F', Rel X.K X.mg F0 H0 F' H σ (Env.frz Γ i) ∧ Same F F' := by
  unfold Env.frz
  cases e : Env.at_ Γ i with
  | none => exact ⟨F, r, Same.refl _⟩
  | some s =>
    cases s with
    | hdc _ ks ds => exact r.freezeHD (at_get e)
    | abs b a =>
      have e' : Γ.set i (some (Slot.frz (.abs b a))) = Γ := by
        have q := at_get e
        apply List.ext_getElem?
        intro j
        by_cases h : i = j
        · subst h
          rw [List.getElem?_set_self (List.getElem?_eq_some_iff.mp q).1, q]
          rfl
        · rw [List.getElem?_set_ne h]
      show ∃ F', Rel X.K X.mg F0 H0 F' H σ (Γ.set i (some (Slot.frz (.abs b a)))) ∧ Same F F'
      rw [e']
      exact ⟨F, r, Same.refl _⟩
    | val d =>
      have e' : Γ.set i (some (Slot.frz (.val d))) = Γ := by
        have q := at_get e
        apply List.ext_getElem?
        intro j
        by_cases h : i = j
        · subst h
          rw [List.getElem?_set_self (List.getElem?_eq_some_iff.mp q).1, q]
          rfl
        · rw [List.getElem?_set_ne h]
      show ∃ F', Rel X.K X.mg F0 H0 F' H σ (Γ.set i (some (Slot.frz (.val d)))) ∧ Same F F'
      rw [e']
      exact ⟨F, r, Same.refl _⟩
    | own ds => exact r.freeze (at_get e)
    | dic ks ds => exact r.freezeD (at_get e)
    | oob b c ns fs => exact r.freezeB (at_get e)
    | hnd _ ds => exact r.freezeH (at_get e)
theorem ds_frz (i : Nat) (h : DS X W st g) : DS X W st (sFrz i g) := by
  refine PS.weak h ?_
  rintro Dn σ H ⟨F0, H0, F, Γ, r, p⟩
  obtain ⟨F', r', _⟩ := frz_rel r i
  exact ⟨F0, H0, F', _, r', p⟩
theorem de_bor (i : Nat) (h : DE X W e f) : DE X W e (eBor i f) := by
  refine PE.weak h ?_
  rintro σ H Q ⟨F0, H0, F, Γ, r, p⟩
  obtain ⟨F', r', ss⟩ := frz_rel r i
  refine ⟨F0, H0, F', _, r', ?_⟩
  revert p
  unfold eBor
  cases f (Env.frz Γ i) with
  | ok d =>
    intro p
    obtain ⟨c, p⟩ := ifR p
    intro v F1 H1 x q
    have x' : Ext F H F H1 := ⟨Same.refl _, x.fh.sub (ss.trans x.ff), x.hh, fun _ _ z => .inl z⟩
    refine PostG.at p x' ?_
    have q' : Rp X.K X.mg F1 d v := q
    show Rp X.K X.mg F d v
    cases d with
    | non => rw [q'.non_iff]; exact Rp.non
    | bl b => rw [q'.bl_iff]; exact Rp.bl
    | int b => rw [q'.int_iff]; exact Rp.int
    | str b => rw [q'.str_iff]; exact Rp.str
    | _ => exact absurd c (by simp [D.scal])
  | exc x => exact fun p => p.elim
  | stuck => exact fun p => p.elim
theorem dt_bor (i : Nat) (h : DT X W e ft) : DT X W e (bBor i ft) := by
  refine PT.weak h ?_
  rintro σ H Q ⟨F0, H0, F, Γ, r, p⟩
  obtain ⟨F', r', ss⟩ := frz_rel r i
  refine ⟨F0, H0, F', _, r', ?_⟩
  revert p
  unfold bBor
  cases ft (Env.frz Γ i) with
  | ok d =>
    intro p v F1 H1 x q
    have x' : Ext F H F H1 := ⟨Same.refl _, x.fh.sub (ss.trans x.ff), x.hh, fun _ _ z => .inl z⟩
    exact PostG.at p x' q
  | exc x => exact fun p => p.elim
  | stuck => exact fun p => p.elim
theorem de_ownIx (i : Nat) {x : Str} (hb : DE X W b f) (hx : PlainIx b) (hN : X.N[i]? = some x := by rfl) (hv : Vis X.env.scope x := by first | exact Or.inl (by kernel_rfl) | exact Or.inr (Or.inl (by kernel_rfl)) | exact Or.inr (Or.inr (by kernel_rfl))) (hd : (x == ("__debug__" : Str)) = false := by kernel_rfl)
    (hcd : (x == ("__classdict__" : Str)) = false := by kernel_rfl) : DE X W (.Subscript (.Name x p) b pos) (eOwnIx i f) := by
  refine PE.weak (pe_ix ix_seq (pe_var hN hv hd hcd) hb hx) ?_
  rintro σ H Q ⟨F0, H0, F, Γ, r, p⟩
  revert p
  unfold eOwnIx
  cases e : Env.at_ Γ i with
  | none => exact fun p => p.elim
  | some s =>
    cases s with
    | hdc _ _ _ => exact fun p => p.elim
    | abs _ _ => exact fun p => p.elim
    | oob b c ns fs => exact fun p => p.elim
    | hnd m ds =>
      intro p
      obtain ⟨v, h1, l, vs, e1, e2, e3, e4, e5⟩ := r.slot i _ (at_get e)
      subst e1
      refine ⟨_, h1, F0, H0, F, Γ, r, PostG.bind p (fun k w F1 H1 _ x1 r1 p1 => ?_) fun _ _ _ _ _ h => h⟩
      cases k with
      | int k =>
        rw [(show Rp X.K X.mg F1 (.int k) w from r1).int_iff]
        have p' : PostG X.K X.mg (repV X.K X.mg) F1 H1 (WE W σ) Q (match atI ds k with | some d => .ok d | none => .stuck) := p1
        cases ek : atI ds k with
        | none => rw [ek] at p'; exact p'.elim
        | some d =>
          rw [ek] at p'
          obtain ⟨w, h1, h2⟩ := atI_rp (RpL.mono x1.ff _ _ e5) ek
          exact .inl ⟨l, vs, k, w, rfl, rfl, SqL.of (x1.hh _ _ e2), h1, PostG.ok p' x1.fh h2⟩
      | _ => exact p1.elim
    | val d =>
      intro p
      obtain ⟨v, h1, rp⟩ := r.slot i _ (at_get e)
      have rp : Rp X.K X.mg F d v := rp
      exact ⟨v, h1, F0, H0, F, Γ, r, PostG.bind p (fun k w F1 H1 _ x1 r1 p1 => sat_ix F1 H1 d k v w _ _ x1.fh (Rp.mono x1.ff _ _ rp) r1 p1) fun _ _ _ _ _ h => h⟩
    | dic ks ds => exact fun p => p.elim
    | own ds =>
      intro p
      obtain ⟨v, h1, l, vs, e1, e2, e3, e4, e5⟩ := r.slot i _ (at_get e)
      subst e1
      refine ⟨_, h1, F0, H0, F, Γ, r, PostG.bind p (fun k w F1 H1 _ x1 r1 p1 => ?_) fun _ _ _ _ _ h => h⟩
      cases k with
      | int k =>
        rw [(show Rp X.K X.mg F1 (.int k) w from r1).int_iff]
        have p' : PostG X.K X.mg (repV X.K X.mg) F1 H1 (WE W σ) Q (match atI ds k with | some d => .ok d | none => .stuck) := p1
        cases ek : atI ds k with
        | none => rw [ek] at p'; exact p'.elim
        | some d =>
          rw [ek] at p'
          obtain ⟨w, h1, h2⟩ := atI_rp (RpL.mono x1.ff _ _ e5) ek
          exact .inl ⟨l, vs, k, w, rfl, rfl, SqL.of (x1.hh _ _ e2), h1, PostG.ok p' x1.fh h2⟩
      | _ => exact p1.elim
def tDG (X : Cx) (vs : List Nat) (h : Tg) : TG := fun v σ H Q => ∃ F0 H0 F Γ d, Rel X.K X.mg F0 H0 F H σ Γ ∧ Rp X.K X.mg F d v ∧ ∃ Γ', h d Γ = some Γ' ∧ ∀ σ', σ'.length = σ.length → (∀ j, j ∉ vs → σ'[j]? = σ[j]?) → Rel X.K X.mg F0 H0 F H σ' Γ' → Q σ' H
def tDGs (X : Cx) (vs : List Nat) (h : Tgs) : TGs := fun us σ H Q => ∃ F0 H0 F Γ ds, Rel X.K X.mg F0 H0 F H σ Γ ∧ RpL X.K X.mg F ds us ∧ ∃ Γ', h ds Γ = some Γ' ∧ ∀ σ', σ'.length = σ.length → (∀ j, j ∉ vs → σ'[j]? = σ[j]?) → Rel X.K X.mg F0 H0 F H σ' Γ' → Q σ' H
abbrev DG (X : Cx) (tg : Expr) (vs : List Nat) (h : Tg) : Prop := PG X tg (tDG X vs h)
abbrev DGs (X : Cx) (tg : List Expr) (vs : List Nat) (h : Tgs) : Prop := PGs X tg (tDGs X vs h)
theorem PG.weak {X : Cx} {tg : Expr} {t t' : TG} (h : PG X tg t) (w : ∀ v σ H Q, t' v σ H Q → t v σ H Q) : PG X tg t' := ⟨fun pins s σ H v u Q I r q => h.run pins s σ H v u Q I r (w v σ H Q q)⟩
theorem PGs.weak {X : Cx} {tg : List Expr} {t t' : TGs} (h : PGs X tg t) (w : ∀ v σ H Q, t' v σ H Q → t v σ H Q) : PGs X tg t' := ⟨fun pins s σ H v u Q I r q => h.run pins s σ H v u Q I r (w v σ H Q q)⟩
theorem dg_name (i : Nat) {x : Str} (hN : X.N.Nodup) (hi : X.N[i]? = some x := by rfl) (hx : Loc X.env.scope x := by first | exact Or.inl (by kernel_rfl) | exact Or.inr (by kernel_rfl)) (hf : X.fn x = true ∨ X.env.scope.names.lookup x = some .local := by first | exact .inl rfl | exact .inr (by kernel_rfl) | exact .inl (by kernel_rfl)) :
    DG X (.Name x pos) [i] (gNm i) := by
  refine PG.weak (pg_name hN hi hx hf) ?_
  rintro v σ H Q ⟨F0, H0, F, Γ, d, r, q, Γ', e, k⟩
  cases e
  exact k _ (by rw [List.length_set]) (fun j hj => List.getElem?_set_ne (fun z => hj (by simp [z]))) (r.setV q)
theorem dgs_nil : DGs X [] [] gsNil := by
  refine PGs.weak pgs_nil ?_
  rintro us σ H Q ⟨F0, H0, F, Γ, ds, r, q, Γ', e, k⟩
  cases ds with
  | nil =>
    cases e
    exact ⟨q.nil_iff, k σ rfl (fun _ _ => rfl) r⟩
  | cons d r => cases e
theorem dgs_cons {vs ws : List Nat} {h : Tg} {hs : Tgs} (h1 : DG X e vs h) (h2 : DGs X es ws hs) (hst : (assignEach (e :: es) X.env).map (·.2) = assign e X.env :: (assignEach es X.env).map (·.2) := by rfl) : DGs X (e :: es) (vs ++ ws) (gsCons h hs) := by
  refine PGs.weak (pgs_cons h1 h2 hst) ?_
  rintro us σ H Q ⟨F0, H0, F, Γ, ds, r, q, Γ', e, k⟩
  cases ds with
  | nil => cases e
  | cons d ds =>
    obtain ⟨v, us', eu, r1, rr⟩ := q.cons_iff
    have e' : ((h d Γ).bind fun Γ1 => hs ds Γ1) = some Γ' := e
    cases eh : h d Γ with
    | none => rw [eh] at e'; cases e'
    | some Γ1 =>
      rw [eh] at e'
      refine ⟨v, us', eu, F0, H0, F, Γ, d, r, r1, Γ1, eh, fun σ1 l1 k1 rl1 => ?_⟩
      refine ⟨F0, H0, F, Γ1, ds, rl1, rr, Γ', e', fun σ2 l2 k2 rl2 => ?_⟩
      exact k σ2 (l2.trans l1) (fun j hj => (k2 j fun z => hj (List.mem_append_right _ z)).trans (k1 j fun z => hj (List.mem_append_left _ z))) rl2
theorem dg_tup {vs : List Nat} {k n : Nat} {hs : Tgs} (hc : X.calm = true) (h : DGs X es vs hs) (hn : (assignEach es X.env).length = n := by rfl) (hst : (assignEach es X.env).findIdx? (·.1) = none := by rfl) : DG X (.Tuple es k pos) vs (gTp n hs) := by
  refine PG.weak (pg_tup hc h hn hst) ?_
  rintro v σ H Q ⟨F0, H0, F, Γ, d, r, q, Γ', e, k⟩
  cases d with
  | tup ds =>
    obtain ⟨a, us, e1, e2, e3⟩ := q.tupH r.fz
    have e' : (if ds.length = n then hs ds Γ else none) = some Γ' := e
    by_cases hl : ds.length = n
    · rw [if_pos hl] at e'
      exact ⟨a, us, e1, e2, by rw [← e3.length]; exact hl, F0, H0, F, Γ, ds, r, e3, Γ', e', k⟩
    · rw [if_neg hl] at e'
      cases e'
  | _ => cases e
theorem ds_asg {tg : Expr} {vs : List Nat} {h : Tg} (he : DE X W e f) (hg : DG X tg vs h) (hs : swapsWithSole [tg] e pos.line X.env = pure false := by rfl) (hw : swappedStores [tg] e X.env = pure none := by rfl)
    (h1 : (assignEach [tg] X.env).map (·.2) = [assign tg X.env] := by rfl) : DS X W (.Assign [tg] e pos) (sSet h f) := by
  refine PS.weak (ps_asg he hg hs hw h1) ?_
  rintro Dn σ H ⟨F0, H0, F, Γ, r, p⟩
  refine ⟨F0, H0, F, Γ, r, PostS.out r p fun d v F' H' _ x q p' => ?_⟩
  cases eh : h d Γ with
  | none => rw [eh] at p'; exact p'.elim
  | some Γ' =>
    rw [eh] at p'
    exact ⟨F0, H0, F', Γ, d, r.step x, q, Γ', eh, fun σ' _ _ r' => p' _ _ _ r'⟩
theorem ds_setO (i : Nat) {x : Str} (hN : X.N.Nodup) (he : DO X W e fo) (hi : X.N[i]? = some x := by rfl) (hx : Loc X.env.scope x := by first | exact Or.inl (by kernel_rfl) | exact Or.inr (by kernel_rfl)) (hf : X.fn x = true ∨ X.env.scope.names.lookup x = some .local := by first | exact .inl rfl | exact .inr (by kernel_rfl) | exact .inl (by kernel_rfl))
    (hs : swapsWithSole [.Name x p] e pos.line X.env = pure false := by rfl) (hw : swappedStores [.Name x p] e X.env = pure none := by rfl)
    (h1 : (assignEach [.Name x p] X.env).map (·.2) = [assign (.Name x p) X.env] := by rfl) : DS X W (.Assign [.Name x p] e pos) (sSetO i fo) := by
  refine PS.weak (ps_asg he (pg_name hN hi hx hf) hs hw h1) ?_
  rintro Dn σ H ⟨F0, H0, F, Γ, r, p⟩
  exact ⟨F0, H0, F, Γ, r, PostS.out r p fun ds v F' H' _ x q p' => p' _ _ _ (r.setO x (s := .own ds) rfl q)⟩
theorem ds_append (i : Nat) {x : Str} {p1 p2 cpos : Pos} (he : DE X W e f) (hN : X.N[i]? = some x := by rfl) (hv : Vis X.env.scope x := by first | exact Or.inl (by kernel_rfl) | exact Or.inr (Or.inl (by kernel_rfl)) | exact Or.inr (Or.inr (by kernel_rfl))) (hd : (x == ("__debug__" : Str)) = false := by kernel_rfl)
    (hcd : (x == ("__classdict__" : Str)) = false := by kernel_rfl) (hs1 : starEach [e] X.env = (false, eval e X.env) :: starEach [] X.env := by rfl) (hline : (p2.endLine == cpos.line) = true := by rfl)
    (hfew : ((backTo cpos (starEach [e] X.env)).all (fun x => !x.1) && (backToKw cpos (keywordEach [] X.env)).all (fun x => x.1.isSome)
      && decide (([e] : List Expr).length + ([] : List Keyword).length + (if ([] : List Keyword).isEmpty then 0 else 1) < 30)) = true := by rfl)
    (hs : swapsWith (.Call (.Attribute (.Name x p1) "append" p2) [e] [] cpos) none pos.line X.env = pure false := by rfl) :
    DS X W (.Expr (.Call (.Attribute (.Name x p1) "append" p2) [e] [] cpos) pos) (sApp i f) := by
  refine PS.weak (ps_expr (pe_bm PySem.F.plainAttrs_list PySem.F.slot_list_append PySem.F.type_list_append mt_append (pe_var hN hv hd hcd) (pa_cons he pa_nil hs1) rfl hfew hline hs1) hs) ?_
  rintro Dn σ H ⟨F0, H0, F, Γ, r, p⟩
  revert p
  unfold sApp
  cases ei : Env.at_ Γ i with
  | none => exact fun p => p.elim
  | some s =>
    cases s with
    | hdc _ _ _ => exact fun p => p.elim
    | abs _ _ => exact fun p => p.elim
    | oob b c ns fs => exact fun p => p.elim
    | hnd _ _ => exact fun p => p.elim
    | val d => exact fun p => p.elim
    | dic ks ds => exact fun p => p.elim
    | own ds =>
      intro p
      obtain ⟨v, h1, l, vs, e1, e2, e3, e4, e5⟩ := r.slot i _ (at_get ei)
      subst e1
      refine ⟨_, h1, .inl ⟨rfl, _, SqL.of e2⟩, F0, H0, F, Γ, r, PostS.out r p fun d w F1 H1 _ x1 r1 p1 => ?_⟩
      by_cases hl : ds.length < LIM
      · rw [if_pos hl] at p1
        refine ⟨l, vs, w, rfl, rfl, x1.hh _ _ e2, by rw [LIM_eq, ← e5.length]; exact hl, p1 _ F1 _ ?_⟩
        have r' := r.step x1
        obtain ⟨_, _, l', vs', f1, f2, f3, f4, f5⟩ := r'.slot i _ (at_get ei)
        refine r'.mutO (at_get ei) rfl h1 rfl ?_
        refine ⟨l, vs ++ [w], rfl, upd_same, ?_, e4, RpL.append (RpL.mono x1.ff _ _ e5) (RpL.cons r1 RpL.nil)⟩
        cases q : F1 l with
        | none => rfl
        | some o =>
          rcases x1.new l o q with z | z
          · rw [e3] at z; cases z
          · rw [e2] at z; cases z
      · rw [if_neg hl] at p1
        exact p1.elim
def WalkD (K : PySem.W.Frag) (mg : Str → Option Value) (F' : Hp) (ds : List D) (J : It) : Prop :=
  Walk J ds.length (fun H => Fz F' H) (fun i H x H'' => ∀ Fc, Same F' Fc → Fz Fc H → ∃ Fi d, Ext Fc H Fi H'' ∧ ds[i]? = some d ∧ Rp K mg Fi d x)
def tDI (X : Cx) (W : WX) (f : DL.Env → R (List D)) : TI := fun σ H Rr => ∃ F0 H0 F Γ, Rel X.K X.mg F0 H0 F H σ Γ ∧ PostG X.K X.mg (fun _ F' _ ds J => WalkD X.K X.mg F' ds J) F H (WE W σ) Rr (f Γ)
abbrev DI (X : Cx) (W : WX) (tg iter : Expr) (f : DL.Env → R (List D)) : Prop := PI X tg iter (tDI X W f)
theorem PI.weak {X : Cx} {tg iter : Expr} {t t' : TI} (h : PI X tg iter t) (w : ∀ σ H Q, t' σ H Q → t σ H Q) : PI X tg iter t' := ⟨fun pins s σ H Q I q => h.run pins s σ H Q I (w σ H Q q)⟩
theorem Rel.rebase {F' : Hp} (r : Rel X.K X.mg F0 H0 F H σ Γ) (s0 : Same F0 F') (s : Same F' F) : Rel X.K X.mg ⟨F', F0.sv⟩ H0 F H σ Γ :=
  ⟨⟨s, r.ext.fh, r.ext.hh, fun a o e => by
    rcases r.ext.new a o e with z | z
    · exact .inl (s0 _ _ z)
    · exact .inr z⟩, r.len, r.slot, r.inj, r.slf⟩
theorem Rel.unbase {F' : Hp} (r : Rel X.K X.mg ⟨F', F0.sv⟩ H0 F H σ Γ) (s0 : Same F0 F') (h : ∀ a o, F' a = some o → F0 a = some o ∨ H0 a = none) : Rel X.K X.mg F0 H0 F H σ Γ :=
  ⟨⟨s0.trans r.ext.ff, r.ext.fh, r.ext.hh, fun a o e => by
    rcases r.ext.new a o e with z | z
    · exact h a o z
    · exact .inr z⟩, r.len, r.slot, r.inj, r.slf⟩
theorem Ext.unbase {F' F2 H2 : Hp} (r : Ext F' H0 F2 H2) (s0 : Same F0 F') (h : ∀ a o, F' a = some o → F0 a = some o ∨ H0 a = none) : Ext F0 H0 F2 H2 :=
  ⟨s0.trans r.ff, r.fh, r.hh, fun a o e => by
    rcases r.new a o e with z | z
    · exact h a o z
    · exact .inr z⟩
theorem PostS.unbase {F' : Hp} {o : Out} (s0 : Same F0 F') (h : ∀ a o, F' a = some o → F0 a = some o ∨ H0 a = none) (p : PostS X W F0 H0 Dn o) : PostS X W ⟨F', F0.sv⟩ H0 Dn o := by
  cases o with
  | nx Γ => exact fun σ F H r => p σ F H (r.unbase s0 h)
  | bk Γ => exact fun σ F H r => p σ F H (r.unbase s0 h)
  | ct Γ => exact fun σ F H r => p σ F H (r.unbase s0 h)
  | rt d => exact fun v F H r q => p v F H (r.unbase s0 h) q
  | ro d => exact fun v F H r q => p v F H (r.unbase s0 h) q
  | rs d Γ => exact fun v σ F H r q => p v σ F H (r.unbase s0 h) q
  | exc x Γ => exact fun cls od σ F H r q => p cls od σ F H (r.unbase s0 h) q
  | stuck => exact p
theorem ds_for {tg iter : Expr} {body : List Stmt} {vs : List Nat} {h : Tg} (hp : PassesOwn (model X.prog X.w) X.A X.env X.xe) (hc : X.calm = true) (hi : DI X W tg iter fo) (hg : DG X tg vs h) (hb : DSs X W body g)
    (hs : ∀ x, foldedSetIterable iter X.env x = pure x := by intro _; rfl) : DS X W (.For tg iter body [] pos) (sFor fo h g) := by
  refine PS.weak (ps_for hp hc hi hg hb hs) ?_
  rintro Dn σ H ⟨F0, H0, F, Γ, r, p⟩
  refine ⟨F0, H0, F, Γ, r, PostS.out r p fun ds J F' H' _ x w p' => ?_⟩
  have s0 : Same F0 F' := r.ext.ff.trans x.ff
  have n0 : ∀ a o, F' a = some o → F0 a = some o ∨ H0 a = none := (r.ext.trans x).new
  refine for_it w (fun i σ H => ∃ F Γ, Rel X.K X.mg ⟨F', F0.sv⟩ H0 F H σ Γ ∧ PostS X W F0 H0 Dn (loopF h g (ds.drop i) Γ)) ⟨F', Γ, (r.step x).rebase s0 (Same.refl _), by simpa using p'⟩ (fun i σ H _ ⟨F1, Γ1, r1, _⟩ => r1.ext.fh.sub r1.ext.ff) ?_ ?_
  · rintro i xv σ1 H1 H2 hi ⟨F1, Γ1, r1, p1⟩ y
    obtain ⟨F2, d, x2, ed, rd⟩ := y F1 r1.ext.ff r1.ext.fh
    have edr : ds.drop i = d :: ds.drop (i + 1) := by
      obtain ⟨hlt, he⟩ := List.getElem?_eq_some_iff.mp ed
      rw [← he]
      exact List.drop_eq_getElem_cons hlt
    rw [edr] at p1
    unfold loopF at p1
    cases eh : h d Γ1 with
    | none => rw [eh] at p1; exact p1.elim
    | some Γ2 =>
      rw [eh] at p1
      refine ⟨⟨F', F0.sv⟩, H0, F2, Γ1, d, r1.step x2, rd, Γ2, eh, fun σ2 _ _ r2 => ?_⟩
      refine ⟨⟨F', F0.sv⟩, H0, F2, Γ2, r2, ?_⟩
      revert p1
      dsimp only
      cases eg : g Γ2 with
      | nx Γ3 => exact fun p1 σ3 F3 H3 r3 => ⟨F3, Γ3, r3, p1⟩
      | ct Γ3 => exact fun p1 σ3 F3 H3 r3 => ⟨F3, Γ3, r3, p1⟩
      | bk Γ3 => exact fun p1 σ3 F3 H3 r3 => p1 σ3 F3 H3 (r3.unbase s0 n0)
      | rt d => exact fun p1 => PostS.unbase (o := .rt d) s0 n0 p1
      | ro d => exact fun p1 => PostS.unbase (o := .ro d) s0 n0 p1
      | rs d Γ => exact fun p1 => PostS.unbase (o := .rs d Γ) s0 n0 p1
      | exc x Γ => exact fun p1 => PostS.unbase (o := .exc x Γ) s0 n0 p1
      | stuck => exact fun p1 => p1
  · rintro σ1 H1 ⟨F1, Γ1, r1, p1⟩
    have ed : ds.drop ds.length = [] := List.drop_length
    rw [ed] at p1
    exact p1 σ1 F1 H1 (r1.unbase s0 n0)
theorem walkD_list {K : PySem.W.Frag} {mg : Str → Option Value} {F' : Hp} {ds : List D} {vs : List V} {a : Addr} (e : F' a = some (.lst vs)) (r : RpL K mg F' ds vs) : WalkD K mg F' ds (Itl K a) := by
  have w := walk_list (K := K) (a := a) (xs := vs)
  unfold WalkD
  rw [r.length]
  refine w.mono (fun H z => SqL.of (z.lst e)) fun i H x H' hi z y Fc s zc => ?_
  obtain ⟨rfl, ex⟩ := y
  obtain ⟨d, ed, rd⟩ := r.getV ex
  exact ⟨Fc, d, Ext.refl zc, ed, Rp.mono s _ _ rd⟩
theorem walkD_scr {K : PySem.W.Frag} {mg : Str → Option Value} {F' : Hp} {ns : List Int} {a : Addr} (e : SqL K F' a (ns.map V.int)) : WalkD K mg F' (ns.map D.int) (Itl K a) := by
  have w := walk_list (K := K) (a := a) (xs := ns.map V.int)
  unfold WalkD
  rw [List.length_map] at w ⊢
  refine w.mono (fun H z => z.seq e) fun i H x H' hi z y Fc s zc => ?_
  obtain ⟨rfl, ex⟩ := y
  rw [List.getElem?_map] at ex
  cases en : ns[i]? with
  | none => rw [en] at ex; cases ex
  | some n =>
    rw [en] at ex
    cases ex
    exact ⟨Fc, .int n, Ext.refl zc, by rw [List.getElem?_map, en]; rfl, Rp.int⟩
def D.items : D → R (List D)
  | .lst ds => .ok ds
  | .scr ns => .ok (ns.map D.int)
  | _ => .stuck
def D.itemsT : D → R (List D)
  | .tup ds => .ok ds
  | _ => .stuck
def iOf (f : DL.Env → R D) : DL.Env → R (List D) := fun Γ => (f Γ).bind D.items
def iOfT (f : DL.Env → R D) : DL.Env → R (List D) := fun Γ => (f Γ).bind D.itemsT
theorem di_list {tg : Expr} (h : DE X W e f) : DI X W tg e (iOf f) := by
  refine PI.weak (pi_list h) ?_
  rintro σ H Q ⟨F0, H0, F, Γ, r, p⟩
  refine ⟨F0, H0, F, Γ, r, PostG.bind p (fun d v F1 H1 _ x1 r1 p1 => ?_) fun _ _ _ _ _ h => h⟩
  have r1 : Rp X.K X.mg F1 d v := r1
  cases d with
  | lst ds =>
    obtain ⟨a, vs, e1, e2, e3⟩ := r1.lst_iff
    exact ⟨a, e1, ⟨vs, SqL.of (x1.fh.lst e2)⟩, PostG.ok p1 x1.fh (walkD_list e2 e3)⟩
  | scr ns =>
    obtain ⟨a, e1, e2⟩ := r1.scr_iff
    exact ⟨a, e1, ⟨_, x1.fh.seq e2⟩, PostG.ok p1 x1.fh (walkD_scr e2)⟩
  | _ => exact p1.elim
def rngL (lo : Int) (n : Nat) : List D := (List.range n).map fun (i : Nat) => D.int (lo + i)
def inR62 (i : Int) : Bool := decide (-4611686018427387904 ≤ i) && decide (i < 4611686018427387904)
def iRange1 : List D → R (List D)
  | [.int j] => if inR62 j then .ok (rngL 0 j.toNat) else .stuck
  | _ => .stuck
def iCall (g : List D → R (List D)) (f : DL.Env → R (List D)) : DL.Env → R (List D) := fun Γ => (f Γ).bind g
theorem rngL_len (lo : Int) (n : Nat) : (rngL lo n).length = n := by unfold rngL; rw [List.length_map, List.length_range]
theorem walkD_range {K : PySem.W.Frag} {mg : Str → Option Value} {F' : Hp} {lo : Int} {n : Nat} : WalkD K mg F' (rngL lo n) (Itr lo n) := by
  have w := walk_range (lo := lo) (n := n)
  unfold WalkD
  rw [rngL_len]
  refine w.mono (fun H z => trivial) fun i H x H' hi z y Fc s zc => ?_
  obtain ⟨rfl, rfl⟩ := y
  refine ⟨Fc, .int (lo + i), Ext.refl zc, ?_, Rp.int⟩
  unfold rngL
  rw [List.getElem?_map, List.getElem?_range hi]
  rfl
theorem in62 {i : Int} (h : inR62 i = true) : -(2 ^ 62) ≤ i ∧ i < 2 ^ 62 := by
  obtain ⟨h1, h2⟩ := andB h
  have h1 := of_decide_eq_true h1
  have h2 := of_decide_eq_true h2
  omega
theorem di_range1 {tg : Expr} (hg : Gl X "range") (hm : X.mg "range" = none) (ha : DA X W [a] fo) (hs : starEach [a] X.env = [(false, eval a X.env)] := by rfl) : DI X W tg (.Call (.Name "range" p) [a] [] pos) (iCall iRange1 fo) := by
  refine PI.weak (pi_range1 hg hm ha hs) ?_
  rintro σ H Q ⟨F0, H0, F, Γ, r, p⟩
  refine ⟨F0, H0, F, Γ, r, PostG.bind p (fun ds vs F1 H1 _ x1 r1 p1 => ?_) fun _ _ _ _ _ h => h⟩
  cases ds with
  | nil => exact p1.elim
  | cons d ds =>
    cases ds with
    | cons _ _ => exact (by cases d <;> exact p1.elim)
    | nil =>
      obtain ⟨v, e1, r2⟩ := (show RpL X.K X.mg F1 [d] vs from r1).one
      cases d with
      | int j =>
        obtain ⟨c, p2⟩ := ifR p1
        obtain ⟨c1, c2⟩ := in62 c
        exact ⟨j, by rw [e1, r2.int_iff], c1, c2, PostG.ok p2 x1.fh walkD_range⟩
      | _ => exact p1.elim
end
theorem wipeE_len (Γ : DL.Env) : ∀ vs : List Nat, (wipeE Γ vs).length = Γ.length
  | [] => rfl
  | v :: vs => by unfold wipeE; rw [List.length_set, wipeE_len Γ vs]
theorem wipeE_get {Γ : DL.Env} {i : Nat} {s : Slot} : ∀ {vs : List Nat}, (wipeE Γ vs)[i]? = some (some s) → Γ[i]? = some (some s) ∧ i ∉ vs
  | [], h => ⟨h, by simp⟩
  | v :: vs, h => by
    unfold wipeE at h
    by_cases hi : v = i
    · subst hi
      by_cases hv : v < (wipeE Γ vs).length
      · rw [List.getElem?_set_self hv] at h; cases h
      · rw [List.getElem?_eq_none (by simpa using hv)] at h; cases h
    · rw [List.getElem?_set_ne hi] at h
      obtain ⟨h1, h2⟩ := wipeE_get h
      exact ⟨h1, by simp only [List.mem_cons, not_or]; exact ⟨fun e => hi e.symm, h2⟩⟩
theorem wipe_out {σ : L2.St} {i : Nat} : ∀ {vs : List Nat}, i ∉ vs → (wipe σ vs)[i]? = σ[i]?
  | [], _ => rfl
  | v :: vs, h => by
    simp only [List.mem_cons, not_or] at h
    unfold wipe
    rw [List.getElem?_set_ne (fun e => h.1 e.symm)]
    exact wipe_out h.2
theorem wipe_in {σ : L2.St} {i : Nat} : ∀ {vs : List Nat}, i ∈ vs → (wipe σ vs)[i]? = if i < σ.length then some none else none
  | [], h => by cases h
  | v :: vs, h => by
    unfold wipe
    by_cases e : v = i
    · subst e
      by_cases hl : v < σ.length
      · rw [if_pos hl, List.getElem?_set_self (by rw [wipe_length]; exact hl)]
      · rw [if_neg hl, List.getElem?_eq_none (by rw [List.length_set, wipe_length]; omega)]
    · rw [List.getElem?_set_ne e]
      rcases List.mem_cons.mp h with z | z
      · exact absurd z.symm e
      · exact wipe_in z
theorem wipe_same {σ σ' : L2.St} {vs : List Nat} (l : σ'.length = σ.length) (h : ∀ j, j ∉ vs → σ'[j]? = σ[j]?) : wipe σ' vs = wipe σ vs := by
  apply List.ext_getElem?
  intro j
  by_cases hj : j ∈ vs
  · rw [wipe_in hj, wipe_in hj, l]
  · rw [wipe_out hj, wipe_out hj, h j hj]
theorem wipe_wipe {σ : L2.St} {vs : List Nat} : wipe (wipe σ vs) vs = wipe σ vs := by
  apply List.ext_getElem?
  intro j
  by_cases hj : j ∈ vs
  · rw [wipe_in hj, wipe_in hj, wipe_length]
  · rw [wipe_out hj, wipe_out hj]
section
variable {K : PySem.W.Frag} {mg : Str → Option Value} {F0 : Fe} {H0 F H : Hp} {σ : L2.St} {Γ : DL.Env}
theorem Rel.wipe (r : Rel K mg F0 H0 F H σ Γ) (vs : List Nat) : Rel K mg F0 H0 F H (L2.wipe σ vs) (wipeE Γ vs) := by
  have back : ∀ {j : Nat} {v : V}, (L2.wipe σ vs)[j]? = some (some v) → σ[j]? = some (some v) := fun h => (wipe_some h).1
  refine ⟨r.ext, by rw [wipe_length, wipeE_len]; exact r.len, fun i s e => ?_, fun i j s t v u l ei ej hi hj os ot => ?_, fun i s k v e1 tk e2 => r.slf i s k v (wipeE_get e1).1 tk (back e2)⟩
  · obtain ⟨e1, e2⟩ := wipeE_get e
    obtain ⟨v, h1, h2⟩ := r.slot i s e1
    exact ⟨v, by rw [wipe_out e2]; exact h1, h2⟩
  · exact r.inj i j s t v u l (wipeE_get ei).1 (wipeE_get ej).1 (back hi) (back hj) os ot
end
section
variable {X : Cx} {W : WX}
abbrev DTs (X : Cx) (W : WX) (ifs : List Expr) (f : DL.Env → R Bool) : Prop := PTs X ifs (tDT X W f)
def bYes : DL.Env → R Bool := fun _ => .ok true
theorem PTs.weak {X : Cx} {ifs : List Expr} {t t' : TT} (h : PTs X ifs t) (w : ∀ σ H Q, t' σ H Q → t σ H Q) : PTs X ifs t' := ⟨fun pins s σ H Q I q => h.run pins s σ H Q I (w σ H Q q)⟩
theorem dts_nil : DTs X W [] bYes := PTs.weak pts_nil fun σ H Q ⟨_, _, _, _, r, p⟩ => PostG.ok p r.fz rfl
abbrev W0 : WX := fun _ _ _ _ => False
theorem lc_read {own : List (Str × Nat)} {fi : DL.Env → R (List D)} {h : Tg} {ft : DL.Env → R Bool} {fe : DL.Env → R D} : ∀ (σ : L2.St) (H : Hp) (Q : VK), tDO X W (oLc (own.map (·.2)) fi h ft fe) σ H Q →
    tLc (tDI X W fi) (tDG X (own.map (fun q : Str × Nat => q.2)) h) (tDT X W0 ft) (tD X W0 fe) (own.map (·.2)) σ H Q := by
  rintro σ H Q ⟨F0, H0, F, Γ, r, p⟩
  refine ⟨F0, H0, F, Γ, r, PostG.bind p (fun ds J F1 H1 _ x1 w p1 => ?_) upO⟩
  intro A hA
  have p1 : PostG X.K X.mg (repO X.K X.mg) F1 H1 (WE W σ) Q (match lcF h ft fe (wipeE Γ (own.map (·.2))) ds with | .ok es => if ds.length ≤ LIM then .ok es else .stuck | _ => .stuck) := p1
  cases el : lcF h ft fe (wipeE Γ (own.map (·.2))) ds with
  | exc x => rw [el] at p1; exact p1.elim
  | stuck => rw [el] at p1; exact p1.elim
  | ok es =>
    rw [el] at p1
    obtain ⟨hlen, p2⟩ := ifR p1
    have rw0 := (r.step x1).wipe (own.map (·.2))
    have nFA : F1 A = none := x1.fh.free hA
    -- behind i turns: the list at A holds the trees made so far
    refine lc_it w (fun i Hc => ∃ Fc acc ws, Fz Fc Hc ∧ Same F1 Fc ∧ (∀ b o, H1 b = some o → Hc b = some o) ∧ (∀ b o, Fc b = some o → F1 b = some o ∨ H1 b = none) ∧ Hc A = some (.lst ws) ∧ Fc A = none ∧ RpL X.K X.mg Fc acc ws ∧ acc.length ≤ i ∧
        (match lcF h ft fe (wipeE Γ (own.map (·.2))) (ds.drop i) with | .ok r => acc ++ r = es | _ => False)) ?_ (fun i Hc _ ⟨Fc, _, _, z, s, _⟩ => z.sub s) ?_ ?_
    · refine ⟨F1, [], [], (Ext.heap x1.fh hA).fh, Same.refl _, (Ext.heap (o := .lst []) x1.fh hA).hh, fun _ _ e => .inl e, upd_same, nFA, RpL.nil, Nat.le_refl _, ?_⟩
      show (match lcF h ft fe (wipeE Γ (own.map (·.2))) ds with | .ok r => [] ++ r = es | _ => False)
      rw [el]
      rfl
    · rintro i xv Hc Hc2 hi ⟨Fc, acc, ws, z, s, hh, nw, eA, fA, racc, la, eq⟩ y
      obtain ⟨F2, d, x2, ed, rd⟩ := y Fc s z
      have edr : ds.drop i = d :: ds.drop (i + 1) := by
        obtain ⟨hlt, he⟩ := List.getElem?_eq_some_iff.mp ed
        rw [← he]
        exact List.drop_eq_getElem_cons hlt
      rw [edr] at eq
      have rel1 : Rel X.K X.mg F0 H0 F2 Hc2 (L2.wipe σ (own.map (·.2))) (wipeE Γ (own.map (·.2))) := by
        have e1 : Ext F1 H1 F2 Hc2 := ⟨s.trans x2.ff, x2.fh, fun b o e => x2.hh _ _ (hh _ _ e), fun b o e => by
          rcases x2.new b o e with q | q
          · exact nw b o q
          · exact .inr (by
              cases e3 : H1 b with
              | none => rfl
              | some u => rw [hh _ _ e3] at q; cases q)⟩
        exact rw0.step e1
      have hA2 : Hc2 A = some (.lst ws) := x2.hh _ _ eA
      have fA2 : F2 A = none := by
        cases q : F2 A with
        | none => rfl
        | some o =>
          rcases x2.new A o q with z | z
          · rw [fA] at z; cases z
          · rw [eA] at z; cases z
      unfold lcF at eq
      cases eh : h d (wipeE Γ (own.map (·.2))) with
      | none => rw [eh] at eq; exact eq.elim
      | some Γ1 =>
        rw [eh] at eq
        refine ⟨F0, H0, F2, wipeE Γ (own.map (·.2)), d, rel1, rd, Γ1, eh, fun σ2 l2 k2 r2 => ⟨(wipe_same l2 k2).trans wipe_wipe, ?_⟩⟩
        cases et : ft Γ1 with
        | exc x => simp only [et] at eq
        | stuck => simp only [et] at eq
        | ok k =>
          refine ⟨F0, H0, F2, Γ1, r2, ?_⟩
          rw [et]
          intro k' F3 H3 x3 ek
          have ek : k' = k := ek
          subst ek
          have up3 : Ext Fc Hc F3 H3 := x2.trans x3
          have fA3 : F3 A = none := by
            cases q : F3 A with
            | none => rfl
            | some o =>
              rcases up3.new A o q with z | z
              · rw [fA] at z; cases z
              · rw [eA] at z; cases z
          have nw3 : ∀ b o, F3 b = some o → F1 b = some o ∨ H1 b = none := fun b o e => by
            rcases up3.new b o e with q | q
            · exact nw b o q
            · exact .inr (by
                cases e3 : H1 b with
                | none => rfl
                | some u => rw [hh _ _ e3] at q; cases q)
          cases k' with
          | false =>
            simp only [et] at eq
            exact iteF ⟨F3, acc, ws, up3.fh, s.trans up3.ff, fun b o e => up3.hh _ _ (hh _ _ e), nw3, up3.hh _ _ eA, fA3, RpL.mono up3.ff _ _ racc, Nat.le_succ_of_le la, eq⟩
          | true =>
            simp only [et] at eq
            refine iteT ⟨F0, H0, F3, Γ1, r2.step x3, ?_⟩
            cases ee : fe Γ1 with
            | exc x => simp only [ee] at eq
            | stuck => simp only [ee] at eq
            | ok e =>
              simp only [ee] at eq
              intro v F4 H4 x4 rv
              have up4 := up3.trans x4
              have fA4 : F4 A = none := by
                cases q : F4 A with
                | none => rfl
                | some o =>
                  rcases up4.new A o q with z | z
                  · rw [fA] at z; cases z
                  · rw [eA] at z; cases z
              have hA4 := up4.hh _ _ eA
              refine ⟨ws, hA4, ?_, ?_⟩
              · rw [LIM_eq, ← racc.length]
                have : i < LIM := Nat.lt_of_lt_of_le hi hlen
                omega
              · have nA : ∀ {b : Addr} {o : HO}, F4 b = some o → b ≠ A := fun e q => by rw [q, fA4] at e; cases e
                refine ⟨F4, acc ++ [e], ws ++ [v], fun b o q => ?_, s.trans up4.ff, fun b o q => ?_, fun b o q => ?_, upd_same, fA4, RpL.append (RpL.mono up4.ff _ _ racc) (RpL.cons rv RpL.nil), by simp; omega, ?_⟩
                · rw [upd_ne (nA q)]
                  exact up4.fh b o q
                · rw [upd_ne (fun z => by rw [z, hA] at q; cases q)]
                  exact up4.hh _ _ (hh _ _ q)
                · rcases up4.new b o q with z | z
                  · exact nw b o z
                  · exact .inr (by
                      cases e3 : H1 b with
                      | none => rfl
                      | some u => rw [hh _ _ e3] at z; cases z)
                · cases er : lcF h ft fe (wipeE Γ (own.map (·.2))) (ds.drop (i + 1)) with
                  | exc x => simp only [er] at eq
                  | stuck => simp only [er] at eq
                  | ok r =>
                    simp only [er] at eq ⊢
                    rw [← eq]
                    simp
    · rintro Hc ⟨Fc, acc, ws, z, s, hh, nw, eA, fA, racc, la, eq⟩
      have ed : ds.drop ds.length = [] := List.drop_length
      rw [ed] at eq
      have eq : acc ++ [] = es := eq
      rw [List.append_nil] at eq
      subst eq
      exact PostG.at p2 ⟨s, z, hh, nw⟩ ⟨A, ws, rfl, eA, fA, hA, racc⟩
theorem do_lc {elt tg iter : Expr} {ifs : List Expr} {scope : Scope} {own : List (Str × Nat)} {pos : Pos} {fi : DL.Env → R (List D)} {h : Tg} {ft : DL.Env → R Bool} {fe : DL.Env → R D} (hc : X.calm = true) (hN : X.N.Nodup) (hi : DI X W tg iter fi) (ok : BlkOk X.N X.env.scope scope own)
    (hg : ∀ (s : Shared) (H : Hp) (C : Addr) (cl : List (Str × Addr)) (fp : List Addr), DG (X.blk s H scope (compEnvC scope cl C X.env) fp) tg (own.map (·.2)) h) (ht : ∀ (s : Shared) (H : Hp) (C : Addr) (cl : List (Str × Addr)) (fp : List Addr), DTs (X.blk s H scope (compEnvC scope cl C X.env) fp) W0 ifs ft)
    (he : ∀ (s : Shared) (H : Hp) (C : Addr) (cl : List (Str × Addr)) (fp : List Addr), DE (X.blk s H scope (compEnvC scope cl C X.env) fp) W0 elt fe) (hs : ∀ x, foldedSetIterable iter X.env x = pure x := by intro _; rfl) :
    DO X W (.ListComp elt [⟨tg, iter, ifs, 0⟩] scope pos) (oLc (own.map (·.2)) fi h ft fe) := by
  exact PE.weak (pe_lc (g := tDG X (own.map (fun q : Str × Nat => q.2)) h) (tt := tDT X W0 ft) (te := tD X W0 fe) hc hN hi ok (fun s H C cl fp => hg s H C cl fp) (fun s H C cl fp => ht s H C cl fp) (fun s H C cl fp => he s H C cl fp) hs) lc_read
theorem ds_setLc (i : Nat) {y : Str} {py : Pos} {elt tg iter : Expr} {ifs : List Expr} {scope : Scope} {own : List (Str × Nat)} {pos spos : Pos} {fi : DL.Env → R (List D)} {h : Tg} {ft : DL.Env → R Bool} {fe : DL.Env → R D} (hc : X.calm = true) (hN : X.N.Nodup) (hyl : X.env.scope.names.lookup y = some .local)
    (hsw : swapsWith (.ListComp elt [⟨tg, iter, ifs, 0⟩] scope pos) (some (.Name y py)) spos.line X.env = pure true) (hi : DI X W tg iter fi) (ok : BlkOk X.N X.env.scope scope own)
    (hg : ∀ (s : Shared) (H : Hp) (C : Addr) (cl : List (Str × Addr)) (fp : List Addr), DG (X.blk s H scope (compEnvC scope cl C X.env) fp) tg (own.map (·.2)) h) (ht : ∀ (s : Shared) (H : Hp) (C : Addr) (cl : List (Str × Addr)) (fp : List Addr), DTs (X.blk s H scope (compEnvC scope cl C X.env) fp) W0 ifs ft)
    (he : ∀ (s : Shared) (H : Hp) (C : Addr) (cl : List (Str × Addr)) (fp : List Addr), DE (X.blk s H scope (compEnvC scope cl C X.env) fp) W0 elt fe) (hy : X.N[i]? = some y := by rfl) (hs : ∀ x, foldedSetIterable iter X.env x = pure x := by intro _; rfl) :
    DS X W (.Assign [.Name y py] (.ListComp elt [⟨tg, iter, ifs, 0⟩] scope pos) spos) (sSetO i (oLc (own.map (·.2)) fi h ft fe)) := by
  refine PS.weak (ps_setLc (g := tDG X (own.map (fun q : Str × Nat => q.2)) h) (tt := tDT X W0 ft) (te := tD X W0 fe) hc hN hy hyl hsw hi ok (fun s H C cl fp => hg s H C cl fp) (fun s H C cl fp => ht s H C cl fp) (fun s H C cl fp => he s H C cl fp) hs) ?_
  rintro Dn σ H ⟨F0, H0, F, Γ, r, p⟩
  exact lc_read (X := X) (W := W) (fi := fi) (ft := ft) (fe := fe) (h := h) σ H _ ⟨F0, H0, F, Γ, r, PostS.out r p fun ds v F' H' _ x q p' => p' _ _ _ (r.setO x (s := .own ds) rfl q)⟩
end
def Out.fin : Out → R D
  | .nx _ => .ok .non
  | .rt d => .ok d
  | .rs d _ => .ok d
  | .ro ds => .ok (.lst ds)
  | .exc x _ => .exc x
  | _ => .stuck
def Out.finO : Out → R (List D)
  | .ro ds => .ok ds
  | .exc x _ => .exc x
  | _ => .stuck
def stE (N : Nat) (ds : List D) : DL.Env := (ds.map fun d => some (Slot.val d)) ++ List.replicate (N - ds.length) none
def mk (N : Nat) (g : DL.Env → Out) : List D → R D := fun ds => (g (stE N ds)).fin
def mkO (N : Nat) (g : DL.Env → Out) : List D → R (List D) := fun ds => (g (stE N ds)).finO
def spD (K : PySem.W.Frag) (mg : Str → Option Value) (n : Nat) (m : List D → R D) : Sp := fun vs H Q E => ∃ F ds, ds.length = n ∧ Fz F H ∧ RpL K mg F ds vs ∧ PostG K mg (repV K mg) F H E Q (m ds)
def spO (K : PySem.W.Frag) (mg : Str → Option Value) (n : Nat) (m : List D → R (List D)) : Sp := fun vs H Q E => ∃ F ds, ds.length = n ∧ Fz F H ∧ RpL K mg F ds vs ∧ PostG K mg (repO K mg) F H E Q (m ds)
theorem spD_len {K : PySem.W.Frag} {mg : Str → Option Value} {n : Nat} {m : List D → R D} {vs : List V} {H : Hp} {Q : VK} {E : XK} (h : spD K mg n m vs H Q E) : vs.length = n := by
  obtain ⟨F, ds, l, _, r, _⟩ := h
  rw [← r.length, l]
theorem spO_len {K : PySem.W.Frag} {mg : Str → Option Value} {n : Nat} {m : List D → R (List D)} {vs : List V} {H : Hp} {Q : VK} {E : XK} (h : spO K mg n m vs H Q E) : vs.length = n := by
  obtain ⟨F, ds, l, _, r, _⟩ := h
  rw [← r.length, l]
theorem start_rel {K : PySem.W.Frag} {mg : Str → Option Value} {F H : Hp} {sv : Nat → V} {N : List Str} {ds : List D} {vs : List V} (z : Fz F H) (r : RpL K mg F ds vs) (hl : ds.length ≤ N.length) : Rel K mg ⟨F, sv⟩ H F H (L2.start N vs) (stE N.length ds) := by
  have hv : ∀ (i : Nat) (s : Slot), (stE N.length ds)[i]? = some (some s) → ∃ d, ds[i]? = some d ∧ s = .val d := fun i s e => by
    unfold stE at e
    by_cases hi : i < ds.length
    · rw [List.getElem?_append_left (by simpa using hi), List.getElem?_map] at e
      cases ed : ds[i]? with
      | none => rw [ed] at e; cases e
      | some d =>
        rw [ed] at e
        cases e
        exact ⟨d, rfl, rfl⟩
    · rw [List.getElem?_append_right (by simpa using hi), List.getElem?_replicate] at e
      split at e <;> cases e
  refine ⟨Ext.refl z, ?_, fun i s e => ?_, fun i j s t v u l ei ej hi hj os => ?_, fun i s k v e1 tk _ => by
    obtain ⟨_, _, e⟩ := hv i _ e1
    subst e
    cases tk⟩
  · unfold L2.start stE
    simp only [List.length_append, List.length_map, List.length_replicate]
    rw [r.length]
  · obtain ⟨d, ed, rfl⟩ := hv i s e
    obtain ⟨v, ev, rv⟩ := r.get ed
    refine ⟨v, ?_, rv⟩
    unfold L2.start
    rw [List.getElem?_append_left (by simpa using (List.getElem?_eq_some_iff.mp ev).1), List.getElem?_map, ev]
    rfl
  · obtain ⟨d, _, rfl⟩ := hv i s ei
    cases os
abbrev WOf (E : XK) : WX := fun cls d _ H => E cls d H
section
variable {P : Program} {w : World} {K : PySem.W.Frag} {mg : Str → Option Value} {base : Heap} {x qual : Str} {params : Arguments} {body : List Stmt} {scope : Scope} {f : Addr} {fd : FuncData} {N ps : List Str} {k : Nat} {g : DL.Env → Out}
theorem fn_ok (Fd : FunD K x qual params body scope [] [] f fd) (S : FnScope N ps scope) (hl : ps.length ≤ N.length)
    (hb : ∀ (cdv : Value) (A : Around) (outer : List PySem.Env) (s : Shared) (H : Hp) (E : XK), Room k (A.deeper (PyProof.Rows.envOfC qual scope s.heap.objs.size f cdv)) → DSs (cxOf (L2.CX P w) P w K mg base N qual scope f cdv A outer s H E) (WOf E) body g) :
    FnOk P w K mg base (L2.CX P w) (k + 1) f fd ps (spD K mg ps.length (mk N.length g)) := by
  refine Fd.ok S (fun vs H Q E h => spD_len h) fun cdv A outer s H vs Q E hr h => ?_
  obtain ⟨F, ds, l, z, r, p⟩ := h
  refine ⟨_, hb cdv A outer s H E hr, ⟨F, fun _ => .non⟩, H, F, stE N.length ds, start_rel z r (by rw [l]; exact hl), ?_⟩
  revert p
  unfold mk
  cases g (stE N.length ds) with
  | nx Γ => exact fun p σ F1 H1 r1 => p _ F1 H1 r1.ext Rp.non
  | rt d => exact fun p v F1 H1 x1 r1 => p v F1 H1 x1 r1
  | ro ds =>
    intro p v F1 H1 x1 r1
    obtain ⟨F2, x2, r2, _⟩ := frzO x1 r1
    exact p v F2 H1 x2 r2
  | rs d Γ => exact fun p v σ F1 H1 r1 q => p v F1 H1 r1.ext q
  | exc x Γ => exact fun p cls od σ F1 H1 r1 q => p cls od F1 H1 r1.ext q
  | bk Γ => exact fun p => p.elim
  | ct Γ => exact fun p => p.elim
  | stuck => exact fun p => p.elim
theorem fn_okO (Fd : FunD K x qual params body scope [] [] f fd) (S : FnScope N ps scope) (hl : ps.length ≤ N.length)
    (hb : ∀ (cdv : Value) (A : Around) (outer : List PySem.Env) (s : Shared) (H : Hp) (E : XK), Room k (A.deeper (PyProof.Rows.envOfC qual scope s.heap.objs.size f cdv)) → DSs (cxOf (L2.CX P w) P w K mg base N qual scope f cdv A outer s H E) (WOf E) body g) :
    FnOk P w K mg base (L2.CX P w) (k + 1) f fd ps (spO K mg ps.length (mkO N.length g)) := by
  refine Fd.ok S (fun vs H Q E h => spO_len h) fun cdv A outer s H vs Q E hr h => ?_
  obtain ⟨F, ds, l, z, r, p⟩ := h
  refine ⟨_, hb cdv A outer s H E hr, ⟨F, fun _ => .non⟩, H, F, stE N.length ds, start_rel z r (by rw [l]; exact hl), ?_⟩
  revert p
  unfold mkO
  cases g (stE N.length ds) with
  | ro ds => exact fun p v F1 H1 x1 r1 => p v F1 H1 x1 r1
  | rs d Γ => exact fun p => p.elim
  | exc x Γ => exact fun p cls od σ F1 H1 r1 q => p cls od F1 H1 r1.ext q
  | nx Γ => exact fun p => p.elim
  | rt d => exact fun p => p.elim
  | bk Γ => exact fun p => p.elim
  | ct Γ => exact fun p => p.elim
  | stuck => exact fun p => p.elim
end
section
variable {X : Cx} {W : WX} {k : Nat} {f : Addr} {fd : FuncData} {ps : List Str} {n : Nat} {x : Str} {e : Expr} {es : List Expr} {p pos : Pos} {fs : DL.Env → R (List D)}
def eFn (n : Nat) (m : List D → R D) (f : DL.Env → R (List D)) : DL.Env → R D := fun Γ => (f Γ).bind fun ds => if ds.length = n then m ds else .stuck
def oFn (n : Nat) (m : List D → R (List D)) (f : DL.Env → R (List D)) : DL.Env → R (List D) := fun Γ => (f Γ).bind fun ds => if ds.length = n then m ds else .stuck
abbrev OkW (X : Cx) (W : WX) : Prop := ∀ σ, PassesAt (L2.CX X.prog X.w) X σ (WE W σ)
theorem okW0 {X : Cx} : OkW X W0 := fun σ _ _ _ _ _ _ h => by
  obtain ⟨_, _, _, _, _, _, _, _, _, _, _, _, z⟩ := h
  exact z.elim
theorem de_fn {m : List D → R D} (G : FnOk X.prog X.w X.K X.mg X.base (L2.CX X.prog X.w) k f fd ps (spD X.K X.mg n m)) (hr : Room k X.A) (hg : Gl X x) (hm : X.mg x = some (.ref f)) (hk : PySem.W.keepIn X.K (.ref f) = true) (hb : Binds X.K fd ps []) (hx : OkW X W)
    (ha : DA X W (e :: es) fs) (hdb : (x == ("__debug__" : Str)) = false := by kernel_rfl) (he : starEach (e :: es) X.env = (false, eval e X.env) :: starEach es X.env := by rfl) (hpl : (backTo pos (starEach es X.env)).any (·.1) = false := by rfl) :
    DE X W (.Call (.Name x p) (e :: es) [] pos) (eFn n m fs) := by
  refine PE.weak (pe_callSD G hr hg hm hk hb .nil hx ha hdb he hpl) ?_
  rintro σ H Q ⟨F0, H0, F, Γ, r, p⟩
  refine ⟨F0, H0, F, Γ, r, PostG.bind p (fun ds vs F1 H1 _ x1 r1 p1 => ?_) fun _ _ _ _ _ h => h⟩
  obtain ⟨hl, p2⟩ := ifR p1
  rw [List.append_nil]
  exact ⟨F1, ds, hl, x1.fh, r1, p2⟩
theorem do_fn {m : List D → R (List D)} (G : FnOk X.prog X.w X.K X.mg X.base (L2.CX X.prog X.w) k f fd ps (spO X.K X.mg n m)) (hr : Room k X.A) (hg : Gl X x) (hm : X.mg x = some (.ref f)) (hk : PySem.W.keepIn X.K (.ref f) = true) (hb : Binds X.K fd ps []) (hx : OkW X W)
    (ha : DA X W (e :: es) fs) (hdb : (x == ("__debug__" : Str)) = false := by kernel_rfl) (he : starEach (e :: es) X.env = (false, eval e X.env) :: starEach es X.env := by rfl) (hpl : (backTo pos (starEach es X.env)).any (·.1) = false := by rfl) :
    DO X W (.Call (.Name x p) (e :: es) [] pos) (oFn n m fs) := by
  refine PE.weak (pe_callSD G hr hg hm hk hb .nil hx ha hdb he hpl) ?_
  rintro σ H Q ⟨F0, H0, F, Γ, r, p⟩
  refine ⟨F0, H0, F, Γ, r, PostG.bind p (fun ds vs F1 H1 _ x1 r1 p1 => ?_) upO⟩
  obtain ⟨hl, p2⟩ := ifR p1
  rw [List.append_nil]
  exact ⟨F1, ds, hl, x1.fh, r1, p2⟩
theorem okWOf {P : Program} {w : World} {K : PySem.W.Frag} {mg : Str → Option Value} {base : Heap} {N : List Str} {qual : Str} {scope : Scope} {f : Addr} {cdv : Value} {A : Around} {outer : List PySem.Env} {s : Shared} {H : Hp} {E : XK} :
    OkW (cxOf (L2.CX P w) P w K mg base N qual scope f cdv A outer s H E) (WOf E) := fun σ => passAt (takes_of rfl rfl rfl rfl) σ
theorem passOwnOf {P : Program} {w : World} {K : PySem.W.Frag} {mg : Str → Option Value} {base : Heap} {N : List Str} {qual : Str} {scope : Scope} {f : Addr} {cdv : Value} {A : Around} {outer : List PySem.Env} {s : Shared} {H : Hp} {E : XK} :
    PassesOwn (model P w) (cxOf (L2.CX P w) P w K mg base N qual scope f cdv A outer s H E).A (cxOf (L2.CX P w) P w K mg base N qual scope f cdv A outer s H E).env (cxOf (L2.CX P w) P w K mg base N qual scope f cdv A outer s H E).xe := passes_of rfl
end
end DL
namespace DL
open PySem PySem.Spec L2
section
variable {X : Cx} {W : WX} {F0 : Fe} {H0 F H : Hp} {σ : L2.St} {Γ : DL.Env} {Dn : Ends} {e a b c : Expr} {es : List Expr} {g : DL.Env → Out} {f fa fb : DL.Env → R D} {fo : DL.Env → R (List D)} {ft : DL.Env → R Bool} {pos p : Pos}
theorem items_rp {K : PySem.W.Frag} {mg : Str → Option Value} {F : Hp} {d : D} {v : V} {ds : List D} (r : Rp K mg F d v) (h : d.items = .ok ds) : ∃ a vs, v = .ref a ∧ SqL K F a vs ∧ RpL K mg F ds vs := by
  cases d with
  | lst xs =>
    cases h
    obtain ⟨a, vs, e1, e2, e3⟩ := r.lst_iff
    exact ⟨a, vs, e1, SqL.of e2, e3⟩
  | scr ns =>
    cases h
    obtain ⟨a, e1, e2⟩ := r.scr_iff
    exact ⟨a, _, e1, e2, RpL.ints⟩
  | _ => cases h
def enumL : Nat → List D → List D
  | _, [] => []
  | i, d :: ds => .tup [.int i, d] :: enumL (i + 1) ds
theorem enumL_len (i : Nat) (ds : List D) : (enumL i ds).length = ds.length := by
  induction ds generalizing i with
  | nil => rfl
  | cons d ds ih => show (enumL (i + 1) ds).length + 1 = _; rw [ih]; rfl
theorem enumL_get {i j : Nat} {ds : List D} {d : D} (h : ds[j]? = some d) : (enumL i ds)[j]? = some (.tup [.int ((i + j : Nat) : Int), d]) := by
  induction ds generalizing i j with
  | nil => simp at h
  | cons x xs ih =>
    cases j with
    | zero =>
      have e : x = d := by simpa using h
      subst e
      rfl
    | succ j =>
      show (enumL (i + 1) xs)[j]? = _
      rw [ih (by simpa using h)]
      congr 5
      omega
def iEnumD : List D → R (List D) := fun ds => match ds with
  | [d] => d.items.bind fun xs => .ok (enumL 0 xs)
  | _ => .stuck
theorem walkD_enum {K : PySem.W.Frag} {mg : Str → Option Value} {F' : Hp} {ds : List D} {vs : List V} {a : Addr} (e : SqL K F' a vs) (r : RpL K mg F' ds vs) : WalkD K mg F' (enumL 0 ds) (Ite K a) := by
  have w := walk_enum (K := K) (a := a) (xs := vs)
  unfold WalkD
  rw [enumL_len, r.length]
  refine w.mono (fun H z => z.seq e) fun i H x H' hi z y Fc s zc => ?_
  obtain ⟨T, u, v, e1, nT, e2, e3, e4⟩ := y
  subst e1 e2
  cases e3
  obtain ⟨d, ed, rd⟩ := r.getV e4
  have x2 := Ext.laid (o := .tup [.int (i : Nat), v]) zc nT
  refine ⟨_, .tup [.int ((i : Nat) : Int), d], x2, ?_, Rp.tup upd_same (RpL.cons Rp.int (RpL.cons (Rp.mono (s.trans x2.ff) _ _ rd) RpL.nil))⟩
  rw [enumL_get ed]
  simp
theorem di_enum {elts : List Expr} {kk : Nat} {tpos : Pos} (hg : Gl X "enumerate") (hm : X.mg "enumerate" = none) (ha : DA X W [a] fo) (hs : starEach [a] X.env = [(false, eval a X.env)] := by rfl) :
    DI X W (.Tuple elts kk tpos) (.Call (.Name "enumerate" p) [a] [] pos) (iCall iEnumD fo) := by
  refine PI.weak (pi_enum hg hm ha hs) ?_
  rintro σ H Q ⟨F0, H0, F, Γ, r, p⟩
  refine ⟨F0, H0, F, Γ, r, PostG.bind p (fun ds vs F1 H1 _ x1 r1 p1 => ?_) fun _ _ _ _ _ h => h⟩
  have r1 : RpL X.K X.mg F1 ds vs := r1
  cases ds with
  | nil => exact p1.elim
  | cons d ds =>
    cases ds with
    | cons _ _ => exact p1.elim
    | nil =>
      obtain ⟨v, e1, r2⟩ := r1.one
      have p1 : PostG X.K X.mg (fun _ F' _ ds J => WalkD X.K X.mg F' ds J) F1 H1 (WE W σ) Q (d.items.bind fun xs => .ok (enumL 0 xs)) := p1
      cases ei : d.items with
      | ok xs =>
        rw [ei] at p1
        obtain ⟨a, us, e2, e3, e4⟩ := items_rp r2 ei
        exact ⟨a, us, by rw [e1, e2], x1.fh.seq e3, PostG.ok p1 x1.fh (walkD_enum e3 e4)⟩
      | exc x => cases d <;> cases ei
      | stuck => rw [ei] at p1; exact p1.elim
def zipL : List D → List D → List D
  | d :: ds, e :: es => .tup [d, e] :: zipL ds es
  | _, _ => []
theorem zipL_len : ∀ ds es : List D, (zipL ds es).length = min ds.length es.length
  | [], es => by simp [zipL]
  | d :: ds, [] => by simp [zipL]
  | d :: ds, e :: es => by
    show (zipL ds es).length + 1 = _
    rw [zipL_len ds es]
    simp only [List.length_cons]
    omega
theorem zipL_get : ∀ {ds es : List D} {j : Nat} {d e : D}, ds[j]? = some d → es[j]? = some e → (zipL ds es)[j]? = some (.tup [d, e])
  | [], _, _, _, _, h, _ => by simp at h
  | _ :: _, [], _, _, _, _, h => by simp at h
  | d :: ds, e :: es, 0, _, _, h, k => by
    simp at h k
    subst h k
    rfl
  | d :: ds, e :: es, j + 1, _, _, h, k => by
    show (zipL ds es)[j]? = _
    exact zipL_get (by simpa using h) (by simpa using k)
def iZipD : List D → R (List D) := fun ds => match ds with
  | [d, e] => d.items.bind fun xs => e.items.bind fun ys => .ok (zipL xs ys)
  | _ => .stuck
theorem walkD_zip {K : PySem.W.Frag} {mg : Str → Option Value} {F' : Hp} {ds es : List D} {vs us : List V} {a b : Addr} (ea : SqL K F' a vs) (eb : SqL K F' b us) (ra : RpL K mg F' ds vs) (rb : RpL K mg F' es us) : WalkD K mg F' (zipL ds es) (Itz K a b) := by
  have w := walk_zip (K := K) (a := a) (b := b) (xs := vs) (ys := us) rfl
  unfold WalkD
  rw [zipL_len, ra.length, rb.length]
  refine w.mono (fun H z => ⟨z.seq ea, z.seq eb⟩) fun i H x H' hi z y Fc s zc => ?_
  obtain ⟨T, u, v, e1, nT, e2, e3, e4⟩ := y
  subst e1 e2
  obtain ⟨d, ed, rd⟩ := ra.getV e3
  obtain ⟨d', ed', rd'⟩ := rb.getV e4
  have x2 := Ext.laid (o := .tup [u, v]) zc nT
  exact ⟨_, .tup [d, d'], x2, zipL_get ed ed', Rp.tup upd_same (RpL.cons (Rp.mono (s.trans x2.ff) _ _ rd) (RpL.cons (Rp.mono (s.trans x2.ff) _ _ rd') RpL.nil))⟩
theorem di_zip {e2 : Expr} {elts : List Expr} {kk : Nat} {tpos : Pos} (hg : Gl X "zip") (hm : X.mg "zip" = none) (ha : DA X W [a, e2] fo)
    (hs : starEach [a, e2] X.env = (false, eval a X.env) :: starEach [e2] X.env := by rfl) (hpl : (backTo pos (starEach [e2] X.env)).any (·.1) = false := by rfl) :
    DI X W (.Tuple elts kk tpos) (.Call (.Name "zip" p) [a, e2] [] pos) (iCall iZipD fo) := by
  refine PI.weak (pi_zip hg hm ha hs hpl) ?_
  rintro σ H Q ⟨F0, H0, F, Γ, r, p⟩
  refine ⟨F0, H0, F, Γ, r, PostG.bind p (fun ds vs F1 H1 _ x1 r1 p1 => ?_) fun _ _ _ _ _ h => h⟩
  have r1 : RpL X.K X.mg F1 ds vs := r1
  cases ds with
  | nil => exact p1.elim
  | cons d ds =>
    cases ds with
    | nil => exact p1.elim
    | cons d' ds =>
      cases ds with
      | cons _ _ => exact p1.elim
      | nil =>
        obtain ⟨v, u, e1, r2, r3⟩ := r1.two
        have p1 : PostG X.K X.mg (fun _ F' _ ds J => WalkD X.K X.mg F' ds J) F1 H1 (WE W σ) Q (d.items.bind fun xs => d'.items.bind fun ys => .ok (zipL xs ys)) := p1
        cases ei : d.items with
        | ok xs =>
          rw [ei] at p1
          have p1 : PostG X.K X.mg (fun _ F' _ ds J => WalkD X.K X.mg F' ds J) F1 H1 (WE W σ) Q (d'.items.bind fun ys => .ok (zipL xs ys)) := p1
          cases ej : d'.items with
          | ok ys =>
            rw [ej] at p1
            obtain ⟨a, us, e2, e3, e4⟩ := items_rp r2 ei
            obtain ⟨b, ws, f2, f3, f4⟩ := items_rp r3 ej
            exact ⟨a, b, us, ws, by rw [e1, e2, f2], x1.fh.seq e3, x1.fh.seq f3, PostG.ok p1 x1.fh (walkD_zip e3 f3 e4 f4)⟩
          | exc x => cases d' <;> cases ej
          | stuck => rw [ej] at p1; exact p1.elim
        | exc x => cases d <;> cases ei
        | stuck => rw [ei] at p1; exact p1.elim
def iRevD : List D → R (List D) := fun ds => match ds with
  | [d] => d.items.bind fun xs => .ok xs.reverse
  | _ => .stuck
theorem walkD_rev {K : PySem.W.Frag} {mg : Str → Option Value} {F' : Hp} {ds : List D} {vs : List V} {a : Addr} (e : SqL K F' a vs) (r : RpL K mg F' ds vs) : WalkD K mg F' ds.reverse (Itv K a vs.length) := by
  have w := walk_rev (K := K) (a := a) (xs := vs)
  unfold WalkD
  rw [List.length_reverse, r.length]
  refine w.mono (fun H z => z.seq e) fun i H x H' hi z y Fc s zc => ?_
  obtain ⟨rfl, ex⟩ := y
  have ex' : vs.reverse[i]? = some x := by rw [List.getElem?_reverse hi]; exact ex
  obtain ⟨d, ed, rd⟩ := (RpL.reverse r).getV ex'
  exact ⟨Fc, d, Ext.refl zc, ed, Rp.mono s _ _ rd⟩
theorem di_rev {tg : Expr} (hg : Gl X "reversed") (hm : X.mg "reversed" = none) (ha : DA X W [a] fo) (hs : starEach [a] X.env = [(false, eval a X.env)] := by rfl) : DI X W tg (.Call (.Name "reversed" p) [a] [] pos) (iCall iRevD fo) := by
  refine PI.weak (pi_reversed hg hm ha hs) ?_
  rintro σ H Q ⟨F0, H0, F, Γ, r, p⟩
  refine ⟨F0, H0, F, Γ, r, PostG.bind p (fun ds vs F1 H1 _ x1 r1 p1 => ?_) fun _ _ _ _ _ h => h⟩
  have r1 : RpL X.K X.mg F1 ds vs := r1
  cases ds with
  | nil => exact p1.elim
  | cons d ds =>
    cases ds with
    | cons _ _ => exact p1.elim
    | nil =>
      obtain ⟨v, e1, r2⟩ := r1.one
      have p1 : PostG X.K X.mg (fun _ F' _ ds J => WalkD X.K X.mg F' ds J) F1 H1 (WE W σ) Q (d.items.bind fun xs => .ok xs.reverse) := p1
      cases ei : d.items with
      | ok xs =>
        rw [ei] at p1
        obtain ⟨a, us, e2, e3, e4⟩ := items_rp r2 ei
        exact ⟨a, us, by rw [e1, e2], x1.fh.seq e3, PostG.ok p1 x1.fh (walkD_rev e3 e4)⟩
      | exc x => cases d <;> cases ei
      | stuck => rw [ei] at p1; exact p1.elim
def rngDn (lo : Int) (n : Nat) : List D := (List.range n).map fun (i : Nat) => D.int (lo + (i : Nat) * (-1))
def iRange3 : List D → R (List D) := fun ds => match ds with
  | [.int i, .int j, .int k] => if inR62 i && inR62 j && decide (k = -1) then .ok (rngDn i (i - j).toNat) else .stuck
  | _ => .stuck
theorem walkD_dn {K : PySem.W.Frag} {mg : Str → Option Value} {F' : Hp} {lo : Int} {n : Nat} : WalkD K mg F' (rngDn lo n) (Itc lo (-1) n) := by
  have w := walk_rangeC (lo := lo) (c := -1) (n := n)
  unfold WalkD
  have hl : (rngDn lo n).length = n := by unfold rngDn; rw [List.length_map, List.length_range]
  rw [hl]
  refine w.mono (fun H z => trivial) fun i H x H' hi z y Fc s zc => ?_
  obtain ⟨rfl, rfl⟩ := y
  refine ⟨Fc, .int (lo + (i : Nat) * (-1)), Ext.refl zc, ?_, Rp.int⟩
  unfold rngDn
  rw [List.getElem?_map, List.getElem?_range hi]
  rfl
theorem di_range3 {tg : Expr} (hg : Gl X "range") (hm : X.mg "range" = none) (ha : DA X W [a, b, c] fo)
    (hs : starEach [a, b, c] X.env = (false, eval a X.env) :: starEach [b, c] X.env := by rfl) (hpl : (backTo pos (starEach [b, c] X.env)).any (·.1) = false := by rfl) : DI X W tg (.Call (.Name "range" p) [a, b, c] [] pos) (iCall iRange3 fo) := by
  refine PI.weak (pi_range3 hg hm ha hs hpl) ?_
  rintro σ H Q ⟨F0, H0, F, Γ, r, p⟩
  refine ⟨F0, H0, F, Γ, r, PostG.bind p (fun ds vs F1 H1 _ x1 r1 p1 => ?_) fun _ _ _ _ _ h => h⟩
  have r1 : RpL X.K X.mg F1 ds vs := r1
  cases ds with
  | nil => exact p1.elim
  | cons d1 ds =>
    cases ds with
    | nil => cases d1 <;> exact p1.elim
    | cons d2 ds =>
      cases ds with
      | nil => cases d1 <;> cases d2 <;> exact p1.elim
      | cons d3 ds =>
        cases ds with
        | cons _ _ => cases d1 <;> first | exact p1.elim | (cases d2 <;> first | exact p1.elim | (cases d3 <;> exact p1.elim))
        | nil =>
          cases d1 with
          | int i =>
            cases d2 with
            | int j =>
              cases d3 with
              | int k =>
                obtain ⟨v1, us, e1, r2, r3⟩ := r1.cons_iff
                obtain ⟨v2, v3, e2, r4, r5⟩ := r3.two
                obtain ⟨cc, p2⟩ := ifR p1
                obtain ⟨c1, c2⟩ := andB cc
                obtain ⟨c3, c4⟩ := andB c1
                obtain ⟨q1, q2⟩ := in62 c3
                obtain ⟨q3, q4⟩ := in62 c4
                have ek := of_decide_eq_true c2
                subst ek
                exact ⟨i, j, -1, (i - j).toNat, by rw [e1, e2, r2.int_iff, r4.int_iff, r5.int_iff], RgC.neg q1 q2 q3 q4, PostG.ok p2 x1.fh walkD_dn⟩
              | _ => exact p1.elim
            | _ => exact p1.elim
          | _ => exact p1.elim
def signsD (z : Str) : List D := z.cps.toList.map fun c => D.str ⟨#[c]⟩
def D.itemsS : D → R (List D)
  | .str z => .ok (signsD z)
  | _ => .stuck
def iOfS (f : DL.Env → R D) : DL.Env → R (List D) := fun Γ => (f Γ).bind D.itemsS
def cutL {α : Type} (xs : List α) (lo hi : Option Int) : List α := (xs.drop (HT.sIx xs.length 0 lo)).take (HT.sIx xs.length xs.length hi - HT.sIx xs.length 0 lo)
theorem RpL.cut {K : PySem.W.Frag} {mg : Str → Option Value} {F : Hp} {ds : List D} {vs : List V} (r : RpL K mg F ds vs) (lo hi : Option Int) : RpL K mg F (cutL ds lo hi) (cutV vs lo hi) := by
  unfold cutL cutV
  rw [← r.length]
  exact RpL.take _ (RpL.drop _ r)
def oSl1 (d : D) (lo hi : Option Int) : R (List D) := d.items.bind fun xs => .ok (cutL xs lo hi)
def sl1 (d : D) (lo hi : Option Int) : R D := match d with
  | .lst xs => .ok (.lst (cutL xs lo hi))
  | .scr ns => .ok (.lst (cutL (ns.map D.int) lo hi))
  | .tup xs => if decide (HT.sIx xs.length 0 lo = 0) && decide (HT.sIx xs.length xs.length hi = xs.length) then .stuck else .ok (.tup (cutL xs lo hi))
  | .str z => if z.length ≤ LIM then .ok (.str (cutS z lo hi)) else .stuck
  | _ => .stuck
def tDP (X : Cx) (W : WX) (f : DL.Env → R (Option Int)) : TO := fun σ H Q => ∃ F0 H0 F Γ, Rel X.K X.mg F0 H0 F H σ Γ ∧ PostG X.K X.mg repB F H (WE W σ) Q (f Γ)
abbrev DP (X : Cx) (W : WX) (e : Option Expr) (f : DL.Env → R (Option Int)) : Prop := PO X e (tDP X W f)
theorem PO.weak {X : Cx} {e : Option Expr} {t t' : TO} (h : PO X e t) (w : ∀ σ H Q, t' σ H Q → t σ H Q) : PO X e t' := ⟨fun pins s σ H Q I q => h.run pins s σ H Q I (w σ H Q q)⟩
def pNo : DL.Env → R (Option Int) := fun _ => .ok none
def asI : D → R (Option Int)
  | .int i => .ok (some i)
  | _ => .stuck
def pSo (f : DL.Env → R D) : DL.Env → R (Option Int) := fun Γ => (f Γ).bind asI
theorem dp_no : DP X W none pNo := PO.weak po_none fun σ H Q ⟨_, _, _, _, r, p⟩ => PostG.ok p r.fz rfl
theorem dp_so (h : DE X W e f) : DP X W (some e) (pSo f) := by
  refine PO.weak (po_some h) ?_
  rintro σ H Q ⟨F0, H0, F, Γ, r, p⟩
  refine ⟨F0, H0, F, Γ, r, PostG.bind p (fun d v F1 H1 _ x1 r1 p1 => ?_) fun _ _ _ _ _ h => h⟩
  cases d with
  | int i => exact ⟨i, (show Rp X.K X.mg F1 (.int i) v from r1).int_iff, PostG.ok p1 x1.fh rfl⟩
  | _ => exact p1.elim
def eSl (f : DL.Env → R D) (fl fh : DL.Env → R (Option Int)) : DL.Env → R D := fun Γ => (f Γ).bind fun d => (fl Γ).bind fun lo => (fh Γ).bind fun hi => sl1 d lo hi
def oSl (f : DL.Env → R D) (fl fh : DL.Env → R (Option Int)) : DL.Env → R (List D) := fun Γ => (f Γ).bind fun d => (fl Γ).bind fun lo => (fh Γ).bind fun hi => oSl1 d lo hi
def rSlA (K : PySem.W.Frag) : V → Option Int → Option Int → Hp → VK → Prop := fun x lo hi H Q => rSlL K x lo hi H Q ∨ (rSlT K x lo hi H Q ∨ rSlS x lo hi H Q)
theorem slA : SlR X (rSlA X.K) := sl_list.or (sl_tup.or sl_str)
theorem bind3 {α β : Type} {rep : Hp → Hp → Hp → α → β → Prop} {Q : β → Hp → Prop} {fl fh : DL.Env → R (Option Int)} {g : D → Option Int → Option Int → R α} {Q2 : V → Option Int → Option Int → Hp → Prop}
    (up : ∀ {F H F' H'} (x : Ext F H F' H') a' b' F2 H2, rep H' F2 H2 a' b' → rep H F2 H2 a' b') (r : Rel X.K X.mg F0 H0 F H σ Γ)
    (p : PostG X.K X.mg rep F H (WE W σ) Q ((f Γ).bind fun d => (fl Γ).bind fun lo => (fh Γ).bind fun hi => g d lo hi))
    (k : ∀ d v lo hi F2 H2, Ext F H F2 H2 → Rp X.K X.mg F2 d v → PostG X.K X.mg rep F2 H2 (WE W σ) Q (g d lo hi) → Q2 v lo hi H2) :
    tD X W f σ H (fun v H1 => tDP X W fl σ H1 fun lo H2 => tDP X W fh σ H2 fun hi H3 => Q2 v lo hi H3) := by
  refine ⟨F0, H0, F, Γ, r, PostG.bind p (fun d v F1 H1 _ x1 r1 p1 => ?_) fun x => up x⟩
  refine ⟨F0, H0, F1, Γ, r.step x1, PostG.bind p1 (fun lo lo' F2 H2 _ x2 r2 p2 => ?_) fun x => up x⟩
  have e1 : lo' = lo := r2
  subst e1
  refine ⟨F0, H0, F2, Γ, (r.step x1).step x2, PostG.bind p2 (fun hi hi' F3 H3 _ x3 r3 p3 => ?_) fun x => up x⟩
  have e2 : hi' = hi := r3
  subst e2
  exact k d v lo' hi' F3 H3 ((x1.trans x2).trans x3) (Rp.mono (x2.ff.trans x3.ff) _ _ r1) p3
theorem de_slice {lo hi : Option Expr} {fl fh : DL.Env → R (Option Int)} {p2 : Pos} (he : DE X W e f) (hl : DP X W lo fl) (hh : DP X W hi fh) : DE X W (.Subscript e (.Slice lo hi none p2) pos) (eSl f fl fh) := by
  refine PE.weak (pe_slice slA he hl hh) ?_
  rintro σ H Q ⟨F0, H0, F, Γ, r, p⟩
  refine bind3 (fun _ _ _ _ _ h => h) r p fun d v lo hi F2 H2 x r1 p1 => ?_
  cases d with
  | lst xs =>
    obtain ⟨a, vs, e1, e2, e3⟩ := r1.lstH x.fh
    refine .inl ⟨a, vs, e1, SqL.of e2, fun q hq => ?_⟩
    have x3 := Ext.laid (o := .lst (cutV vs lo hi)) x.fh hq
    exact PostG.at p1 x3 (Rp.lst upd_same (RpL.mono x3.ff _ _ (e3.cut lo hi)))
  | scr ns =>
    obtain ⟨a, e1, e2⟩ := r1.scr_iff
    refine .inl ⟨a, _, e1, x.fh.seq e2, fun q hq => ?_⟩
    have x3 := Ext.laid (o := .lst (cutV (ns.map V.int) lo hi)) x.fh hq
    exact PostG.at p1 x3 (Rp.lst upd_same (RpL.mono x3.ff _ _ (RpL.ints.cut lo hi)))
  | tup xs =>
    obtain ⟨a, vs, e1, e2, e3⟩ := r1.tupH x.fh
    have p1 : PostG X.K X.mg (repV X.K X.mg) F2 H2 (WE W σ) Q (if decide (HT.sIx xs.length 0 lo = 0) && decide (HT.sIx xs.length xs.length hi = xs.length) then .stuck else .ok (.tup (cutL xs lo hi))) := p1
    by_cases cc : (decide (HT.sIx xs.length 0 lo = 0) && decide (HT.sIx xs.length xs.length hi = xs.length)) = true
    · rw [if_pos cc] at p1
      exact p1.elim
    · rw [if_neg cc] at p1
      refine .inr (.inl ⟨a, vs, e1, e2, fun ⟨q1, q2⟩ => cc ?_, fun q hq => ?_⟩)
      · rw [← e3.length] at q1 q2
        rw [decide_eq_true q1, decide_eq_true q2]
        rfl
      · have x3 := Ext.laid (o := .tup (cutV vs lo hi)) x.fh hq
        exact PostG.at p1 x3 (Rp.tup upd_same (RpL.mono x3.ff _ _ (e3.cut lo hi)))
  | str z =>
    obtain ⟨cc, p2⟩ := ifR p1
    exact .inr (.inr ⟨z, r1.str_iff, by rw [LIM_eq]; exact cc, PostG.ok p2 x.fh Rp.str⟩)
  | _ => exact p1.elim
def oRev (f : DL.Env → R D) : DL.Env → R (List D) := fun Γ => (f Γ).bind fun d => d.items.bind fun xs => .ok xs.reverse
end
end DL
namespace DL
open PySem PySem.Spec L2
def oList : List D → R (List D) := fun ds => match ds with
  | [.lst xs] => .ok xs
  | [.scr ns] => .ok (ns.map D.int)
  | [.tup xs] => .ok xs
  | _ => .stuck
def dDivmodB : D → D → R D
  | .int i, .int j => if decide (0 < j) && decide (j.natAbs.log2 < 9000) then .ok (.tup [.int (i / j), .int (i % j)]) else .stuck
  | _, _ => .stuck
abbrev dDivmod := un2 dDivmodB
def sClear (i : Nat) : DL.Env → Out := fun Γ => match Env.at_ Γ i with
  | some (.own _) => .nx (Γ.set i (some (.own [])))
  | _ => .stuck
def sPop (i : Nat) : DL.Env → Out := fun Γ => match Env.at_ Γ i with
  | some (.own ds) => if ds = [] then .stuck else .nx (Γ.set i (some (.own ds.dropLast)))
  | _ => .stuck
section
variable {X : Cx} {W : WX} {F0 : Fe} {H0 F H : Hp} {σ : L2.St} {Γ : DL.Env} {Dn : Ends} {e a b c : Expr} {es : List Expr} {g : DL.Env → Out} {f fa fb fk fv : DL.Env → R D} {fo : DL.Env → R (List D)} {ft : DL.Env → R Bool} {pos p : Pos}
theorem satO_list : SatLO X (fun xs H Q => ∃ p ys, xs = [.ref p] ∧ (SqL X.K H p ys ∨ SqT X.K H p ys) ∧ ∀ l, H l = none → Q (.ref l) (upd H l (.lst ys))) oList := by
  intro F H ds vs E Q z r p
  cases ds with
  | nil => exact p.elim
  | cons d ds =>
    cases ds with
    | cons _ _ => cases d <;> exact p.elim
    | nil =>
      obtain ⟨v, e, r1⟩ := r.one
      cases d with
      | lst xs =>
        obtain ⟨l, ws, e1, e2, e3⟩ := r1.lstH z
        exact ⟨l, ws, by rw [e, e1], .inl (SqL.of e2), fun q hq => PostG.at p (Ext.heap z hq) ⟨q, ws, rfl, upd_same, z.free hq, hq, e3⟩⟩
      | scr ns =>
        obtain ⟨l, e1, e2⟩ := r1.scr_iff
        exact ⟨l, _, by rw [e, e1], .inl (z.seq e2), fun q hq => PostG.at p (Ext.heap z hq) ⟨q, _, rfl, upd_same, z.free hq, hq, RpL.ints⟩⟩
      | tup xs =>
        obtain ⟨l, ws, e1, e2, e3⟩ := r1.tupH z
        exact ⟨l, ws, by rw [e, e1], .inr e2, fun q hq => PostG.at p (Ext.heap z hq) ⟨q, ws, rfl, upd_same, z.free hq, hq, e3⟩⟩
      | _ => exact p.elim
theorem sat_divmod : SatL X (fun xs H Q => ∃ i j, xs = [.int i, .int j] ∧ CDivP i j ∧ ∀ p, H p = none → Q (.ref p) (upd H p (.tup [.int (i / j), .int (i % j)]))) dDivmod := sat_un2 fun F H x y v u E Q z r1 r2 p => by
  cases x with
  | int i =>
    cases y with
    | int j =>
      obtain ⟨cc, p2⟩ := ifR p
      obtain ⟨c1, c2⟩ := andB cc
      refine ⟨i, j, by rw [r1.int_iff, r2.int_iff], ⟨of_decide_eq_true c1, PyProof.noPylong_of_log2 (of_decide_eq_true c2)⟩, fun q hq => PostG.at p2 (Ext.laid z hq) (Rp.tup upd_same (RpL.cons Rp.int (RpL.cons Rp.int RpL.nil)))⟩
    | _ => exact p.elim
  | _ => exact p.elim
theorem ds_setIx (i : Nat) {x : Str} {p1 : Pos} (hk : DE X W b fk) (he : DE X W e fv) (hN : X.N[i]? = some x := by rfl) (hv : Vis X.env.scope x := by first | exact Or.inl (by kernel_rfl) | exact Or.inr (Or.inl (by kernel_rfl)) | exact Or.inr (Or.inr (by kernel_rfl))) (hd : (x == ("__debug__" : Str)) = false := by kernel_rfl)
    (hcd : (x == ("__classdict__" : Str)) = false := by kernel_rfl)
    (ha : ∀ v, assign (.Subscript (.Name x p1) b p) X.env v = (do
      let ov ← holding [v] (eval (.Name x p1) X.env)
      let iv ← holding [v, ov] (eval b X.env)
      standAt p
      holding [v, ov, iv] (setItem ov iv v)
      release [v, ov, iv] []) := by intro _; rfl)
    (hs : swapsWithSole [.Subscript (.Name x p1) b p] e pos.line X.env = pure false := by rfl) (hw : swappedStores [.Subscript (.Name x p1) b p] e X.env = pure none := by rfl)
    (h1 : (assignEach [.Subscript (.Name x p1) b p] X.env).map (·.2) = [assign (.Subscript (.Name x p1) b p) X.env] := by rfl) : DS X W (.Assign [.Subscript (.Name x p1) b p] e pos) (sSetIx i fk fv) := by
  refine PS.weak (ps_asg he (pg_sub (pe_var hN hv hd hcd) hk set_list ha) hs hw h1) ?_
  rintro Dn σ H ⟨F0, H0, F, Γ, r, p⟩
  refine ⟨F0, H0, F, Γ, r, PostS.out r p fun d w F1 H1 _ x1 r1 p1 => ?_⟩
  revert p1
  cases ei : Env.at_ Γ i with
  | none => exact fun p => p.elim
  | some s =>
    cases s with
    | hdc _ _ _ => exact fun p => p.elim
    | abs _ _ => exact fun p => p.elim
    | oob b c ns fs => exact fun p => p.elim
    | hnd m ds =>
      intro p1
      have rl1 := r.step x1
      obtain ⟨v, h1, l, vs, e1, e2, e3, e4, e5⟩ := rl1.slot i _ (at_get ei)
      subst e1
      refine ⟨_, h1, F0, H0, F1, Γ, rl1, PostS.out rl1 p1 fun k kv F2 H2 _ x2 r2 p2 => ?_⟩
      cases k with
      | int k =>
        rw [(show Rp X.K X.mg F2 (.int k) kv from r2).int_iff]
        have p2 : PostS X W F0 H0 Dn (match ixN ds.length k with | some j => Out.nx (Γ.set i (some (.hnd m (ds.set j d)))) | none => Out.stuck) := p2
        revert p2
        cases ej : ixN ds.length k with
        | none => exact fun p => p.elim
        | some j =>
          intro p2
          refine ⟨l, vs, k, j, rfl, rfl, x2.hh _ _ e2, by rw [← e5.length]; exact ej, p2 _ F2 _ ?_⟩
          have rl2 := rl1.step x2
          refine rl2.mutO (at_get ei) rfl h1 rfl ⟨l, vs.set j w, rfl, upd_same, ?_, e4, RpL.set j (RpL.mono x2.ff _ _ e5) (Rp.mono x2.ff _ _ r1)⟩
          cases q : F2 l with
          | none => rfl
          | some o =>
            rcases x2.new l o q with z | z
            · rw [e3] at z; cases z
            · rw [e2] at z; cases z
      | _ => exact p2.elim
    | val d => exact fun p => p.elim
    | dic ks ds => exact fun p => p.elim
    | own ds =>
      intro p1
      have rl1 := r.step x1
      obtain ⟨v, h1, l, vs, e1, e2, e3, e4, e5⟩ := rl1.slot i _ (at_get ei)
      subst e1
      refine ⟨_, h1, F0, H0, F1, Γ, rl1, PostS.out rl1 p1 fun k kv F2 H2 _ x2 r2 p2 => ?_⟩
      cases k with
      | int k =>
        rw [(show Rp X.K X.mg F2 (.int k) kv from r2).int_iff]
        have p2 : PostS X W F0 H0 Dn (match ixN ds.length k with | some j => Out.nx (Γ.set i (some (.own (ds.set j d)))) | none => Out.stuck) := p2
        revert p2
        cases ej : ixN ds.length k with
        | none => exact fun p => p.elim
        | some j =>
          intro p2
          refine ⟨l, vs, k, j, rfl, rfl, x2.hh _ _ e2, by rw [← e5.length]; exact ej, p2 _ F2 _ ?_⟩
          have rl2 := rl1.step x2
          refine rl2.mutO (at_get ei) rfl h1 rfl ⟨l, vs.set j w, rfl, upd_same, ?_, e4, RpL.set j (RpL.mono x2.ff _ _ e5) (Rp.mono x2.ff _ _ r1)⟩
          cases q : F2 l with
          | none => rfl
          | some o =>
            rcases x2.new l o q with z | z
            · rw [e3] at z; cases z
            · rw [e2] at z; cases z
      | _ => exact p2.elim
end
end DL
namespace DL
open PySem PySem.Spec L2
def dKey : D → Option Key
  | .int i => some (.inl i)
  | .str x => some (.inr x)
  | _ => none
section
variable {α : Type}
def lkD : List Key → List α → Key → Option α
  | k :: ks, d :: ds, j => if k = j then some d else lkD ks ds j
  | _, _, _ => none
def puV : List Key → List α → Key → α → List α
  | k :: ks, d :: ds, j, x => (if k = j then x else d) :: puV ks ds j x
  | _, _, _, _ => []
def putD (ks : List Key) (ds : List α) (j : Key) (x : α) : List Key × List α := if (lkD ks ds j).isSome = true then (ks, puV ks ds j x) else (ks ++ [j], ds ++ [x])
end
section
variable {K : PySem.W.Frag} {mg : Str → Option Value} {F : Hp}
theorem RpL.lk : ∀ {ks : List Key} {ds : List D} {vs : List V} {j : Key} {d : D}, RpL K mg F ds vs → lkD ks ds j = some d → ∃ v, lkD ks vs j = some v ∧ Rp K mg F d v
  | [], _, _, _, _, _, e => by simp [lkD] at e
  | _ :: _, [], _, _, _, _, e => by simp [lkD] at e
  | k :: ks, d :: ds, vs, j, d', r, e => by
    obtain ⟨v, us, rfl, r1, r2⟩ := r.cons_iff
    unfold lkD at e ⊢
    by_cases q : k = j
    · rw [if_pos q] at e ⊢
      cases e
      exact ⟨v, rfl, r1⟩
    · rw [if_neg q] at e ⊢
      exact RpL.lk r2 e
theorem RpL.lkS : ∀ {ks : List Key} {ds : List D} {vs : List V} {j : Key}, RpL K mg F ds vs → (lkD ks vs j).isSome = (lkD ks ds j).isSome
  | [], _, _, _, _ => by simp [lkD]
  | _ :: _, [], _, _, r => by rw [r.nil_iff]; simp [lkD]
  | k :: ks, d :: ds, vs, j, r => by
    obtain ⟨v, us, rfl, r1, r2⟩ := r.cons_iff
    unfold lkD
    by_cases q : k = j
    · rw [if_pos q, if_pos q]; rfl
    · rw [if_neg q, if_neg q]
      exact RpL.lkS r2
theorem RpL.pu : ∀ {ks : List Key} {ds : List D} {vs : List V} {j : Key} {d : D} {v : V}, RpL K mg F ds vs → Rp K mg F d v → RpL K mg F (puV ks ds j d) (puV ks vs j v)
  | [], _, _, _, _, _, _, _ => by simp [puV]; exact RpL.nil
  | _ :: _, [], _, _, _, _, r, _ => by rw [r.nil_iff]; simp [puV]; exact RpL.nil
  | k :: ks, d' :: ds, vs, j, d, v, r, rd => by
    obtain ⟨w, us, rfl, r1, r2⟩ := r.cons_iff
    unfold puV
    by_cases q : k = j
    · rw [if_pos q, if_pos q]
      exact RpL.cons rd (RpL.pu r2 rd)
    · rw [if_neg q, if_neg q]
      exact RpL.cons r1 (RpL.pu r2 rd)
theorem RpL.put {ks : List Key} {ds : List D} {vs : List V} {j : Key} {d : D} {v : V} (r : RpL K mg F ds vs) (rd : Rp K mg F d v) : (putD ks ds j d).1 = (putD ks vs j v).1 ∧ RpL K mg F (putD ks ds j d).2 (putD ks vs j v).2 := by
  unfold putD
  rw [r.lkS]
  split
  · exact ⟨rfl, RpL.pu r rd⟩
  · exact ⟨rfl, RpL.append r (RpL.cons rd RpL.nil)⟩
end
def dNew : DL.Env → R (List Key × List D) := fun _ => .ok ([], [])
def sPut (i : Nat) (fk fv : DL.Env → R D) : DL.Env → Out := fun Γ => (fv Γ).out Γ fun d => match Env.at_ Γ i with
  | some (.dic ks ds) => (fk Γ).out Γ fun k => match dKey k with
    | some j => if ks.length < LIM then .nx (Γ.set i (some (.dic (putD ks ds j d).1 (putD ks ds j d).2))) else .stuck
    | none => .stuck
  | some (.hdc m ks ds) => (fk Γ).out Γ fun k => match dKey k with
    | some j => if ks.length < LIM then .nx (Γ.set i (some (.hdc m (putD ks ds j d).1 (putD ks ds j d).2))) else .stuck
    | none => .stuck
  | _ => .stuck
def bHas (n : Bool) (i : Nat) (fk : DL.Env → R D) : DL.Env → R Bool := fun Γ => (fk Γ).bind fun k => match Env.at_ Γ i with
  | some (.dic ks ds) => (match dKey k with
    | some j => .ok ((lkD ks ds j).isSome != n)
    | none => .stuck)
  | some (.hdc _ ks ds) => (match dKey k with
    | some j => .ok ((lkD ks ds j).isSome != n)
    | none => .stuck)
  | _ => .stuck
def eOwnGet (i : Nat) (fk : DL.Env → R D) : DL.Env → R D := fun Γ => match Env.at_ Γ i with
  | some (.dic ks ds) => (fk Γ).bind fun k => match dKey k with
    | some j => (match lkD ks ds j with | some d => .ok d | none => .stuck)
    | none => .stuck
  | some (.hdc _ ks ds) => (fk Γ).bind fun k => match dKey k with
    | some j => (match lkD ks ds j with | some d => .ok d | none => .stuck)
    | none => .stuck
  | _ => .stuck
def dInD : D → D → R D
  | k, .dk ks ds => match dKey k with
    | some j => .ok (.bl (lkD ks ds j).isSome)
    | none => .stuck
  | _, _ => .stuck
def dNotInD : D → D → R D
  | k, .dk ks ds => match dKey k with
    | some j => .ok (.bl (!(lkD ks ds j).isSome))
    | none => .stuck
  | _, _ => .stuck
section
variable {X : Cx} {W : WX} {F0 : Fe} {H0 F H : Hp} {σ : L2.St} {Γ : DL.Env} {Dn : Ends} {e a b c : Expr} {es : List Expr} {g : DL.Env → Out} {f fa fb fk fv : DL.Env → R D} {fo : DL.Env → R (List D)} {ft : DL.Env → R Bool} {pos p : Pos}
end
end DL
namespace ZL
open PySem PySem.Spec PySem.Calls PyProof.Rows PyProof.V PySem.W
abbrev ZipK (h : Heap) (z TI TO a : Addr) (f : Bool) : Prop :=
  h.get? z = some { cls := .type "zip", dict := none, data := .fields #[rawInt a, .bool f, .bool false, .ref TI, .ref TO], slots := #[] }
section
variable {prog : Program} {w : World} {A : Around} {E : Value → Shared → Prop} {s : Shared} {z TI TO i1 i2 l1 l2 : Addr} {k1 k2 : Nat} {xs ys : Array Value} {x y : Value}
theorem isFree_kept {a : Addr} {f : Bool} {oa : Obj} {Q : Bool → Shared → Prop} (hz : ZipK s.heap z TI TO a f) (ha : s.heap.get? a = some oa)
    (h : ∀ h', ZipK h' z TI TO a true → Heap.SameBut z s.heap h' → Q false { s with heap := h' }) : wpAny (model prog w) A (Builtin.SmallTypes.ownedTupleIsFree (.ref z)) Q E s := by
  unfold Builtin.SmallTypes.ownedTupleIsFree
  refine wpAny_bind (wpAny_field hz rfl (x := rawInt a) rfl ?_)
  show wpAny _ _ (loadIfAlive ((a : Int).toNat) >>= _) _ _ _
  rw [Int.toNat_natCast]
  refine wpAny_bind (kdx_alive ha ?_)
  simp only [Option.isNone_some, Bool.false_eq_true, if_false]
  refine wpAny_bind (wpAny_field hz rfl (x := .bool f) rfl ?_)
  cases f with
  | true =>
    rw [if_neg (show ¬ ((Value.bool true != Value.bool true) = true) from Bool.false_ne_true)]
    exact wpAny_pure (h s.heap hz (Heap.SameBut.refl _ _))
  | false =>
    rw [if_pos (show (Value.bool false != Value.bool true) = true from rfl)]
    exact wpAny_bind (wpAny_setField_rec hz (by simp) fun h₃ he₃ hs₃ => wpAny_pure (h h₃ he₃ hs₃))
theorem next_kept {a : Addr} {f : Bool} {oa : Obj} {Q : Value → Shared → Prop} (D : ZipApart z TI TO i1 i2 l1 l2) (hz : ZipK s.heap z TI TO a f) (ha : s.heap.get? a = some oa) (hTI : IsPair s.heap TI (.ref i1) (.ref i2))
    (h1 : s.heap.IsListIter i1 l1 k1) (h2 : s.heap.IsListIter i2 l2 k2) (hl1 : s.heap.IsList l1 xs) (hl2 : s.heap.IsList l2 ys) (hx : xs[k1]? = some x) (hy : ys[k2]? = some y)
    (hQ : ∀ h', ZipK h' z TI TO a true → h'.IsListIter i1 l1 (k1 + 1) → h'.IsListIter i2 l2 (k2 + 1) → IsPair h' s.heap.objs.size x y → h'.objs.size = s.heap.objs.size + 1 →
      (∀ c o, c ≠ z → c ≠ i1 → c ≠ i2 → s.heap.get? c = some o → h'.get? c = some o) → Q (.ref s.heap.objs.size) { s with heap := h' }) :
    wpAny (model prog w) A (Builtin.«zip.__next__» ⟨[.ref z], []⟩) (fun fin s' => ∃ v, fin = .done (.ret v) ∧ Q v s') E s := by
  show wpAny _ _ (field (.ref z) 2 >>= _) _ _ _
  refine wpAny_bind (wpAny_field hz rfl (x := .bool false) rfl ?_)
  show wpAny _ _ (field (.ref z) 3 >>= _) _ _ _
  refine wpAny_bind (wpAny_field hz rfl (x := .ref TI) rfl ?_)
  refine wpAny_bind (wpAny_seqItems hTI rfl ?_)
  show wpAny _ _ (Builtin.SmallTypes.ownedTupleIsFree (.ref z) >>= _) _ _ _
  refine wpAny_bind (isFree_kept hz ha fun h₁ hz₁ hs₁ => ?_)
  simp only [Bool.false_eq_true, if_false]
  refine wpAny_bind ?_
  simp only [List.forIn_toArray, List.forIn_cons, List.forIn_nil]
  refine wpAny_bind (wpAny_bind (wpAny_holding ?_))
  show wpAny _ _ (Builtin.SmallTypes.nextOf (.ref i1) >>= _) _ _ _
  refine wpAny_bind (wpAny_nextOf_list_item (h1.extBut hs₁.extBut D.i1z) (hl1.extBut hs₁.extBut D.l1z) hx fun h₂ h1₂ hs₂ => wpAny_pure (wpAny_pure ?_))
  refine wpAny_bind (wpAny_bind (wpAny_holding ?_))
  show wpAny _ _ (Builtin.SmallTypes.nextOf (.ref i2) >>= _) _ _ _
  refine wpAny_bind (wpAny_nextOf_list_item ((h2.extBut hs₁.extBut D.i2z).extBut hs₂.extBut D.i12.symm) ((hl2.extBut hs₁.extBut D.l2z).extBut hs₂.extBut D.l2i1) hy fun h₃ h2₃ hs₃ => wpAny_pure (wpAny_pure (wpAny_pure ?_)))
  refine wpAny_bind (wpAny_newTuple ?_ (by show 2 ≤ sizeLine; decide))
  refine wpAny_pure ⟨_, rfl, ?_⟩
  have hsz : h₃.objs.size = s.heap.objs.size := by rw [hs₃.1, hs₂.1, hs₁.1]
  have up : ∀ c o, c ≠ z → c ≠ i1 → c ≠ i2 → s.heap.get? c = some o → (h₃.push { cls := .type "tuple", data := .seq #[x, y] }).get? c = some o := fun c o c1 c2 c3 e => Heap.get?_push_of_some _ (hs₃.extBut _ _ c3 (hs₂.extBut _ _ c2 (hs₁.extBut _ _ c1 e)))
  show Q (.ref h₃.objs.size) _
  rw [hsz]
  refine hQ _ (Heap.get?_push_of_some _ (hs₃.extBut _ _ D.i2z.symm (hs₂.extBut _ _ D.i1z.symm hz₁))) ((h1₂.extBut hs₃.extBut D.i12).at fun o e => Heap.get?_push_of_some _ e) (h2₃.at fun o e => Heap.get?_push_of_some _ e) ?_ (by rw [Heap.size_push, hsz]) up
  rw [← hsz]
  exact Heap.get?_push_size _ rfl
theorem end_kept {a : Addr} {f : Bool} {oa : Obj} {Q : PySem.Fin → Shared → Prop} (hh : A.handled = none) (D : ZipApart z TI TO i1 i2 l1 l2) (hz : ZipK s.heap z TI TO a f) (ha : s.heap.get? a = some oa) (hTI : IsPair s.heap TI (.ref i1) (.ref i2))
    (h1 : s.heap.IsListIter i1 l1 k1) (h2 : s.heap.IsListIter i2 l2 k2) (hl1 : s.heap.IsList l1 xs) (hl2 : s.heap.IsList l2 ys) (hend : xs[k1]? = none ∨ ys[k2]? = none)
    (hE : ∀ h' e, (∀ c o, c ≠ z → c ≠ i1 → c ≠ i2 → s.heap.get? c = some o → h'.get? c = some o) → (∃ o, h'.get? e = some o ∧ o.cls = .type "StopIteration") → E (.ref e) { s with heap := h' }) :
    wpAny (model prog w) A (Builtin.«zip.__next__» ⟨[.ref z], []⟩) Q E s := by
  show wpAny _ _ (field (.ref z) 2 >>= _) _ _ _
  refine wpAny_bind (wpAny_field hz rfl (x := .bool false) rfl ?_)
  show wpAny _ _ (field (.ref z) 3 >>= _) _ _ _
  refine wpAny_bind (wpAny_field hz rfl (x := .ref TI) rfl ?_)
  refine wpAny_bind (wpAny_seqItems hTI rfl ?_)
  show wpAny _ _ (Builtin.SmallTypes.ownedTupleIsFree (.ref z) >>= _) _ _ _
  refine wpAny_bind (isFree_kept hz ha fun h₁ hz₁ hs₁ => ?_)
  simp only [Bool.false_eq_true, if_false]
  refine wpAny_bind ?_
  simp only [List.forIn_toArray, List.forIn_cons, List.forIn_nil]
  refine wpAny_bind (wpAny_bind (wpAny_holding ?_))
  show wpAny _ _ (Builtin.SmallTypes.nextOf (.ref i1) >>= _) _ _ _
  cases hx : xs[k1]? with
  | none =>
    refine wpAny_bind (wpAny_nextOf_list_end hh (h1.extBut hs₁.extBut D.i1z) (hl1.extBut hs₁.extBut D.l1z) hx fun h₂ e hs₂ he => ?_)
    exact hE h₂ e (fun c o c1 c2 _ q => hs₂ _ _ c2 (hs₁.extBut _ _ c1 q)) he
  | some x =>
    have hy : ys[k2]? = none := by rcases hend with h | h; rw [hx] at h; cases h; exact h
    refine wpAny_bind (wpAny_nextOf_list_item (h1.extBut hs₁.extBut D.i1z) (hl1.extBut hs₁.extBut D.l1z) hx fun h₂ h1₂ hs₂ => wpAny_pure (wpAny_pure ?_))
    refine wpAny_bind (wpAny_bind (wpAny_holding ?_))
    show wpAny _ _ (Builtin.SmallTypes.nextOf (.ref i2) >>= _) _ _ _
    refine wpAny_bind (wpAny_nextOf_list_end hh ((h2.extBut hs₁.extBut D.i2z).extBut hs₂.extBut D.i12.symm) ((hl2.extBut hs₁.extBut D.l2z).extBut hs₂.extBut D.l2i1) hy fun h₃ e hs₃ he => ?_)
    exact hE h₃ e (fun c o c1 c2 c3 q => hs₃ _ _ c3 (hs₂.extBut _ _ c2 (hs₁.extBut _ _ c1 q))) he
theorem pyNext_kept {a : Addr} {f : Bool} {oa : Obj} {Q : Option Value → Shared → Prop} (D : ZipApart z TI TO i1 i2 l1 l2) (hz : ZipK s.heap z TI TO a f) (ha : s.heap.get? a = some oa) (hTI : IsPair s.heap TI (.ref i1) (.ref i2))
    (h1 : s.heap.IsListIter i1 l1 k1) (h2 : s.heap.IsListIter i2 l2 k2) (hl1 : s.heap.IsList l1 xs) (hl2 : s.heap.IsList l2 ys) (hx : xs[k1]? = some x) (hy : ys[k2]? = some y)
    (hQ : ∀ h', ZipK h' z TI TO a true → h'.IsListIter i1 l1 (k1 + 1) → h'.IsListIter i2 l2 (k2 + 1) → IsPair h' s.heap.objs.size x y → h'.objs.size = s.heap.objs.size + 1 →
      (∀ c o, c ≠ z → c ≠ i1 → c ≠ i2 → s.heap.get? c = some o → h'.get? c = some o) → Q (some (.ref s.heap.objs.size)) { s with heap := h' }) :
    wpAny (model prog w) A (pyNext (.ref z)) Q E s := by
  have hT : s.TypeIs (.ref z) "zip" := ⟨_, hz, rfl⟩
  unfold pyNext
  exact wpAny_bind (wpAny_attempt (wpAny_callSpecial?_slot (name := Str.ofString "__next__") hT PySem.F.slot_zip_next
    (wpAny_call_entry PySem.F.slot_zip_next hT PySem.F.entry_zip_next
      (next_kept D hz ha hTI h1 h2 hl1 hl2 hx hy fun h' a1 a2 a3 a4 a5 a6 => wpAny_pure (hQ h' a1 a2 a3 a4 a5 a6)) (PySem.F.args_zip_next_1 _))))
theorem pyNext_kept_end {a : Addr} {f : Bool} {oa : Obj} {Q : Option Value → Shared → Prop} (hh : A.handled = none) (D : ZipApart z TI TO i1 i2 l1 l2) (hz : ZipK s.heap z TI TO a f) (ha : s.heap.get? a = some oa) (hTI : IsPair s.heap TI (.ref i1) (.ref i2))
    (h1 : s.heap.IsListIter i1 l1 k1) (h2 : s.heap.IsListIter i2 l2 k2) (hl1 : s.heap.IsList l1 xs) (hl2 : s.heap.IsList l2 ys) (hend : xs[k1]? = none ∨ ys[k2]? = none)
    (hQ : ∀ h', (∀ c o, c ≠ z → c ≠ i1 → c ≠ i2 → s.heap.get? c = some o → h'.get? c = some o) → Q none { s with heap := h' }) : wpAny (model prog w) A (pyNext (.ref z)) Q E s := by
  have hT : s.TypeIs (.ref z) "zip" := ⟨_, hz, rfl⟩
  unfold pyNext
  refine wpAny_bind (wpAny_attempt (wpAny_callSpecial?_slot (name := Str.ofString "__next__") hT PySem.F.slot_zip_next
    (wpAny_call_entry PySem.F.slot_zip_next hT PySem.F.entry_zip_next (end_kept hh D hz ha hTI h1 h2 hl1 hl2 hend fun h' e hk he => ?_) (PySem.F.args_zip_next_1 _))))
  obtain ⟨o, ho, hc⟩ := he
  refine wpAny_bind (wpAny_isInstance (T := "StopIteration") (b := true) ⟨o, ho, hc⟩ isSubtype_stop ?_)
  exact wpAny_pure (hQ _ hk)
structure ZG (xs ys : Array Value) (lo : Addr) (h : Heap) (as : List Addr) : Prop where
  rise : as.Pairwise (· < ·)
  above : ∀ a ∈ as, lo < a
  pairs : ∀ (j : Nat) (a : Addr), as[j]? = some a → ∃ x y, xs[j]? = some x ∧ ys[j]? = some y ∧ h.get? a = some { cls := .type "tuple", data := .seq #[x, y] }
theorem ZG.there {lo : Addr} {h : Heap} {as : List Addr} (g : ZG xs ys lo h as) {a : Addr} (ha : a ∈ as) : a < h.objs.size := by
  obtain ⟨j, hj⟩ := List.mem_iff_getElem?.mp ha
  obtain ⟨_, _, _, _, e⟩ := g.pairs j a hj
  exact Heap.lt_size e
structure ZSt (h : Heap) (z TI TO i1 i2 l1 l2 S : Addr) (xs ys : Array Value) (i : Nat) : Prop where
  ti : IsPair h TI (.ref i1) (.ref i2)
  a1 : h.IsListIter i1 l1 i
  a2 : h.IsListIter i2 l2 i
  b1 : h.IsList l1 xs
  b2 : h.IsList l2 ys
  st : (IsZip h z TI TO .none ∧ ∃ a b, IsPair h TO a b) ∨ ∃ a f oa, ZipK h z TI TO a f ∧ h.get? a = some oa ∧ S < a
structure Below (z TI TO i1 i2 l1 l2 S : Addr) : Prop where
  z : z < S
  TI : TI < S
  TO : TO < S
  i1 : i1 < S
  i2 : i2 < S
  l1 : l1 < S
  l2 : l2 < S
theorem ZSt.keep {h h' : Heap} {S : Addr} {i : Nat} (B : Below z TI TO i1 i2 l1 l2 S) (x : ZSt h z TI TO i1 i2 l1 l2 S xs ys i) (hk : ∀ b o, b ≠ S → h.get? b = some o → h'.get? b = some o) : ZSt h' z TI TO i1 i2 l1 l2 S xs ys i := by
  refine ⟨hk _ _ (Nat.ne_of_lt B.TI) x.ti, x.a1.at fun o e => hk _ o (Nat.ne_of_lt B.i1) e, x.a2.at fun o e => hk _ o (Nat.ne_of_lt B.i2) e, x.b1.at fun o e => hk _ o (Nat.ne_of_lt B.l1) e, x.b2.at fun o e => hk _ o (Nat.ne_of_lt B.l2) e, ?_⟩
  rcases x.st with ⟨q, a, b, r⟩ | ⟨a, f, oa, q, r, t⟩
  · exact .inl ⟨hk _ _ (Nat.ne_of_lt B.z) q, a, b, hk _ _ (Nat.ne_of_lt B.TO) r⟩
  · exact .inr ⟨a, f, oa, hk _ _ (Nat.ne_of_lt B.z) q, hk _ _ (Nat.ne_of_gt t) r, t⟩
theorem z_item {S : Addr} {i : Nat} {Q : Option Value → Shared → Prop} (D : ZipApart z TI TO i1 i2 l1 l2) (B : Below z TI TO i1 i2 l1 l2 S) (st : ZSt s.heap z TI TO i1 i2 l1 l2 S xs ys i) (hS : S < s.heap.objs.size) (hx : xs[i]? = some x) (hy : ys[i]? = some y)
    (hQ : ∀ h', ZSt h' z TI TO i1 i2 l1 l2 S xs ys (i + 1) → h'.get? s.heap.objs.size = some { cls := .type "tuple", data := .seq #[x, y] } → h'.objs.size = s.heap.objs.size + 1 →
      (∀ c o, c ≠ z → c ≠ TO → c ≠ i1 → c ≠ i2 → s.heap.get? c = some o → h'.get? c = some o) → Q (some (.ref s.heap.objs.size)) { s with heap := h' }) :
    wpAny (model prog w) A (pyNext (.ref z)) Q E s := by
  rcases st.st with ⟨q, a, b, r⟩ | ⟨a, f, oa, q, r, t⟩
  · refine wpAny_pyNext_zip_item D q st.ti r st.a1 st.a2 st.b1 st.b2 hx hy fun h' c1 c2 c3 c4 c5 c6 hk => hQ h' ⟨hk _ _ D.TIz D.TITO D.TIi1 D.TIi2 st.ti, c3, c4, st.b1.at fun o e => hk _ o D.l1z D.l1TO D.l1i1 D.l1i2 e, st.b2.at fun o e => hk _ o D.l2z D.l2TO D.l2i1 D.l2i2 e, .inr ⟨_, false, _, c1, c5, hS⟩⟩ c5 c6 hk
  · refine pyNext_kept D q r st.ti st.a1 st.a2 st.b1 st.b2 hx hy fun h' c1 c3 c4 c5 c6 hk => hQ h' ⟨hk _ _ D.TIz D.TIi1 D.TIi2 st.ti, c3, c4, st.b1.at fun o e => hk _ o D.l1z D.l1i1 D.l1i2 e, st.b2.at fun o e => hk _ o D.l2z D.l2i1 D.l2i2 e, .inr ⟨a, true, oa, c1, hk _ _ ?_ ?_ ?_ r, t⟩⟩ c5 c6 fun c o d1 d2 d3 d4 e => hk c o d1 d3 d4 e
    · exact Nat.ne_of_gt (Nat.lt_trans B.z t)
    · exact Nat.ne_of_gt (Nat.lt_trans B.i1 t)
    · exact Nat.ne_of_gt (Nat.lt_trans B.i2 t)
theorem z_done {S : Addr} {i : Nat} {Q : Option Value → Shared → Prop} (hh : A.handled = none) (D : ZipApart z TI TO i1 i2 l1 l2) (st : ZSt s.heap z TI TO i1 i2 l1 l2 S xs ys i) (hend : xs[i]? = none ∨ ys[i]? = none)
    (hQ : ∀ h', (∀ c o, c ≠ z → c ≠ TO → c ≠ i1 → c ≠ i2 → s.heap.get? c = some o → h'.get? c = some o) → Q none { s with heap := h' }) : wpAny (model prog w) A (pyNext (.ref z)) Q E s := by
  rcases st.st with ⟨q, a, b, r⟩ | ⟨a, f, oa, q, r, t⟩
  · exact wpAny_pyNext_zip_end hh D q st.ti r st.a1 st.a2 st.b1 st.b2 hend hQ
  · exact pyNext_kept_end hh D q r st.ti st.a1 st.a2 st.b1 st.b2 hend fun h' hk => hQ h' fun c o d1 d2 d3 d4 e => hk c o d1 d3 d4 e
end
section
variable {prog : Program} {w : World} {A : Around} {s : Shared} {R : Result → Shared → Prop} {z TI TO i1 i2 l1 l2 S : Addr} {xs ys : Array Value}
theorem z_loop (hh : A.handled = none) (D : ZipApart z TI TO i1 i2 l1 l2) (B : Below z TI TO i1 i2 l1 l2 S) (hn : min xs.size ys.size ≤ sizeLine) (res : Value) {h₁ : Heap}
    (hR : ∀ h' tk acc c as, (∀ b o, b ≠ S → b ≠ z → b ≠ TO → b ≠ i1 → b ≠ i2 → h₁.get? b = some o → h'.get? b = some o) → h'.get? S = some { cls := .type "list", dict := none, data := .seq acc c, slots := #[] } → as.length = min xs.size ys.size → ZG xs ys S h' as →
      acc.toList = as.map Value.ref → R (.ok (.ret res)) { s with heap := h', toks := tk }) :
    ∀ (k i : Nat) (h : Heap) (tk c : Nat) (acc : Array Value) (as : List Addr), min xs.size ys.size - i = k → i ≤ min xs.size ys.size → ZSt h z TI TO i1 i2 l1 l2 S xs ys i → (∀ b o, b ≠ S → b ≠ z → b ≠ TO → b ≠ i1 → b ≠ i2 → h₁.get? b = some o → h.get? b = some o) →
      h.get? S = some { cls := .type "list", dict := none, data := .seq acc c, slots := #[] } → acc.toList = as.map Value.ref → as.length = i → ZG xs ys S h as →
      codeAny (model prog w) A (.builtin "list.extend.loop" ⟨[.ref S, .ref z, res], []⟩) R { s with heap := h, toks := tk } := by
  have nS : ∀ {a}, a < S → S ≠ a := fun h => Nat.ne_of_gt h
  intro k
  induction k with
  | zero =>
    intro i h tk c acc as hk hi hst hkeep hS hacc hal hG
    have hin : i = min xs.size ys.size := by omega
    have hend : xs[i]? = none ∨ ys[i]? = none := by
      rcases Nat.le_total xs.size ys.size with q | q
      · exact .inl (Array.getElem?_eq_none (by omega))
      · exact .inr (Array.getElem?_eq_none (by omega))
    refine codeAny_builtin PySem.F.entry_extend_loop ?_
    rw [Around.under_plainId PySem.F.plain_extend_loop _]
    show wpAny _ A.in1 (pyNext (.ref z) >>= _) _ _ _
    refine wpAny_bind (z_done (s := { s with heap := h, toks := tk }) (A := A.in1) hh D hst hend fun h' he => ?_)
    refine wpAny_pure (hR h' tk acc c as (fun b o h0 h1 h2 h3 h4 e => he b o h1 h2 h3 h4 (hkeep b o h0 h1 h2 h3 h4 e)) (he S _ (nS B.z) (nS B.TO) (nS B.i1) (nS B.i2) hS) (by omega) ⟨hG.rise, hG.above, fun j a hj => ?_⟩ hacc)
    obtain ⟨x, y, e1, e2, e3⟩ := hG.pairs j a hj
    have hb := hG.above a (List.mem_of_getElem? hj)
    exact ⟨x, y, e1, e2, he a _ (Nat.ne_of_gt (Nat.lt_trans B.z hb)) (Nat.ne_of_gt (Nat.lt_trans B.TO hb)) (Nat.ne_of_gt (Nat.lt_trans B.i1 hb)) (Nat.ne_of_gt (Nat.lt_trans B.i2 hb)) e3⟩
  | succ k ih =>
    intro i h tk c acc as hk hi hst hkeep hS hacc hal hG
    have hlt : i < min xs.size ys.size := by omega
    have hx : xs[i]? = some (xs[i]'(by omega)) := Array.getElem?_eq_getElem (by omega)
    have hy : ys[i]? = some (ys[i]'(by omega)) := Array.getElem?_eq_getElem (by omega)
    have hsz : acc.size = i := by rw [← Array.length_toList, hacc, List.length_map, hal]
    refine codeAny_builtin PySem.F.entry_extend_loop ?_
    rw [Around.under_plainId PySem.F.plain_extend_loop _]
    show wpAny _ A.in1 (pyNext (.ref z) >>= _) _ _ _
    refine wpAny_bind (z_item (s := { s with heap := h, toks := tk }) (S := S) D B hst (Heap.lt_size hS) hx hy fun h' hst' ht hz hkp => ?_)
    dsimp only at ht hz hkp ⊢
    have hS' := hkp S _ (nS B.z) (nS B.TO) (nS B.i1) (nS B.i2) hS
    have up : ∀ b o, b ≠ S → h'.get? b = some o → (h'.update S (Obj.mapSeq (·.push (Value.ref h.objs.size)))).get? b = some o := fun b o hb e => (Heap.get?_update_other _ _ (Ne.symm hb)).trans e
    have hSl : S < h.objs.size := Heap.lt_size hS
    show wpAny _ A.in1 (updateSeq S (·.push (Value.ref h.objs.size)) >>= _) _ _ _
    refine wpAny_bind ?_
    refine wpAny_updateSeq hS' rfl (wpAny_pure ⟨plainId_quiet PySem.F.plain_extend_loop _, ih (i + 1) _ tk _ (acc.push (Value.ref h.objs.size)) (as ++ [h.objs.size]) (by omega) hlt (hst'.keep B up)
      (fun b o h0 h1 h2 h3 h4 e => up b o h0 (hkp b o h1 h2 h3 h4 (hkeep b o h0 h1 h2 h3 h4 e))) (Heap.get?_update_self _ hS' rfl) (by rw [Array.toList_push, hacc, List.map_append]; rfl) (by rw [List.length_append, hal]; rfl) ⟨?_, ?_, ?_⟩⟩) (by rw [hsz]; omega) (by show (acc.push (Value.ref h.objs.size)).size ≤ sizeLine + 1; rw [Array.size_push, hsz]; omega)
    · refine List.pairwise_append.mpr ⟨hG.rise, List.pairwise_singleton _ _, fun a ha b hb => ?_⟩
      rw [List.mem_singleton.mp hb]
      exact hG.there ha
    · intro a ha
      rcases List.mem_append.mp ha with ha | ha
      · exact hG.above a ha
      · rw [List.mem_singleton.mp ha]; exact hSl
    · intro j b hj
      rcases Nat.lt_trichotomy j as.length with h1 | h1 | h1
      · rw [List.getElem?_append_left h1] at hj
        obtain ⟨x', y', e1, e2, e3⟩ := hG.pairs j b hj
        have hb := hG.above b (List.mem_of_getElem? hj)
        exact ⟨x', y', e1, e2, up b _ (Nat.ne_of_gt hb) (hkp b _ (Nat.ne_of_gt (Nat.lt_trans B.z hb)) (Nat.ne_of_gt (Nat.lt_trans B.TO hb)) (Nat.ne_of_gt (Nat.lt_trans B.i1 hb)) (Nat.ne_of_gt (Nat.lt_trans B.i2 hb)) e3)⟩
      · subst h1
        have hb : h.objs.size = b := by simpa using hj
        subst hb
        exact ⟨_, _, by rw [hal]; exact hx, by rw [hal]; exact hy, up _ _ (Nat.ne_of_gt hSl) ht⟩
      · have hnone : (as ++ [h.objs.size])[j]? = none := List.getElem?_eq_none (by rw [List.length_append, List.length_singleton]; omega)
        rw [hnone] at hj; cases hj
end
theorem zip_no_len : typeLookup (.type "zip") "__len__" = pure none := by rw [typeLookup_type, builtinLookup_eq_fast]; kernel_rfl
theorem zip_no_hint : typeLookup (.type "zip") "__length_hint__" = pure none := by rw [typeLookup_type, builtinLookup_eq_fast]; kernel_rfl
section
variable {prog : Program} {w : World} {A : Around} {E : Value → Shared → Prop} {s : Shared} {z TI TO i1 i2 l1 l2 S : Addr} {xs ys : Array Value}
theorem z_hint (hT : s.TypeIs (.ref z) "zip") {Q : Bool → Shared → Prop} (h : Q true s) : wpAny (model prog w) A (Builtin.List.listLengthHint (.ref z)) Q E s := by
  unfold Builtin.List.listLengthHint
  refine wpAny_bind (wpAny_specialOf hT zip_no_len ?_)
  refine wpAny_bind (wpAny_specialOf hT zip_no_hint ?_)
  exact wpAny_pure h
theorem z_extend {R : Result → Shared → Prop} (hh : A.handled = none) (D : ZipApart z TI TO i1 i2 l1 l2) (B : Below z TI TO i1 i2 l1 l2 S) (hn : min xs.size ys.size ≤ sizeLine) (st : ZSt s.heap z TI TO i1 i2 l1 l2 S xs ys 0) (hz0 : ∃ f0, IsZip s.heap z TI TO f0) (res : Value) (c₀ : Nat) (hS : s.heap.get? S = some { cls := .type "list", data := .seq #[] c₀ })
    (hR : ∀ h' tk acc c as, (∀ b o, b ≠ S → b ≠ z → b ≠ TO → b ≠ i1 → b ≠ i2 → s.heap.get? b = some o → h'.get? b = some o) → h'.get? S = some { cls := .type "list", dict := none, data := .seq acc c, slots := #[] } → as.length = min xs.size ys.size → ZG xs ys S h' as →
      acc.toList = as.map Value.ref → R (.ok (.ret res)) { s with heap := h', toks := tk }) :
    wpAny (model prog w) A.in1 (Builtin.List.listExtendWith (.ref S) (.ref z) res)
      (fun fin s' => match fin with | .done f => R (.ok f) s' | .again c' => c'.quiet = true ∧ codeAny (model prog w) A c' R s') (fun e s' => R (.error e) s') s := by
  obtain ⟨f0, hz⟩ := hz0
  have hT : s.TypeIs (.ref z) "zip" := ⟨_, hz, rfl⟩
  have key : ∀ (h : Heap) (c₁ tk : Nat), (∀ b o, b ≠ S → s.heap.get? b = some o → h.get? b = some o) →
      h.get? S = some { cls := .type "list", data := .seq #[] c₁ } → codeAny (model prog w) A (.builtin "list.extend.loop" ⟨[.ref S, .ref z, res], []⟩) R { s with heap := h, toks := tk } := by
    intro h c₁ tk hk hS₁
    exact z_loop (s := s) (h₁ := s.heap) hh D B hn res hR (min xs.size ys.size) 0 h tk c₁ #[] [] (Nat.sub_zero _) (Nat.zero_le _) (st.keep B hk) (fun b o hb _ _ _ _ e => hk b o hb e) hS₁ rfl rfl
      ⟨List.Pairwise.nil, (fun _ ha => nomatch ha), (fun j a hj => by simp at hj)⟩
  unfold Builtin.List.listExtendWith
  refine wpAny_bind (wpAny_typeOf (T := "zip") hT ?_)
  have h1 : Builtin.List.listSameRef (.ref S) (.ref z) = false := by simp [Builtin.List.listSameRef, Nat.ne_of_gt B.z]
  have h2 : (Value.type "zip" == Value.type "list") = false := by decide
  have h3 : (Value.type "zip" == Value.type "tuple") = false := by decide
  simp only [h1, h2, h3, Bool.or_false, Bool.false_eq_true, if_false]
  refine wpAny_bind (wpAny_pyIter_zip hz ?_)
  refine wpAny_bind (wpAny_holding (z_hint hT ?_))
  refine wpAny_ite_split (fun _ => ?_) (fun hab => absurd rfl hab)
  refine wpAny_bind (wpAny_rule ?_)
  refine wpAny_bind ?_
  show wpAny _ _ (updateSeq S (·.push .none) >>= fun _ => updateSeq S (·.pop)) _ _ _
  refine wpAny_bind (wpAny_updateSeq hS rfl ?_)
  have hS₂ := Heap.get?_update_self (Obj.mapSeq (·.push Value.none)) hS rfl
  refine wpAny_updateSeq (hz := by seq_fits) hS₂ rfl ?_
  have hS₃ := Heap.get?_update_self (Obj.mapSeq (·.pop)) hS₂ rfl
  refine wpAny_pure ⟨plainId_quiet PySem.F.plain_extend_loop _, key _ _ _ (fun b o hb e => ?_) hS₃⟩
  exact (Heap.get?_update_other _ _ (Ne.symm hb)).trans ((Heap.get?_update_other _ _ (Ne.symm hb)).trans e)
theorem z_init {R : Result → Shared → Prop} (hh : A.handled = none) (D : ZipApart z TI TO i1 i2 l1 l2) (B : Below z TI TO i1 i2 l1 l2 S) (hn : min xs.size ys.size ≤ sizeLine) (st : ZSt s.heap z TI TO i1 i2 l1 l2 S xs ys 0) (hz0 : ∃ f0, IsZip s.heap z TI TO f0) (hS : s.heap.get? S = some { cls := .type "list", data := .seq #[] })
    (hR : ∀ h' tk acc c as, (∀ b o, b ≠ S → b ≠ z → b ≠ TO → b ≠ i1 → b ≠ i2 → s.heap.get? b = some o → h'.get? b = some o) → h'.get? S = some { cls := .type "list", dict := none, data := .seq acc c, slots := #[] } → as.length = min xs.size ys.size → ZG xs ys S h' as →
      acc.toList = as.map Value.ref → R (.ok (.ret .none)) { s with heap := h', toks := tk }) :
    wpAny (model prog w) A.in1 (Builtin.«list.__init__» ⟨[.ref S, .ref z], []⟩)
      (fun fin s' => match fin with | .done f => R (.ok f) s' | .again c' => c'.quiet = true ∧ codeAny (model prog w) A c' R s') (fun e s' => R (.error e) s') s := by
  show wpAny _ _ (do let old ← Builtin.List.listItems (.ref S); Builtin.List.listUpdate (.ref S) (fun _ => #[]); letGo old.toList.reverse; Builtin.List.listExtendWith (.ref S) (.ref z) .none) _ _ s
  refine wpAny_bind ?_
  unfold Builtin.List.listItems
  refine wpAny_bind (wpAny_seqItems hS rfl (wpAny_pure ?_))
  show wpAny _ _ (updateSeq S (fun _ => #[]) >>= fun _ => letGo (#[] : Array Value).toList.reverse >>= fun _ => Builtin.List.listExtendWith (.ref S) (.ref z) .none) _ _ s
  refine wpAny_bind (wpAny_updateSeq hS rfl ?_)
  have hS₂ := Heap.get?_update_self (Obj.mapSeq (fun _ => (#[] : Array Value))) hS rfl
  have oth : ∀ b o, b ≠ S → s.heap.get? b = some o → (s.heap.update S (Obj.mapSeq (fun _ => (#[] : Array Value)))).get? b = some o :=
    fun b o hb e => (Heap.get?_update_other _ _ (Ne.symm hb)).trans e
  refine wpAny_bind (wpAny_letGo ?_)
  refine z_extend hh D B hn (st.keep B oth) (let ⟨f0, q⟩ := hz0; ⟨f0, oth _ _ (Nat.ne_of_lt B.z) q⟩) .none _ hS₂ (fun h' tk acc c as hk hS' hl hG hacc => ?_)
  exact hR h' tk acc c as (fun b o hb b1 b2 b3 b4 e => hk b o hb b1 b2 b3 b4 (oth b o hb e)) hS' hl hG hacc
theorem z_call {Q : Value → Shared → Prop} (hh : A.handled = none) (D : ZipApart z TI TO i1 i2 l1 l2) (B : Below z TI TO i1 i2 l1 l2 s.heap.objs.size) (hn : min xs.size ys.size ≤ sizeLine) (st : ZSt s.heap z TI TO i1 i2 l1 l2 s.heap.objs.size xs ys 0) (hz0 : ∃ f0, IsZip s.heap z TI TO f0)
    (hQ : ∀ h' tk acc c as, (∀ b o, b ≠ z → b ≠ TO → b ≠ i1 → b ≠ i2 → s.heap.get? b = some o → h'.get? b = some o) → h'.get? s.heap.objs.size = some { cls := .type "list", dict := none, data := .seq acc c, slots := #[] } → as.length = min xs.size ys.size → ZG xs ys s.heap.objs.size h' as →
      acc.toList = as.map Value.ref → Q (.ref s.heap.objs.size) { s with heap := h', toks := tk }) :
    wpAny (model prog w) A (call (.type "list") [.ref z]) Q E s := by
  refine callType_codes (Q₁ := fun obj s₁ => obj = .ref s.heap.objs.size ∧ s₁ = { s with heap := s.heap.push { cls := .type "list", data := .seq #[] } }) PySem.F.called_list (PySem.F.typeCall_list_1 _) PySem.F.entry_list_init
    (code_list_new _ ⟨rfl, rfl⟩) fun obj s₁ h₁ => ?_
  obtain ⟨rfl, rfl⟩ := h₁
  have hS : (s.heap.push { cls := .type "list", data := .seq #[] }).get? s.heap.objs.size = some { cls := .type "list", data := .seq #[] } := Heap.get?_push_size _ rfl
  have pu : ∀ b o, b ≠ s.heap.objs.size → s.heap.get? b = some o → (s.heap.push { cls := .type "list", data := .seq #[] }).get? b = some o := fun b o _ e => Heap.get?_push_of_some _ e
  refine ⟨⟨_, hS, rfl⟩, PySem.F.args_list_init_2 _ _, z_init (A := A.in1) hh D B hn (st.keep B pu) (let ⟨f0, q⟩ := hz0; ⟨f0, Heap.get?_push_of_some _ q⟩) hS (fun h' tk acc c as hk hS' hl hG hacc => ?_)⟩
  exact ⟨rfl, hQ h' tk acc c as (fun b o b1 b2 b3 b4 e => hk b o (Nat.ne_of_lt (Heap.lt_size e)) b1 b2 b3 b4 (Heap.get?_push_of_some _ e)) hS' hl hG hacc⟩
end
end ZL
namespace ZL
open PySem PySem.Spec PyProof.Rows L2
def putP : Hp → List Addr → List (V × V) → Hp
  | H, a :: as, p :: kvs => putP (upd H a (.tup [p.1, p.2])) as kvs
  | H, _, _ => H
theorem putP_off {b : Addr} : ∀ (as : List Addr) (kvs : List (V × V)) (H : Hp), b ∉ as → putP H as kvs b = H b
  | [], _, _, _ => rfl
  | _ :: _, [], _, _ => rfl
  | a :: as, p :: kvs, H, h => by
    show putP (upd H a (.tup [p.1, p.2])) as kvs b = H b
    rw [putP_off as kvs _ (fun z => h (List.mem_cons_of_mem _ z)), upd_ne (fun z => h (by rw [z]; exact List.mem_cons_self))]
theorem putP_at : ∀ (as : List Addr) (kvs : List (V × V)) (H : Hp), as.length = kvs.length → as.Nodup → ∀ (j : Nat) (a : Addr), as[j]? = some a → ∃ p, kvs[j]? = some p ∧ putP H as kvs a = some (.tup [p.1, p.2])
  | [], [], _, _, _, _, _, e => by simp at e
  | [], _ :: _, _, h, _, _, _, _ => by cases h
  | _ :: _, [], _, h, _, _, _, _ => by cases h
  | a :: as, p :: kvs, H, h, hn, j, b, e => by
    have hn' := List.nodup_cons.mp hn
    cases j with
    | zero =>
      have eb : a = b := by simpa using e
      subst eb
      refine ⟨p, rfl, ?_⟩
      show putP (upd H a (.tup [p.1, p.2])) as kvs a = _
      rw [putP_off as kvs _ hn'.1, upd_same]
    | succ j =>
      obtain ⟨q, h1, h2⟩ := putP_at as kvs (upd H a (.tup [p.1, p.2])) (Nat.succ.inj h) hn'.2 j b (by simpa using e)
      exact ⟨q, by simpa using h1, h2⟩
def tListZip (K : PySem.W.Frag) (ta : TA) : TE := fun σ H Q => ta σ H fun vs H1 => ∃ a b xs ys, vs = [.ref a, .ref b] ∧ SqL K H1 a xs ∧ SqL K H1 b ys ∧
  ∀ (H' : Hp) (p : Addr) (ts : List Addr), (∀ b o, H1 b = some o → H' b = some o) → H1 p = none → (∀ t ∈ ts, H1 t = none) → p ∉ ts → ts.Nodup → H' p = some (.lst (ts.map V.ref)) →
    (∀ b, b ≠ p → b ∉ ts → H' b = H1 b) → ts.length = min xs.length ys.length → (∀ (j : Nat) (t : Addr), ts[j]? = some t → ∃ x y, xs[j]? = some x ∧ ys[j]? = some y ∧ H' t = some (.tup [x, y])) → Q (.ref p) H'
section
variable {X : Cx} {e e2 : Expr} {ta : TA} {p p2 pos pos2 : Pos}
theorem laid {pins : List (Addr × Obj)} {σ : L2.St} {H : Hp} {s : Shared} {h' : Heap} {tk : Nat} {xs ys : List V} {us ws : List Value} {acc : Array Value} {c : Nat} {as : List Addr} {S : Addr} (I : Inv X pins σ H s) (hle : s.heap.objs.size ≤ S) (vx : Vals xs us) (vy : Vals ys ws)
    (hz : min xs.length ys.length ≤ sizeLine) (hk : ∀ b o, s.heap.get? b = some o → h'.get? b = some o) (hS : h'.get? S = some { cls := .type "list", dict := none, data := .seq acc c, slots := #[] }) (hl : as.length = min us.toArray.size ws.toArray.size) (hG : ZG us.toArray ws.toArray S h' as) (hacc : acc.toList = as.map Value.ref) :
    ∃ H' : Hp, (∀ b o, H b = some o → H' b = some o) ∧ H S = none ∧ (∀ t ∈ as, H t = none) ∧ S ∉ as ∧ as.Nodup ∧ H' S = some (.lst (as.map V.ref)) ∧ (∀ b, b ≠ S → b ∉ as → H' b = H b) ∧ as.length = min xs.length ys.length ∧
      (∀ (j : Nat) (t : Addr), as[j]? = some t → ∃ x y, xs[j]? = some x ∧ ys[j]? = some y ∧ H' t = some (.tup [x, y])) ∧ Inv X pins σ H' { s with heap := h', toks := tk } := by
  have lx : xs.length = us.length := vx.length
  have ly : ys.length = ws.length := vy.length
  have hl' : as.length = min xs.length ys.length := by rw [hl, lx, ly]; rfl
  have lz : as.length = (xs.zip ys).length := by rw [hl', List.length_zip]
  have hSn : S ∉ as := fun z => Nat.lt_irrefl _ (hG.above _ z)
  have nd : as.Nodup := List.Pairwise.imp (fun {a b} (h : a < b) => Nat.ne_of_lt h) hG.rise
  have new : ∀ t ∈ as, H t = none := fun t ht => I.hok.fresh (Nat.le_of_lt (Nat.lt_of_le_of_lt hle (hG.above t ht)))
  have newS : H S = none := I.hok.fresh hle
  have atP := putP_at as (xs.zip ys) (upd H S (.lst (as.map V.ref))) lz nd
  have off : ∀ b, b ∉ as → b ≠ S → putP (upd H S (.lst (as.map V.ref))) as (xs.zip ys) b = H b := fun b h1 h2 => by rw [putP_off as _ _ h1, upd_ne h2]
  have low : ∀ b o, s.heap.get? b = some o → b ∉ as ∧ b ≠ S := fun b o e => ⟨fun z => absurd (Heap.lt_size e) (Nat.not_lt.mpr (Nat.le_of_lt (Nat.lt_of_le_of_lt hle (hG.above b z)))), Nat.ne_of_lt (Nat.lt_of_lt_of_le (Heap.lt_size e) hle)⟩
  have kp : ∀ b u, H b = some u → (putP (upd H S (.lst (as.map V.ref))) as (xs.zip ys)) b = some u := fun b u e => by
    rw [off b (fun z => by rw [new b z] at e; cases e) (fun z => by rw [z, newS] at e; cases e)]
    exact e
  have eS : putP (upd H S (.lst (as.map V.ref))) as (xs.zip ys) S = some (.lst (as.map V.ref)) := by rw [putP_off as _ _ hSn, upd_same]
  have pr : ∀ (j : Nat) (t : Addr), as[j]? = some t → ∃ x y, xs[j]? = some x ∧ ys[j]? = some y ∧ putP (upd H S (.lst (as.map V.ref))) as (xs.zip ys) t = some (.tup [x, y]) := fun j t e => by
    obtain ⟨q, h1, h2⟩ := atP j t e
    obtain ⟨h3, h4⟩ := List.getElem?_zip_eq_some.mp h1
    exact ⟨q.1, q.2, h3, h4, h2⟩
  refine ⟨putP (upd H S (.lst (as.map V.ref))) as (xs.zip ys), kp, newS, new, hSn, nd, eS, fun b h1 h2 => off b h2 h1, hl', pr, ?_⟩
  refine I.call' (ch := []) rfl ⟨fun b o q _ _ _ => hk b o q, fun b o q _ _ _ => ⟨o.slots, hk b o q⟩, fun b o q n _ => ?_, fun b o q _ => ⟨o, hk b o q⟩, fun b xs q => kp b _ q, fun b o u q => kp b _ q, fun b ps q => ⟨#[], by rw [kp b _ q]; simp⟩⟩ (fun b u q => ?_) I.bare fun b z => by simp at z
  · obtain ⟨z1, z2⟩ := low b o q
    rw [off b z1 z2]
    exact n
  · by_cases hb : b ∈ as
    · obtain ⟨j, ej⟩ := List.mem_iff_getElem?.mp hb
      obtain ⟨x, y, e1, e2, e3⟩ := pr j b ej
      rw [e3] at q
      cases q
      obtain ⟨u, v, f1, f2, f3⟩ := hG.pairs j b ej
      obtain ⟨u', g1, g2⟩ := vx.get e1
      obtain ⟨v', g3, g4⟩ := vy.get e2
      have k1 : u' = u := by
        have : us[j]? = some u := by simpa using f1
        rw [this] at g1
        exact (Option.some.inj g1).symm
      have k2 : v' = v := by
        have : ws[j]? = some v := by simpa using f2
        rw [this] at g3
        exact (Option.some.inj g3).symm
      subst k1 k2
      exact ⟨by show 2 ≤ sizeLine; decide, [u', v'], .cons g2 (.cons g4 .nil), ⟨_, f3, rfl, _, rfl⟩⟩
    · by_cases hb2 : b = S
      · rw [hb2] at q ⊢
        rw [eS] at q
        cases q
        refine ⟨by rw [List.length_map, hl']; exact hz, acc.toList, c, by rw [hacc]; exact LiI.vals_refs as, ?_⟩
        rw [Array.toArray_toList]
        exact hS
      · rw [off b hb hb2] at q
        exact (I.hok b u q).stay (fun d v _ y => hk d v y) (fun d y => kp d _ y) fun d xs y => kp d _ y
theorem pe_listZip (hc : X.calm = true) (ha : PA X [e, e2] ta) (hg : Gl X "list") (hm : X.mg "list" = none) (hgz : Gl X "zip") (hmz : X.mg "zip" = none) (hv : bootBuiltins "list" = some (.type "list"))
    (hs : starEach [.Call (.Name "zip" p2) [e, e2] [] pos2] X.env = (false, eval (.Call (.Name "zip" p2) [e, e2] [] pos2) X.env) :: starEach [] X.env := by rfl)
    (hs2 : starEach [e, e2] X.env = (false, eval e X.env) :: starEach [e2] X.env := by rfl) (hpl : (backTo pos2 (starEach [e2] X.env)).any (·.1) = false := by rfl) :
    PE X (.Call (.Name "list" p) [.Call (.Name "zip" p2) [e, e2] [] pos2] [] pos) (tListZip X.K ta) := by
  refine ⟨fun pins s σ H Q I hq => ?_⟩
  refine wpAny_Call_Name_kw (ld_blt I hg hm hv ?_)
  refine PyProof.Rows.callWith_type1 ?_ hs rfl
  rw [hs]
  show wpAny _ _ (spliced ((false, eval (.Call (.Name "zip" p2) [e, e2] [] pos2) X.env) :: backTo pos (starEach [] X.env))) _ _ s
  refine Calls.spliced_cons ?_
  refine Call_ (ld_blt I hgz hmz PyProof.Rows.boot_zip (PyProof.Rows.callWith_type1 (thn (ha.run pos2 pins s σ H _ I hq) fun us s1 ⟨vs, H1, I1, r1, q1⟩ => ?_) hs2 hpl))
  obtain ⟨a, b, xs, ys, ex, hqx, hqy, q⟩ := q1
  subst ex
  cases r1 with
  | cons r rr =>
    cases rr with
    | cons r' rr =>
      cases rr
      cases r
      cases r'
      obtain ⟨its, rv, p1, z1⟩ := I1.list hqx
      obtain ⟨its2, rv2, p2', z2⟩ := I1.list hqy
      have la : a < s1.heap.objs.size := p1.lt
      have lb : b < s1.heap.objs.size := p2'.lt
      refine call_zip_2 p1.isList p2'.isList fun h' hz hTI hTO h1 h2 hsz hk => ?_
      refine Calls.spliced_nil ?_
      have B : Below (s1.heap.objs.size + 4) (s1.heap.objs.size + 2) (s1.heap.objs.size + 3) s1.heap.objs.size (s1.heap.objs.size + 1) a b h'.objs.size := by
        rw [hsz]
        exact ⟨Nat.add_lt_add_left (by decide) _, Nat.add_lt_add_left (by decide) _, Nat.add_lt_add_left (by decide) _, Nat.lt_add_of_pos_right (by decide), Nat.add_lt_add_left (by decide) _, Nat.lt_of_lt_of_le la (Nat.le_add_right _ _), Nat.lt_of_lt_of_le lb (Nat.le_add_right _ _)⟩
      have st : ZSt h' (s1.heap.objs.size + 4) (s1.heap.objs.size + 2) (s1.heap.objs.size + 3) s1.heap.objs.size (s1.heap.objs.size + 1) a b h'.objs.size its.toArray its2.toArray 0 :=
        ⟨hTI, h1, h2, p1.isList.at fun o e => hk _ o e, p2'.isList.at fun o e => hk _ o e, .inl ⟨hz, _, _, hTO⟩⟩
      have hlen : min its.toArray.size its2.toArray.size ≤ sizeLine := by
        have e1 : xs.length = its.length := rv.length
        refine Nat.le_trans (Nat.min_le_left _ _) ?_
        rw [List.size_toArray, ← e1]
        exact z1
      refine z_call (s := { s1 with heap := h' }) (I1.ok.hd hc) (PySem.W.ktu_apart s1.heap.objs.size a b la lb) B hlen st ⟨_, hz⟩ fun h'' tk acc c as hk2 hS hl hG hacc => ?_
      have low : ∀ b o, s1.heap.get? b = some o → h''.get? b = some o := fun b o e => by
        have hlt := Heap.lt_size e
        have far : ∀ n, b ≠ s1.heap.objs.size + n := fun n => Nat.ne_of_lt (Nat.lt_of_lt_of_le hlt (Nat.le_add_right _ _))
        exact hk2 b o (far 4) (far 3) (far 0) (far 1) (hk b o e)
      obtain ⟨H', k1, k2, k3, k4, k5, k6, k7, k8, k9, J⟩ := laid (tk := tk) (S := h'.objs.size) I1 (by rw [hsz]; exact Nat.le_add_right _ _) rv rv2 (by
        have e1 : xs.length = its.length := rv.length
        have e2 : ys.length = its2.length := rv2.length
        rw [e1, e2]
        have : min its.toArray.size its2.toArray.size = min its.length its2.length := by simp
        rw [← this]
        exact hlen) low hS hl hG hacc
      exact ⟨.ref _, H', J, rfl, q H' _ as k1 k2 k3 k4 k5 k6 k7 k8 k9⟩
end
end ZL
namespace DL
open PySem PySem.Spec L2
def oZip : List D → R (List D) := fun ds => match ds with
  | [x, y] => x.items.bind fun xs => y.items.bind fun ys => .ok (zipL xs ys)
  | _ => .stuck
theorem RpL.ofGet {K : PySem.W.Frag} {mg : Str → Option Value} {F : Hp} : ∀ {ds : List D} {vs : List V}, ds.length = vs.length → (∀ (j : Nat) d v, ds[j]? = some d → vs[j]? = some v → Rp K mg F d v) → RpL K mg F ds vs
  | [], [], _, _ => RpL.nil
  | [], _ :: _, h, _ => by cases h
  | _ :: _, [], h, _ => by cases h
  | d :: ds, v :: vs, h, f => RpL.cons (f 0 d v rfl rfl) (RpL.ofGet (Nat.succ.inj h) fun j d v h1 h2 => f (j + 1) d v (by simpa using h1) (by simpa using h2))
section
variable {X : Cx} {W : WX} {e e2 : Expr} {f : DL.Env → R (List D)} {p p2 pos pos2 : Pos}
theorem do_listZip (hc : X.calm = true) (ha : DA X W [e, e2] f) (hg : Gl X "list") (hm : X.mg "list" = none) (hgz : Gl X "zip") (hmz : X.mg "zip" = none) (hv : bootBuiltins "list" = some (.type "list"))
    (hs : starEach [.Call (.Name "zip" p2) [e, e2] [] pos2] X.env = (false, eval (.Call (.Name "zip" p2) [e, e2] [] pos2) X.env) :: starEach [] X.env := by rfl)
    (hs2 : starEach [e, e2] X.env = (false, eval e X.env) :: starEach [e2] X.env := by rfl) (hpl : (backTo pos2 (starEach [e2] X.env)).any (·.1) = false := by rfl) :
    DO X W (.Call (.Name "list" p) [.Call (.Name "zip" p2) [e, e2] [] pos2] [] pos) (oCall oZip f) := by
  refine PE.weak (ZL.pe_listZip hc ha hg hm hgz hmz hv hs hs2 hpl) ?_
  rintro σ H Q ⟨F0, H0, F, Γ, r, p⟩
  refine ⟨F0, H0, F, Γ, r, PostG.bind p (fun ds vs F1 H1 _ x1 r1 p1 => ?_) upO⟩
  cases ds with
  | nil => exact p1.elim
  | cons d ds =>
    cases ds with
    | nil => exact p1.elim
    | cons d' ds =>
      cases ds with
      | cons _ _ => exact p1.elim
      | nil =>
        have r1 : RpL X.K X.mg F1 [d, d'] vs := r1
        obtain ⟨v, us, rfl, rv, ru⟩ := r1.cons_iff
        obtain ⟨v', us', rfl, rv', ru'⟩ := ru.cons_iff
        rw [ru'.nil_iff]
        have p1 : PostG X.K X.mg (repO X.K X.mg) F1 H1 (WE W σ) Q (d.items.bind fun xs => d'.items.bind fun ys => .ok (zipL xs ys)) := p1
        cases e1 : d.items with
        | exc x => exact absurd e1 (by cases d <;> intro h <;> cases h)
        | stuck => rw [e1] at p1; exact p1.elim
        | ok xs =>
          cases e2 : d'.items with
          | exc x => exact absurd e2 (by cases d' <;> intro h <;> cases h)
          | stuck => rw [e1, e2] at p1; exact p1.elim
          | ok ys =>
            rw [e1, e2] at p1
            obtain ⟨a, ws, ev, es, er⟩ := items_rp rv e1
            obtain ⟨b, ws', ev', es', er'⟩ := items_rp rv' e2
            refine ⟨a, b, ws, ws', by rw [ev, ev'], x1.fh.seq es, x1.fh.seq es', fun H' q ts k1 k2 k3 k4 k5 k6 k7 k8 k9 => ?_⟩
            have fN : ∀ t ∈ ts, F1 t = none := fun t ht => x1.fh.free (k3 t ht)
            let F' : Hp := fun b => if b ∈ ts then H' b else F1 b
            have fin : ∀ t, t ∈ ts → F' t = H' t := fun t h => if_pos h
            have fout : ∀ t, t ∉ ts → F' t = F1 t := fun t h => if_neg h
            have sm : Same F1 F' := fun c o h => by
              by_cases q : c ∈ ts
              · rw [fN c q] at h; cases h
              · rw [fout c q]; exact h
            have ext : Ext F1 H1 F' H' := ⟨sm, fun c o h => by
              by_cases q : c ∈ ts
              · rw [fin c q] at h; exact .inl h
              · rw [fout c q] at h
                rcases x1.fh c o h with z | ⟨z1, ob, z2⟩
                · exact .inl (k1 _ _ z)
                · exact .inr ⟨z1, ob, k1 _ _ z2⟩, k1, fun c o h => by
              by_cases q : c ∈ ts
              · exact .inr (k3 c q)
              · rw [fout c q] at h; exact .inl h⟩
            refine PostG.at p1 ext ⟨q, _, rfl, k6, by rw [fout q k4]; exact x1.fh.free k2, k2, ?_⟩
            refine RpL.ofGet ?_ fun j dd vv h1 h2 => ?_
            · rw [zipL_len, List.length_map, k8, er.length, er'.length]
            · rw [List.getElem?_map] at h2
              cases et : ts[j]? with
              | none => rw [et] at h2; cases h2
              | some t =>
                rw [et] at h2
                cases h2
                obtain ⟨x, y, g1, g2, g3⟩ := k9 j t et
                obtain ⟨dx, gx1, gx2⟩ := er.getV g1
                obtain ⟨dy, gy1, gy2⟩ := er'.getV g2
                have ez := zipL_get gx1 gy1
                rw [ez] at h1
                cases h1
                refine Rp.tup (by rw [fin t (List.mem_of_getElem? et)]; exact g3) (RpL.cons (Rp.mono sm _ _ gx2) (RpL.cons (Rp.mono sm _ _ gy2) RpL.nil))
end
end DL
namespace DL
open PySem PySem.Spec L2
section
variable {X : Cx}
end
end DL
namespace DL
open PySem PySem.Spec L2
def Kn (P : Program) (w : World) (K : PySem.W.Frag) (mg : Str → Option Value) (base : Heap) (k : Nat) (x : Str) (n : Nat) (m : List D → R D) : Prop :=
  ∃ (f : Addr) (fd : FuncData) (ps : List Str), mg x = some (.ref f) ∧ PySem.W.keepIn K (.ref f) = true ∧ Binds K fd ps [] ∧ FnOk P w K mg base (L2.CX P w) k f fd ps (spD K mg n m)
def KnO (P : Program) (w : World) (K : PySem.W.Frag) (mg : Str → Option Value) (base : Heap) (k : Nat) (x : Str) (n : Nat) (m : List D → R (List D)) : Prop :=
  ∃ (f : Addr) (fd : FuncData) (ps : List Str), mg x = some (.ref f) ∧ PySem.W.keepIn K (.ref f) = true ∧ Binds K fd ps [] ∧ FnOk P w K mg base (L2.CX P w) k f fd ps (spO K mg n m)
section
variable {X : Cx} {W : WX} {j k n : Nat} {x : Str} {e : Expr} {es : List Expr} {p pos : Pos} {fs : DL.Env → R (List D)}
theorem de_kn {m : List D → R D} (h : Kn X.prog X.w X.K X.mg X.base j x n m) (hr : Room k X.A) (ha : DA X W (e :: es) fs) (hx : OkW X W) (hg : Gl X x := by unfold L2.Gl; kernel_rfl) (hj : j ≤ k := by decide) (hdb : (x == ("__debug__" : Str)) = false := by kernel_rfl)
    (he : starEach (e :: es) X.env = (false, eval e X.env) :: starEach es X.env := by rfl) (hpl : (backTo pos (starEach es X.env)).any (·.1) = false := by rfl) :
    DE X W (.Call (.Name x p) (e :: es) [] pos) (eFn n m fs) := by
  obtain ⟨f, fd, ps, hm, hk, hb, G⟩ := h
  exact de_fn G (hr.mono hj) hg hm hk hb hx ha hdb he hpl
theorem do_kn {m : List D → R (List D)} (h : KnO X.prog X.w X.K X.mg X.base j x n m) (hr : Room k X.A) (ha : DA X W (e :: es) fs) (hx : OkW X W) (hg : Gl X x := by unfold L2.Gl; kernel_rfl) (hj : j ≤ k := by decide) (hdb : (x == ("__debug__" : Str)) = false := by kernel_rfl)
    (he : starEach (e :: es) X.env = (false, eval e X.env) :: starEach es X.env := by rfl) (hpl : (backTo pos (starEach es X.env)).any (·.1) = false := by rfl) :
    DO X W (.Call (.Name x p) (e :: es) [] pos) (oFn n m fs) := by
  obtain ⟨f, fd, ps, hm, hk, hb, G⟩ := h
  exact do_fn G (hr.mono hj) hg hm hk hb hx ha hdb he hpl
end
section
variable {P : Program} {w : World} {K : PySem.W.Frag} {mg : Str → Option Value} {base : Heap} {k n : Nat} {x : Str}
theorem KnO.kn {m : List D → R (List D)} (h : KnO P w K mg base k x n m) : Kn P w K mg base k x n (fun ds => (m ds).bind fun r => .ok (.lst r)) := by
  obtain ⟨f, fd, ps, hm, hk, hb, G⟩ := h
  refine ⟨f, fd, ps, hm, hk, hb, G.imp fun vs H Q E q => ?_⟩
  obtain ⟨F, ds, l, z, r, p⟩ := q
  refine ⟨F, ds, l, z, r, ?_⟩
  revert p
  dsimp only
  cases m ds with
  | ok ds =>
    intro p v F1 H1 x1 r1
    obtain ⟨F2, x2, r2, _⟩ := frzO x1 r1
    exact p v F2 H1 x2 r2
  | exc x => exact fun p => p
  | stuck => exact fun p => p
theorem Kn.mono {j : Nat} {m : List D → R D} (h : Kn P w K mg base j x n m) (l : j ≤ k) : Kn P w K mg base k x n m := by
  obtain ⟨f, fd, ps, hm, hk, hb, G⟩ := h
  exact ⟨f, fd, ps, hm, hk, hb, G.mono l⟩
end
theorem walkE {l : PySem.W.OpenLaw} {n k : Nat} {q : Program} {loose : List Str} {XP : (Str → Option Value) → Heap → Prop} {YP : World → Heap → Prop} {d : DefRec} {x : Str} {m : List D → R D}
    (hn : l.most = some n) (hn2 : n ≤ sizeLine) (hdf : d.params.defaults = []) (hr : Room k callerA) (true_ : ∀ ns : List Int, ns.length ≤ n → m [.scr ns] = .ok (.bl true))
    (F : ∀ (w : World) (mg : Str → Option Value) (fa : Addr) (h : Heap), YP w h → h.Ns mainGlobals mg → mg d.name = some (.ref fa) →
      ∃ (K : PySem.W.Frag) (fd : FuncData), K.In h ∧ (∀ (s : Shared) (u : Value), BindsTo s fd ⟨[u], []⟩ [(x, u)]) ∧
        ∀ base : Heap, K.In base → base.Ns mainGlobals mg → FnOk l.prog w K mg base (L2.CX l.prog w) k fa fd [x] (spD K mg 1 m)) :
    PySem.W.WalkO q loose XP YP l.row.toRowW d [] (fun f vs => PySem.call f vs) := by
  refine Att.attach_call hn hdf fun w s₀ s₁ mg mb fa o pm cd doc a vs ns G Y ho hd hcd hmg hobj hints hlen hg => ?_
  obtain ⟨K, fd, KX, hb, hF⟩ := F w mg fa _ Y G.T.g hmg
  refine law_call KX G.T.g G.T.b G.T.builtins G.T.nolimit hg hobj hints (Nat.le_trans hlen hn2) hr hF hb (fun H hO hS => ?_) fun H e s' hc => ?_
  · refine ⟨H, [.scr ns], rfl, Fz.refl H, RpL.cons (by unfold Rp; exact ⟨a, rfl, hS⟩) RpL.nil, ?_⟩
    rw [true_ ns hlen]
    exact fun v F' H' _ r => (show Rp K mg F' (.bl true) v from r).bl_iff
  · obtain ⟨_, _, _, _, _, _, _, _, _, _, _, _, z⟩ := hc
    exact z
end DL
namespace HX
open PySem PySem.Spec PyProof.Rows L2
section
variable {X : Cx} {B : Addr} {mc : Value} {x : Str} {e : Expr} {es : List Expr} {ta : TA} {p1 p2 pos : Pos}
theorem pe_oinit {pl : Sem Bool} (hg : Gl X x) (hm : X.mg x = some (.ref B)) (r : ClX.CRead X.K B mc) (vV : PySem.W.findCls X.K (.ref B) mc "__init__" = some (.val (.builtin "ValueError.__init__"))) (ha : PA X (e :: es) ta)
    (hdb : (x == ("__debug__" : Str)) = false := by kernel_rfl)
    (hc : eval (.Call (.Attribute (.Name x p1) "__init__" p2) (e :: es) [] pos) X.env = (do
      let ov ← eval (.Name x p1) X.env
      standAt p2.atName
      let (f, first) ← holding [ov] (getMethod ov "__init__" pl)
      callWith pos f first (backTo pos (starEach (e :: es) X.env)) (backToKw pos (keywordEach [] X.env))) := by rfl)
    (he : starEach (e :: es) X.env = (false, eval e X.env) :: starEach es X.env := by rfl) (hpl : (backTo pos (starEach es X.env)).any (·.1) = false := by rfl) :
    PE X (.Call (.Attribute (.Name x p1) "__init__" p2) (e :: es) [] pos) (tVeI X.K ta) := by
  refine ⟨fun pins s σ H Q I h => ?_⟩
  refine PySem.W.methodCall_KW (ld_glob I hg hm ?_ hdb) hc
  refine PySem.W.method_cls I.kIn r.ga (PySem.W.cls_value I.kIn r.rd vV (by decide +kernel) ?_)
  show wpAny _ _ (callWith pos (Value.builtin "ValueError.__init__") [] (backTo pos (starEach (e :: es) X.env)) []) _ _ _
  refine PyProof.Rows.callWith_method1 (thn (ha.run pos pins _ σ H _ (I.tok _) h) fun us s1 ⟨vs, H1, I1, r1, a, C, ws, ev, hl, T, ea, q⟩ => ?_) he hpl
  subst ev
  cases r1 with
  | @cons _ u0 _ ur ra rw' =>
    obtain rfl : u0 = Value.ref a := ra
    have hlen : ur.length ≤ sizeLine := by
      rw [← Paired.length rw', sizeLine_eq]
      omega
    exact oinit_ok T I1 ea hlen fun s2 J => ⟨.non, H1, J, rfl, q⟩
end
def sp1 (K : PySem.W.Frag) (C : Addr) (f : Str) : Sp := fun vs H Q _ => ∃ a y, vs = [.ref a, y] ∧ H a = some (exo a C none) ∧ ∀ dx, H dx = none → dx ≠ a → Q .non (upd (upd H dx (exd dx [(f, y)])) a (exo a C (some dx)))
def sp2 (K : PySem.W.Frag) (C : Addr) (f g : Str) : Sp := fun vs H Q _ => ∃ a y z, vs = [.ref a, y, z] ∧ H a = some (exo a C none) ∧
  ∀ dx, H dx = none → dx ≠ a → Q .non (upd (upd (upd H dx (exd dx [(f, y)])) a (exo a C (some dx))) dx (exd dx [(g, z), (f, y)]))
end HX
namespace DL
open PySem PySem.Spec L2
def sRaise0 (c : Str) : DL.Env → Out := fun Γ => .exc (.exc c [] []) Γ
def sRaise (c : Str) (ns : List Str) (fs : DL.Env → R (List D)) : DL.Env → Out := fun Γ => (fs Γ).out Γ fun ds => if ds.length = ns.length then .exc (.exc c ns ds.reverse) Γ else .stuck
def sTryK (i k : Nat) (sub : Str → Option Bool) (g : DL.Env → Out) : DL.Env → Out := fun Γ => match g Γ with
  | .exc (.exc c ns ds) Γ' => (match sub c with
    | some true => if i < Γ'.length then .nx ((Γ'.set k (some (.val (.exc c ns ds)))).set i none) else .stuck
    | some false => .exc (.exc c ns ds) Γ'
    | none => .stuck)
  | .exc _ _ => .stuck
  | o => o
section
variable {K : PySem.W.Frag} {mg : Str → Option Value} {F0 : Fe} {H0 F H : Hp} {σ : L2.St} {Γ : DL.Env}
theorem Rel.setN (r : Rel K mg F0 H0 F H σ Γ) (i : Nat) : Rel K mg F0 H0 F H (σ.set i none) (Γ.set i none) := by
  refine ⟨r.ext, by rw [List.length_set, List.length_set]; exact r.len, fun j s e => ?_, fun j k s t u w l ej ek hj hk os ot => ?_, r.slf.set i fun s z => by cases z <;> rfl⟩
  · by_cases q : i = j
    · subst q
      have hi : i < Γ.length := by
        have := (List.getElem?_eq_some_iff.mp e).1
        rwa [List.length_set] at this
      rw [List.getElem?_set_self hi] at e
      cases e
    · rw [List.getElem?_set_ne q] at e ⊢
      exact r.slot j s e
  · have nj : i ≠ j := fun q => by
      subst q
      have hi : i < Γ.length := by
        have := (List.getElem?_eq_some_iff.mp ej).1
        rwa [List.length_set] at this
      rw [List.getElem?_set_self hi] at ej
      cases ej
    have nk : i ≠ k := fun q => by
      subst q
      have hi : i < Γ.length := by
        have := (List.getElem?_eq_some_iff.mp ek).1
        rwa [List.length_set] at this
      rw [List.getElem?_set_self hi] at ek
      cases ek
    rw [List.getElem?_set_ne nj] at ej hj
    rw [List.getElem?_set_ne nk] at ek hk
    exact r.inj j k s t u w l ej ek hj hk os ot
theorem setN_ov (σ : List (Option V)) (i : Nat) (v : V) : (σ.set i (some v)).set i none = σ.set i none := by rw [List.set_set]
end
section
variable {X : Cx} {W : WX} {e : Expr} {fs : DL.Env → R (List D)} {c : Str} {C : Addr} {p pos pos2 : Pos}
theorem del_upd {H1 : Hp} {a dx : Addr} {o1 o2 u : HO} (n : H1 a = none) (ne : dx ≠ a) : upd (del (upd (upd (upd H1 a o1) dx o2) a u) a) dx = upd H1 dx := by
  funext o b
  by_cases h : b = dx
  · rw [h, upd_same, upd_same]
  · rw [upd_ne h, upd_ne h]
    by_cases h2 : b = a
    · rw [h2, del_same, n]
    · rw [del_ne h2, upd_ne h2, upd_ne h, upd_ne h2]
theorem raise_end {F0 : Fe} {H0 F1 H1 : Hp} {σ : L2.St} {Γ : DL.Env} {Dn : Ends} {ns : List Str} {ds : List D} {vs : List V} {dx : Addr} (r : Rel X.K X.mg F0 H0 F1 H1 σ Γ) (gC : X.mg c = some (.ref C)) (p : PostS X W F0 H0 Dn (.exc (.exc c ns ds) Γ)) (n : H1 dx = none) (hl : ns.length = vs.length) (rv : RpL X.K X.mg F1 ds vs) :
    W (.ref C) (some dx) σ (upd H1 dx (.xd (ns.zip vs))) := by
  have ex := Ext.laid (o := .xd (ns.zip vs)) r.fz n
  exact p _ _ σ _ _ (r.step ex) ⟨C, rfl, gC, .inr ⟨dx, vs, rfl, upd_same, hl, RpL.mono ex.ff _ _ rv⟩⟩
theorem ds_raise1 {k : Nat} {fI : Addr} {fd : FuncData} {ps : List Str} {f : Str} (hcalm : X.calm = true) (tk : Takes X W) (T : OexC X.K C) (iC : PySem.W.findIn X.K (.ref C) "__init__" = some (some (.ref fI))) (tI : PySem.W.typeIn X.K (.ref fI) = some (.type "function"))
    (F1 : FnOk X.prog X.w X.K X.mg X.base (L2.CX X.prog X.w) k fI fd ps (HX.sp1 X.K C f)) (hr : Room (k + 1) X.A) (hb : Binds X.K fd ps []) (gC : X.mg c = some (.ref C)) (ha : DA X W [e] fs) (hg : Gl X c)
    (hdb : (c == ("__debug__" : Str)) = false := by kernel_rfl) (he : starEach [e] X.env = (false, eval e X.env) :: starEach [] X.env := by rfl) (hpl : (backTo pos (starEach [] X.env)).any (·.1) = false := by rfl) :
    DS X W (.Raise (some (.Call (.Name c p) [e] [] pos)) none pos2) (sRaise c [f] fs) := by
  have hx : Passes (L2.CX X.prog X.w) X (fun _ _ _ => False) := fun _ _ _ _ _ _ _ h => by
    obtain ⟨_, _, _, _, _, _, _, _, _, _, _, _, z⟩ := h
    exact z.elim
  refine PS.weak (ps_raise hcalm tk (pmk_oex T iC tI F1 hr hb .nil hx hg gC ha hdb he hpl)) ?_
  rintro Dn σ H ⟨F0, H0, F, Γ, r, p⟩
  refine ⟨F0, H0, F, Γ, r, PostS.out r p fun ds vs F1 H1 _ x1 r1 p1 => ?_⟩
  by_cases hl : ds.length = [f].length
  · rw [if_pos hl] at p1
    have r1 : RpL X.K X.mg F1 ds vs := r1
    cases ds with
    | nil => cases hl
    | cons d ds =>
      cases ds with
      | cons _ _ => cases hl
      | nil =>
        obtain ⟨v, rfl, rv⟩ := r1.one
        refine ⟨by show 1 ≤ 1000; decide, fun a na => ⟨a, v, rfl, upd_same, fun dx n ne => ?_⟩⟩
        rw [upd_ne ne] at n
        refine ⟨rfl, dx, [(f, v)], upd_same, by rw [upd_ne ne, upd_same], n, ?_⟩
        rw [del_upd na ne]
        exact raise_end (ns := [f]) (vs := [v]) (r.step x1) gC p1 n rfl (RpL.cons rv RpL.nil)
  · rw [if_neg hl] at p1
    exact p1.elim
theorem del_upd2 {H1 : Hp} {a dx : Addr} {o1 o2 o3 u : HO} (n : H1 a = none) (ne : dx ≠ a) : upd (del (upd (upd (upd (upd H1 a o1) dx o2) a u) dx o3) a) dx = upd H1 dx := by
  funext o b
  by_cases h : b = dx
  · rw [h, upd_same, upd_same]
  · rw [upd_ne h, upd_ne h]
    by_cases h2 : b = a
    · rw [h2, del_same, n]
    · rw [del_ne h2, upd_ne h, upd_ne h2, upd_ne h, upd_ne h2]
end
section
variable {X : Cx} {Wout : WX} {body : List Stmt} {x n kn : Str} {cc : Value} {i k : Nat} {sub : Str → Option Bool} {g : DL.Env → Out} {np kp np2 apos pos pos' : Pos}
end
end DL
namespace HX
open PySem PySem.Spec PyProof.Rows L2
def hangs (K : PySem.W.Frag) (C : Addr) : Bool := match K.lookup C with
  | some ⟨.type "type", _, .cls cd, sl⟩ => (match cd.mro, sl.toList with
    | .ref C' :: bm, [_, _, _, _, some (.builtin n), _] => C' == C && n == "ValueError.__new__" && !cd.hasDel && cd.hasDict && PySem.HandSPX.refsVE bm
    | _, _ => false)
  | _ => false
theorem hangs_ok {K : PySem.W.Frag} {C : Addr} (q : hangs K C = true) : ∃ nm q N bs bm sn sub ab col dd k0 k1 k2 k3 k5, K.lookup C = some (excClassObj nm q C N bs bm true sn sub ab col dd k0 k1 k2 k3 k5 "ValueError.__new__") ∧ PySem.HandSPX.refsVE bm = true := by
  unfold hangs at q
  split at q
  · rename_i dd cd sl ho
    split at q
    · rename_i C' bm k0 k1 k2 k3 n k5 hm hs
      simp only [Bool.and_eq_true, beq_iff_eq, Bool.not_eq_true'] at q
      obtain ⟨⟨⟨⟨rfl, rfl⟩, hdel⟩, hdct⟩, ht⟩ := q
      obtain ⟨nm, bs, mro, ns, qn, hd, sn, sub, ab, col, del⟩ := cd
      dsimp only at hm hdel hdct
      subst hm hdel hdct
      have hsl : sl = #[k0, k1, k2, k3, some (.builtin "ValueError.__new__"), k5] := by
        obtain ⟨l⟩ := sl
        simp only at hs
        rw [hs]
      subst hsl
      exact ⟨nm, qn, ns, bs, bm, sn, sub, ab, col, dd, k0, k1, k2, k3, k5, ho, ht⟩
    · cases q
  · cases q
def excB (K : PySem.W.Frag) (C : Addr) : Bool := hangs K C && (He.eqO (PySem.W.findIn K (.ref C) "__setattr__") (some (some (.builtin "object.__setattr__"))) && (decide (PySem.W.subIn K (.ref C) (.type "BaseException") = some true) &&
  (decide (PySem.W.typeIn K (.ref C) = some (.type "type")) && (PySem.W.keepIn K (.ref C) && (He.eqO (PySem.W.findIn K (.ref C) "__getattribute__") (some (some (.builtin "BaseException.__getattribute__"))) && (He.eqO (PySem.W.findIn K (.ref C) "__getattr__") (some none) &&
  (PySem.W.hasDictIn K C && (He.eqO (PySem.W.findIn K (.ref C) "__class__") (some (some (.builtin "object.__class__"))) && (He.eqO (PySem.W.specialIn K (.builtin "object.__class__") "__get__") (some (some (.builtin "getset_descriptor.__get__"))) &&
  (decide (PySem.W.takesIn K (.builtin "object.__class__") = some true) && (decide (PySem.W.mroIn K C (.type "object") = some true) && (PySem.W.clsIn K C).isSome)))))))))))
structure XC (K : PySem.W.Frag) (C : Addr) : Prop where
  o : OexC K C
  f : XfC K C
  hc : (PySem.W.clsIn K C).isSome = true
  ha : PySem.W.findIn K (.ref C) "__class__" = some (some (.builtin "object.__class__"))
  hn : PySem.W.specialIn K (.builtin "object.__class__") "__get__" = some (some (.builtin "getset_descriptor.__get__"))
  ht : PySem.W.takesIn K (.builtin "object.__class__") = some true
  hm : PySem.W.mroIn K C (.type "object") = some true
theorem excB_ok {K : PySem.W.Frag} {C : Addr} (h : excB K C = true) : XC K C := by
  obtain ⟨a1, h⟩ := He.ba h
  obtain ⟨a2, h⟩ := He.ba h
  obtain ⟨a3, h⟩ := He.ba h
  obtain ⟨a4, h⟩ := He.ba h
  obtain ⟨a5, h⟩ := He.ba h
  obtain ⟨a6, h⟩ := He.ba h
  obtain ⟨a7, h⟩ := He.ba h
  obtain ⟨a8, h⟩ := He.ba h
  obtain ⟨a9, h⟩ := He.ba h
  obtain ⟨a10, h⟩ := He.ba h
  obtain ⟨a11, h⟩ := He.ba h
  obtain ⟨a12, a13⟩ := He.ba h
  exact ⟨⟨hangs_ok a1, He.eqO_ok a2, of_decide_eq_true a3, of_decide_eq_true a4, a5⟩, ⟨He.eqO_ok a6, He.eqO_ok a7, of_decide_eq_true a3, a8⟩, a13, He.eqO_ok a9, He.eqO_ok a10, of_decide_eq_true a11, of_decide_eq_true a12⟩
section
variable {X : Cx} {pins : List (Addr × Obj)} {σ : L2.St} {H : Hp} {s : Shared} {a C : Addr} {d : Option Addr}
theorem inst (I : Inv X pins σ H s) (e : H a = some (HEx (.ref C) d a)) (hd : ∀ dd, d = some dd → ∃ fs, H dd = some (.xd fs)) : ∃ (oe : Obj) (od : Option Obj), PySem.W.InstAt s.heap a oe C od ∧ (d = none → od = none) := by
  obtain ⟨oe, vs, ho, hz, hv⟩ := hex_at I.hok e
  cases d with
  | none => exact ⟨oe, none, ⟨ho, hz.1, by unfold PySem.W.notCls; rw [hv] <;> rfl, by rw [hz.2]; trivial⟩, fun _ => rfl⟩
  | some dd =>
    obtain ⟨fs, ed⟩ := hd dd rfl
    obtain ⟨mA, hns, _⟩ : ObjOk X.prog X.w H s.heap dd (.xd fs) := I.hok dd _ ed
    obtain ⟨od, hod, _⟩ := lookIn_ns hns
    exact ⟨oe, some od, ⟨ho, hz.1, by unfold PySem.W.notCls; rw [hv] <;> rfl, by rw [hz.2]; exact hod⟩, fun z => by cases z⟩
def tKf (K : PySem.W.Frag) (f : Str) (te : TE) : TE := fun σ H Q => te σ H fun x H1 => ∃ (a C dd : Addr) (fs : List (Str × V)) (v : V), x = .ref a ∧ H1 a = some (HEx (.ref C) (some dd) a) ∧ H1 dd = some (.xd fs) ∧ fs.lookup f = some v ∧ XC K C ∧ PySem.W.findIn K (.ref C) f = some none ∧ Q v H1
theorem pe_kf {e : Expr} {te : TE} {pos : Pos} {n : Str} (he : PE X e te) (hb : attributeBase e n X.env (eval e X.env) = eval e X.env := by rfl) : PE X (.Attribute e n pos) (tKf X.K n te) := by
  refine ⟨fun pins s σ H Q I h => ?_⟩
  refine attr_of hb (thn (he.run pins s σ H _ I h) fun u s1 hh => ?_)
  obtain ⟨x, H1, I1, rx, a, C, dd, fs, v, ex, ea, ed, l, T, hno, q⟩ := hh
  subst ex
  obtain rfl : u = Value.ref a := rx
  obtain ⟨oe, vs, ho, hz, hd⟩ := hex_at I1.hok ea
  have hx : ObjOk X.prog X.w H1 s1.heap dd (.xd fs) := I1.hok dd _ ed
  obtain ⟨mA, hns, hr⟩ := hx
  obtain ⟨od, hod, hl⟩ := lookIn_ns hns
  obtain ⟨u, hu, ru⟩ := RelO.some_of (v := v) (o := mA n) (by rw [← l]; exact hr n)
  have J : PySem.W.InstAt s1.heap a oe C (some od) := ⟨ho, hz.1, by unfold PySem.W.notCls; rw [hd] <;> rfl, by rw [hz.2]; exact hod⟩
  exact HandSPX.exc_get I1.kIn J T.f.ga T.f.gg T.f.exC (PySem.W.findObj_own T.f.hdC hno rfl (by rw [hl, hu])) (handed_of ru) ⟨v, H1, I1.tok _, ru, q⟩
end
end HX
namespace HX
open PySem PySem.Spec PyProof.Rows L2
def TyK (K : PySem.W.Frag) (H : Hp) (x : V) (t : Value) : Prop := TyX K H x t ∨ ∃ a C d, x = .ref a ∧ t = .ref C ∧ H a = some (HEx (.ref C) d a) ∧ (∀ dd, d = some dd → ∃ fs, H dd = some (.xd fs)) ∧ XC K C
def rIsX (K : PySem.W.Frag) : List V → Hp → VK → Prop := fun xs H Q => ∃ (x c : V) (t : Value) (b : Bool), xs = [x, c] ∧ TyK K H x t ∧
  ((∃ u, ClsV c u ∧ PySem.W.kitOne K t u = some b) ∨ ∃ (tp : Addr) (cs : List V) (us : List Value), c = .ref tp ∧ SqT K H tp cs ∧ Paired ClsV cs us ∧ PySem.W.kitAny K t us = some b) ∧ Q (.bl b) H
theorem kit_ofK {X : Cx} {pins : List (Addr × Obj)} {σ : L2.St} {H : Hp} {s : Shared} {x : V} {u t : Value} (I : Inv X pins σ H s) (rx : RelV x u) (ty : TyK X.K H x t) : ∃ P : Heap → Prop, PySem.W.KitX X.K u t P ∧ P s.heap ∧ u ≠ .builtin "__main__.__loader__#opaque" := by
  rcases ty with ty | ⟨a, C, d, rfl, rfl, ea, ed, T⟩
  · exact kit_of I rx ty
  · cases (show u = Value.ref a from rx)
    obtain ⟨oe, od, J, _⟩ := inst I ea ed
    exact ⟨_, PySem.W.kitx_exc (ox := oe) (od := od) T.hc T.f.ga T.f.gg T.f.exC T.ha T.hn T.ht T.hm, J, fun z => nomatch z⟩
theorem call_isX {X : Cx} : CallR X (.builtin "isinstance") (rIsX X.K) := by
  intro pins s σ H xs us Q I r h
  obtain ⟨x, c, t, b, rfl, ty, hc, q⟩ := h
  cases r with
  | cons rx rr =>
    cases rr with
    | cons rt rr =>
      cases rr
      obtain ⟨P, Z, p, hx⟩ := kit_ofK I rx ty
      rcases hc with ⟨u, k, e⟩ | ⟨tp, cs, ws, rfl, hq, k, e⟩
      · have e2 := k.eq rt
        subst e2
        exact PySem.W.kia_one Z I.kIn p e hx fun tk => ⟨.bl b, H, I.tok tk, rfl, q⟩
      · cases rt
        obtain ⟨its, rv, pl, _⟩ := I.tuple hq
        have e3 := ClsV.all k rv
        subst e3
        obtain ⟨o, ho, hc, n, hv⟩ := pl
        obtain ⟨oc, odd, oda, osl⟩ := o
        dsimp only at hc hv
        subst hc hv
        exact PySem.W.kia_tup Z I.kIn p ho e hx fun tk => ⟨.bl b, H, I.tok tk, rfl, q⟩
end HX
namespace DL
open PySem PySem.Spec L2
abbrev CK := Str ⊕ String
abbrev Tb := List (CK × CK × Bool)
def OSG : List Str := ["Move", "Up", "Down", "Put", "Take", "Price", "ByMoves", "ByGrips", "ByBeads", "Hand", "Script", "Scribe", "Reckoner", "Maker", "Kept", "Desk"]
def D.ck (cs : List Str) : D → Option CK
  | .exc c _ _ => if c ∈ cs ∧ c ∉ OSG then some (.inl c) else none
  | .obj c _ _ => if c ∈ cs ∧ c ∈ OSG then some (.inl c) else none
  | x => x.tyOf.map .inr
def D.ckOf : D → Option CK
  | .cls c => some (.inl c)
  | .ty n => some (.inr n)
  | _ => none
def lkT : Tb → CK → CK → Option Bool
  | [], _, _ => none
  | e :: tb, a, b => if e.1 = a ∧ e.2.1 = b then some e.2.2 else lkT tb a b
def isOne (tb : Tb) (a b : CK) : Option Bool := match lkT tb a b with
  | some r => some r
  | none => match a, b with
    | .inr x, .inr y => kitB x y
    | _, _ => none
def isAny (tb : Tb) (a : CK) : List D → Option Bool
  | [] => some false
  | t :: ts => match t.ckOf with
    | some k => (match isOne tb a k with
      | some true => if ts.all (fun t => t.ckOf.isSome) = true then some true else none
      | some false => isAny tb a ts
      | none => none)
    | none => none
def isAll (tb : Tb) (a : CK) : D → Option Bool
  | .tup ts => isAny tb a ts
  | t => match t.ckOf with
    | some k => isOne tb a k
    | none => none
def dIsXB (cs : List Str) (tb : Tb) (x t : D) : R D := match x.ck cs with
  | some a => (match isAll tb a t with | some b => .ok (.bl b) | none => .stuck)
  | none => .stuck
abbrev dIsX (cs : List Str) (tb : Tb) := un2 (dIsXB cs tb)
def ckV (mg : Str → Option Value) : CK → Value → Prop
  | .inl c, v => ∃ C, mg c = some (.ref C) ∧ v = .ref C
  | .inr n, v => v = .type n
structure OC (K : PySem.W.Frag) (C : Addr) : Prop where
  cl : Cls K C
  ha : PySem.W.findIn K (.ref C) "__class__" = some (some (.builtin "object.__class__"))
  hn : PySem.W.specialIn K (.builtin "object.__class__") "__get__" = some (some (.builtin "getset_descriptor.__get__"))
  ht : PySem.W.takesIn K (.builtin "object.__class__") = some true
  hm : PySem.W.mroIn K C (.type "object") = some true
structure ExF (K : PySem.W.Frag) (mg : Str → Option Value) (cs : List Str) (tb : Tb) : Prop where
  cls : ∀ c ∈ cs, ∃ C, mg c = some (.ref C) ∧ (c ∉ OSG → HX.XC K C) ∧ (c ∈ OSG → OC K C)
  tab : ∀ e ∈ tb, ∀ u v, ckV mg e.1 u → ckV mg e.2.1 v → PySem.W.kitOne K u v = some e.2.2
section
variable {K : PySem.W.Frag} {mg : Str → Option Value} {cs : List Str} {tb : Tb} {F H : Hp}
theorem lkT_ok : ∀ {tb : Tb} {a b : CK} {r : Bool}, lkT tb a b = some r → (a, b, r) ∈ tb
  | [], _, _, _, h => by cases h
  | e :: tb, a, b, r, h => by
    unfold lkT at h
    by_cases q : e.1 = a ∧ e.2.1 = b
    · rw [if_pos q] at h
      obtain ⟨e1, e2, e3⟩ := e
      obtain ⟨q1, q2⟩ := q
      dsimp only at q1 q2 h
      subst q1 q2
      cases h
      exact List.mem_cons_self
    · rw [if_neg q] at h
      exact List.mem_cons_of_mem _ (lkT_ok h)
theorem isOne_ok (E : ExF K mg cs tb) {a b : CK} {u v : Value} {r : Bool} (h : isOne tb a b = some r) (ha : ckV mg a u) (hb : ckV mg b v) : PySem.W.kitOne K u v = some r := by
  unfold isOne at h
  cases e : lkT tb a b with
  | some r' =>
    rw [e] at h
    cases h
    exact E.tab _ (lkT_ok e) u v ha hb
  | none =>
    rw [e] at h
    cases a with
    | inl c => cases h
    | inr x =>
      cases b with
      | inl c => cases h
      | inr y =>
        have h : kitB x y = some r := h
        rw [show u = .type x from ha, show v = .type y from hb]
        exact kit_ty h
theorem ckOf_rp {t : D} {v : V} {k : CK} (r : Rp K mg F t v) (h : t.ckOf = some k) : ∃ u, ClsV v u ∧ ckV mg k u := by
  cases t with
  | cls c =>
    cases h
    unfold Rp at r
    obtain ⟨C, rfl, hm⟩ := r
    exact ⟨_, .own C, C, hm, rfl⟩
  | ty n =>
    cases h
    unfold Rp at r
    subst r
    exact ⟨_, .ty n, rfl⟩
  | _ => cases h
theorem allCls : ∀ {ts : List D} {vs : List V}, RpL K mg F ts vs → ts.all (fun t => t.ckOf.isSome) = true → ∃ us, Paired ClsV vs us
  | [], vs, rl, _ => by rw [rl.nil_iff]; exact ⟨[], .nil⟩
  | t :: ts, vs, rl, h => by
    obtain ⟨v, us', rfl, r1, r2⟩ := rl.cons_iff
    rw [List.all_cons, Bool.and_eq_true] at h
    obtain ⟨k, ek⟩ := Option.isSome_iff_exists.mp h.1
    obtain ⟨w, kw, _⟩ := ckOf_rp r1 ek
    obtain ⟨ws, pw⟩ := allCls r2 h.2
    exact ⟨w :: ws, .cons kw pw⟩
theorem isAny_ok (E : ExF K mg cs tb) {a : CK} {u : Value} (ha : ckV mg a u) : ∀ {ts : List D} {vs : List V} {r : Bool}, RpL K mg F ts vs → isAny tb a ts = some r → ∃ us, Paired ClsV vs us ∧ PySem.W.kitAny K u us = some r
  | [], vs, r, rl, h => by cases h; rw [rl.nil_iff]; exact ⟨[], .nil, rfl⟩
  | t :: ts, vs, r, rl, h => by
    obtain ⟨v, us', rfl, r1, r2⟩ := rl.cons_iff
    unfold isAny at h
    cases ek : t.ckOf with
    | none => rw [ek] at h; cases h
    | some k =>
      rw [ek] at h
      have h : (match isOne tb a k with
        | some true => if ts.all (fun t => t.ckOf.isSome) = true then some true else none
        | some false => isAny tb a ts
        | none => none) = some r := h
      obtain ⟨w, kw, cw⟩ := ckOf_rp r1 ek
      cases eo : isOne tb a k with
      | none => rw [eo] at h; cases h
      | some b =>
        rw [eo] at h
        have e1 := isOne_ok E eo ha cw
        cases b with
        | true =>
          have h : (if ts.all (fun t => t.ckOf.isSome) = true then some true else none) = some r := h
          by_cases q : ts.all (fun t => t.ckOf.isSome) = true
          case neg => rw [if_neg q] at h; cases h
          rw [if_pos q] at h
          cases h
          obtain ⟨ws, pw⟩ := allCls r2 q
          exact ⟨w :: ws, .cons kw pw, by unfold PySem.W.kitAny; rw [e1]⟩
        | false =>
          obtain ⟨ws, pw, ew⟩ := isAny_ok E ha r2 h
          exact ⟨w :: ws, .cons kw pw, by unfold PySem.W.kitAny; rw [e1]; exact ew⟩
end
section
variable {X : Cx} {cs : List Str} {tb : Tb}
theorem ck_ok {F H : Hp} (E : ExF X.K X.mg cs tb) {x : D} {v : V} {a : CK} (z : Fz F H) (r : Rp X.K X.mg F x v) (h : x.ck cs = some a) : ∃ t, HX.TyK X.K H v t ∧ ckV X.mg a t := by
  have other : ∀ {x : D}, Rp X.K X.mg F x v → x.tyOf.map Sum.inr = some a → ∃ t, HX.TyK X.K H v t ∧ ckV X.mg a t := fun {x} r h => by
    cases e : x.tyOf with
    | none => rw [e] at h; cases h
    | some t =>
      rw [e] at h
      cases h
      exact ⟨.type t, .inl (ty_ok z r e), rfl⟩
  cases x with
  | exc c ns ds =>
    have h : (if c ∈ cs ∧ c ∉ OSG then some (Sum.inl c : CK) else none) = some a := h
    by_cases q : c ∈ cs ∧ c ∉ OSG
    · rw [if_pos q] at h
      cases h
      obtain ⟨C, hm, T, _⟩ := E.cls c q.1
      have T := T q.2
      unfold Rp at r
      obtain ⟨p, C', od, rfl, hm', ea, qd⟩ := r
      rw [hm] at hm'
      cases hm'
      have ea' : H p = some (HX.HEx (.ref C) od p) := by
        rcases z p _ ea with w | ⟨⟨_, w⟩, _⟩
        · exact w
        · cases (show HO.ext _ = HO.dK _ from w)
      refine ⟨.ref C, .inr ⟨p, C, od, rfl, rfl, ea', fun dd ed => ?_, T⟩, C, hm, rfl⟩
      rcases qd with ⟨_, _, w⟩ | ⟨dd', vs, w, e2, _⟩
      · rw [w] at ed; cases ed
      · rw [w] at ed
        cases ed
        exact ⟨_, z.xd e2⟩
    · rw [if_neg q] at h
      cases h
  | obj c ns ds =>
    have h : (if c ∈ cs ∧ c ∈ OSG then some (Sum.inl c : CK) else none) = some a := h
    by_cases q : c ∈ cs ∧ c ∈ OSG
    · rw [if_pos q] at h
      cases h
      obtain ⟨C, hm, _, T⟩ := E.cls c q.1
      have T := T q.2
      unfold Rp at r
      obtain ⟨p, C', dx, vs, rfl, hm', ea, _, _⟩ := r
      rw [hm] at hm'
      cases hm'
      exact ⟨.ref C, .inl (.base (.ins (z.ins ea) T.cl T.ha T.hn T.ht T.hm)), C, hm, rfl⟩
    · rw [if_neg q] at h
      cases h
  | _ => exact other r h
theorem sat_isX (E : ExF X.K X.mg cs tb) : SatL X (HX.rIsX X.K) (dIsX cs tb) := sat_un2 fun F H x y v u W Q z r1 r2 p => by
  have p : PostG X.K X.mg (repV X.K X.mg) F H W Q (match x.ck cs with
    | some a => (match isAll tb a y with | some b => R.ok (.bl b) | none => .stuck)
    | none => .stuck) := p
  cases ea : x.ck cs with
  | none => rw [ea] at p; exact p.elim
  | some a =>
    rw [ea] at p
    have p : PostG X.K X.mg (repV X.K X.mg) F H W Q (match isAll tb a y with | some b => R.ok (.bl b) | none => .stuck) := p
    cases eb : isAll tb a y with
    | none => rw [eb] at p; exact p.elim
    | some b =>
      rw [eb] at p
      have p : PostG X.K X.mg (repV X.K X.mg) F H W Q (R.ok (D.bl b)) := p
      have fin : Q (.bl b) H := PostG.ok p z (by show Rp _ _ _ _ _; unfold Rp; rfl)
      obtain ⟨t, ty, ct⟩ := ck_ok E z r1 ea
      have one : ∀ k, y.ckOf = some k → isOne tb a k = some b → HX.rIsX X.K [v, u] H Q := fun k ek eo => by
        obtain ⟨w, kw, cw⟩ := ckOf_rp r2 ek
        exact ⟨v, u, t, b, rfl, ty, .inl ⟨w, kw, isOne_ok E eo ct cw⟩, fin⟩
      cases y with
      | tup ts =>
        obtain ⟨l, vs, e1, e2, e3⟩ := r2.tupH z
        obtain ⟨us, pw, ew⟩ := isAny_ok E ct e3 eb
        exact ⟨v, u, t, b, rfl, ty, .inr ⟨l, vs, us, e1, e2, pw, ew⟩, fin⟩
      | cls c => exact one _ rfl eb
      | ty n => exact one _ rfl eb
      | _ => cases eb
end
def lkN : List Str → List D → Str → Option D
  | n :: ns, d :: ds, f => if f = n then some d else lkN ns ds f
  | _, _, _ => none
def dXf (cs : List Str) (f : Str) : D → R D
  | .exc c ns ds => if c ∈ cs ∧ c ∉ OSG then (match lkN ns ds f with | some d => .ok d | none => .stuck) else .stuck
  | .obj c ns ds => if c ∈ cs ∧ c ∈ OSG then (match lkN ns ds f with | some d => .ok d | none => .stuck) else .stuck
  | _ => .stuck
section
variable {X : Cx} {W : WX} {cs : List Str} {tb : Tb} {e : Expr} {fa : DL.Env → R D} {f : Str} {pos : Pos}
theorem lkN_rp {K : PySem.W.Frag} {mg : Str → Option Value} {F : Hp} : ∀ {ns : List Str} {ds : List D} {vs : List V} {f : Str} {d : D}, RpL K mg F ds vs → lkN ns ds f = some d → ∃ v, (ns.zip vs).lookup f = some v ∧ Rp K mg F d v
  | [], _, _, _, _, _, h => by simp [lkN] at h
  | _ :: _, [], _, _, _, _, h => by simp [lkN] at h
  | n :: ns, d :: ds, vs, f, d', r, h => by
    obtain ⟨v, us, rfl, r1, r2⟩ := r.cons_iff
    unfold lkN at h
    rw [List.zip_cons_cons, lookup_put]
    by_cases q : f = n
    · rw [if_pos q] at h ⊢
      cases h
      exact ⟨v, rfl, r1⟩
    · rw [if_neg q] at h ⊢
      exact lkN_rp r2 h
theorem PE.or {t1 t2 : TE} (h1 : PE X e t1) (h2 : PE X e t2) : PE X e (fun σ H Q => t1 σ H Q ∨ t2 σ H Q) := ⟨fun pins s σ H Q I q => q.elim (h1.run pins s σ H Q I) (h2.run pins s σ H Q I)⟩
theorem de_xf (E : ExF X.K X.mg cs tb) (hno : ∀ c ∈ cs, ∀ C, X.mg c = some (.ref C) → PySem.W.findIn X.K (.ref C) f = some none) (he : DE X W e fa) (hb : attributeBase e f X.env (eval e X.env) = eval e X.env := by rfl) :
    DE X W (.Attribute e f pos) (eUn (dXf cs f) fa) := by
  refine PE.weak (PE.or (HX.pe_kf he hb) (pe_fld he hb)) ?_
  rintro σ H Q ⟨F0, H0, F, Γ, rl, p⟩
  cases ea : fa Γ with
  | stuck => unfold eUn at p; rw [ea] at p; exact p.elim
  | exc x =>
    unfold eUn at p
    rw [ea] at p
    refine .inl ⟨F0, H0, F, Γ, rl, ?_⟩
    rw [ea]
    exact p
  | ok x =>
    unfold eUn at p
    rw [ea] at p
    have p : PostG X.K X.mg (repV X.K X.mg) F H (WE W σ) Q (dXf cs f x) := p
    cases x with
    | exc c ns ds =>
      have p1 : PostG X.K X.mg (repV X.K X.mg) F H (WE W σ) Q (if c ∈ cs ∧ c ∉ OSG then (match lkN ns ds f with | some d => .ok d | none => .stuck) else .stuck) := p
      by_cases q : c ∈ cs ∧ c ∉ OSG
      case neg => rw [if_neg q] at p1; exact p1.elim
      rw [if_pos q] at p1
      cases el : lkN ns ds f with
      | none => rw [el] at p1; exact p1.elim
      | some d =>
        rw [el] at p1
        refine .inl ⟨F0, H0, F, Γ, rl, ?_⟩
        rw [ea]
        intro v F1 H1 x1 r1
        obtain ⟨C, hm, T, _⟩ := E.cls c q.1
        have T := T q.2
        have r1 : Rp X.K X.mg F1 (.exc c ns ds) v := r1
        unfold Rp at r1
        obtain ⟨a, C', od, rfl, hm', ea', qd⟩ := r1
        rw [hm] at hm'
        cases hm'
        have ea2 : H1 a = some (HX.HEx (.ref C) od a) := by
          rcases x1.fh a _ ea' with w | ⟨⟨_, w⟩, _⟩
          · exact w
          · cases (show HO.ext _ = HO.dK _ from w)
        rcases qd with ⟨w1, w2, _⟩ | ⟨dd, vs, w, e2, el2, rr⟩
        · rw [w1] at el; simp [lkN] at el
        · subst w
          obtain ⟨z, ez, rz⟩ := lkN_rp rr el
          exact ⟨a, C, dd, _, z, rfl, ea2, x1.fh.xd e2, ez, T, hno c q.1 C hm, PostG.at p1 x1 rz⟩
    | obj c ns ds =>
      have p1 : PostG X.K X.mg (repV X.K X.mg) F H (WE W σ) Q (if c ∈ cs ∧ c ∈ OSG then (match lkN ns ds f with | some d => .ok d | none => .stuck) else .stuck) := p
      by_cases q : c ∈ cs ∧ c ∈ OSG
      case neg => rw [if_neg q] at p1; exact p1.elim
      rw [if_pos q] at p1
      cases el : lkN ns ds f with
      | none => rw [el] at p1; exact p1.elim
      | some d =>
        rw [el] at p1
        refine .inr ⟨F0, H0, F, Γ, rl, ?_⟩
        rw [ea]
        intro v F1 H1 x1 r1
        obtain ⟨C, hm, _, T⟩ := E.cls c q.1
        have T := T q.2
        have r1 : Rp X.K X.mg F1 (.obj c ns ds) v := r1
        unfold Rp at r1
        obtain ⟨a, C', dx, vs, rfl, hm', ea', hl, rr⟩ := r1
        rw [hm] at hm'
        cases hm'
        obtain ⟨z, ez, rz⟩ := lkN_rp rr el
        exact ⟨a, C, dx, _, z, rfl, x1.fh.ins ea', T.cl, hno c q.1 C hm, ez, PostG.at p1 x1 rz⟩
    | _ => exact p.elim
end
end DL
namespace DL
open PySem PySem.Spec L2
def Kx1 (P : Program) (w : World) (K : PySem.W.Frag) (mg : Str → Option Value) (base : Heap) (j : Nat) (c f : Str) : Prop := ∃ C fI fd ps, mg c = some (.ref C) ∧ OexC K C ∧ PySem.W.findIn K (.ref C) "__init__" = some (some (.ref fI)) ∧ PySem.W.typeIn K (.ref fI) = some (.type "function") ∧
  FnOk P w K mg base (L2.CX P w) j fI fd ps (HX.sp1 K C f) ∧ Binds K fd ps []
def Kx2 (P : Program) (w : World) (K : PySem.W.Frag) (mg : Str → Option Value) (base : Heap) (j : Nat) (c f g : Str) : Prop := ∃ C fI fd ps, mg c = some (.ref C) ∧ OexC K C ∧ PySem.W.findIn K (.ref C) "__init__" = some (some (.ref fI)) ∧ PySem.W.typeIn K (.ref fI) = some (.type "function") ∧
  FnOk P w K mg base (L2.CX P w) j fI fd ps (HX.sp2 K C f g) ∧ Binds K fd ps []
section
variable {X : Cx} {W : WX} {k j : Nat} {c f g : Str} {e e2 : Expr} {fs : DL.Env → R (List D)} {p pos pos2 : Pos}
theorem ds_kx1 (h : Kx1 X.prog X.w X.K X.mg X.base j c f) (hr : Room k X.A) (hcalm : X.calm = true) (tk : Takes X W) (ha : DA X W [e] fs) (hj : j + 1 ≤ k := by decide) (hg : Gl X c := by unfold L2.Gl; kernel_rfl) (hdb : (c == ("__debug__" : Str)) = false := by kernel_rfl)
    (he : starEach [e] X.env = (false, eval e X.env) :: starEach [] X.env := by rfl) (hpl : (backTo pos (starEach [] X.env)).any (·.1) = false := by rfl) : DS X W (.Raise (some (.Call (.Name c p) [e] [] pos)) none pos2) (sRaise c [f] fs) := by
  obtain ⟨C, fI, fd, ps, h1, h2, h3, h4, h5, h6⟩ := h
  exact ds_raise1 hcalm tk h2 h3 h4 h5 (hr.mono hj) h6 h1 ha hg hdb he hpl
end
def ckA (K : PySem.W.Frag) : CK → Value
  | .inl c => .ref (He.ga K c)
  | .inr n => .type n
def objB (K : PySem.W.Frag) (C : Addr) : Bool := PySem.W.plainGet K C Str.empty && (PySem.W.hasDictIn K C && (PySem.W.plainOver K C && (He.eqO (PySem.W.findIn K (.ref C) "__setattr__") (some (some (.builtin "object.__setattr__"))) &&
  (He.eqO (PySem.W.findIn K (.ref C) "__class__") (some (some (.builtin "object.__class__"))) && (He.eqO (PySem.W.specialIn K (.builtin "object.__class__") "__get__") (some (some (.builtin "getset_descriptor.__get__"))) &&
  (decide (PySem.W.takesIn K (.builtin "object.__class__") = some true) && decide (PySem.W.mroIn K C (.type "object") = some true)))))))
theorem objB_ok {K : PySem.W.Frag} {C : Addr} (h : objB K C = true) : OC K C := by
  obtain ⟨a1, h⟩ := He.ba h
  obtain ⟨a2, h⟩ := He.ba h
  obtain ⟨a3, h⟩ := He.ba h
  obtain ⟨a4, h⟩ := He.ba h
  obtain ⟨a5, h⟩ := He.ba h
  obtain ⟨a6, h⟩ := He.ba h
  obtain ⟨a7, a8⟩ := He.ba h
  exact ⟨⟨a1, a2, a3, He.eqO_ok a4⟩, He.eqO_ok a5, He.eqO_ok a6, of_decide_eq_true a7, of_decide_eq_true a8⟩
def exAll (cs : List Str) (tb : Tb) (K : PySem.W.Frag) : Bool := cs.all (fun c => if c ∈ OSG then objB K (He.ga K c) else HX.excB K (He.ga K c)) && tb.all fun e => decide (PySem.W.kitOne K (ckA K e.1) (ckA K e.2.1) = some e.2.2)
def feB (K : PySem.W.Frag) (B : Addr) : Bool := PySem.W.readsIn K B (.type "type") && (He.eqO (PySem.W.specialIn K (.ref B) "__getattribute__") (some (some (.builtin "type.__getattribute__"))) && (match PySem.W.findCls K (.ref B) (.type "type") "__init__" with
  | some (.val v) => decide (v = .builtin "ValueError.__init__")
  | _ => false))
theorem feB_ok {K : PySem.W.Frag} {B : Addr} (h : feB K B = true) : ClX.CRead K B (.type "type") ∧ PySem.W.findCls K (.ref B) (.type "type") "__init__" = some (.val (.builtin "ValueError.__init__")) := by
  obtain ⟨h1, h⟩ := He.ba h
  obtain ⟨h2, h3⟩ := He.ba h
  refine ⟨⟨h1, He.eqO_ok h2⟩, ?_⟩
  split at h3
  · rename_i v e
    rw [e, of_decide_eq_true h3]
  · cases h3
theorem exF_of {K : PySem.W.Frag} {mg : Str → Option Value} {cs : List Str} {tb : Tb} (hg : ∀ c ∈ cs, mg c = some (.ref (He.ga K c))) (ht : tb.all (fun e => (match e.1 with | .inl c => decide (c ∈ cs) | .inr _ => true) && (match e.2.1 with | .inl c => decide (c ∈ cs) | .inr _ => true)) = true) (h : exAll cs tb K = true) : ExF K mg cs tb := by
  obtain ⟨h1, h2⟩ := He.ba h
  have cv : ∀ (k : CK) (u : Value), (match k with | .inl c => decide (c ∈ cs) | .inr _ => true) = true → ckV mg k u → u = ckA K k := fun k u hk hu => by
    cases k with
    | inl c =>
      obtain ⟨C, e1, e2⟩ := hu
      rw [hg c (of_decide_eq_true hk)] at e1
      cases e1
      exact e2
    | inr n => exact hu
  refine ⟨fun c hc => ⟨_, hg c hc, fun n => ?_, fun n => ?_⟩, fun e he u v hu hv => ?_⟩
  · have q := List.all_eq_true.mp h1 c hc
    rw [if_neg n] at q
    exact HX.excB_ok q
  · have q := List.all_eq_true.mp h1 c hc
    rw [if_pos n] at q
    exact objB_ok q
  obtain ⟨k1, k2⟩ := He.ba (List.all_eq_true.mp ht e he)
  rw [cv _ _ k1 hu, cv _ _ k2 hv]
  exact of_decide_eq_true (List.all_eq_true.mp h2 e he)
section
variable {X : Cx} {W : WX} {cs : List Str} {tb : Tb} {c : Str} {p pos pos' np kp np2 apos : Pos} {body : List Stmt} {n kn : Str} {sub : Str → Option Bool} {g : DL.Env → Out}
theorem de_clsE (E : ExF X.K X.mg cs tb) (hc : c ∈ cs) (hg : Gl X c := by unfold L2.Gl; kernel_rfl) (hd : (c == ("__debug__" : Str)) = false := by kernel_rfl) : DE X W (.Name c pos) (eC (.cls c)) := by
  obtain ⟨C, hm, _⟩ := E.cls c hc
  exact de_cls hg hm hd
def KxT (K : PySem.W.Frag) (mg : Str → Option Value) (x : Str) (sub : Str → Option Bool) : Prop := ∃ C0, mg x = some (.ref C0) ∧ ∀ c b C, sub c = some b → mg c = some (.ref C) → PySem.W.exmOne K (.ref C) (.ref C0) = some b
end
theorem ExF.sub {K : PySem.W.Frag} {mg : Str → Option Value} {cs cs' : List Str} {tb : Tb} (E : ExF K mg cs tb) (h : ∀ c ∈ cs', c ∈ cs) : ExF K mg cs' tb := ⟨fun c hc => E.cls c (h c hc), E.tab⟩
theorem at_of {K : PySem.W.Frag} {mg : Str → Option Value} {cs : List Str} {f : Str} (hg : ∀ c ∈ cs, mg c = some (.ref (He.ga K c))) (h : cs.all (fun c => He.eqO (PySem.W.findIn K (.ref (He.ga K c)) f) (some none)) = true) : ∀ c ∈ cs, ∀ C, mg c = some (.ref C) → PySem.W.findIn K (.ref C) f = some none := fun c hc C gc => by
  rw [hg c hc] at gc
  cases gc
  exact He.eqO_ok (List.all_eq_true.mp h c hc)
end DL
namespace DHk
open PySem PySem.Spec PyProof.Rows L2 He
def asS (g : Addr → Option Obj) (n : Nat) : List Addr := He.asD g n ++ [cStatics]
abbrev AlS : Type := He.AlD × Bool
def obsS (fa : List Fa) (fn : List DefD) (ex : PySem.W.Frag → Bool) (K : PySem.W.Frag) : AlS := (obsD fa fn K, ex K)
def valS (fn : List DefD) : AlS := (valD fn, true)
def SaysS (fa : List Fa) (fn : List DefD) (ex : PySem.W.Frag → Bool) (K : PySem.W.Frag) : Prop := obsS fa fn ex K = valS fn
def obsSG (n : Nat) (fa : List Fa) (fn : List DefD) (ex : PySem.W.Frag → Bool) (g : Addr → Option Obj) : AlS := obsS fa fn ex (frG g (asS g n))
def hookS (n : Nat) (fa : List Fa) (fn : List DefD) (ex : PySem.W.Frag → Bool) : PySem.W.Hook where
  α := AlS
  obs := fun s => obsSG n fa fn ex s.heap.get?
  val := fun _ => valS fn
  says := fun _ h => ∃ K : PySem.W.Frag, K.In h ∧ SaysS fa fn ex K
  of := fun _ _ e => ⟨_, frG_in, e⟩
  keeps := fun _ _ _ ⟨K, hK, c⟩ k => ⟨K, PySem.W.Frag.In.keeps hK k, c⟩
theorem obsS_eq {n : Nat} {fa : List Fa} {fn : List DefD} {ex : PySem.W.Frag → Bool} {g : Addr → Option Obj} {s : Shared} (h : ∀ a, g a = s.heap.get? a) : obsSG n fa fn ex g = (hookS n fa fn ex).obs s := by
  have e : g = s.heap.get? := funext h
  rw [e] <;> rfl
theorem SaysS.d {fa : List Fa} {fn : List DefD} {ex : PySem.W.Frag → Bool} {K : PySem.W.Frag} (c : SaysS fa fn ex K) : SaysD fa fn K := congrArg (fun z : AlS => z.1) c
theorem SaysS.more {fa : List Fa} {fn : List DefD} {ex : PySem.W.Frag → Bool} {K : PySem.W.Frag} (c : SaysS fa fn ex K) : ex K = true := congrArg (fun z : AlS => z.2) c
end DHk
namespace DL
open PySem PySem.Spec L2
def sFgt (vs : List Nat) (g : DL.Env → Out) : DL.Env → Out := fun Γ => g (wipeE Γ vs)
def Out.wp (vs : List Nat) : Out → Out
  | .nx Γ => .nx (wipeE Γ vs)
  | .bk Γ => .bk (wipeE Γ vs)
  | .ct Γ => .ct (wipeE Γ vs)
  | o => o
def sWp (vs : List Nat) (g : DL.Env → Out) : DL.Env → Out := fun Γ => (g Γ).wp vs
section
variable {K : PySem.W.Frag} {mg : Str → Option Value} {F0 : Fe} {H0 F H : Hp} {σ : L2.St} {Γ : DL.Env}
theorem Rel.forget (r : Rel K mg F0 H0 F H σ Γ) (vs : List Nat) : Rel K mg F0 H0 F H σ (wipeE Γ vs) := by
  refine ⟨r.ext, by rw [wipeE_len]; exact r.len, fun i s e => r.slot i s (wipeE_get e).1, fun i j s t v u l ei ej hi hj os ot => ?_, fun i s k v e1 tk e2 => r.slf i s k v (wipeE_get e1).1 tk e2⟩
  exact r.inj i j s t v u l (wipeE_get ei).1 (wipeE_get ej).1 hi hj os ot
end
section
variable {X : Cx} {W : WX} {st : Stmt} {sts : List Stmt} {g : DL.Env → Out}
theorem ds_fgt (vs : List Nat) (h : DS X W st g) : DS X W st (sFgt vs g) := by
  refine PS.weak h ?_
  rintro Dn σ H ⟨F0, H0, F, Γ, r, p⟩
  exact ⟨F0, H0, F, _, r.forget vs, p⟩
theorem dss_wp (vs : List Nat) (h : DSs X W sts g) : DSs X W sts (sWp vs g) := by
  refine PSs.weak h ?_
  rintro Dn σ H ⟨F0, H0, F, Γ, r, p⟩
  refine ⟨F0, H0, F, Γ, r, ?_⟩
  revert p
  unfold sWp
  cases g Γ with
  | nx Γ' => exact fun p σ F H r => p σ F H (r.forget vs)
  | bk Γ' => exact fun p σ F H r => p σ F H (r.forget vs)
  | ct Γ' => exact fun p σ F H r => p σ F H (r.forget vs)
  | _ => exact fun p => p
end
end DL
namespace DL
open PySem PySem.Spec L2
def sPar (i j : Nat) (fs : DL.Env → R (List D)) : DL.Env → Out := fun Γ => (fs Γ).out Γ fun ds => match ds with
  | [d, e] => .nx ((Γ.set i (some (.val d))).set j (some (.val e)))
  | _ => .stuck
def sPar3 (i j l : Nat) (fs : DL.Env → R (List D)) : DL.Env → Out := fun Γ => (fs Γ).out Γ fun ds => match ds with
  | [d, e, f] => .nx (((Γ.set i (some (.val d))).set j (some (.val e))).set l (some (.val f)))
  | _ => .stuck
def fuelI (i : Nat) : DL.Env → Nat := fun Γ => match Env.at_ Γ i with
  | some (.val (.int n)) => n.toNat + 1
  | _ => 0
section
variable {X : Cx} {W : WX} {fs : DL.Env → R (List D)}
end
end DL
namespace HX
open PySem PySem.Spec PyProof.Rows L2
section
variable {X : Cx} {pins : List (Addr × Obj)} {σ : L2.St} {H : Hp} {s : Shared}
end
section
variable {X : Cx} {x n : Str} {c : Value} {i : Nat} {body suite : List Stmt} {b₀ : Stmt} {np pos pos' : Pos} {tb : WX → TS} {ts : Addr → Value → Option Addr → TS} {Wout : WX}
end
end HX
namespace DL
open PySem PySem.Spec L2
def Out.gone (i : Nat) : Out → Out
  | .nx Γ => .nx (Γ.set i none)
  | .bk Γ => .bk (Γ.set i none)
  | .ct Γ => .ct (Γ.set i none)
  | .rt d => .rt d
  | .ro d => .ro d
  | .rs d Γ => .rs d (Γ.set i none)
  | _ => .stuck
def Out.noX : Out → Out
  | .exc _ _ => .stuck
  | o => o
def sTryS (i : Nat) (sub : Str → Option Bool) (g gs : DL.Env → Out) : DL.Env → Out := fun Γ => match g Γ with
  | .exc (.exc c ns ds) Γ' => (match sub c with
    | some true => if i < Γ'.length then (gs (Γ'.set i (some (.val (.exc c ns ds))))).gone i else .stuck
    | some false => .exc (.exc c ns ds) Γ'
    | none => .stuck)
  | .exc _ _ => .stuck
  | o => o
def sTryO (sub : Str → Option Bool) (g gs : DL.Env → Out) : DL.Env → Out := fun Γ => match g Γ with
  | .exc (.exc c ns ds) Γ' => (match sub c with
    | some true => (gs Γ').noX
    | some false => .exc (.exc c ns ds) Γ'
    | none => .stuck)
  | .exc _ _ => .stuck
  | o => o
section
variable {X : Cx} {Wout : WX} {body suite : List Stmt} {b₀ : Stmt} {x n : Str} {cc : Value} {sub : Str → Option Bool} {g gs : DL.Env → Out} {np pos pos' : Pos}
theorem ds_tryO (hs : X.stack = X.env :: X.outer) (hf : X.env.frame = some X.env.locals) (hc : Names X x cc) (tk : Takes X Wout)
    (hsub : ∀ c b C, sub c = some b → X.mg c = some (.ref C) → PySem.W.exmOne X.K (.ref C) cc = some b)
    (hb : ∀ (W : WX) (pn : List (Addr × Obj)) (xe : Value → Shared → Prop), Takes (X.tr pn xe) W → PassesOwn (model X.prog X.w) X.A X.env xe → DSs (X.tr pn xe) W body g)
    (hsu : ∀ (a : Addr) (pn : List (Addr × Obj)), DSs (X.suite a pn) W0 (b₀ :: suite) gs) :
    DS X Wout (.Try body [.ExceptHandler (some (.Name x np)) none (b₀ :: suite) pos'] [] [] pos) (sTryO sub g gs) := by
  refine PS.weak (ps_try_only hs hf hc tk (tb := fun W => tDS X W g) (ts := fun a _ _ => tDS X W0 gs) (fun W pn xe t q => PSs.weak (hb W pn xe t q) fun _ _ _ h => h) (fun a oe cls d pn _ _ => PSs.weak (hsu a _) fun _ _ _ h => h)) ?_
  rintro Dn σ H ⟨F0, H0, F, Γ, r, p⟩
  refine ⟨F0, H0, F, Γ, r, ?_⟩
  revert p
  unfold sTryO
  cases e : g Γ with
  | exc y Γ' =>
    cases y with
    | exc c ns ds =>
      intro p cls od σ' F' H' r' q
      obtain ⟨C, ec, gC, qd⟩ := q
      subst ec
      have p : PostS X Wout F0 H0 Dn (match sub c with
        | some true => (gs Γ').noX
        | some false => .exc (.exc c ns ds) Γ'
        | none => .stuck) := p
      cases es : sub c with
      | none => rw [es] at p; exact p.elim
      | some b =>
        rw [es] at p
        refine ⟨b, hsub c b C es gC, fun hbt a na => ?_, fun hbf => ?_⟩
        · subst hbt
          have p : PostS X Wout F0 H0 Dn (gs Γ').noX := p
          refine ⟨F0, H0, F', Γ', r', ?_⟩
          revert p
          cases gs Γ' with
          | exc x Γ => exact fun p => p.elim
          | _ => exact fun p => p
        · subst hbf
          exact p _ _ σ' F' H' r' ⟨C, rfl, gC, qd⟩
    | _ => exact fun p => p.elim
  | _ => exact fun p => p
theorem ds_kxTryO (h : KxT X.K X.mg x sub) (tk : Takes X Wout)
    (hb : ∀ (W : WX) (pn : List (Addr × Obj)) (xe : Value → Shared → Prop), Takes (X.tr pn xe) W → PassesOwn (model X.prog X.w) X.A X.env xe → DSs (X.tr pn xe) W body g)
    (hsu : ∀ (a : Addr) (pn : List (Addr × Obj)), DSs (X.suite a pn) W0 (b₀ :: suite) gs)
    (hs : X.stack = X.env :: X.outer := by rfl) (hf : X.env.frame = some X.env.locals := by rfl)
    (hgx : Gl X x := by unfold L2.Gl; kernel_rfl) (hdx : (x == ("__debug__" : Str)) = false := by kernel_rfl) :
    DS X Wout (.Try body [.ExceptHandler (some (.Name x np)) none (b₀ :: suite) pos'] [] [] pos) (sTryO sub g gs) := by
  obtain ⟨C0, gC, hsub⟩ := h
  exact ds_tryO hs hf ⟨hgx, hdx, .inl gC⟩ tk hsub hb hsu
end
def CSG : List Str := ["FrameError", "NoLayout", "TooGreat", "NoStanding", "Stuck", "NoMove", "Below", "NoDivisor", "Between", "NoRow", "Spoilt", "TooLong", "NoBack", "NoName", "NoSay"]
def ysG (x : Str) : List Str := if x = "FrameError" then CSG else [x]
def subG (x : Str) : Str → Option Bool := fun c => if c ∈ CSG then some (decide (c ∈ ysG x)) else none
theorem kxT_ofG {K : PySem.W.Frag} {mg : Str → Option Value} {x : Str} {cs : List Str} (gx : mg x = some (.ref (He.ga K x))) (hg : ∀ c ∈ cs, mg c = some (.ref (He.ga K c))) (hn : ∀ c ∈ CSG, c ∈ cs ∨ mg c = none)
    (h : cs.all (fun c => decide (PySem.W.exmOne K (.ref (He.ga K c)) (.ref (He.ga K x)) = some (decide (c ∈ ysG x)))) = true) : KxT K mg x (subG x) := by
  refine ⟨_, gx, fun c b C e gc => ?_⟩
  unfold subG at e
  by_cases q : c ∈ CSG
  case neg => rw [if_neg q] at e; cases e
  rw [if_pos q] at e
  cases e
  rcases hn c q with hc | hc
  · rw [hg c hc] at gc
    cases gc
    exact of_decide_eq_true (List.all_eq_true.mp h c hc)
  · rw [hc] at gc
    cases gc
end DL
namespace HO
open PySem PySem.Spec PyProof.Rows L2
def tMethD (X : Cx) (W : WX) (k : Nat) (m : Str) (ta : TE) (t : TA) : TE := fun σ H Q => ta σ H fun x H1 => ∃ a C dx fs f fd ps sp, x = .ref a ∧ H1 a = some (.ins C dx fs) ∧ fs.lookup m = none ∧ Cls X.K C ∧ Meth X.K C m f ∧ Binds X.K fd ps [] ∧
  FnOk X.prog X.w X.K X.mg X.base (L2.CX X.prog X.w) k f fd ps sp ∧ t σ H1 fun vs H2 => sp (x :: vs) H2 Q (WE W σ)
section
variable {X : Cx} {W : WX} {k : Nat} {m : Str} {pos apos : Pos} {e o : Expr} {es : List Expr} {ta : TE} {t : TA}
theorem pe_methD {pl : Sem Bool} (he : PE X o ta) (hr : Room k X.A) (hx : ∀ σ, PassesAt (L2.CX X.prog X.w) X σ (WE W σ)) (ha : PA X (e :: es) t)
    (hst : starEach (e :: es) X.env = (false, eval e X.env) :: starEach es X.env := by rfl) (hpl : (backTo pos (starEach es X.env)).any (·.1) = false := by rfl)
    (ht : eval (.Call (.Attribute o m apos) (e :: es) [] pos) X.env = (do
      let ov ← eval o X.env
      standAt apos.atName
      let (f, first) ← holding [ov] (getMethod ov m pl)
      callWith pos f first (backTo pos (starEach (e :: es) X.env)) (backToKw pos (keywordEach [] X.env))) := by rfl) :
    PE X (.Call (.Attribute o m apos) (e :: es) [] pos) (tMethD X W k m ta t) := by
  refine ⟨fun pins s σ H Q I h => ?_⟩
  refine PySem.W.methodCall_KW (pl := pl) (thn (he.run pins s σ H _ I h) fun u s1 ⟨x, H1, I1, rx, a, C, dx, fs, f, fd, ps, sp, ex, ea, l, c, hm, hb, F, q⟩ => ?_) ht
  subst ex
  obtain rfl : u = Value.ref a := rx
  refine getmeth_ok I1 ea c hm l ?_
  refine PySem.W.callWith_K (first := [.ref a]) (h₀ := X.base) I.ok.mod.kin hm.kp (thn (ha.run pos pins s1 σ H1 _ I1 q) fun us s2 ⟨vs, H2, I2, r, q2⟩ => ⟨I2.kIn, ?_⟩) hst hpl
  exact run_fnSD (us := .ref a :: us) (vs := .ref a :: vs) (ds := []) (dvs := []) (E := WE W) F hr hb .nil (hx σ) I2 (.cons rfl r) (by rw [List.append_nil]; exact q2)
theorem pe_methD0 {pl : Sem Bool} (he : PE X o ta) (hr : Room k X.A) (hx : ∀ σ, PassesAt (L2.CX X.prog X.w) X σ (WE W σ))
    (ht : eval (.Call (.Attribute o m apos) [] [] pos) X.env = (do
      let ov ← eval o X.env
      standAt apos.atName
      let (f, first) ← holding [ov] (getMethod ov m pl)
      callWith pos f first (backTo pos (starEach [] X.env)) (backToKw pos (keywordEach [] X.env))) := by rfl) :
    PE X (.Call (.Attribute o m apos) [] [] pos) (tMethD X W k m ta tNil) := by
  refine ⟨fun pins s σ H Q I h => ?_⟩
  refine PySem.W.methodCall_KW (pl := pl) (thn (he.run pins s σ H _ I h) fun u s1 ⟨x, H1, I1, rx, a, C, dx, fs, f, fd, ps, sp, ex, ea, l, c, hm, hb, F, q⟩ => ?_) ht
  subst ex
  obtain rfl : u = Value.ref a := rx
  refine getmeth_ok I1 ea c hm l ?_
  refine PySem.W.callWith_K0 (first := [.ref a]) I1.kIn hm.kp ?_
  exact run_fnSD (us := [.ref a]) (vs := [.ref a]) (ds := []) (dvs := []) (E := WE W) F hr hb .nil (hx σ) I1 (.cons rfl .nil) (by rw [List.append_nil]; exact q)
end
structure Mk0 (K : PySem.W.Frag) (C : Addr) : Prop where
  makes : PySem.W.makesIn K C = true
  init : PySem.W.findIn K (.ref C) "__init__" = some (some (.builtin "object.__init__"))
  kp : PySem.W.keepIn K (.ref C) = true
section
variable {X : Cx} {C : Addr} {x : Str} {p pos : Pos}
end
def spi2 (C : Addr) (f g : Str) : Sp := fun vs H Q _ => ∃ a y z dx, vs = [.ref a, y, z] ∧ H a = some (.ins C dx []) ∧ Q .non (upd (upd H a (.ins C dx [(f, y)])) a (.ins C dx [(f, y), (g, z)]))
end HO
namespace DL
open PySem PySem.Spec L2
def eNew0 (c : Str) : DL.Env → R D := fun _ => .ok (.obj c [] [])
def eNew2 (c f g : Str) (fs : DL.Env → R (List D)) : DL.Env → R D := fun Γ => (fs Γ).bind fun ds => match ds with
  | [d, e] => .ok (.obj c [f, g] [d, e])
  | _ => .stuck
def lkC : List (Str × (List D → R D)) → Str → Option (List D → R D)
  | [], _ => none
  | e :: tb, c => if e.1 = c then some e.2 else lkC tb c
def dMeth (tb : List (Str × (List D → R D))) (m : Str) (n : Nat) (x : D) (fs : R (List D)) : R D := match x with
  | .obj c ns ws => if m ∈ ns then .stuck else (match lkC tb c with
    | some mf => fs.bind fun ds => if ds.length = n then mf (.obj c ns ws :: ds) else .stuck
    | none => .stuck)
  | _ => .stuck
def eMeth (tb : List (Str × (List D → R D))) (m : Str) (n : Nat) (fo : DL.Env → R D) (fs : DL.Env → R (List D)) : DL.Env → R D := fun Γ => (fo Γ).bind fun x => dMeth tb m n x (fs Γ)
def KO2 (P : Program) (w : World) (K : PySem.W.Frag) (mg : Str → Option Value) (base : Heap) (j : Nat) (c f g : Str) : Prop := ∃ C fI fd ps, mg c = some (.ref C) ∧ Mk K C fI ∧ Binds K fd ps [] ∧ FnOk P w K mg base (L2.CX P w) j fI fd ps (HO.spi2 C f g)
def KnM (P : Program) (w : World) (K : PySem.W.Frag) (mg : Str → Option Value) (base : Heap) (k : Nat) (tb : List (Str × (List D → R D))) (m : Str) (n : Nat) : Prop :=
  ∀ e ∈ tb, ∃ C f fd ps, mg e.1 = some (.ref C) ∧ Cls K C ∧ Meth K C m f ∧ Binds K fd ps [] ∧ FnOk P w K mg base (L2.CX P w) k f fd ps (spD K mg (n + 1) e.2)
theorem lkC_ok : ∀ {tb : List (Str × (List D → R D))} {c : Str} {mf : List D → R D}, lkC tb c = some mf → (c, mf) ∈ tb
  | [], _, _, h => by cases h
  | e :: tb, c, mf, h => by
    unfold lkC at h
    by_cases q : e.1 = c
    · rw [if_pos q] at h
      cases h
      subst q
      exact List.mem_cons_self
    · rw [if_neg q] at h
      exact List.mem_cons_of_mem _ (lkC_ok h)
theorem zip_none {m : Str} : ∀ {ns : List Str} {vs : List V}, m ∉ ns → (ns.zip vs).lookup m = none
  | [], _, _ => by simp
  | _ :: _, [], _ => by simp
  | n :: ns, v :: vs, h => by
    simp only [List.mem_cons, not_or] at h
    rw [List.zip_cons_cons, lookup_put, if_neg h.1]
    exact zip_none h.2
theorem Ext.made {F H : Hp} (z : Fz F H) {a dx C : Addr} {o o2 : HO} {fs : List (Str × V)} (na : H a = none) (nd : H dx = none) (ne : dx ≠ a) : Ext F H (upd F a (.ins C dx fs)) (upd (upd (upd H dx o2) a o) a (.ins C dx fs)) := by
  have e : upd (upd (upd H dx o2) a o) a (.ins C dx fs) = upd (upd H dx o2) a (.ins C dx fs) := by
    funext b
    by_cases h : b = a
    · rw [h, upd_same, upd_same]
    · rw [upd_ne h, upd_ne h, upd_ne h]
  rw [e]
  exact (Ext.heap z nd).trans (Ext.laid (Ext.heap z nd).fh (by rw [upd_ne (Ne.symm ne)]; exact na))
section
variable {X : Cx} {W : WX} {j k n : Nat} {c f g m : Str} {e e2 o : Expr} {es : List Expr} {p pos apos : Pos} {fs : DL.Env → R (List D)} {fo : DL.Env → R D} {tb : List (Str × (List D → R D))}
theorem de_new2 (h : KO2 X.prog X.w X.K X.mg X.base j c f g) (hr : Room k X.A) (ha : DA X W [e, e2] fs) (hj : j + 1 ≤ k := by decide) (hg : Gl X c := by unfold L2.Gl; kernel_rfl) (hdb : (c == ("__debug__" : Str)) = false := by kernel_rfl)
    (he : starEach [e, e2] X.env = (false, eval e X.env) :: starEach [e2] X.env := by rfl) (hpl : (backTo pos (starEach [e2] X.env)).any (·.1) = false := by rfl) : DE X W (.Call (.Name c p) [e, e2] [] pos) (eNew2 c f g fs) := by
  obtain ⟨C, fI, fd, ps, hm, M, hb, G⟩ := h
  have hx : Passes (L2.CX X.prog X.w) X (fun _ _ _ => False) := fun _ _ _ _ _ _ _ h => by
    obtain ⟨_, _, _, _, _, _, _, _, _, _, _, _, z⟩ := h
    exact z.elim
  refine PE.weak (pe_make M G (hr.mono hj) hg hm hb .nil hx ha hdb he hpl) ?_
  rintro σ H Q ⟨F0, H0, F, Γ, r, p⟩
  refine ⟨F0, H0, F, Γ, r, PostG.bind p (fun ds vs F1 H1 _ x1 r1 p1 => ?_) fun _ _ _ _ _ h => h⟩
  have r1 : RpL X.K X.mg F1 ds vs := r1
  cases ds with
  | nil => exact p1.elim
  | cons d ds =>
    cases ds with
    | nil => exact p1.elim
    | cons d2 ds =>
      cases ds with
      | cons _ _ => exact p1.elim
      | nil =>
        obtain ⟨v, u, rfl, rv, ru⟩ := r1.two
        intro a dx na nd ne
        refine ⟨a, v, u, dx, rfl, by rw [upd_same], rfl, ?_⟩
        have e : upd (upd (upd (upd H1 dx (.own a)) a (.ins C dx [])) a (.ins C dx [(f, v)])) a (.ins C dx [(f, v), (g, u)]) = upd (upd (upd H1 dx (.own a)) a (.ins C dx [])) a (.ins C dx [(f, v), (g, u)]) := by
          funext b
          by_cases h : b = a
          · rw [h, upd_same, upd_same]
          · simp only [upd_ne h]
        rw [e]
        have ex := Ext.made (C := C) (o := .ins C dx []) (o2 := .own a) (fs := [(f, v), (g, u)]) x1.fh na nd ne
        refine PostG.at p1 ex ?_
        show Rp _ _ _ _ _
        unfold Rp
        exact ⟨a, C, dx, [v, u], rfl, hm, upd_same, rfl, RpL.mono ex.ff _ _ (RpL.cons rv (RpL.cons ru RpL.nil))⟩
theorem meth_read (h : KnM X.prog X.w X.K X.mg X.base j tb m n) (hj : j ≤ k) {t : TA} (ht : ∀ (F0 : Fe) (H0 F H : Hp) (σ : L2.St) (Γ : DL.Env) (Q : List V → Hp → Prop), Rel X.K X.mg F0 H0 F H σ Γ → PostG X.K X.mg (repL X.K X.mg) F H (WE W σ) Q (fs Γ) → t σ H Q) :
    ∀ σ H Q, tD X W (eMeth tb m n fo fs) σ H Q → HO.tMethD X W k m (tD X W fo) t σ H Q := by
  rintro σ H Q ⟨F0, H0, F, Γ, r, p⟩
  refine ⟨F0, H0, F, Γ, r, PostG.bind p (fun x v F1 H1 _ x1 r1 p1 => ?_) fun _ _ _ _ _ h => h⟩
  have r1 : Rp X.K X.mg F1 x v := r1
  cases x with
  | obj c ns ws =>
    have r0 := r1
    unfold Rp at r1
    obtain ⟨a, C, dx, vs, rfl, hm, ea, hl, rr⟩ := r1
    have p1 : PostG X.K X.mg (repV X.K X.mg) F1 H1 (WE W σ) Q (if m ∈ ns then .stuck else (match lkC tb c with
      | some mf => (fs Γ).bind fun ds => if ds.length = n then mf (.obj c ns ws :: ds) else .stuck
      | none => .stuck)) := p1
    by_cases q1 : m ∈ ns
    · rw [if_pos q1] at p1
      exact p1.elim
    · rw [if_neg q1] at p1
      cases el : lkC tb c with
      | none => rw [el] at p1; exact p1.elim
      | some mf =>
        rw [el] at p1
        have p1 : PostG X.K X.mg (repV X.K X.mg) F1 H1 (WE W σ) Q ((fs Γ).bind fun ds => if ds.length = n then mf (.obj c ns ws :: ds) else .stuck) := p1
        obtain ⟨C', f, fd, ps, hm', cl, me, hb, G⟩ := h (c, mf) (lkC_ok el)
        rw [hm] at hm'
        cases hm'
        refine ⟨a, C, dx, _, f, fd, ps, _, rfl, x1.fh.ins ea, zip_none q1, cl, me, hb, G.mono hj, ht _ _ _ _ _ _ _ (r.step x1) ?_⟩
        refine PostG.bind p1 (fun ds us F2 H2 _ x2 r2 p2 => ?_) fun _ _ _ _ _ h => h
        obtain ⟨hl2, p3⟩ := ifR p2
        exact ⟨F2, .obj c ns ws :: ds, by rw [List.length_cons, hl2], x2.fh, RpL.cons (Rp.mono x2.ff _ _ r0) r2, p3⟩
  | _ => exact p1.elim
theorem de_meth {pl : Sem Bool} (h : KnM X.prog X.w X.K X.mg X.base j tb m n) (hr : Room k X.A) (ho : DE X W o fo) (ha : DA X W (e :: es) fs) (hx : OkW X W) (hj : j ≤ k := by decide)
    (hst : starEach (e :: es) X.env = (false, eval e X.env) :: starEach es X.env := by rfl) (hpl : (backTo pos (starEach es X.env)).any (·.1) = false := by rfl)
    (ht : eval (.Call (.Attribute o m apos) (e :: es) [] pos) X.env = (do
      let ov ← eval o X.env
      standAt apos.atName
      let (f, first) ← holding [ov] (getMethod ov m pl)
      callWith pos f first (backTo pos (starEach (e :: es) X.env)) (backToKw pos (keywordEach [] X.env))) := by rfl) :
    DE X W (.Call (.Attribute o m apos) (e :: es) [] pos) (eMeth tb m n fo fs) :=
  PE.weak (HO.pe_methD (pl := pl) ho hr hx ha hst hpl ht) (meth_read h hj fun F0 H0 F H σ Γ Q r p => ⟨F0, H0, F, Γ, r, p⟩)
theorem de_meth0 {pl : Sem Bool} (h : KnM X.prog X.w X.K X.mg X.base j tb m 0) (hr : Room k X.A) (ho : DE X W o fo) (hx : OkW X W) (hj : j ≤ k := by decide)
    (ht : eval (.Call (.Attribute o m apos) [] [] pos) X.env = (do
      let ov ← eval o X.env
      standAt apos.atName
      let (f, first) ← holding [ov] (getMethod ov m pl)
      callWith pos f first (backTo pos (starEach [] X.env)) (backToKw pos (keywordEach [] X.env))) := by rfl) :
    DE X W (.Call (.Attribute o m apos) [] [] pos) (eMeth tb m 0 fo aNil) :=
  PE.weak (HO.pe_methD0 (pl := pl) ho hr hx ht) (meth_read h hj fun F0 H0 F H σ Γ Q r p => PostG.ok p r.fz RpL.nil)
end
end DL
namespace DL
open PySem PySem.Spec L2
def dInt1 : D → R D
  | .int i => .ok (.int i)
  | .bl b => .ok (.int (if b then 1 else 0))
  | _ => .stuck
abbrev dInt := un1 dInt1
def sExtO (i : Nat) (f : DL.Env → R (List D)) : DL.Env → Out := fun Γ => match Env.at_ Γ i with
  | some (.own ds) => (f Γ).out Γ fun es => if ds.length + es.length ≤ LIM then .nx (Γ.set i (some (.own (ds ++ es)))) else .stuck
  | some (.hnd m ds) => (f Γ).out Γ fun es => if ds.length + es.length ≤ LIM then .nx (Γ.set i (some (.hnd m (ds ++ es)))) else .stuck
  | _ => .stuck
def iRevRng1 : D → R (List D)
  | .int j => if inR62 j then .ok (rngDn ((j.toNat : Nat) - 1) j.toNat) else .stuck
  | _ => .stuck
def iRevRng (f : DL.Env → R D) : DL.Env → R (List D) := fun Γ => (f Γ).bind iRevRng1
section
variable {X : Cx} {W : WX} {e a : Expr} {f : DL.Env → R (List D)} {fo : DL.Env → R (List D)} {pos p p2 : Pos}
theorem ds_extendO (i : Nat) {x : Str} {p1 p2 cpos : Pos} (he : DO X W e f) (hN : X.N[i]? = some x := by rfl) (hv : Vis X.env.scope x := by first | exact Or.inl (by kernel_rfl) | exact Or.inr (Or.inl (by kernel_rfl)) | exact Or.inr (Or.inr (by kernel_rfl))) (hd : (x == ("__debug__" : Str)) = false := by kernel_rfl)
    (hcd : (x == ("__classdict__" : Str)) = false := by kernel_rfl) (hs1 : starEach [e] X.env = (false, eval e X.env) :: starEach [] X.env := by rfl) (hline : (p2.endLine == cpos.line) = true := by rfl)
    (hfew : ((backTo cpos (starEach [e] X.env)).all (fun x => !x.1) && (backToKw cpos (keywordEach [] X.env)).all (fun x => x.1.isSome)
      && decide (([e] : List Expr).length + ([] : List Keyword).length + (if ([] : List Keyword).isEmpty then 0 else 1) < 30)) = true := by rfl)
    (hs : swapsWith (.Call (.Attribute (.Name x p1) "extend" p2) [e] [] cpos) none pos.line X.env = pure false := by rfl) :
    DS X W (.Expr (.Call (.Attribute (.Name x p1) "extend" p2) [e] [] cpos) pos) (sExtO i f) := by
  refine PS.weak (ps_expr (pe_bm PySem.F.plainAttrs_list PySem.F.slot_list_extend PySem.F.type_list_extend mt_extend (pe_var hN hv hd hcd) (pa_cons he pa_nil hs1) rfl hfew hline hs1) hs) ?_
  rintro Dn σ H ⟨F0, H0, F, Γ, r, p⟩
  revert p
  unfold sExtO
  cases ei : Env.at_ Γ i with
  | none => exact fun p => p.elim
  | some s =>
    cases s with
    | hdc _ _ _ => exact fun p => p.elim
    | abs _ _ => exact fun p => p.elim
    | oob b c ns fs => exact fun p => p.elim
    | hnd m ds =>
      intro p
      obtain ⟨v, h1, l, vs, e1, e2, e3, e4, e5⟩ := r.slot i _ (at_get ei)
      subst e1
      refine ⟨_, h1, .inl ⟨rfl, _, SqL.of e2⟩, F0, H0, F, Γ, r, PostS.out r p fun es w F1 H1 _ x1 r1 p1 => ?_⟩
      obtain ⟨b, zs, rfl, g1, g2, g3, g4⟩ := r1
      by_cases hl : ds.length + es.length ≤ LIM
      · rw [if_pos hl] at p1
        refine ⟨l, b, vs, zs, rfl, rfl, x1.hh _ _ e2, g1, by rw [← e5.length, ← g4.length]; exact hl, p1 _ F1 _ ?_⟩
        have r' := r.step x1
        refine r'.mutO (at_get ei) rfl h1 rfl ?_
        refine ⟨l, vs ++ zs, rfl, upd_same, ?_, e4, RpL.append (RpL.mono x1.ff _ _ e5) g4⟩
        cases q : F1 l with
        | none => rfl
        | some o =>
          rcases x1.new l o q with z | z
          · rw [e3] at z; cases z
          · rw [e2] at z; cases z
      · rw [if_neg hl] at p1
        exact p1.elim
    | val d => exact fun p => p.elim
    | dic ks ds => exact fun p => p.elim
    | own ds =>
      intro p
      obtain ⟨v, h1, l, vs, e1, e2, e3, e4, e5⟩ := r.slot i _ (at_get ei)
      subst e1
      refine ⟨_, h1, .inl ⟨rfl, _, SqL.of e2⟩, F0, H0, F, Γ, r, PostS.out r p fun es w F1 H1 _ x1 r1 p1 => ?_⟩
      obtain ⟨b, zs, rfl, g1, g2, g3, g4⟩ := r1
      by_cases hl : ds.length + es.length ≤ LIM
      · rw [if_pos hl] at p1
        refine ⟨l, b, vs, zs, rfl, rfl, x1.hh _ _ e2, g1, by rw [← e5.length, ← g4.length]; exact hl, p1 _ F1 _ ?_⟩
        have r' := r.step x1
        refine r'.mutO (at_get ei) rfl h1 rfl ?_
        refine ⟨l, vs ++ zs, rfl, upd_same, ?_, e4, RpL.append (RpL.mono x1.ff _ _ e5) g4⟩
        cases q : F1 l with
        | none => rfl
        | some o =>
          rcases x1.new l o q with z | z
          · rw [e3] at z; cases z
          · rw [e2] at z; cases z
      · rw [if_neg hl] at p1
        exact p1.elim
theorem di_revRng {tg : Expr} {p3 pos2 : Pos} {fa : DL.Env → R D} (hg : Gl X "reversed") (hm : X.mg "reversed" = none) (hg2 : Gl X "range") (hm2 : X.mg "range" = none) (ha : DE X W a fa)
    (hs : starEach [a] X.env = (false, eval a X.env) :: starEach [] X.env := by rfl) (hs2 : starEach [.Call (.Name "range" p3) [a] [] pos2] X.env = (false, eval (.Call (.Name "range" p3) [a] [] pos2) X.env) :: starEach [] X.env := by rfl) :
    DI X W tg (.Call (.Name "reversed" p) [.Call (.Name "range" p3) [a] [] pos2] [] pos) (iRevRng fa) := by
  refine PI.weak (pi_revR hg hm (prg_1 hg2 hm2 ha hs) hs2) ?_
  rintro σ H Q ⟨F0, H0, F, Γ, r, p⟩
  refine ⟨F0, H0, F, Γ, r, PostG.bind p (fun d v F1 H1 _ x1 r1 p1 => ?_) fun _ _ _ _ _ h => h⟩
  have r2 : Rp X.K X.mg F1 d v := r1
  cases d with
  | int j =>
    obtain ⟨c, p2⟩ := ifR p1
    obtain ⟨c1, c2⟩ := in62 c
    have e0 : (0 : Int) + (((j - 0).toNat : Nat) : Int) - 1 = (j.toNat : Nat) - 1 := by rw [Int.sub_zero]; omega
    refine ⟨j, by rw [r2.int_iff], by decide, by decide, c1, c2, ?_⟩
    rw [e0, Int.sub_zero]
    exact PostG.ok p2 x1.fh walkD_dn
  | _ => exact p1.elim
end
end DL
namespace HX
open PySem PySem.Spec PyProof.Rows L2
section
variable {X : Cx} {e : Expr} {es : List Expr} {ta : TA} {p pos : Pos}
theorem mkN {Y : CXT} {x : Str} {C fI : Addr} {k : Nat} {fd : FuncData} {ps : List Str} {sp : Sp} (T : OexC X.K C) (iC : PySem.W.findIn X.K (.ref C) "__init__" = some (some (.ref fI))) (tI : PySem.W.typeIn X.K (.ref fI) = some (.type "function"))
    (G : FnOk X.prog X.w X.K X.mg X.base Y k fI fd ps sp) (rm : Room (k + 1) X.A) (bn : Binds X.K fd ps []) (pass : Passes Y X (fun _ _ _ => False)) (gx : Gl X x) (mx : X.mg x = some (.ref C)) (args : PA X (e :: es) ta)
    (nd : (x == ("__debug__" : Str)) = false := by kernel_rfl) (st : starEach (e :: es) X.env = (false, eval e X.env) :: starEach es X.env := by rfl) (pl : (backTo pos (starEach es X.env)).any (·.1) = false := by rfl) :
    L2N.PMk X (.Call (.Name x p) (e :: es) [] pos) (tMkO C sp [] ta) := by
  intro pins s σ H Q I todo
  obtain ⟨_, _, _, _, bmr, _, _, _, _, _, _, _, _, _, _, kC, hv⟩ := T.cls
  refine wpAny_Call_Name_kw (ld_glob I gx mx ?_ nd)
  refine PySem.W.callWith_K (h₀ := X.base) I.ok.mod.kin T.kC (thn (args.run pos pins s σ H _ I todo) fun us s1 ⟨vs, H1, I1, rv, few, q1⟩ => ⟨I1.kIn, (?_ : wpAny _ _ (call (.ref C) us) _ _ _)⟩) st pl
  obtain ⟨g0, gn, dr, tk, os⟩ := s1
  have up1 : g0.objs.size ≤ g0.objs.size + 1 := Nat.le_succ _
  have q2 := q1 (g0.objs.size + 1) (I1.hok.fresh up1)
  rw [List.append_nil] at q2
  have keep : ∀ b o, g0.get? b = some o → ((g0.push (PySem.W.kdv_tup us)).push (PySem.HandSPX.excO C g0.objs.size)).get? b = some o := fun b o z => Heap.get?_push_of_some _ (Heap.get?_push_of_some _ z)
  have here : ((g0.push (PySem.W.kdv_tup us)).push (PySem.HandSPX.excO C g0.objs.size)).get? (g0.objs.size + 1) = some (PySem.HandSPX.excO C g0.objs.size) := by heap_get
  have I2 : Inv X pins σ (upd H1 (g0.objs.size + 1) (exo (g0.objs.size + 1) C none)) ⟨(g0.push (PySem.W.kdv_tup us)).push (PySem.HandSPX.excO C g0.objs.size), gn, dr, tk, os⟩ :=
    I1.laid (t' := tk) (a := g0.objs.size + 1) (o := exo (g0.objs.size + 1) C none) keep up1 (exo_ok here)
  have rv2 : Vals (V.ref (g0.objs.size + 1) :: vs) (Value.ref (g0.objs.size + 1) :: us) := .cons rfl rv
  have ln : (Value.ref (g0.objs.size + 1) :: us ++ []).length = ps.length := by
    rw [List.append_nil, ← rv2.length]
    exact G.len _ _ _ _ q2
  have few2 : us.length ≤ sizeLine := by
    rw [← Paired.length rv, sizeLine_eq]
    omega
  have bd := bn _ (Value.ref (g0.objs.size + 1) :: us) I2.kIn ln
  rw [List.append_nil] at bd
  have inner := G.run _ X.stack _ _ ⟨Value.ref (g0.objs.size + 1) :: us, []⟩ (Value.ref (g0.objs.size + 1) :: us) _ _ (fun _ _ _ => False) (rm.make C us []) (I2.env0.make C us []) bd rv2 q2
  refine wpAny_call (PySem.HandSPX.call_own F.excBase_ValueError (fun Z => PySem.HandSPX.refsVE_contains Z bmr hv) (I1.kIn _ _ kC) (PySem.W.looks_findIn I1.kIn iC) (fun self => PySem.W.bind_fn I1.kIn self tI) few2 (codeAny_mono inner fun r s' back => ?_))
  cases r with
  | error er => exact pass pins σ _ _ er s' I2 back
  | ok fl =>
    cases fl with
    | ret u =>
      obtain ⟨v, H2, o2, b2, n2, k2, r2, ev, d, fs, ea, ed, nd1, q3⟩ := back
      subst ev
      obtain ⟨g2, gn2, dr2, tk2, os2⟩ := s'
      obtain ⟨t0, W0, J, kW, we, wo, na⟩ := mk_end0 (d2 := dr2) (t2 := tk2) I1 up1 keep n2 k2 o2 b2 ea ed nd1
      exact ⟨r2, g0.objs.size + 1, _, _, ⟨W0, gn2, dr2, tk2, os2⟩, _, .ref C, some d, rfl, J, kW, we, wo, ⟨rfl, rfl, fun zs hz => by cases hz; rfl⟩, rfl, rfl, na, rfl, b2, raises_own T.exC T.tyC, q3⟩
    | next => exact back.elim
    | brk => exact back.elim
    | cont => exact back.elim
end
end HX
namespace HX
open PySem PySem.Spec PyProof.Rows L2
abbrev asX (X : Cx) (n : Str) (pos : Pos) (a : Addr) (pn : List (Addr × Obj)) : Cx :=
  { X with A := X.A.mark (some (.ref a)), calm := false, pn := pn, xe := AsSuiteRaised (model X.prog X.w) (X.A.mark (some (.ref a))) X.env n pos (notedBy (model X.prog X.w) (X.A.mark (some (.ref a))) X.env (cameBackBy (model X.prog X.w) X.A X.env X.xe)) }
section
variable {X : Cx} {n : Str} {i : Nat} {pos : Pos} {Wout : WX}
theorem asX_of {a : Addr} {pn pp : List (Addr × Obj)} {σ : L2.St} {H : Hp} {s : Shared} (I : Inv (X.suite a pn) pp σ H s) : Inv (asX X n pos a pn) pp σ H s :=
  Inv.unwish (X := asX X n pos a pn) (E := fun _ _ => False) I
theorem asX_takes {pins : List (Addr × Obj)} {q : Addr × Obj} {c0 : Addr} (hs : X.stack = X.env :: X.outer) (hf : X.env.frame = some X.env.locals) (hN : X.N.Nodup) (hi : X.N[i]? = some n) (hln : X.env.kindOf n = some .local) (hex : X.ex = []) (ok : X.Ok)
    (hpa : ∀ hd : Option Value, PassesOwnAt (model X.prog X.w) (X.A.mark hd) X.A X.env X.xe) (tk : L2.Takes X Wout) :
    L2.Takes (asX X n pos c0 (q :: (X.pn ++ pins))) (fun cls d σ H => Wout cls d (σ.set i none) H) := by
  rintro _ s1 ⟨e, B, sI, pp, σ, H, cls, d, rfl, I0, nb, up, sky, na, os, ag, wish⟩
  have frm : X.A.frames = some (X.env :: X.outer) := by rw [ok.frames, hs]
  have I : Inv X pins σ H sI := Inv.unsuite (X := X) (a := c0) (q := q) (pn' := pp) (show Inv (X.suite c0 (q :: (X.pn ++ pins))) pp σ H sI from I0.wish fun _ _ => False) ok
  have sk : Sky B (X.env :: X.outer) e (Zc cls d) X.env.locals s1.heap := by rw [← hs]; exact sky
  have nb : ∀ b o, sI.heap.get? b = some o → b ∉ frs X.stack → B.get? b = some o := nb
  show wpAny (model X.prog X.w) (X.A.mark (some (.ref c0))) (noteFrame (.ref e) X.env) _ _ s1
  have go : ∀ g1, HandSPX.HeldZ B (X.env :: X.outer) e (Zc cls d) X.env.locals g1 → s1.heap.UpToSlots g1 → wpAny (model X.prog X.w) (X.A.mark (some (.ref c0))) (do bindName X.env n .none; unbindBehindTheSuite X.env n pos)
      (fun _ s₂ => wpAny (model X.prog X.w) (X.A.mark (some (.ref c0))) (passOn "try.except-as" (.ref e) X.env : Sem Flow) (fun _ _ => False) (notedBy (model X.prog X.w) (X.A.mark (some (.ref c0))) X.env (cameBackBy (model X.prog X.w) X.A X.env X.xe)) s₂)
      (fun y s₂ => wpAny (model X.prog X.w) (X.A.mark (some (.ref c0))) (setFlight (.ref e) none) (fun _ s₃ => (notedBy (model X.prog X.w) (X.A.mark (some (.ref c0))) X.env (cameBackBy (model X.prog X.w) X.A X.env X.xe)) y s₃) (notedBy (model X.prog X.w) (X.A.mark (some (.ref c0))) X.env (cameBackBy (model X.prog X.w) X.A X.env X.xe)) s₂) { s1 with heap := g1 } := fun g1 held u1 => by
    have I3 : Inv X pins σ H { s1 with heap := g1 } := I.landed nb held.1 (up.trans u1) os ag
    obtain ⟨_, bno, ff, oe, vs, T, oT, ts, he, hz, hd, v1, bT, Tne, hT, dT, t3⟩ := id held
    have nT : H T = none := (I.inGround nb).gone bT
    have off : ∀ (b : Addr) (o : Obj) (fv : Array Value), g1.get? b = some o → o.data = .fields fv → b ∉ frs (X.env :: X.outer) := fun b o fv q1 q2 hm => by
      obtain ⟨_, o2, q3, q4⟩ := ff.mem hm
      rw [q1] at q3
      cases q3
      exact q4 _ q2
    have oL : X.env.locals ∈ frs (X.env :: X.outer) := List.mem_filterMap.mpr ⟨X.env, List.mem_cons_self, hf⟩
    have oF : ∀ b, b ∈ X.fs → b ∈ frs (X.env :: X.outer) := fun b hm => by
      obtain ⟨v, q1, q2⟩ := List.mem_filterMap.mp hm
      exact List.mem_filterMap.mpr ⟨v, List.mem_cons_of_mem _ q1, q2⟩
    have xe_ := off e oe vs he hd
    have xT := off T oT ts hT dT
    have S : Inv X ((e, oe) :: (T, oT) :: pins) σ H { s1 with heap := g1 } := by
      refine ⟨I3.ok, I3.os, I3.bare, I3.base, I3.loc, I3.cell, I3.free, I3.freeC, fun p hp => ?_, I3.hok, I3.len⟩
      rcases List.mem_append.mp hp with hp | hp
      · exact I3.pin p (List.mem_append_left _ hp)
      · rcases List.mem_cons.mp hp with rfl | hp
        · exact ⟨he, na, fun z => xe_ (by rw [show e = X.env.locals from z]; exact oL), fun z => xe_ (oF _ z), fun v z => by rw [show oe.data = .cell v from z] at hd; cases hd⟩
        · rcases List.mem_cons.mp hp with rfl | hp
          · exact ⟨hT, nT, fun z => xT (by rw [show T = X.env.locals from z]; exact oL), fun z => xT (oF _ z), fun v z => by rw [show oT.data = .cell v from z] at dT; cases dT⟩
          · exact I3.pin p (List.mem_append_right _ hp)
    refine gone_ok S hN hi hln fun s6 S6 => ?_
    have I6 : Inv X pins (σ.set i none) H s6 := by
      refine ⟨S6.ok, S6.os, S6.bare, S6.base, S6.loc, S6.cell, S6.free, S6.freeC, fun p hp => S6.pin p ?_, S6.hok, S6.len⟩
      rcases List.mem_append.mp hp with hp | hp
      · exact List.mem_append_left _ hp
      · exact List.mem_append_right _ (List.mem_cons_of_mem _ (List.mem_cons_of_mem _ hp))
    have pe := S6.pin (e, oe) (List.mem_append_right _ List.mem_cons_self)
    have pT := S6.pin (T, oT) (List.mem_append_right _ (List.mem_cons_of_mem _ List.mem_cons_self))
    have ge : s6.heap.get? e = some oe := pe.1
    have gT : s6.heap.get? T = some oT := pT.1
    have apart : ∀ b o, sI.heap.get? b = some o → b ≠ e ∧ b ≠ T := fun b o q1 => by
      by_cases hb : b ∈ frs X.stack
      · rw [hs] at hb
        refine ⟨fun z => ?_, fun z => ?_⟩
        · rw [z] at hb; exact xe_ hb
        · rw [z] at hb; exact xT hb
      · have q2 := nb b o q1 hb
        refine ⟨fun z => ?_, fun z => ?_⟩
        · rw [z, bno] at q2; cases q2
        · rw [z, bT] at q2; cases q2
    have apart0 : ∀ b o, X.s_0.heap.get? b = some o → b ≠ e ∧ b ≠ T := fun b o q1 => by
      obtain ⟨o2, q2⟩ := I.base.there b o q1 (by rw [hex]; simp)
      exact apart b o2 q2
    have apartP : ∀ p ∈ X.pn ++ pins, p.1 ≠ e ∧ p.1 ≠ T := fun p hp => apart p.1 p.2 (I.pin p hp).1
    obtain ⟨G, r1, r2⟩ := restrict s6.heap fun b => !(decide (b = e) || decide (b = T))
    have inG : ∀ b o, G.get? b = some o → s6.heap.get? b = some o ∧ b ≠ e ∧ b ≠ T := fun b o q1 => by
      by_cases h : b = e ∨ b = T
      · have : (!(decide (b = e) || decide (b = T))) = false := by rcases h with h | h <;> simp [h]
        rw [r2 b this] at q1
        cases q1
      · have h1 : b ≠ e := fun z => h (.inl z)
        have h2 : b ≠ T := fun z => h (.inr z)
        rw [r1 b (by simp [h1, h2])] at q1
        exact ⟨q1, h1, h2⟩
    have ofG : ∀ b o, b ≠ e → b ≠ T → s6.heap.get? b = some o → G.get? b = some o := fun b o h1 h2 q1 => by
      rw [r1 b (by simp [h1, h2])]
      exact q1
    have I7 : Inv X pins (σ.set i none) H { s6 with heap := G } := I6.less (fun b o q1 => (inG b o q1).1) ofG ⟨oe, vs, ge, hd⟩ ⟨oT, ts, gT, dT⟩ na nT apart0 apartP
    have gone : ∀ b, b = e ∨ b = T → (PySem.W.hideAll G (frs X.stack)).get? b = none := fun b hb => by
      cases q1 : (PySem.W.hideAll G (frs X.stack)).get? b with
      | none => rfl
      | some o =>
        obtain ⟨_, h1, h2⟩ := inG b o (PySem.W.of_hideAll _ q1)
        exact (hb.elim h1 h2).elim
    have stays : (PySem.W.hideAll G (frs X.stack)).StaysIn s6.heap := fun b o q1 => (inG b o (PySem.W.of_hideAll _ q1)).1
    have ff6 : s6.heap.FunFrames (PySem.W.hideAll G (frs X.stack)) (X.env :: X.outer) := by
      have z := funFrames_none (B := PySem.W.hideAll G (frs X.stack)) I6.stack fun b hb => PySem.W.hideAll_none _ hb
      rw [← hs]
      exact z
    have held6 : HandSPX.HeldZ (PySem.W.hideAll G (frs X.stack)) (X.env :: X.outer) e (Zc cls d) X.env.locals s6.heap :=
      ⟨stays, gone e (.inl rfl), ff6, oe, vs, T, oT, ts, ge, hz, hd, v1, gone T (.inr rfl), Tne, gT, dT, t3⟩
    show wpAny (model X.prog X.w) (X.A.mark (some (.ref c0))) (passOn "try.except-as" (.ref e) X.env : Sem Flow) _ _ s6
    unfold PySem.passOn
    refine wpAny_bind (wpAny_field ge hd v1 ?_)
    rw [if_neg (by simp : ¬ ((Value.ref T == Value.none) = true))]
    have onward : wpAny (model X.prog X.w) (X.A.mark (some (.ref c0))) (setFlight (.ref e) X.env.frame) (fun _ s7 => wpAny (model X.prog X.w) (X.A.mark (some (.ref c0))) (throw (.ref e) : Sem Flow) (fun _ _ => False) (notedBy (model X.prog X.w) (X.A.mark (some (.ref c0))) X.env (cameBackBy (model X.prog X.w) X.A X.env X.xe)) s7) (notedBy (model X.prog X.w) (X.A.mark (some (.ref c0))) X.env (cameBackBy (model X.prog X.w) X.A X.env X.xe)) s6 := by
      rw [hf]
      refine HandSPX.setFlight_onZ held6 fun g7 held7 up7 => wpAny_throw (hpa _ _ _ (tk _ _ ?_))
      refine ⟨e, PySem.W.hideAll G (frs X.stack), { s6 with heap := G }, pins, σ.set i none, H, cls, d, rfl, I7, fun b o q1 hb => PySem.W.hideAll_get _ q1 hb, ?_, .inr (.inr (by rw [← hs] at held7; exact held7)), na, rfl, I6.bare, wish⟩
      exact Heap.UpToSlots.trans (Heap.UpToSlots.of_keeps fun b o q1 => (inG b o q1).1) up7
    first
      | exact wpAny_bind (wpAny_pure (wpAny_bind onward))
      | exact wpAny_bind onward
  rcases sk with ⟨q1, q2, q3, oe, vs, q4, q5, q6, q7⟩ | fl | held
  · exact HandSPX.look_newZ Zc.steady frm q3 hf q4 q1 q2 q6 q7 q5 go
  · exact HandSPX.looks_onZ Zc.steady frm hf fl go
  · exact HandSPX.againZ hf held.2.2.2 (go s1.heap held (Heap.UpToSlots.refl _))
end
def wAsR (K : PySem.W.Frag) (c : Value) (i : Nat) (ts : Addr → Value → Option Addr → TS) (Wout : WX) (D : Ends) : WX := fun cls d σ H =>
  ∃ b, PySem.W.exmOne K cls c = some b ∧ (b = true → ∀ a, H a = none → ts a cls d { nx := fun σ' H' => D.nx (σ'.set i none) H', rt := D.rt, bk := fun σ' H' => D.bk (σ'.set i none) H', ct := fun σ' H' => D.ct (σ'.set i none) H' } (σ.set i (some (.ref a))) H) ∧
    (b = false → Wout cls d σ H)
section
variable {X : Cx} {x n : Str} {c : Value} {i : Nat} {body suite : List Stmt} {b₀ : Stmt} {np pos pos' : Pos} {tb : WX → TS} {ts : Addr → Value → Option Addr → TS} {Wout : WX}
theorem ps_try_raise (hs : X.stack = X.env :: X.outer) (hf : X.env.frame = some X.env.locals) (hN : X.N.Nodup) (hi : X.N[i]? = some n) (hln : X.env.kindOf n = some .local) (hex : X.ex = []) (hc : Names X x c) (tk : Takes X Wout)
    (hpa : ∀ hd : Option Value, PassesOwnAt (model X.prog X.w) (X.A.mark hd) X.A X.env X.xe)
    (hb : ∀ (W : WX) (pn : List (Addr × Obj)) (xe : Value → Shared → Prop), L2N.Takes (X.tr pn xe) W → PassesOwn (model X.prog X.w) X.A X.env xe → PSs (X.tr pn xe) body (tb W))
    (hsu : ∀ (a : Addr) (oe : Obj) (cls : Value) (d : Option Addr) (pn : List (Addr × Obj)), L2N.Zn cls d oe → (∃ vs, oe.data = .fields vs) → L2.Takes (asX X n pos' a ((a, oe) :: pn)) (fun cls d σ H => Wout cls d (σ.set i none) H) → L2H.HotC (asX X n pos' a ((a, oe) :: pn)) →
      PSs (asX X n pos' a ((a, oe) :: pn)) (b₀ :: suite) (ts a cls d)) :
    PS X (.Try body [.ExceptHandler (some (.Name x np)) (some n) (b₀ :: suite) pos'] [] [] pos) (fun D σ H => tb (wAsR X.K c i ts Wout D) D σ H) := by
  refine ⟨fun pins s σ H D I h => ?_⟩
  have ok := I.ok
  have frm : X.A.frames = some (X.env :: X.outer) := by rw [ok.frames, hs]
  have lcl : Loc X.env.scope n := .inl hln
  refine wpAny_Try_except ?_
  refine wpAny_mono ((hb (wAsR X.K c i ts Wout D) (X.pn ++ pins) (fun e s₁ => wpAny (model X.prog X.w) X.A (noteFrame e X.env) (fun _ s₂ => wpAny (model X.prog X.w) X.A (setFlight e none) (fun _ s₃ =>
    wpAny (model X.prog X.w) X.A (handleBy e X.env [.ExceptHandler (some (.Name x np)) (some n) (b₀ :: suite) pos']) (SP X pins D) X.xe s₃) X.xe s₂) X.xe s₁) (fun u s' xx => ?_) PassesOwn.looking).run [] s σ H D (I.toTry _) h) (fun f s1 hsp => ?_) (fun e s1 he => he)
  · -- what is caught
    obtain ⟨a, B, sI, pins', σ', H', cls, d, rfl, J', nb, up, sky, na, os, ag, b, hb1, hyes, hno⟩ := xx
    have J : Inv X pins σ' H' sI := J'.ofTry ok
    have sky2 : Sky B (X.env :: X.outer) a (L2N.Zn cls d) X.env.locals s'.heap := by rw [← hs]; exact sky
    show wpAny (model X.prog X.w) X.A (noteFrame (.ref a) X.env) _ _ _
    refine L2N.Sky.land L2N.Zn.steady frm hf sky2 fun g3 fl3 up3 => ?_
    have J3 : Inv X pins σ' H' { s' with heap := g3 } := J.landed nb fl3.1 (up.trans up3) os ag
    obtain ⟨o3, w3, he3, hz3, hd3⟩ := fl3.there
    have nfr : a ∉ frs (X.env :: X.outer) := fun hm => by
      obtain ⟨_, o', e', hnf⟩ := fl3.2.2.1.mem hm
      rw [he3] at e'; cases e'
      exact hnf _ hd3
    have nL : a ≠ X.env.locals := fun z => nfr (List.mem_filterMap.mpr ⟨X.env, List.mem_cons_self, by rw [hf, z]⟩)
    have nF : a ∉ X.fs := fun hm => by
      obtain ⟨e, he, q⟩ := List.mem_filterMap.mp hm
      exact nfr (List.mem_filterMap.mpr ⟨e, List.mem_cons_of_mem _ he, q⟩)
    have nB : B.get? a = none := fl3.2.1
    have nI : sI.heap.get? a = none := by
      cases q : sI.heap.get? a with
      | none => rfl
      | some o =>
        have := nb a o q (by rw [hs]; exact nfr)
        rw [nB] at this
        cases this
    have n0 : X.s_0.heap.get? a = none := by
      cases q : X.s_0.heap.get? a with
      | none => rfl
      | some o =>
        obtain ⟨o', q'⟩ := J.base.there a o q (by rw [hex]; exact fun z => nomatch z)
        rw [nI] at q'
        cases q'
    have nC : ∀ x c, X.env.cells.lookup x = some c → c ≠ a := fun x c e z => by
      obtain ⟨v, o, q, _⟩ := J.cell x c e
      rw [z, nI] at q
      cases q
    have nP : ∀ p ∈ X.pn ++ pins, p.1 ≠ a := fun p hp z => by
      have q := (J.pin p hp).1
      rw [z, nI] at q
      cases q
    have S3 := J3.suite he3 hd3 na nL nF
    refine wpAny_handleBy_cons (codeAny_handlers_test ?_) (by intro q; cases q)
    have LT : PySem.W.Looks (model X.prog X.w) g3 (typeOf (.ref a)) cls := fun A Q E s k q => wpAny_typeOf_ref (k _ _ he3) (by rw [hz3.1]; exact q)
    have LM := PySem.W.exm_one (M := model X.prog X.w) (J3.kIn) LT hb1
    have tst : ∀ {Q : Value → Shared → Prop} {E : Value → Shared → Prop}, Q c { s' with heap := g3 } → wpAny (model X.prog X.w) (X.A.mark (some (.ref a))) (eval (.Name x np) X.env) Q E { s' with heap := g3 } := fun {Q E} q => by
      obtain ⟨hg, hdbg, hm | ⟨hm, hv, hnn⟩⟩ := hc
      · exact ld_glob (X := X.suite a ((a, o3) :: (X.pn ++ pins))) S3 hg hm q hdbg
      · exact ld_blt (X := X.suite a ((a, o3) :: (X.pn ++ pins))) S3 hg hm hv q hnn hdbg
    refine tst (LM.here ?_)
    cases b with
    | true =>
      refine codeAny_handlers_suite_as ?_
      refine HandSPX.lands_againZ fl3 fun g4 fl4 up4 => ?_
      have J4 : Inv X pins σ' H' { s' with heap := g4 } := J.landed nb fl4.1 ((up.trans up3).trans up4) os ag
      obtain ⟨o4, w4, he4, hz4, hd4⟩ := fl4.there
      have S4 := J4.suite he4 hd4 na nL nF
      have hot : L2H.HotC (asX X n pos' a ((a, o4) :: (X.pn ++ pins))) := ⟨(a, o4), ⟨rfl, w4, hd4, hz4.2.2 w4 hd4⟩, List.mem_cons_self⟩
      refine store_ok (X := X.suite a ((a, o4) :: (X.pn ++ pins))) (v := .ref a) S4 hN hi lcl rfl (fun s5 S5 => ?_) (.inr hln)
      refine wpAny_mono ((hsu a o4 cls d (X.pn ++ pins) hz4 ⟨_, hd4⟩ (asX_takes hs hf hN hi hln hex ok hpa tk) hot).run [] s5 _ _ _ (asX_of S5) (hyes rfl a na)) (fun f s6 hsp => ?_) (fun _ _ z => z)
      have fin : ∀ {σ6 : L2.St} {H6 : Hp} {Q : Shared → Prop}, Inv (asX X n pos' a ((a, o4) :: (X.pn ++ pins))) [] σ6 H6 s6 → (∀ s7, Inv X pins (σ6.set i none) H6 s7 → Q s7) →
          wpAny (model X.prog X.w) X.A (do bindName X.env n .none; unbindBehindTheSuite X.env n pos') (fun _ s7 => Q s7) X.xe s6 := fun {σ6 H6 Q} S6 hq => gone_ok (Inv.unsuite (X := X) (a := a) (q := (a, o4)) (pn' := []) (show Inv (X.suite a ((a, o4) :: (X.pn ++ pins))) [] σ6 H6 s6 from S6.wish fun _ _ => False) ok) hN hi hln hq
      cases f with
      | next =>
        obtain ⟨σ6, H6, S6, q6⟩ := hsp
        exact fin S6 fun s7 J7 => ⟨_, _, J7, q6⟩
      | brk =>
        obtain ⟨σ6, H6, S6, q6⟩ := hsp
        exact fin S6 fun s7 J7 => ⟨_, _, J7, q6⟩
      | cont =>
        obtain ⟨σ6, H6, S6, q6⟩ := hsp
        exact fin S6 fun s7 J7 => ⟨_, _, J7, q6⟩
      | ret u =>
        obtain ⟨v6, σ6, H6, S6, r6, q6⟩ := hsp
        exact fin S6 fun s7 J7 => ⟨_, _, _, J7, r6, q6⟩
    | false =>
      show wpAny _ X.A (handleBy (.ref a) X.env []) _ _ _
      refine wpAny_handleBy_nil ?_
      have fl3 := L2H.flyingZ_imp (fun o (z : L2N.Zn cls d o) => z.zc) fl3
      obtain ⟨k1, k2, k3, oe, vs, T, oT, ts', he, hz, hd, h1, hr⟩ := id fl3
      unfold PySem.passOn
      refine wpAny_bind (wpAny_field he hd h1 ?_)
      rw [if_neg (show ¬ ((Value.ref T == Value.none) = true) from by simp)]
      have out : wpAny (model X.prog X.w) X.A (setFlight (.ref a) X.env.frame) (fun _ s4 => wpAny (model X.prog X.w) X.A (throw (.ref a) : Sem Flow) (SP X pins D) X.xe s4) X.xe { s' with heap := g3 } := by
        rw [hf]
        refine HandSPX.setFlight_upZ fl3 fun g4 hh4 up4 => wpAny_throw (tk _ _ ?_)
        exact ⟨a, B, sI, pins, σ', H', cls, d, rfl, J, nb, (up.trans up3).trans up4, .inr (.inr (by rw [hs]; exact hh4)), na, os, ag, hno rfl⟩
      first
        | exact wpAny_bind (wpAny_pure (wpAny_bind out))
        | exact wpAny_bind out
  cases f with
  | next =>
    obtain ⟨σ', H', J', q⟩ := hsp
    exact wpAny_execs_nil ⟨σ', H', J'.ofTry ok, q⟩
  | brk =>
    obtain ⟨σ', H', J', q⟩ := hsp
    exact ⟨σ', H', J'.ofTry ok, q⟩
  | cont =>
    obtain ⟨σ', H', J', q⟩ := hsp
    exact ⟨σ', H', J'.ofTry ok, q⟩
  | ret u =>
    obtain ⟨v, σ', H', J', r, q⟩ := hsp
    exact ⟨v, σ', H', J'.ofTry ok, r, q⟩
end
end HX
namespace HX
open PySem PySem.Spec PyProof.Rows L2
theorem pe_pf {X : Cx} {a C dd : Addr} {oe : Obj} {e : Expr} {te : TE} {pos : Pos} {f : Str} (T : XfC X.K C) (no : PySem.W.findIn X.K (.ref C) f = some none) (z : Zc (.ref C) (some dd) oe) (rec_ : ∃ vs, oe.data = .fields vs) (hp : (a, oe) ∈ X.pn) (he : PE X e te)
    (hb : attributeBase e f X.env (eval e X.env) = eval e X.env := by rfl) : PE X (.Attribute e f pos) (fun σ H Q => te σ H fun x H1 => x = .ref a ∧ ∃ (fs : List (Str × V)) (v : V), H1 dd = some (.xd fs) ∧ fs.lookup f = some v ∧ Q v H1) := by
  refine ⟨fun pins s σ H Q I h => attr_of hb (thn (he.run pins s σ H _ I h) fun u s1 ⟨x, H1, I1, rx, ex, fs, v, ea, el, q⟩ => ?_)⟩
  subst ex
  obtain rfl : u = Value.ref a := rx
  obtain ⟨vs, hd⟩ := rec_
  have at_ := (I1.pin (a, oe) (List.mem_append_left _ hp)).1
  obtain ⟨mA, ns, rel⟩ := (I1.hok dd _ ea : ObjOk X.prog X.w H1 s1.heap dd (.xd fs))
  obtain ⟨od, o1, o2⟩ := lookIn_ns ns
  obtain ⟨u2, e2, r2⟩ := RelO.some_of (v := v) (o := mA f) (by rw [← el]; exact rel f)
  have J : PySem.W.InstAt s1.heap a oe C (some od) := ⟨at_, z.1, by unfold PySem.W.notCls; rw [hd] <;> rfl, by rw [z.2]; exact o1⟩
  exact HandSPX.exc_get I1.kIn J T.ga T.gg T.exC (PySem.W.findObj_own T.hdC no rfl (by rw [o2, e2])) (handed_of r2) ⟨v, H1, I1.tok _, r2, q⟩
section
variable {P : Program} {w : World} {K : PySem.W.Frag} {mg : Str → Option Value} {base : Heap} {N ps : List Str} {f : Addr} {x qual : Str} {params : Arguments} {body : List Stmt} {scope : Scope} {fd : FuncData} {k : Nat} {sp : Sp} {Y : CXT}
theorem funD_okH (Fd : FunD K x qual params body scope [] [] f fd) (S : FnScope N ps scope) (len : ∀ vs H Q E, sp vs H Q E → vs.length = ps.length)
    (hbody : ∀ (cdv : Value) (A : Around) (outer : List Env) (s : Shared) (H : Hp) (vs : List V) (Q : VK) (E : XK) (p : Addr × Obj), sp vs H Q E →
      ∃ t, PSs (L2H.cxH Y P w K mg base N qual scope f cdv A outer s H E p) body t ∧ t { nx := fun _ H' => Q .non H', rt := Q } (L2.start N vs) H) : L2H.FnH P w K mg base Y (k + 1) f fd ps sp := by
  obtain ⟨oc, od, dV, kV, doc, pm, an, cdv, ct, osl, rfl, lk, hcd, _, _⟩ := Fd.ex
  exact L2H.fn_ofH lk hcd S len fun A outer s H vs Q E p _ _ h => hbody cdv A outer s H vs Q E p h
theorem fnOk_ofN {ps : List Str} (G : FnOk P w K mg base (L2N.CX P w) k f fd ps sp) : FnOk P w K mg base (L2.CX P w) k f fd ps sp := by
  refine ⟨G.len, fun A outer s H args us vs Q E hr e0 hb r h => codeAny_mono (G.run A outer s H args us vs Q E hr e0 hb r h) fun res s' c => ?_⟩
  cases res with
  | ok fl => cases fl <;> exact c
  | error e =>
    obtain ⟨a, B, H', cls, d, q1, fl, q2⟩ := c
    exact ⟨a, B, H', cls, d, q1, L2H.flyingZ_imp (fun o (z : L2N.Zn cls d o) => z.zc) fl, q2⟩
end
end HX
namespace HX
open PySem PySem.Spec PyProof.Rows L2
section
variable {Y : CXT} {P : Program} {w : World} {K : PySem.W.Frag} {mg : Str → Option Value} {base : Heap} {N ps : List Str} {f : Addr} {x qual : Str} {params : Arguments} {body : List Stmt} {scope : Scope} {fd : FuncData} {k : Nat} {sp : Sp}
structure FnU (P : Program) (w : World) (K : PySem.W.Frag) (mg : Str → Option Value) (base : Heap) (Y : CXT) (k : Nat) (f : Addr) (fd : FuncData) (ps : List Str) (sp : Sp) : Prop where
  len : ∀ vs H Q E, sp vs H Q E → vs.length = ps.length
  run : ∀ (B : Around) (outer : List Env) (s : Shared) (H : Hp) (args : Args) (us : List Value) (vs : List V) (Q : VK) (E : XK), L2H.RoomH k B → Env0 P w K mg base B outer s H → BindsTo s fd args (ps.zip us) → Vals vs us → sp vs H Q E →
    codeAny (model P w) B (.call (.ref f) args) (CR Y outer P w H s Q E) s
theorem FnU.mono {j : Nat} (G : FnU P w K mg base Y j f fd ps sp) (l : j ≤ k) : FnU P w K mg base Y k f fd ps sp := ⟨G.len, fun B outer s H args us vs Q E hr => G.run B outer s H args us vs Q E (hr.mono l)⟩
theorem FnU.ok (G : FnU P w K mg base Y k f fd ps sp) : FnOk P w K mg base Y k f fd ps sp := ⟨G.len, fun B outer s H args us vs Q E hr => G.run B outer s H args us vs Q E ⟨hr.dp, hr.un⟩⟩
end
section
variable {X : Cx} {Y : CXT} {k : Nat} {f : Addr} {fd : FuncData} {ps : List Str} {sp : Sp} {E : L2.St → XK} {x : Str} {q pos : Pos} {e : Expr} {es : List Expr} {t : TA}
end
end HX
namespace DL
open PySem PySem.Spec L2
def KnU (P : Program) (w : World) (K : PySem.W.Frag) (mg : Str → Option Value) (base : Heap) (k : Nat) (x : Str) (n : Nat) (m : List D → R D) : Prop :=
  ∃ (f : Addr) (fd : FuncData) (ps : List Str), mg x = some (.ref f) ∧ PySem.W.keepIn K (.ref f) = true ∧ Binds K fd ps [] ∧ HX.FnU P w K mg base (L2.CX P w) k f fd ps (spD K mg n m)
theorem KnU.kn {P : Program} {w : World} {K : PySem.W.Frag} {mg : Str → Option Value} {base : Heap} {k n : Nat} {x : Str} {m : List D → R D} (h : KnU P w K mg base k x n m) : Kn P w K mg base k x n m := by
  obtain ⟨f, fd, ps, hm, hk, hb, G⟩ := h
  exact ⟨f, fd, ps, hm, hk, hb, G.ok⟩
section
variable {P : Program} {w : World} {K : PySem.W.Frag} {mg : Str → Option Value} {base : Heap} {x qual : Str} {params : Arguments} {body : List Stmt} {scope : Scope} {f : Addr} {fd : FuncData} {N ps : List Str} {k : Nat} {g : DL.Env → Out}
end
section
variable {X : Cx} {W : WX} {j k n : Nat} {x : Str} {e : Expr} {es : List Expr} {p pos : Pos} {fs : DL.Env → R (List D)}
end
section
variable {K : PySem.W.Frag} {mg : Str → Option Value} {F : Hp}
end
section
variable {X : Cx}
variable {W : WX} {o e : Expr} {fo fe : DL.Env → R D} {apos cpos : Pos}
def eMB (g : D → D → R D) (fa fb : DL.Env → R D) : DL.Env → R D := fun Γ => (fa Γ).bind fun x => match x with
  | .lst ds => (fb Γ).bind fun y => g (.lst ds) y
  | _ => .stuck
theorem mb_run {r : V → List V → Hp → VK → Prop} {g : D → D → R D} (hsat : ∀ (F H : Hp) (x y : D) (v u : V) (E : XK) (Q : VK), Fz F H → Rp X.K X.mg F x v → Rp X.K X.mg F y u → PostG X.K X.mg (repV X.K X.mg) F H E Q (g x y) → r v [u] H Q) {σ : L2.St} {H : Hp} {Q : VK}
    (h : tD X W (eMB g fo fe) σ H Q) : tBM X.K "list" r (tD X W fo) (L2.tCons (tD X W fe) L2.tNil) σ H Q := by
  obtain ⟨F0, H0, F, Γ, r0, p⟩ := h
  refine ⟨F0, H0, F, Γ, r0, PostG.bind p (fun d v F1 H1 _ x1 r1 p1 => ?_) fun _ _ _ _ _ h => h⟩
  cases d with
  | lst ds =>
    obtain ⟨a, vs, e, ea, rr⟩ := Rp.lstH x1.fh r1
    subst e
    refine ⟨.inl ⟨rfl, _, SqL.of ea⟩, F0, H0, F1, Γ, r0.step x1, PostG.bind p1 (fun y u F2 H2 _ x2 r2 p2 => ?_) fun _ _ _ _ _ h => h⟩
    exact hsat F2 H2 (.lst ds) y _ u _ _ x2.fh (Rp.mono x2.ff _ _ r1) r2 p2
  | _ => exact p1.elim
end
def D.fl : D → Option V
  | .non => some .non
  | .bl b => some (.bl b)
  | .int i => some (.int i)
  | .str x => some (.str x)
  | _ => none
section
variable {K : PySem.W.Frag} {mg : Str → Option Value} {F : Hp}
end
section
variable {X : Cx}
end
end DL
namespace DL
open PySem PySem.Spec L2
section
variable {K : PySem.W.Frag} {mg : Str → Option Value} {F0 : Fe} {H0 F H F1 H1 : Hp} {σ σ1 : L2.St} {Γ Γ1 : DL.Env} {d : Addr} {kvs : List (Key × V)} {od : Obj} {u : HO}
end
section
variable {X : Cx} {W : WX} {ix : Expr} {elts : List Expr} {kk : Nat} {tpos p1 p2 apos cpos pos : Pos} {body : List Stmt} {fx : DL.Env → R D} {h : Tg} {g : DL.Env → Out} {vs : List Nat}
structure AccD (X : Cx) (e : Expr) (td : TE) (acc : DL.Env → Option (List Key × List D)) : Prop where
  he : PE X e td
  sp : ∀ {F0 : Fe} {H0 F H : Hp} {σ : L2.St} {Γ : DL.Env} {ks : List Key} {es : List D}, Rel X.K X.mg F0 H0 F H σ Γ → acc Γ = some (ks, es) →
    ∃ (d : Addr) (ws : List V), F d = some (.dK (ks.zip ws)) ∧ ks.length = ws.length ∧ RpL X.K X.mg F es ws ∧
      ∀ (H0' H' : Hp) (Q : VK), Rel X.K X.mg ⟨F, F0.sv⟩ H0' F H' σ Γ → (∀ F2 H2, Ext F H' F2 H2 → Q (.ref d) H2) → td σ H' Q
end
end DL
namespace HX
open PySem PySem.Spec PyProof.Rows L2
end HX
namespace HX
open PySem PySem.Spec PyProof.Rows L2
section
variable {X : Cx}
end
end HX
namespace ZR
open PySem PySem.Spec PyProof.Rows L2
section
variable (prog : Program) (w : World)
def Gv (it : Addr) (x : Value) (St St' : Heap → Prop) : Prop := ∀ (A : Around) (E : Value → Shared → Prop) (s : Shared) (Q : Value → Shared → Prop), St s.heap → (∀ g, St' g → Heap.SameBut it s.heap g → Q x { s with heap := g }) → wpAny (model prog w) A (Builtin.SmallTypes.nextOf (.ref it)) Q E s
def Of (St : Heap → Prop) (fp : List Addr) : Prop := ∀ h g, (∀ c ∈ fp, ∀ o, h.get? c = some o → g.get? c = some o) → St h → St g
end
section
variable {prog : Program} {w : World} {A : Around} {E : Value → Shared → Prop} {s : Shared}
theorem Of.but {St : Heap → Prop} {a b c : Addr} (k : Of St [a, b]) {h g : Heap} (e : Heap.ExtBut c h g) (n1 : a ≠ c) (n2 : b ≠ c) (x : St h) : St g := k h g (fun d hd o q => by
  rcases List.mem_cons.mp hd with z | z
  · subst z; exact e _ _ n1 q
  · rw [List.mem_singleton.mp z] at q ⊢; exact e _ _ n2 q) x
theorem step {z TI TO i1 i2 l1 l2 : Addr} {x y a b : Value} {S1 S1' S2 S2' : Heap → Prop} {Q : Option Value → Shared → Prop} (D : ZipApart z TI TO i1 i2 l1 l2)
    (kz : IsZip s.heap z TI TO .none) (kI : IsPair s.heap TI (.ref i1) (.ref i2)) (kO : IsPair s.heap TO a b) (g1 : Gv prog w i1 x S1 S1') (g2 : Gv prog w i2 y S2 S2')
    (o1 : Of S1 [i1, l1]) (o1' : Of S1' [i1, l1]) (o2 : Of S2 [i2, l2]) (o2' : Of S2' [i2, l2]) (s1 : S1 s.heap) (s2 : S2 s.heap)
    (fin : ∀ g, IsZip g z TI TO (rawInt s.heap.objs.size) → IsPair g TO x y → S1' g → S2' g → IsPair g s.heap.objs.size x y → g.objs.size = s.heap.objs.size + 1 →
      (∀ c o, c ≠ z → c ≠ TO → c ≠ i1 → c ≠ i2 → s.heap.get? c = some o → g.get? c = some o) → Q (some (.ref s.heap.objs.size)) { s with heap := g }) : wpAny (model prog w) A (pyNext (.ref z)) Q E s := by
  have ty : s.TypeIs (.ref z) "zip" := ⟨_, kz, rfl⟩
  unfold pyNext
  refine wpAny_bind (wpAny_attempt (wpAny_callSpecial?_slot (name := Str.ofString "__next__") ty F.slot_zip_next (wpAny_call_entry F.slot_zip_next ty F.entry_zip_next (?_ : wpAny _ _ (Builtin.«zip.__next__» ⟨[.ref z], []⟩) _ _ _) (F.args_zip_next_1 _))))
  show wpAny _ _ (field (.ref z) 2 >>= _) _ _ _
  refine wpAny_bind (wpAny_field kz rfl (x := .bool false) rfl (?_ : wpAny _ _ (field (.ref z) 3 >>= _) _ _ _))
  refine wpAny_bind (wpAny_field kz rfl (x := .ref TI) rfl (wpAny_bind (wpAny_seqItems kI rfl (?_ : wpAny _ _ (Builtin.SmallTypes.ownedTupleIsFree (.ref z) >>= _) _ _ _))))
  refine wpAny_bind ?_; unfold Builtin.SmallTypes.ownedTupleIsFree; refine wpAny_bind (wpAny_field kz rfl (x := .none) rfl (wpAny_pure ?_)); simp only [if_true]
  refine wpAny_bind (wpAny_rule (wpAny_bind (wpAny_field kz rfl (x := .ref TO) rfl (wpAny_bind (wpAny_setField_rec kz (by simp) fun m1 z1 e1 => wpAny_bind ?_)))))
  replace z1 : IsZip m1 z TI TO .ellipsis := z1
  simp only [List.zipIdx_cons, List.zipIdx_nil, List.forIn_cons, List.forIn_nil]
  refine wpAny_bind (wpAny_bind (wpAny_onRaise (wpAny_bind (g1 _ _ _ _ (o1.but e1.extBut D.i1z D.l1z s1) fun m2 t2 e2 => wpAny_pure ?_))))
  have p2 : IsPair m2 TO a b := e2.extBut _ _ D.TOi1 (e1.extBut _ _ D.TOz kO)
  refine wpAny_bind (wpAny_seqItems p2 rfl (wpAny_bind (wpAny_updateSeq_pair p2 fun m3 p3 e3 => wpAny_bind (wpAny_letGo (wpAny_pure ?_)))))
  replace p3 : IsPair m3 TO x b := p3
  refine wpAny_bind (wpAny_bind (wpAny_onRaise (wpAny_bind (g2 _ _ _ _ (o2.but e3.extBut D.TOi2.symm D.l2TO (o2.but e2.extBut D.i12.symm D.l2i1 (o2.but e1.extBut D.i2z D.l2z s2))) fun m4 t4 e4 => wpAny_pure ?_))))
  have p4 : IsPair m4 TO x b := e4.extBut _ _ D.TOi2 p3
  refine wpAny_bind (wpAny_seqItems p4 rfl (wpAny_bind (wpAny_updateSeq_pair p4 fun m5 p5 e5 => wpAny_bind (wpAny_letGo (wpAny_pure (wpAny_pure ?_))))))
  replace p5 : IsPair m5 TO x y := p5
  refine wpAny_bind (wpAny_seqItems p5 rfl (wpAny_bind (wpAny_newTuple ?_)))
  have sz : m5.objs.size = s.heap.objs.size := by rw [e5.1, e4.1, e3.1, e2.1, e1.1]
  have z5 : IsZip m5 z TI TO .ellipsis := e5.extBut _ _ D.TOz.symm (e4.extBut _ _ D.i2z.symm (e3.extBut _ _ D.TOz.symm (e2.extBut _ _ D.i1z.symm z1)))
  have k5 : ∀ c o, c ≠ z → c ≠ TO → c ≠ i1 → c ≠ i2 → s.heap.get? c = some o → m5.get? c = some o := fun c o c1 c2 c3 c4 q => e5.extBut _ _ c2 (e4.extBut _ _ c4 (e3.extBut _ _ c2 (e2.extBut _ _ c3 (e1.extBut _ _ c1 q))))
  have a5 : S1' m5 := o1'.but e5.extBut D.TOi1.symm D.l1TO (o1'.but e4.extBut D.i12 D.l1i2 (o1'.but e3.extBut D.TOi1.symm D.l1TO t2))
  have b5 : S2' m5 := o2'.but e5.extBut D.TOi2.symm D.l2TO t4
  have zl : z < m5.objs.size := Heap.lt_size z5
  show wpAny _ _ (Builtin.SmallTypes.ownedTupleHandOut (.ref z) (.ref m5.objs.size) >>= _) _ _ _
  refine wpAny_bind ?_
  have z6 : IsZip (m5.push { cls := .type "tuple", data := .seq #[x, y] }) z TI TO .ellipsis := Heap.get?_push_of_some _ z5
  unfold Builtin.SmallTypes.ownedTupleHandOut
  refine wpAny_bind (wpAny_setField_rec z6 (by simp) fun m7 z7 e7 => ?_)
  replace z7 : IsZip m7 z TI TO (rawInt m5.objs.size) := z7
  refine wpAny_setField_rec z7 (by simp) fun m8 z8 e8 => ?_
  replace z8 : IsZip m8 z TI TO (rawInt m5.objs.size) := z8
  have up : ∀ c o, c ≠ z → m5.get? c = some o → m8.get? c = some o := fun c o c1 q => e8.extBut _ _ c1 (e7.extBut _ _ c1 (Heap.get?_push_of_some _ q))
  have q8 : IsPair m8 m5.objs.size x y := e8.extBut _ _ (Nat.ne_of_gt zl) (e7.extBut _ _ (Nat.ne_of_gt zl) (Heap.get?_push_size _ rfl))
  have n8 : m8.objs.size = m5.objs.size + 1 := by rw [e8.1, e7.1, Heap.size_push]
  have a8 : S1' m8 := o1' m5 m8 (fun d hd o q => up d o (by
    rcases List.mem_cons.mp hd with r | r
    · rw [r]; exact D.i1z
    · rw [List.mem_singleton.mp r]; exact D.l1z) q) a5
  have b8 : S2' m8 := o2' m5 m8 (fun d hd o q => up d o (by
    rcases List.mem_cons.mp hd with r | r
    · rw [r]; exact D.i2z
    · rw [List.mem_singleton.mp r]; exact D.l2z) q) b5
  rw [sz] at z8 q8 n8
  refine wpAny_pure ⟨_, rfl, ?_⟩
  refine wpAny_pure ?_
  show Q (some (.ref m5.objs.size)) _
  rw [sz]
  exact fin m8 z8 (up _ _ D.TOz p5) a8 b8 q8 n8 fun c o c1 c2 c3 c4 q => up c o c1 (k5 c o c1 c2 c3 c4 q)
theorem gv_list {it l : Addr} {k : Nat} {xs : Array Value} {x : Value} (ne : l ≠ it) (hx : xs[k]? = some x) : Gv prog w it x (fun h => h.IsListIter it l k ∧ h.IsList l xs) (fun h => h.IsListIter it l (k + 1) ∧ h.IsList l xs) := fun A E s Q st fin =>
  wpAny_nextOf_list_item st.1 st.2 hx fun g t e => fin g ⟨t, st.2.extBut e.extBut ne⟩ e
theorem gv_rev {it l : Addr} {k : Nat} {xs : Array Value} {x : Value} (ne : l ≠ it) (hx : xs[k]? = some x) : Gv prog w it x (fun h => h.IsRevIter it l (k : Int) ∧ h.IsList l xs) (fun h => h.IsRevIter it l ((k : Int) - 1) ∧ h.IsList l xs) := fun A E s Q st fin => by
  obtain ⟨o, ho, hc, hd⟩ := id st.1
  obtain ⟨ol, hol, _, nl, hdl⟩ := id st.2
  unfold Builtin.SmallTypes.nextOf
  refine wpAny_bind (wpAny_callSpecial?_slot (name := Str.ofString "__next__") st.1.typeIs F.slot_lri_next (wpAny_call_entry F.slot_lri_next st.1.typeIs F.entry_lri_next (?_ : wpAny _ _ (Builtin.«list_reverseiterator.__next__» _) _ _ _) (F.args_lri_next_1 _)))
  unfold Builtin.«list_reverseiterator.__next__»
  refine wpAny_bind (wpAny_of_eq (a := (Value.ref it, [])) rfl ?_)
  dsimp only
  refine wpAny_bind (wpAny_field ho hd (x := rawInt (k : Int)) rfl (?_ : wpAny _ _ (if (k : Int) < 0 then _ else _) _ _ s))
  rw [if_neg (by omega)]
  refine wpAny_bind (m := field (.ref it) 0) (wpAny_field ho hd (x := .ref l) rfl (wpAny_bind (m := seqItems? (.ref l)) (wpAny_seqItems hol hdl ?_)))
  simp only [Int.toNat_natCast, hx]
  have un : ∀ g, g = s.heap.update it (·.mapFields (·.setIfInBounds 1 (rawInt ((k : Int) - 1)))) → Heap.IsRevIter g it l ((k : Int) - 1) := fun g eg => by
    subst eg
    refine ⟨_, Heap.get?_update_self _ ho (Obj.isFreed_of_fields (Obj.data_mapFields hd _)), (Obj.cls_mapFields ..).trans hc, ?_⟩
    rw [Obj.data_mapFields hd]; simp
  refine wpAny_bind (wpAny_setField ho hd (by simp) ?_)
  first
  | exact wpAny_pure ⟨x, rfl, wpAny_pure (fin _ ⟨un _ rfl, st.2.extBut (Heap.SameBut.update ..).extBut ne⟩ (Heap.SameBut.update ..))⟩
  | exact wpAny_bind (wpAny_pure (wpAny_pure ⟨x, rfl, wpAny_pure (fin _ ⟨un _ rfl, st.2.extBut (Heap.SameBut.update ..).extBut ne⟩ (Heap.SameBut.update ..))⟩))
theorem of_list {it l : Addr} {k : Nat} {xs : Array Value} : Of (fun h => h.IsListIter it l k ∧ h.IsList l xs) [it, l] := fun h g kp st => ⟨st.1.at fun o q => kp it (by simp) o q, st.2.at fun o q => kp l (by simp) o q⟩
theorem of_rev {it l : Addr} {k : Int} {xs : Array Value} : Of (fun h => h.IsRevIter it l k ∧ h.IsList l xs) [it, l] := fun h g kp st => ⟨st.1.at fun o q => kp it (by simp) o q, st.2.at fun o q => kp l (by simp) o q⟩
theorem stop {z TI TO i1 i2 l1 l2 : Addr} {k : Nat} {xs : Array Value} {a b : Value} {Q : Option Value → Shared → Prop} (hh : A.handled = none) (D : ZipApart z TI TO i1 i2 l1 l2)
    (kz : IsZip s.heap z TI TO .none) (kI : IsPair s.heap TI (.ref i1) (.ref i2)) (kO : IsPair s.heap TO a b) (st : s.heap.IsListIter i1 l1 k ∧ s.heap.IsList l1 xs) (none_ : xs[k]? = none)
    (fin : ∀ g, (∀ c o, c ≠ z → c ≠ TO → c ≠ i1 → c ≠ i2 → s.heap.get? c = some o → g.get? c = some o) → Q none { s with heap := g }) : wpAny (model prog w) A (pyNext (.ref z)) Q E s := by
  have ty : s.TypeIs (.ref z) "zip" := ⟨_, kz, rfl⟩
  unfold pyNext
  refine wpAny_bind (wpAny_attempt (wpAny_callSpecial?_slot (name := Str.ofString "__next__") ty F.slot_zip_next (wpAny_call_entry F.slot_zip_next ty F.entry_zip_next (?_ : wpAny _ _ (Builtin.«zip.__next__» ⟨[.ref z], []⟩) _ _ _) (F.args_zip_next_1 _))))
  show wpAny _ _ (field (.ref z) 2 >>= _) _ _ _
  refine wpAny_bind (wpAny_field kz rfl (x := .bool false) rfl (?_ : wpAny _ _ (field (.ref z) 3 >>= _) _ _ _))
  refine wpAny_bind (wpAny_field kz rfl (x := .ref TI) rfl (wpAny_bind (wpAny_seqItems kI rfl (?_ : wpAny _ _ (Builtin.SmallTypes.ownedTupleIsFree (.ref z) >>= _) _ _ _))))
  refine wpAny_bind ?_; unfold Builtin.SmallTypes.ownedTupleIsFree; refine wpAny_bind (wpAny_field kz rfl (x := .none) rfl (wpAny_pure ?_)); simp only [if_true]
  refine wpAny_bind (wpAny_rule (wpAny_bind (wpAny_field kz rfl (x := .ref TO) rfl (wpAny_bind (wpAny_setField_rec kz (by simp) fun m1 z1 e1 => wpAny_bind ?_)))))
  replace z1 : IsZip m1 z TI TO .ellipsis := z1
  simp only [List.zipIdx_cons, List.zipIdx_nil, List.forIn_cons, List.forIn_nil]
  refine wpAny_bind (wpAny_bind (wpAny_onRaise (wpAny_bind (wpAny_nextOf_list_end hh (st.1.extBut e1.extBut D.i1z) (st.2.extBut e1.extBut D.l1z) none_ fun m2 e e2 he => ?_))))
  obtain ⟨oe, hoe, hce⟩ := he
  have z2 : IsZip m2 z TI TO .ellipsis := e2 _ _ D.i1z.symm z1
  have ez : e ≠ z := fun q => by subst q; rw [z2] at hoe; cases hoe; simp at hce
  refine wpAny_setField_rec z2 (by simp) fun m3 _ e3 => ?_
  refine wpAny_bind (wpAny_isInstance (T := "StopIteration") (b := true) ⟨oe, e3.extBut _ _ ez hoe, hce⟩ isSubtype_stop (wpAny_pure ?_))
  exact fin _ fun c o c1 c2 c3 c4 q => e3.extBut _ _ c1 (e2 _ _ c3 (e1.extBut _ _ c1 q))
end
def ItR (K : PySem.W.Frag) (a b : Addr) (n : Nat) : It :=
  ⟨fun i H => i < n ∧ ∃ (xs ys : List V) (x y : V), SqL K H a xs ∧ SqL K H b ys ∧ xs[i]? = some x ∧ ys[n - 1 - i]? = some y,
    fun i H v H' => ∃ T x y, v = .ref T ∧ H T = none ∧ H' = upd H T (.tup [x, y]) ∧ (∀ xs, SqL K H a xs → xs[i]? = some x) ∧ ∀ ys, SqL K H b ys → ys[n - 1 - i]? = some y,
    fun i H => ∃ xs : List V, SqL K H a xs ∧ xs.length ≤ i⟩
theorem turn {P : Program} {w : World} {K : PySem.W.Frag} {elts : List Expr} {kk : Nat} {tpos : Pos} {a b z TI TO i1 i2 : Addr} {n : Nat} (D : ZipApart z TI TO i1 i2 a b) :
    Turn P w K (.Tuple elts kk tpos) (ItR K a b n) [z, TI, TO, i1, i2] z (fun i h => IsZip h z TI TO .none ∧ IsPair h TI (.ref i1) (.ref i2) ∧ (∃ x y, IsPair h TO x y) ∧ h.IsListIter i1 a i ∧ h.IsRevIter i2 b ((n : Int) - 1 - (i : Nat))) where
  mem := by simp
  obj := fun i h st c hc => by
    obtain ⟨kz, kI, ⟨x, y, kO⟩, ⟨o1, e1, _, d1⟩, ⟨o2, e2, _, d2⟩⟩ := st
    simp only [List.mem_cons, List.not_mem_nil, or_false] at hc
    rcases hc with rfl | rfl | rfl | rfl | rfl
    · exact ⟨_, kz, fun v q => nomatch q⟩
    · exact ⟨_, kI, fun v q => nomatch q⟩
    · exact ⟨_, kO, fun v q => nomatch q⟩
    · exact ⟨o1, e1, fun v q => by rw [d1] at q; cases q⟩
    · exact ⟨o2, e2, fun v q => by rw [d2] at q; cases q⟩
  keep := fun i h h' st k => by
    obtain ⟨kz, kI, ⟨x, y, kO⟩, q1, q2⟩ := st
    exact ⟨k z (by simp) _ kz, k TI (by simp) _ kI, ⟨x, y, k TO (by simp) _ kO⟩, q1.at fun o q => k i1 (by simp) o q, q2.at fun o q => k i2 (by simp) o q⟩
  item := by
    intro X hP hw hK hc i pins s σ H E I hf st hg
    subst hP hw hK
    obtain ⟨kz, kI, ⟨x0, y0, kO⟩, q1, q2⟩ := st
    obtain ⟨hin, xs, ys, x, y, sx, sy, gx, gy⟩ := hg
    obtain ⟨its, rv, p, _⟩ := I.list sx
    obtain ⟨its2, rv2, p2, _⟩ := I.list sy
    obtain ⟨u, hu, ru⟩ := rv.get gx
    obtain ⟨u2, hu2, ru2⟩ := rv2.get gy
    have zl : z < s.heap.objs.size := Heap.lt_size kz
    have ej : (n : Int) - 1 - (i : Nat) = ((n - 1 - i : Nat) : Int) := by omega
    rw [ej] at q2
    refine step D kz kI kO (gv_list (k := i) (xs := its.toArray) (x := u) D.l1i1 (by simpa using hu)) (gv_rev (k := n - 1 - i) (xs := its2.toArray) (x := u2) D.l2i2 (by simpa using hu2)) of_list of_list of_rev of_rev ⟨q1, p.isList⟩ ⟨q2, p2.isList⟩ fun h' z' TO' t1 t2 hT hsz hk => ⟨_, rfl, wpAny_letOwnedTupleGo_zip (s := { s with heap := h' }) z' fun h'' z'' sb => ?_⟩
    have hT2 : h''.get? s.heap.objs.size = some { cls := .type "tuple", data := .seq #[u, u2] } := (sb.2 _ (Nat.ne_of_gt zl)).trans hT
    have new : ObjOk X.prog X.w (upd H s.heap.objs.size (.tup [x, y])) h'' s.heap.objs.size (.tup [x, y]) := ⟨by show 2 ≤ sizeLine; decide, [u, u2], .cons ru (.cons ru2 .nil), ⟨_, hT2, rfl, _, rfl⟩⟩
    have I1 : Inv X pins σ (upd H s.heap.objs.size (.tup [x, y])) { s with heap := h'' } :=
      I.turnedNew (t' := s.toks) (ch := [z, TI, TO, i1, i2]) (fun c o hb q => (sb.2 c (fun q' => hb (by simp [q']))).trans (hk c o (fun q' => hb (by simp [q'])) (fun q' => hb (by simp [q'])) (fun q' => hb (by simp [q'])) (fun q' => hb (by simp [q'])) q)) hf (Nat.le_refl _) new
    have ej2 : ((n - 1 - i : Nat) : Int) - 1 = (n : Int) - 1 - ((i + 1 : Nat) : Int) := by omega
    rw [ej2] at t2
    refine ⟨.ref s.heap.objs.size, _, I1, rfl, ⟨_, x, y, rfl, I.hok.fresh (Nat.le_refl _), rfl, fun l hl => by rw [I.list_inj hl sx]; exact gx, fun l hl => by rw [I.list_inj hl sy]; exact gy⟩, ⟨z'', ?_, ⟨u, u2, ?_⟩, ?_, ?_⟩, fun c hcm => ?_⟩
    · exact (sb.2 _ D.TIz).trans (hk _ _ D.TIz D.TITO D.TIi1 D.TIi2 kI)
    · exact (sb.2 _ D.TOz).trans TO'
    · exact t1.1.at fun o q => (sb.2 _ D.i1z).trans q
    · exact t2.1.at fun o q => (sb.2 _ D.i2z).trans q
    · rw [upd_ne (Nat.ne_of_lt (by
        simp only [List.mem_cons, List.not_mem_nil, or_false] at hcm
        obtain ⟨_, f1, _⟩ := q1
        obtain ⟨_, f2, _⟩ := q2
        rcases hcm with r | r | r | r | r <;> rw [r]
        · exact zl
        · exact Heap.lt_size kI
        · exact Heap.lt_size kO
        · exact Heap.lt_size f1
        · exact Heap.lt_size f2))]
      exact (hf c hcm).1
  done := by
    intro X hP hw hK hc i pins s σ H E I hf st hg
    subst hP hw hK
    obtain ⟨kz, kI, ⟨x0, y0, kO⟩, q1, q2⟩ := st
    obtain ⟨xs, sx, hend⟩ := hg
    obtain ⟨its, rv, p, _⟩ := I.list sx
    have e1 := rv.length
    exact stop (I.ok.hd hc) D kz kI kO ⟨q1, p.isList⟩ (by simp; omega) fun g hk => ⟨rfl, I.turnedL (t' := s.toks) (ch := [z, TI, TO, i1, i2]) (fun c o hb q =>
      hk c o (fun q' => hb (by simp [q'])) (fun q' => hb (by simp [q'])) (fun q' => hb (by simp [q'])) (fun q' => hb (by simp [q'])) q) hf⟩
  self := fun A i s Q E st h => wpAny_pyIter_zip st.1 h
abbrev w1 (h : Heap) (l : Addr) : Heap := h.push { cls := .type "list_iterator", data := .fields #[.ref l, .int 0 0] }
abbrev w2 (h : Heap) (l r : Addr) : Heap := (w1 h l).push { cls := .type "tuple", data := .seq #[.ref h.objs.size, .ref r] }
abbrev w3 (h : Heap) (l r : Addr) : Heap := (w2 h l r).push { cls := .type "tuple", data := .seq #[.none, .none] }
abbrev w4 (h : Heap) (l r : Addr) : Heap := (w3 h l r).push { cls := .type "zip", data := .fields #[.none, .bool false, .bool false, .ref (w1 h l).objs.size, .ref (w2 h l r).objs.size] }
section
variable {prog : Program} {w : World} {A : Around} {E : Value → Shared → Prop} {s : Shared}
end
theorem apart (N a b : Nat) (ha : a < N) (hb : b < N) : ZipApart (N + 1 + 3) (N + 1 + 1) (N + 1 + 2) (N + 1) N a b := by
  constructor <;> (refine PySem.W.neN ?_; omega)
end ZR
namespace DL
open PySem PySem.Spec L2
section
variable {X : Cx} {W : WX} {a : Expr} {es : List Expr} {fs : DL.Env → R (List D)} {p pos : Pos}
theorem RpL.inj {K : PySem.W.Frag} {mg : Str → Option Value} {F : Hp} : ∀ {js : List Int} {vs us : List V}, RpL K mg F (js.map D.int) vs → RpL K mg F (js.map D.int) us → vs = us
  | [], vs, us, h, h' => by rw [h.nil_iff, h'.nil_iff]
  | j :: js, vs, us, h, h' => by
    obtain ⟨v, vs', e1, r1, r2⟩ := h.cons_iff
    obtain ⟨u, us', e2, r3, r4⟩ := h'.cons_iff
    rw [e1, e2, r1.int_iff, r3.int_iff, RpL.inj r2 r4]
end
section
variable {X : Cx} {W : WX} {e : Expr} {f : DL.Env → R D} {p pos kpos cp : Pos}
end
end DL
namespace DL
open PySem PySem.Spec L2
def dMax3 : List D → R D
  | [.int i, .int j, .int k] => .ok (.int (if (if i < j then j else i) < k then k else (if i < j then j else i)))
  | _ => .stuck
section
variable {X : Cx} {W : WX} {a : Expr} {es : List Expr} {fs : DL.Env → R (List D)} {p pos : Pos}
end
abbrev repP (K : PySem.W.Frag) (mg : Str → Option Value) : Hp → Hp → Hp → List Key × List D → List (V × V) → Prop := fun _ F' _ r ps => ∃ vs, ps = (r.1.zip vs).map (fun kv => (kV kv.1, kv.2)) ∧ r.1.length = vs.length ∧ RpL K mg F' r.2 vs
structure DPs (X : Cx) (W : WX) (pos : Pos) (keys : List (Option Expr)) (values : List Expr) (f : DL.Env → R (List Key × List D)) (trs : List (TE × TE)) : Prop where
  ps : PPs X pos keys values trs
  ok : ∀ (σ : L2.St) (F0 : Fe) (H0 F H : Hp) (Γ : DL.Env) (Q : List (V × V) → Hp → Prop), Rel X.K X.mg F0 H0 F H σ Γ → PostG X.K X.mg (repP X.K X.mg) F H (WE W σ) Q (f Γ) → tPairs trs σ H Q
section
variable {X : Cx} {W : WX} {pos : Pos} {keys : List (Option Expr)} {values : List Expr} {k v : Expr} {fk fv : DL.Env → R D} {f : DL.Env → R (List Key × List D)} {trs : List (TE × TE)}
end
end DL
namespace HO
open PySem PySem.Spec PyProof.Rows L2
def tMethN (X : Cx) (W : WX) (k : Nat) (m : Str) (ta : TE) (t : TA) : TE := fun σ H Q => ta σ H fun x H1 => ∃ a C dx fs f fd ps sp, x = .ref a ∧ H1 a = some (.ins C dx fs) ∧ fs.lookup m = none ∧ Cls X.K C ∧ Meth X.K C m f ∧ Binds X.K fd ps [] ∧
  FnOk X.prog X.w X.K X.mg X.base (L2N.CX X.prog X.w) k f fd ps sp ∧ t σ H1 fun vs H2 => sp (x :: vs) H2 Q (WE W σ)
section
variable {X : Cx} {W : WX} {k : Nat} {m : Str} {pos apos : Pos} {e o : Expr} {es : List Expr} {ta : TE} {t : TA}
theorem pe_methN {pl : Sem Bool} (he : PE X o ta) (hr : Room k X.A) (hx : ∀ σ, PassesAt (L2N.CX X.prog X.w) X σ (WE W σ)) (ha : PA X (e :: es) t)
    (hst : starEach (e :: es) X.env = (false, eval e X.env) :: starEach es X.env := by rfl) (hpl : (backTo pos (starEach es X.env)).any (·.1) = false := by rfl)
    (ht : eval (.Call (.Attribute o m apos) (e :: es) [] pos) X.env = (do
      let ov ← eval o X.env
      standAt apos.atName
      let (f, first) ← holding [ov] (getMethod ov m pl)
      callWith pos f first (backTo pos (starEach (e :: es) X.env)) (backToKw pos (keywordEach [] X.env))) := by rfl) :
    PE X (.Call (.Attribute o m apos) (e :: es) [] pos) (tMethN X W k m ta t) := by
  refine ⟨fun pins s σ H Q I h => ?_⟩
  refine PySem.W.methodCall_KW (pl := pl) (thn (he.run pins s σ H _ I h) fun u s1 ⟨x, H1, I1, rx, a, C, dx, fs, f, fd, ps, sp, ex, ea, l, c, hm, hb, F, q⟩ => ?_) ht
  subst ex
  obtain rfl : u = Value.ref a := rx
  refine getmeth_ok I1 ea c hm l ?_
  refine PySem.W.callWith_K (first := [.ref a]) (h₀ := X.base) I.ok.mod.kin hm.kp (thn (ha.run pos pins s1 σ H1 _ I1 q) fun us s2 ⟨vs, H2, I2, r, q2⟩ => ⟨I2.kIn, ?_⟩) hst hpl
  exact run_fnSD (us := .ref a :: us) (vs := .ref a :: vs) (ds := []) (dvs := []) (E := WE W) F hr hb .nil (hx σ) I2 (.cons rfl r) (by rw [List.append_nil]; exact q2)
end
end HO
namespace DL
open PySem PySem.Spec L2
abbrev OkWN (X : Cx) (W : WX) : Prop := ∀ σ, PassesAt (L2N.CX X.prog X.w) X σ (WE W σ)
def KnMN (P : Program) (w : World) (K : PySem.W.Frag) (mg : Str → Option Value) (base : Heap) (k : Nat) (tb : List (Str × (List D → R D))) (m : Str) (n : Nat) : Prop :=
  ∀ e ∈ tb, ∃ C f fd ps, mg e.1 = some (.ref C) ∧ Cls K C ∧ Meth K C m f ∧ Binds K fd ps [] ∧ FnOk P w K mg base (L2N.CX P w) k f fd ps (spD K mg (n + 1) e.2)
theorem KnMN.knm {P : Program} {w : World} {K : PySem.W.Frag} {mg : Str → Option Value} {base : Heap} {k n : Nat} {tb : List (Str × (List D → R D))} {m : Str} (h : KnMN P w K mg base k tb m n) : KnM P w K mg base k tb m n := fun e he => by
  obtain ⟨C, f, fd, ps, h1, h2, h3, h4, G⟩ := h e he
  exact ⟨C, f, fd, ps, h1, h2, h3, h4, HX.fnOk_ofN G⟩
section
variable {P : Program} {w : World} {K : PySem.W.Frag} {mg : Str → Option Value} {base : Heap} {x qual : Str} {params : Arguments} {body : List Stmt} {scope : Scope} {f : Addr} {fd : FuncData} {N ps : List Str} {k : Nat} {g : DL.Env → Out}
theorem okWOfN {cdv : Value} {A : Around} {outer : List PySem.Env} {s : Shared} {H : Hp} {E : XK} :
    OkWN (cxOf (L2N.CX P w) P w K mg base N qual scope f cdv A outer s H E) (WOf E) := fun σ => L2N.passAt (L2N.takes_of rfl rfl rfl rfl) σ
theorem fn_okN (Fd : FunD K x qual params body scope [] [] f fd) (S : FnScope N ps scope) (hl : ps.length ≤ N.length)
    (hb : ∀ (cdv : Value) (A : Around) (outer : List PySem.Env) (s : Shared) (H : Hp) (E : XK), Room k (A.deeper (PyProof.Rows.envOfC qual scope s.heap.objs.size f cdv)) → DSs (cxOf (L2N.CX P w) P w K mg base N qual scope f cdv A outer s H E) (WOf E) body g) :
    FnOk P w K mg base (L2N.CX P w) (k + 1) f fd ps (spD K mg ps.length (mk N.length g)) := by
  refine Fd.ok S (fun vs H Q E h => spD_len h) fun cdv A outer s H vs Q E hr h => ?_
  obtain ⟨F, ds, l, z, r, p⟩ := h
  refine ⟨_, hb cdv A outer s H E hr, ⟨F, fun _ => .non⟩, H, F, stE N.length ds, start_rel z r (by rw [l]; exact hl), ?_⟩
  revert p
  unfold mk
  cases g (stE N.length ds) with
  | nx Γ => exact fun p σ F1 H1 r1 => p _ F1 H1 r1.ext Rp.non
  | rt d => exact fun p v F1 H1 x1 r1 => p v F1 H1 x1 r1
  | ro ds =>
    intro p v F1 H1 x1 r1
    obtain ⟨F2, x2, r2, _⟩ := frzO x1 r1
    exact p v F2 H1 x2 r2
  | rs d Γ => exact fun p v σ F1 H1 r1 q => p v F1 H1 r1.ext q
  | exc x Γ => exact fun p cls od σ F1 H1 r1 q => p cls od F1 H1 r1.ext q
  | bk Γ => exact fun p => p.elim
  | ct Γ => exact fun p => p.elim
  | stuck => exact fun p => p.elim
end
section
variable {X : Cx} {W : WX} {j k n : Nat} {c f g m : Str} {e e2 o : Expr} {es : List Expr} {p pos pos2 apos : Pos} {fs : DL.Env → R (List D)} {fo : DL.Env → R D} {tb : List (Str × (List D → R D))}
theorem meth_readN (h : KnMN X.prog X.w X.K X.mg X.base j tb m n) (hj : j ≤ k) {t : TA} (ht : ∀ (F0 : Fe) (H0 F H : Hp) (σ : L2.St) (Γ : DL.Env) (Q : List V → Hp → Prop), Rel X.K X.mg F0 H0 F H σ Γ → PostG X.K X.mg (repL X.K X.mg) F H (WE W σ) Q (fs Γ) → t σ H Q) :
    ∀ σ H Q, tD X W (eMeth tb m n fo fs) σ H Q → HO.tMethN X W k m (tD X W fo) t σ H Q := by
  rintro σ H Q ⟨F0, H0, F, Γ, r, p⟩
  refine ⟨F0, H0, F, Γ, r, PostG.bind p (fun x v F1 H1 _ x1 r1 p1 => ?_) fun _ _ _ _ _ h => h⟩
  have r1 : Rp X.K X.mg F1 x v := r1
  cases x with
  | obj c ns ws =>
    have r0 := r1
    unfold Rp at r1
    obtain ⟨a, C, dx, vs, rfl, hm, ea, hl, rr⟩ := r1
    have p1 : PostG X.K X.mg (repV X.K X.mg) F1 H1 (WE W σ) Q (if m ∈ ns then .stuck else (match lkC tb c with
      | some mf => (fs Γ).bind fun ds => if ds.length = n then mf (.obj c ns ws :: ds) else .stuck
      | none => .stuck)) := p1
    by_cases q1 : m ∈ ns
    · rw [if_pos q1] at p1
      exact p1.elim
    · rw [if_neg q1] at p1
      cases el : lkC tb c with
      | none => rw [el] at p1; exact p1.elim
      | some mf =>
        rw [el] at p1
        have p1 : PostG X.K X.mg (repV X.K X.mg) F1 H1 (WE W σ) Q ((fs Γ).bind fun ds => if ds.length = n then mf (.obj c ns ws :: ds) else .stuck) := p1
        obtain ⟨C', f, fd, ps, hm', cl, me, hb, G⟩ := h (c, mf) (lkC_ok el)
        rw [hm] at hm'
        cases hm'
        refine ⟨a, C, dx, _, f, fd, ps, _, rfl, x1.fh.ins ea, zip_none q1, cl, me, hb, G.mono hj, ht _ _ _ _ _ _ _ (r.step x1) ?_⟩
        refine PostG.bind p1 (fun ds us F2 H2 _ x2 r2 p2 => ?_) fun _ _ _ _ _ h => h
        obtain ⟨hl2, p3⟩ := ifR p2
        exact ⟨F2, .obj c ns ws :: ds, by rw [List.length_cons, hl2], x2.fh, RpL.cons (Rp.mono x2.ff _ _ r0) r2, p3⟩
  | _ => exact p1.elim
theorem de_methN {pl : Sem Bool} (h : KnMN X.prog X.w X.K X.mg X.base j tb m n) (hr : Room k X.A) (ho : DE X W o fo) (ha : DA X W (e :: es) fs) (hx : OkWN X W) (hj : j ≤ k := by decide)
    (hst : starEach (e :: es) X.env = (false, eval e X.env) :: starEach es X.env := by rfl) (hpl : (backTo pos (starEach es X.env)).any (·.1) = false := by rfl)
    (ht : eval (.Call (.Attribute o m apos) (e :: es) [] pos) X.env = (do
      let ov ← eval o X.env
      standAt apos.atName
      let (f, first) ← holding [ov] (getMethod ov m pl)
      callWith pos f first (backTo pos (starEach (e :: es) X.env)) (backToKw pos (keywordEach [] X.env))) := by rfl) :
    DE X W (.Call (.Attribute o m apos) (e :: es) [] pos) (eMeth tb m n fo fs) :=
  PE.weak (HO.pe_methN (pl := pl) ho hr hx ha hst hpl ht) (meth_readN h hj fun F0 H0 F H σ Γ Q r p => ⟨F0, H0, F, Γ, r, p⟩)
theorem ds_kx2N (h : Kx2 X.prog X.w X.K X.mg X.base j c f g) (hr : Room k X.A) (hcalm : X.calm = true) (tk : L2N.Takes X W) (ha : DA X W [e, e2] fs) (hj : j + 1 ≤ k := by decide) (hg : Gl X c := by unfold L2.Gl; kernel_rfl) (hdb : (c == ("__debug__" : Str)) = false := by kernel_rfl)
    (he : starEach [e, e2] X.env = (false, eval e X.env) :: starEach [e2] X.env := by rfl) (hpl : (backTo pos (starEach [e2] X.env)).any (·.1) = false := by rfl) : DS X W (.Raise (some (.Call (.Name c p) [e, e2] [] pos)) none pos2) (sRaise c [g, f] fs) := by
  obtain ⟨C, fI, fd, ps, gC, T, iC, tI, F1, hb⟩ := h
  have hx : Passes (L2.CX X.prog X.w) X (fun _ _ _ => False) := fun _ _ _ _ _ _ _ h => by
    obtain ⟨_, _, _, _, _, _, _, _, _, _, _, _, z⟩ := h
    exact z.elim
  refine PS.weak (L2N.ps_raise hcalm tk (HX.mkN T iC tI F1 (hr.mono hj) hb hx hg gC ha hdb he hpl)) ?_
  rintro Dn σ H ⟨F0, H0, F, Γ, r, p⟩
  refine ⟨F0, H0, F, Γ, r, PostS.out r p fun ds vs F1 H1 _ x1 r1 p1 => ?_⟩
  by_cases hl : ds.length = [g, f].length
  · rw [if_pos hl] at p1
    have r1 : RpL X.K X.mg F1 ds vs := r1
    cases ds with
    | nil => cases hl
    | cons d ds =>
      cases ds with
      | nil => cases hl
      | cons d2 ds =>
        cases ds with
        | cons _ _ => cases hl
        | nil =>
          obtain ⟨v, u, rfl, rv, ru⟩ := r1.two
          refine ⟨by show 2 ≤ 1000; decide, fun a na => ⟨a, v, u, rfl, upd_same, fun dx n ne => ?_⟩⟩
          rw [upd_ne ne] at n
          refine ⟨rfl, dx, [(g, u), (f, v)], by rw [upd_ne (Ne.symm ne), upd_same], upd_same, n, ?_⟩
          rw [del_upd2 na ne]
          exact raise_end (ns := [g, f]) (vs := [u, v]) (r.step x1) gC p1 n rfl (RpL.cons ru (RpL.cons rv RpL.nil))
  · rw [if_neg hl] at p1
    exact p1.elim
end
def Kx2H (P : Program) (w : World) (K : PySem.W.Frag) (mg : Str → Option Value) (base : Heap) (j : Nat) (c f g : Str) : Prop := ∃ C fI fd ps, mg c = some (.ref C) ∧ OexC K C ∧ PySem.W.findIn K (.ref C) "__init__" = some (some (.ref fI)) ∧ PySem.W.typeIn K (.ref fI) = some (.type "function") ∧
  L2H.FnH P w K mg base (L2.CX P w) j fI fd ps (HX.sp2 K C f g) ∧ Binds K fd ps []
def sTryR (i : Nat) (sub : Str → Option Bool) (c f1 f2 fl : Str) (g : DL.Env → Out) (fe : DL.Env → R D) : DL.Env → Out := fun Γ => match g Γ with
  | .exc (.exc c0 ns ds) Γ' => (match sub c0 with
    | some true => if i < Γ'.length then (match lkN ns ds fl with
      | some d => (match fe (Γ'.set i none) with
        | .ok d2 => .exc (.exc c [f2, f1] [d2, d]) (Γ'.set i none)
        | _ => .stuck)
      | none => .stuck) else .stuck
    | some false => .exc (.exc c0 ns ds) Γ'
    | none => .stuck)
  | .exc _ _ => .stuck
  | o => o
section
variable {K : PySem.W.Frag} {mg : Str → Option Value} {F0 : Fe} {H0 F H : Hp} {σ : L2.St} {Γ : DL.Env}
theorem Rel.setU (r : Rel K mg F0 H0 F H σ Γ) (i : Nat) (o : Option V) : Rel K mg F0 H0 F H (σ.set i o) (Γ.set i none) := by
  refine ⟨r.ext, by rw [List.length_set, List.length_set]; exact r.len, fun j s e => ?_, fun j k s t u w l ej ek hj hk os ot => ?_, r.slf.set i fun s z => by cases z <;> rfl⟩
  · by_cases q : i = j
    · subst q
      have hi : i < Γ.length := by
        have := (List.getElem?_eq_some_iff.mp e).1
        rwa [List.length_set] at this
      rw [List.getElem?_set_self hi] at e
      cases e
    · rw [List.getElem?_set_ne q] at e ⊢
      exact r.slot j s e
  · have nj : i ≠ j := fun q => by
      subst q
      have hi : i < Γ.length := by
        have := (List.getElem?_eq_some_iff.mp ej).1
        rwa [List.length_set] at this
      rw [List.getElem?_set_self hi] at ej
      cases ej
    have nk : i ≠ k := fun q => by
      subst q
      have hi : i < Γ.length := by
        have := (List.getElem?_eq_some_iff.mp ek).1
        rwa [List.length_set] at this
      rw [List.getElem?_set_self hi] at ek
      cases ek
    rw [List.getElem?_set_ne nj] at ej hj
    rw [List.getElem?_set_ne nk] at ek hk
    exact r.inj j k s t u w l ej ek hj hk os ot
end
section
variable {X : Cx} {Wout : WX} {body : List Stmt} {x n c f1 f2 fl : Str} {j : Nat} {sub : Str → Option Bool} {g : DL.Env → Out} {fe : DL.Env → R D} {e2 : Expr} {np pos pos' p2 p3 p4 p5 p6 p7 : Pos} {ck : Nat}
def tRz (X : Cx) (i : Nat) (C : Addr) (fl f1 f2 : Str) (dd a : Addr) (t2 : TE) : St → Hp → XK → Prop := tMkO C (HX.sp2 X.K C f1 f2) [] (tCons (fun σ H Q => tVar i σ H fun x H1 => x = .ref a ∧ ∃ (fs : List (Str × V)) (v : V), H1 dd = some (.xd fs) ∧ fs.lookup fl = some v ∧ Q v H1) (tCons t2 tNil))
theorem ds_tryR (i : Nat) (h : KxT X.K X.mg x sub) (hN : X.N.Nodup) (tk : Takes X Wout)
    (hpa : ∀ hd : Option Value, PassesOwnAt (model X.prog X.w) (X.A.mark hd) X.A X.env X.xe)
    (kx : Kx2H X.prog X.w X.K X.mg X.base j c f1 f2) (hr : Room (j + 1) X.A)
    (hX : ∀ c0 C0, sub c0 = some true → X.mg c0 = some (.ref C0) → XfC X.K C0 ∧ PySem.W.findIn X.K (.ref C0) fl = some none)
    (hb : ∀ (W : WX) (pn : List (Addr × Obj)) (xe : Value → Shared → Prop), L2N.Takes (X.tr pn xe) W → PassesOwn (model X.prog X.w) X.A X.env xe → DSs (X.tr pn xe) W body g)
    (he : ∀ (a : Addr) (pn : List (Addr × Obj)), DE (HX.asX X n pos' a pn) W0 e2 fe)
    (hs : X.stack = X.env :: X.outer := by rfl) (hf : X.env.frame = some X.env.locals := by rfl) (hi : X.N[i]? = some n := by rfl) (hln : X.env.kindOf n = some .local := by kernel_rfl) (hex : X.ex = [] := by rfl)
    (hvn : Vis X.env.scope n := by exact Or.inl (by kernel_rfl)) (hdn : (n == ("__debug__" : Str)) = false := by kernel_rfl) (hcn : (n == ("__classdict__" : Str)) = false := by kernel_rfl)
    (hgc : Gl X c := by unfold L2.Gl; kernel_rfl) (hdc : (c == ("__debug__" : Str)) = false := by kernel_rfl)
    (hst : ∀ (a : Addr) (pn : List (Addr × Obj)), starEach [.Attribute (.Name n p2) fl p3, e2] (HX.asX X n pos' a pn).env = (false, eval (.Attribute (.Name n p2) fl p3) (HX.asX X n pos' a pn).env) :: starEach [e2] (HX.asX X n pos' a pn).env := by exact fun _ _ => rfl)
    (hst2 : ∀ (a : Addr) (pn : List (Addr × Obj)), starEach [e2] (HX.asX X n pos' a pn).env = (false, eval e2 (HX.asX X n pos' a pn).env) :: starEach [] (HX.asX X n pos' a pn).env := by exact fun _ _ => rfl)
    (hpl : ∀ (a : Addr) (pn : List (Addr × Obj)), (backTo p5 (starEach [e2] (HX.asX X n pos' a pn).env)).any (·.1) = false := by exact fun _ _ => rfl)
    (hat : attributeBase (.Name n p2) fl X.env (eval (.Name n p2) X.env) = eval (.Name n p2) X.env := by rfl)
    (hgx : Gl X x := by unfold L2.Gl; kernel_rfl) (hdx : (x == ("__debug__" : Str)) = false := by kernel_rfl) :
    DS X Wout (.Try body [.ExceptHandler (some (.Name x np)) (some n) [.Raise (some (.Call (.Name c p4) [.Attribute (.Name n p2) fl p3, e2] [] p5)) (some (.Constant .none ck p6)) p7] pos'] [] [] pos) (sTryR i sub c f1 f2 fl g fe) := by
  obtain ⟨C0, gC0, hsub⟩ := h
  obtain ⟨C, fI, fd, ps, gC, T, iC, tI, F1, hbn⟩ := kx
  refine PS.weak (HX.ps_try_raise hs hf hN hi hln hex ⟨hgx, hdx, .inl gC0⟩ tk hpa (tb := fun W => tDS X W g)
    (ts := fun a cls d _ σ H => ∃ Cx dd, cls = .ref Cx ∧ d = some dd ∧ XfC X.K Cx ∧ PySem.W.findIn X.K (.ref Cx) fl = some none ∧ tRz X i C fl f1 f2 dd a (tD X W0 fe) σ H fun cls' d' H' => Wout cls' d' (σ.set i none) H')
    (fun W pn xe t q => PSs.weak (hb W pn xe t q) fun _ _ _ h => h) (fun a oe cls d pn hz hrec tks hot => ?_)) ?_
  · refine ⟨fun pins s σ H D I hh => ?_⟩
    obtain ⟨Cx, dd, rfl, rfl, TX, no, q⟩ := hh
    have hx : Passes (L2.CX X.prog X.w) (HX.asX X n pos' a ((a, oe) :: pn)) (fun _ _ _ => False) := fun _ _ _ _ _ _ _ h => by
      obtain ⟨_, _, _, _, _, _, _, _, _, _, _, _, z⟩ := h
      exact z.elim
    have ha : PA (HX.asX X n pos' a ((a, oe) :: pn)) [.Attribute (.Name n p2) fl p3, e2] (tCons (fun σ H Q => tVar i σ H fun x H1 => x = .ref a ∧ ∃ (fs : List (Str × V)) (v : V), H1 dd = some (.xd fs) ∧ fs.lookup fl = some v ∧ Q v H1) (tCons (tD X W0 fe) tNil)) :=
      pa_cons (HX.pe_pf (X := HX.asX X n pos' a ((a, oe) :: pn)) (a := a) (C := Cx) (dd := dd) (oe := oe) (f := fl) TX no hz.zc hrec List.mem_cons_self (pe_var (X := HX.asX X n pos' a ((a, oe) :: pn)) (i := i) hi hvn hdn hcn) hat) (pa_cons (he a ((a, oe) :: pn)) pa_nil (hst2 _ _)) (hst _ _)
    have one := L2H.ps_raiseHN (X := HX.asX X n pos' a ((a, oe) :: pn)) (W := fun cls d σ H => Wout cls d (σ.set i none) H) (j := ck) (cpos := p6) (pos := p7) hot tks
      (L2H.pmk5_oexH (X := HX.asX X n pos' a ((a, oe) :: pn)) (CX := L2.CX X.prog X.w) (p := p4) (pos := p5) T iC tI F1 (L2H.roomH_mark hr _) hot hbn hx hgc gC ha hdc (hst _ _) (hpl _ _))
    exact (pss_cons one pss_nil).run pins s σ H D I q
  rintro Dn σ H ⟨F0, H0, F, Γ, r, p⟩
  refine ⟨F0, H0, F, Γ, r, ?_⟩
  revert p
  unfold sTryR
  cases e : g Γ with
  | exc y Γ' =>
    cases y with
    | exc c0 ns ds =>
      intro p cls od σ' F' H' r' q
      obtain ⟨Cy, ec, gCy, qd⟩ := q
      subst ec
      have p : PostS X Wout F0 H0 Dn (match sub c0 with
        | some true => if i < Γ'.length then (match lkN ns ds fl with
          | some d => (match fe (Γ'.set i none) with
            | .ok d2 => .exc (.exc c [f2, f1] [d2, d]) (Γ'.set i none)
            | _ => .stuck)
          | none => .stuck) else .stuck
        | some false => .exc (.exc c0 ns ds) Γ'
        | none => .stuck) := p
      cases es : sub c0 with
      | none => rw [es] at p; exact p.elim
      | some b =>
        rw [es] at p
        refine ⟨b, hsub c0 b Cy es gCy, fun hbt a na => ?_, fun hbf => ?_⟩
        · subst hbt
          have p : PostS X Wout F0 H0 Dn (if i < Γ'.length then (match lkN ns ds fl with
            | some d => (match fe (Γ'.set i none) with
              | .ok d2 => .exc (.exc c [f2, f1] [d2, d]) (Γ'.set i none)
              | _ => .stuck)
            | none => .stuck) else .stuck) := p
          by_cases hlt : i < Γ'.length
          case neg => rw [if_neg hlt] at p; exact p.elim
          rw [if_pos hlt] at p
          have hil : i < σ'.length := by rw [r'.len]; exact hlt
          have p : PostS X Wout F0 H0 Dn (match lkN ns ds fl with
            | some d => (match fe (Γ'.set i none) with
              | .ok d2 => .exc (.exc c [f2, f1] [d2, d]) (Γ'.set i none)
              | _ => .stuck)
            | none => .stuck) := p
          cases el : lkN ns ds fl with
          | none => rw [el] at p; exact p.elim
          | some d =>
            rw [el] at p
            have p : PostS X Wout F0 H0 Dn (match fe (Γ'.set i none) with
              | .ok d2 => .exc (.exc c [f2, f1] [d2, d]) (Γ'.set i none)
              | _ => .stuck) := p
            rcases qd with ⟨w1, _, _⟩ | ⟨dd, vs, w, ed, hl, rr⟩
            · rw [w1] at el; simp [lkN] at el
            subst w
            obtain ⟨v, ez, rv⟩ := lkN_rp rr el
            obtain ⟨TX, no⟩ := hX c0 Cy es gCy
            refine ⟨Cy, dd, rfl, rfl, TX, no, ?_⟩
            refine ⟨.ref a, List.getElem?_set_self hil, rfl, _, v, r'.fz.xd ed, ez, ?_⟩
            refine ⟨F0, H0, F', Γ'.set i none, r'.setU i _, ?_⟩
            revert p
            cases ef : fe (Γ'.set i none) with
            | exc _ => exact fun p => p.elim
            | stuck => exact fun p => p.elim
            | ok d2 =>
              intro p u F2 H2 x2 ru
              have p : PostS X Wout F0 H0 Dn (.exc (.exc c [f2, f1] [d2, d]) (Γ'.set i none)) := p
              refine ⟨by show 2 ≤ 1000; decide, fun b nb => ⟨b, v, u, rfl, upd_same, fun dx nd ne => ?_⟩⟩
              rw [upd_ne ne] at nd
              refine ⟨rfl, dx, [(f2, u), (f1, v)], by rw [upd_ne (Ne.symm ne), upd_same], upd_same, nd, ?_⟩
              rw [del_upd2 nb ne]
              have r3 := (r'.setN i).step x2
              have es2 : (σ'.set i (some (.ref a))).set i none = σ'.set i none := setN_ov _ _ _
              rw [es2]
              exact raise_end (ns := [f2, f1]) (vs := [u, v]) r3 gC p nd rfl (RpL.cons ru (RpL.cons (Rp.mono x2.ff _ _ rv) RpL.nil))
        · subst hbf
          exact p _ _ σ' F' H' r' ⟨Cy, rfl, gCy, qd⟩
    | _ => exact fun p => p.elim
  | _ => exact fun p => p
end
theorem xfG {K : PySem.W.Frag} {mg : Str → Option Value} {cs csf : List Str} {tb : Tb} {x fl : Str} (E : ExF K mg cs tb) (hx : ysG x = [x]) (hc : x ∈ cs) (ho : x ∉ OSG) (ha : ∀ c ∈ csf, ∀ C, mg c = some (.ref C) → PySem.W.findIn K (.ref C) fl = some none) (hf : x ∈ csf) :
    ∀ c0 C0, subG x c0 = some true → mg c0 = some (.ref C0) → XfC K C0 ∧ PySem.W.findIn K (.ref C0) fl = some none := fun c0 C0 e gc => by
  unfold subG at e
  by_cases q : c0 ∈ CSG
  case neg => rw [if_neg q] at e; cases e
  rw [if_pos q, hx] at e
  have e2 : c0 = x := List.mem_singleton.mp (of_decide_eq_true (Option.some.inj e))
  subst e2
  obtain ⟨C, hm, T, _⟩ := E.cls c0 hc
  rw [gc] at hm
  cases hm
  exact ⟨(T ho).f, ha c0 hf C0 gc⟩
end DL
namespace DL
open PySem PySem.Spec L2
section
variable {X : Cx} {W : WX} {e o v1 v2 : Expr} {rest es : List Expr} {f fo fe : DL.Env → R D} {fs : List (DL.Env → R D)} {pos apos : Pos}
inductive DJ (X : Cx) (W : WX) : List Expr → List (DL.Env → R D) → Prop where
  | nil : DJ X W [] []
  | cons {e : Expr} {f : DL.Env → R D} {es : List Expr} {fs : List (DL.Env → R D)} (h : DE X W e f) (r : DJ X W es fs) : DJ X W (e :: es) (f :: fs)
end
end DL
namespace DL
open PySem PySem.Spec L2
section
variable {X : Cx} {W : WX} {e : Expr} {f : DL.Env → R D} {F0 : Fe} {H0 F H : Hp} {σ : L2.St} {Γ : DL.Env} {pos : Pos}
theorem CallR.two {f : Value} {r1 r2 : List V → Hp → VK → Prop} (h1 : CallR X f r1) (h2 : CallR X f r2) : CallR X f (fun xs H Q => r1 xs H Q ∨ r2 xs H Q) := by
  intro pins s σ H xs us Q I r h
  rcases h with h | h
  · exact h1 pins s σ H xs us Q I r h
  · exact h2 pins s σ H xs us Q I r h
end
end DL
namespace DL
open PySem PySem.Spec L2
section
variable {X : Cx}
end
def oRng1 : D → R (List D)
  | .int j => if inR62 j && decide (j.toNat ≤ 16777216) then .ok (rngL 0 j.toNat) else .stuck
  | _ => .stuck
def oRng (f : DL.Env → R D) : DL.Env → R (List D) := fun Γ => (f Γ).bind oRng1
section
variable {X : Cx} {W : WX} {a : Expr} {fa : DL.Env → R D} {p p3 pos pos2 : Pos}
end
end DL
namespace DL
open PySem PySem.Spec L2
section
variable {X : Cx} {W : WX} {e : Expr} {f : DL.Env → R D} {p pos kpos cp : Pos}
end
end DL
namespace DL
open PySem PySem.Spec L2
def sExtV (i : Nat) (f : DL.Env → R D) : DL.Env → Out := fun Γ => match Env.at_ Γ i with
  | some (.own ds) => (f Γ).out Γ fun d => match d with
    | .lst es => if ds.length + es.length ≤ LIM then .nx (Γ.set i (some (.own (ds ++ es)))) else .stuck
    | _ => .stuck
  | _ => .stuck
section
variable {X : Cx} {W : WX} {e : Expr} {f : DL.Env → R D} {pos : Pos}
end
section
variable {K : PySem.W.Frag} {mg : Str → Option Value} {F0 : Fe} {H0 F H F1 F2 : Hp} {σ : L2.St} {Γ : DL.Env}
theorem RpL.scal : ∀ {xs : List D} {ws : List V}, xs.all D.scal = true → RpL K mg F1 xs ws → RpL K mg F2 xs ws
  | [], ws, _, h => h
  | x :: xs, ws, c, h => by
    obtain ⟨w, us, rfl, h1, h2⟩ := h
    rw [List.all_cons, Bool.and_eq_true] at c
    refine ⟨w, us, rfl, ?_, RpL.scal c.2 h2⟩
    cases x with
    | non => rw [h1.non_iff]; exact Rp.non
    | bl b => rw [h1.bl_iff]; exact Rp.bl
    | int b => rw [h1.int_iff]; exact Rp.int
    | str b => rw [h1.str_iff]; exact Rp.str
    | _ => exact absurd c.1 (by simp [D.scal])
end
section
variable {X : Cx} {W : WX} {e : Expr} {f : DL.Env → R D}
end
end DL
namespace HX
open PySem PySem.Spec PyProof.Rows L2 HT
section
variable {prog : Program} {w : World} {A : Around} {E : Value → Shared → Prop} {s : Shared}
end
section
variable {X : Cx}
end
end HX
namespace DL
open PySem PySem.Spec L2
section
variable {X : Cx} {W : WX} {e : Expr} {f : DL.Env → R D} {pos : Pos}
end
end DL
namespace DL
open PySem PySem.Spec L2
section
variable {X : Cx} {W : WX} {o e : Expr} {fo fe : DL.Env → R D} {apos pos : Pos}
end
end DL
namespace DL
open PySem PySem.Spec L2
section
variable {X : Cx} {W : WX} {a : Expr} {fa : DL.Env → R D} {p p2 q pos : Pos}
end
end DL
namespace DL
open PySem PySem.Spec L2
section
variable {X : Cx} {W : WX} {e e2 : Expr} {fa fb : DL.Env → R D} {p p2 pos pos2 tpos : Pos} {elts : List Expr} {kk : Nat}
end
end DL
namespace DL
open PySem PySem.Spec L2
abbrev OB := List Str × List Fl
def lkF : List Str → List Fl → Str → Option Fl
  | n :: ns, f :: fs, x => if n = x then some f else lkF ns fs x
  | _, _, _ => none
def puN : List Str → Str → List Str
  | [], x => [x]
  | n :: ns, x => if n = x then n :: ns else n :: puN ns x
def puL {α : Type} : List Str → List α → Str → α → List α
  | n :: ns, f :: fs, x, g => if n = x then g :: fs else f :: puL ns fs x g
  | _, _, _, g => [g]
section
variable {α : Type}
theorem puL_len : ∀ {ns : List Str} {fs : List α} {x : Str} {g : α}, ns.length = fs.length → (puN ns x).length = (puL ns fs x g).length
  | [], [], _, _, _ => rfl
  | [], _ :: _, _, _, h => by cases h
  | _ :: _, [], _, _, h => by cases h
  | n :: ns, f :: fs, x, g, h => by
    unfold puN puL
    by_cases q : n = x
    · rw [if_pos q, if_pos q]
      simpa using h
    · rw [if_neg q, if_neg q]
      rw [List.length_cons, List.length_cons, puL_len (by simpa using h)]
theorem putF_zip : ∀ {ns : List Str} {vs : List V} {x : Str} {y : V}, ns.length = vs.length → putF x y (ns.zip vs) = (puN ns x).zip (puL ns vs x y)
  | [], [], _, _, _ => by simp [putF, puN, puL]
  | [], _ :: _, _, _, h => by cases h
  | _ :: _, [], _, _, h => by cases h
  | n :: ns, v :: vs, x, y, h => by
    have ih := putF_zip (ns := ns) (vs := vs) (x := x) (y := y) (by simpa using h)
    unfold puN puL
    rw [List.zip_cons_cons]
    by_cases q : n = x
    · rw [if_pos q, if_pos q, List.zip_cons_cons]
      simp [putF, q]
    · rw [if_neg q, if_neg q, List.zip_cons_cons, ← ih]
      simp [putF, q]
def puI : List Str → Str → Nat
  | [], _ => 0
  | n :: ns, x => if n = x then 0 else puI ns x + 1
theorem puL_at : ∀ {ns : List Str} {fs : List α} {x : Str} {g : α} {i : Nat}, ns.length = fs.length → (puL ns fs x g)[i]? = if i = puI ns x then some g else fs[i]?
  | [], [], x, g, i, _ => by
    cases i with
    | zero => rfl
    | succ i => simp [puL, puI]
  | [], _ :: _, _, _, _, h => by cases h
  | _ :: _, [], _, _, _, h => by cases h
  | n :: ns, f :: fs, x, g, i, h => by
    unfold puL puI
    by_cases q : n = x
    · rw [if_pos q, if_pos q]
      cases i with
      | zero => rfl
      | succ i => simp
    · rw [if_neg q, if_neg q]
      cases i with
      | zero => simp
      | succ i =>
        rw [List.getElem?_cons_succ, puL_at (by simpa using h), List.getElem?_cons_succ]
        by_cases e : i = puI ns x
        · rw [if_pos e, if_pos (by omega)]
        · rw [if_neg e, if_neg (by omega)]
end
theorem lkF_get : ∀ {ns : List Str} {fs : List Fl} {vs : List V} {x : Str} {f : Fl}, ns.length = vs.length → fs.length = vs.length → lkF ns fs x = some f → ∃ u, fs[puI ns x]? = some f ∧ vs[puI ns x]? = some u ∧ (ns.zip vs).lookup x = some u
  | [], _, _, _, _, _, _, h => by unfold lkF at h; cases h
  | _ :: _, [], _, _, _, _, _, h => by unfold lkF at h; cases h
  | _ :: _, _ :: _, [], _, _, h, _, _ => by cases h
  | n :: ns, f0 :: fs, v :: vs, x, f, l1, l2, h => by
    unfold lkF at h
    by_cases q : n = x
    · rw [if_pos q] at h
      cases h
      have e : puI (n :: ns) x = 0 := if_pos q
      exact ⟨v, by rw [e]; rfl, by rw [e]; rfl, by rw [List.zip_cons_cons, lookup_put, if_pos q.symm]⟩
    · rw [if_neg q] at h
      obtain ⟨u, h1, h2, h3⟩ := lkF_get (by simpa using l1) (by simpa using l2) h
      have e : puI (n :: ns) x = puI ns x + 1 := if_neg q
      exact ⟨u, by rw [e]; simpa using h1, by rw [e]; simpa using h2, by rw [List.zip_cons_cons, lookup_put, if_neg fun z => q z.symm]; exact h3⟩
theorem puN_in : ∀ {ns : List Str} {fs : List Fl} {x : Str} {f : Fl}, lkF ns fs x = some f → puN ns x = ns
  | [], _, _, _, h => by unfold lkF at h; cases h
  | _ :: _, [], _, _, h => by unfold lkF at h; cases h
  | n :: ns, f0 :: fs, x, f, h => by
    unfold lkF at h
    unfold puN
    by_cases q : n = x
    · rw [if_pos q]
    · rw [if_neg q] at h
      rw [if_neg q, puN_in h]
section
variable {K : PySem.W.Frag} {mg : Str → Option Value} {F0 : Fe} {H0 F H F1 H1 H2 : Hp} {σ : L2.St} {Γ : DL.Env}
theorem Rel.mutX (r : Rel K mg F0 H0 F H σ Γ) (x : Ext F H F1 H1) {i : Nat} {s s' : Slot} {v : V} (ei : Γ[i]? = some (some s)) (hv : σ[i]? = some (some v))
    (hH : ∀ a ob, ¬ foot H s v a → H1 a = some ob → H2 a = some ob) (h : SlotOk K mg H0 F1 H2 s' v) (hf : ∀ l, foot H2 s' v l → foot H s v l ∨ H l = none) (hb : s'.tag = none ∨ s'.tag = s.tag) : Rel K mg F0 H0 F1 H2 σ (Γ.set i (some s')) := by
  obtain ⟨v', hv', sv⟩ := r.slot i s ei
  rw [hv] at hv'
  cases hv'
  have hi : i < Γ.length := (List.getElem?_eq_some_iff.mp ei).1
  have off : ∀ (j : Nat) (t : Slot) (u : V) (l : Addr), i ≠ j → Γ[j]? = some (some t) → σ[j]? = some (some u) → foot H t u l → ¬ foot H s v l := fun j t u l q ej hj f1 f2 => q (r.inj i j s t v u l ei ej hv hj f2 f1)
  have back : ∀ (j : Nat) (t : Slot) (u : V) (l : Addr), i ≠ j → Γ[j]? = some (some t) → σ[j]? = some (some u) → foot H2 t u l → foot H t u l := fun j t u l q ej hj f1 => by
    obtain ⟨w, h1, h2⟩ := r.slot j t ej
    rw [hj] at h1
    cases h1
    exact foot_gen h2 (fun l2 ob q2 e => hH l2 ob (off j t _ l2 q ej hj q2) (x.hh _ _ e)) f1
  have apart : ∀ (j : Nat) (t : Slot) (u : V) (l : Addr), i ≠ j → Γ[j]? = some (some t) → σ[j]? = some (some u) → foot H2 t u l → foot H2 s' v l → False := fun j t u l q ej hj f1 f2 => by
    have b := back j t u l q ej hj f1
    rcases hf l f2 with z | z
    · exact off j t u l q ej hj b z
    · obtain ⟨w, h1, h2⟩ := r.slot j t ej
      rw [hj] at h1
      cases h1
      obtain ⟨ob, e1, _, _⟩ := foot_at h2 b
      rw [z] at e1
      cases e1
  have xe := r.ext.trans x
  refine ⟨⟨xe.ff, fun a u e => ?_, fun a u e => ?_, xe.new⟩, by rw [List.length_set]; exact r.len, fun j t e => ?_, fun j k t t' u w l ej ek hj hk os ot => ?_, r.slf.setE ei hb⟩
  · have nf : ¬ foot H s v a := fun q => by
      obtain ⟨ob, z0, z, _⟩ := foot_at sv q
      rcases x.new a u e with y | y
      · rw [y] at z; cases z
      · rw [y] at z0; cases z0
    rcases xe.fh a u e with z | ⟨z1, ob, z2⟩
    · exact .inl (hH a u nf z)
    · exact .inr ⟨z1, ob, hH a _ nf z2⟩
  · exact hH a u (fun q => by
      obtain ⟨_, _, _, z⟩ := foot_at sv q
      rw [e] at z
      cases z) (xe.hh a u e)
  · by_cases q : i = j
    · subst q
      rw [List.getElem?_set_self hi] at e
      cases e
      exact ⟨v, hv, h⟩
    · rw [List.getElem?_set_ne q] at e
      obtain ⟨w, h1, h2⟩ := r.slot j t e
      have h3 := h2.ext x
      exact ⟨w, h1, h3.gen (Same.refl _) (fun l z => (foot_at h3 z).choose_spec.2.1) (fun l ob z e2 => hH l ob (off j t w l q e h1 (foot_ext h2 x z)) e2) (fun l z => (foot_at h3 z).choose_spec.2.2)⟩
  · by_cases qj : i = j
    · by_cases qk : i = k
      · rw [← qj, ← qk]
      · subst qj
        rw [List.getElem?_set_self hi] at ej
        cases ej
        rw [hv] at hj
        cases hj
        rw [List.getElem?_set_ne qk] at ek
        exact (apart k t' w l qk ek hk ot os).elim
    · by_cases qk : i = k
      · subst qk
        rw [List.getElem?_set_self hi] at ek
        cases ek
        rw [hv] at hk
        cases hk
        rw [List.getElem?_set_ne qj] at ej
        exact (apart j t u l qj ej hj os ot).elim
      · rw [List.getElem?_set_ne qj] at ej
        rw [List.getElem?_set_ne qk] at ek
        exact r.inj j k t t' u w l ej ek hj hk (back j t u l qj ej hj os) (back k t' w l qk ek hk ot)
open Classical in
noncomputable def hole (H : Hp) (s : Slot) (v : V) : Hp := fun l => if foot H s v l then none else H l
theorem hole_in {s : Slot} {v : V} {l : Addr} (q : foot H s v l) : hole H s v l = none := if_pos q
theorem hole_out {s : Slot} {v : V} {l : Addr} (q : ¬ foot H s v l) : hole H s v l = H l := if_neg q
theorem hole_same (s : Slot) (v : V) : Same (hole H s v) H := fun l o e => by
  by_cases q : foot H s v l
  · rw [hole_in q] at e; cases e
  · rw [hole_out q] at e; exact e
theorem hole_none {s : Slot} {v : V} {l : Addr} (h : hole H s v l = none) : foot H s v l ∨ H l = none := by
  by_cases q : foot H s v l
  · exact .inl q
  · rw [hole_out q] at h; exact .inr h
theorem Rel.call (r : Rel K mg F0 H0 F H σ Γ) {i : Nat} {s s' : Slot} {v : V} (ei : Γ[i]? = some (some s)) (hv : σ[i]? = some (some v)) (x : Ext F (hole H s v) F1 H1) (h : SlotOk K mg (hole H s v) F1 H1 s' v)
    (hb : s'.tag = none ∨ s'.tag = s.tag) : Rel K mg F0 H0 F1 H1 σ (Γ.set i (some s')) := by
  obtain ⟨v', hv', sv⟩ := r.slot i s ei
  rw [hv] at hv'
  cases hv'
  have hi : i < Γ.length := (List.getElem?_eq_some_iff.mp ei).1
  have off : ∀ (j : Nat) (t : Slot) (u : V) (l : Addr), i ≠ j → Γ[j]? = some (some t) → σ[j]? = some (some u) → foot H t u l → ¬ foot H s v l := fun j t u l q ej hj f1 f2 => q (r.inj i j s t v u l ei ej hv hj f2 f1)
  have keep : ∀ (j : Nat) (t : Slot) (u : V) (l : Addr) (ob : HO), i ≠ j → Γ[j]? = some (some t) → σ[j]? = some (some u) → foot H t u l → H l = some ob → H1 l = some ob := fun j t u l ob q ej hj f1 e => x.hh l ob (by rw [hole_out (off j t u l q ej hj f1)]; exact e)
  have back : ∀ (j : Nat) (t : Slot) (u : V) (l : Addr), i ≠ j → Γ[j]? = some (some t) → σ[j]? = some (some u) → foot H1 t u l → foot H t u l := fun j t u l q ej hj f1 => by
    obtain ⟨w, h1, h2⟩ := r.slot j t ej
    rw [hj] at h1
    cases h1
    exact foot_gen h2 (fun l2 ob q2 e => keep j t _ l2 ob q ej hj q2 e) f1
  have apart : ∀ (j : Nat) (t : Slot) (u : V) (l : Addr), i ≠ j → Γ[j]? = some (some t) → σ[j]? = some (some u) → foot H1 t u l → foot H1 s' v l → False := fun j t u l q ej hj f1 f2 => by
    have b := back j t u l q ej hj f1
    obtain ⟨_, _, _, e0⟩ := foot_at h f2
    rw [hole_out (off j t u l q ej hj b)] at e0
    obtain ⟨w, h1, h2⟩ := r.slot j t ej
    rw [hj] at h1
    cases h1
    obtain ⟨ob, e1, _, _⟩ := foot_at h2 b
    rw [e0] at e1
    cases e1
  refine ⟨⟨r.ext.ff.trans x.ff, x.fh, fun a u e => ?_, fun a u e => ?_⟩, by rw [List.length_set]; exact r.len, fun j t e => ?_, fun j k t t' u w l ej ek hj hk os ot => ?_, r.slf.setE ei hb⟩
  · refine x.hh a u ?_
    rw [hole_out fun q => by
      obtain ⟨_, _, _, z⟩ := foot_at sv q
      rw [e] at z
      cases z]
    exact r.ext.hh a u e
  · rcases x.new a u e with z | z
    · exact r.ext.new a u z
    · rcases hole_none z with y | y
      · exact .inr (foot_at sv y).choose_spec.2.2
      · exact .inr (r.ext.hh.free y)
  · by_cases q : i = j
    · subst q
      rw [List.getElem?_set_self hi] at e
      cases e
      refine ⟨v, hv, h.gen (Same.refl _) (fun l z => (foot_at h z).choose_spec.2.1) (fun l ob _ e => e) fun l z => ?_⟩
      rcases hole_none (foot_at h z).choose_spec.2.2 with y | y
      · exact (foot_at sv y).choose_spec.2.2
      · exact r.ext.hh.free y
    · rw [List.getElem?_set_ne q] at e
      obtain ⟨w, h1, h2⟩ := r.slot j t e
      refine ⟨w, h1, h2.gen x.ff (fun l z => ?_) (fun l ob z e2 => keep j t w l ob q e h1 z e2) (fun l z => (foot_at h2 z).choose_spec.2.2)⟩
      obtain ⟨ob, e1, e2, e3⟩ := foot_at h2 z
      cases y : F1 l with
      | none => rfl
      | some o =>
        rcases x.new l o y with y2 | y2
        · rw [e2] at y2; cases y2
        · rw [hole_out (off j t w l q e h1 z), e1] at y2; cases y2
  · by_cases qj : i = j
    · by_cases qk : i = k
      · rw [← qj, ← qk]
      · subst qj
        rw [List.getElem?_set_self hi] at ej
        cases ej
        rw [hv] at hj
        cases hj
        rw [List.getElem?_set_ne qk] at ek
        exact (apart k t' w l qk ek hk ot os).elim
    · by_cases qk : i = k
      · subst qk
        rw [List.getElem?_set_self hi] at ek
        cases ek
        rw [hv] at hk
        cases hk
        rw [List.getElem?_set_ne qj] at ej
        exact (apart j t u l qj ej hj os ot).elim
      · rw [List.getElem?_set_ne qj] at ej
        rw [List.getElem?_set_ne qk] at ek
        exact r.inj j k t t' u w l ej ek hj hk (back j t u l qj ej hj os) (back k t' w l qk ek hk ot)
end
section
variable {K : PySem.W.Frag} {mg : Str → Option Value} {F0 : Fe} {H0 F H F1 H1 H2 : Hp} {σ : L2.St} {Γ : DL.Env}
theorem FlOk.ne {f : Fl} {u : V} {l a C dx : Addr} {kvs : List (Str × V)} (h : FlOk K mg H0 F H f u) (o : f.isOwn = true) (e : u = .ref l) (ha : H a = some (.ins C dx kvs)) : l ≠ a := by
  intro z
  subst z
  cases f with
  | val d => cases o
  | own ds =>
    obtain ⟨l2, vs, g1, g2, _⟩ := h
    rw [e] at g1
    cases g1
    rw [g2] at ha
    cases ha
  | dic ks ds =>
    obtain ⟨l2, vs, g1, g2, _⟩ := h
    rw [e] at g1
    cases g1
    rw [g2] at ha
    cases ha
theorem ob_put {c : Str} {ns : List Str} {fs : List Fl} {a C dx : Addr} {vs : List V} {x : Str} {g : Fl} {y : V} (s0 : Same H0 H) (ec : mg c = some (.ref C)) (eh : H a = some (.ins C dx (ns.zip vs))) (el : ns.length = vs.length) (el2 : fs.length = vs.length) (ef : F a = none) (e0 : H0 a = none)
    (hf : ∀ (i : Nat) (f : Fl) (u : V), fs[i]? = some f → vs[i]? = some u → FlOk K mg H0 F H f u) (hi : ∀ (i j : Nat) (f g : Fl) (u : V), fs[i]? = some f → fs[j]? = some g → f.isOwn = true → g.isOwn = true → vs[i]? = some u → vs[j]? = some u → i = j)
    (xe : Ext F H F1 H1) (hg : FlOk K mg H F1 H1 g y) (b b' : Bool) :
    SlotOk K mg H0 F1 (upd H1 a (.ins C dx (putF x y (ns.zip vs)))) (.oob b c (puN ns x) (puL ns fs x g)) (.ref a) ∧ ∀ l, foot (upd H1 a (.ins C dx (putF x y (ns.zip vs)))) (.oob b c (puN ns x) (puL ns fs x g)) (.ref a) l → foot H (.oob b' c ns fs) (.ref a) l ∨ H l = none := by
  have fresh : ∀ l, g.isOwn = true → y = .ref l → H l = none := fun l o e => by
    obtain ⟨l2, ob, e1, _, _, e2⟩ := FlOk.own_at o hg
    rw [e] at e1
    cases e1
    exact e2
  have gnew : FlOk K mg H0 F1 (upd H1 a (.ins C dx (putF x y (ns.zip vs)))) g y := hg.gen (Same.refl _) (fun l o e => by
      obtain ⟨l2, ob, e1, _, e2, _⟩ := FlOk.own_at o hg
      rw [e] at e1
      cases e1
      exact e2) (fun l ob o e q => by
      rw [upd_ne fun z => by rw [z] at e; have := fresh a o e; rw [eh] at this; cases this]
      exact q) (fun l o e => s0.free (fresh l o e))
  have old : ∀ (i : Nat) (f : Fl) (u : V), fs[i]? = some f → vs[i]? = some u → FlOk K mg H0 F1 (upd H1 a (.ins C dx (putF x y (ns.zip vs)))) f u := fun i f u h1 h2 => by
    have h := hf i f u h1 h2
    refine h.gen xe.ff (fun l o e => ?_) (fun l ob o e q => ?_) fun l o e => ?_
    · obtain ⟨l2, ob, e1, e2, e3, _⟩ := FlOk.own_at o h
      rw [e] at e1
      cases e1
      cases z : F1 l with
      | none => rfl
      | some w =>
        rcases xe.new l w z with y2 | y2
        · rw [e3] at y2; cases y2
        · rw [e2] at y2; cases y2
    · rw [upd_ne (h.ne o e eh)]
      exact xe.hh l ob q
    · obtain ⟨l2, ob, e1, _, _, e2⟩ := FlOk.own_at o h
      rw [e] at e1
      cases e1
      exact e2
  have l1 : (puN ns x).length = (puL ns vs x y).length := puL_len el
  have l2 : (puL ns fs x g).length = (puL ns vs x y).length := by rw [← l1, puL_len (fs := fs) (g := g) (by omega)]
  have get : ∀ (i : Nat) (f : Fl) (u : V), (puL ns fs x g)[i]? = some f → (puL ns vs x y)[i]? = some u → (f = g ∧ u = y ∧ i = puI ns x) ∨ (fs[i]? = some f ∧ vs[i]? = some u ∧ i ≠ puI ns x) := fun i f u h1 h2 => by
    rw [puL_at (by omega)] at h1
    rw [puL_at el] at h2
    by_cases q : i = puI ns x
    · rw [if_pos q] at h1 h2
      cases h1
      cases h2
      exact .inl ⟨rfl, rfl, q⟩
    · rw [if_neg q] at h1 h2
      exact .inr ⟨h1, h2, q⟩
  have some_of : ∀ (i : Nat) (f : Fl) (l : Addr), fs[i]? = some f → f.isOwn = true → vs[i]? = some (.ref l) → ∃ ob, H l = some ob := fun i f l h1 o h2 => by
    obtain ⟨l2, ob, e1, e2, _⟩ := FlOk.own_at o (hf i f _ h1 h2)
    cases e1
    exact ⟨ob, e2⟩
  have isRef : ∀ (f : Fl) (u : V), f.isOwn = true → FlOk K mg H0 F1 (upd H1 a (.ins C dx (putF x y (ns.zip vs)))) f u → ∃ l, u = .ref l := fun f u o h => by
    obtain ⟨l, _, e, _⟩ := FlOk.own_at o h
    exact ⟨l, e⟩
  refine ⟨⟨a, C, dx, puL ns vs x y, rfl, ec, by rw [upd_same, putF_zip el], l1, l2, (show F1 a = none by
    cases z : F1 a with
    | none => rfl
    | some w =>
      rcases xe.new a w z with y2 | y2
      · rw [ef] at y2; cases y2
      · rw [eh] at y2; cases y2), e0, fun i f u h1 h2 => ?_, fun i j f f' u h1 h2 o o' h3 h4 => ?_⟩, fun l q => ?_⟩
  · rcases get i f u h1 h2 with ⟨rfl, rfl, _⟩ | ⟨h3, h4, _⟩
    · exact gnew
    · exact old i f u h3 h4
  · rcases get i f u h1 h3 with ⟨rfl, rfl, q1⟩ | ⟨g1, g2, q1⟩
    · rcases get j f' _ h2 h4 with ⟨_, _, q2⟩ | ⟨g3, g4, _⟩
      · rw [q1, q2]
      · obtain ⟨l, e⟩ := isRef f u o gnew
        obtain ⟨ob, e2⟩ := some_of j f' l g3 o' (by rw [g4, e])
        rw [fresh l o e] at e2
        cases e2
    · rcases get j f' u h2 h4 with ⟨rfl, rfl, q2⟩ | ⟨g3, g4, _⟩
      · obtain ⟨l, e⟩ := isRef f' u o' gnew
        obtain ⟨ob, e2⟩ := some_of i f l g1 o (by rw [g2, e])
        rw [fresh l o' e] at e2
        cases e2
      · exact hi i j f f' u g1 g3 o o' g2 g4
  · rcases q with q | ⟨a2, C2, dx2, vs2, i, f, q1, q2, q3, q4, q5, q6⟩
    · exact .inl (Or.inl q)
    · cases q1
      rw [upd_same, putF_zip el] at q2
      injection q2 with q2
      injection q2 with _ _ q2
      have := zip_snd l1 q3 q2
      subst this
      rcases get i f _ q4 q6 with ⟨rfl, e, _⟩ | ⟨g1, g2, _⟩
      · exact .inr (fresh l q5 e.symm)
      · exact .inl (Or.inr ⟨a, C, dx, vs, i, f, rfl, eh, el, g1, q5, g2⟩)
end
def OCf (K : PySem.W.Frag) (mg : Str → Option Value) (c : Str) (xs : List Str) : Prop := ∃ C, mg c = some (.ref C) ∧ Cls K C ∧ ∀ x ∈ xs, NoAttr K C x
def eFld (i : Nat) (c x : Str) : DL.Env → R D := fun Γ => match Env.at_ Γ i with
  | some (.oob _ c' ns fs) => if c' = c then (match lkF ns fs x with
    | some (.val d) => .ok d
    | _ => .stuck) else .stuck
  | _ => .stuck
def sFldV (i : Nat) (c x : Str) (f : DL.Env → R D) : DL.Env → Out := fun Γ => (f Γ).out Γ fun d => match Env.at_ Γ i with
  | some (.oob b c' ns fs) => if c' = c ∧ ns.length < 900 then .nx (Γ.set i (some (.oob b c (puN ns x) (puL ns fs x (.val d))))) else .stuck
  | _ => .stuck
def sFldO (i : Nat) (c x : Str) (f : DL.Env → R (List D)) : DL.Env → Out := fun Γ => (f Γ).out Γ fun ds => match Env.at_ Γ i with
  | some (.oob b c' ns fs) => if c' = c ∧ ns.length < 900 then .nx (Γ.set i (some (.oob b c (puN ns x) (puL ns fs x (.own ds))))) else .stuck
  | _ => .stuck
def sExtF (i : Nat) (c x : Str) (f : DL.Env → R (List D)) : DL.Env → Out := fun Γ => match Env.at_ Γ i with
  | some (.oob b c' ns fs) => if c' = c then (match lkF ns fs x with
    | some (.own ds) => (f Γ).out Γ fun es => if ds.length + es.length ≤ LIM then .nx (Γ.set i (some (.oob b c ns (puL ns fs x (.own (ds ++ es)))))) else .stuck
    | _ => .stuck) else .stuck
  | _ => .stuck
def sRetF (i : Nat) (c x : Str) : DL.Env → Out := fun Γ => match Env.at_ Γ i with
  | some (.oob _ c' ns fs) => if c' = c then (match lkF ns fs x with
    | some (.own ds) => .ro ds
    | _ => .stuck) else .stuck
  | _ => .stuck
section
variable {X : Cx} {W : WX} {c x y : Str} {xs : List Str} {e : Expr} {f : DL.Env → R D} {fo : DL.Env → R (List D)} {p1 p2 pos cpos : Pos}
theorem de_fld (i : Nat) (h : OCf X.K X.mg c xs) (hx : x ∈ xs) (hN : X.N[i]? = some y := by rfl) (hv : Vis X.env.scope y := by first | exact Or.inl (by kernel_rfl) | exact Or.inr (Or.inl (by kernel_rfl)) | exact Or.inr (Or.inr (by kernel_rfl))) (hd : (y == ("__debug__" : Str)) = false := by kernel_rfl)
    (hcd : (y == ("__classdict__" : Str)) = false := by kernel_rfl) (hb : attributeBase (.Name y p1) x X.env (eval (.Name y p1) X.env) = eval (.Name y p1) X.env := by rfl) : DE X W (.Attribute (.Name y p1) x pos) (eFld i c x) := by
  obtain ⟨C, hm, hc, hn⟩ := h
  refine PE.weak (pe_fld (pe_var hN hv hd hcd) hb) ?_
  rintro σ H Q ⟨F0, H0, F, Γ, r, p⟩
  revert p
  unfold eFld
  cases ei : Env.at_ Γ i with
  | none => exact fun p => p.elim
  | some s =>
    cases s with
    | hdc _ _ _ => exact fun p => p.elim
    | abs _ _ => exact fun p => p.elim
    | val d => exact fun p => p.elim
    | own ds => exact fun p => p.elim
    | dic ks ds => exact fun p => p.elim
    | hnd _ _ => exact fun p => p.elim
    | oob b c' ns fs =>
      intro p0
      obtain ⟨q, p⟩ := ifR p0
      clear p0
      subst q
      cases ek : lkF ns fs x with
      | none => rw [ek] at p; exact p.elim
      | some g =>
        rw [ek] at p
        cases g with
        | own ds => exact p.elim
        | dic ks ds => exact p.elim
        | val d =>
          obtain ⟨v, h1, a, C', dx, vs, ev, ec, eh, el, el2, ef, e0, hf, hi⟩ := r.slot i _ (at_get ei)
          rw [hm] at ec
          cases ec
          obtain ⟨u, g1, g2, g3⟩ := lkF_get el el2 ek
          have hu : Rp X.K X.mg F d u := hf _ _ _ g1 g2
          exact ⟨v, h1, a, C, dx, ns.zip vs, u, ev, eh, hc, hn x hx, g3, PostG.ok p r.fz hu⟩
theorem ds_fldV (i : Nat) (h : OCf X.K X.mg c xs) (hx : x ∈ xs) (he : DE X W e f) (hN : X.N[i]? = some y := by rfl) (hv : Vis X.env.scope y := by first | exact Or.inl (by kernel_rfl) | exact Or.inr (Or.inl (by kernel_rfl)) | exact Or.inr (Or.inr (by kernel_rfl))) (hd : (y == ("__debug__" : Str)) = false := by kernel_rfl)
    (hcd : (y == ("__classdict__" : Str)) = false := by kernel_rfl) (hs : swapsWith e (some (.Attribute (.Name y p1) x p2)) pos.line X.env = pure false := by rfl) : DS X W (.Assign [.Attribute (.Name y p1) x p2] e pos) (sFldV i c x f) := by
  obtain ⟨C, hm, hc, hn⟩ := h
  refine PS.weak (ps_fld (pe_var hN hv hd hcd) he hs) ?_
  rintro Dn σ H ⟨F0, H0, F, Γ, r, p⟩
  refine ⟨F0, H0, F, Γ, r, PostS.out r p fun d w F1 H1 _ x1 r1 q1 => ?_⟩
  revert q1
  cases ei : Env.at_ Γ i with
  | none => exact fun p => p.elim
  | some s =>
    cases s with
    | hdc _ _ _ => exact fun p => p.elim
    | abs _ _ => exact fun p => p.elim
    | val d => exact fun p => p.elim
    | own ds => exact fun p => p.elim
    | dic ks ds => exact fun p => p.elim
    | hnd _ _ => exact fun p => p.elim
    | oob b c' ns fs =>
      intro q1
      have q1 : PostS X W F0 H0 Dn (if c' = c ∧ ns.length < 900 then .nx (Γ.set i (some (.oob b c (puN ns x) (puL ns fs x (.val d))))) else .stuck) := q1
      by_cases qq : c' = c ∧ ns.length < 900
      · rw [if_pos qq] at q1
        obtain ⟨rfl, ln⟩ := qq
        obtain ⟨v, h1, a, C', dx, vs, rfl, ec, eh, el, el2, ef, e0, hf, hi⟩ := r.slot i _ (at_get ei)
        rw [hm] at ec
        cases ec
        obtain ⟨k1, k2⟩ := ob_put (x := x) (g := .val d) (y := w) r.ext.hh hm eh el el2 ef e0 hf hi x1 r1 b b
        refine ⟨_, h1, a, C, dx, ns.zip vs, rfl, x1.hh _ _ eh, hc, hn x hx, by rw [List.length_zip]; omega, q1 _ F1 _ (r.mutX x1 (at_get ei) h1 (fun a' ob nf e2 => ?_) k1 k2 (by cases b <;> first | exact .inl rfl | exact .inr rfl))⟩
        rw [upd_ne fun z => nf (by rw [z]; exact Or.inl rfl)]
        exact e2
      · rw [if_neg qq] at q1
        exact q1.elim
theorem ds_fldO (i : Nat) (h : OCf X.K X.mg c xs) (hx : x ∈ xs) (he : DO X W e fo) (hN : X.N[i]? = some y := by rfl) (hv : Vis X.env.scope y := by first | exact Or.inl (by kernel_rfl) | exact Or.inr (Or.inl (by kernel_rfl)) | exact Or.inr (Or.inr (by kernel_rfl))) (hd : (y == ("__debug__" : Str)) = false := by kernel_rfl)
    (hcd : (y == ("__classdict__" : Str)) = false := by kernel_rfl) (hs : swapsWith e (some (.Attribute (.Name y p1) x p2)) pos.line X.env = pure false := by rfl) : DS X W (.Assign [.Attribute (.Name y p1) x p2] e pos) (sFldO i c x fo) := by
  obtain ⟨C, hm, hc, hn⟩ := h
  refine PS.weak (ps_fld (pe_var hN hv hd hcd) he hs) ?_
  rintro Dn σ H ⟨F0, H0, F, Γ, r, p⟩
  refine ⟨F0, H0, F, Γ, r, PostS.out r p fun ds w F1 H1 _ x1 r1 q1 => ?_⟩
  revert q1
  cases ei : Env.at_ Γ i with
  | none => exact fun p => p.elim
  | some s =>
    cases s with
    | hdc _ _ _ => exact fun p => p.elim
    | abs _ _ => exact fun p => p.elim
    | val d => exact fun p => p.elim
    | own ds => exact fun p => p.elim
    | dic ks ds => exact fun p => p.elim
    | hnd _ _ => exact fun p => p.elim
    | oob b c' ns fs =>
      intro q1
      have q1 : PostS X W F0 H0 Dn (if c' = c ∧ ns.length < 900 then .nx (Γ.set i (some (.oob b c (puN ns x) (puL ns fs x (.own ds))))) else .stuck) := q1
      by_cases qq : c' = c ∧ ns.length < 900
      · rw [if_pos qq] at q1
        obtain ⟨rfl, ln⟩ := qq
        obtain ⟨v, h1, a, C', dx, vs, rfl, ec, eh, el, el2, ef, e0, hf, hi⟩ := r.slot i _ (at_get ei)
        rw [hm] at ec
        cases ec
        obtain ⟨k1, k2⟩ := ob_put (x := x) (g := .own ds) (y := w) r.ext.hh hm eh el el2 ef e0 hf hi x1 r1 b b
        refine ⟨_, h1, a, C, dx, ns.zip vs, rfl, x1.hh _ _ eh, hc, hn x hx, by rw [List.length_zip]; omega, q1 _ F1 _ (r.mutX x1 (at_get ei) h1 (fun a' ob nf e2 => ?_) k1 k2 (by cases b <;> first | exact .inl rfl | exact .inr rfl))⟩
        rw [upd_ne fun z => nf (by rw [z]; exact Or.inl rfl)]
        exact e2
      · rw [if_neg qq] at q1
        exact q1.elim
end
end DL
namespace DL
open PySem PySem.Spec L2
section
variable {K : PySem.W.Frag} {mg : Str → Option Value} {F0 : Fe} {H0 F H F1 H1 H2 : Hp} {σ : L2.St} {Γ : DL.Env}
theorem ob_grow {c : Str} {ns : List Str} {fs : List Fl} {a C dx l : Addr} {vs ws : List V} {x : Str} {ds es : List D} (ec : mg c = some (.ref C)) (eh : H a = some (.ins C dx (ns.zip vs))) (el : ns.length = vs.length) (el2 : fs.length = vs.length) (ef : F a = none) (e0 : H0 a = none)
    (hf : ∀ (i : Nat) (f : Fl) (u : V), fs[i]? = some f → vs[i]? = some u → FlOk K mg H0 F H f u) (hi : ∀ (i j : Nat) (f g : Fl) (u : V), fs[i]? = some f → fs[j]? = some g → f.isOwn = true → g.isOwn = true → vs[i]? = some u → vs[j]? = some u → i = j)
    (xe : Ext F H F1 H1) (ek : lkF ns fs x = some (.own ds)) (gu : vs[puI ns x]? = some (.ref l)) (gf : fs[puI ns x]? = some (.own ds)) (rl : RpL K mg F1 es ws) (b b' : Bool) :
    SlotOk K mg H0 F1 (upd H1 l (.lst ws)) (.oob b c ns (puL ns fs x (.own es))) (.ref a) ∧ ∀ m, foot (upd H1 l (.lst ws)) (.oob b c ns (puL ns fs x (.own es))) (.ref a) m → foot H (.oob b' c ns fs) (.ref a) m ∨ H m = none := by
  have hk := hf _ _ _ gf gu
  obtain ⟨l', us, q1, q2, q3, q4, q5⟩ := hk
  cases q1
  have la : l ≠ a := fun z => by rw [z, eh] at q2; cases q2
  have kn := puN_in ek
  have ln : (puL ns fs x (.own es)).length = vs.length := by rw [← puL_len (x := x) (g := Fl.own es) (by omega), kn, el]
  have F1l : ∀ m, F m = none → (∃ ob, H m = some ob) → F1 m = none := fun m h ⟨ob, h2⟩ => by
    cases z : F1 m with
    | none => rfl
    | some w =>
      rcases xe.new m w z with y | y
      · rw [h] at y; cases y
      · rw [h2] at y; cases y
  have at_ : ∀ i, (puL ns fs x (.own es))[i]? = if i = puI ns x then some (.own es) else fs[i]? := fun i => puL_at (by omega)
  refine ⟨⟨a, C, dx, vs, rfl, ec, by rw [upd_ne (Ne.symm la)]; exact xe.hh _ _ eh, el, ln, F1l a ef ⟨_, eh⟩, e0, fun i f u h1 h2 => ?_, fun i j f f' u h1 h2 o o' h3 h4 => ?_⟩, fun m q => ?_⟩
  · rw [at_] at h1
    by_cases q : i = puI ns x
    · rw [if_pos q] at h1
      cases h1
      rw [q, gu] at h2
      cases h2
      exact ⟨l, ws, rfl, upd_same, F1l l q3 ⟨_, q2⟩, q4, rl⟩
    · rw [if_neg q] at h1
      have h := hf i f u h1 h2
      refine h.gen xe.ff (fun m o e => ?_) (fun m ob o e y => ?_) fun m o e => ?_
      · obtain ⟨l2, ob, e1, e2, e3, _⟩ := FlOk.own_at o h
        rw [e] at e1
        cases e1
        exact F1l m e3 ⟨_, e2⟩
      · rw [upd_ne fun z => q (hi i _ f _ u h1 gf o rfl h2 (by rw [gu, e, z]))]
        exact xe.hh m ob y
      · obtain ⟨l2, ob, e1, _, _, e2⟩ := FlOk.own_at o h
        rw [e] at e1
        cases e1
        exact e2
  · have old : ∀ (i : Nat) (f : Fl), (puL ns fs x (.own es))[i]? = some f → f.isOwn = true → ∃ f2, fs[i]? = some f2 ∧ f2.isOwn = true := fun i f h o => by
      rw [at_] at h
      by_cases q : i = puI ns x
      · exact ⟨_, by rw [q]; exact gf, rfl⟩
      · rw [if_neg q] at h
        exact ⟨f, h, o⟩
    obtain ⟨f2, g1, g2⟩ := old i f h1 o
    obtain ⟨f3, g3, g4⟩ := old j f' h2 o'
    exact hi i j f2 f3 u g1 g3 g2 g4 h3 h4
  · left
    rcases q with q | ⟨a2, C2, dx2, vs2, i, f, q1, q2', q3', q4', q5', q6⟩
    · exact Or.inl q
    · cases q1
      rw [upd_ne (Ne.symm la), xe.hh _ _ eh] at q2'
      injection q2' with q2'
      injection q2' with _ _ q2'
      have := zip_snd el q3' q2'
      subst this
      rw [at_] at q4'
      by_cases z : i = puI ns x
      · exact Or.inr ⟨a, C, dx, vs, i, _, rfl, eh, el, by rw [z]; exact gf, rfl, q6⟩
      · rw [if_neg z] at q4'
        exact Or.inr ⟨a, C, dx, vs, i, f, rfl, eh, el, q4', q5', q6⟩
end
section
variable {X : Cx} {W : WX} {c x y : Str} {xs : List Str} {e : Expr} {f : DL.Env → R D} {fo : DL.Env → R (List D)} {p1 p2 p3 pos cpos : Pos}
theorem ds_extF (i : Nat) (h : OCf X.K X.mg c xs) (hx : x ∈ xs) (he : DO X W e fo) (hN : X.N[i]? = some y := by rfl) (hv : Vis X.env.scope y := by first | exact Or.inl (by kernel_rfl) | exact Or.inr (Or.inl (by kernel_rfl)) | exact Or.inr (Or.inr (by kernel_rfl))) (hd : (y == ("__debug__" : Str)) = false := by kernel_rfl)
    (hcd : (y == ("__classdict__" : Str)) = false := by kernel_rfl) (hb : attributeBase (.Name y p1) x X.env (eval (.Name y p1) X.env) = eval (.Name y p1) X.env := by rfl) (hs1 : starEach [e] X.env = (false, eval e X.env) :: starEach [] X.env := by rfl) (hline : (p2.endLine == cpos.line) = true := by rfl)
    (hb2 : attributeBase (.Attribute (.Name y p1) x p3) "extend" X.env (eval (.Attribute (.Name y p1) x p3) X.env) = eval (.Attribute (.Name y p1) x p3) X.env := by rfl)
    (hfew : ((backTo cpos (starEach [e] X.env)).all (fun x => !x.1) && (backToKw cpos (keywordEach [] X.env)).all (fun x => x.1.isSome)
      && decide (([e] : List Expr).length + ([] : List Keyword).length + (if ([] : List Keyword).isEmpty then 0 else 1) < 30)) = true := by rfl)
    (hs : swapsWith (.Call (.Attribute (.Attribute (.Name y p1) x p3) "extend" p2) [e] [] cpos) none pos.line X.env = pure false := by rfl) :
    DS X W (.Expr (.Call (.Attribute (.Attribute (.Name y p1) x p3) "extend" p2) [e] [] cpos) pos) (sExtF i c x fo) := by
  obtain ⟨C, hm, hc, hn⟩ := h
  refine PS.weak (ps_expr (pe_bm PySem.F.plainAttrs_list PySem.F.slot_list_extend PySem.F.type_list_extend mt_extend (pe_fld (pe_var hN hv hd hcd) hb) (pa_cons he pa_nil hs1) hb2 hfew hline hs1) hs) ?_
  rintro Dn σ H ⟨F0, H0, F, Γ, r, p⟩
  revert p
  unfold sExtF
  cases ei : Env.at_ Γ i with
  | none => exact fun p => p.elim
  | some s =>
    cases s with
    | hdc _ _ _ => exact fun p => p.elim
    | abs _ _ => exact fun p => p.elim
    | val d => exact fun p => p.elim
    | own ds => exact fun p => p.elim
    | dic ks ds => exact fun p => p.elim
    | hnd _ _ => exact fun p => p.elim
    | oob b c' ns fs =>
      intro p
      have p : PostS X W F0 H0 Dn (if c' = c then (match lkF ns fs x with
        | some (.own ds) => (fo Γ).out Γ fun es => if ds.length + es.length ≤ LIM then .nx (Γ.set i (some (.oob b c ns (puL ns fs x (.own (ds ++ es)))))) else .stuck
        | _ => .stuck) else .stuck) := p
      by_cases qq : c' = c
      · subst qq
        rw [if_pos rfl] at p
        cases ek : lkF ns fs x with
        | none => rw [ek] at p; exact p.elim
        | some g =>
          rw [ek] at p
          cases g with
          | val d => exact p.elim
          | dic ks ds => exact p.elim
          | own ds =>
            have p : PostS X W F0 H0 Dn ((fo Γ).out Γ fun es => if ds.length + es.length ≤ LIM then .nx (Γ.set i (some (.oob b c' ns (puL ns fs x (.own (ds ++ es)))))) else .stuck) := p
            obtain ⟨v, h1, a, C', dx, vs, rfl, ec, eh, el, el2, ef, e0, hf, hi⟩ := r.slot i _ (at_get ei)
            rw [hm] at ec
            cases ec
            obtain ⟨u, g1, g2, g3⟩ := lkF_get el el2 ek
            obtain ⟨l, us, rfl, k2, k3, k4, k5⟩ := hf _ _ _ g1 g2
            refine ⟨_, h1, a, C, dx, ns.zip vs, .ref l, rfl, eh, hc, hn x hx, g3, .inl ⟨rfl, _, SqL.of k2⟩, F0, H0, F, Γ, r, PostS.out r p fun es w F1 H1 _ x1 r1 p1 => ?_⟩
            obtain ⟨m, zs, rfl, z1, z2, z3, z4⟩ := r1
            by_cases hl : ds.length + es.length ≤ LIM
            · rw [if_pos hl] at p1
              have k5' := RpL.mono x1.ff _ _ k5
              obtain ⟨o1, o2⟩ := ob_grow (l := l) (ws := us ++ zs) (es := ds ++ es) hm eh el el2 ef e0 hf hi x1 ek g2 g1 (RpL.append k5' z4) b b
              refine ⟨l, m, us, zs, rfl, rfl, x1.hh _ _ k2, z1, by rw [← k5.length, ← z4.length, LIM_eq]; exact hl, p1 _ F1 _ (r.mutX x1 (at_get ei) h1 (fun a' ob nf e2 => ?_) o1 o2 (by cases b <;> first | exact .inl rfl | exact .inr rfl))⟩
              rw [upd_ne fun z => nf (by rw [z]; exact Or.inr ⟨a, C, dx, vs, _, _, rfl, eh, el, g1, rfl, g2⟩)]
              exact e2
            · rw [if_neg hl] at p1
              exact p1.elim
      · rw [if_neg qq] at p
        exact p.elim
theorem ds_retF (i : Nat) (h : OCf X.K X.mg c xs) (hx : x ∈ xs) (hN : X.N[i]? = some y := by rfl) (hv : Vis X.env.scope y := by first | exact Or.inl (by kernel_rfl) | exact Or.inr (Or.inl (by kernel_rfl)) | exact Or.inr (Or.inr (by kernel_rfl))) (hd : (y == ("__debug__" : Str)) = false := by kernel_rfl)
    (hcd : (y == ("__classdict__" : Str)) = false := by kernel_rfl) (hb : attributeBase (.Name y p1) x X.env (eval (.Name y p1) X.env) = eval (.Name y p1) X.env := by rfl) : DS X W (.Return (some (.Attribute (.Name y p1) x p2)) pos) (sRetF i c x) := by
  obtain ⟨C, hm, hc, hn⟩ := h
  refine PS.weak (ps_ret (pe_fld (pe_var hN hv hd hcd) hb)) ?_
  rintro Dn σ H ⟨F0, H0, F, Γ, r, p⟩
  revert p
  unfold sRetF
  cases ei : Env.at_ Γ i with
  | none => exact fun p => p.elim
  | some s =>
    cases s with
    | hdc _ _ _ => exact fun p => p.elim
    | abs _ _ => exact fun p => p.elim
    | val d => exact fun p => p.elim
    | own ds => exact fun p => p.elim
    | dic ks ds => exact fun p => p.elim
    | hnd _ _ => exact fun p => p.elim
    | oob b c' ns fs =>
      intro p
      have p : PostS X W F0 H0 Dn (if c' = c then (match lkF ns fs x with
        | some (.own ds) => .ro ds
        | _ => .stuck) else .stuck) := p
      by_cases qq : c' = c
      · subst qq
        rw [if_pos rfl] at p
        cases ek : lkF ns fs x with
        | none => rw [ek] at p; exact p.elim
        | some g =>
          rw [ek] at p
          cases g with
          | val d => exact p.elim
          | dic ks ds => exact p.elim
          | own ds =>
            obtain ⟨v, h1, a, C', dx, vs, rfl, ec, eh, el, el2, ef, e0, hf, hi⟩ := r.slot i _ (at_get ei)
            rw [hm] at ec
            cases ec
            obtain ⟨u, g1, g2, g3⟩ := lkF_get el el2 ek
            have p : PostS X W F0 H0 Dn (.ro ds) := p
            exact ⟨_, h1, a, C, dx, ns.zip vs, u, rfl, eh, hc, hn x hx, g3, p u F H r.ext (hf _ _ _ g1 g2)⟩
      · rw [if_neg qq] at p
        exact p.elim
end
def spM (K : PySem.W.Frag) (mg : Str → Option Value) (c : Str) (n : Nat) (mf : OB → List D → R OB) : Sp := fun vs H Q E => ∃ F Hr ob ds v us, vs = v :: us ∧ ds.length = n ∧ Fz F H ∧ Same Hr H ∧ ObOk K mg Hr F H c ob.1 ob.2 v ∧ RpL K mg F ds us ∧
  (match mf ob ds with
  | .ok ob' => ∀ F' H', Ext F Hr F' H' → ObOk K mg Hr F' H' c ob'.1 ob'.2 v → Q .non H'
  | .exc x => ∀ cls od F' H', Ext F Hr F' H' → RpX K mg F' x cls od → E cls od H'
  | .stuck => False)
def KnS (P : Program) (w : World) (K : PySem.W.Frag) (mg : Str → Option Value) (base : Heap) (k : Nat) (c m : Str) (n : Nat) (mf : OB → List D → R OB) : Prop :=
  ∃ C f fd ps, mg c = some (.ref C) ∧ Cls K C ∧ Meth K C m f ∧ Binds K fd ps [] ∧ FnOk P w K mg base (L2.CX P w) k f fd ps (spM K mg c n mf)
def sMeth (i : Nat) (c m : Str) (n : Nat) (mf : OB → List D → R OB) (fs : DL.Env → R (List D)) : DL.Env → Out := fun Γ => match Env.at_ Γ i with
  | some (.oob b c' ns gs) => if c' = c ∧ m ∉ ns then (fs Γ).out Γ fun ds => if ds.length = n then (match mf (ns, gs) ds with
    | .ok ob => .nx (Γ.set i (some (.oob b c ob.1 ob.2)))
    | .exc x => .exc x (Γ.set i none)
    | .stuck => .stuck) else .stuck else .stuck
  | _ => .stuck
section
variable {K : PySem.W.Frag} {mg : Str → Option Value} {F0 : Fe} {H0 F H F1 H1 H2 : Hp} {σ : L2.St} {Γ : DL.Env}
theorem Rel.drop (r : Rel K mg F0 H0 F H σ Γ) (i : Nat) : Rel K mg F0 H0 F H σ (Γ.set i none) := by
  have g : ∀ {j : Nat} {s : Slot}, (Γ.set i none)[j]? = some (some s) → Γ[j]? = some (some s) := fun {j s} e => by
    by_cases q : i = j
    · subst q
      have hi : i < Γ.length := by
        have := (List.getElem?_eq_some_iff.mp e).1
        rwa [List.length_set] at this
      rw [List.getElem?_set_self hi] at e
      cases e
    · rw [List.getElem?_set_ne q] at e
      exact e
  exact ⟨r.ext, by rw [List.length_set]; exact r.len, fun j s e => r.slot j s (g e), fun j k s t u w l ej ek hj hk os ot => r.inj j k s t u w l (g ej) (g ek) hj hk os ot, fun j s k v e1 tk e2 => r.slf j s k v (g e1) tk e2⟩
theorem Rel.callX (r : Rel K mg F0 H0 F H σ Γ) {i : Nat} {s : Slot} {v : V} (ei : Γ[i]? = some (some s)) (hv : σ[i]? = some (some v)) (x : Ext F (hole H s v) F1 H1) : Rel K mg F0 H0 F1 H1 σ (Γ.set i none) := by
  obtain ⟨v', hv', sv⟩ := r.slot i s ei
  rw [hv] at hv'
  cases hv'
  have g : ∀ {j : Nat} {t : Slot}, (Γ.set i none)[j]? = some (some t) → i ≠ j ∧ Γ[j]? = some (some t) := fun {j t} e => by
    by_cases q : i = j
    · subst q
      have hi : i < Γ.length := (List.getElem?_eq_some_iff.mp ei).1
      rw [List.getElem?_set_self hi] at e
      cases e
    · rw [List.getElem?_set_ne q] at e
      exact ⟨q, e⟩
  have off : ∀ (j : Nat) (t : Slot) (u : V) (l : Addr), i ≠ j → Γ[j]? = some (some t) → σ[j]? = some (some u) → foot H t u l → ¬ foot H s v l := fun j t u l q ej hj f1 f2 => q (r.inj i j s t v u l ei ej hv hj f2 f1)
  have keep : ∀ (j : Nat) (t : Slot) (u : V) (l : Addr) (ob : HO), i ≠ j → Γ[j]? = some (some t) → σ[j]? = some (some u) → foot H t u l → H l = some ob → H1 l = some ob := fun j t u l ob q ej hj f1 e => x.hh l ob (by rw [hole_out (off j t u l q ej hj f1)]; exact e)
  have back : ∀ (j : Nat) (t : Slot) (u : V) (l : Addr), i ≠ j → Γ[j]? = some (some t) → σ[j]? = some (some u) → foot H1 t u l → foot H t u l := fun j t u l q ej hj f1 => by
    obtain ⟨w, h1, h2⟩ := r.slot j t ej
    rw [hj] at h1
    cases h1
    exact foot_gen h2 (fun l2 ob q2 e => keep j t _ l2 ob q ej hj q2 e) f1
  refine ⟨⟨r.ext.ff.trans x.ff, x.fh, fun a u e => ?_, fun a u e => ?_⟩, by rw [List.length_set]; exact r.len, fun j t e => ?_, fun j k t t' u w l ej ek hj hk os ot => ?_, fun j s k v e1 tk e2 => r.slf j s k v (g e1).2 tk e2⟩
  · refine x.hh a u ?_
    rw [hole_out fun q => by
      obtain ⟨_, _, _, z⟩ := foot_at sv q
      rw [e] at z
      cases z]
    exact r.ext.hh a u e
  · rcases x.new a u e with z | z
    · exact r.ext.new a u z
    · rcases hole_none z with y | y
      · exact .inr (foot_at sv y).choose_spec.2.2
      · exact .inr (r.ext.hh.free y)
  · obtain ⟨q, e⟩ := g e
    obtain ⟨w, h1, h2⟩ := r.slot j t e
    refine ⟨w, h1, h2.gen x.ff (fun l z => ?_) (fun l ob z e2 => keep j t w l ob q e h1 z e2) (fun l z => (foot_at h2 z).choose_spec.2.2)⟩
    obtain ⟨ob, e1, e2, e3⟩ := foot_at h2 z
    cases y : F1 l with
    | none => rfl
    | some o =>
      rcases x.new l o y with y2 | y2
      · rw [e2] at y2; cases y2
      · rw [hole_out (off j t w l q e h1 z), e1] at y2; cases y2
  · obtain ⟨qj, ej⟩ := g ej
    obtain ⟨qk, ek⟩ := g ek
    exact r.inj j k t t' u w l ej ek hj hk (back j t u l qj ej hj os) (back k t' w l qk ek hk ot)
end
section
variable {X : Cx} {W : WX} {j k n : Nat} {c m y : Str} {e : Expr} {es : List Expr} {p1 pos cpos apos : Pos} {fs : DL.Env → R (List D)} {mf : OB → List D → R OB}
theorem ds_meth (i : Nat) {pl : Sem Bool} (h : KnS X.prog X.w X.K X.mg X.base j c m n mf) (hr : Room k X.A) (ha : DA X W (e :: es) fs) (hx : OkW X W) (hj : j ≤ k := by decide) (hN : X.N[i]? = some y := by rfl) (hv : Vis X.env.scope y := by first | exact Or.inl (by kernel_rfl) | exact Or.inr (Or.inl (by kernel_rfl)) | exact Or.inr (Or.inr (by kernel_rfl))) (hd : (y == ("__debug__" : Str)) = false := by kernel_rfl)
    (hcd : (y == ("__classdict__" : Str)) = false := by kernel_rfl)
    (hst : starEach (e :: es) X.env = (false, eval e X.env) :: starEach es X.env := by rfl) (hpl : (backTo cpos (starEach es X.env)).any (·.1) = false := by rfl)
    (ht : eval (.Call (.Attribute (.Name y p1) m apos) (e :: es) [] cpos) X.env = (do
      let ov ← eval (.Name y p1) X.env
      standAt apos.atName
      let (f, first) ← holding [ov] (getMethod ov m pl)
      callWith cpos f first (backTo cpos (starEach (e :: es) X.env)) (backToKw cpos (keywordEach [] X.env))) := by rfl)
    (hs : swapsWith (.Call (.Attribute (.Name y p1) m apos) (e :: es) [] cpos) none pos.line X.env = pure false := by rfl) :
    DS X W (.Expr (.Call (.Attribute (.Name y p1) m apos) (e :: es) [] cpos) pos) (sMeth i c m n mf fs) := by
  obtain ⟨C, f, fd, ps, hm, hc, hme, hb, G⟩ := h
  refine PS.weak (ps_expr (HO.pe_methD (W := W) (pl := pl) (pe_var hN hv hd hcd) hr hx ha hst hpl ht) hs) ?_
  rintro Dn σ H ⟨F0, H0, F, Γ, r, p⟩
  revert p
  unfold sMeth
  cases ei : Env.at_ Γ i with
  | none => exact fun p => p.elim
  | some s =>
    cases s with
    | hdc _ _ _ => exact fun p => p.elim
    | abs _ _ => exact fun p => p.elim
    | val d => exact fun p => p.elim
    | own ds => exact fun p => p.elim
    | dic ks ds => exact fun p => p.elim
    | hnd _ _ => exact fun p => p.elim
    | oob b c' ns gs =>
      intro p
      have p : PostS X W F0 H0 Dn (if c' = c ∧ m ∉ ns then (fs Γ).out Γ fun ds => if ds.length = n then (match mf (ns, gs) ds with
        | .ok ob => .nx (Γ.set i (some (.oob b c ob.1 ob.2)))
        | .exc x => .exc x (Γ.set i none)
        | .stuck => .stuck) else .stuck else .stuck) := p
      by_cases qq : c' = c ∧ m ∉ ns
      · rw [if_pos qq] at p
        obtain ⟨rfl, nm⟩ := qq
        obtain ⟨v, h1, sv⟩ := r.slot i _ (at_get ei)
        have sv0 := sv
        obtain ⟨a, C', dx, vs, rfl, ec, eh, el, el2, ef, e0, hf, hi⟩ := sv
        rw [hm] at ec
        cases ec
        refine ⟨_, h1, a, C, dx, ns.zip vs, f, fd, ps, _, rfl, eh, zip_none nm, hc, hme, hb, G.mono hj, F0, H0, F, Γ, r, PostS.out r p fun ds us F1 H1 _ x1 r1 p1 => ?_⟩
        by_cases hl : ds.length = n
        · rw [if_pos hl] at p1
          have rl1 := r.step x1
          have sv1 := sv0.ext x1
          have svh : SlotOk X.K X.mg (hole H1 (.oob b c' ns gs) (.ref a)) F1 H1 (.oob b c' ns gs) (.ref a) := sv1.gen (Same.refl _) (fun l q => (foot_at sv1 q).choose_spec.2.1) (fun l ob _ q => q) fun l q => hole_in q
          refine ⟨F1, hole H1 (.oob b c' ns gs) (.ref a), (ns, gs), ds, .ref a, us, rfl, hl, x1.fh, hole_same _ _, svh, r1, ?_⟩
          revert p1
          cases mf (ns, gs) ds with
          | stuck => exact fun p => p
          | ok ob =>
            intro p1 F2 H2 x2 o2
            exact p1 σ F2 H2 (rl1.call (at_get ei) h1 x2 (s' := .oob b c' ob.1 ob.2) o2 (by cases b <;> first | exact .inl rfl | exact .inr rfl))
          | exc x =>
            intro p1 cls od F2 H2 x2 rx
            exact p1 cls od σ F2 H2 (rl1.callX (at_get ei) h1 x2) rx
        · rw [if_neg hl] at p1
          exact p1.elim
      · rw [if_neg qq] at p
        exact p.elim
end
def mkM (N : Nat) (c : Str) (g : DL.Env → Out) : OB → List D → R OB := fun ob ds => match g (some (.oob true c ob.1 ob.2) :: stE N ds) with
  | .nx Γ => (match Env.at_ Γ 0 with
    | some (.oob true c' ns fs) => if c' = c then .ok (ns, fs) else .stuck
    | _ => .stuck)
  | .exc x _ => .exc x
  | _ => .stuck
section
variable {P : Program} {w : World} {K : PySem.W.Frag} {mg : Str → Option Value} {base : Heap} {x qual c : Str} {params : Arguments} {body : List Stmt} {scope : Scope} {f : Addr} {fd : FuncData} {N ps : List Str} {k : Nat} {g : DL.Env → Out}
theorem spM_len {n : Nat} {mf : OB → List D → R OB} {vs : List V} {H : Hp} {Q : VK} {E : XK} (h : spM K mg c n mf vs H Q E) : vs.length = n + 1 := by
  obtain ⟨F, Hr, ob, ds, v, us, rfl, l, _, _, _, r, _⟩ := h
  rw [List.length_cons, ← r.length, l]
theorem start_relM {F Hr H : Hp} {ns : List Str} {fs : List Fl} {s N0 : Str} {N' : List Str} {ds : List D} {v : V} {us : List V} (z : Fz F H) (sm : Same Hr H) (o : ObOk K mg Hr F H c ns fs v) (r : RpL K mg F ds us) (hl : ds.length ≤ N'.length) :
    Rel K mg ⟨F, fun _ => v⟩ Hr F H (L2.start (N0 :: N') (v :: us)) (some (.oob true c ns fs) :: stE N'.length ds) := by
  have r0 := start_rel (sv := fun _ => v) z r hl
  have es : L2.start (N0 :: N') (v :: us) = some v :: L2.start N' us := by
    unfold L2.start
    simp
  rw [es]
  refine ⟨⟨Same.refl _, z, sm, fun _ _ e => .inl e⟩, by rw [List.length_cons, List.length_cons, r0.len], fun i t e => ?_, fun i j t t' u w l ei ej hi hj os ot => ?_, fun i t k u e1 tk e2 => ?_⟩
  · cases i with
    | zero =>
      cases e
      exact ⟨v, rfl, o⟩
    | succ i =>
      obtain ⟨u, h1, h2⟩ := r0.slot i t (by simpa using e)
      refine ⟨u, by simpa using h1, ?_⟩
      have hd : ∃ d, t = .val d := by
        have e : (stE N'.length ds)[i]? = some (some t) := by simpa using e
        unfold stE at e
        by_cases hi : i < ds.length
        · rw [List.getElem?_append_left (by simpa using hi), List.getElem?_map] at e
          cases ed : ds[i]? with
          | none => rw [ed] at e; cases e
          | some d => rw [ed] at e; cases e; exact ⟨d, rfl⟩
        · rw [List.getElem?_append_right (by simpa using hi), List.getElem?_replicate] at e
          split at e <;> cases e
      obtain ⟨d, rfl⟩ := hd
      exact h2
  · have nf : ∀ (i : Nat) (t : Slot) (u : V), (some (Slot.oob true c ns fs) :: stE N'.length ds)[i + 1]? = some (some t) → ¬ foot H t u l := fun i t u e q => by
      have e : (stE N'.length ds)[i]? = some (some t) := by simpa using e
      unfold stE at e
      by_cases hi : i < ds.length
      · rw [List.getElem?_append_left (by simpa using hi), List.getElem?_map] at e
        cases ed : ds[i]? with
        | none => rw [ed] at e; cases e
        | some d => rw [ed] at e; cases e; exact q
      · rw [List.getElem?_append_right (by simpa using hi), List.getElem?_replicate] at e
        split at e <;> cases e
    cases i with
    | zero =>
      cases j with
      | zero => rfl
      | succ j => exact (nf j t' w ej ot).elim
    | succ i => exact (nf i t u ei os).elim
  · cases i with
    | zero => cases e2; rfl
    | succ i => exact r0.slf i t k u (by simpa using e1) tk (by simpa using e2)
theorem fn_okM {N0 : Str} {N' : List Str} (Fd : FunD K x qual params body scope [] [] f fd) (S : FnScope (N0 :: N') ps scope) (hp : 1 ≤ ps.length) (hl : ps.length ≤ (N0 :: N').length)
    (hb : ∀ (cdv : Value) (A : Around) (outer : List PySem.Env) (s : Shared) (H : Hp) (E : XK), Room k (A.deeper (PyProof.Rows.envOfC qual scope s.heap.objs.size f cdv)) → DSs (cxOf (L2.CX P w) P w K mg base (N0 :: N') qual scope f cdv A outer s H E) (WOf E) body g) :
    FnOk P w K mg base (L2.CX P w) (k + 1) f fd ps (spM K mg c (ps.length - 1) (mkM N'.length c g)) := by
  refine Fd.ok S (fun vs H Q E h => by rw [spM_len h]; omega) fun cdv A outer s H vs Q E hr h => ?_
  obtain ⟨F, Hr, ob, ds, v, us, rfl, l, z, sm, o, r, p⟩ := h
  refine ⟨_, hb cdv A outer s H E hr, ⟨F, fun _ => v⟩, Hr, F, some (.oob true c ob.1 ob.2) :: stE N'.length ds, start_relM (s := N0) z sm o r (by simp at hl; omega), ?_⟩
  revert p
  unfold mkM
  cases g (some (.oob true c ob.1 ob.2) :: stE N'.length ds) with
  | nx Γ =>
    intro p σ F1 H1 r1
    revert p
    dsimp only
    cases ei : Env.at_ Γ 0 with
    | none => exact fun p => p.elim
    | some s =>
      cases s with
      | hdc _ _ _ => exact fun p => p.elim
      | abs _ _ => exact fun p => p.elim
      | val d => exact fun p => p.elim
      | own ds => exact fun p => p.elim
      | dic ks ds => exact fun p => p.elim
      | hnd _ _ => exact fun p => p.elim
      | oob b c' ns fs =>
        cases b with
        | false => exact fun p => p.elim
        | true =>
          intro p
          by_cases q : c' = c
          · subst q
            have p : (match (if c' = c' then R.ok (ns, fs) else R.stuck : R OB) with
              | .ok ob' => ∀ F' H', Ext F Hr F' H' → ObOk K mg Hr F' H' c' ob'.1 ob'.2 v → Q .non H'
              | .exc x => ∀ cls od F' H', Ext F Hr F' H' → RpX K mg F' x cls od → E cls od H'
              | .stuck => False) := p
            rw [if_pos rfl] at p
            obtain ⟨u, h1, h2⟩ := r1.slot 0 _ (at_get ei)
            have eu := r1.slf 0 _ 0 u (at_get ei) rfl h1
            have eu : u = v := eu
            subst eu
            exact p F1 H1 r1.ext h2
          · have p : (match (if c' = c then R.ok (ns, fs) else R.stuck : R OB) with
              | .ok ob' => ∀ F' H', Ext F Hr F' H' → ObOk K mg Hr F' H' c ob'.1 ob'.2 v → Q .non H'
              | .exc x => ∀ cls od F' H', Ext F Hr F' H' → RpX K mg F' x cls od → E cls od H'
              | .stuck => False) := p
            rw [if_neg q] at p
            exact p.elim
  | exc x Γ => exact fun p cls od σ F1 H1 r1 q => p cls od F1 H1 r1.ext q
  | rt d => exact fun p => p.elim
  | rs d Γ => exact fun p => p.elim
  | ro ds => exact fun p => p.elim
  | bk Γ => exact fun p => p.elim
  | ct Γ => exact fun p => p.elim
  | stuck => exact fun p => p.elim
end
end DL
namespace DL
open PySem PySem.Spec L2
abbrev repBo (K : PySem.W.Frag) (mg : Str → Option Value) (c : Str) : Hp → Hp → Hp → OB → V → Prop := fun H F' H' ob v => ObOk K mg H F' H' c ob.1 ob.2 v
theorem upBo {K : PySem.W.Frag} {mg : Str → Option Value} {F H F' H' : Hp} {c : Str} (x : Ext F H F' H') (a' : OB) (b' : V) (F2 H2 : Hp) (h : repBo K mg c H' F2 H2 a' b') : repBo K mg c H F2 H2 a' b' := by
  have h : SlotOk K mg H' F2 H2 (.oob false c a'.1 a'.2) b' := h
  exact (h.gen (Same.refl _) (fun l q => (foot_at h q).choose_spec.2.1) (fun l ob _ q => q) fun l q => x.hh.free (foot_at h q).choose_spec.2.2 : SlotOk K mg H F2 H2 (.oob false c a'.1 a'.2) b')
def tDBo (X : Cx) (W : WX) (c : Str) (f : DL.Env → R OB) : TE := fun σ H Q => ∃ F0 H0 F Γ, Rel X.K X.mg F0 H0 F H σ Γ ∧ PostG X.K X.mg (repBo X.K X.mg c) F H (WE W σ) Q (f Γ)
abbrev DBo (X : Cx) (W : WX) (c : Str) (e : Expr) (f : DL.Env → R OB) : Prop := PE X e (tDBo X W c f)
def sSetB (i : Nat) (c : Str) (f : DL.Env → R OB) : DL.Env → Out := fun Γ => (f Γ).out Γ fun ob => .nx (Γ.set i (some (.oob false c ob.1 ob.2)))
def bNew (n : Nat) (mf : OB → List D → R OB) (fs : DL.Env → R (List D)) : DL.Env → R OB := fun Γ => (fs Γ).bind fun ds => if ds.length = n then (match mf ([], []) ds with
  | .ok ob => .ok ob
  | _ => .stuck) else .stuck
def bFn (n : Nat) (mf : List D → R OB) (fs : DL.Env → R (List D)) : DL.Env → R OB := fun Γ => (fs Γ).bind fun ds => if ds.length = n then mf ds else .stuck
def spB (K : PySem.W.Frag) (mg : Str → Option Value) (c : Str) (n : Nat) (mf : List D → R OB) : Sp := fun vs H Q E => ∃ F ds, ds.length = n ∧ Fz F H ∧ RpL K mg F ds vs ∧ PostG K mg (repBo K mg c) F H E Q (mf ds)
def KnB (P : Program) (w : World) (K : PySem.W.Frag) (mg : Str → Option Value) (base : Heap) (k : Nat) (x c : Str) (n : Nat) (mf : List D → R OB) : Prop :=
  ∃ (f : Addr) (fd : FuncData) (ps : List Str), mg x = some (.ref f) ∧ PySem.W.keepIn K (.ref f) = true ∧ Binds K fd ps [] ∧ FnOk P w K mg base (L2.CX P w) k f fd ps (spB K mg c n mf)
def KnI (P : Program) (w : World) (K : PySem.W.Frag) (mg : Str → Option Value) (base : Heap) (k : Nat) (c : Str) (n : Nat) (mf : OB → List D → R OB) : Prop :=
  ∃ C fI fd ps, mg c = some (.ref C) ∧ Mk K C fI ∧ Binds K fd ps [] ∧ FnOk P w K mg base (L2.CX P w) k fI fd ps (spM K mg c n mf)
section
variable {X : Cx} {W : WX} {j k n : Nat} {c x : Str} {e : Expr} {es : List Expr} {p pos : Pos} {fs : DL.Env → R (List D)} {f : DL.Env → R OB}
theorem ds_setB (i : Nat) {x : Str} (hN : X.N.Nodup) (he : DBo X W c e f) (hi : X.N[i]? = some x := by rfl) (hx : Loc X.env.scope x := by first | exact Or.inl (by kernel_rfl) | exact Or.inr (by kernel_rfl)) (hf : X.fn x = true ∨ X.env.scope.names.lookup x = some .local := by first | exact .inl rfl | exact .inr (by kernel_rfl) | exact .inl (by kernel_rfl))
    (hs : swapsWithSole [.Name x p] e pos.line X.env = pure false := by rfl) (hw : swappedStores [.Name x p] e X.env = pure none := by rfl)
    (h1 : (assignEach [.Name x p] X.env).map (·.2) = [assign (.Name x p) X.env] := by rfl) : DS X W (.Assign [.Name x p] e pos) (sSetB i c f) := by
  refine PS.weak (ps_asg he (pg_name hN hi hx hf) hs hw h1) ?_
  rintro Dn σ H ⟨F0, H0, F, Γ, r, p⟩
  exact ⟨F0, H0, F, Γ, r, PostS.out r p fun ob v F' H' _ x q p' => p' _ _ _ (r.setO x (s := .oob false c ob.1 ob.2) rfl q)⟩
theorem db_new {mf : OB → List D → R OB} (h : KnI X.prog X.w X.K X.mg X.base j c n mf) (hr : Room k X.A) (ha : DA X W (e :: es) fs) (hj : j + 1 ≤ k := by decide) (hg : Gl X c := by unfold L2.Gl; kernel_rfl) (hdb : (c == ("__debug__" : Str)) = false := by kernel_rfl)
    (he : starEach (e :: es) X.env = (false, eval e X.env) :: starEach es X.env := by rfl) (hpl : (backTo pos (starEach es X.env)).any (·.1) = false := by rfl) : DBo X W c (.Call (.Name c p) (e :: es) [] pos) (bNew n mf fs) := by
  obtain ⟨C, fI, fd, ps, hm, M, hb, G⟩ := h
  have hx : Passes (L2.CX X.prog X.w) X (fun _ _ _ => False) := fun _ _ _ _ _ _ _ h => by
    obtain ⟨_, _, _, _, _, _, _, _, _, _, _, _, z⟩ := h
    exact z.elim
  refine PE.weak (pe_make M G (hr.mono hj) hg hm hb .nil hx ha hdb he hpl) ?_
  rintro σ H Q ⟨F0, H0, F, Γ, r, p⟩
  refine ⟨F0, H0, F, Γ, r, PostG.bind p (fun ds vs F1 H1 _ x1 r1 p1 => ?_) upBo⟩
  obtain ⟨hl, p2⟩ := ifR p1
  intro a dx na nd ne
  rw [List.append_nil]
  have s1 : Same H1 (upd (upd H1 dx (.own a)) a (.ins C dx [])) := fun l o q => by
    rw [upd_ne (fun z => by rw [z, na] at q; cases q), upd_ne (fun z => by rw [z, nd] at q; cases q)]
    exact q
  have z1 : Fz F1 (upd (upd H1 dx (.own a)) a (.ins C dx [])) := fun l o q => by
    rcases x1.fh l o q with y | ⟨y1, ob, y2⟩
    · exact .inl (s1 _ _ y)
    · exact .inr ⟨y1, ob, s1 _ _ y2⟩
  refine ⟨F1, H1, ([], []), ds, .ref a, vs, rfl, hl, z1, s1, ⟨a, C, dx, [], rfl, hm, upd_same, rfl, rfl, x1.fh.free na, na, fun i f u h _ => by simp at h, fun i j f g u h _ _ _ _ => by simp at h⟩, r1, ?_⟩
  revert p2
  cases mf ([], []) ds with
  | stuck => exact fun p => p
  | exc x => exact fun p => p.elim
  | ok ob =>
    intro p2 F2 H2 x2 o2
    exact ⟨rfl, p2 _ F2 H2 ⟨x2.ff, x2.fh, x2.hh, x2.new⟩ o2⟩
theorem db_kn {mf : List D → R OB} (h : KnB X.prog X.w X.K X.mg X.base j x c n mf) (hr : Room k X.A) (ha : DA X W (e :: es) fs) (hx : OkW X W) (hg : Gl X x := by unfold L2.Gl; kernel_rfl) (hj : j ≤ k := by decide) (hdb : (x == ("__debug__" : Str)) = false := by kernel_rfl)
    (he : starEach (e :: es) X.env = (false, eval e X.env) :: starEach es X.env := by rfl) (hpl : (backTo pos (starEach es X.env)).any (·.1) = false := by rfl) :
    DBo X W c (.Call (.Name x p) (e :: es) [] pos) (bFn n mf fs) := by
  obtain ⟨f, fd, ps, hm, hk, hb, G⟩ := h
  refine PE.weak (pe_callSD G (hr.mono hj) hg hm hk hb .nil hx ha hdb he hpl) ?_
  rintro σ H Q ⟨F0, H0, F, Γ, r, p⟩
  refine ⟨F0, H0, F, Γ, r, PostG.bind p (fun ds vs F1 H1 _ x1 r1 p1 => ?_) upBo⟩
  obtain ⟨hl, p2⟩ := ifR p1
  rw [List.append_nil]
  exact ⟨F1, ds, hl, x1.fh, r1, p2⟩
end
def tB (X : Cx) (W : WX) (c : Str) (g : DL.Env → R OB) : TS := fun Dn σ H => ∃ F0 H0 F Γ, Rel X.K X.mg F0 H0 F H σ Γ ∧ (match g Γ with
  | .ok ob => ∀ v F' H', Ext F0.hp H0 F' H' → ObOk X.K X.mg H0 F' H' c ob.1 ob.2 v → Dn.rt v H'
  | .exc x => ∀ cls od σ F H, Ext F0.hp H0 F H → RpX X.K X.mg F x cls od → W cls od σ H
  | .stuck => False)
abbrev DSb (X : Cx) (W : WX) (c : Str) (st : List Stmt) (g : DL.Env → R OB) : Prop := PSs X st (tB X W c g)
def bRet (j : Nat) (c : Str) : DL.Env → R OB := fun Γ => match Env.at_ Γ j with
  | some (.oob _ c' ns fs) => if c' = c then .ok (ns, fs) else .stuck
  | _ => .stuck
def bSeq (g1 : DL.Env → Out) (g : DL.Env → R OB) : DL.Env → R OB := fun Γ => match g1 Γ with
  | .nx Γ' => g Γ'
  | .exc x _ => .exc x
  | _ => .stuck
section
variable {X : Cx} {W : WX} {c x : Str} {st : Stmt} {rest : List Stmt} {g1 : DL.Env → Out} {g : DL.Env → R OB} {p pos : Pos}
theorem dsb_ret (i : Nat) (hN : X.N[i]? = some x := by rfl) (hv : Vis X.env.scope x := by first | exact Or.inl (by kernel_rfl) | exact Or.inr (Or.inl (by kernel_rfl)) | exact Or.inr (Or.inr (by kernel_rfl))) (hd : (x == ("__debug__" : Str)) = false := by kernel_rfl)
    (hcd : (x == ("__classdict__" : Str)) = false := by kernel_rfl) : DSb X W c [.Return (some (.Name x p)) pos] (bRet i c) := by
  refine PSs.weak (pss_one (ps_ret (pe_var hN hv hd hcd))) ?_
  rintro Dn σ H ⟨F0, H0, F, Γ, r, p⟩
  revert p
  unfold bRet
  cases ei : Env.at_ Γ i with
  | none => exact fun p => p.elim
  | some s =>
    cases s with
    | hdc _ _ _ => exact fun p => p.elim
    | abs _ _ => exact fun p => p.elim
    | val d => exact fun p => p.elim
    | own ds => exact fun p => p.elim
    | dic ks ds => exact fun p => p.elim
    | hnd _ _ => exact fun p => p.elim
    | oob b c' ns fs =>
      dsimp only
      by_cases q : c' = c
      · subst q
        rw [if_pos rfl]
        intro p
        obtain ⟨v, h1, h2⟩ := r.slot i _ (at_get ei)
        exact ⟨v, h1, p v F H r.ext h2⟩
      · rw [if_neg q]
        exact fun p => p.elim
theorem dsb_cons (h : DS X W st g1) (t : DSb X W c rest g) : DSb X W c (st :: rest) (bSeq g1 g) := by
  refine PSs.weak (pss_cons h t) ?_
  rintro Dn σ H ⟨F0, H0, F, Γ, r, p⟩
  refine ⟨F0, H0, F, Γ, r, ?_⟩
  revert p
  unfold bSeq
  cases g1 Γ with
  | nx Γ' => exact fun p σ1 F1 H1 r1 => ⟨F0, H0, F1, Γ', r1, p⟩
  | exc x Γ' => exact fun p cls od σ1 F1 H1 r1 q => p cls od σ1 F1 H1 r1.ext q
  | bk Γ' => exact fun p => p.elim
  | ct Γ' => exact fun p => p.elim
  | rt d => exact fun p => p.elim
  | rs d Γ => exact fun p => p.elim
  | ro d => exact fun p => p.elim
  | stuck => exact fun p => p
end
def mkB (N : Nat) (g : DL.Env → R OB) : List D → R OB := fun ds => g (stE N ds)
section
variable {P : Program} {w : World} {K : PySem.W.Frag} {mg : Str → Option Value} {base : Heap} {x qual c : Str} {params : Arguments} {body : List Stmt} {scope : Scope} {f : Addr} {fd : FuncData} {N ps : List Str} {k : Nat} {g : DL.Env → R OB}
theorem fn_okB (Fd : FunD K x qual params body scope [] [] f fd) (S : FnScope N ps scope) (hl : ps.length ≤ N.length)
    (hb : ∀ (cdv : Value) (A : Around) (outer : List PySem.Env) (s : Shared) (H : Hp) (E : XK), Room k (A.deeper (PyProof.Rows.envOfC qual scope s.heap.objs.size f cdv)) → DSb (cxOf (L2.CX P w) P w K mg base N qual scope f cdv A outer s H E) (WOf E) c body g) :
    FnOk P w K mg base (L2.CX P w) (k + 1) f fd ps (spB K mg c ps.length (mkB N.length g)) := by
  refine Fd.ok S (fun vs H Q E h => by obtain ⟨F, ds, l, _, r, _⟩ := h; rw [← r.length, l]) fun cdv A outer s H vs Q E hr h => ?_
  obtain ⟨F, ds, l, z, r, p⟩ := h
  refine ⟨_, hb cdv A outer s H E hr, ⟨F, fun _ => .non⟩, H, F, stE N.length ds, start_rel z r (by rw [l]; exact hl), ?_⟩
  revert p
  unfold mkB
  cases g (stE N.length ds) with
  | ok ob => exact fun p v F1 H1 x1 o1 => p v F1 H1 x1 o1
  | exc x => exact fun p cls od σ F1 H1 x1 q => p cls od F1 H1 x1 q
  | stuck => exact fun p => p
theorem fnOk0 {n : Nat} (hl : ps.length = n + 1) : FnOk P w K mg base (L2.CX P w) k f fd ps (spM K mg c n fun _ _ => .stuck) :=
  ⟨fun vs H Q E h => by rw [spM_len h, hl], fun _ _ _ _ _ _ _ _ _ _ _ _ _ h => by
    obtain ⟨_, _, _, _, _, _, _, _, _, _, _, _, z⟩ := h
    exact z.elim⟩
end
end DL
namespace DL
open PySem PySem.Spec L2
section
variable {K : PySem.W.Frag} {mg : Str → Option Value} {F0 : Fe} {H0 F H Hr F1 H1 : Hp} {σ : L2.St} {Γ Γ' : DL.Env}
end
abbrev ML := D → List D → D → D → List D → R (List D × List D)
def Slot.put : Slot → List D → Slot
  | .hnd j _, ys => .hnd j ys
  | _, ys => .own ys
section
variable {X : Cx} {W : WX} {j k : Nat} {x y1 y4 : Str} {e0 e2 e3 : Expr} {f0 f2 f3 : DL.Env → R D} {mf : ML} {p p1 p4 pos cpos : Pos}
end
section
variable {P : Program} {w : World} {K : PySem.W.Frag} {mg : Str → Option Value} {base : Heap} {x qual : Str} {params : Arguments} {body : List Stmt} {scope : Scope} {f : Addr} {fd : FuncData} {N' ps : List Str} {n0 n1 n2 n3 n4 : Str} {k : Nat} {g : DL.Env → Out}
end
abbrev repOO (K : PySem.W.Frag) (mg : Str → Option Value) : Hp → Hp → Hp → Option (List D) → V → Prop := fun H F' H' o v => match o with
  | some ds => OwnL K mg H F' H' ds v
  | none => v = .non
def spOO (K : PySem.W.Frag) (mg : Str → Option Value) (n : Nat) (mf : List D → R (Option (List D))) : Sp := fun vs H Q E => ∃ F ds, ds.length = n ∧ Fz F H ∧ RpL K mg F ds vs ∧ PostG K mg (repOO K mg) F H E Q (mf ds)
def KnOO (P : Program) (w : World) (K : PySem.W.Frag) (mg : Str → Option Value) (base : Heap) (k : Nat) (x : Str) (n : Nat) (mf : List D → R (Option (List D))) : Prop :=
  ∃ (f : Addr) (fd : FuncData) (ps : List Str), mg x = some (.ref f) ∧ PySem.W.keepIn K (.ref f) = true ∧ Binds K fd ps [] ∧ FnOk P w K mg base (L2.CX P w) k f fd ps (spOO K mg n mf)
def ooV (m : List D → R (Option (List D))) : List D → R D := fun ds => (m ds).bind fun o => match o with
  | some xs => .ok (.lst xs)
  | none => .ok .non
section
variable {X : Cx} {W : WX} {j k n : Nat} {x : Str} {e : Expr} {es : List Expr} {p pos : Pos} {fs : DL.Env → R (List D)} {f : DL.Env → R (Option (List D))}
end
section
variable {P : Program} {w : World} {K : PySem.W.Frag} {mg : Str → Option Value} {base : Heap} {x qual : Str} {params : Arguments} {body : List Stmt} {scope : Scope} {f : Addr} {fd : FuncData} {N ps : List Str} {k n : Nat} {g : DL.Env → Out}
theorem KnOO.kn {mf : List D → R (Option (List D))} (h : KnOO P w K mg base k x n mf) : Kn P w K mg base k x n (ooV mf) := by
  obtain ⟨f, fd, ps, hm, hk, hb, G⟩ := h
  refine ⟨f, fd, ps, hm, hk, hb, G.imp fun vs H Q E q => ?_⟩
  obtain ⟨F, ds, l, z, r, p⟩ := q
  refine ⟨F, ds, l, z, r, ?_⟩
  revert p
  unfold ooV
  cases mf ds with
  | ok o =>
    cases o with
    | some ds =>
      intro p v F1 H1 x1 r1
      obtain ⟨F2, x2, r2, _⟩ := frzO x1 r1
      exact p v F2 H1 x2 r2
    | none =>
      intro p v F1 H1 x1 r1
      exact p v F1 H1 x1 (show Rp K mg F1 .non v from r1).non_iff
  | exc x => exact fun p => p
  | stuck => exact fun p => p
end
section
variable {X : Cx} {W : WX} {e : Expr} {f : DL.Env → R (List D)}
end
end DL
namespace DL
open PySem L2
section
variable {α β : Type} {Γ : DL.Env} {s : Option Slot}
theorem at_0 : Env.at_ (s :: Γ) 0 = s := rfl
theorem at_s {n : Nat} : Env.at_ (s :: Γ) (n + 1) = Env.at_ Γ n := by
  unfold Env.at_
  rw [List.getElem?_cons_succ]
theorem bind_ok {a : α} {k : α → R β} : R.bind (.ok a) k = k a := rfl
theorem bind_exc {x : D} {k : α → R β} : R.bind (.exc x) k = .exc x := rfl
theorem out_ok {a : α} {k : α → Out} : R.out Γ (.ok a) k = k a := rfl
theorem out_exc {x : D} {k : α → Out} : R.out Γ (.exc x) k = .exc x Γ := rfl
theorem then_nx {g : DL.Env → Out} : Out.andThen (.nx Γ) g = g Γ := rfl
theorem then_rt {d : D} {g : DL.Env → Out} : Out.andThen (.rt d) g = .rt d := rfl
theorem then_ro {d : List D} {g : DL.Env → Out} : Out.andThen (.ro d) g = .ro d := rfl
theorem then_bk {g : DL.Env → Out} : Out.andThen (.bk Γ) g = .bk Γ := rfl
theorem then_ct {g : DL.Env → Out} : Out.andThen (.ct Γ) g = .ct Γ := rfl
theorem then_exc {x : D} {g : DL.Env → Out} : Out.andThen (.exc x Γ) g = .exc x Γ := rfl
theorem fin_nx : Out.fin (.nx Γ) = .ok .non := rfl
theorem fin_rt {d : D} : Out.fin (.rt d) = .ok d := rfl
theorem fin_ro {d : List D} : Out.fin (.ro d) = .ok (.lst d) := rfl
theorem fin_exc {x : D} : Out.fin (.exc x Γ) = .exc x := rfl
theorem finO_ro {d : List D} : Out.finO (.ro d) = .ok d := rfl
theorem finO_exc {x : D} : Out.finO (.exc x Γ) = .exc x := rfl
end
def boR (r : R Bool) : R Bool := match r with
  | .ok d => .ok d
  | _ => .stuck
def eoR (r : R D) : R D := match r with
  | .ok d => if d.scal then .ok d else .stuck
  | _ => .stuck
theorem bBor_eq {i : Nat} {f : DL.Env → R Bool} {Γ : DL.Env} : bBor i f Γ = boR (f (Env.frz Γ i)) := rfl
theorem eBor_eq {i : Nat} {f : DL.Env → R D} {Γ : DL.Env} : eBor i f Γ = eoR (f (Env.frz Γ i)) := rfl
theorem boR_ok {b : Bool} : boR (.ok b) = .ok b := rfl
theorem eoR_bl {b : Bool} : eoR (.ok (.bl b)) = .ok (.bl b) := rfl
theorem eoR_i {i : Int} : eoR (.ok (.int i)) = .ok (.int i) := rfl
theorem eoR_n : eoR (.ok .non) = .ok .non := rfl
theorem eoR_s {z : Str} : eoR (.ok (.str z)) = .ok (.str z) := rfl
section
variable {i j : Int} {x y : D} {b c : Bool} {z w : Str} {xs ys : List D}
theorem dAdd_i : dAdd (.int i) (.int j) = .ok (.int (i + j)) := rfl
theorem dSub_i : dSub (.int i) (.int j) = .ok (.int (i - j)) := rfl
theorem dNeg_i : dNeg (.int i) = .ok (.int (-i)) := rfl
theorem dMul_r (h : -18446744073709551616 < j) (h' : j < 18446744073709551616) : dMul (.int i) (.int j) = .ok (.int (i * j)) := by
  have e : smallI j = true := by unfold smallI; simp [h, h']
  show (if (smallI j || (smallI i || decide (i.natAbs.log2 + j.natAbs.log2 < 1000000))) = true then R.ok (D.int (i * j)) else R.stuck) = _
  rw [e]
  rfl
theorem dMul_l (h : -18446744073709551616 < i) (h' : i < 18446744073709551616) : dMul (.int i) (.int j) = .ok (.int (i * j)) := by
  have e : smallI i = true := by unfold smallI; simp [h, h']
  show (if (smallI j || (smallI i || decide (i.natAbs.log2 + j.natAbs.log2 < 1000000))) = true then R.ok (D.int (i * j)) else R.stuck) = _
  rw [e, Bool.true_or, Bool.or_true]
  rfl
theorem dMod_i (h : 0 < j) : dMod (.int i) (.int j) = .ok (.int (i % j)) := if_pos h
theorem dDiv_i (h : 0 < j) (h' : j < 18446744073709551616) : dDiv (.int i) (.int j) = .ok (.int (i / j)) := by
  have e : decide (j.natAbs.log2 < 9000) = true := decide_eq_true (by
    have := (Nat.log2_lt (n := j.natAbs) (k := 64) (by omega)).mpr (by omega)
    omega)
  show (if (decide (0 < j) && decide (j.natAbs.log2 < 9000)) = true then R.ok (D.int (i / j)) else R.stuck) = _
  rw [e, decide_eq_true h]
  rfl
theorem dLt_i : dLt (.int i) (.int j) = .ok (.bl (decide (i < j))) := rfl
theorem dLe_i : dLe (.int i) (.int j) = .ok (.bl (decide (i ≤ j))) := rfl
theorem dGt_i : dGt (.int i) (.int j) = .ok (.bl (decide (j < i))) := rfl
theorem dGe_i : dGe (.int i) (.int j) = .ok (.bl (decide (j ≤ i))) := rfl
theorem dEq_i : dEq (.int i) (.int j) = .ok (.bl (decide (i = j))) := rfl
theorem dNe_i : dNe (.int i) (.int j) = .ok (.bl (!decide (i = j))) := rfl
theorem dEq_s : dEq (.str z) (.str w) = .ok (.bl (decide (z = w))) := rfl
theorem dNe_s : dNe (.str z) (.str w) = .ok (.bl (!decide (z = w))) := rfl
theorem asB_bl : asB (.bl b) = .ok b := rfl
theorem dTru_bl : dTru (.bl b) = .ok b := rfl
theorem dIs_n : dIs x .non = .ok (.bl x.isNon) := by cases x <;> rfl
theorem dIsNot_n : dIsNot x .non = .ok (.bl (!x.isNon)) := by cases x <;> rfl
theorem dMin_i : dMin2 [.int i, .int j] = .ok (.int (if j < i then j else i)) := rfl
theorem dMax_i : dMax2 [.int i, .int j] = .ok (.int (if j > i then j else i)) := rfl
theorem dAbs_i : dAbs [.int i] = .ok (.int (if i < 0 then -i else i)) := rfl
theorem dLen_l : dLen [.lst xs] = .ok (.int xs.length) := rfl
theorem dLen_t : dLen [.tup xs] = .ok (.int xs.length) := rfl
theorem dLen_s {ns : List Int} : dLen [.scr ns] = .ok (.int ns.length) := rfl
theorem atI_ok {α : Type} {xs : List α} {i : Int} (h0 : 0 ≤ i) (h1 : i < xs.length) (d : α) : atI xs i = some (xs.getD i.toNat d) := by
  unfold atI ixN
  rw [if_pos h0, if_pos h1]
  have : i.toNat < xs.length := by omega
  simp [List.getD, this]
theorem ixN_n {n j : Nat} (h : j < n) : ixN n (j : Int) = some j := by
  unfold ixN
  rw [if_pos (by omega), if_pos (by omega)]
  rfl
theorem ixN_i {n : Nat} {i : Int} (h0 : 0 ≤ i) (h1 : i < n) : ixN n i = some i.toNat := by
  unfold ixN
  rw [if_pos h0, if_pos h1]
theorem ixN_last {n : Nat} (h : 0 < n) : ixN n (-1) = some (n - 1) := by
  unfold ixN
  rw [if_neg (by decide), if_pos (by omega)]
  congr 1
  omega
theorem atI_l {α : Type} {xs : List α} {d : α} (h : xs[xs.length - 1]? = some d) : atI xs (-1) = some d := by
  have h0 : 0 < xs.length := by
    have := (List.getElem?_eq_some_iff.mp h).1
    omega
  unfold atI
  rw [ixN_last h0]
  exact h
theorem dIx_scr {ns : List Int} (h0 : 0 ≤ i) (h1 : i < ns.length) : dIx (.scr ns) (.int i) = .ok (.int (ns.getD i.toNat 0)) := by
  show (match atI ns i with | some d => R.ok (D.int d) | none => .stuck) = _
  rw [atI_ok h0 h1 0]
theorem dIx_lst {d : D} (h : atI xs i = some d) : dIx (.lst xs) (.int i) = .ok d := by
  show (match atI xs i with | some d => R.ok d | none => .stuck) = _
  rw [h]
theorem dIx_tup {d : D} (h : atI xs i = some d) : dIx (.tup xs) (.int i) = .ok d := by
  show (match atI xs i with | some d => R.ok d | none => .stuck) = _
  rw [h]
theorem dIx_n {d : D} {n : Nat} (h : xs[n]? = some d) : dIx (.lst xs) (.int (n : Int)) = .ok d := dIx_lst (atI_nat h)
theorem dIx_t0 {a : D} : dIx (.tup (a :: xs)) (.int 0) = .ok a := dIx_tup (atI_nat (j := 0) rfl)
theorem dIx_t1 {a b : D} : dIx (.tup (a :: b :: xs)) (.int 1) = .ok b := dIx_tup (atI_nat (j := 1) rfl)
theorem dIx_t2 {a b c : D} : dIx (.tup (a :: b :: c :: xs)) (.int 2) = .ok c := dIx_tup (atI_nat (j := 2) rfl)
theorem dIx_t3 {a b c d : D} : dIx (.tup (a :: b :: c :: d :: xs)) (.int 3) = .ok d := dIx_tup (atI_nat (j := 3) rfl)
theorem dIx_l0 {a : D} : dIx (.lst (a :: xs)) (.int 0) = .ok a := dIx_lst (atI_nat (j := 0) rfl)
theorem dIx_l1 {a b : D} : dIx (.lst (a :: b :: xs)) (.int 1) = .ok b := dIx_lst (atI_nat (j := 1) rfl)
theorem dIx_l2 {a b c : D} : dIx (.lst (a :: b :: c :: xs)) (.int 2) = .ok c := dIx_lst (atI_nat (j := 2) rfl)
theorem dIx_l3 {a b c d : D} : dIx (.lst (a :: b :: c :: d :: xs)) (.int 3) = .ok d := dIx_lst (atI_nat (j := 3) rfl)
theorem dIx_last {a : D} : dIx (.lst (xs ++ [a])) (.int (-1)) = .ok a := dIx_lst (atI_last xs a)
theorem dIx_two {a b : D} (h0 : 0 ≤ i) (h1 : i < 2) : dIx (.lst [a, b]) (.int i) = .ok (if i = 0 then a else b) := by
  rcases (by omega : i = 0 ∨ i = 1) with e | e
  · subst e; rfl
  · subst e; rfl
end
section
variable {α : Type} {h : Tg} {g : DL.Env → Out} {Γ : DL.Env} {ft : DL.Env → R Bool} {fe : DL.Env → R D}
theorem loopF_ds (ds : List D) (P : Nat → DL.Env → Prop) (h0 : P 0 Γ)
    (hs : ∀ (i : Nat) (d : D) (Γ : DL.Env), ds[i]? = some d → P i Γ → ∃ Γ1 Γ2, h d Γ = some Γ1 ∧ (g Γ1 = .nx Γ2 ∨ g Γ1 = .ct Γ2) ∧ P (i + 1) Γ2) : ∃ Γ', loopF h g ds Γ = .nx Γ' ∧ P ds.length Γ' := by
  induction ds generalizing P Γ with
  | nil => exact ⟨Γ, rfl, h0⟩
  | cons d ds ih =>
    obtain ⟨Γ1, Γ2, e1, e2, p⟩ := hs 0 d Γ rfl h0
    obtain ⟨Γ', e3, p'⟩ := ih (Γ := Γ2) (fun i Γ => P (i + 1) Γ) p fun i d' Γ' hd hp => hs (i + 1) d' Γ' (by simpa using hd) hp
    refine ⟨Γ', ?_, p'⟩
    unfold loopF
    rw [e1]
    rcases e2 with e2 | e2
    · simp only [e2]; exact e3
    · simp only [e2]; exact e3
theorem loopF_inv (xs : List α) (enc : α → D) (P : Nat → DL.Env → Prop) (h0 : P 0 Γ)
    (hs : ∀ (i : Nat) (x : α) (Γ : DL.Env), xs[i]? = some x → P i Γ → ∃ Γ1 Γ2, h (enc x) Γ = some Γ1 ∧ (g Γ1 = .nx Γ2 ∨ g Γ1 = .ct Γ2) ∧ P (i + 1) Γ2) : ∃ Γ', loopF h g (xs.map enc) Γ = .nx Γ' ∧ P xs.length Γ' := by
  have q := loopF_ds (h := h) (g := g) (xs.map enc) P h0 fun i d Γ hd hp => by
    rw [List.getElem?_map] at hd
    cases e : xs[i]? with
    | none => rw [e] at hd; cases hd
    | some x =>
      rw [e] at hd
      cases hd
      exact hs i x Γ e hp
  rwa [List.length_map] at q
theorem enumL_at {ds : List D} {i j : Nat} {d : D} (h : (enumL j ds)[i]? = some d) : ∃ e, ds[i]? = some e ∧ d = .tup [.int ((j + i : Nat) : Int), e] := by
  have hl : i < ds.length := by
    have := (List.getElem?_eq_some_iff.mp h).1
    rwa [enumL_len] at this
  have e := enumL_get (i := j) (j := i) (ds := ds) (d := ds[i]) (by simp [hl])
  rw [e] at h
  exact ⟨ds[i], by simp [hl], (Option.some.inj h).symm⟩
theorem loopF_enum (xs : List α) (enc : α → D) (P : Nat → DL.Env → Prop) (h0 : P 0 Γ)
    (hs : ∀ (i : Nat) (x : α) (Γ : DL.Env), xs[i]? = some x → P i Γ → ∃ Γ1 Γ2, h (.tup [.int (i : Nat), enc x]) Γ = some Γ1 ∧ (g Γ1 = .nx Γ2 ∨ g Γ1 = .ct Γ2) ∧ P (i + 1) Γ2) : ∃ Γ', loopF h g (enumL 0 (xs.map enc)) Γ = .nx Γ' ∧ P xs.length Γ' := by
  have q := loopF_ds (h := h) (g := g) (enumL 0 (xs.map enc)) P h0 fun i d Γ hd hp => by
    obtain ⟨e, he, rfl⟩ := enumL_at hd
    rw [List.getElem?_map] at he
    cases ex : xs[i]? with
    | none => rw [ex] at he; cases he
    | some x =>
      rw [ex] at he
      cases he
      rw [Nat.zero_add]
      exact hs i x Γ ex hp
  rwa [enumL_len, List.length_map] at q
theorem loopF_rev (xs : List α) (enc : α → D) (P : List α → DL.Env → Prop) (h0 : P [] Γ)
    (hs : ∀ (x : α) (t : List α) (Γ : DL.Env), (x :: t) <:+ xs → P t Γ → ∃ Γ1 Γ2, h (enc x) Γ = some Γ1 ∧ (g Γ1 = .nx Γ2 ∨ g Γ1 = .ct Γ2) ∧ P (x :: t) Γ2) : ∃ Γ', loopF h g (xs.map enc).reverse Γ = .nx Γ' ∧ P xs Γ' := by
  have q := loopF_ds (h := h) (g := g) (xs.map enc).reverse (fun i Γ => P (xs.drop (xs.length - i)) Γ) (by rw [Nat.sub_zero, List.drop_length]; exact h0) fun i d Γ hd hp => by
    have hi : i < xs.length := by
      have := (List.getElem?_eq_some_iff.mp hd).1
      rwa [List.length_reverse, List.length_map] at this
    rw [List.getElem?_reverse (by rw [List.length_map]; exact hi), List.length_map, List.getElem?_map] at hd
    have hx : xs[xs.length - 1 - i]? = some (xs[xs.length - 1 - i]'(by omega)) := List.getElem?_eq_getElem (by omega)
    rw [hx] at hd
    cases hd
    have hdr : xs.drop (xs.length - (i + 1)) = (xs[xs.length - 1 - i]'(by omega)) :: xs.drop (xs.length - i) := by
      have e1 : xs.length - (i + 1) = xs.length - 1 - i := by omega
      have e2 : xs.length - i = xs.length - 1 - i + 1 := by omega
      rw [e1, e2, List.drop_eq_getElem_cons (by omega)]
    obtain ⟨Γ1, Γ2, a, b, c⟩ := hs _ _ Γ (by rw [← hdr]; exact List.drop_suffix _ _) hp
    exact ⟨Γ1, Γ2, a, b, by rw [hdr]; exact c⟩
  rw [List.length_reverse, List.length_map, Nat.sub_self, List.drop_zero] at q
  exact q
theorem lcF_map (xs : List α) (enc f : α → D) (hs : ∀ x ∈ xs, ∃ Γ1, h (enc x) Γ = some Γ1 ∧ ft Γ1 = .ok true ∧ fe Γ1 = .ok (f x)) : lcF h ft fe Γ (xs.map enc) = .ok (xs.map f) := by
  induction xs with
  | nil => rfl
  | cons d ds ih =>
    obtain ⟨Γ1, e1, e2, e3⟩ := hs d List.mem_cons_self
    show lcF h ft fe Γ (enc d :: ds.map enc) = _
    unfold lcF
    simp only [e1, e2, e3, ih fun x hx => hs x (List.mem_cons_of_mem _ hx)]
    rfl
theorem lcF_rng (lo : Int) (n : Nat) (f : Nat → D) (hs : ∀ i, i < n → ∃ Γ1, h (.int (lo + i)) Γ = some Γ1 ∧ ft Γ1 = .ok true ∧ fe Γ1 = .ok (f i)) : lcF h ft fe Γ (rngL lo n) = .ok ((List.range n).map f) :=
  lcF_map (List.range n) (fun (i : Nat) => D.int (lo + i)) f fun i hi => hs i (List.mem_range.mp hi)
theorem oLc_ok {vs : List Nat} {fi : DL.Env → R (List D)} {ds es : List D} (e1 : fi Γ = .ok ds) (e2 : lcF h ft fe (wipeE Γ vs) ds = .ok es) (hl : ds.length ≤ LIM) : oLc vs fi h ft fe Γ = .ok es := by
  unfold oLc
  rw [e1]
  show (match lcF h ft fe (wipeE Γ vs) ds with | .ok es => if ds.length ≤ LIM then R.ok es else .stuck | _ => .stuck) = _
  rw [e2]
  exact if_pos hl
theorem iRng1 {j : Int} (h0 : -4611686018427387904 ≤ j) (h1 : j < 4611686018427387904) : iRange1 [.int j] = .ok (rngL 0 j.toNat) := by
  have e : inR62 j = true := by unfold inR62; simp [h0, h1]
  show (if inR62 j = true then R.ok (rngL 0 j.toNat) else .stuck) = _
  rw [e]
  rfl
theorem iEnum_l {ds : List D} : iEnumD [.lst ds] = .ok (enumL 0 ds) := rfl
theorem iZip_l {ds es : List D} : iZipD [.lst ds, .lst es] = .ok (zipL ds es) := rfl
theorem oZip_l {ds es : List D} : oZip [.lst ds, .lst es] = .ok (zipL ds es) := rfl
theorem iRev_l {ds : List D} : iRevD [.lst ds] = .ok ds.reverse := rfl
theorem enumL_map (xs : List α) (enc : α → D) : enumL 0 (xs.map enc) = xs.zipIdx.map fun q => .tup [.int (q.2 : Nat), enc q.1] := by
  have : ∀ (n : Nat) (xs : List α), enumL n (xs.map enc) = (xs.zipIdx n).map fun q => .tup [.int (q.2 : Nat), enc q.1] := by
    intro n xs
    induction xs generalizing n with
    | nil => rfl
    | cons x xs ih => show D.tup [.int n, enc x] :: enumL (n + 1) (xs.map enc) = _; rw [ih]; rfl
  exact this 0 xs
theorem zipL_map {β : Type} (xs : List α) (ys : List β) (enc : α → D) (enc' : β → D) : zipL (xs.map enc) (ys.map enc') = (xs.zip ys).map fun q => .tup [enc q.1, enc' q.2] := by
  induction xs generalizing ys with
  | nil => rfl
  | cons x xs ih =>
    cases ys with
    | nil => rfl
    | cons y ys => show D.tup [enc x, enc' y] :: zipL (xs.map enc) (ys.map enc') = _; rw [ih]; rfl
theorem dInD_i {ks : List Key} {ds : List D} {i : Int} : dInD (.int i) (.dk ks ds) = .ok (.bl (lkD ks ds (.inl i)).isSome) := rfl
theorem dNotInD_i {ks : List Key} {ds : List D} {i : Int} : dNotInD (.int i) (.dk ks ds) = .ok (.bl (!(lkD ks ds (.inl i)).isSome)) := rfl
theorem dKey_i {i : Int} : dKey (.int i) = some (.inl i) := rfl
theorem dKey_s {i : Str} : dKey (.str i) = some (.inr i) := rfl
theorem sl1_l {xs : List D} {lo hi : Option Int} : sl1 (.lst xs) lo hi = .ok (.lst (cutL xs lo hi)) := rfl
theorem oSl1_l {xs : List D} {lo hi : Option Int} : oSl1 (.lst xs) lo hi = .ok (cutL xs lo hi) := rfl
theorem cutL_init {xs : List α} : cutL xs none (some (-1)) = xs.dropLast := by
  have e0 : HT.sIx xs.length 0 none = 0 := rfl
  have e1 : HT.sIx xs.length xs.length (some (-1)) = xs.length - 1 := by
    show (if (-1 : Int) < 0 then ((-1 : Int) + (xs.length : Int)).toNat else min (-1 : Int).toNat xs.length) = _
    rw [if_pos (by decide)]
    omega
  unfold cutL
  rw [e0, e1, List.drop_zero, Nat.sub_zero]
  exact List.dropLast_eq_take.symm
theorem cutL_take {xs : List α} {i : Int} (h : 0 ≤ i) : cutL xs none (some i) = xs.take i.toNat := by
  have e0 : HT.sIx xs.length 0 none = 0 := rfl
  have e1 : HT.sIx xs.length xs.length (some i) = min i.toNat xs.length := by
    show (if i < 0 then (i + (xs.length : Int)).toNat else min i.toNat xs.length) = _
    rw [if_neg (by omega)]
  unfold cutL
  rw [e0, e1, List.drop_zero, Nat.sub_zero]
  by_cases q : i.toNat ≤ xs.length
  · rw [Nat.min_eq_left q]
  · rw [Nat.min_eq_right (by omega), List.take_length, List.take_of_length_le (by omega)]
theorem cutL_drop {xs : List α} {i : Int} (h : 0 ≤ i) : cutL xs (some i) none = xs.drop i.toNat := by
  have e0 : HT.sIx xs.length xs.length none = xs.length := rfl
  have e1 : HT.sIx xs.length 0 (some i) = min i.toNat xs.length := by
    show (if i < 0 then (i + (xs.length : Int)).toNat else min i.toNat xs.length) = _
    rw [if_neg (by omega)]
  unfold cutL
  rw [e0, e1]
  by_cases q : i.toNat ≤ xs.length
  · rw [Nat.min_eq_left q]
    exact List.take_of_length_le (by rw [List.length_drop]; omega)
  · rw [Nat.min_eq_right (by omega), List.drop_length, List.drop_of_length_le (by omega)]
    simp
theorem dEqB_refl {x : D} {n : Nat} (h : x.sh n = true) : dEqB x x = true := PySem.SeqAt.eqv_refl _ (sh_ok n x h).1
theorem dEqV_same {x : D} (h : x.sh 60 = true) : dEqV x x = .ok true := by
  have e : (if x.sh 60 && x.sh 60 then R.ok (dEqB x x) else R.stuck) = .ok true := by rw [h, dEqB_refl h]; rfl
  cases x <;> first | exact e | (show R.ok (decide _) = _; rw [decide_eq_true rfl])
theorem dEq_same {x : D} (h : x.sh 60 = true) : dEq x x = .ok (.bl true) := by unfold dEq; rw [dEqV_same h]; rfl
theorem dNe_same {x : D} (h : x.sh 60 = true) : dNe x x = .ok (.bl false) := by unfold dNe; rw [dEqV_same h]; rfl
def D.kd : Nat → D → Bool
  | _, .int _ => true | _, .str x => PyData.canLay0 (.str x) | _, .non => true
  | n + 1, .lst xs => xs.all (D.kd n)
  | n + 1, .tup xs => xs.all (D.kd n)
  | _, _ => false
theorem kd_sh : ∀ (n : Nat) (x : D), x.kd n = true → x.sh n = true
  | n, .int _, _ => by cases n <;> rfl
  | n, .str _, h => by cases n <;> exact h
  | n, .non, _ => by cases n <;> rfl
  | n + 1, .lst xs, h => List.all_eq_true.mpr fun d hd => kd_sh n d (List.all_eq_true.mp h d hd)
  | n + 1, .tup xs, h => List.all_eq_true.mpr fun d hd => kd_sh n d (List.all_eq_true.mp h d hd)
  | 0, .lst _, h => by cases h
  | 0, .tup _, h => by cases h
  | 0, .bl _, h => by cases h
  | n + 1, .bl _, h => by cases h
  | 0, .scr _, h => by cases h
  | n + 1, .scr _, h => by cases h
  | 0, .dk _ _, h => by cases h
  | n + 1, .dk _ _, h => by cases h
  | 0, .obj _ _ _, h => by cases h
  | n + 1, .obj _ _ _, h => by cases h
  | 0, .exc _ _ _, h => by cases h
  | n + 1, .exc _ _ _, h => by cases h
  | 0, .cls _, h => by cases h
  | n + 1, .cls _, h => by cases h
  | 0, .ty _, h => by cases h
  | n + 1, .ty _, h => by cases h
theorem kd_eqL (n : Nat) (ih : ∀ x y : D, x.kd n = true → y.kd n = true → (PyData.eqv x.pd y.pd = true ↔ x = y)) : ∀ (xs ys : List D), xs.all (D.kd n) = true → ys.all (D.kd n) = true → (PyData.eqvAll (D.pdL xs) (D.pdL ys) = true ↔ xs = ys)
  | [], [], _, _ => by simp [D.pdL, PyData.eqvAll]
  | [], _ :: _, _, _ => by simp [D.pdL, PyData.eqvAll]
  | _ :: _, [], _, _ => by simp [D.pdL, PyData.eqvAll]
  | x :: xs, y :: ys, h, h' => by
    rw [List.all_cons, Bool.and_eq_true] at h h'
    simp only [D.pdL, PyData.eqvAll, Bool.and_eq_true]
    rw [ih x y h.1 h'.1, kd_eqL n ih xs ys h.2 h'.2]
    simp
theorem kd_eq : ∀ (n : Nat) (x y : D), x.kd n = true → y.kd n = true → (PyData.eqv x.pd y.pd = true ↔ x = y) := by
  intro n
  induction n with
  | zero => intro x y hx hy; cases x <;> cases y <;> first | exact Bool.noConfusion hx | exact Bool.noConfusion hy | simp [D.pd, PyData.eqv]
  | succ n ih =>
    intro x y hx hy
    have l := kd_eqL n ih
    cases x with
    | lst xs =>
      cases y with
      | lst ys => show PyData.eqvAll _ _ = true ↔ _; rw [l xs ys hx hy]; simp
      | _ => first | exact Bool.noConfusion hy | simp [D.pd, PyData.eqv]
    | tup xs =>
      cases y with
      | tup ys => show PyData.eqvAll _ _ = true ↔ _; rw [l xs ys hx hy]; simp
      | _ => first | exact Bool.noConfusion hy | simp [D.pd, PyData.eqv]
    | _ => cases y <;> first | exact Bool.noConfusion hx | exact Bool.noConfusion hy | simp [D.pd, PyData.eqv]
theorem dEqV_ne {x y : D} (hx : x.kd 60 = true) (hy : y.kd 60 = true) (h : x ≠ y) : dEqV x y = .ok false := by
  have e : (if x.sh 60 && y.sh 60 then R.ok (dEqB x y) else R.stuck) = .ok false := by
    rw [kd_sh _ _ hx, kd_sh _ _ hy]
    show R.ok (dEqB x y) = _
    congr 1
    cases q : dEqB x y with
    | false => rfl
    | true => exact absurd ((kd_eq 60 x y hx hy).mp q) h
  cases x <;> cases y <;> first | exact e | (show R.ok (decide _) = _; rw [decide_eq_false]; intro h'; exact h (by rw [h']))
theorem dEq_ne {x y : D} (hx : x.kd 60 = true) (hy : y.kd 60 = true) (h : x ≠ y) : dEq x y = .ok (.bl false) := by unfold dEq; rw [dEqV_ne hx hy h]; rfl
end
end DL
namespace DL
open PySem L2
def Out.ctn : Out → Out
  | .ct Γ => .nx Γ
  | o => o
def Out.brk : Out → Out
  | .bk Γ => .nx Γ
  | o => o
def tOut (r : Option DL.Env) (g : DL.Env → Out) : Out := match r with
  | none => .stuck
  | some Γ => (g Γ).ctn
def turn (h : Tg) (g : DL.Env → Out) (d : D) (Γ : DL.Env) : Out := tOut (h d Γ) g
section
variable {α : Type} {h : Tg} {g : DL.Env → Out} {Γ : DL.Env} {d : D} {ds : List D} {vs : List Nat} {x : D}
theorem turn_eq : turn h g d Γ = tOut (h d Γ) g := rfl
theorem tOut_some : tOut (some Γ) g = (g Γ).ctn := rfl
theorem ctn_nx : (Out.nx Γ).ctn = .nx Γ := rfl
theorem ctn_ct : (Out.ct Γ).ctn = .nx Γ := rfl
theorem ctn_bk : (Out.bk Γ).ctn = .bk Γ := rfl
theorem ctn_rt : (Out.rt d).ctn = .rt d := rfl
theorem ctn_ro : (Out.ro ds).ctn = .ro ds := rfl
theorem ctn_exc : (Out.exc x Γ).ctn = .exc x Γ := rfl
theorem wp_nx : (Out.nx Γ).wp vs = .nx (wipeE Γ vs) := rfl
theorem wp_bk : (Out.bk Γ).wp vs = .bk (wipeE Γ vs) := rfl
theorem wp_ct : (Out.ct Γ).wp vs = .ct (wipeE Γ vs) := rfl
theorem wp_rt : (Out.rt d).wp vs = .rt d := rfl
theorem wp_ro : (Out.ro ds).wp vs = .ro ds := rfl
theorem wp_exc : (Out.exc x Γ).wp vs = .exc x Γ := rfl
theorem wipeE_n : wipeE Γ [] = Γ := rfl
theorem wipeE_c {v : Nat} : wipeE Γ (v :: vs) = (wipeE Γ vs).set v none := rfl
theorem loopF_turn {ds : List D} : loopF h g (d :: ds) Γ = match turn h g d Γ with
    | .nx Γ' => loopF h g ds Γ'
    | o => o.brk := by
  unfold turn tOut
  conv => lhs; unfold loopF
  cases h d Γ with
  | none => rfl
  | some Γ1 =>
    dsimp only
    cases g Γ1 <;> rfl
theorem for_ds (ds : List D) (E : Nat → DL.Env) (hs : ∀ (i : Nat) (d : D), ds[i]? = some d → turn h g d (E i) = .nx (E (i + 1))) : loopF h g ds (E 0) = .nx (E ds.length) := by
  induction ds generalizing E with
  | nil => rfl
  | cons d ds ih =>
    rw [loopF_turn, hs 0 d rfl]
    exact ih (fun i => E (i + 1)) fun i d' hd => hs (i + 1) d' (by simpa using hd)
theorem for_map (xs : List α) (enc : α → D) (E : Nat → DL.Env) (hs : ∀ (i : Nat) (x : α), xs[i]? = some x → turn h g (enc x) (E i) = .nx (E (i + 1))) : loopF h g (xs.map enc) (E 0) = .nx (E xs.length) := by
  have q := for_ds (h := h) (g := g) (xs.map enc) E fun i d hd => by
    rw [List.getElem?_map] at hd
    cases e : xs[i]? with
    | none => rw [e] at hd; cases hd
    | some x =>
      rw [e] at hd
      cases hd
      exact hs i x e
  rwa [List.length_map] at q
theorem for_rng (lo : Int) (n : Nat) (E : Nat → DL.Env) (hs : ∀ i : Nat, i < n → turn h g (.int (lo + i)) (E i) = .nx (E (i + 1))) : loopF h g (rngL lo n) (E 0) = .nx (E n) := by
  have q := for_map (h := h) (g := g) (List.range n) (fun (i : Nat) => D.int (lo + i)) E fun i x hx => by
    have hi : i < n := by
      have := (List.getElem?_eq_some_iff.mp hx).1
      simpa using this
    have : x = i := by rw [List.getElem?_range hi] at hx; exact (Option.some.inj hx).symm
    subst this
    exact hs x hi
  rwa [List.length_range] at q
theorem for_dn (lo : Int) (n : Nat) (E : Nat → DL.Env) (hs : ∀ i : Nat, i < n → turn h g (.int (lo + (i : Nat) * (-1))) (E i) = .nx (E (i + 1))) : loopF h g (rngDn lo n) (E 0) = .nx (E n) := by
  have q := for_map (h := h) (g := g) (List.range n) (fun (i : Nat) => D.int (lo + (i : Nat) * (-1))) E fun i x hx => by
    have hi : i < n := by
      have := (List.getElem?_eq_some_iff.mp hx).1
      simpa using this
    have : x = i := by rw [List.getElem?_range hi] at hx; exact (Option.some.inj hx).symm
    subst this
    exact hs x hi
  rwa [List.length_range] at q
theorem for_enum (xs : List α) (enc : α → D) (E : Nat → DL.Env) (hs : ∀ (i : Nat) (x : α), xs[i]? = some x → turn h g (.tup [.int (i : Nat), enc x]) (E i) = .nx (E (i + 1))) : loopF h g (enumL 0 (xs.map enc)) (E 0) = .nx (E xs.length) := by
  have q := for_ds (h := h) (g := g) (enumL 0 (xs.map enc)) E fun i d hd => by
    obtain ⟨e, he, rfl⟩ := enumL_at hd
    rw [List.getElem?_map] at he
    cases ex : xs[i]? with
    | none => rw [ex] at he; cases he
    | some x =>
      rw [ex] at he
      cases he
      rw [Nat.zero_add]
      exact hs i x ex
  rwa [enumL_len, List.length_map] at q
end
theorem for_inv {α : Type} {h : Tg} {g : DL.Env → Out} {Γ : DL.Env} (xs : List α) (enc : α → D) (P : Nat → DL.Env → Prop) (h0 : P 0 Γ) (hs : ∀ (i : Nat) (x : α) (Γ : DL.Env), xs[i]? = some x → P i Γ → ∃ Γ', turn h g (enc x) Γ = .nx Γ' ∧ P (i + 1) Γ') : ∃ Γ', loopF h g (xs.map enc) Γ = .nx Γ' ∧ P xs.length Γ' := by
  induction xs generalizing P Γ with
  | nil => exact ⟨Γ, rfl, h0⟩
  | cons x xs ih =>
    obtain ⟨Γ1, e1, p1⟩ := hs 0 x Γ rfl h0
    obtain ⟨Γ', e2, p2⟩ := ih (Γ := Γ1) (fun i Γ => P (i + 1) Γ) p1 fun i x' Γ' hx hp => hs (i + 1) x' Γ' (by simpa using hx) hp
    refine ⟨Γ', ?_, p2⟩
    rw [List.map_cons, loopF_turn, e1]
    exact e2
def lcO (r : Option DL.Env) (fe : DL.Env → R D) : R D := match r with
  | none => .stuck
  | some Γ => fe Γ
def lcT (h : Tg) (fe : DL.Env → R D) (d : D) (Γ : DL.Env) : R D := lcO (h d Γ) fe
section
variable {α : Type} {h : Tg} {fe : DL.Env → R D} {Γ : DL.Env} {d : D} {vs : List Nat} {fi : DL.Env → R (List D)}
theorem lcT_eq : lcT h fe d Γ = lcO (h d Γ) fe := rfl
theorem lcO_some : lcO (some Γ) fe = fe Γ := rfl
theorem lcF_yes : ∀ (ds es : List D), ds.map (fun d => lcT h fe d Γ) = es.map R.ok → lcF h bYes fe Γ ds = .ok es
  | [], es, e => by
    cases es with
    | nil => rfl
    | cons e' es => simp at e
  | d :: ds, es, e => by
    cases es with
    | nil => simp at e
    | cons e' es =>
      rw [List.map_cons, List.map_cons, List.cons.injEq] at e
      have ih := lcF_yes ds es e.2
      have e1 := e.1
      unfold lcF
      unfold lcT lcO at e1
      cases q : h d Γ with
      | none => rw [q] at e1; cases e1
      | some Γ1 =>
        rw [q] at e1
        dsimp only at e1
        simp only [bYes, e1, ih]
theorem oLc_map (xs : List α) (enc res : α → D) (hfi : fi Γ = .ok (xs.map enc)) (hl : xs.length ≤ LIM) (hs : ∀ x ∈ xs, lcT h fe (enc x) (wipeE Γ vs) = .ok (res x)) : oLc vs fi h bYes fe Γ = .ok (xs.map res) := by
  unfold oLc
  rw [hfi]
  show (match lcF h bYes fe (wipeE Γ vs) (xs.map enc) with | .ok es => if (xs.map enc).length ≤ LIM then R.ok es else .stuck | _ => .stuck) = _
  rw [lcF_yes (xs.map enc) (xs.map res) (by
    rw [List.map_map, List.map_map]
    exact List.map_congr_left fun x hx => hs x hx)]
  show (if (xs.map enc).length ≤ LIM then R.ok _ else .stuck) = _
  rw [if_pos (by rw [List.length_map]; exact hl)]
theorem oLc_at (xs : List α) (enc : α → D) (res : Nat → D) (hfi : fi Γ = .ok (xs.map enc)) (hl : xs.length ≤ LIM) (hs : ∀ (i : Nat) (x : α), xs[i]? = some x → lcT h fe (enc x) (wipeE Γ vs) = .ok (res i)) : oLc vs fi h bYes fe Γ = .ok ((List.range xs.length).map res) := by
  unfold oLc
  rw [hfi]
  show (match lcF h bYes fe (wipeE Γ vs) (xs.map enc) with | .ok es => if (xs.map enc).length ≤ LIM then R.ok es else .stuck | _ => .stuck) = _
  rw [lcF_yes (xs.map enc) ((List.range xs.length).map res) (by
    rw [List.map_map, List.map_map]
    refine List.ext_getElem (by simp) fun i h1 h2 => ?_
    have hi : i < xs.length := by simpa using h1
    simp only [List.getElem_map, Function.comp, List.getElem_range]
    exact hs i _ (List.getElem?_eq_getElem hi))]
  show (if (xs.map enc).length ≤ LIM then R.ok _ else .stuck) = _
  rw [if_pos (by rw [List.length_map]; exact hl)]
end
section
variable {α : Type} {i j : Int} {p : Prop} [Decidable p]
theorem dec_t (h : p) : decide p = true := decide_eq_true h
theorem dec_f (h : ¬p) : decide p = false := decide_eq_false h
theorem dIx_mapI [Inhabited α] {xs : List α} {enc : α → D} (h0 : 0 ≤ i) (h1 : i < xs.length) : dIx (.lst (xs.map enc)) (.int i) = .ok (enc xs[i.toNat]!) := by
  refine dIx_lst ?_
  have hi : i.toNat < xs.length := by omega
  unfold atI
  rw [ixN_i h0 (by rw [List.length_map]; exact h1)]
  show (xs.map enc)[i.toNat]? = _
  rw [List.getElem?_map, List.getElem?_eq_getElem hi]
  simp [hi]
theorem dIx_mapL [Inhabited α] {xs : List α} {enc : α → D} (h : 0 < xs.length) : dIx (.lst (xs.map enc)) (.int (-1)) = .ok (enc xs[xs.length - 1]!) := by
  refine dIx_lst (atI_l ?_)
  have hi : xs.length - 1 < xs.length := by omega
  rw [List.length_map, List.getElem?_map, List.getElem?_eq_getElem hi]
  simp [hi]
theorem dDivmod_w {i j : Int} {a : Nat} (h : 0 < j) (h' : j.natAbs < 2 ^ a) (ha : a ≤ 9000) : dDivmod [.int i, .int j] = .ok (.tup [.int (i / j), .int (i % j)]) := by
  have e : decide (j.natAbs.log2 < 9000) = true := decide_eq_true (by
    have := (Nat.log2_lt (n := j.natAbs) (k := a) (by omega)).mpr h'
    omega)
  show (if (decide (0 < j) && decide (j.natAbs.log2 < 9000)) = true then R.ok (D.tup [.int (i / j), .int (i % j)]) else .stuck) = _
  rw [e, decide_eq_true h]
  rfl
theorem dDivmod_i {i j : Int} (h : 0 < j) (h' : j < 18446744073709551616) : dDivmod [.int i, .int j] = .ok (.tup [.int (i / j), .int (i % j)]) := dDivmod_w (a := 64) h (by omega) (by decide)
def Sm (i : Int) (a : Nat) : Prop := 0 ≤ i ∧ i < (2 : Int) ^ a
theorem pow2_le {a b : Nat} (h : a ≤ b) : (2 : Int) ^ a ≤ 2 ^ b := by
  have := Nat.pow_le_pow_right (show 0 < 2 by decide) h
  exact_mod_cast this
theorem Sm.mono {i : Int} {a b : Nat} (h : Sm i a) (l : a ≤ b) : Sm i b := ⟨h.1, Int.lt_of_lt_of_le h.2 (pow2_le l)⟩
theorem Sm.le {i j : Int} {a : Nat} (h : Sm j a) (h0 : 0 ≤ i) (l : i ≤ j) : Sm i a := ⟨h0, Int.lt_of_le_of_lt l h.2⟩
theorem rngL_0 {n : Nat} : rngL 0 n = (List.range n).map fun (k : Nat) => D.int (k : Nat) := by
  unfold rngL
  refine List.map_congr_left fun k _ => ?_
  rw [Int.zero_add]
theorem oAdd_l {xs ys : List D} (h : xs.length + ys.length ≤ 16777216) : oAdd (.lst xs) (.lst ys) = .ok (xs ++ ys) := if_pos h
theorem dAdd_l {xs ys : List D} (h : xs.length + ys.length ≤ 16777216) : dAdd (.lst xs) (.lst ys) = .ok (.lst (xs ++ ys)) := if_pos h
theorem dInt_i {i : Int} : dInt [.int i] = .ok (.int i) := rfl
theorem dInt_b {b : Bool} : dInt [.bl b] = .ok (.int (if b = true then 1 else 0)) := by cases b <;> rfl
theorem gTp_t {n : Nat} {hs : Tgs} {ds : List D} {Γ : DL.Env} : gTp n hs (.tup ds) Γ = if ds.length = n then hs ds Γ else none := rfl
theorem isi_ii {i : Int} : dIsi [.int i, .ty "int"] = .ok (.bl true) := rfl
theorem isi_ib {i : Int} : dIsi [.int i, .ty "bool"] = .ok (.bl false) := rfl
theorem isi_bb {b : Bool} : dIsi [.bl b, .ty "bool"] = .ok (.bl true) := rfl
theorem isi_bi {b : Bool} : dIsi [.bl b, .ty "int"] = .ok (.bl true) := rfl
theorem isi_ll {ds : List D} : dIsi [.lst ds, .ty "list"] = .ok (.bl true) := rfl
theorem isi_tt {ds : List D} : dIsi [.tup ds, .ty "tuple"] = .ok (.bl true) := rfl
theorem isi_ss {z : Str} : dIsi [.str z, .ty "str"] = .ok (.bl true) := rfl
theorem isi_lt {ds : List D} : dIsi [.lst ds, .ty "tuple"] = .ok (.bl false) := rfl
theorem isi_nt : dIsi [.non, .ty "tuple"] = .ok (.bl false) := rfl
end
end DL
namespace HLX
open PySem PySem.Spec L2
section
variable {X : Cx} {s : Shared} {H : Hp} {scope : Scope} {cenv : Env} {fp : List Addr} {E : XK} {pn : List (Addr × Obj)} {σ : St} {H' : Hp} {s' : Shared}
end
section
variable {X : Cx} {pins : List (Addr × Obj)} {σ : St} {H2 : Hp} {s2 s' : Shared} {E : XK} {W : WX} {u : Value} {C : Addr} {m : Str → Option Value} {cenv : Env}
end
section
variable {X : Cx} {W : WX}
end
end HLX
namespace DL
open PySem PySem.Spec L2
section
variable {X : Cx} {W : WX}
end
section
variable {α : Type} {h : Tg} {fe : DL.Env → R D} {Γ : DL.Env} {vs : List Nat} {fi : DL.Env → R (List D)}
end
end DL
namespace DL
open PySem PySem.Spec L2
end DL
namespace DL
open PySem PySem.Spec L2
def Idt (v : V) : Prop := flatB v = true ∨ ∃ a, v = V.ref a
def HKs (F : Hp) (σ : St) : List Nat → List Addr → Prop
  | [], Bs => Bs = []
  | k :: ks, Bs => ∃ B r a vs, Bs = B :: r ∧ σ[k]? = some (some (V.ref a)) ∧ F a = some (.lst vs) ∧ F B = some (.lst vs) ∧ (∀ v ∈ vs, Idt v) ∧ HKs F σ ks r
def HK (i : Nat) (ks : List Nat) (σ : St) (F : Hp) : Prop := ∃ A Bs, σ[i]? = some (some (V.ref A)) ∧ F A = some (.lst (Bs.map V.ref)) ∧ HKs F σ ks Bs
theorem HKs.mono {F F' : Hp} {σ σ' : St} (s : Same F F') : ∀ {ks : List Nat} {Bs : List Addr}, (∀ k ∈ ks, σ'[k]? = σ[k]?) → HKs F σ ks Bs → HKs F' σ' ks Bs
  | [], _, _, h => h
  | k :: ks, Bs, hk, h => by
    obtain ⟨B, r, a, vs, e, e1, e2, e3, e4, e5⟩ := h
    exact ⟨B, r, a, vs, e, by rw [hk k List.mem_cons_self]; exact e1, s _ _ e2, s _ _ e3, e4, HKs.mono s (fun j hj => hk j (List.mem_cons_of_mem _ hj)) e5⟩
theorem HK.mono {i : Nat} {ks : List Nat} {F F' : Hp} {σ σ' : St} (h : HK i ks σ F) (s : Same F F') (hi : σ'[i]? = σ[i]?) (hk : ∀ k ∈ ks, σ'[k]? = σ[k]?) : HK i ks σ' F' := by
  obtain ⟨A, Bs, e1, e2, e3⟩ := h
  exact ⟨A, Bs, by rw [hi]; exact e1, s _ _ e2, e3.mono s hk⟩
theorem HKs.len {F : Hp} {σ : St} : ∀ {ks : List Nat} {Bs : List Addr}, HKs F σ ks Bs → Bs.length = ks.length
  | [], _, h => by have h : _ = [] := h; simp [h]
  | _ :: _, _, ⟨_, _, _, _, e, _, _, _, _, h⟩ => by rw [e, List.length_cons, List.length_cons, h.len]
section
variable {X : Cx} {W : WX}
variable {e : Expr} {es : List Expr} {rest : List Stmt} {g : DL.Env → Out} {f : DL.Env → R D} {pos p : Pos}
end
end DL
namespace DL
open PySem PySem.Spec L2
section
variable {X : Cx} {W : WX} {pins : List (Addr × Obj)} {σ : St} {H : Hp} {s : Shared}
end
end DL
namespace DL
open PySem PySem.Spec L2
inductive OV where
  | o (ds : List D) | v (d : D)
abbrev repE (K : PySem.W.Frag) (mg : Str → Option Value) : Hp → Hp → Hp → OV → V → Prop := fun H F' H' o v => match o with
  | .o ds => OwnL K mg H F' H' ds v
  | .v d => Rp K mg F' d v
def spE (K : PySem.W.Frag) (mg : Str → Option Value) (n : Nat) (mf : List D → R OV) : Sp := fun vs H Q E => ∃ F ds, ds.length = n ∧ Fz F H ∧ RpL K mg F ds vs ∧ PostG K mg (repE K mg) F H E Q (mf ds)
def KnE (P : Program) (w : World) (K : PySem.W.Frag) (mg : Str → Option Value) (base : Heap) (k : Nat) (x : Str) (n : Nat) (mf : List D → R OV) : Prop :=
  ∃ (f : Addr) (fd : FuncData) (ps : List Str), mg x = some (.ref f) ∧ PySem.W.keepIn K (.ref f) = true ∧ Binds K fd ps [] ∧ FnOk P w K mg base (L2.CX P w) k f fd ps (spE K mg n mf)
def eiV (m : List D → R OV) : List D → R D := fun ds => (m ds).bind fun o => match o with
  | .o xs => .ok (.lst xs)
  | .v d => .ok d
section
variable {X : Cx} {W : WX} {j k n : Nat} {x : Str} {e : Expr} {es : List Expr} {p pos : Pos} {fs : DL.Env → R (List D)} {f : DL.Env → R OV}
end
section
variable {P : Program} {w : World} {K : PySem.W.Frag} {mg : Str → Option Value} {base : Heap} {x qual : Str} {params : Arguments} {body : List Stmt} {scope : Scope} {f : Addr} {fd : FuncData} {N ps : List Str} {k n : Nat} {g : DL.Env → Out}
theorem KnE.kn {mf : List D → R OV} (h : KnE P w K mg base k x n mf) : Kn P w K mg base k x n (eiV mf) := by
  obtain ⟨f, fd, ps, hm, hk, hb, G⟩ := h
  refine ⟨f, fd, ps, hm, hk, hb, G.imp fun vs H Q E q => ?_⟩
  obtain ⟨F, ds, l, z, r, p⟩ := q
  refine ⟨F, ds, l, z, r, ?_⟩
  revert p
  unfold eiV
  cases mf ds with
  | ok o =>
    cases o with
    | o ds =>
      intro p v F1 H1 x1 r1
      obtain ⟨F2, x2, r2, _⟩ := frzO x1 r1
      exact p v F2 H1 x2 r2
    | v d =>
      intro p v F1 H1 x1 r1
      exact p v F1 H1 x1 r1
  | exc x => exact fun p => p
  | stuck => exact fun p => p
end
end DL
namespace DL
open PySem PySem.Spec L2
section
variable {P : Program} {w : World} {K : PySem.W.Frag} {mg : Str → Option Value} {base : Heap} {x qual : Str} {params : Arguments} {body : List Stmt} {scope : Scope} {f : Addr} {fd : FuncData} {N ps : List Str} {k : Nat} {g : DL.Env → Out}
end
section
variable {X : Cx} {W : WX} {j k n : Nat} {c f g m : Str} {e e2 o : Expr} {es : List Expr} {p pos pos2 apos : Pos} {fs : DL.Env → R (List D)} {fo : DL.Env → R D} {tb : List (Str × (List D → R (List D)))}
end
end DL
namespace DL
open PySem PySem.Spec L2
section
variable {X : Cx} {W : WX} {e : Expr} {rest : List Stmt} {g : DL.Env → Out} {f : DL.Env → R OV} {pos p : Pos}
end
end DL
namespace DL
open PySem PySem.Spec PyProof.Rows L2
section
variable {X : Cx}
end
end DL
namespace DL
open PySem PySem.Spec L2
section
variable {X : Cx}
theorem op_eqL (hu : X.A.units + 64 < cLine) : OpR X (compareOp .Eq) (fun x y H Q => ∃ a b xs ys, x = .ref a ∧ y = .ref b ∧ SqL X.K H a xs ∧ SqL X.K H b ys ∧ xs.length ≠ ys.length ∧ Q (.bl false) H) := by
  intro pins s σ H x y v u Q I rx ry h
  obtain ⟨a, b, xs, ys, rfl, rfl, h1, h2, hl, q⟩ := h
  cases rx
  cases ry
  obtain ⟨its, r, ht, hz⟩ := I.list h1
  obtain ⟨its2, r2, ht2, hz2⟩ := I.list h2
  have e1 := r.length
  have e2 := r2.length
  exact SeqAt.RcAt.lists_lengths ht.isList ht2.isList (by rw [List.size_toArray, List.size_toArray, bne_iff_ne]; omega) (by omega) X.prog X.w _ _ ⟨V.bl false, H, I, rfl, q⟩
def dEqN : D → D → R D
  | .lst (_ :: _), .lst [] => .ok (.bl false)
  | x, y => dEq x y
theorem op_eqN (hu : X.A.units + 64 < cLine) : OpR X (compareOp .Eq) (fun x y H Q => (∃ a b xs ys, x = .ref a ∧ y = .ref b ∧ SqL X.K H a xs ∧ SqL X.K H b ys ∧ xs.length ≠ ys.length ∧ Q (.bl false) H) ∨ (rEq x y H Q ∨ rEqD X.K x y H Q)) := (op_eqL hu).or (opEq hu)
theorem sat_eqN : Sat2 X (fun x y H Q => (∃ a b xs ys, x = .ref a ∧ y = .ref b ∧ SqL X.K H a xs ∧ SqL X.K H b ys ∧ xs.length ≠ ys.length ∧ Q (.bl false) H) ∨ (rEq x y H Q ∨ rEqD X.K x y H Q)) dEqN := by
  intro F H x y v u E Q z rx ry p
  have old : PostG X.K X.mg (repV X.K X.mg) F H E Q (dEq x y) → (∃ a b xs ys, v = .ref a ∧ u = .ref b ∧ SqL X.K H a xs ∧ SqL X.K H b ys ∧ xs.length ≠ ys.length ∧ Q (.bl false) H) ∨ (rEq v u H Q ∨ rEqD X.K v u H Q) := fun p => Or.inr (sat_eq F H x y v u E Q z rx ry p)
  cases x with
  | lst xs =>
    cases xs with
    | nil => exact old p
    | cons x xs =>
      cases y with
      | lst ys =>
        cases ys with
        | cons y ys => exact old p
        | nil =>
          obtain ⟨a, vs, e1, e2, e3⟩ := rx.lstH z
          obtain ⟨b, us, g1, g2, g3⟩ := ry.lstH z
          have l1 := e3.length
          have l2 := g3.length
          exact .inl ⟨a, b, vs, us, e1, g1, SqL.of e2, SqL.of g2, by rw [← l1, ← l2]; simp, PostG.ok p z Rp.bl⟩
      | _ => exact old p
  | _ => exact old p
end
end DL
namespace HTs
open PySem PySem.Spec PyProof.Rows L2
section
variable {P : Program} {w : World} {A : Around} {E : Value → Shared → Prop} {s : Shared}
abbrev hT (P : Program) (w : World) (k : List Key) : Int := tupleKeyHash (mixKind P w) k
abbrev Tk (P : Program) (w : World) (h : Heap) (k : List Key) (b : Addr) : Prop := IsTupleKey (mixKind P w) h k b
theorem sc_items {k : List Key} {vs : List Value} (h : ItemsAre (mixKind P w) k vs) : ∀ v ∈ vs, (∃ i t, v = Value.int i t) ∨ ∃ x t, v = Value.str x t := by
  induction h with
  | nil => exact fun v q => nomatch q
  | @cons c u ks us h1 _ ih =>
    intro v q
    cases q with
    | head =>
      rcases keyIs_shape (show keyIs c u = true from h1) with ⟨i, t, _, e⟩ | ⟨x, t, _, e⟩
      · exact .inl ⟨i, t, e⟩
      · exact .inr ⟨x, t, e⟩
    | tail _ q => exact ih v q
theorem ask_none {β : Type} {step : Value → Option β × Unit → Sem (ForInStep (Option β × Unit))} {Q : Option β × Unit → Shared → Prop} {its : Array Value}
    (hs : ∀ v ∈ its.toList, ∀ (Q' : ForInStep (Option β × Unit) → Shared → Prop), Q' (.yield (none, ())) s → wpAny (model P w) A (step v (none, ())) Q' E s) (q : Q (none, ()) s) :
    wpAny (model P w) A (forIn its ((none, ()) : Option β × Unit) step) Q E s := by
  rw [← Array.forIn_toList]
  refine wpAny_forIn_list _ (fun l r s' => (∀ v ∈ l, v ∈ its.toList) ∧ r = (none, ()) ∧ s' = s) _ ?_ ?_ _ _ ⟨fun _ h => h, rfl, rfl⟩
  · rintro v l r s' ⟨h1, rfl, rfl⟩
    exact hs v (h1 v List.mem_cons_self) _ ⟨fun u hu => h1 u (List.mem_cons_of_mem _ hu), rfl, rfl⟩
  · rintro r s' ⟨_, rfl, rfl⟩
    exact q
theorem cls_sc (n : Nat) {v : Value} (h : (∃ i t, v = Value.int i t) ∨ ∃ x t, v = Value.str x t) : ofAClassStatement n v = pure false := by
  rcases h with ⟨i, t, e⟩ | ⟨x, t, e⟩ <;> rw [e] <;> cases n <;> rfl
theorem cls_tup {k : List Key} {b : Addr} {Q : Bool → Shared → Prop} (hk : Tk P w s.heap k b) (q : Q false s) : wpAny (model P w) A (ofAClassStatement 8 (.ref b)) Q E s := by
  have ty := hk.typeIs
  obtain ⟨o, its, n, ho, _, hd, hi⟩ := hk
  unfold ofAClassStatement
  refine wpAny_bind (wpAny_typeOf ty ?_)
  dsimp only
  have e : (("tuple" : String) == "tuple") = true := by decide
  simp only [e, if_true, Bool.not_true, Bool.false_eq_true, if_false]
  try refine wpAny_bind (wpAny_pure ?_)
  try simp only [Bool.not_true, Bool.false_eq_true, if_false]
  refine wpAny_bind (wpAny_seqItems ho hd ?_)
  dsimp only
  refine wpAny_bind (ask_none (fun v hv Q' q' => ?_) ?_)
  · rw [cls_sc _ (sc_items hi v hv)]
    refine wpAny_bind (wpAny_pure ?_)
    rw [if_neg Bool.false_ne_true]
    exact wpAny_pure q'
  · exact wpAny_pure q
theorem hash_tup {k : List Key} {b : Addr} {Q : Bool → Shared → Prop} (hk : Tk P w s.heap k b) (q : ∀ c, Q c s) : wpAny (model P w) A (hashByValue 8 (.ref b)) Q E s := by
  have ty := hk.typeIs
  obtain ⟨o, its, n, ho, _, hd, hi⟩ := hk
  unfold hashByValue
  refine wpAny_bind (wpAny_specialOf ty F.slot_tuple_hash.lookup ?_)
  refine wpAny_bind (wpAny_seqItems ho hd ?_)
  refine wpAny_bind ?_
  show wpAny _ _ (forIn its _ _) _ _ s
  rw [← Array.forIn_toList]
  refine wpAny_forIn_list _ (fun l r s' => (∀ v ∈ l, v ∈ its.toList) ∧ s' = s) _ ?_ ?_ _ _ ⟨fun _ h => h, rfl⟩
  · rintro v l r s' ⟨h1, rfl⟩
    rcases sc_items hi v (h1 v List.mem_cons_self) with ⟨i, t, e⟩ | ⟨x, t, e⟩ <;> subst e
    · refine wpAny_bind (wpAny_pure ?_)
      exact wpAny_pure ⟨fun u hu => h1 u (List.mem_cons_of_mem _ hu), rfl⟩
    · refine wpAny_bind (wpAny_pure ?_)
      exact wpAny_pure (wpAny_pure (q _))
  · rintro ⟨r, _⟩ s' ⟨_, rfl⟩
    cases r with
    | none => exact wpAny_pure (q _)
    | some c => exact wpAny_pure (q _)
theorem unseen {k : List Key} {b : Addr} {Q : Bool → Shared → Prop} (hk : Tk P w s.heap k b) {ys : List Value} (hy : ∀ y ∈ ys, ∃ k' c, y = Value.ref c ∧ Tk P w s.heap k' c) (q : Q false s) : wpAny (model P w) A (searchCouldBeSeen (.ref b) ys) Q E s := by
  unfold searchCouldBeSeen
  refine wpAny_bind (wpAny_forIn_list _ (fun l r s' => (∀ y ∈ l, ∃ k' c, y = Value.ref c ∧ Tk P w s.heap k' c) ∧ r = (none, ()) ∧ s' = s) _ ?_ ?_ _ _ ⟨hy, rfl, rfl⟩)
  · rintro v l r s' ⟨h1, rfl, rfl⟩
    obtain ⟨k', c, rfl, hc⟩ := h1 v List.mem_cons_self
    have h2 := fun u hu => h1 u (List.mem_cons_of_mem _ hu)
    dsimp only
    by_cases e : (b == c || (carriedByValue (.ref b) && carriedByValue (.ref c))) = true
    · exact wp_if_pos e (wpAny_pure ⟨h2, rfl, rfl⟩)
    · refine wp_if_neg e (wpAny_bind (wpAny_eqIsQuiet_tuple hk ?_))
      simp only [Bool.not_true, Bool.false_eq_true, if_false]
      refine wpAny_bind (wpAny_eqIsQuiet_tuple hc ?_)
      simp only [Bool.not_true, Bool.false_eq_true, if_false]
      refine wpAny_bind (cls_tup hk ?_)
      simp only [Bool.false_eq_true, if_false]
      refine wpAny_bind (cls_tup hc ?_)
      simp only [Bool.false_eq_true, if_false]
      exact wpAny_pure ⟨h2, rfl, rfl⟩
  · rintro r s' ⟨_, rfl, rfl⟩
    exact wpAny_pure q
structure St (P : Program) (w : World) (h : Heap) (a : Addr) (L : List (Addr × List Key)) (es : Array (Int × Value)) (ep : Nat) (t : SetTable) : Prop where
  ob : ∃ o, h.get? a = some o ∧ o.ExactSet ∧ o.data = .set es ep t
  row : ∀ e ∈ es.toList, ∃ p ∈ L, e = (hT P w p.2, Value.ref p.1)
  pm : (es.toList.map (·.2)).Perm (L.map fun p => Value.ref p.1)
  tab : TabOk t (es.toList.map (·.1))
  tk : ∀ p ∈ L, Tk P w h p.2 p.1
  led : w.params.followText "set-order" = true ∨ t.led = true
  room : L.length * 5 < t.mask * 3
  few : L.length < 64
variable {a : Addr} {L : List (Addr × List Key)} {es : Array (Int × Value)} {ep : Nat} {t : SetTable}
theorem St.sz (R : St P w s.heap a L es ep t) : es.size = L.length := by
  have := R.pm.length_eq
  simpa using this
theorem St.fit (R : St P w s.heap a L es ep t) : t.fits es.size = true := by
  have h1 : t.place.size = es.size := by rw [R.tab.sz]; simp
  have h2 := R.sz
  have h3 := R.room
  simp only [SetTable.fits, SetTable.fill, R.tab.dm, Bool.and_eq_true, beq_iff_eq, decide_eq_true_eq]
  show t.place.size = es.size ∧ t.place.size + 0 ≤ t.mask
  omega
theorem nth_dum (m : Nat) : ∀ (n : Nat) (p : SetTable.Probe), p.dummy = none → (nth m p n).dummy = none
  | 0, _, h => h
  | n + 1, p, h => nth_dum m n (adv m p) (by unfold adv; split <;> exact h)
abbrev p0 (t : SetTable) (h : Int) : SetTable.Probe := runAt t.mask (SetTable.bits h % (t.mask + 1)) (SetTable.bits h)
theorem seek (R : St P w s.heap a L es ep t) {x : Addr} {k : List Key} (hx : Tk P w s.heap k x) (nw : ∀ p ∈ L, p.2 ≠ k) (hu : A.units < cLine) {K : Nat} (K1 : K < 10 * SetTable.turns t.mask)
    (K2 : way t.mask (hT P w k) K ∉ t.place.toList) (K3 : ∀ c, c < K → way t.mask (hT P w k) c ∈ t.place.toList) {Q : SetFound → Shared → Prop} (q : Q (.free (way t.mask (hT P w k) K) false) s) :
    ∀ (f c : Nat) (z : Option SetTable.Probe), z.getD (t.probeStart (hT P w k)) = nth t.mask (p0 t (hT P w k)) c → c ≤ K → K - c < f → wpAny (model P w) A (setSearchFrom a (.ref x) (hT P w k) true f z) Q E s
  | 0, _, _, _, _, h => absurd h (Nat.not_lt_zero _)
  | f + 1, c, z, hz, hc, hf => by
    obtain ⟨o, ho, hex, hd⟩ := R.ob
    rw [setSearchFrom_succ]
    refine wpAny_bind (wpAny_setState_of ho hd R.fit ?_)
    dsimp only
    refine wp_if_neg (by unfold SetTable.gaveWay; rw [mask_odd R.tab.mok]; decide) ?_
    try refine wpAny_bind (wpAny_pure ?_)
    have on : ∀ i, nth t.mask (nth t.mask (p0 t (hT P w k)) c) i = nth t.mask (p0 t (hT P w k)) (c + i) := fun i => (nth_add t.mask c _ i).symm
    have onj : ∀ i, (nth t.mask (nth t.mask (p0 t (hT P w k)) c) i).j = way t.mask (hT P w k) (c + i) := fun i => congrArg SetTable.Probe.j (on i)
    have eK : c + (K - c) = K := by omega
    rcases go_spec t R.tab.ris R.tab.dm (fun i => (es[i]?.map (·.1)).getD 0) (hT P w k) (10 * SetTable.turns t.mask) (K - c) (nth t.mask (p0 t (hT P w k)) c) (nth_dum _ _ _ rfl) (by omega)
      (fun i hi => by rw [onj]; exact K3 _ (by omega)) (by rw [onj, eK]; exact K2) with ⟨i, n, hi, hn, _, _, hp⟩ | ⟨_, hp⟩
    · have hp : t.probe (fun i => (es[i]?.map (·.1)).getD 0) (hT P w k) (z.getD (t.probeStart (hT P w k))) = some (.candidate (way t.mask (hT P w k) (c + i)) n (nth t.mask (p0 t (hT P w k)) (c + (i + 1)))) := by
        rw [hz, ← onj, ← on]
        exact hp
      rw [hp]
      dsimp only
      rw [onj] at hn
      have nl : n < es.size := by
        have h1 : n < t.place.toList.length := (List.getElem?_eq_some_iff.mp hn).1
        have h2 := R.tab.sz
        simp only [List.length_map, Array.length_toList] at h1 h2
        omega
      have he : es[n]? = some es[n] := Array.getElem?_eq_getElem nl
      obtain ⟨p, pL, ee⟩ := R.row es[n] (Array.getElem_mem_toList nl)
      rw [ee] at he
      have ne : decide (p.2 = k) = false := decide_eq_false (nw p pL)
      have go : wpAny (model P w) A (searchRest a (.ref x) (hT P w k) true f es t (way t.mask (hT P w k) (c + i)) n (nth t.mask (p0 t (hT P w k)) (c + (i + 1)))) Q E s := by
        unfold searchRest
        rw [he]
        dsimp only
        refine wpAny_bind (wpAny_holding (wpAny_eqBool_tuple hu (R.tk p pL) hx ?_))
        refine wpAny_bind (wpAny_setState_of ho hd R.fit ?_)
        dsimp only
        rw [ne]
        refine wp_if_neg (by decide) ?_
        try refine wpAny_bind (wpAny_pure ?_)
        rw [sameMem]
        dsimp only
        rw [if_pos rfl, slot_live R.tab.ris hn]
        dsimp only
        rw [he]
        dsimp only
        refine wpAny_bind (wpAny_isSame_ref_self ?_)
        refine wpAny_bind (wpAny_pure ?_)
        rw [if_pos rfl]
        refine wp_if_neg Bool.false_ne_true ?_
        exact seek R hx nw hu K1 K2 K3 q f (c + (i + 1)) _ rfl (by omega) (by omega)
      by_cases hl : t.led = true
      · refine wp_if_neg (by rw [hl]; decide) ?_
        try refine wpAny_bind (wpAny_pure ?_)
        exact go
      · refine wp_if_pos (by simpa using hl) ?_
        refine wpAny_bind (unseen hx (fun y hy => ?_) ?_)
        · obtain ⟨e, he, rfl⟩ := List.mem_map.mp hy
          have he : e ∈ es.toList := by
            have : e ∈ es ∧ e.1 = hT P w k := by simpa using he
            simpa using this.1
          obtain ⟨p, pL, rfl⟩ := R.row e he
          exact ⟨_, _, rfl, R.tk p pL⟩
        · refine wp_if_neg (by decide) ?_
          try refine wpAny_bind (wpAny_pure ?_)
          exact go
    · have hp : t.probe (fun i => (es[i]?.map (·.1)).getD 0) (hT P w k) (z.getD (t.probeStart (hT P w k))) = some (.empty (way t.mask (hT P w k) K) none) := by
        rw [hz, ← congrArg (way t.mask (hT P w k)) eK, ← onj]
        exact hp
      rw [hp]
      exact wpAny_pure q
theorem tk_but {h h' : Heap} {k : List Key} {b : Addr} {o : Obj} (hb : Tk P w h k b) (ho : h.get? a = some o) (hd : o.data = .set es ep t) (sb : Heap.SameBut a h h') : Tk P w h' k b := by
  obtain ⟨o', its, n, ho', r⟩ := hb
  refine ⟨o', its, n, (sb.2 b fun e => ?_).trans ho', r⟩
  subst e
  have e : o' = o := Option.some.inj (ho'.symm.trans ho)
  have r2 := r.2.1
  rw [e, hd] at r2
  exact nomatch r2
theorem tk_keep {h h' : Heap} {k : List Key} {b : Addr} (hb : Tk P w h k b) (kp : ∀ c o, h.get? c = some o → h'.get? c = some o) : Tk P w h' k b :=
  hb.elim fun o q => q.elim fun its q => q.elim fun n q => ⟨o, its, n, kp b o q.1, q.2⟩
theorem pick_hash (es : Array (Int × Value)) : ∀ l : List Nat, (∀ i ∈ l, i < es.size) → (l.filterMap fun i => es[i]?).map (·.1) = l.map fun i => (es.map (·.1)).getD i 0
  | [], _ => rfl
  | i :: l, h => by
    have hi := h i List.mem_cons_self
    have e : es[i]? = some es[i] := Array.getElem?_eq_getElem hi
    rw [List.filterMap_cons_some e, List.map_cons, List.map_cons, pick_hash es l fun j hj => h j (List.mem_cons_of_mem _ hj)]
    congr 1
    rw [Array.getD_eq_getD_getElem?, Array.getElem?_map, e]
    rfl
theorem grow_at {o : Obj} (ho : s.heap.get? a = some o) (hex : o.ExactSet) (hd : o.data = .set es ep t) (row : ∀ e ∈ es.toList, ∃ p ∈ L, e = (hT P w p.2, Value.ref p.1)) (pm : (es.toList.map (·.2)).Perm (L.map fun p => Value.ref p.1))
    (sz : t.place.size = es.size) (dm : t.dummies = #[]) (ml : es.size ≤ t.mask) (tk : ∀ p ∈ L, Tk P w s.heap p.2 p.1) (led : w.params.followText "set-order" = true ∨ t.led = true) (few : L.length < 64) {m M : Nat}
    (hm : SetTable.sizeAbove m - 1 = M) (mo : MaskOk M) (h128 : SetTable.sizeAbove m ≤ 128) (room : L.length * 5 < M * 3) {Q : Unit → Shared → Prop}
    (q : ∀ h' es' ep' t', Heap.SameBut a s.heap h' → St P w h' a L es' ep' t' → Q () { s with heap := h' }) : wpAny (model P w) A (setRelay a m) Q E s := by
  have nL : es.size = L.length := by simpa using pm.length_eq
  have fit : t.fits es.size = true := by
    simp only [SetTable.fits, SetTable.fill, dm, Bool.and_eq_true, beq_iff_eq, decide_eq_true_eq]
    show t.place.size = es.size ∧ t.place.size + 0 ≤ t.mask
    omega
  obtain ⟨t', od, e, po, T, em, el, _, _⟩ := relaid_ok t (hs := es.map (·.1)) hm mo (by rw [Array.size_map, nL]; omega)
  rw [Array.size_map] at po
  have lt : ∀ i ∈ od.toList, i < es.size := fun i hi => List.mem_range.mp (po.mem_iff.mp hi)
  have e2 : (od.filterMap (es[·]?)).toList = od.toList.filterMap fun i => es[i]? := by simp
  have ps : (od.toList.filterMap fun i => es[i]?).Perm es.toList := by
    have := po.filterMap (fun i => es[i]?)
    rwa [filterMap_getElem?_range] at this
  have s2 : (od.filterMap (es[·]?)).size = es.size := by
    rw [← Array.length_toList, e2, ps.length_eq, Array.length_toList]
  rw [← pick_hash es od.toList lt, ← e2] at T
  rw [← e2] at ps
  rw [setRelay_eq]
  refine wpAny_bind (wpAny_setState_of ho hd fit ?_)
  dsimp only
  refine wp_if_neg (by rw [sizeLine_eq]; omega) ?_
  try refine wpAny_bind (wpAny_pure ?_)
  rw [e]
  dsimp only
  refine wpAny_bind (wp_if_neg (by rw [s2, bne_self_eq_false]; decide) ?_)
  try refine wpAny_bind (wpAny_pure ?_)
  refine wpAny_pure ?_
  dsimp only
  have sb : Heap.SameBut a s.heap (s.heap.update a (Obj.putSet (od.filterMap (es[·]?)) t')) := Heap.SameBut.update ..
  refine wpAny_storeSet_of ho hd (q _ _ (ep + 1) t' sb ⟨⟨_, store_at ho hd, ⟨hex.1, hex.2.1, hex.2.2⟩, rfl⟩, fun x hx => row x (ps.mem_iff.mp hx), (ps.map _).trans pm, T, fun p pL => tk_but (tk p pL) ho hd sb, by rw [el]; exact led, by rw [em]; exact room, few⟩) (by rw [s2, nL, sizeLine_eq]; omega)
theorem add_new (R : St P w s.heap a L es ep t) {x : Addr} {k : List Key} (hx : Tk P w s.heap k x) (nw : ∀ p ∈ L, p.2 ≠ k) (hu : A.units < cLine) (few : L.length + 1 < 64) {Q : Bool → Shared → Prop}
    (q : ∀ b h' es' ep' t', Heap.SameBut a s.heap h' → St P w h' a (L ++ [(x, k)]) es' ep' t' → Q b { s with heap := h' }) : wpAny (model P w) A (setAddHashed a (.ref x) (hT P w k)) Q E s := by
  obtain ⟨o, ho, hex, hd⟩ := R.ob
  have nL := R.sz
  have room := R.room
  obtain ⟨K, K1, K2, K3⟩ := R.tab.first (by simp only [List.length_map, Array.length_toList]; omega) (hT P w k)
  have Kb : K < 100000 := by
    have : SetTable.turns t.mask ≤ 142 := by
      unfold SetTable.turns
      rcases R.tab.mok with e | e | e <;> omega
    omega
  unfold setAddHashed
  refine wpAny_holding ?_
  rw [show (100000 : Nat) = 99999 + 1 from rfl, setAddHashedIn_succ]
  refine wpAny_bind (wpAny_setState_of ho hd R.fit ?_)
  dsimp only
  refine wp_if_neg (by simp [byScan, Value.scannable]) ?_
  try refine wpAny_bind (wpAny_pure ?_)
  unfold setSearch
  refine wpAny_bind (seek R hx nw hu K1 K2 K3 ?_ 100000 0 none rfl (Nat.zero_le _) (by omega))
  dsimp only
  refine wpAny_bind (wpAny_setState_of ho hd R.fit ?_)
  dsimp only
  obtain ⟨b1, b2, b3, b4, b5, b6, b7, b8, b9⟩ := R.tab.put K2 K3
  generalize t.put (way t.mask (hT P w k) K) = tp at b1 b3 b4 b5 b6 b7 b8 b9 ⊢
  obtain ⟨t1, n⟩ := tp
  dsimp only at b1 b3 b4 b5 b6 b7 b8 b9 ⊢
  generalize SetTable.below t.place (way t.mask (hT P w k) K) = j at b1 b2 b3
  subst b1
  have hL1 : (SetTable.insertAt es n (hT P w k, Value.ref x)).toList = es.toList.take n ++ (hT P w k, Value.ref x) :: es.toList.drop n := SetTable.toList_insertAt _ _ _
  have pe : (SetTable.insertAt es n (hT P w k, Value.ref x)).toList.Perm ((hT P w k, Value.ref x) :: es.toList) := by rw [hL1]; exact put_perm _ _ _
  have eh : (SetTable.insertAt es n (hT P w k, Value.ref x)).toList.map (·.1) = (es.toList.map (·.1)).take n ++ hT P w k :: (es.toList.map (·.1)).drop n := by
    rw [hL1, List.map_append, List.map_cons, List.map_take, List.map_drop]
  rw [← eh] at b3
  have row1 : ∀ e ∈ (SetTable.insertAt es n (hT P w k, Value.ref x)).toList, ∃ p ∈ L ++ [(x, k)], e = (hT P w p.2, Value.ref p.1) := fun e he => by
    rcases List.mem_cons.mp (pe.mem_iff.mp he) with z | z
    · exact ⟨(x, k), List.mem_append_right _ List.mem_cons_self, z⟩
    · obtain ⟨p, pL, z⟩ := R.row e z
      exact ⟨p, List.mem_append_left _ pL, z⟩
  have pm1 : ((SetTable.insertAt es n (hT P w k, Value.ref x)).toList.map (·.2)).Perm ((L ++ [(x, k)]).map fun p => Value.ref p.1) := by
    refine (pe.map _).trans ?_
    rw [List.map_cons, List.map_append]
    exact ((R.pm.cons _).trans (List.perm_append_singleton _ _).symm)
  have l1 : (L ++ [(x, k)]).length = L.length + 1 := by rw [List.length_append]; rfl
  have z1 : (SetTable.insertAt es n (hT P w k, Value.ref x)).size = L.length + 1 := by
    have := pe.length_eq
    rw [Array.length_toList, List.length_cons, Array.length_toList, nL] at this
    exact this
  generalize SetTable.insertAt es n (hT P w k, Value.ref x) = es1 at pe row1 pm1 z1 b3 ⊢
  have fin : ∀ t2 : SetTable, t2.place = t1.place → t2.dummies = t1.dummies → t2.mask = t1.mask → t2.led = t1.led →
      wpAny (model P w) A (do
        storeSet a es1 t2
        if !false && t2.tooFull then setRelay a (SetTable.grown (es.size + 1))
        return true) Q E s := fun t2 c1 c2 c3 c4 => by
    have T2 : TabOk t2 (es1.toList.map (·.1)) := ⟨by rw [c1]; exact b3.ris, by rw [c2]; exact b3.dm, by rw [c1]; exact b3.sz, by rw [c3]; exact b3.mok, by rw [c1, c3]; exact b3.bd, by rw [c1, c3]; exact b3.reach⟩
    have p2 : t2.place.size = es1.size := by rw [T2.sz]; simp
    have led2 : w.params.followText "set-order" = true ∨ t2.led = true := by rw [c4, b5]; exact R.led
    have sb : Heap.SameBut a s.heap (s.heap.update a (Obj.putSet es1 t2)) := Heap.SameBut.update ..
    have o2 := store_at (es' := es1) (t' := t2) ho hd
    have tk2 : ∀ p ∈ L ++ [(x, k)], Tk P w (s.heap.update a (Obj.putSet es1 t2)) p.2 p.1 := fun p hp => by
      rcases List.mem_append.mp hp with z | z
      · exact tk_but (R.tk p z) ho hd sb
      · rw [List.mem_singleton.mp z]
        exact tk_but hx ho hd sb
    have tf : t2.tooFull = decide ((L.length + 1) * 5 ≥ t.mask * 3) := by
      unfold SetTable.tooFull SetTable.fill
      rw [T2.dm, p2, z1, c3, b4]
      rfl
    refine wpAny_bind (wpAny_storeSet_of ho hd ?_ (by rw [z1, sizeLine_eq]; omega))
    generalize s.heap.update a (Obj.putSet es1 t2) = h1 at sb o2 tk2 ⊢
    by_cases full : (L.length + 1) * 5 ≥ t.mask * 3
    · rw [tf, decide_eq_true full]
      have two : (t.mask = 7 ∧ L.length = 4) ∨ (t.mask = 31 ∧ L.length = 18) := by
        rcases R.tab.mok with e | e | e <;> rw [e] at full room
        · exact .inl ⟨e, by omega⟩
        · exact .inr ⟨e, by omega⟩
        · omega
      have go : ∀ M, SetTable.sizeAbove (SetTable.grown (es.size + 1)) - 1 = M → MaskOk M → SetTable.sizeAbove (SetTable.grown (es.size + 1)) ≤ 128 → (L.length + 1) * 5 < M * 3 → ∀ {Q' : Unit → Shared → Prop},
          (∀ h' es' ep' t', Heap.SameBut a h1 h' → St P w h' a (L ++ [(x, k)]) es' ep' t' → Q' () { s with heap := h' }) → wpAny (model P w) A (setRelay a (SetTable.grown (es.size + 1))) Q' E { s with heap := h1 } := fun M m1 m2 m3 m4 Q' q' =>
        grow_at (s := { s with heap := h1 }) o2 ⟨hex.1, hex.2.1, hex.2.2⟩ rfl row1 pm1 p2 T2.dm (by rw [z1, c3, b4]; rcases two with ⟨e, e2⟩ | ⟨e, e2⟩ <;> omega) tk2 led2 (by rw [l1]; exact few) m1 m2 m3 (by rw [l1]; exact m4) q'
      have all : ∀ {Q' : Unit → Shared → Prop}, (∀ h' es' ep' t', Heap.SameBut a h1 h' → St P w h' a (L ++ [(x, k)]) es' ep' t' → Q' () { s with heap := h' }) → wpAny (model P w) A (setRelay a (SetTable.grown (es.size + 1))) Q' E { s with heap := h1 } := fun q' => by
        rcases two with ⟨e, e2⟩ | ⟨e, e2⟩
        · exact go 31 (by rw [nL, e2, size_20]) (.inr (.inl rfl)) (by rw [nL, e2, size_20]; decide) (by omega) q'
        · exact go 127 (by rw [nL, e2, size_76]) (.inr (.inr rfl)) (by rw [nL, e2, size_76]; decide) (by omega) q'
      have q2 : ∀ h' es' ep' t', Heap.SameBut a h1 h' → St P w h' a (L ++ [(x, k)]) es' ep' t' → Q true { s with heap := h' } := fun h' es' ep' t' sb' S' => q true h' es' ep' t' (sb.trans sb') S'
      first
        | exact wpAny_bind (wp_if_pos rfl (all fun h' es' ep' t' sb' S' => wpAny_pure (q2 h' es' ep' t' sb' S')))
        | exact wp_if_pos rfl (wpAny_bind (all fun h' es' ep' t' sb' S' => wpAny_pure (q2 h' es' ep' t' sb' S')))
    · rw [tf, decide_eq_false full]
      have q2 : Q true { s with heap := h1 } := q true h1 es1 (ep + 1) t2 sb ⟨⟨_, o2, ⟨hex.1, hex.2.1, hex.2.2⟩, rfl⟩, row1, pm1, T2, tk2, led2, by rw [l1, c3, b4]; omega, by rw [l1]; exact few⟩
      first
        | exact wp_if_neg (by decide) (wpAny_pure q2)
        | exact wpAny_bind (wp_if_neg (by decide) (wpAny_pure (wpAny_pure q2)))
  have put2 : ∀ c : Bool, wpAny (model P w) A (do
        storeSet a es1 (if c = true then t1 else { t1 with plain := false })
        if !false && (if c = true then t1 else { t1 with plain := false }).tooFull then setRelay a (SetTable.grown (es.size + 1))
        return true) Q E s := fun c => by
    cases c
    · exact fin _ rfl rfl rfl rfl
    · exact fin _ rfl rfl rfl rfl
  by_cases hp : t1.plain = true
  · first
      | exact wpAny_bind (wp_if_pos hp (hash_tup hx fun c => put2 c))
      | exact wp_if_pos hp (wpAny_bind (hash_tup hx fun c => put2 c))
  · first
      | exact wpAny_bind (wp_if_neg hp (wpAny_pure (put2 true)))
      | exact wp_if_neg hp (wpAny_bind (wpAny_pure (put2 true)))
      | exact wp_if_neg hp (put2 true)
abbrev nuS (w : World) : Obj := { cls := .type "set", dict := none, data := .set #[] 0 (.fresh 0 0 (!w.params.followText "set-order")) }
theorem st_new {h : Heap} (ho : h.get? a = some (nuS w)) : St P w h a [] #[] 0 (.fresh 0 0 (!w.params.followText "set-order")) where
  ob := ⟨_, ho, ⟨rfl, rfl, rfl⟩, rfl⟩
  row := fun e he => nomatch he
  pm := .refl _
  tab := ⟨.nil, rfl, rfl, .inl rfl, fun x hx => (nomatch hx), fun i h j hi => (by cases hi)⟩
  tk := fun p hp => nomatch hp
  led := (Bool.eq_false_or_eq_true (w.params.followText "set-order")).elim .inl fun e => .inr (by show (!_) = true; rw [e]; rfl)
  room := by show 0 * 5 < 7 * 3; decide
  few := by show 0 < 64; decide
theorem St.keep {h h' : Heap} (R : St P w h a L es ep t) (ha : ∀ o, h.get? a = some o → h'.get? a = some o) (ht : ∀ p ∈ L, Tk P w h' p.2 p.1) : St P w h' a L es ep t :=
  R.ob.elim fun o q => ⟨⟨o, ha o q.1, q.2⟩, R.row, R.pm, R.tab, ht, R.led, R.room, R.few⟩
theorem upd_loop {I : Addr} {fp wr : List Addr} {G : Array GenState → Array GenState → Prop} {n : Nat} {Pv : Nat → Value → Prop} {Sx : Nat → Shared → Prop} {R : Result → Shared → Prop}
    (W : WalksS P w A.in1 I fp wr G n Pv Sx) (c : Addr) (hc : c ∉ fp) (ks : List (Addr × List Key)) (hn : n = ks.length) (few : ks.length < 64) (nd : (ks.map (·.2)).Nodup) (vl : ∀ i v, Pv i v → ∃ p, ks[i]? = some p ∧ v = .ref p.1)
    (h0 : Heap) (hk : ∀ p ∈ ks, Tk P w h0 p.2 p.1) (c0 : h0.get? c = none) (w0 : ∀ b ∈ wr, h0.get? b = none) (hu : A.in1.units < cLine) :
    ∀ (m i : Nat) (s : Shared), n - i = m → i ≤ n → Sx i s → (∀ b o, h0.get? b = some o → s.heap.get? b = some o) → (∃ es ep t, St P w s.heap c (ks.take i) es ep t) →
      (∀ s' es ep t, Moved (c :: wr) G s s' → St P w s'.heap c ks es ep t → (∀ b o, h0.get? b = some o → s'.heap.get? b = some o) → R (.ok (.ret .none)) s') →
      codeAny (model P w) A (.builtin "set.update.loop" ⟨[.ref c, .ref I], []⟩) R s := by
  have cw : c ∉ wr := fun z => hc (W.sub _ z)
  have wide : ∀ b ∈ wr, b ∈ c :: wr := fun b hb => List.mem_cons_of_mem _ hb
  have past : ∀ {s s' : Shared}, Moved wr G s s' → (∀ b o, h0.get? b = some o → s.heap.get? b = some o) → ∀ b o, h0.get? b = some o → s'.heap.get? b = some o := fun mv kp b o e =>
    mv.heap b o (fun z => by rw [w0 b z] at e; cases e) (kp b o e)
  have mem : ∀ {i : Nat} {p : Addr × List Key}, p ∈ ks.take i → p ∈ ks := fun h => List.mem_of_mem_take h
  intro m
  induction m with
  | zero =>
    intro i s hm hi hs kp ⟨es, ep, t, S⟩ hR
    have e : i = n := by omega
    subst e
    refine codeAny_builtin F.entry_set_update_loop ?_
    rw [Around.under_plainId F.plain_set_update_loop _]
    refine wpAny_bind (W.done s _ _ hs fun s' mv => ?_)
    have kp' := past mv kp
    rw [hn, List.take_length] at S
    exact wpAny_pure (hR s' es ep t (mv.mono wide) (S.keep (fun o e => mv.heap c o cw e) fun p hp => tk_keep (hk p hp) kp') kp')
  | succ m ih =>
    intro i s hm hi hs kp ⟨es, ep, t, S⟩ hR
    have lt : i < n := by omega
    refine codeAny_builtin F.entry_set_update_loop ?_
    rw [Around.under_plainId F.plain_set_update_loop _]
    refine wpAny_bind (W.item i s _ _ lt hs fun v s' hv hs' mv => ?_)
    obtain ⟨⟨x, k⟩, hp, rfl⟩ := vl i v hv
    have kp' := past mv kp
    have S' : St P w s'.heap c (ks.take i) es ep t := S.keep (fun o e => mv.heap c o cw e) fun p hp => tk_keep (hk p (mem hp)) kp'
    have hx : Tk P w s'.heap k x := tk_keep (hk _ (List.mem_of_getElem? hp)) kp'
    have et : ks.take (i + 1) = ks.take i ++ [(x, k)] := by rw [List.take_succ, hp]; rfl
    have nw : ∀ p ∈ ks.take i, p.2 ≠ k := fun p pL e => by
      have n2 : ((ks.take (i + 1)).map (·.2)).Nodup := nd.sublist ((List.take_sublist _ _).map _)
      rw [et, List.map_append, List.nodup_append] at n2
      exact n2.2.2 p.2 (List.mem_map_of_mem pL) k (List.mem_singleton.mpr rfl) e
    refine wpAny_bind (wpAny_holding ?_)
    unfold setAdd
    refine wpAny_holding (wpAny_bind (wpAny_pyHash_tuple hu hx ?_))
    refine add_new (s := { s' with toks := s'.toks + (k.length + 1) }) S' hx nw hu (by rw [List.length_take]; omega) fun b h' es' ep' t' sb S2 => ?_
    have kp2 : ∀ b o, h0.get? b = some o → h'.get? b = some o := fun b o e => (sb.2 b (fun z => by rw [z, c0] at e; cases e)).trans (kp' b o e)
    have S2 : St P w h' c (ks.take (i + 1)) es' ep' t' := by rw [et]; exact S2
    refine wpAny_pure ⟨plainId_quiet F.plain_set_update_loop _, ih (i + 1) _ (by omega) lt (W.frame _ s' _ _ hs' (Nat.le_add_right _ _) fun b hb o e => ?_) kp2 ⟨es', ep', t', S2⟩ fun s2 es2 ep2 t2 mv2 S3 kp3 => ?_⟩
    · exact (sb.2 b fun z => hc (z ▸ hb)).trans e
    · refine hR s2 es2 ep2 t2 (Moved.trans W.gtrans ((mv.mono wide).then_heap (Nat.le_add_right _ _) fun b o hb e => ?_) mv2) S3 kp3
      exact (sb.2 b fun z => hb (z ▸ List.mem_cons_self)).trans e
theorem call_set {l : Addr} {its : Array Value} (ks : List (Addr × List Key)) {Q : Value → Shared → Prop} (hh : A.handled = none) (hl : s.heap.IsList l its) (hi : its.toList = ks.map fun p => Value.ref p.1) (hk : ∀ p ∈ ks, Tk P w s.heap p.2 p.1)
    (few : ks.length < 64) (nd : (ks.map (·.2)).Nodup) (hu : A.units + 3 < cLine)
    (q : ∀ h' tk es ep t, St P w h' s.heap.objs.size ks es ep t → (∀ b o, s.heap.get? b = some o → h'.get? b = some o) → Q (.ref s.heap.objs.size) { s with heap := h', toks := tk }) :
    wpAny (model P w) A (call (.type "set") [.ref l]) Q E s := by
  have isz : its.size = ks.length := by
    have := congrArg List.length hi
    simpa using this
  obtain ⟨c, tl, hmro⟩ := F.called_set.mro
  have m1 := F.called_set.made
  have m2 := F.called_set.sub
  have m3 := F.called_set.notType
  have m4 := F.called_set.canCreate
  have m5 := F.typeCall_set_1 (.ref l)
  refine wpAny_call (codeAny_of_tree (?_ : wpAny _ _ (callAny (.type "set") _) _ _ _))
  refine wpAny_pure ⟨Code.quiet_builtin _ (by decide +kernel), codeAny_builtin F.entry_type_call ?_⟩
  rw [Around.under_plain (weight_type_call_type "set" [.ref l] []) rfl]
  repeat (any_goals (first | assumption | wp_step))
  refine codeAny_mono (code_set_led1 (.ref l) (E := E) (Q₁ := fun r s1 => r = .ref s.heap.objs.size ∧ s1 = { s with heap := s.heap.push (nuS w) }) ⟨rfl, rfl⟩) fun r s1 hr => ?_
  rcases r with e | f
  · exact hr
  cases f with
  | ret r =>
    obtain ⟨rfl, rfl⟩ := hr
    have g0 : (s.heap.push (nuS w)).get? s.heap.objs.size = some (nuS w) := Heap.get?_push_size _ rfl
    have ty : Shared.TypeIs { s with heap := s.heap.push (nuS w) } (.ref s.heap.objs.size) "set" := ⟨_, g0, rfl⟩
    have n1 := F.called_set.init.lookup
    have n2 := F.called_set.init.bind (.ref s.heap.objs.size)
    repeat (any_goals (first | assumption | wp_step))
    refine codeAny_mono (codeAny_call_builtin (R := wants (fun r s2 => r = .none ∧ ∃ h' tk es ep t, s2 = { s with heap := h', toks := tk } ∧ St P w h' s.heap.objs.size ks es ep t ∧ ∀ b o, s.heap.get? b = some o → h'.get? b = some o) E)
      F.called_set.init.plain F.entry_set_init (check_set_init_1 ty ?_)) fun r2 s2 hr2 => ?_
    · obtain ⟨⟨oc, od, odt, osl⟩, ho, hcl, nl, hdl⟩ := hl
      dsimp only at hcl hdl
      subst hcl hdl
      have gl : (s.heap.push (nuS w)).get? l = some { cls := .type "list", dict := od, data := .seq its nl, slots := osl } := Heap.get?_push_of_some _ ho
      have u1 := F.sub_list_set
      have u2 := F.sub_list_frozenset
      have u3 : (Value.type "list" == Value.type "dict") = false := by decide
      have l1 : (s.heap.push (nuS w)).IsList l its := ⟨_, gl, rfl, nl, rfl⟩
      unfold Builtin.«set.__init__» noKeywords Builtin.Frozenset.updateFrom
      generalize hPI : pyIter = PI
      wp_walk
      subst hPI
      refine wpAny_pyIter_list l1 (wpAny_bind (wpAny_runValue ?_))
      have ls : l < s.heap.objs.size := Heap.lt_size ho
      have hq : A.in1.in1.in1.handled = none := by simp [hh]
      have sz1 : (s.heap.push (nuS w)).objs.size = s.heap.objs.size + 1 := Heap.size_push ..
      have lI : l ≠ (s.heap.push (nuS w)).objs.size := fun e => by
        rw [sz1] at e
        exact Nat.ne_of_lt (Nat.lt_succ_of_lt ls) e
      have cf : s.heap.objs.size ∉ [(s.heap.push (nuS w)).objs.size, l] := by
        rw [sz1]
        intro e
        rcases List.mem_cons.mp e with e | e
        · exact Nat.ne_of_lt (Nat.lt_succ_self _) e
        · rw [List.mem_singleton.mp e] at ls
          exact Nat.lt_irrefl _ ls
      have vl : ∀ (i : Nat) (v : Value), its[i]? = some v → ∃ p, ks[i]? = some p ∧ v = .ref p.1 := fun i v hv => by
        have e : its.toList[i]? = some v := by rw [Array.getElem?_toList]; exact hv
        rw [hi, List.getElem?_map] at e
        obtain ⟨p, hp, e⟩ := Option.map_eq_some_iff.mp e
        exact ⟨p, hp, e.symm⟩
      have out : ∀ b, s.heap.objs.size ≤ b → s.heap.get? b = none := fun b hb => by
        cases e : s.heap.get? b with
        | none => rfl
        | some o => exact absurd (Heap.lt_size e) (Nat.not_lt.mpr hb)
      refine upd_loop ((Walks.list hq _ l lI its).toS) s.heap.objs.size cf ks isz few nd vl s.heap hk (out _ (Nat.le_refl _)) (fun b hb => out b (by rw [List.mem_singleton.mp hb, sz1]; exact Nat.le_succ _)) hu (its.size - 0) 0 _ (by omega) (Nat.zero_le _)
        ⟨⟨_, Heap.get?_push_size _ rfl, rfl, rfl⟩, (l1.push _)⟩ (fun b o e => Heap.get?_push_of_some _ (Heap.get?_push_of_some _ e)) ⟨#[], 0, _, st_new (Heap.get?_push_of_some _ g0)⟩ ?_
      rintro ⟨h', gs, dr, tk, os⟩ es ep t mv S kp
      obtain rfl : gs = s.gens := mv.gens
      obtain rfl : dr = s.drawn := mv.drawn
      obtain rfl : os = s.os := mv.os
      exact wpAny_pure (wpAny_pure ⟨rfl, h', tk, es, ep, t, rfl, S, kp⟩)
    · rcases r2 with e | f2
      · exact hr2
      cases f2 with
      | ret r =>
        obtain ⟨rfl, h', tk, es, ep, t, rfl, S, kp⟩ := hr2
        repeat (any_goals (first | assumption | wp_step))
        exact q _ _ _ _ _ S kp
      | _ => exact hr2.elim
  | _ => exact hr.elim
end
end HTs
namespace HTs
open PySem PySem.Spec PyProof.Rows L2
section
variable {P : Program} {w : World} {A : Around} {E : Value → Shared → Prop} {s : Shared}
abbrev Tr : Type := Addr × Int × Str
def ky (q : Tr) : Addr × List Key := (q.1, [.inl q.2.1, .inr q.2.2])
def shp : Nat → Bool := fun i => i == 1
def kl (q : Tr) : List (Int ⊕ List Nat) := [.inl q.2.1, .inr q.2.2.cps.toList]
theorem two_items {i : Int} {x : Str} {vs : List Value} (h : ItemsAre (mixKind P w) [.inl i, .inr x] vs) : ∃ t u, vs = [.int i t, .str x u] := by
  cases h with
  | cons h1 r =>
    cases r with
    | cons h2 r =>
      cases r
      rw [mixKind_is] at h1 h2
      rcases keyIs_shape h1 with ⟨j, t, e1, e2⟩ | ⟨y, t, e1, _⟩
      · rcases keyIs_shape h2 with ⟨j', t', e3, _⟩ | ⟨y, t', e3, e4⟩
        · exact nomatch e3
        · cases e1
          cases e3
          exact ⟨t, t', by rw [e2, e4]⟩
      · exact nomatch e1
theorem tk_key {h : Heap} {q : Tr} (x : Tk P w h (ky q).2 q.1) : G.tupKeyC h shp (.ref q.1) = some (kl q) ∧ ∃ t, TupOf h shp (.ref q.1) (.int q.2.1 t) := by
  obtain ⟨o, its, n, ho, hc, hd, hi⟩ := x
  obtain ⟨t, u, e⟩ := two_items hi
  have e2 : its = #[.int q.2.1 t, .str q.2.2 u] := Array.toList_inj.mp e
  subst e2
  refine ⟨?_, t, q.1, o, _, n, rfl, ho, hc, hd, rfl, fun _ => ⟨_, _, rfl⟩, fun z => nomatch z⟩
  unfold G.tupKeyC G.isTupObj tupKey
  simp only [ho, hc, hd]
  rfl
theorem kl_lt {q r : Tr} (h : q.2.1 < r.2.1) : (G.tupKindC s.heap shp).kle (kl q) (kl r) := by
  refine KeyOrd.klt_asymm (O := listOrd itemOrd) ?_
  exact lex_true.mpr (.inl (decide_eq_true h))
theorem kl_eq {q r : Tr} (h1 : (G.tupKindC s.heap shp).kle (kl q) (kl r)) (h2 : (G.tupKindC s.heap shp).kle (kl r) (kl q)) : q.2.1 = r.2.1 := by
  have e : kl q = kl r := KeyOrd.kle_antisymm (O := listOrd itemOrd) h1 h2
  injection e with e _
  exact Sum.inl.inj e
theorem one_of : ∀ {L : List Tr}, L.Pairwise (fun q r => q.2.1 < r.2.1) → ∀ q ∈ L, ∀ r ∈ L, q.2.1 = r.2.1 → q = r
  | p :: L, h, q, hq, r, hr, e => by
    rw [List.pairwise_cons] at h
    rcases List.mem_cons.mp hq with z | z <;> rcases List.mem_cons.mp hr with y | y
    · rw [z, y]
    · exact absurd e (Int.ne_of_lt (z ▸ h.1 r y))
    · exact absurd e.symm (Int.ne_of_lt (y ▸ h.1 q z))
    · exact one_of h.2 q z r y e
abbrev rf (q : Tr) : Value := .ref q.1
theorem of_refs : ∀ {vs : List Value} {L : List Tr}, (∀ v ∈ vs, ∃ q ∈ L, v = rf q) → ∃ L1 : List Tr, vs = L1.map rf ∧ ∀ q ∈ L1, q ∈ L
  | [], _, _ => ⟨[], rfl, fun q hq => nomatch hq⟩
  | v :: vs, L, h => by
    obtain ⟨q, hq, e⟩ := h v List.mem_cons_self
    obtain ⟨L1, e1, h1⟩ := of_refs (vs := vs) (L := L) fun u hu => h u (List.mem_cons_of_mem _ hu)
    exact ⟨q :: L1, by rw [List.map_cons, e, e1], fun r hr => (List.mem_cons.mp hr).elim (fun z => z ▸ hq) (h1 r)⟩
theorem tups_of {h : Heap} : ∀ {L : List Tr}, (∀ q ∈ L, ∃ t, TupOf h shp (rf q) (.int q.2.1 t)) → ∃ fs, TupsOf h shp (L.map rf) fs
  | [], _ => ⟨[], .nil⟩
  | q :: L, k => by
    obtain ⟨t, e⟩ := k q List.mem_cons_self
    obtain ⟨fs, e2⟩ := tups_of (L := L) fun r hr => k r (List.mem_cons_of_mem _ hr)
    exact ⟨_, .cons e e2⟩
theorem sorted_set {a : Addr} {L : List Tr} {es : Array (Int × Value)} {ep : Nat} {t : SetTable} (R : St P w s.heap a (L.map ky) es ep t) (lt : L.Pairwise fun q r => q.2.1 < r.2.1) (hh : A.handled = none) {Q : Value → Shared → Prop}
    (q : ∀ s' p (c : Nat), (∀ b o, s.heap.get? b = some o → s'.heap.get? b = some o) → s'.gens = s.gens → s'.os = s.os → s.heap.objs.size ≤ p → s'.heap.get? p = some (seqObj "list" (L.map rf).toArray c) → Q (.ref p) s') :
    wpAny (model P w) A (call (.builtin "sorted") [.ref a]) Q E s := by
  obtain ⟨o, ho, hex, hd⟩ := R.ob
  have sz := R.sz
  have few := R.few
  rw [List.length_map] at sz few
  have pm := R.pm
  rw [List.map_map] at pm
  have pm : (es.toList.map (·.2)).Perm (L.map rf) := pm
  refine Calls.call_function_entry kind_sorted plain_sorted entry_sorted (args_sorted1 _) ?_
  unfold Builtin.«sorted»
  refine wpAny_bind (m := checkCount "sorted" 1 1 _) (wpAny_pure ?_)
  refine wpAny_bind (collect_set (A := A.in1) hh ⟨o, ho, hex.1, hd⟩ R.fit (by unfold scanBound; omega) R.tab.ris R.led fun s1 vs k1 z1 g1 o1 pv => ?_)
  have pv := pv.trans pm
  have lv : vs.length = L.length := by rw [pv.length_eq, List.length_map]
  obtain ⟨L1, rfl, sub⟩ := of_refs (vs := vs) (L := L) fun v hv => by
    obtain ⟨r, hr, e⟩ := List.mem_map.mp (pv.mem_iff.mp hv)
    exact ⟨r, hr, e.symm⟩
  refine wpAny_bind (wpAny_newList ?_ (by rw [lv, sizeLine_eq]; omega))
  have g2 : (s1.heap.push (seqObj "list" (L1.map rf).toArray 0)).get? s1.heap.objs.size = some (seqObj "list" (L1.map rf).toArray 0) := Heap.get?_push_size _ rfl
  have tk : ∀ r ∈ L, Tk P w (s1.heap.push (seqObj "list" (L1.map rf).toArray 0)) (ky r).2 r.1 := fun r hr => tk_keep (R.tk (ky r) (List.mem_map_of_mem hr)) fun c o e => Heap.get?_push_of_some _ (k1 c o e)
  obtain ⟨fs, tf⟩ := tups_of (L := L1) fun r hr => (tk_key (tk r (sub r hr))).2
  have old : ∀ (out : Array Value) b o, s.heap.get? b = some o → (sortedHeap (s1.heap.push (seqObj "list" (L1.map rf).toArray 0)) s1.heap.objs.size (L1.map rf) out).get? b = some o := fun out b o e => by
    have e := k1 b o e
    have lt := Heap.lt_size e
    rw [sortedHeap_old (Nat.ne_of_lt lt) (by rw [size_push']; exact Nat.lt_succ_of_lt lt)]
    exact Heap.get?_push_of_some _ e
  refine wpAny_bind (wpAny_holding (wpAny_call_entry slot_list_sort ⟨_, g2, rfl⟩ entry_list_sort (G.list_sort_tups (s := { s1 with heap := s1.heap.push (seqObj "list" (L1.map rf).toArray 0) }) (shape := shp) g2 tf (fun v hv => by
    obtain ⟨r, hr, rfl⟩ := List.mem_map.mp hv
    exact ⟨_, (tk_key (tk r (sub r hr))).1⟩) (by rw [lv, sizeLine_eq]; omega) fun st' p1 p2 _ => ?_) (args_list_sort _)))
  have ps : (arrOf st').toList.Perm ((L1.map rf).zip (L1.map rf)) := by
    rw [← pairsOf_toList]
    exact p1.toList
  have asz : (arrOf st').size = (pairsOf (L1.map rf)).size := p1.size_eq
  have el : ∀ i (hi : i < (arrOf st').size), ∃ r ∈ L, (arrOf st')[i] = (rf r, rf r) := fun i hi => by
    obtain ⟨e, m⟩ := mem_zip_self (ps.mem_iff.mp (Array.getElem_mem_toList hi))
    obtain ⟨r, hr, e2⟩ := List.mem_map.mp m
    exact ⟨r, sub r hr, Prod.ext e2.symm (e.symm.trans e2.symm)⟩
  have kk : ∀ i (hi : i < (arrOf st').size) r, r ∈ L → (arrOf st')[i] = (rf r, rf r) → KK (G.tupKindC (s1.heap.push (seqObj "list" (L1.map rf).toArray 0)) shp) (arrOf st') i = kl r := fun i hi r hr e => by
    unfold KK
    rw [Array.getElem?_eq_getElem hi, e]
    show (G.tupKeyC _ shp (rf r)).getD [] = _
    rw [(tk_key (tk r hr)).1]
    rfl
  let le : Value → Value → Prop := fun v u => ∃ q ∈ L, ∃ r ∈ L, v = rf q ∧ u = rf r ∧ (G.tupKindC s.heap shp).kle (kl q) (kl r)
  have us : ((arrOf st').map (·.2)).toList.Perm (L.map rf) := by
    have := ps.map (·.2)
    rw [List.map_snd_zip (Nat.le_refl _)] at this
    rw [Array.toList_map]
    exact this.trans pv
  have same : ∀ q ∈ L, ∀ r ∈ L, rf q = rf r → q = r := fun q hq r hr e => by
    injection e with e
    have a1 := tk q hq
    have a2 := tk r hr
    rw [← e] at a2
    have e2 := a1.inj a2
    injection e2 with e2 _
    exact one_of lt q hq r hr (Sum.inl.inj e2)
  have out : ((arrOf st').map (·.2)).toList = L.map rf := by
    refine List.Perm.eq_of_pairwise (le := le) (fun v u hv hu h1 h2 => ?_) ?_ ?_ us
    · obtain ⟨q1, m1, r1, n1, rfl, rfl, k1⟩ := h1
      obtain ⟨r2, m2, q2, n2, e1, e2, k2⟩ := h2
      rw [← same _ n1 _ m2 e1, ← same _ m1 _ n2 e2] at k2
      rw [one_of lt q1 m1 r1 n1 (kl_eq k1 k2)]
    · rw [Array.toList_map, List.pairwise_map, List.pairwise_iff_getElem]
      intro i j hi hj lij
      rw [Array.length_toList] at hi hj
      obtain ⟨r1, m1, e1⟩ := el i hi
      obtain ⟨r2, m2, e2⟩ := el j hj
      refine ⟨r1, m1, r2, m2, by rw [Array.getElem_toList, e1], by rw [Array.getElem_toList, e2], ?_⟩
      have k := p2 i j (Nat.le_of_lt lij) (by rw [← asz]; exact hj)
      rw [kk i hi r1 m1 e1, kk j hj r2 m2 e2] at k
      exact k
    · rw [List.pairwise_map]
      exact lt.imp_of_mem fun {q r} hq hr h => ⟨q, hq, r, hr, rfl, rfl, kl_lt h⟩
  have out : (arrOf st').map (·.2) = (L.map rf).toArray := by rw [← out]
  rw [out]
  obtain ⟨c, hc⟩ := sortedHeap_at (vs := L1.map rf) (out := (L.map rf).toArray) g2
  exact ⟨_, rfl, wpAny_pure ⟨_, rfl, q _ s1.heap.objs.size c (old _) g1 o1 z1 hc⟩⟩
end
end HTs
namespace HTs
open PySem PySem.Spec PyProof.Rows L2
def tSortSet (K : PySem.W.Frag) (ta : TE) : TE := fun σ H Q => ta σ H fun x H1 => ∃ (l : Addr) (L : List Tr), x = V.ref l ∧ SqL K H1 l (L.map fun q => V.ref q.1) ∧ (∀ q ∈ L, SqT K H1 q.1 [.int q.2.1, .str q.2.2]) ∧ L.length < 64 ∧ L.Pairwise (fun q r => q.2.1 < r.2.1) ∧
  ∀ p, H1 p = none → Q (.ref p) (upd H1 p (.lst (L.map fun q => V.ref q.1)))
theorem tk_of {X : Cx} {pins : List (Addr × Obj)} {σ : L2.St} {H : Hp} {s : Shared} (I : Inv X pins σ H s) {q : Tr} (h : SqT X.K H q.1 [.int q.2.1, .str q.2.2]) : Tk X.prog X.w s.heap (ky q).2 q.1 := by
  obtain ⟨its, r, ⟨o, ho, hc, n, hd⟩, _⟩ := I.tuple h
  refine ⟨o, its.toArray, n, ho, hc, hd, ?_⟩
  cases r with
  | cons r1 r =>
    cases r with
    | cons r2 r =>
      cases r
      obtain ⟨t, rfl⟩ := r1
      obtain ⟨u, rfl⟩ := r2
      exact .cons (mixKind_int X.prog X.w _ t) (.cons (mixKind_str X.prog X.w _ u) .nil)
theorem refs_val : ∀ {L : List Tr} {us : List Value}, Vals (L.map fun q => V.ref q.1) us → us = L.map rf
  | [], _, .nil => rfl
  | q :: L, _, .cons r t => by
    cases r
    rw [refs_val t]
    rfl
theorem val_refs : ∀ L : List Tr, Vals (L.map fun q => V.ref q.1) (L.map rf)
  | [] => .nil
  | q :: L => .cons rfl (val_refs L)
section
variable {X : Cx}
theorem pe_sortSet {a : Expr} {ta : TE} {p p2 q pos : Pos} (hc : X.calm = true) (hu : X.A.units + 64 < cLine) (hg : Gl X "sorted") (hm : X.mg "sorted" = none) (hg2 : Gl X "set") (hm2 : X.mg "set" = none) (ha : PE X a ta)
    (na : starEach [a] X.env = (false, eval a X.env) :: starEach [] X.env := by rfl) : PE X (.Call (.Name "sorted" p) [.Call (.Name "set" p2) [a] [] q] [] pos) (tSortSet X.K ta) := by
  refine ⟨fun pins s σ H Q I h => Call_ (ld_blt I hg hm (show bootBuiltins "sorted" = some (.builtin "sorted") by decide +kernel) (callWith_builtin1 (args_cons ?_ rfl) rfl rfl))⟩
  refine Call_ (ld_blt I hg2 hm2 boot_set (callWith_type1 (args_cons (thn (ha.run pins s σ H _ I h) fun v s1 ⟨x, H1, I1, r1, q1⟩ => args_nil ?_) na) na rfl))
  obtain ⟨l, L, rfl, hq, hk, few, lt, q1⟩ := q1
  cases r1
  obtain ⟨its, r, pl, hz⟩ := I1.list hq
  have ei := refs_val r
  have nd : ((L.map ky).map (·.2)).Nodup := by
    rw [List.map_map]
    refine List.pairwise_map.mpr (lt.imp fun {a b} h e => ?_)
    have e : (ky a).2 = (ky b).2 := e
    injection e with e _
    have := Sum.inl.inj e
    omega
  refine call_set (P := X.prog) (w := X.w) (L.map ky) (I1.ok.hd hc) pl.isList (by rw [ei, List.map_map]; rfl) (fun b hb => ?_) (by rw [List.length_map]; exact few) nd (by omega) fun h' tk es ep t S k => args_nil ?_
  · obtain ⟨c, hc, rfl⟩ := List.mem_map.mp hb
    exact tk_of I1 (hk c hc)
  have I2 : Inv X pins σ H1 { s1 with heap := h', toks := tk } := I1.kept fun b o e => k b o e
  refine sorted_set (s := { s1 with heap := h', toks := tk }) S lt (I2.ok.hd hc) fun s' p c k' g o hp hg => ?_
  have hn : H1 p = none := I2.hok.fresh hp
  have ll : (L.map fun q => V.ref q.1).length ≤ sizeLine := by rw [List.length_map, sizeLine_eq]; omega
  obtain ⟨h2, g2, d2, t2, os2⟩ := s'
  dsimp only at g o hg k'
  subst o
  have J : Inv X pins σ (upd H1 p (.lst (L.map fun q => V.ref q.1))) { s1 with heap := h2, gens := g2, drawn := d2, toks := t2 } :=
    Inv.call (s := { s1 with heap := h', toks := tk }) (ch := []) I2 (Un.laid k' hp hn) (I2.hok.laid k' hp ⟨ll, L.map rf, c, val_refs L, hg⟩) (by rw [g]; exact I2.bare) (fun _ z => nomatch z)
  exact ⟨.ref p, _, J, rfl, q1 p hn⟩
end
end HTs
namespace DL
open PySem PySem.Spec L2
def trD : List D → Option (List (Int × Str))
  | [] => some []
  | .tup [.int i, .str x] :: ds => (trD ds).map ((i, x) :: ·)
  | _ => none
def risB : List (Int × Str) → Bool
  | [] => true
  | [_] => true
  | p :: q :: r => decide (p.1 < q.1) && risB (q :: r)
theorem ris_pw : ∀ {L : List (Int × Str)}, risB L = true → L.Pairwise fun p q => p.1 < q.1
  | [], _ => .nil
  | [p], _ => List.pairwise_singleton _ _
  | p :: q :: r, h => by
    obtain ⟨h1, h2⟩ := andB (show (decide (p.1 < q.1) && risB (q :: r)) = true from h)
    have ih := ris_pw h2
    refine List.pairwise_cons.mpr ⟨fun x hx => ?_, ih⟩
    have h1 := of_decide_eq_true h1
    rcases List.mem_cons.mp hx with rfl | hx
    · exact h1
    · exact Int.lt_trans h1 ((List.pairwise_cons.mp ih).1 x hx)
def oSetS1 : D → R (List D)
  | .lst ds => (match trD ds with
    | some L => if decide (L.length < 64) && risB L then .ok ds else .stuck
    | none => .stuck)
  | _ => .stuck
def oSetS (f : DL.Env → R D) : DL.Env → R (List D) := fun Γ => (f Γ).bind oSetS1
theorem tr_rp {K : PySem.W.Frag} {mg : Str → Option Value} {F H : Hp} (z : Fz F H) : ∀ {ds : List D} {L : List (Int × Str)} {vs : List V}, trD ds = some L → RpL K mg F ds vs → ∃ T : List HTs.Tr, vs = T.map (fun q => V.ref q.1) ∧ T.map (fun q => q.2) = L ∧ ∀ q ∈ T, SqT K H q.1 [.int q.2.1, .str q.2.2]
  | [], L, vs, e, r => by
    cases e
    have r : vs = [] := r
    subst r
    exact ⟨[], rfl, rfl, fun q hq => nomatch hq⟩
  | d :: ds, L, vs, e, r => by
    unfold trD at e
    split at e
    · rename_i e0
      cases e0
    · rename_i i x ds' e0
      injection e0 with e1 e2
      subst e1 e2
      obtain ⟨L', e3, e4⟩ := Option.map_eq_some_iff.mp e
      obtain ⟨v, us, rfl, r1, r2⟩ := r
      obtain ⟨T, rfl, e5, h⟩ := tr_rp z e3 r2
      obtain ⟨a, ws, rfl, ea, rw⟩ := r1.tupH z
      obtain ⟨w1, ws1, rfl, a1, rw⟩ := rw
      obtain ⟨w2, ws2, rfl, a2, rw⟩ := rw
      have rw : ws2 = [] := rw
      subst rw
      have a1 : w1 = .int i := Rp.int_iff a1
      have a2 : w2 = .str x := Rp.str_iff a2
      subst a1 a2
      refine ⟨(a, i, x) :: T, rfl, by rw [List.map_cons, e5]; exact e4, fun q hq => ?_⟩
      rcases List.mem_cons.mp hq with rfl | hq
      · exact ea
      · exact h q hq
    · cases e
section
variable {X : Cx} {W : WX} {a : Expr} {fa : DL.Env → R D} {p p2 q pos : Pos}
theorem do_sortSet (hc : X.calm = true) (hu : X.A.units + 64 < cLine) (hg : Gl X "sorted") (hm : X.mg "sorted" = none) (hg2 : Gl X "set") (hm2 : X.mg "set" = none) (ha : DE X W a fa)
    (na : starEach [a] X.env = (false, eval a X.env) :: starEach [] X.env := by rfl) : DO X W (.Call (.Name "sorted" p) [.Call (.Name "set" p2) [a] [] q] [] pos) (oSetS fa) := by
  refine PE.weak (HTs.pe_sortSet hc hu hg hm hg2 hm2 ha na) ?_
  rintro σ H Q ⟨F0, H0, F, Γ, r, pp⟩
  refine ⟨F0, H0, F, Γ, r, PostG.bind pp (fun d v F1 H1 _ x1 r1 p1 => ?_) upO⟩
  have r1 : Rp X.K X.mg F1 d v := r1
  cases d with
  | lst ds =>
    have p2' : PostG X.K X.mg (repO X.K X.mg) F1 H1 (WE W σ) Q (match trD ds with
      | some L => if decide (L.length < 64) && risB L then .ok ds else .stuck
      | none => .stuck) := p1
    cases e : trD ds with
    | none => rw [e] at p2'; exact p2'.elim
    | some L =>
      rw [e] at p2'
      obtain ⟨c, p3⟩ := ifR p2'
      obtain ⟨c1, c2⟩ := andB c
      obtain ⟨l, vs, ev, ea, rr⟩ := Rp.lstH x1.fh r1
      obtain ⟨T, rfl, eT, hk⟩ := tr_rp x1.fh e rr
      have lT : T.length = L.length := by rw [← eT, List.length_map]
      refine ⟨l, T, ev, SqL.of ea, hk, by have := of_decide_eq_true c1; omega, ?_, fun q n => ?_⟩
      · have := ris_pw c2
        rw [← eT, List.pairwise_map] at this
        exact this
      · exact PostG.at p3 (Ext.heap x1.fh n) ⟨q, _, rfl, upd_same, x1.fh.free n, n, rr⟩
  | _ => exact p1.elim
end
end DL
namespace DL
open PySem PySem.Spec L2
def dCntD : D → D → R D
  | .lst ds, d => if (D.lst ds).sh 60 && d.sh 60 then .ok (.int ((ds.countP fun x => dEqB x d) : Nat)) else .stuck
  | _, _ => .stuck
def rCntD (K : PySem.W.Frag) : V → List V → Hp → VK → Prop := fun x xs H Q => ∃ (a : Addr) (vs : List V) (y : V) (ps : List PyData) (p : PyData), x = V.ref a ∧ xs = [y] ∧ SqL K H a vs ∧ DpAll K H vs ps ∧ Dp K H y p ∧ PyData.plainAll ps = true ∧ p.plain = true ∧ p.depth ≤ 60 ∧
  Q (.int (ps.countP fun z => PyData.eqv z p : Nat)) H
section
variable {X : Cx}
theorem mt_cntD (hu : X.A.units + 64 < cLine) : MtR X "list.count" (rCntD X.K) := by
  intro pins s σ H x xs v us Q I rx rxs h
  obtain ⟨a, vs, y, ps, p, rfl, rfl, hs, h1, h2, h3, h4, h5, q⟩ := h
  cases rx
  cases rxs with
  | cons ry rt =>
    cases rt
    obtain ⟨its, rv, hl, _⟩ := I.list hs
    obtain ⟨as, r1⟩ := Dp.readsAll I ps _ its h1 rv
    obtain ⟨bs, r2⟩ := Dp.reads I p y _ h2 ry
    exact SeqAt.count_list_data hl.isList (by simpa using r1) r2 h3 h4 (by show _ + 1 + min _ _ < _; omega) ⟨.int _, H, I.tok _, ⟨_, rfl⟩, q⟩
theorem sat_cntD {F H : Hp} {x y : D} {v u : V} {E : XK} {Q : VK} (z : Fz F H) (rx : Rp X.K X.mg F x v) (ry : Rp X.K X.mg F y u) (p : PostG X.K X.mg (repV X.K X.mg) F H E Q (dCntD x y)) : rCntD X.K v [u] H Q := by
  cases x with
  | lst ds =>
    obtain ⟨c, p⟩ := ifR (show PostG X.K X.mg (repV X.K X.mg) F H E Q (if (D.lst ds).sh 60 && y.sh 60 then .ok (.int ((ds.countP fun x => dEqB x y) : Nat)) else .stuck) from p)
    obtain ⟨c1, c2⟩ := andB c
    obtain ⟨a, vs, rfl, ea, rr⟩ := Rp.lstH z rx
    have c1 : ∀ d ∈ ds, d.sh 59 = true := by simpa [D.sh] using c1
    obtain ⟨s1, _⟩ := sh_all 59 ds c1
    obtain ⟨s3, s4⟩ := sh_ok 60 y c2
    refine ⟨a, vs, u, D.pdL ds, y.pd, rfl, rfl, SqL.of ea, dp_all z 59 ds vs c1 rr, dp_of z 60 y u c2 ry, PyData.plainAll_of_canLay0 _ s1, PyData.plain_of_canLay0 _ s3, s4, ?_⟩
    rw [D.pdL_map, List.countP_map]
    exact PostG.ok p z Rp.int
  | _ => exact p.elim
variable {W : WX} {o e : Expr} {fo fe : DL.Env → R D} {apos cpos : Pos}
theorem de_cntD (hu : X.A.units + 64 < cLine) (ho : DE X W o fo) (ha : DE X W e fe) (hs1 : starEach [e] X.env = (false, eval e X.env) :: starEach [] X.env := by rfl) (hline : (apos.endLine == cpos.line) = true := by rfl)
    (hbase : attributeBase o "count" X.env (eval o X.env) = eval o X.env := by rfl)
    (hfew : ((backTo cpos (starEach [e] X.env)).all (fun x => !x.1) && (backToKw cpos (keywordEach [] X.env)).all (fun x => x.1.isSome)
      && decide (([e] : List Expr).length + ([] : List Keyword).length + (if ([] : List Keyword).isEmpty then 0 else 1) < 30)) = true := by rfl) :
    DE X W (.Call (.Attribute o "count" apos) [e] [] cpos) (eMB dCntD fo fe) := by
  refine PE.weak (pe_bm PySem.F.plainAttrs_list PySem.F.slot_list_count PySem.F.type_list_count (mt_cntD hu) ho (pa_cons ha pa_nil hs1) hbase hfew hline hs1) ?_
  exact fun σ H Q h => mb_run (r := rCntD X.K) (g := dCntD) (fun F H x y v u E Q z rx ry p => sat_cntD z rx ry p) h
end
end DL
namespace FW
open PySem DL
def cs_o_beads : List Str := ["Move", "Up", "Down", "Put", "Take"]
def cs_o_rod : List Str := ["Move", "Up", "Down", "Put", "Take"]
def b_Move_word : DL.Env → Out :=
    sRet (eC (.str ""))
def m_Move_word : List D → R D := mk 1 b_Move_word
def b_Up_word : DL.Env → Out :=
    sRet (eC (.str "up"))
def m_Up_word : List D → R D := mk 1 b_Up_word
def b_Down_word : DL.Env → Out :=
    sRet (eC (.str "down"))
def m_Down_word : List D → R D := mk 1 b_Down_word
def b_Put_word : DL.Env → Out :=
    sRet (eC (.str "put"))
def m_Put_word : List D → R D := mk 1 b_Put_word
def b_Take_word : DL.Env → Out :=
    sRet (eC (.str "take"))
def m_Take_word : List D → R D := mk 1 b_Take_word
def tb_word : List (Str × (List D → R D)) := [("Move", m_Move_word), ("Up", m_Up_word), ("Down", m_Down_word), ("Put", m_Put_word), ("Take", m_Take_word)]
end FW
namespace FR
open PySem DL
def cs_o_beads : List Str := ["Move", "Up", "Down", "Put", "Take"]
def cs_o_rod : List Str := ["Move", "Up", "Down", "Put", "Take"]
def b_Move_reached : DL.Env → Out :=
    sRet (eV 2)
def m_Move_reached : List D → R D := mk 3 b_Move_reached
def b_Up_reached : DL.Env → Out :=
    sRet (eTup (aCons (eOp dIx (eV 2) (eC (.int 0))) (aCons (eOp dAdd (eOp dIx (eV 2) (eC (.int 1))) (eUn (dXf cs_o_beads "beads") (eV 0))) (aNil))))
def m_Up_reached : List D → R D := mk 3 b_Up_reached
def b_Down_reached : DL.Env → Out :=
    sRet (eTup (aCons (eOp dIx (eV 2) (eC (.int 0))) (aCons (eOp dSub (eOp dIx (eV 2) (eC (.int 1))) (eUn (dXf cs_o_beads "beads") (eV 0))) (aNil))))
def m_Down_reached : List D → R D := mk 3 b_Down_reached
def b_Put_reached : DL.Env → Out :=
    sRet (eTup (aCons (eOp dAdd (eOp dIx (eV 2) (eC (.int 0))) (eUn (dXf cs_o_beads "beads") (eV 0))) (aCons (eOp dIx (eV 2) (eC (.int 1))) (aNil))))
def m_Put_reached : List D → R D := mk 3 b_Put_reached
def b_Take_reached : DL.Env → Out :=
    sRet (eTup (aCons (eOp dSub (eOp dIx (eV 2) (eC (.int 0))) (eUn (dXf cs_o_beads "beads") (eV 0))) (aCons (eOp dIx (eV 2) (eC (.int 1))) (aNil))))
def m_Take_reached : List D → R D := mk 3 b_Take_reached
def tb_reached : List (Str × (List D → R D)) := [("Move", m_Move_reached), ("Up", m_Up_reached), ("Down", m_Down_reached), ("Put", m_Put_reached), ("Take", m_Take_reached)]
def b_Move_done : DL.Env → Out :=
    sSeq (sIf (eB (eOp dGe (eUn (dXf cs_o_rod "rod") (eV 0)) (eCall dLen (aCons (eV 1) (aNil))))) (sRaise "Stuck" ["at", "rod"] (aCons (eUn (dXf cs_o_rod "rod") (eV 0)) (aCons (eC .non) (aNil)))) (sNx)) <|
    sSeq (sSet (gNm 3) (eOp dIx (eV 1) (eUn (dXf cs_o_rod "rod") (eV 0)))) <|
    sSeq (sSet (gTp 2 (gsCons (gNm 4) (gsCons (gNm 5) (gsNil)))) (eMeth tb_reached "reached" 2 (eV 0) (aCons (eV 3) (aCons (eOp dIx (eV 2) (eUn (dXf cs_o_rod "rod") (eV 0))) (aNil))))) <|
    sSeq (sIf (bOr (bNot (eB (eChain dLe dLe (eC (.int 0)) (eV 4) (eOp dIx (eV 3) (eC (.int 0)))))) (bNot (eB (eChain dLe dLe (eC (.int 0)) (eV 5) (eOp dIx (eV 3) (eC (.int 2))))))) (sRaise "Stuck" ["at", "rod"] (aCons (eUn (dXf cs_o_rod "rod") (eV 0)) (aCons (eC .non) (aNil)))) (sNx)) <|
    sRet (eOp dAdd (eOp dAdd (eSl (eV 2) (pNo) (pSo (eUn (dXf cs_o_rod "rod") (eV 0)))) (eFrz (oLst (aCons (eTup (aCons (eV 4) (aCons (eV 5) (aNil)))) (aNil))))) (eSl (eV 2) (pSo (eOp dAdd (eUn (dXf cs_o_rod "rod") (eV 0)) (eC (.int 1)))) (pNo)))
def m_Move_done : List D → R D := mk 6 b_Move_done
def tb_done : List (Str × (List D → R D)) := [("Move", m_Move_done), ("Up", m_Move_done), ("Down", m_Move_done), ("Put", m_Move_done), ("Take", m_Move_done)]
def h_done_all1 : Tg :=
    gTp 2 (gsCons (gNm 4) (gsCons (gNm 5) (gsNil)))
def g_done_all1 : DL.Env → Out :=
    sWp [4, 5, 6] (sTryR 6 (subG "Stuck") "Stuck" "rod" "at" "rod" (sSet (gNm 3) (eMeth tb_done "done" 2 (eV 5) (aCons (eV 0) (aCons (eV 3) (aNil))))) (eV 4))
def b_done_all : DL.Env → Out :=
    sSeq (sSet (gNm 3) (eFrz (oCall oList (aCons (eV 1) (aNil))))) <|
    sSeq (sFor (iCall iEnumD (aCons (eV 2) (aNil))) h_done_all1 g_done_all1) <|
    sRet (eV 3)
def m_done_all : List D → R D := mk 7 b_done_all
end FR
namespace FA
open PySem DL
def b_count_of : DL.Env → Out :=
    sRet (eOp dAdd (eOp dMul (eOp dIx (eV 1) (eC (.int 0))) (eOp dIx (eV 0) (eC (.int 1)))) (eOp dIx (eV 1) (eC (.int 1))))
def m_count_of : List D → R D := mk 2 b_count_of
def b_plain_of : DL.Env → Out :=
    sSeq (sSet (gNm 2) (eCall dMin2 (aCons (eOp dIx (eV 0) (eC (.int 0))) (aCons (eOp dDiv (eV 1) (eOp dIx (eV 0) (eC (.int 1)))) (aNil))))) <|
    sRet (eTup (aCons (eV 2) (aCons (eOp dSub (eV 1) (eOp dMul (eV 2) (eOp dIx (eV 0) (eC (.int 1))))) (aNil))))
def m_plain_of : List D → R D := mk 3 b_plain_of
end FA
namespace FB
open PySem DL
def b_digits_of : DL.Env → Out :=
    sSeq (sSetO 2 (oLst (aNil))) <|
    sSeq (sFor (iOf (eSl (eV 0) (pNo) (pSo (eUn dNeg (eC (.int 1)))))) (gNm 3) (sSeq (sSet (gTp 2 (gsCons (gNm 1) (gsCons (gNm 4) (gsNil)))) (eCall dDivmod (aCons (eV 1) (aCons (eOp dIx (eV 3) (eC (.int 3))) (aNil))))) <|
    sApp 2 (eV 4))) <|
    sFrz 2 (sRetO (oOp oAdd (eV 2) (eFrz (oLst (aCons (eV 1) (aNil))))))
def mo_digits_of : List D → R (List D) := mkO 5 b_digits_of
def m_digits_of : List D → R D := fun ds => (mo_digits_of ds).bind fun r => .ok (.lst r)
end FB
namespace FD
open PySem DL
def b_full_worth : DL.Env → Out :=
    sSeq (sSet (gTp 4 (gsCons (gNm 1) (gsCons (gNm 2) (gsCons (gNm 3) (gsCons (gNm 4) (gsNil)))))) (eV 0)) <|
    sRet (eOp dAdd (eOp dMul (eV 1) (eV 2)) (eV 3))
def m_full_worth : List D → R D := mk 5 b_full_worth
def le_tidy_of1 : DL.Env → R D :=
    eFn 2 FA.m_plain_of (aCons (eV 3) (aCons (eV 4) (aNil)))
def b_tidy_of : DL.Env → Out :=
    sSeq (sSet (gNm 2) (eFn 2 FB.m_digits_of (aCons (eV 0) (aCons (eV 1) (aNil))))) <|
    sSeq (sIf (eB (eOp dGt (eOp dIx (eV 2) (eUn dNeg (eC (.int 1)))) (eFn 1 m_full_worth (aCons (eOp dIx (eV 0) (eUn dNeg (eC (.int 1)))) (aNil))))) (sRaise "TooGreat" ["rod"] (aCons (eOp dSub (eCall dLen (aCons (eV 0) (aNil))) (eC (.int 1))) (aNil))) (sNx)) <|
    sRetO (oLc [3, 4] (iCall iZipD (aCons (eV 0) (aCons (eV 2) (aNil)))) (gTp 2 (gsCons (gNm 3) (gsCons (gNm 4) (gsNil)))) (bYes) (le_tidy_of1))
def mo_tidy_of : List D → R (List D) := mkO 5 b_tidy_of
def m_tidy_of : List D → R D := fun ds => (mo_tidy_of ds).bind fun r => .ok (.lst r)
end FD
namespace FM
open PySem DL
def b_rod_rows : DL.Env → Out :=
    sSeq (sSetO 3 (oLst (aNil))) <|
    sSeq (sIf (eB (eOp dGt (eOp dIx (eV 1) (eC (.int 0))) (eOp dIx (eV 2) (eC (.int 0))))) (sApp 3 (eNew2 "Take" "rod" "beads" (aCons (eV 0) (aCons (eOp dSub (eOp dIx (eV 1) (eC (.int 0))) (eOp dIx (eV 2) (eC (.int 0)))) (aNil))))) (sNx)) <|
    sSeq (sIf (eB (eOp dGt (eOp dIx (eV 1) (eC (.int 1))) (eOp dIx (eV 2) (eC (.int 1))))) (sApp 3 (eNew2 "Down" "rod" "beads" (aCons (eV 0) (aCons (eOp dSub (eOp dIx (eV 1) (eC (.int 1))) (eOp dIx (eV 2) (eC (.int 1)))) (aNil))))) (sNx)) <|
    sSeq (sIf (eB (eOp dLt (eOp dIx (eV 1) (eC (.int 0))) (eOp dIx (eV 2) (eC (.int 0))))) (sApp 3 (eNew2 "Put" "rod" "beads" (aCons (eV 0) (aCons (eOp dSub (eOp dIx (eV 2) (eC (.int 0))) (eOp dIx (eV 1) (eC (.int 0)))) (aNil))))) (sNx)) <|
    sSeq (sIf (eB (eOp dLt (eOp dIx (eV 1) (eC (.int 1))) (eOp dIx (eV 2) (eC (.int 1))))) (sApp 3 (eNew2 "Up" "rod" "beads" (aCons (eV 0) (aCons (eOp dSub (eOp dIx (eV 2) (eC (.int 1))) (eOp dIx (eV 1) (eC (.int 1)))) (aNil))))) (sNx)) <|
    sRetS 3
def mo_rod_rows : List D → R (List D) := mkO 4 b_rod_rows
def h_rows_between1 : Tg :=
    gNm 4
def g_rows_between1 : DL.Env → Out :=
    sWp [4] (sExtO 3 (oFn 3 mo_rod_rows (aCons (eV 4) (aCons (eOp dIx (eV 1) (eV 4)) (aCons (eOp dIx (eV 2) (eV 4)) (aNil))))))
def b_rows_between : DL.Env → Out :=
    sSeq (sSetO 3 (oLst (aNil))) <|
    sSeq (sFor (iRevRng (eCall dLen (aCons (eV 0) (aNil)))) h_rows_between1 g_rows_between1) <|
    sRetS 3
def mo_rows_between : List D → R (List D) := mkO 5 b_rows_between
def m_rows_between : List D → R D := fun ds => (mo_rows_between ds).bind fun r => .ok (.lst r)
end FM
namespace FC
open PySem DL
def b_borne_by : DL.Env → Out :=
    sSeq (sSet (gNm 2) (eC (.int 0))) <|
    sSeq (sFor (iCall iRevD (aCons (eFrz (oCall oZip (aCons (eV 0) (aCons (eV 1) (aNil))))) (aNil))) (gTp 2 (gsCons (gNm 3) (gsCons (gNm 4) (gsNil)))) (sSet (gNm 2) (eOp dAdd (eOp dMul (eV 2) (eOp dIx (eV 3) (eC (.int 3)))) (eFn 2 FA.m_count_of (aCons (eV 3) (aCons (eV 4) (aNil))))))) <|
    sRet (eV 2)
def m_borne_by : List D → R D := mk 5 b_borne_by
end FC
namespace FH
open PySem DL
def cs_o_now : List Str := ["Hand"]
def cs_o_frame : List Str := ["Hand"]
def b_Hand___init : DL.Env → Out :=
    sSeq (sFldV 0 "Hand" "frame" (eV 1)) <|
    sSeq (sFldV 0 "Hand" "now" (eFrz (oCall oList (aCons (eV 2) (aNil))))) <|
    sFldO 0 "Hand" "pushed" (oLst (aNil))
def m_Hand___init : OB → List D → R OB := mkM 2 "Hand" b_Hand___init
def b_Hand_stands : DL.Env → Out :=
    sRet (eFn 2 FA.m_count_of (aCons (eOp dIx (eUn (dXf cs_o_frame "frame") (eV 0)) (eV 1)) (aCons (eOp dIx (eUn (dXf cs_o_now "now") (eV 0)) (eV 1)) (aNil))))
def m_Hand_stands : List D → R D := mk 2 b_Hand_stands
def b_Hand_turn_to : DL.Env → Out :=
    sSeq (sExtF 0 "Hand" "pushed" (oFn 3 FM.mo_rows_between (aCons (eFld 0 "Hand" "frame") (aCons (eFld 0 "Hand" "now") (aCons (eV 1) (aNil)))))) <|
    sFldV 0 "Hand" "now" (eFrz (oCall oList (aCons (eV 1) (aNil))))
def m_Hand_turn_to : OB → List D → R OB := mkM 1 "Hand" b_Hand_turn_to
def b_Hand_make : DL.Env → Out :=
    sSeq (sSetO 3 (oCall oList (aCons (eFld 0 "Hand" "now") (aNil)))) <|
    sSeq (sSetIx 3 (eV 1) (eFn 2 FA.m_plain_of (aCons (eOp dIx (eFld 0 "Hand" "frame") (eV 1)) (aCons (eV 2) (aNil))))) <|
    sFrz 3 (sMeth 0 "Hand" "turn_to" 1 m_Hand_turn_to (aCons (eV 3) (aNil)))
def m_Hand_make : OB → List D → R OB := mkM 3 "Hand" b_Hand_make
def b_tidy_hand : DL.Env → R OB :=
    bSeq (sSetB 2 "Hand" (bNew 2 m_Hand___init (aCons (eV 0) (aCons (eV 1) (aNil))))) <|
    bSeq (sMeth 2 "Hand" "turn_to" 1 m_Hand_turn_to (aCons (eFn 2 FD.m_tidy_of (aCons (eV 0) (aCons (eFn 2 FC.m_borne_by (aCons (eV 0) (aCons (eV 1) (aNil)))) (aNil)))) (aNil))) <|
    bRet 2 "Hand"
def m_tidy_hand : List D → R OB := mkB 3 b_tidy_hand
def tb_stands : List (Str × (List D → R D)) := [("Hand", m_Hand_stands)]
def b_Hand_give (mR : OB → List D → R OB) : DL.Env → Out :=
    sSeq (sSet (gNm 3) (eOp dAdd (eBor 0 (eMeth tb_stands "stands" 1 (eV 0) (aCons (eV 1) (aNil)))) (eV 2))) <|
    sSeq (sSet (gNm 4) (eOp dIx (eOp dIx (eFld 0 "Hand" "frame") (eV 1)) (eC (.int 3)))) <|
    sIf (bOr (eB (eOp dLt (eV 3) (eV 4))) (eB (eOp dEq (eV 1) (eOp dSub (eCall dLen (aCons (eFld 0 "Hand" "frame") (aNil))) (eC (.int 1)))))) (sMeth 0 "Hand" "make" 2 m_Hand_make (aCons (eV 1) (aCons (eV 3) (aNil)))) (sSeq (sMeth 0 "Hand" "give" 2 mR (aCons (eOp dAdd (eV 1) (eC (.int 1))) (aCons (eC (.int 1)) (aNil)))) <|
    sMeth 0 "Hand" "make" 2 m_Hand_make (aCons (eV 1) (aCons (eOp dSub (eV 3) (eV 4)) (aNil))))
def mr_Hand_give : Nat → OB → List D → R OB
  | 0 => fun _ _ => .stuck
  | t + 1 => mkM 4 "Hand" (b_Hand_give (mr_Hand_give t))
def m_Hand_give : OB → List D → R OB := mr_Hand_give 100
def h_adding_row1 : Tg :=
    gNm 5
def g_adding_row1 : DL.Env → Out :=
    sWp [5] (sIf (eB (eOp dGt (eOp dIx (eV 4) (eV 5)) (eC (.int 0)))) (sMeth 3 "Hand" "give" 2 m_Hand_give (aCons (eV 5) (aCons (eOp dIx (eV 4) (eV 5)) (aNil)))) (sNx))
def b_adding_row : DL.Env → Out :=
    sSeq (sSetB 3 "Hand" (bFn 2 m_tidy_hand (aCons (eV 0) (aCons (eV 1) (aNil))))) <|
    sSeq (sDrop (eFn 2 FD.m_tidy_of (aCons (eV 0) (aCons (eOp dAdd (eFn 2 FC.m_borne_by (aCons (eV 0) (aCons (eV 1) (aNil)))) (eV 2)) (aNil))))) <|
    sSeq (sSet (gNm 4) (eFn 2 FB.m_digits_of (aCons (eV 0) (aCons (eV 2) (aNil))))) <|
    sSeq (sFor (iCall iRange3 (aCons (eOp dSub (eCall dLen (aCons (eV 0) (aNil))) (eC (.int 1))) (aCons (eUn dNeg (eC (.int 1))) (aCons (eUn dNeg (eC (.int 1))) (aNil))))) h_adding_row1 g_adding_row1) <|
    sRetF 3 "Hand" "pushed"
def mo_adding_row : List D → R (List D) := mkO 6 b_adding_row
def m_adding_row : List D → R D := fun ds => (mo_adding_row ds).bind fun r => .ok (.lst r)
end FH
namespace LB
open PySem DL
def b_law_cell : DL.Env → Out :=
    sSeq (sIf (eB (eOp dLt (eV 1) (eCall dLen (aCons (eV 0) (aNil))))) (sRet (eOp dIx (eV 0) (eV 1))) (sNx)) <|
    sSeq (sSet (gNm 2) (eOp dAdd (eOp dMul (eV 1) (eC (.int 48271))) (eC (.int 11)))) <|
    sSeq (sIf (eB (eOp dGt (eCall dLen (aCons (eV 0) (aNil))) (eC (.int 0)))) (sSet (gNm 2) (eOp dAdd (eV 2) (eOp dMul (eOp dMod (eOp dIx (eV 0) (eOp dMod (eOp dMul (eV 1) (eC (.int 7))) (eCall dLen (aCons (eV 0) (aNil))))) (eC (.int 2147483647))) (eC (.int 69621))))) (sNx)) <|
    sRet (eOp dMod (eOp dMul (eV 2) (eV 2)) (eC (.int 2147483629)))
def m_law_cell : List D → R D := mk 3 b_law_cell
def b_law_layout : DL.Env → Out :=
    sSeq (sSet (gNm 0) (eOp dMod (eV 0) (eOp dPow (eC (.int 10)) (eC (.int 40))))) <|
    sSeq (sSet (gNm 1) (eOp dIx (eFrz (oLst (aCons (eC (.int 0)) (aCons (eC (.int 1)) (aCons (eC (.int 2)) (aCons (eOp dAdd (eC (.int 1)) (eOp dMod (eOp dDiv (eV 0) (eC (.int 4))) (eC (.int 6)))) (aNil))))))) (eOp dMod (eV 0) (eC (.int 4))))) <|
    sSeq (sIf (eB (eOp dEq (eV 1) (eC (.int 0)))) (sSeq (sSet (gNm 2) (eOp dAdd (eC (.int 2)) (eOp dMod (eOp dDiv (eV 0) (eC (.int 24))) (eC (.int 24))))) <|
    sRet (eTup (aCons (eC (.int 0)) (aCons (eC (.int 1)) (aCons (eCall dMin2 (aCons (eC (.int 24)) (aCons (eOp dAdd (eOp dSub (eV 2) (eC (.int 1))) (eOp dMod (eOp dDiv (eV 0) (eC (.int 576))) (eC (.int 4)))) (aNil)))) (aCons (eV 2) (aNil))))))) (sNx)) <|
    sSeq (sSet (gNm 3) (eOp dIx (eFrz (oLst (aCons (eC (.int 5)) (aCons (eOp dAdd (eC (.int 1)) (eOp dMod (eOp dDiv (eV 0) (eC (.int 24))) (eC (.int 20)))) (aNil))))) (eOp dMod (eOp dDiv (eV 0) (eC (.int 480))) (eC (.int 2))))) <|
    sSeq (sSet (gNm 4) (eOp dAdd (eOp dSub (eV 3) (eC (.int 1))) (eOp dMod (eOp dDiv (eV 0) (eC (.int 960))) (eC (.int 5))))) <|
    sSeq (sSet (gNm 5) (eCall dMin2 (aCons (eC (.int 25)) (aCons (eOp dAdd (eOp dAdd (eOp dMul (eV 1) (eV 3)) (eV 4)) (eC (.int 1))) (aNil))))) <|
    sRet (eTup (aCons (eV 1) (aCons (eV 3) (aCons (eV 4) (aCons (eOp dIx (eFrz (oLst (aCons (eV 5) (aCons (eOp dAdd (eC (.int 2)) (eOp dMod (eOp dDiv (eV 0) (eC (.int 4800))) (eOp dSub (eV 5) (eC (.int 1))))) (aNil))))) (eOp dMod (eOp dDiv (eV 0) (eC (.int 9600))) (eC (.int 2)))) (aNil))))))
def m_law_layout : List D → R D := mk 6 b_law_layout
def le_law_frame1 : DL.Env → R D :=
    eFn 1 m_law_layout (aCons (eFn 2 m_law_cell (aCons (eV 0) (aCons (eOp dAdd (eOp dAdd (eV 1) (eC (.int 1))) (eV 3)) (aNil)))) (aNil))
def b_law_frame : DL.Env → Out :=
    sRetO (oLc [3] (iCall iRange1 (aCons (eOp dAdd (eC (.int 1)) (eOp dMod (eFn 2 m_law_cell (aCons (eV 0) (aCons (eV 1) (aNil)))) (eV 2))) (aNil))) (gNm 3) (bYes) (le_law_frame1))
def mo_law_frame : List D → R (List D) := mkO 4 b_law_frame
def m_law_frame : List D → R D := fun ds => (mo_law_frame ds).bind fun r => .ok (.lst r)
def h_law_standing1 : Tg :=
    gTp 2 (gsCons (gNm 4) (gsCons (gNm 5) (gsNil)))
def g_law_standing1 : DL.Env → Out :=
    sWp [4, 5, 6] (sSeq (sSet (gNm 6) (eOp dMod (eFn 2 m_law_cell (aCons (eV 0) (aCons (eOp dAdd (eV 1) (eV 4)) (aNil)))) (eOp dPow (eC (.int 10)) (eC (.int 40))))) <|
    sApp 3 (eTup (aCons (eOp dMod (eV 6) (eOp dAdd (eOp dIx (eV 5) (eC (.int 0))) (eC (.int 1)))) (aCons (eOp dMod (eOp dDiv (eV 6) (eC (.int 7))) (eOp dAdd (eOp dIx (eV 5) (eC (.int 2))) (eC (.int 1)))) (aNil)))))
def b_law_standing : DL.Env → Out :=
    sSeq (sSetO 3 (oLst (aNil))) <|
    sSeq (sFor (iCall iEnumD (aCons (eV 2) (aNil))) h_law_standing1 g_law_standing1) <|
    sRetS 3
def mo_law_standing : List D → R (List D) := mkO 7 b_law_standing
def m_law_standing : List D → R D := fun ds => (mo_law_standing ds).bind fun r => .ok (.lst r)
def b_law_plain : DL.Env → Out :=
    sSeq (sSet (gNm 2) (eCall dMin2 (aCons (eOp dIx (eV 0) (eC (.int 0))) (aCons (eOp dDiv (eV 1) (eOp dIx (eV 0) (eC (.int 1)))) (aNil))))) <|
    sRet (eTup (aCons (eV 2) (aCons (eOp dSub (eV 1) (eOp dMul (eV 2) (eOp dIx (eV 0) (eC (.int 1))))) (aNil))))
def m_law_plain : List D → R D := mk 3 b_law_plain
def h_law_borne1 : Tg :=
    gTp 2 (gsCons (gNm 4) (gsCons (gNm 5) (gsNil)))
def g_law_borne1 : DL.Env → Out :=
    sWp [4, 5, 6, 7] (sSeq (sSet (gTp 2 (gsCons (gNm 6) (gsCons (gNm 7) (gsNil)))) (eOp dIx (eV 1) (eV 4))) <|
    sSeq (sSet (gNm 2) (eOp dAdd (eV 2) (eOp dMul (eOp dAdd (eOp dMul (eV 6) (eOp dIx (eV 5) (eC (.int 1)))) (eV 7)) (eV 3)))) <|
    sSet (gNm 3) (eOp dMul (eV 3) (eOp dIx (eV 5) (eC (.int 3)))))
def b_law_borne : DL.Env → Out :=
    sSeq (sSet (gNm 2) (eC (.int 0))) <|
    sSeq (sSet (gNm 3) (eC (.int 1))) <|
    sSeq (sFor (iCall iEnumD (aCons (eV 0) (aNil))) h_law_borne1 g_law_borne1) <|
    sRet (eV 2)
def m_law_borne : List D → R D := mk 8 b_law_borne
def h_law_digits1 : Tg :=
    gNm 3
def g_law_digits1 : DL.Env → Out :=
    sWp [3] (sSeq (sApp 2 (eOp dMod (eV 1) (eOp dIx (eV 3) (eC (.int 3))))) <|
    sSet (gNm 1) (eOp dDiv (eV 1) (eOp dIx (eV 3) (eC (.int 3)))))
def b_law_digits : DL.Env → Out :=
    sSeq (sSetO 2 (oLst (aNil))) <|
    sSeq (sFor (iOf (eSl (eV 0) (pNo) (pSo (eUn dNeg (eC (.int 1)))))) h_law_digits1 g_law_digits1) <|
    sFrz 2 (sRetO (oOp oAdd (eV 2) (eFrz (oLst (aCons (eV 1) (aNil))))))
def mo_law_digits : List D → R (List D) := mkO 4 b_law_digits
def m_law_digits : List D → R D := fun ds => (mo_law_digits ds).bind fun r => .ok (.lst r)
def le_law_tidy1 : DL.Env → R D :=
    eFn 2 m_law_plain (aCons (eV 4) (aCons (eOp dIx (eV 2) (eV 3)) (aNil)))
def b_law_tidy : DL.Env → Out :=
    sSeq (sSet (gNm 2) (eFn 2 m_law_digits (aCons (eV 0) (aCons (eV 1) (aNil))))) <|
    sSeq (sIf (eB (eOp dGt (eOp dIx (eV 2) (eUn dNeg (eC (.int 1)))) (eOp dAdd (eOp dMul (eOp dIx (eOp dIx (eV 0) (eUn dNeg (eC (.int 1)))) (eC (.int 0))) (eOp dIx (eOp dIx (eV 0) (eUn dNeg (eC (.int 1)))) (eC (.int 1)))) (eOp dIx (eOp dIx (eV 0) (eUn dNeg (eC (.int 1)))) (eC (.int 2)))))) (sRet (eC .non)) (sNx)) <|
    sRet (eFrz (oLc [3, 4] (iCall iEnumD (aCons (eV 0) (aNil))) (gTp 2 (gsCons (gNm 3) (gsCons (gNm 4) (gsNil)))) (bYes) (le_law_tidy1)))
def m_law_tidy : List D → R D := mk 5 b_law_tidy
def b_law_whole : DL.Env → Out :=
    sRet (eAnd (eCall dIsi (aCons (eV 0) (aCons (eC (.ty "int")) (aNil)))) (eNot (eCall dIsi (aCons (eV 0) (aCons (eC (.ty "bool")) (aNil))))))
def m_law_whole : List D → R D := mk 1 b_law_whole
end LB
namespace LM
open PySem DL
def b_law_mixed : DL.Env → Out :=
    sSeq (sSet (gNm 2) (eOp dMod (eOp dMul (eOp dAdd (eOp dMod (eV 0) (eC (.int 2147483647))) (eC (.int 7))) (eOp dAdd (eC (.int 48271)) (eOp dMul (eC (.int 2)) (eV 1)))) (eC (.int 2147483629)))) <|
    sRet (eOp dMod (eOp dMul (eV 2) (eV 2)) (eC (.int 2147483587)))
def m_law_mixed : List D → R D := mk 3 b_law_mixed
def b_law_layout : DL.Env → Out :=
    sSeq (sSet (gNm 1) (eOp dAdd (eC (.int 2)) (eOp dMod (eFn 2 m_law_mixed (aCons (eV 0) (aCons (eC (.int 1)) (aNil)))) (eC (.int 24))))) <|
    sSeq (sSet (gNm 2) (eOp dMod (eFn 2 m_law_mixed (aCons (eV 0) (aCons (eC (.int 2)) (aNil)))) (eC (.int 7)))) <|
    sSeq (sIf (eB (eOp dEq (eV 2) (eC (.int 0)))) (sRet (eTup (aCons (eC (.int 0)) (aCons (eC (.int 1)) (aCons (eOp dAdd (eOp dSub (eV 1) (eC (.int 1))) (eOp dMod (eFn 2 m_law_mixed (aCons (eV 0) (aCons (eC (.int 3)) (aNil)))) (eOp dSub (eC (.int 26)) (eV 1)))) (aCons (eV 1) (aNil))))))) (sNx)) <|
    sSeq (sSet (gNm 3) (eOp dAdd (eC (.int 1)) (eOp dMod (eFn 2 m_law_mixed (aCons (eV 0) (aCons (eC (.int 4)) (aNil)))) (eC (.int 20))))) <|
    sSeq (sSet (gNm 4) (eCall dMax3 (aCons (eOp dSub (eV 3) (eC (.int 1))) (aCons (eOp dSub (eOp dSub (eV 1) (eC (.int 1))) (eOp dMul (eV 2) (eV 3))) (aCons (eC (.int 0)) (aNil)))))) <|
    sSeq (sSet (gNm 5) (eOp dMod (eOp dIx (eFrz (oLst (aCons (eC (.int 0)) (aCons (eC (.int 1)) (aCons (eFn 2 m_law_mixed (aCons (eV 0) (aCons (eC (.int 5)) (aNil)))) (aNil)))))) (eOp dMod (eV 0) (eC (.int 3)))) (eOp dSub (eC (.int 25)) (eV 4)))) <|
    sRet (eTup (aCons (eV 2) (aCons (eV 3) (aCons (eOp dAdd (eV 4) (eV 5)) (aCons (eV 1) (aNil))))))
def m_law_layout : List D → R D := mk 6 b_law_layout
def h_law_standing1 : Tg :=
    gNm 3
def g_law_standing1 : DL.Env → Out :=
    sWp [3, 4] (sSeq (sSet (gNm 4) (eOp dMod (eFn 2 m_law_mixed (aCons (eV 1) (aCons (eOp dAdd (eC (.int 40)) (eV 3)) (aNil)))) (eOp dAdd (eOp dIx (eOp dIx (eV 0) (eV 3)) (eC (.int 0))) (eC (.int 1))))) <|
    sApp 2 (eTup (aCons (eV 4) (aCons (eOp dMod (eFn 2 m_law_mixed (aCons (eV 1) (aCons (eOp dAdd (eC (.int 70)) (eV 3)) (aNil)))) (eOp dAdd (eOp dIx (eOp dIx (eV 0) (eV 3)) (eC (.int 2))) (eC (.int 1)))) (aNil)))))
def b_law_standing : DL.Env → Out :=
    sSeq (sSetO 2 (oLst (aNil))) <|
    sSeq (sFor (iCall iRange1 (aCons (eCall dLen (aCons (eV 0) (aNil))) (aNil))) h_law_standing1 g_law_standing1) <|
    sRetS 2
def mo_law_standing : List D → R (List D) := mkO 5 b_law_standing
def m_law_standing : List D → R D := fun ds => (mo_law_standing ds).bind fun r => .ok (.lst r)
def le_law_frame1 : DL.Env → R D :=
    eFn 1 m_law_layout (aCons (eFn 2 m_law_mixed (aCons (eV 0) (aCons (eOp dAdd (eC (.int 10)) (eV 2)) (aNil)))) (aNil))
def b_law_frame : DL.Env → Out :=
    sSeq (sSet (gNm 1) (eOp dAdd (eC (.int 1)) (eOp dIx (eFrz (oLst (aCons (eOp dMod (eOp dDiv (eV 0) (eC (.int 3))) (eC (.int 4))) (aCons (eOp dMod (eOp dDiv (eV 0) (eC (.int 3))) (eC (.int 20))) (aNil))))) (eOp dMod (eV 0) (eC (.int 2)))))) <|
    sRetO (oLc [2] (iCall iRange1 (aCons (eV 1) (aNil))) (gNm 2) (bYes) (le_law_frame1))
def mo_law_frame : List D → R (List D) := mkO 3 b_law_frame
def m_law_frame : List D → R D := fun ds => (mo_law_frame ds).bind fun r => .ok (.lst r)
def b_law_move : DL.Env → Out :=
    sSeq (sIf (eB (eOp dEq (eV 0) (eC (.str "up")))) (sRet (eNew2 "Up" "rod" "beads" (aCons (eV 1) (aCons (eV 2) (aNil))))) (sNx)) <|
    sSeq (sIf (eB (eOp dEq (eV 0) (eC (.str "down")))) (sRet (eNew2 "Down" "rod" "beads" (aCons (eV 1) (aCons (eV 2) (aNil))))) (sNx)) <|
    sSeq (sIf (eB (eOp dEq (eV 0) (eC (.str "put")))) (sRet (eNew2 "Put" "rod" "beads" (aCons (eV 1) (aCons (eV 2) (aNil))))) (sNx)) <|
    sRet (eNew2 "Take" "rod" "beads" (aCons (eV 1) (aCons (eV 2) (aNil))))
def m_law_move : List D → R D := mk 3 b_law_move
end LM
namespace LA
open PySem DL
def b_law_mixed : DL.Env → Out :=
    sSeq (sIf (eB (eOp dEq (eV 0) (eFrz (oLst (aNil))))) (sRet (eOp dMul (eV 1) (eC (.int 7919)))) (sNx)) <|
    sRet (eOp dMod (eOp dMul (eOp dAdd (eOp dAdd (eOp dIx (eV 0) (eOp dMod (eV 1) (eCall dLen (aCons (eV 0) (aNil))))) (eC (.int 1))) (eV 1)) (eOp dAdd (eC (.int 48271)) (eOp dMul (eC (.int 7919)) (eV 1)))) (eC (.int 2147483647)))
def m_law_mixed : List D → R D := mk 2 b_law_mixed
def b_law_layout : DL.Env → Out :=
    sSeq (sIf (eB (eOp dEq (eOp dMod (eV 0) (eC (.int 3))) (eC (.int 0)))) (sSeq (sSet (gNm 1) (eOp dAdd (eC (.int 2)) (eOp dMod (eOp dDiv (eV 0) (eC (.int 3))) (eC (.int 24))))) <|
    sRet (eTup (aCons (eC (.int 0)) (aCons (eC (.int 1)) (aCons (eCall dMin2 (aCons (eC (.int 24)) (aCons (eOp dAdd (eOp dSub (eV 1) (eC (.int 1))) (eOp dMod (eOp dDiv (eV 0) (eC (.int 72))) (eC (.int 4)))) (aNil)))) (aCons (eV 1) (aNil))))))) (sNx)) <|
    sSeq (sSet (gNm 2) (eOp dAdd (eC (.int 1)) (eOp dMod (eOp dDiv (eV 0) (eC (.int 3))) (eC (.int 6))))) <|
    sSeq (sSet (gNm 3) (eOp dIx (eFrz (oLst (aCons (eC (.int 5)) (aCons (eOp dAdd (eC (.int 1)) (eOp dMod (eOp dDiv (eV 0) (eC (.int 18))) (eC (.int 20)))) (aNil))))) (eOp dMod (eOp dDiv (eV 0) (eC (.int 360))) (eC (.int 2))))) <|
    sSeq (sSet (gNm 4) (eOp dAdd (eOp dSub (eV 3) (eC (.int 1))) (eOp dMod (eOp dDiv (eV 0) (eC (.int 720))) (eC (.int 6))))) <|
    sSeq (sSet (gNm 5) (eCall dMin2 (aCons (eC (.int 25)) (aCons (eOp dAdd (eOp dAdd (eOp dMul (eV 2) (eV 3)) (eV 4)) (eC (.int 1))) (aNil))))) <|
    sRet (eTup (aCons (eV 2) (aCons (eV 3) (aCons (eV 4) (aCons (eOp dAdd (eC (.int 2)) (eOp dMod (eOp dDiv (eV 0) (eC (.int 4320))) (eOp dSub (eV 5) (eC (.int 1))))) (aNil))))))
def m_law_layout : List D → R D := mk 6 b_law_layout
def b_law_frame : DL.Env → Out :=
    sRetO (oLc [2] (iCall iRange1 (aCons (eOp dAdd (eC (.int 1)) (eOp dMod (eFn 2 m_law_mixed (aCons (eV 0) (aCons (eC (.int 9)) (aNil)))) (eV 1))) (aNil))) (gNm 2) (bYes) (eFn 1 m_law_layout (aCons (eFn 2 m_law_mixed (aCons (eV 0) (aCons (eOp dAdd (eC (.int 10)) (eV 2)) (aNil)))) (aNil))))
def mo_law_frame : List D → R (List D) := mkO 3 b_law_frame
def m_law_frame : List D → R D := fun ds => (mo_law_frame ds).bind fun r => .ok (.lst r)
def b_law_standing : DL.Env → Out :=
    sSeq (sSetO 3 (oLst (aNil))) <|
    sSeq (sFor (iCall iEnumD (aCons (eV 2) (aNil))) (gTp 2 (gsCons (gNm 4) (gsCons (gNm 5) (gsNil)))) (sSeq (sSet (gNm 6) (eFn 2 m_law_mixed (aCons (eV 0) (aCons (eOp dAdd (eV 1) (eV 4)) (aNil))))) <|
    sApp 3 (eTup (aCons (eOp dMod (eV 6) (eOp dAdd (eOp dIx (eV 5) (eC (.int 0))) (eC (.int 1)))) (aCons (eOp dMod (eOp dDiv (eV 6) (eC (.int 7))) (eOp dAdd (eOp dIx (eV 5) (eC (.int 2))) (eC (.int 1)))) (aNil)))))) <|
    sRetS 3
def mo_law_standing : List D → R (List D) := mkO 7 b_law_standing
def m_law_standing : List D → R D := fun ds => (mo_law_standing ds).bind fun r => .ok (.lst r)
end LA
local macro_rules
  | `(tactic| simp_arith [$ls,*] $[$l:location]?) => `(tactic| simp -implicitDefEqProofs (disch := omega) only [
      DL.sSeq, DL.sIf, DL.sRet, DL.sRetN, DL.sRetS, DL.sRetO, DL.sDrop, DL.sNx, DL.sBk, DL.sCt, DL.sFrz, DL.sSet, DL.sSetO, DL.sSetD, DL.sApp, DL.sSetIx,
      DL.sFor, DL.sWhile, DL.sClear, DL.sSetD, DL.sPut, DL.bHas, DL.eOwnGet, DL.dNew, DL.dKey_i, DL.dKey_s, DL.dInD_i, DL.dNotInD_i, DL.gNm, DL.gsNil,
      DL.gsCons, DL.eV, DL.eC, DL.eOp, DL.eUn, DL.eChain, DL.eAnd, DL.eOr, DL.eNot, DL.eIf, DL.eB, DL.eTru, DL.bNot, DL.bAnd, DL.bOr, DL.aNil, DL.aCons,
      DL.eCall, DL.eTup, DL.oLst, DL.eFrz, DL.oOp, DL.oCall, DL.eFn, DL.oFn, DL.eBor_eq, DL.bBor_eq, DL.boR_ok, DL.eoR_bl, DL.eoR_i, DL.eoR_n, DL.eoR_s,
      DL.eOwnIx, DL.iZip_l, DL.oZip_l, DL.iRev_l, DL.iOf, DL.iOfT, DL.iOfS, DL.iCall, DL.pNo, DL.pSo, DL.eSl, DL.oSl, DL.oRev, DL.asI, DL.at_0, DL.at_s,
      DL.bind_ok, DL.bind_exc, DL.out_ok, DL.out_exc, DL.then_nx, DL.then_rt, DL.then_ro, DL.then_bk, DL.then_ct, DL.then_exc, DL.fin_nx, DL.fin_rt,
      DL.fin_ro, DL.fin_exc, DL.finO_ro, DL.finO_exc, DL.dMod_i, DL.dDiv_i, DL.dMul_r, DL.dMul_l, DL.dAdd_i, DL.dSub_i, DL.dNeg_i, DL.dLt_i, DL.dLe_i,
      DL.dGt_i, DL.dGe_i, DL.dEq_i, DL.dNe_i, DL.dEq_s, DL.dNe_s, DL.asB_bl, DL.dTru_bl, DL.dIs_n, DL.dIsNot_n, DL.dMin_i, DL.dMax_i, DL.dAbs_i, DL.dLen_l,
      DL.dLen_t, DL.dLen_s, DL.dIx_t0, DL.dIx_t1, DL.dIx_t2, DL.dIx_t3, DL.dIx_l0, DL.dIx_l1, DL.dIx_l2, DL.dIx_l3, DL.dIx_last, DL.sl1_l, DL.oSl1_l,
      DL.cutL_init, List.set_cons_zero, List.set_cons_succ, List.length_cons, List.length_nil, DL.D.isNon, DL.D.scal, DL.Slot.frz, DL.Env.frz, DL.mk,
      DL.mkO, DL.stE, List.map, List.replicate, List.cons_append, List.nil_append, Nat.reduceSub, Nat.reduceAdd, Nat.zero_add, Nat.sub_self,
      Nat.reduceLeDiff, Nat.reduceEqDiff, Nat.reduceLT, decide_true, decide_false, Bool.not_true, Bool.not_false, Option.bind_some, DL.D.items,
      DL.D.itemsT, if_true, if_false, Int.reduceLT, Int.reduceNeg, Int.reduceEq, Int.reduceLE, Int.reduceGT, Int.reduceAdd, Int.reduceSub,
      Int.reduceMul, ite_true, ite_false, reduceIte, DL.LIM, List.length_map, Bool.false_eq_true, eq_self, DL.dInt_i, DL.dInt_b, DL.eNew0, DL.eNew2,
      DL.eMeth, DL.sExtO, DL.sExtV, DL.iRevRng, DL.iRevRng1, DL.Out.gone, DL.Out.noX, DL.sTryK, DL.sTryS, DL.sTryO, DL.sPar, DL.sPar3, DL.fuelI, if_pos,
      if_neg, DL.gTp_t, DL.lcT_eq, DL.lcO_some, DL.turn_eq, DL.tOut_some, DL.ctn_nx, DL.ctn_ct, DL.ctn_bk, DL.ctn_rt, DL.ctn_ro, DL.ctn_exc, DL.wp_nx,
      DL.wp_bk, DL.wp_ct, DL.wp_rt, DL.wp_ro, DL.wp_exc, DL.wipeE_n, DL.wipeE_c, DL.dec_t, DL.dec_f, DL.dIx_mapI, DL.dIx_mapL, DL.dIx_scr, DL.sFgt, DL.sWp,
      DL.sRaise, DL.sRaise0, DL.sPop, DL.oList, DL.isi_ii, DL.isi_ib, DL.isi_bb, DL.isi_bi, DL.isi_ll, DL.isi_tt, DL.isi_ss, DL.isi_lt, DL.isi_nt, DL.oRev,
      List.reverse_cons, List.reverse_nil, List.nil_append, List.append_nil, Int.natCast_zero, Int.zero_add, Int.add_zero, Int.zero_mul, Int.one_mul,
      Int.mul_one, DL.zipL_map, DL.enumL_map, DL.iEnum_l, Function.comp, DL.oRng,
      $ls,*] $[$l]?)
local macro_rules
  | `(tactic| simp_arith! [$ls,*] $[$l:location]?) => `(tactic| simp -implicitDefEqProofs only [
      DL.sSeq, DL.sIf, DL.sRet, DL.sRetN, DL.sRetS, DL.sRetO, DL.sDrop, DL.sNx, DL.sBk, DL.sCt, DL.sFrz, DL.sSet, DL.sSetO, DL.sSetD, DL.sApp, DL.sSetIx,
      DL.sFor, DL.sWhile, DL.sClear, DL.sSetD, DL.sPut, DL.bHas, DL.eOwnGet, DL.dNew, DL.dKey_i, DL.dKey_s, DL.dInD_i, DL.dNotInD_i, DL.gNm, DL.gsNil,
      DL.gsCons, DL.gTp, DL.eV, DL.eC, DL.eOp, DL.eUn, DL.eChain, DL.eAnd, DL.eOr, DL.eNot, DL.eIf, DL.eB, DL.eTru, DL.bNot, DL.bAnd, DL.bOr, DL.aNil,
      DL.aCons, DL.eCall, DL.eTup, DL.oLst, DL.eFrz, DL.oOp, DL.oCall, DL.eFn, DL.oFn, DL.eBor_eq, DL.bBor_eq, DL.boR_ok, DL.eoR_bl, DL.eoR_i, DL.eoR_n,
      DL.eoR_s, DL.eOwnIx, DL.iZip_l, DL.oZip_l, DL.iRev_l, DL.iOf, DL.iOfT, DL.iOfS, DL.iCall, DL.pNo, DL.pSo, DL.eSl, DL.oSl, DL.oRev, DL.asI, DL.at_0,
      DL.at_s, DL.bind_ok, DL.bind_exc, DL.out_ok, DL.out_exc, DL.then_nx, DL.then_rt, DL.then_ro, DL.then_bk, DL.then_ct, DL.then_exc, DL.fin_nx,
      DL.fin_rt, DL.fin_ro, DL.fin_exc, DL.finO_ro, DL.finO_exc, DL.dMod_i, DL.dDiv_i, DL.dMul_r, DL.dMul_l, DL.dAdd_i, DL.dSub_i, DL.dNeg_i, DL.dLt_i,
      DL.dLe_i, DL.dGt_i, DL.dGe_i, DL.dEq_i, DL.dNe_i, DL.dEq_s, DL.dNe_s, DL.asB_bl, DL.dTru_bl, DL.dIs_n, DL.dIsNot_n, DL.dMin_i, DL.dMax_i, DL.dAbs_i,
      DL.dLen_l, DL.dLen_t, DL.dLen_s, DL.dIx_t0, DL.dIx_t1, DL.dIx_t2, DL.dIx_t3, DL.dIx_l0, DL.dIx_l1, DL.dIx_l2, DL.dIx_l3, DL.dIx_last, DL.sl1_l,
      DL.oSl1_l, DL.cutL_init, List.set_cons_zero, List.set_cons_succ, List.length_cons, List.length_nil, DL.D.isNon, DL.D.scal, DL.Slot.frz, DL.Env.frz,
      DL.mk, DL.mkO, DL.stE, List.map, List.replicate, List.cons_append, List.nil_append, Nat.reduceSub, Nat.reduceAdd, Nat.zero_add, Nat.sub_self,
      Nat.reduceLeDiff, Nat.reduceEqDiff, Nat.reduceLT, decide_true, decide_false, Bool.not_true, Bool.not_false, Option.bind_some, DL.D.items,
      DL.D.itemsT, if_true, if_false, Int.reduceLT, Int.reduceNeg, Int.reduceEq, Int.reduceLE, Int.reduceGT, Int.reduceAdd, Int.reduceSub,
      Int.reduceMul, ite_true, ite_false, reduceIte, DL.LIM, List.length_map, Bool.false_eq_true, eq_self,
      $ls,*] $[$l]?)
local macro_rules
  | `(tactic| simp! [$ls,*] $[$l:location]?) => `(tactic| simp -implicitDefEqProofs (disch := omega) only [
      DL.sSeq, DL.sIf, DL.sRet, DL.sRetN, DL.sRetS, DL.sRetO, DL.sDrop, DL.sNx, DL.sBk, DL.sCt, DL.sFrz, DL.sSet, DL.sSetO, DL.sSetD, DL.sApp, DL.sSetIx,
      DL.sFor, DL.sWhile, DL.sClear, DL.sSetD, DL.sPut, DL.bHas, DL.eOwnGet, DL.dNew, DL.dKey_i, DL.dKey_s, DL.dInD_i, DL.dNotInD_i, DL.gNm, DL.gsNil,
      DL.gsCons, DL.eV, DL.eC, DL.eOp, DL.eUn, DL.eChain, DL.eAnd, DL.eOr, DL.eNot, DL.eIf, DL.eB, DL.eTru, DL.bNot, DL.bAnd, DL.bOr, DL.aNil, DL.aCons,
      DL.eCall, DL.eTup, DL.oLst, DL.eFrz, DL.oOp, DL.oCall, DL.eFn, DL.oFn, DL.eBor_eq, DL.bBor_eq, DL.boR_ok, DL.eoR_bl, DL.eoR_i, DL.eoR_n, DL.eoR_s,
      DL.eOwnIx, DL.iZip_l, DL.oZip_l, DL.iRev_l, DL.iOf, DL.iOfT, DL.iOfS, DL.iCall, DL.pNo, DL.pSo, DL.eSl, DL.oSl, DL.oRev, DL.asI, DL.at_0, DL.at_s,
      DL.bind_ok, DL.bind_exc, DL.out_ok, DL.out_exc, DL.then_nx, DL.then_rt, DL.then_ro, DL.then_bk, DL.then_ct, DL.then_exc, DL.fin_nx, DL.fin_rt,
      DL.fin_ro, DL.fin_exc, DL.finO_ro, DL.finO_exc, DL.dMod_i, DL.dDiv_i, DL.dMul_r, DL.dMul_l, DL.dAdd_i, DL.dSub_i, DL.dNeg_i, DL.dLt_i, DL.dLe_i,
      DL.dGt_i, DL.dGe_i, DL.dEq_i, DL.dNe_i, DL.dEq_s, DL.dNe_s, DL.asB_bl, DL.dTru_bl, DL.dIs_n, DL.dIsNot_n, DL.dMin_i, DL.dMax_i, DL.dAbs_i, DL.dLen_l,
      DL.dLen_t, DL.dLen_s, DL.dIx_t0, DL.dIx_t1, DL.dIx_t2, DL.dIx_t3, DL.dIx_l0, DL.dIx_l1, DL.dIx_l2, DL.dIx_l3, DL.dIx_last, DL.sl1_l, DL.oSl1_l,
      DL.cutL_init, List.set_cons_zero, List.set_cons_succ, List.length_cons, List.length_nil, DL.D.isNon, DL.D.scal, DL.Slot.frz, DL.Env.frz, DL.mk,
      DL.mkO, DL.stE, List.map, List.replicate, List.cons_append, List.nil_append, Nat.reduceSub, Nat.reduceAdd, Nat.zero_add, Nat.sub_self,
      Nat.reduceLeDiff, Nat.reduceEqDiff, Nat.reduceLT, decide_true, decide_false, Bool.not_true, Bool.not_false, Option.bind_some, DL.D.items,
      DL.D.itemsT, if_true, if_false, Int.reduceLT, Int.reduceNeg, Int.reduceEq, Int.reduceLE, Int.reduceGT, Int.reduceAdd, Int.reduceSub,
      Int.reduceMul, ite_true, ite_false, reduceIte, DL.LIM, List.length_map, Bool.false_eq_true, eq_self, DL.dInt_i, DL.dInt_b, DL.eNew0, DL.eNew2,
      DL.eMeth, DL.sExtO, DL.sExtV, DL.iRevRng, DL.iRevRng1, DL.Out.gone, DL.Out.noX, DL.sTryK, DL.sTryS, DL.sTryO, DL.sPar, DL.sPar3, DL.fuelI, if_pos,
      if_neg, DL.gTp_t, DL.lcT_eq, DL.lcO_some, DL.turn_eq, DL.tOut_some, DL.ctn_nx, DL.ctn_ct, DL.ctn_bk, DL.ctn_rt, DL.ctn_ro, DL.ctn_exc, DL.wp_nx,
      DL.wp_bk, DL.wp_ct, DL.wp_rt, DL.wp_ro, DL.wp_exc, DL.wipeE_n, DL.wipeE_c, DL.dec_t, DL.dec_f, DL.dIx_mapI, DL.dIx_mapL, DL.dIx_scr, DL.sFgt, DL.sWp,
      DL.sRaise, DL.sRaise0, DL.sPop, DL.oList, DL.isi_ii, DL.isi_ib, DL.isi_bb, DL.isi_bi, DL.isi_ll, DL.isi_tt, DL.isi_ss, DL.isi_lt, DL.isi_nt, DL.oRev,
      List.reverse_cons, List.reverse_nil, List.nil_append, List.append_nil, Int.natCast_zero, Int.zero_add, Int.add_zero, Int.zero_mul, Int.one_mul,
      Int.mul_one, DL.zipL_map, DL.enumL_map, DL.iEnum_l, Function.comp, DL.oRng, DL.sRetH, DL.sRetHN, DL.sRetX, DL.sDropX, DL.sSetX, DL.sIfX, DL.xP,
      DL.xNot, DL.xB, DL.xOp, DL.xAnd, DL.xOr, DL.rxb_ok, DL.rxb_exc, DL.rxo_ok, DL.rxo_exc, DL.inE_ok, DL.inE_exc, DL.then_rs, DL.ctn_rs, DL.wp_rs,
      DL.fin_rs, DL.RHo_ok, DL.RHo_exc,
      $ls,*] $[$l]?)
namespace LA
open PySem DL L2
structure Lay where
  u : Int
  w : Int
  l : Int
  b : Int
  deriving DecidableEq
def Lay.d (x : Lay) : D := .tup [.int x.u, .int x.w, .int x.l, .int x.b]
def pairD (p : Int × Int) : D := .tup [.int p.1, .int p.2]
structure Lay.Ok (x : Lay) : Prop where
  u0 : 0 ≤ x.u
  u6 : x.u ≤ 6
  w1 : 1 ≤ x.w
  w20 : x.w ≤ 20
  l0 : 0 ≤ x.l
  l24 : x.l ≤ 24
  b2 : 2 ≤ x.b
  b25 : x.b ≤ 25
  uw : x.u = 0 → x.w = 1
  ul : 0 < x.u → x.w - 1 ≤ x.l
  full : x.b - 1 ≤ x.u * x.w + x.l
def mix (ns : List Int) (k : Int) : Int := if ns = [] then k * 7919 else (ns.getD (k % (ns.length : Nat)).toNat 0 + 1 + k) * (48271 + 7919 * k) % 2147483647
theorem mix_nonneg (ns : List Int) {k : Int} (h : 0 ≤ k) : 0 ≤ mix ns k := by
  unfold mix
  split
  · omega
  · exact Int.emod_nonneg _ (by decide)
theorem mixed (ns : List Int) {k : Int} (h0 : 0 ≤ k) (h1 : k < 1000000) : m_law_mixed [.scr ns, .int k] = .ok (.int (mix ns k)) := by
  cases ns with
  | nil => rfl
  | cons a t =>
    have hl : (0 : Int) < ((a :: t).length : Nat) := by simp
    have e1 := dMod_i (i := k) hl
    have e2 := dIx_scr (ns := a :: t) (i := k % ((a :: t).length : Nat)) (Int.emod_nonneg _ (by omega)) (Int.emod_lt_of_pos _ hl)
    have e3 := dMul_r (i := (a :: t).getD (k % ((a :: t).length : Nat)).toNat 0 + 1 + k) (j := 48271 + 7919 * k) (by omega) (by omega)
    have e4 := dMul_r (i := 7919) (j := k) (by omega) (by omega)
    have e5 := fun i : Int => dMod_i (i := i) (j := 2147483647) (by decide)
    have e0 : dLen [.scr (a :: t)] = .ok (.int ((a :: t).length : Nat)) := rfl
    have e6 : dEq (.scr (a :: t)) (.lst []) = .ok (.bl false) := rfl
    unfold mix
    rw [if_neg (List.cons_ne_nil a t)]
    generalize hL : (a :: t).length = L at *
    unfold m_law_mixed b_law_mixed
    simp_arith! [e6, e0, e1, e2, e3, e4, e5]
def lay (c : Int) : Lay :=
  if c % 3 = 0 then
    let b := 2 + c / 3 % 24
    ⟨0, 1, if b - 1 + c / 72 % 4 < 24 then b - 1 + c / 72 % 4 else 24, b⟩
  else
    let u := 1 + c / 3 % 6
    let w := if c / 360 % 2 = 0 then 5 else 1 + c / 18 % 20
    let l := w - 1 + c / 720 % 6
    let m := if u * w + l + 1 < 25 then u * w + l + 1 else 25
    ⟨u, w, l, 2 + c / 4320 % (m - 1)⟩
theorem layout {c : Int} (h : 0 ≤ c) : m_law_layout [.int c] = .ok (lay c).d := by
  unfold m_law_layout b_law_layout lay Lay.d
  by_cases hc : c % 3 = 0
  · simp_arith! [hc]
  · have hu : 0 ≤ c / 3 % 6 ∧ c / 3 % 6 < 6 := ⟨Int.emod_nonneg _ (by decide), Int.emod_lt_of_pos _ (by decide)⟩
    have hw : 0 ≤ c / 18 % 20 ∧ c / 18 % 20 < 20 := ⟨Int.emod_nonneg _ (by decide), Int.emod_lt_of_pos _ (by decide)⟩
    have h2 : 0 ≤ c / 360 % 2 ∧ c / 360 % 2 < 2 := ⟨Int.emod_nonneg _ (by decide), Int.emod_lt_of_pos _ (by decide)⟩
    have h6 : 0 ≤ c / 720 % 6 ∧ c / 720 % 6 < 6 := ⟨Int.emod_nonneg _ (by decide), Int.emod_lt_of_pos _ (by decide)⟩
    have ix := fun a b : D => dIx_two (a := a) (b := b) h2.1 h2.2
    generalize hx : c / 3 % 6 = x at *
    generalize hy : c / 18 % 20 = y at *
    generalize hz : c / 720 % 6 = z at *
    generalize hq : c / 360 % 2 = q at *
    have k1 : ∀ w : Int, 1 ≤ w → w ≤ 20 → dMul (.int (1 + x)) (.int w) = .ok (.int ((1 + x) * w)) := fun w _ _ => dMul_r (by omega) (by omega)
    have key : ∀ w : Int, 1 ≤ w → w ≤ 20 → 0 < (if (1 + x) * w + (w - 1 + z) + 1 < 25 then (1 + x) * w + (w - 1 + z) + 1 else 25) - 1 := fun w a b => by
      have : 1 * w ≤ (1 + x) * w := Int.mul_le_mul_of_nonneg_right (by omega) (by omega)
      split <;> omega
    by_cases e : q = 0
    · have k2 := fun i => dMod_i (i := i) (j := (if (1 + x) * 5 + (4 + z) + 1 < 25 then (1 + x) * 5 + (4 + z) + 1 else 25) - 1) (key 5 (by decide) (by decide))
      simp_arith! [hc, hx, hy, hz, hq, ix, e, k1 5 (by decide) (by decide), k2]
    · have k2 := fun i => dMod_i (i := i) (key (1 + y) (by omega) (by omega))
      simp_arith! [hc, hx, hy, hz, hq, ix, e, k1 (1 + y) (by omega) (by omega), k2]
def fr (ns : List Int) (most : Int) : List Lay := (List.range (1 + mix ns 9 % most).toNat).map fun (k : Nat) => lay (mix ns (10 + k))
theorem frame (ns : List Int) {most : Int} (h0 : 0 < most) (h1 : most ≤ 1000) : mo_law_frame [.scr ns, .int most] = .ok ((fr ns most).map Lay.d) := by
  have hm := mixed ns (k := 9) (by decide) (by decide)
  have e1 := Int.emod_nonneg (mix ns 9) (show most ≠ 0 by omega)
  have e2 := Int.emod_lt_of_pos (mix ns 9) h0
  have hr := iRng1 (j := 1 + mix ns 9 % most) (by omega) (by omega)
  have el : oLc [2] (iCall iRange1 (aCons (eOp dAdd (eC (.int 1)) (eOp dMod (eFn 2 m_law_mixed (aCons (eV 0) (aCons (eC (.int 9)) (aNil)))) (eV 1))) (aNil))) (gNm 2) (bYes) (eFn 1 m_law_layout (aCons (eFn 2 m_law_mixed (aCons (eV 0) (aCons (eOp dAdd (eC (.int 10)) (eV 2)) (aNil)))) (aNil)))
      [some (.val (.scr ns)), some (.val (.int most)), none] = .ok ((fr ns most).map Lay.d) := by
    refine oLc_ok (ds := rngL 0 (1 + mix ns 9 % most).toNat) ?_ ?_ ?_
    · simp_arith! [hm, h0, hr]
    · unfold fr
      rw [List.map_map]
      refine lcF_rng 0 _ _ fun i hi => ⟨_, rfl, rfl, ?_⟩
      have hi' : (i : Int) < 1000000 - 10 := by omega
      have h2 := mixed ns (k := 10 + i) (by omega) (by omega)
      have h3 := layout (mix_nonneg ns (k := 10 + i) (by omega))
      simp_arith! [wipeE, h2, h3, Int.zero_add, Function.comp]
    · rw [rngL_len]
      show _ ≤ 16777216
      omega
  unfold mo_law_frame b_law_frame
  simp_arith! [el]
def st1 (c : Int) (x : Lay) : Int × Int := (c % (x.u + 1), c / 7 % (x.l + 1))
def st (ns : List Int) (at_ : Int) (f : List Lay) : List (Int × Int) := f.zipIdx.map fun q => st1 (mix ns (at_ + (q.2 : Nat))) q.1
theorem st_len (ns : List Int) (at_ : Int) (f : List Lay) : (st ns at_ f).length = f.length := by
  unfold st
  rw [List.length_map, List.length_zipIdx]
theorem st_get (ns : List Int) (at_ : Int) (f : List Lay) {i : Nat} {x : Lay} (h : f[i]? = some x) : (st ns at_ f)[i]? = some (st1 (mix ns (at_ + (i : Nat))) x) := by
  unfold st
  rw [List.getElem?_map, List.getElem?_zipIdx, h]
  simp
theorem take_succ_get {α : Type} {l : List α} {i : Nat} {x : α} (h : l[i]? = some x) : l.take (i + 1) = l.take i ++ [x] := by
  rw [List.take_add_one, h]
  rfl
theorem standing (ns : List Int) {at_ : Int} (f : List Lay) (hf : ∀ x ∈ f, x.Ok) (h0 : 0 ≤ at_) (h1 : at_ < 900000) (hl : f.length ≤ 1000) : mo_law_standing [.scr ns, .int at_, .lst (f.map Lay.d)] = .ok ((st ns at_ f).map pairD) := by
  have lp := loopF_enum (h := gTp 2 (gsCons (gNm 4) (gsCons (gNm 5) (gsNil)))) (g := sSeq (sSet (gNm 6) (eFn 2 m_law_mixed (aCons (eV 0) (aCons (eOp dAdd (eV 1) (eV 4)) (aNil))))) <|
    sApp 3 (eTup (aCons (eOp dMod (eV 6) (eOp dAdd (eOp dIx (eV 5) (eC (.int 0))) (eC (.int 1)))) (aCons (eOp dMod (eOp dDiv (eV 6) (eC (.int 7))) (eOp dAdd (eOp dIx (eV 5) (eC (.int 2))) (eC (.int 1)))) (aNil)))))
    (Γ := [some (.val (.scr ns)), some (.val (.int at_)), some (.val (.lst (f.map Lay.d))), some (.own []), none, none, none]) f Lay.d
    (fun i Γ => ∃ a b c, Γ = [some (.val (.scr ns)), some (.val (.int at_)), some (.val (.lst (f.map Lay.d))), some (.own (((st ns at_ f).take i).map pairD)), a, b, c]) ⟨_, _, _, rfl⟩ (by
      rintro i x Γ hx ⟨a, b, c, rfl⟩
      have ok := hf x (List.mem_of_getElem? hx)
      have hi : i < f.length := (List.getElem?_eq_some_iff.mp hx).1
      have e1 := mixed ns (k := at_ + (i : Nat)) (by omega) (by omega)
      have e2 : ((st ns at_ f).take i).length < LIM := by
        rw [List.length_take]
        show _ < 16777216
        omega
      have pu : 0 < x.u + 1 := by have := ok.u0; omega
      have pl : 0 < x.l + 1 := by have := ok.l0; omega
      refine ⟨_, [some (.val (.scr ns)), some (.val (.int at_)), some (.val (.lst (f.map Lay.d))), some (.own (((st ns at_ f).take (i + 1)).map pairD)), some (.val (.int (i : Nat))), some (.val x.d), some (.val (.int (mix ns (at_ + (i : Nat)))))], rfl, .inl ?_, _, _, _, rfl⟩
      rw [take_succ_get (st_get ns at_ f hx), List.map_append]
      simp only [LIM] at e2
      simp_arith! [e1, Lay.d, pu, pl, List.length_map, e2, st1, pairD])
  obtain ⟨Γ', e, a, b, c, rfl⟩ := lp
  have e2 : (st ns at_ f).take f.length = st ns at_ f := by rw [← st_len ns at_ f, List.take_length]
  rw [e2] at e
  unfold mo_law_standing b_law_standing
  simp_arith! [iEnum_l, e]
end LA
namespace FA
open PySem DL L2 LA
def cnt (x : Lay) (p : Int × Int) : Int := p.1 * x.w + p.2
def hi (x : Lay) (n : Int) : Int := if n / x.w < x.u then n / x.w else x.u
def pl (x : Lay) (n : Int) : Int × Int := (hi x n, n - hi x n * x.w)
theorem count_of {x : Lay} (ok : x.Ok) (p : Int × Int) : m_count_of [x.d, pairD p] = .ok (.int (cnt x p)) := by
  have := ok.w1
  have := ok.w20
  have e := dMul_r (i := p.1) (j := x.w) (by omega) (by omega)
  unfold m_count_of b_count_of
  simp_arith! [Lay.d, pairD, e, cnt]
theorem plain_of {x : Lay} (ok : x.Ok) (n : Int) : m_plain_of [x.d, .int n] = .ok (pairD (pl x n)) := by
  have h1 := ok.w1
  have h20 := ok.w20
  have e := fun i => dMul_r (i := i) (j := x.w) (by omega) (by omega)
  have e1 := dDiv_i (i := n) (j := x.w) (by omega) (by omega)
  unfold m_plain_of b_plain_of
  simp_arith! [Lay.d, pairD, e, e1, pl, hi]
theorem pl_le (x : Lay) (n : Int) : (pl x n).1 ≤ x.u := by
  show hi x n ≤ _
  unfold hi
  split <;> omega
theorem pl_low {x : Lay} (ok : x.Ok) {n : Int} (h : 0 ≤ n) : 0 ≤ (pl x n).2 := by
  have hw : 0 < x.w := by have := ok.w1; omega
  show 0 ≤ n - hi x n * x.w
  have h1 : hi x n ≤ n / x.w := by unfold hi; split <;> omega
  have h2 : hi x n * x.w ≤ n / x.w * x.w := Int.mul_le_mul_of_nonneg_right h1 (by omega)
  have h3 := Int.ediv_mul_le n (show x.w ≠ 0 by omega)
  omega
theorem pl_high {x : Lay} (ok : x.Ok) {n : Int} (h : 0 ≤ n) : 0 ≤ (pl x n).1 := by
  show 0 ≤ hi x n
  have := ok.u0
  have := Int.ediv_nonneg h (show 0 ≤ x.w by have := ok.w1; omega)
  unfold hi
  split <;> omega
theorem cnt_pl (x : Lay) (n : Int) : cnt x (pl x n) = n := by
  show hi x n * x.w + (n - hi x n * x.w) = n
  omega
end FA
namespace FB
open PySem DL L2 LA FA
def dft : Lay := ⟨0, 1, 1, 2⟩
def lat (f : List Lay) (i : Nat) : Lay := f.getD i dft
theorem lat_get {f : List Lay} {i : Nat} (h : i < f.length) : f[i]? = some (lat f i) := by
  unfold lat
  rw [List.getD, List.getElem?_eq_getElem h]
  rfl
theorem lat_of {f : List Lay} {i : Nat} {x : Lay} (h : f[i]? = some x) : lat f i = x := by
  unfold lat
  rw [List.getD, h]
  rfl
theorem lat_ok {f : List Lay} (hf : ∀ x ∈ f, x.Ok) (i : Nat) : (lat f i).Ok := by
  by_cases h : i < f.length
  · exact hf _ (List.mem_of_getElem? (lat_get h))
  · unfold lat
    rw [List.getD, List.getElem?_eq_none (by omega)]
    exact ⟨by decide, by decide, by decide, by decide, by decide, by decide, by decide, by decide, by decide, by decide, by decide⟩
def plc (f : List Lay) : Nat → Int
  | 0 => 1
  | i + 1 => plc f i * (lat f i).b
theorem plc_pos {f : List Lay} (hf : ∀ x ∈ f, x.Ok) : ∀ i, 0 < plc f i
  | 0 => by show (0 : Int) < 1; decide
  | i + 1 => Int.mul_pos (plc_pos hf i) (by have := (lat_ok hf i).b2; omega)
def lft (f : List Lay) (n : Int) (i : Nat) : Int := n / plc f i
def dig (f : List Lay) (n : Int) (i : Nat) : Int := if i + 1 < f.length then lft f n i % (lat f i).b else lft f n i
def digs (f : List Lay) (n : Int) : List Int := (List.range f.length).map (dig f n)
theorem lft_succ {f : List Lay} (hf : ∀ x ∈ f, x.Ok) (n : Int) (i : Nat) : lft f n (i + 1) = lft f n i / (lat f i).b := by
  unfold lft
  show n / (plc f i * (lat f i).b) = _
  rw [Int.ediv_ediv_of_nonneg (Int.le_of_lt (plc_pos hf i))]
theorem lft_0 (f : List Lay) (n : Int) : lft f n 0 = n := Int.ediv_one n
theorem digs_len (f : List Lay) (n : Int) : (digs f n).length = f.length := by unfold digs; rw [List.length_map, List.length_range]
theorem digs_get {f : List Lay} {n : Int} {i : Nat} (h : i < f.length) : (digs f n)[i]? = some (dig f n i) := by
  unfold digs
  rw [List.getElem?_map, List.getElem?_range h]
  rfl
theorem digits_of {f : List Lay} (hf : ∀ x ∈ f, x.Ok) (hl : 1 ≤ f.length) (hl' : f.length ≤ 1000) (n : Int) : mo_digits_of [.lst (f.map Lay.d), .int n] = .ok ((digs f n).map D.int) := by
  have lp := loopF_inv (h := gNm 3) (g := sSeq (sSet (gTp 2 (gsCons (gNm 1) (gsCons (gNm 4) (gsNil)))) (eCall dDivmod (aCons (eV 1) (aCons (eOp dIx (eV 3) (eC (.int 3))) (aNil))))) <|
    sApp 2 (eV 4))
    (Γ := [some (.val (.lst (f.map Lay.d))), some (.val (.int n)), some (.own []), none, none]) f.dropLast Lay.d
    (fun i Γ => ∃ a b, Γ = [some (.val (.lst (f.map Lay.d))), some (.val (.int (lft f n i))), some (.own (((digs f n).take i).map D.int)), a, b]) ⟨_, _, by rw [lft_0]; rfl⟩ (by
      rintro i x Γ hx ⟨a, b, rfl⟩
      have hi : i < f.length - 1 := by
        have := (List.getElem?_eq_some_iff.mp hx).1
        rwa [List.length_dropLast] at this
      have hx' : f[i]? = some x := by
        rw [List.getElem?_dropLast] at hx
        rw [if_pos hi] at hx
        exact hx
      have ok := hf x (List.mem_of_getElem? hx')
      have ex := lat_of hx'
      have hb : 0 < x.b := by have := ok.b2; omega
      have e1 : dDivmod [.int (lft f n i), .int x.b] = .ok (.tup [.int (lft f n i / x.b), .int (lft f n i % x.b)]) := dDivmod_i hb (by have := ok.b25; omega)
      have e3 : dIx x.d (.int 3) = .ok (.int x.b) := rfl
      have e2 : ((digs f n).take i).length < LIM := by
        rw [List.length_take]
        show _ < 16777216
        omega
      simp only [LIM] at e2
      have e4 : lft f n (i + 1) = lft f n i / x.b := by rw [lft_succ hf, ex]
      have e5 : dig f n i = lft f n i % x.b := by unfold dig; rw [if_pos (by omega), ex]
      refine ⟨_, [some (.val (.lst (f.map Lay.d))), some (.val (.int (lft f n (i + 1)))), some (.own (((digs f n).take (i + 1)).map D.int)), some (.val x.d), some (.val (.int (lft f n i % x.b)))], rfl, .inl ?_, _, _, rfl⟩
      rw [take_succ_get (digs_get (by omega)), List.map_append, e4, e5]
      simp_arith! [e1, e3, List.length_map, e2])
  obtain ⟨Γ', e, a, b, rfl⟩ := lp
  rw [List.length_dropLast] at e
  have ed : (digs f n).take (f.length - 1) ++ [lft f n (f.length - 1)] = digs f n := by
    have h1 : (digs f n)[f.length - 1]? = some (lft f n (f.length - 1)) := by
      rw [digs_get (by omega)]
      unfold dig
      rw [if_neg (by omega)]
    rw [← take_succ_get h1]
    exact List.take_of_length_le (by rw [digs_len]; omega)
  have eo : oAdd (.lst (((digs f n).take (f.length - 1)).map D.int)) (.lst [.int (lft f n (f.length - 1))]) = .ok ((digs f n).map D.int) := by
    show (if (((digs f n).take (f.length - 1)).map D.int).length + 1 ≤ 16777216 then R.ok (((digs f n).take (f.length - 1)).map D.int ++ [.int (lft f n (f.length - 1))]) else .stuck) = _
    rw [if_pos (by rw [List.length_map, List.length_take]; omega), ← ed, List.map_append]
    rw [ed]
    rfl
  rw [List.map_dropLast] at e
  unfold mo_digits_of b_digits_of
  simp_arith! [e, eo]
theorem digits_ofL {f : List Lay} (hf : ∀ x ∈ f, x.Ok) (hl : 1 ≤ f.length) (hl' : f.length ≤ 1000) (n : Int) : m_digits_of [.lst (f.map Lay.d), .int n] = .ok (.lst ((digs f n).map D.int)) := by
  show R.bind _ _ = _
  rw [digits_of hf hl hl' n]
  rfl
def tot (f : List Lay) (n : Int) (i : Nat) : Int := n - lft f n i * plc f i
theorem lft_nonneg {f : List Lay} (hf : ∀ x ∈ f, x.Ok) {n : Int} (h : 0 ≤ n) (i : Nat) : 0 ≤ lft f n i := Int.ediv_nonneg h (Int.le_of_lt (plc_pos hf i))
theorem dig_nonneg {f : List Lay} (hf : ∀ x ∈ f, x.Ok) {n : Int} (h : 0 ≤ n) (i : Nat) : 0 ≤ dig f n i := by
  unfold dig
  split
  · exact Int.emod_nonneg _ (by have := (lat_ok hf i).b2; omega)
  · exact lft_nonneg hf h i
end FB
namespace FC
open PySem DL L2 LA FA FB
def bnz : List (Lay × (Int × Int)) → Int
  | [] => 0
  | q :: t => bnz t * q.1.b + cnt q.1 q.2
theorem borne_by {f : List Lay} {s : List (Int × Int)} (hf : ∀ x ∈ f, x.Ok) : m_borne_by [.lst (f.map Lay.d), .lst (s.map pairD)] = .ok (.int (bnz (f.zip s))) := by
  obtain ⟨Γ', e, a, b, rfl⟩ := loopF_rev (h := gTp 2 (gsCons (gNm 3) (gsCons (gNm 4) (gsNil)))) (g := sSet (gNm 2) (eOp dAdd (eOp dMul (eV 2) (eOp dIx (eV 3) (eC (.int 3)))) (eFn 2 FA.m_count_of (aCons (eV 3) (aCons (eV 4) (aNil))))))
    (Γ := [some (.val (.lst (f.map Lay.d))), some (.val (.lst (s.map pairD))), some (.val (.int 0)), none, none]) (f.zip s) (fun q => .tup [q.1.d, pairD q.2])
    (fun t Γ => ∃ a b, Γ = [some (.val (.lst (f.map Lay.d))), some (.val (.lst (s.map pairD))), some (.val (.int (bnz t))), a, b]) ⟨_, _, rfl⟩ (by
      rintro ⟨x, p⟩ t Γ ht ⟨a, b, rfl⟩
      have ok := hf x (List.of_mem_zip (ht.subset List.mem_cons_self)).1
      have e1 := count_of ok p
      have e2 : dMul (.int (bnz t)) (.int x.b) = .ok (.int (bnz t * x.b)) := dMul_r (by have := ok.b2; omega) (by have := ok.b25; omega)
      have e3 : dIx x.d (.int 3) = .ok (.int x.b) := rfl
      refine ⟨_, [some (.val (.lst (f.map Lay.d))), some (.val (.lst (s.map pairD))), some (.val (.int (bnz ((x, p) :: t)))), some (.val x.d), some (.val (pairD p))], rfl, .inl ?_, _, _, rfl⟩
      simp_arith! [e1, e2, e3, bnz])
  rw [← zipL_map] at e
  unfold m_borne_by b_borne_by
  simp_arith! [e]
def clr (f : List Lay) : List (Int × Int) := f.map fun _ => (0, 0)
theorem clr_len (f : List Lay) : (clr f).length = f.length := List.length_map _
def sm : List Lay → List (Int × Int) → Int → Int
  | x :: f, p :: s, P => cnt x p * P + sm f s (P * x.b)
  | _, _, _ => 0
end FC
namespace LA
open PySem DL L2
instance : Inhabited Lay := ⟨⟨0, 1, 1, 2⟩⟩
section
variable {x : Lay} {p : Int × Int} {hs : Tgs} {Γ : DL.Env}
theorem Lay.ix0 : dIx x.d (.int 0) = .ok (.int x.u) := rfl
theorem Lay.ix1 : dIx x.d (.int 1) = .ok (.int x.w) := rfl
theorem Lay.ix2 : dIx x.d (.int 2) = .ok (.int x.l) := rfl
theorem Lay.ix3 : dIx x.d (.int 3) = .ok (.int x.b) := rfl
theorem Lay.tp : gTp 4 hs x.d Γ = hs [.int x.u, .int x.w, .int x.l, .int x.b] Γ := rfl
theorem pr_0 : dIx (pairD p) (.int 0) = .ok (.int p.1) := rfl
theorem pr_1 : dIx (pairD p) (.int 1) = .ok (.int p.2) := rfl
theorem pr_tp : gTp 2 hs (pairD p) Γ = hs [.int p.1, .int p.2] Γ := rfl
theorem pr_isi : dIsi [pairD p, .ty "tuple"] = .ok (.bl true) := rfl
theorem pr_len : dLen [pairD p] = .ok (.int 2) := rfl
theorem lay_isi : dIsi [x.d, .ty "tuple"] = .ok (.bl true) := rfl
theorem lay_len : dLen [x.d] = .ok (.int 4) := rfl
theorem sh_pairs (s : List (Int × Int)) : (D.lst (s.map pairD)).sh 60 = true := by
  show (s.map pairD).all (D.sh 59) = true
  rw [List.all_map, List.all_eq_true]
  exact fun _ _ => rfl
theorem sh_lays (f : List Lay) : (D.lst (f.map Lay.d)).sh 60 = true := by
  show (f.map Lay.d).all (D.sh 59) = true
  rw [List.all_map, List.all_eq_true]
  exact fun _ _ => rfl
theorem prs_same (s : List (Int × Int)) : dEq (.lst (s.map pairD)) (.lst (s.map pairD)) = .ok (.bl true) := dEq_same (sh_pairs s)
theorem prs_nsame (s : List (Int × Int)) : dNe (.lst (s.map pairD)) (.lst (s.map pairD)) = .ok (.bl false) := dNe_same (sh_pairs s)
theorem lays_same (f : List Lay) : dEq (.lst (f.map Lay.d)) (.lst (f.map Lay.d)) = .ok (.bl true) := dEq_same (sh_lays f)
theorem lays_nsame (f : List Lay) : dNe (.lst (f.map Lay.d)) (.lst (f.map Lay.d)) = .ok (.bl false) := dNe_same (sh_lays f)
end
end LA
namespace FD
open PySem DL L2 LA FA FB FC
def full (x : Lay) : Int := x.u * x.w + x.l
def lastL (f : List Lay) : Lay := lat f (f.length - 1)
def top_ (f : List Lay) : Int := plc f (f.length - 1) * (full (lastL f) + 1) - 1
theorem full_worth {x : Lay} (ok : x.Ok) : m_full_worth [x.d] = .ok (.int (full x)) := by
  have := ok.w1
  have := ok.w20
  unfold m_full_worth b_full_worth
  simp_arith [Lay.ix0, Lay.ix1, Lay.ix2, Lay.ix3, Lay.tp, pr_0, pr_1, pr_tp, pr_isi, prs_same, prs_nsame, lays_same, lays_nsame, full]
theorem full_nonneg {x : Lay} (ok : x.Ok) : 0 ≤ full x := by
  have := Int.mul_nonneg ok.u0 (show 0 ≤ x.w by have := ok.w1; omega)
  have := ok.l0
  unfold full
  omega
theorem top_nonneg {f : List Lay} (hf : ∀ x ∈ f, x.Ok) : 0 ≤ top_ f := by
  have hp := plc_pos hf (f.length - 1)
  have hk := full_nonneg (lat_ok hf (f.length - 1))
  have := Int.mul_le_mul_of_nonneg_right (show 1 ≤ plc f (f.length - 1) by omega) (show 0 ≤ full (lastL f) + 1 by unfold lastL; omega)
  have e : full (lastL f) = full (lat f (f.length - 1)) := rfl
  unfold top_
  omega
theorem too_great {f : List Lay} (hf : ∀ x ∈ f, x.Ok) (n : Int) : (full (lastL f) < lft f n (f.length - 1)) ↔ top_ f < n := by
  have hp := plc_pos hf (f.length - 1)
  unfold top_ lft
  constructor
  · intro h
    have h2 : full (lastL f) + 1 ≤ n / plc f (f.length - 1) := h
    rw [Int.le_ediv_iff_mul_le hp, Int.mul_comm] at h2
    omega
  · intro h
    have : full (lastL f) + 1 ≤ n / plc f (f.length - 1) := by
      rw [Int.le_ediv_iff_mul_le hp, Int.mul_comm]
      omega
    omega
theorem ix_last {α : Type} {f : List α} (h : 1 ≤ f.length) (enc : α → D) (d : α) : dIx (.lst (f.map enc)) (.int (-1)) = .ok (enc (f.getD (f.length - 1) d)) := by
  refine dIx_lst (atI_l ?_)
  rw [List.length_map, List.getElem?_map, List.getD, List.getElem?_eq_getElem (by omega)]
  rfl
def tdl (f : List Lay) (n : Int) : List (Int × Int) := f.zipIdx.map fun q => pl q.1 (dig f n q.2)
theorem tdl_len (f : List Lay) (n : Int) : (tdl f n).length = f.length := by unfold tdl; rw [List.length_map, List.length_zipIdx]
theorem tdl_get {f : List Lay} {i : Nat} {x : Lay} (h : f[i]? = some x) (n : Int) : (tdl f n)[i]? = some (pl x (dig f n i)) := by
  unfold tdl
  rw [List.getElem?_map, List.getElem?_zipIdx, h]
  simp
theorem tdl_zip (f : List Lay) (n : Int) : tdl f n = (f.zip (digs f n)).map fun q => pl q.1 q.2 := by
  refine List.ext_getElem (by simp [tdl, digs_len]) fun i h1 h2 => ?_
  simp [tdl, digs]
theorem dig_0 (f : List Lay) (i : Nat) : dig f 0 i = 0 := by
  have : lft f 0 i = 0 := Int.zero_ediv _
  unfold dig
  rw [this]
  split
  · exact Int.zero_emod _
  · rfl
theorem pl_0 {x : Lay} (ok : x.Ok) : pl x 0 = (0, 0) := by
  have hz : hi x 0 = 0 := by
    have := ok.u0
    unfold hi
    rw [Int.zero_ediv]
    split <;> omega
  unfold pl
  rw [hz]
  simp
theorem tdl_0 {f : List Lay} (hf : ∀ x ∈ f, x.Ok) : tdl f 0 = clr f := by
  refine List.ext_getElem (by rw [tdl_len, clr_len]) fun i h1 h2 => ?_
  simp only [tdl, clr, List.getElem_map, List.getElem_zipIdx, dig_0]
  exact pl_0 (hf _ (List.getElem_mem _))
theorem dig_last {f : List Lay} (hl : 1 ≤ f.length) (n : Int) : (digs f n).getD (f.length - 1) 0 = lft f n (f.length - 1) := by
  rw [List.getD, digs_get (by omega)]
  show dig f n (f.length - 1) = _
  unfold dig
  rw [if_neg (by omega)]
theorem tidy_of {f : List Lay} (hf : ∀ x ∈ f, x.Ok) (hl : 1 ≤ f.length) (hl' : f.length ≤ 1000) (n : Int) :
    mo_tidy_of [.lst (f.map Lay.d), .int n] = if top_ f < n then .exc (.exc "TooGreat" ["rod"] [.int ((f.length : Nat) - 1)]) else .ok ((tdl f n).map pairD) := by
  have e1 := digits_ofL hf hl hl' n
  have ix1 : dIx (.lst ((digs f n).map D.int)) (.int (-1)) = .ok (.int (lft f n (f.length - 1))) := by
    have := ix_last (f := digs f n) (by rw [digs_len]; exact hl) D.int 0
    rw [digs_len, dig_last hl] at this
    exact this
  have ix2 : dIx (.lst (f.map Lay.d)) (.int (-1)) = .ok (lastL f).d := ix_last hl Lay.d dft
  have e2 : m_full_worth [(lastL f).d] = .ok (.int (full (lastL f))) := full_worth (lat_ok hf (f.length - 1))
  have tg := too_great hf n
  have lc : oLc [3, 4] (iCall iZipD (aCons (eV 0) (aCons (eV 2) (aNil)))) (gTp 2 (gsCons (gNm 3) (gsCons (gNm 4) (gsNil)))) (bYes) le_tidy_of1
      [some (.val (.lst (f.map Lay.d))), some (.val (.int (n))), some (.val (.lst ((digs f n).map D.int))), none, none] = .ok ((tdl f n).map pairD) := by
    rw [oLc_map (f.zip (digs f n)) (fun q => .tup [q.1.d, .int q.2]) (fun q => pairD (pl q.1 q.2)) (by simp_arith [Lay.ix0, Lay.ix1, Lay.ix2, Lay.ix3, Lay.tp, pr_0, pr_1, pr_tp, pr_isi, prs_same, prs_nsame, lays_same, lays_nsame]) (by rw [List.length_zip]; show _ ≤ 16777216; omega), tdl_zip, List.map_map]
    · rfl
    · intro q hq
      have e := plain_of (hf q.1 (List.of_mem_zip hq).1) q.2
      simp_arith [Lay.ix0, Lay.ix1, Lay.ix2, Lay.ix3, Lay.tp, pr_0, pr_1, pr_tp, pr_isi, prs_same, prs_nsame, lays_same, lays_nsame, le_tidy_of1, e]
  unfold mo_tidy_of b_tidy_of
  by_cases q : top_ f < n
  · have c := tg.mpr q
    simp_arith [Lay.ix0, Lay.ix1, Lay.ix2, Lay.ix3, Lay.tp, pr_0, pr_1, pr_tp, pr_isi, prs_same, prs_nsame, lays_same, lays_nsame, e1, ix1, ix2, e2, c, q]
  · have c : ¬ (full (lastL f) < lft f n (f.length - 1)) := fun h => q (tg.mp h)
    simp_arith [Lay.ix0, Lay.ix1, Lay.ix2, Lay.ix3, Lay.tp, pr_0, pr_1, pr_tp, pr_isi, prs_same, prs_nsame, lays_same, lays_nsame, e1, ix1, ix2, e2, c, q, lc]
abbrev tg (i : Int) : D := .exc "TooGreat" ["rod"] [.int i]
theorem tidyL {f : List Lay} (hf : ∀ x ∈ f, x.Ok) (hl : 1 ≤ f.length) (hl' : f.length ≤ 1000) (n : Int) :
    m_tidy_of [.lst (f.map Lay.d), .int n] = if top_ f < n then .exc (tg ((f.length : Nat) - 1)) else .ok (.lst ((tdl f n).map pairD)) := by
  show R.bind _ _ = _
  rw [tidy_of hf hl hl' n]
  split <;> rfl
end FD
namespace FM
open PySem DL L2 LA FA FB FC FD
abbrev Mv := (Str × Str) × Int × Int
def mvO (m : Mv) : D := .obj m.1.1 ["rod", "beads"] [.int m.2.1, .int m.2.2]
def mvT (m : Mv) : D := .tup [.str m.1.2, .int m.2.1, .int m.2.2]
def rodR (r : Int) (p q : Int × Int) : List Mv :=
  (((if q.1 < p.1 then [((("Take", "take"), r, p.1 - q.1) : Mv)] else []) ++ (if q.2 < p.2 then [((("Down", "down"), r, p.2 - q.2) : Mv)] else [])) ++ (if p.1 < q.1 then [((("Put", "put"), r, q.1 - p.1) : Mv)] else [])) ++ (if p.2 < q.2 then [((("Up", "up"), r, q.2 - p.2) : Mv)] else [])
theorem rodR_len (r : Int) (p q : Int × Int) : (rodR r p q).length ≤ 4 := by
  unfold rodR
  simp only [List.length_append]
  split <;> split <;> split <;> split <;> simp
def Cw (c : Str × Str) : Prop := c = (("Take" : Str), ("take" : Str)) ∨ c = (("Down" : Str), ("down" : Str)) ∨ c = (("Put" : Str), ("put" : Str)) ∨ c = (("Up" : Str), ("up" : Str))
theorem rodR_cw (r : Int) (p q : Int × Int) : ∀ m ∈ rodR r p q, Cw m.1 := by
  intro m hm
  unfold rodR at hm
  simp only [List.mem_append] at hm
  rcases hm with ((hm | hm) | hm) | hm
  · split at hm
    · rw [List.mem_singleton.mp hm]; exact .inl rfl
    · cases hm
  · split at hm
    · rw [List.mem_singleton.mp hm]; exact .inr (.inl rfl)
    · cases hm
  · split at hm
    · rw [List.mem_singleton.mp hm]; exact .inr (.inr (.inl rfl))
    · cases hm
  · split at hm
    · rw [List.mem_singleton.mp hm]; exact .inr (.inr (.inr rfl))
    · cases hm
theorem rod_rows (r : Int) (p q : Int × Int) : mo_rod_rows [.int r, pairD p, pairD q] = .ok ((rodR r p q).map mvO) := by
  unfold mo_rod_rows b_rod_rows rodR
  by_cases h1 : q.1 < p.1
  · have h1' : ¬ p.1 < q.1 := by omega
    by_cases h2 : q.2 < p.2
    · have h2' : ¬ p.2 < q.2 := by omega
      simp_arith [pr_0, pr_1, pr_tp, pr_isi, pr_len, h1, h1', h2, h2', mvO]
    · by_cases h3 : p.2 < q.2 <;> simp_arith [pr_0, pr_1, pr_tp, pr_isi, pr_len, h1, h1', h2, h3, mvO]
  · by_cases h4 : p.1 < q.1
    · by_cases h2 : q.2 < p.2
      · have h2' : ¬ p.2 < q.2 := by omega
        simp_arith [pr_0, pr_1, pr_tp, pr_isi, pr_len, h1, h4, h2, h2', mvO]
      · by_cases h3 : p.2 < q.2 <;> simp_arith [pr_0, pr_1, pr_tp, pr_isi, pr_len, h1, h4, h2, h3, mvO]
    · by_cases h2 : q.2 < p.2
      · have h2' : ¬ p.2 < q.2 := by omega
        simp_arith [pr_0, pr_1, pr_tp, pr_isi, pr_len, h1, h4, h2, h2', mvO]
      · by_cases h3 : p.2 < q.2 <;> simp_arith [pr_0, pr_1, pr_tp, pr_isi, pr_len, h1, h4, h2, h3, mvO]
def atS (s : List (Int × Int)) (i : Nat) : Int × Int := s.getD i (0, 0)
def betK (s t : List (Int × Int)) (n : Nat) : Nat → List Mv
  | 0 => []
  | k + 1 => betK s t n k ++ rodR ((n - 1 - k : Nat) : Int) (atS s (n - 1 - k)) (atS t (n - 1 - k))
def bet (s t : List (Int × Int)) : List Mv := betK s t s.length s.length
theorem betK_len (s t : List (Int × Int)) (n : Nat) : ∀ k, (betK s t n k).length ≤ 4 * k
  | 0 => Nat.le_refl _
  | k + 1 => by
    show (betK s t n k ++ _).length ≤ _
    rw [List.length_append]
    have := betK_len s t n k
    have := rodR_len ((n - 1 - k : Nat) : Int) (atS s (n - 1 - k)) (atS t (n - 1 - k))
    omega
theorem atS_ix {s : List (Int × Int)} {i : Nat} (h : i < s.length) : dIx (.lst (s.map pairD)) (.int (i : Nat)) = .ok (pairD (atS s i)) := dIx_n (by
  rw [List.getElem?_map, List.getElem?_eq_getElem h]
  show some (pairD _) = _
  unfold atS
  rw [List.getD_eq_getElem?_getD, List.getElem?_eq_getElem h]
  rfl)
theorem rows_betweenO {ds : List D} {s t : List (Int × Int)} (hs : s.length = ds.length) (ht : t.length = ds.length) (hn : ds.length ≤ 1000) : mo_rows_between [.lst ds, .lst (s.map pairD), .lst (t.map pairD)] = .ok ((bet s t).map mvO) := by
  unfold mo_rows_between b_rows_between
  have l1 := for_dn (h := h_rows_between1) (g := g_rows_between1) ((ds.length : Nat) - 1) ds.length (fun k => [some (.val (.lst ds)), some (.val (.lst (s.map pairD))), some (.val (.lst (t.map pairD))), some (.own ((betK s t ds.length k).map mvO)), none]) (by
    intro k hk
    have e : ((ds.length : Nat) : Int) - 1 + (k : Nat) * (-1) = ((ds.length - 1 - k : Nat) : Int) := by omega
    rw [e]
    have i1 := atS_ix (s := s) (i := ds.length - 1 - k) (by omega)
    have i2 := atS_ix (s := t) (i := ds.length - 1 - k) (by omega)
    have rr := rod_rows ((ds.length - 1 - k : Nat) : Int) (atS s (ds.length - 1 - k)) (atS t (ds.length - 1 - k))
    have b1 := betK_len s t ds.length k
    have b2 := rodR_len ((ds.length - 1 - k : Nat) : Int) (atS s (ds.length - 1 - k)) (atS t (ds.length - 1 - k))
    simp_arith [pr_0, pr_1, pr_tp, pr_isi, pr_len, h_rows_between1, g_rows_between1, i1, i2, rr, betK, List.map_append])
  have ir : inR62 ((ds.length : Nat) : Int) = true := by
    unfold inR62
    simp only [Bool.and_eq_true, decide_eq_true_eq]
    omega
  simp_arith [pr_0, pr_1, pr_tp, pr_isi, pr_len, betK] at l1
  simp_arith [pr_0, pr_1, pr_tp, pr_isi, pr_len, ir, Int.toNat_natCast, l1]
  unfold bet
  rw [hs]
theorem rows_between {ds : List D} {s t : List (Int × Int)} (hs : s.length = ds.length) (ht : t.length = ds.length) (hn : ds.length ≤ 1000) : m_rows_between [.lst ds, .lst (s.map pairD), .lst (t.map pairD)] = .ok (.lst ((bet s t).map mvO)) := by
  show R.bind _ _ = _
  rw [rows_betweenO hs ht hn]
  rfl
end FM
namespace LB
open PySem DL L2 LA FA FB FC FD
def cell (ns : List Int) (k : Int) : Int :=
  if k < ns.length then ns.getD k.toNat 0
  else if 0 < ns.length then (k * 48271 + 11 + ns.getD (k * 7 % (ns.length : Nat)).toNat 0 % 2147483647 * 69621) * (k * 48271 + 11 + ns.getD (k * 7 % (ns.length : Nat)).toNat 0 % 2147483647 * 69621) % 2147483629
  else (k * 48271 + 11) * (k * 48271 + 11) % 2147483629
theorem law_cell (ns : List Int) {k : Int} (h0 : 0 ≤ k) (h1 : k < 1000000) : m_law_cell [.scr ns, .int k] = .ok (.int (cell ns k)) := by
  unfold m_law_cell b_law_cell cell
  by_cases c1 : k < ns.length
  · simp_arith [Lay.ix0, Lay.ix1, Lay.ix2, Lay.ix3, Lay.tp, pr_0, pr_1, pr_tp, pr_isi, prs_same, prs_nsame, lays_same, lays_nsame, c1]
  · by_cases c2 : 0 < ns.length
    · have q0 := Int.emod_nonneg (k * 7) (show ((ns.length : Nat) : Int) ≠ 0 by omega)
      have q1 := Int.emod_lt_of_pos (k * 7) (show 0 < ((ns.length : Nat) : Int) by omega)
      have em := dMod_i (i := k * 7) (show 0 < ((ns.length : Nat) : Int) by omega)
      have ix := dIx_scr (ns := ns) q0 q1
      generalize k * 7 % (ns.length : Nat) = j at *
      generalize ns.getD j.toNat 0 = v at *
      simp_arith [Lay.ix0, Lay.ix1, Lay.ix2, Lay.ix3, Lay.tp, pr_0, pr_1, pr_tp, pr_isi, prs_same, prs_nsame, lays_same, lays_nsame, c1, c2, ix, em]
    · simp_arith [Lay.ix0, Lay.ix1, Lay.ix2, Lay.ix3, Lay.tp, pr_0, pr_1, pr_tp, pr_isi, prs_same, prs_nsame, lays_same, lays_nsame, c1, c2]
def layB (c0 : Int) : Lay :=
  let c := c0 % 10 ^ 40
  let u := if c % 4 = 0 then 0 else if c % 4 = 1 then 1 else if c % 4 = 2 then 2 else 1 + c / 4 % 6
  if u = 0 then
    let b := 2 + c / 24 % 24
    ⟨0, 1, if b - 1 + c / 576 % 4 < 24 then b - 1 + c / 576 % 4 else 24, b⟩
  else
    let w := if c / 480 % 2 = 0 then 5 else 1 + c / 24 % 20
    let l := w - 1 + c / 960 % 5
    let m := if u * w + l + 1 < 25 then u * w + l + 1 else 25
    ⟨u, w, l, if c / 9600 % 2 = 0 then m else 2 + c / 4800 % (m - 1)⟩
theorem dIx_four {a b c d : D} {i : Int} (h0 : 0 ≤ i) (h1 : i < 4) : dIx (.lst [a, b, c, d]) (.int i) = .ok (if i = 0 then a else if i = 1 then b else if i = 2 then c else d) := by
  rcases (by omega : i = 0 ∨ i = 1 ∨ i = 2 ∨ i = 3) with e | e | e | e <;> subst e <;> rfl
theorem if_int {p : Prop} [Decidable p] {a b : Int} : (if p then D.int a else D.int b) = D.int (if p then a else b) := by split <;> rfl
theorem layB_facts (c : Int) (hc : 0 ≤ c) (u : Int) (hu : 1 ≤ u ∧ u ≤ 6) :
    let w := if c / 480 % 2 = 0 then 5 else 1 + c / 24 % 20
    let l := w - 1 + c / 960 % 5
    let m := if u * w + l + 1 < 25 then u * w + l + 1 else 25
    1 ≤ w ∧ w ≤ 20 ∧ w - 1 ≤ l ∧ l ≤ w + 3 ∧ w ≤ u * w ∧ 2 ≤ m ∧ m ≤ 25 ∧ m ≤ u * w + l + 1 ∧ 2 ≤ 2 + c / 4800 % (m - 1) ∧ 2 + c / 4800 % (m - 1) ≤ m := by
  intro w l m
  have hw : 1 ≤ w ∧ w ≤ 20 := by show 1 ≤ ite _ _ _ ∧ ite _ _ _ ≤ _; split <;> omega
  have hl : w - 1 ≤ l ∧ l ≤ w + 3 := by show w - 1 ≤ w - 1 + c / 960 % 5 ∧ w - 1 + c / 960 % 5 ≤ _; omega
  have hp : 1 * w ≤ u * w := Int.mul_le_mul_of_nonneg_right (by omega) (by omega)
  have hm : 2 ≤ m ∧ m ≤ 25 ∧ m ≤ u * w + l + 1 := by show 2 ≤ ite _ _ _ ∧ ite _ _ _ ≤ _ ∧ ite _ _ _ ≤ _; split <;> omega
  have e1 := Int.emod_nonneg (c / 4800) (show m - 1 ≠ 0 by omega)
  have e2 := Int.emod_lt_of_pos (c / 4800) (show 0 < m - 1 by omega)
  refine ⟨hw.1, hw.2, hl.1, hl.2, by omega, hm.1, hm.2.1, hm.2.2, by omega, by omega⟩
theorem u_le (c : Int) (h : ¬ (if c % 4 = 0 then (0 : Int) else if c % 4 = 1 then 1 else if c % 4 = 2 then 2 else 1 + c / 4 % 6) = 0) :
    1 ≤ (if c % 4 = 0 then (0 : Int) else if c % 4 = 1 then 1 else if c % 4 = 2 then 2 else 1 + c / 4 % 6) ∧ (if c % 4 = 0 then (0 : Int) else if c % 4 = 1 then 1 else if c % 4 = 2 then 2 else 1 + c / 4 % 6) ≤ 6 := by
  by_cases h0 : c % 4 = 0
  · rw [if_pos h0] at h; exact absurd rfl h
  · by_cases h1 : c % 4 = 1
    · rw [if_neg h0, if_pos h1]; decide
    · by_cases h2 : c % 4 = 2
      · rw [if_neg h0, if_neg h1, if_pos h2]; decide
      · rw [if_neg h0, if_neg h1, if_neg h2]; omega
theorem law_layout (c : Int) : m_law_layout [.int c] = .ok (layB c).d := by
  have ep : dPow (.int 10) (.int 40) = .ok (.int (10 ^ 40)) := rfl
  have em := dMod_i (i := c) (j := 10 ^ 40) (by decide)
  unfold m_law_layout b_law_layout layB
  have c0 : 0 ≤ c % 10 ^ 40 := Int.emod_nonneg _ (by decide)
  generalize c % 10 ^ 40 = c at *
  have i4 := dIx_four (a := .int 0) (b := .int 1) (c := .int 2) (d := .int (1 + c / 4 % 6)) (i := c % 4) (by omega) (by omega)
  simp only [if_int] at i4
  dsimp only
  have ul := u_le c
  generalize hu : (if c % 4 = 0 then (0 : Int) else if c % 4 = 1 then 1 else if c % 4 = 2 then 2 else 1 + c / 4 % 6) = u at *
  clear hu
  by_cases h : u = 0
  · rw [if_pos h]
    simp_arith [Lay.ix0, Lay.ix1, Lay.ix2, Lay.ix3, Lay.tp, pr_0, pr_1, pr_tp, pr_isi, prs_same, prs_nsame, lays_same, lays_nsame, ep, em, i4, h, Lay.d]
  · rw [if_neg h]
    obtain ⟨f1, f2, f3, f4, f5, f6, f7, f8, f9, f10⟩ := layB_facts c c0 u (ul h)
    have i2 := dIx_two (a := .int 5) (b := .int (1 + c / 24 % 20)) (i := c / 480 % 2) (by omega) (by omega)
    have i2' := fun a b => dIx_two (a := .int a) (b := .int b) (i := c / 9600 % 2) (by omega) (by omega)
    simp only [if_int] at i2 i2'
    generalize hw : (if c / 480 % 2 = 0 then (5 : Int) else 1 + c / 24 % 20) = w at *
    generalize hm : (if u * w + (w - 1 + c / 960 % 5) + 1 < 25 then u * w + (w - 1 + c / 960 % 5) + 1 else 25) = m at *
    have em2 := dMod_i (i := c / 4800) (j := m - 1) (by omega)
    simp_arith [Lay.ix0, Lay.ix1, Lay.ix2, Lay.ix3, Lay.tp, pr_0, pr_1, pr_tp, pr_isi, prs_same, prs_nsame, lays_same, lays_nsame, ep, em, i4, h, i2, i2', hm, em2, Lay.d]
theorem layB_ok (c : Int) : (layB c).Ok := by
  unfold layB
  have c0 : 0 ≤ c % 10 ^ 40 := Int.emod_nonneg _ (by decide)
  generalize c % 10 ^ 40 = c at *
  dsimp only
  have ul := u_le c
  generalize hu : (if c % 4 = 0 then (0 : Int) else if c % 4 = 1 then 1 else if c % 4 = 2 then 2 else 1 + c / 4 % 6) = u at *
  by_cases h : u = 0
  · rw [if_pos h]
    refine ⟨?_, ?_, ?_, ?_, ?_, ?_, ?_, ?_, ?_, ?_, ?_⟩ <;> dsimp only <;> first | omega | (split <;> omega)
  · rw [if_neg h]
    obtain ⟨f1, f2, f3, f4, f5, f6, f7, f8, f9, f10⟩ := layB_facts c c0 u (ul h)
    generalize hw : (if c / 480 % 2 = 0 then (5 : Int) else 1 + c / 24 % 20) = w at *
    generalize hm : (if u * w + (w - 1 + c / 960 % 5) + 1 < 25 then u * w + (w - 1 + c / 960 % 5) + 1 else 25) = m at *
    have := ul h
    refine ⟨?_, ?_, ?_, ?_, ?_, ?_, ?_, ?_, ?_, ?_, ?_⟩ <;> dsimp only <;> first | omega | (split <;> omega)
def frB (ns : List Int) (a most : Int) : List Lay := (List.range (1 + cell ns a % most).toNat).map fun (k : Nat) => layB (cell ns (a + 1 + k))
theorem frB_len (ns : List Int) (a : Int) {most : Int} (h0 : 0 < most) : 1 ≤ (frB ns a most).length ∧ ((frB ns a most).length : Int) ≤ most := by
  have e1 := Int.emod_nonneg (cell ns a) (show most ≠ 0 by omega)
  have e2 := Int.emod_lt_of_pos (cell ns a) h0
  unfold frB
  rw [List.length_map, List.length_range]
  omega
theorem frB_ok (ns : List Int) (a most : Int) : ∀ x ∈ frB ns a most, x.Ok := by
  intro x hx
  unfold frB at hx
  obtain ⟨k, _, rfl⟩ := List.mem_map.mp hx
  exact layB_ok _
theorem law_frameO (ns : List Int) {a most : Int} (ha : 0 ≤ a) (ha' : a < 100000) (h0 : 0 < most) (h1 : most ≤ 1000) : mo_law_frame [.scr ns, .int a, .int most] = .ok ((frB ns a most).map Lay.d) := by
  have e0 := law_cell ns ha (by omega)
  have q1 := Int.emod_nonneg (cell ns a) (show most ≠ 0 by omega)
  have q2 := Int.emod_lt_of_pos (cell ns a) h0
  have em := dMod_i (i := cell ns a) h0
  have er := iRng1 (j := 1 + cell ns a % most) (by omega) (by omega)
  unfold mo_law_frame b_law_frame
  have lc := oLc_map (h := gNm 3) (fe := le_law_frame1) (vs := [3]) (fi := iCall iRange1 (aCons (eOp dAdd (eC (.int 1)) (eOp dMod (eFn 2 m_law_cell (aCons (eV 0) (aCons (eV 1) (aNil)))) (eV 2))) (aNil)))
    (Γ := [some (.val (.scr ns)), some (.val (.int (a))), some (.val (.int (most))), none]) (List.range (1 + cell ns a % most).toNat) (fun k => .int ((k : Nat) : Int)) (fun k => (layB (cell ns (a + 1 + (k : Nat)))).d)
    (by simp_arith [Lay.ix0, Lay.ix1, Lay.ix2, Lay.ix3, Lay.tp, pr_0, pr_1, pr_tp, pr_isi, prs_same, prs_nsame, lays_same, lays_nsame, e0, em, er, rngL_0]) (by rw [List.length_range]; show _ ≤ 16777216; omega) (by
      intro k hk
      have hk := List.mem_range.mp hk
      have e1 := law_cell ns (k := a + 1 + (k : Nat)) (by omega) (by omega)
      have e2 := law_layout (cell ns (a + 1 + (k : Nat)))
      simp_arith [Lay.ix0, Lay.ix1, Lay.ix2, Lay.ix3, Lay.tp, pr_0, pr_1, pr_tp, pr_isi, prs_same, prs_nsame, lays_same, lays_nsame, le_law_frame1, e1, e2])
  simp_arith [Lay.ix0, Lay.ix1, Lay.ix2, Lay.ix3, Lay.tp, pr_0, pr_1, pr_tp, pr_isi, prs_same, prs_nsame, lays_same, lays_nsame, lc]
  unfold frB
  rw [List.map_map]
  rfl
theorem law_frame (ns : List Int) {a most : Int} (ha : 0 ≤ a) (ha' : a < 100000) (h0 : 0 < most) (h1 : most ≤ 1000) : m_law_frame [.scr ns, .int a, .int most] = .ok (.lst ((frB ns a most).map Lay.d)) := by
  show R.bind _ _ = _
  rw [law_frameO ns ha ha' h0 h1]; rfl
def Fits (f : List Lay) (s : List (Int × Int)) : Prop := s.length = f.length ∧ ∀ (i : Nat) (x : Lay) (p : Int × Int), f[i]? = some x → s[i]? = some p → 0 ≤ p.1 ∧ p.1 ≤ x.u ∧ 0 ≤ p.2 ∧ p.2 ≤ x.l
theorem law_whole_i (i : Int) : m_law_whole [.int i] = .ok (.bl true) := by
  unfold m_law_whole b_law_whole
  simp_arith [Lay.ix0, Lay.ix1, Lay.ix2, Lay.ix3, Lay.tp, pr_0, pr_1, pr_tp, pr_isi, prs_same, prs_nsame, lays_same, lays_nsame]
theorem bnz_tdl_at {f : List Lay} (hf : ∀ x ∈ f, x.Ok) (n : Int) : ∀ k, k < f.length → bnz ((f.zip (tdl f n)).drop (f.length - 1 - k)) = lft f n (f.length - 1 - k) := by
  intro k
  have hd : ∀ i, i < f.length → (f.zip (tdl f n)).drop i = (lat f i, pl (lat f i) (dig f n i)) :: (f.zip (tdl f n)).drop (i + 1) := fun i hi => by
    have hz : (f.zip (tdl f n))[i]? = some (lat f i, pl (lat f i) (dig f n i)) := by
      rw [List.getElem?_zip_eq_some]
      exact ⟨lat_get hi, tdl_get (lat_get hi) n⟩
    obtain ⟨h1, h2⟩ := List.getElem?_eq_some_iff.mp hz
    rw [← h2]
    exact List.drop_eq_getElem_cons h1
  induction k with
  | zero =>
    intro h
    rw [hd _ (by omega), List.drop_of_length_le (by rw [List.length_zip, tdl_len]; omega)]
    show 0 * _ + cnt _ (pl _ _) = _
    rw [cnt_pl]
    unfold dig
    rw [if_neg (by omega)]
    omega
  | succ k ih =>
    intro h
    have ih := ih (by omega)
    rw [hd _ (by omega), show f.length - 1 - (k + 1) + 1 = f.length - 1 - k by omega]
    show bnz _ * (lat f _).b + cnt _ (pl _ _) = _
    rw [ih, cnt_pl]
    unfold dig
    rw [if_pos (by omega), show f.length - 1 - k = f.length - 1 - (k + 1) + 1 by omega, lft_succ hf, Int.mul_comm]
    exact Int.mul_ediv_add_emod _ _
theorem bnz_tdl {f : List Lay} (hf : ∀ x ∈ f, x.Ok) (hl : 1 ≤ f.length) (n : Int) : bnz (f.zip (tdl f n)) = n := by
  have := bnz_tdl_at hf n (f.length - 1) (by omega)
  rw [show f.length - 1 - (f.length - 1) = 0 by omega, List.drop_zero, lft_0] at this
  exact this
end LB
namespace FR
open PySem DL L2 LA FA FB FC FD FM
open LB (Fits)
def rch (m : Mv) (p : Int × Int) : Int × Int := if m.1.1 = "Take" then (p.1 - m.2.2, p.2) else if m.1.1 = "Down" then (p.1, p.2 - m.2.2) else if m.1.1 = "Put" then (p.1 + m.2.2, p.2) else (p.1, p.2 + m.2.2)
theorem rch_t {r b : Int} {p : Int × Int} : rch (("Take", "take"), r, b) p = (p.1 - b, p.2) := if_pos rfl
theorem nDT : ¬ (("Down" : Str) = "Take") := by decide +kernel
theorem nPT : ¬ (("Put" : Str) = "Take") := by decide +kernel
theorem nPD : ¬ (("Put" : Str) = "Down") := by decide +kernel
theorem nUT : ¬ (("Up" : Str) = "Take") := by decide +kernel
theorem nUD : ¬ (("Up" : Str) = "Down") := by decide +kernel
theorem nUP : ¬ (("Up" : Str) = "Put") := by decide +kernel
theorem rch_d {r b : Int} {p : Int × Int} : rch (("Down", "down"), r, b) p = (p.1, p.2 - b) := by
  unfold rch
  rw [if_neg nDT, if_pos rfl]
theorem rch_p {r b : Int} {p : Int × Int} : rch (("Put", "put"), r, b) p = (p.1 + b, p.2) := by
  unfold rch
  rw [if_neg nPT, if_neg nPD, if_pos rfl]
theorem rch_u {r b : Int} {p : Int × Int} : rch (("Up", "up"), r, b) p = (p.1, p.2 + b) := by
  unfold rch
  rw [if_neg nUT, if_neg nUD, if_neg nUP]
def fitP (x : Lay) (p : Int × Int) : Prop := 0 ≤ p.1 ∧ p.1 ≤ x.u ∧ 0 ≤ p.2 ∧ p.2 ≤ x.l
instance (x : Lay) (p : Int × Int) : Decidable (fitP x p) := by unfold fitP; infer_instance
def stp (f : List Lay) (s : List (Int × Int)) (m : Mv) : Option (List (Int × Int)) :=
  if m.2.1 < (f.length : Nat) ∧ fitP (lat f m.2.1.toNat) (rch m (atS s m.2.1.toNat)) then some (s.set m.2.1.toNat (rch m (atS s m.2.1.toNat))) else none
def stuckD (a b : D) : D := .exc "Stuck" ["at", "rod"] [a, b]
theorem reached {m : Mv} (hm : Cw m.1) (x : D) (p : Int × Int) : dMeth tb_reached "reached" 2 (mvO m) (.ok [x, pairD p]) = .ok (pairD (rch m p)) := by
  obtain ⟨c, r, b⟩ := m
  rcases hm with h | h | h | h <;> (simp only at h; subst h)
  · rw [rch_t]
    have e : lkC tb_reached "Take" = some m_Take_reached := by kernel_rfl
    have e1 : ("reached" : Str) ∉ (["rod", "beads"] : List Str) := by decide +kernel
    have e2 : dXf cs_o_beads "beads" (.obj "Take" ["rod", "beads"] [.int r, .int b]) = .ok (.int b) := by kernel_rfl
    simp_arith [pr_0, pr_1, pr_tp, pr_isi, pr_len, Lay.ix0, Lay.ix1, Lay.ix2, Lay.ix3, Lay.tp, dMeth, mvO, e, e1, m_Take_reached, b_Take_reached, e2, pairD]
  · rw [rch_d]
    have e : lkC tb_reached "Down" = some m_Down_reached := by kernel_rfl
    have e1 : ("reached" : Str) ∉ (["rod", "beads"] : List Str) := by decide +kernel
    have e2 : dXf cs_o_beads "beads" (.obj "Down" ["rod", "beads"] [.int r, .int b]) = .ok (.int b) := by kernel_rfl
    simp_arith [pr_0, pr_1, pr_tp, pr_isi, pr_len, Lay.ix0, Lay.ix1, Lay.ix2, Lay.ix3, Lay.tp, dMeth, mvO, e, e1, m_Down_reached, b_Down_reached, e2, pairD]
  · rw [rch_p]
    have e : lkC tb_reached "Put" = some m_Put_reached := by kernel_rfl
    have e1 : ("reached" : Str) ∉ (["rod", "beads"] : List Str) := by decide +kernel
    have e2 : dXf cs_o_beads "beads" (.obj "Put" ["rod", "beads"] [.int r, .int b]) = .ok (.int b) := by kernel_rfl
    simp_arith [pr_0, pr_1, pr_tp, pr_isi, pr_len, Lay.ix0, Lay.ix1, Lay.ix2, Lay.ix3, Lay.tp, dMeth, mvO, e, e1, m_Put_reached, b_Put_reached, e2, pairD]
  · rw [rch_u]
    have e : lkC tb_reached "Up" = some m_Up_reached := by kernel_rfl
    have e1 : ("reached" : Str) ∉ (["rod", "beads"] : List Str) := by decide +kernel
    have e2 : dXf cs_o_beads "beads" (.obj "Up" ["rod", "beads"] [.int r, .int b]) = .ok (.int b) := by kernel_rfl
    simp_arith [pr_0, pr_1, pr_tp, pr_isi, pr_len, Lay.ix0, Lay.ix1, Lay.ix2, Lay.ix3, Lay.tp, dMeth, mvO, e, e1, m_Up_reached, b_Up_reached, e2, pairD]
theorem rod_of (m : Mv) (hm : Cw m.1) : dXf cs_o_rod "rod" (mvO m) = .ok (.int m.2.1) := by
  obtain ⟨c, r, b⟩ := m
  rcases hm with h | h | h | h <;> (simp only at h; subst h; kernel_rfl)
def MvCs (cs : List Str) : Prop := ("Take" : Str) ∈ cs ∧ ("Down" : Str) ∈ cs ∧ ("Put" : Str) ∈ cs ∧ ("Up" : Str) ∈ cs
theorem fld_in {cs : List Str} (h : MvCs cs) {m : Mv} (hm : Cw m.1) : m.1.1 ∈ cs ∧ m.1.1 ∈ OSG := by
  obtain ⟨h1, h2, h3, h4⟩ := h
  obtain ⟨c, r, b⟩ := m
  rcases hm with h | h | h | h <;> (simp only at h; subst h)
  · exact ⟨h1, (by decide +kernel : ("Take" : Str) ∈ OSG)⟩
  · exact ⟨h2, (by decide +kernel : ("Down" : Str) ∈ OSG)⟩
  · exact ⟨h3, (by decide +kernel : ("Put" : Str) ∈ OSG)⟩
  · exact ⟨h4, (by decide +kernel : ("Up" : Str) ∈ OSG)⟩
theorem rod_in {cs : List Str} (h : MvCs cs) {m : Mv} (hm : Cw m.1) : dXf cs "rod" (mvO m) = .ok (.int m.2.1) := by
  show (if m.1.1 ∈ cs ∧ m.1.1 ∈ OSG then (match lkN ["rod", "beads"] [D.int m.2.1, D.int m.2.2] "rod" with | some d => R.ok d | none => .stuck) else .stuck) = _
  rw [if_pos (fld_in h hm)]
  rfl
theorem beads_in {cs : List Str} (h : MvCs cs) {m : Mv} (hm : Cw m.1) : dXf cs "beads" (mvO m) = .ok (.int m.2.2) := by
  show (if m.1.1 ∈ cs ∧ m.1.1 ∈ OSG then (match lkN ["rod", "beads"] [D.int m.2.1, D.int m.2.2] "beads" with | some d => R.ok d | none => .stuck) else .stuck) = _
  rw [if_pos (fld_in h hm)]
  rfl
theorem set_cut {α : Type} {s : List α} {i : Nat} (h : i < s.length) (x : α) : s.take i ++ [x] ++ s.drop (i + 1) = s.set i x := by
  rw [List.set_eq_take_append_cons_drop, if_pos h, List.append_assoc]
  rfl
theorem cut_pairs {s : List (Int × Int)} {i : Int} (h0 : 0 ≤ i) (h : i < (s.length : Nat)) (x : Int × Int) : cutL (s.map pairD) none (some i) ++ [pairD x] ++ cutL (s.map pairD) (some (i + 1)) none = (s.set i.toNat x).map pairD := by
  rw [cutL_take h0, cutL_drop (by omega), ← set_cut (s := s) (i := i.toNat) (by omega), List.map_append, List.map_append, List.map_take, List.map_drop, show (i + 1).toNat = i.toNat + 1 by omega]
  rfl
theorem done {f : List Lay} {s : List (Int × Int)} (hs : s.length = f.length) (hl : f.length ≤ 1000) {m : Mv} (hm : Cw m.1) (h0 : 0 ≤ m.2.1) :
    m_Move_done [mvO m, .lst (f.map Lay.d), .lst (s.map pairD)] = match stp f s m with
      | some t => .ok (.lst (t.map pairD))
      | none => .exc (stuckD .non (.int m.2.1)) := by
  have er := rod_of m hm
  unfold m_Move_done b_Move_done stp
  by_cases c : m.2.1 < (f.length : Nat)
  · have fx : dIx (.lst (f.map Lay.d)) (.int m.2.1) = .ok (lat f m.2.1.toNat).d := by
      have := dIx_n (xs := f.map Lay.d) (d := (lat f m.2.1.toNat).d) (n := m.2.1.toNat) (by rw [List.getElem?_map, lat_get (by omega)]; rfl)
      rw [show ((m.2.1.toNat : Nat) : Int) = m.2.1 by omega] at this
      exact this
    have sx : dIx (.lst (s.map pairD)) (.int m.2.1) = .ok (pairD (atS s m.2.1.toNat)) := by
      have := atS_ix (s := s) (i := m.2.1.toNat) (by omega)
      rw [show ((m.2.1.toNat : Nat) : Int) = m.2.1 by omega] at this
      exact this
    have rc := reached hm (lat f m.2.1.toNat).d (atS s m.2.1.toNat)
    have cp := cut_pairs h0 (s := s) (i := m.2.1) (by omega) (rch m (atS s m.2.1.toNat))
    generalize hq : rch m (atS s m.2.1.toNat) = q at *
    have l1 : (cutL (s.map pairD) none (some m.2.1)).length ≤ 1000 := by rw [cutL_take h0, List.length_take, List.length_map]; omega
    have l2 : (cutL (s.map pairD) (some (m.2.1 + 1)) none).length ≤ 1000 := by rw [cutL_drop (by omega), List.length_drop, List.length_map]; omega
    have a1 := dAdd_l (xs := cutL (s.map pairD) none (some m.2.1)) (ys := [pairD q]) (by show _ + 1 ≤ _; omega)
    have a2 := dAdd_l (xs := cutL (s.map pairD) none (some m.2.1) ++ [pairD q]) (ys := cutL (s.map pairD) (some (m.2.1 + 1)) none) (by rw [List.length_append]; show _ + 1 + _ ≤ _; omega)
    rw [cp] at a2
    have ep : pairD q = .tup [.int q.1, .int q.2] := rfl
    rw [ep] at a1 a2
    by_cases c2 : fitP (lat f m.2.1.toNat) q
    · rw [if_pos ⟨c, c2⟩]
      obtain ⟨p1, p2, p3, p4⟩ := c2
      simp_arith [pr_0, pr_1, pr_tp, pr_isi, pr_len, Lay.ix0, Lay.ix1, Lay.ix2, Lay.ix3, Lay.tp, er, c, fx, sx, rc, p1, p2, p3, p4, sl1_l, a1, a2]
    · rw [if_neg fun z => c2 z.2]
      unfold fitP at c2
      by_cases p1 : 0 ≤ q.1
      · by_cases p2 : q.1 ≤ (lat f m.2.1.toNat).u
        · by_cases p3 : 0 ≤ q.2
          · have p4 : ¬ q.2 ≤ (lat f m.2.1.toNat).l := fun z => c2 ⟨p1, p2, p3, z⟩
            simp_arith [pr_0, pr_1, pr_tp, pr_isi, pr_len, Lay.ix0, Lay.ix1, Lay.ix2, Lay.ix3, Lay.tp, er, c, fx, sx, rc, p1, p2, p3, p4, stuckD]
          · simp_arith [pr_0, pr_1, pr_tp, pr_isi, pr_len, Lay.ix0, Lay.ix1, Lay.ix2, Lay.ix3, Lay.tp, er, c, fx, sx, rc, p1, p2, p3, stuckD]
        · simp_arith [pr_0, pr_1, pr_tp, pr_isi, pr_len, Lay.ix0, Lay.ix1, Lay.ix2, Lay.ix3, Lay.tp, er, c, fx, sx, rc, p1, p2, stuckD]
      · simp_arith [pr_0, pr_1, pr_tp, pr_isi, pr_len, Lay.ix0, Lay.ix1, Lay.ix2, Lay.ix3, Lay.tp, er, c, fx, sx, rc, p1, stuckD]
  · rw [if_neg fun z => c z.1]
    simp_arith [pr_0, pr_1, pr_tp, pr_isi, pr_len, Lay.ix0, Lay.ix1, Lay.ix2, Lay.ix3, Lay.tp, er, c, stuckD]
def run (f : List Lay) : List (Int × Int) → List Mv → Option (List (Int × Int))
  | s, [] => some s
  | s, m :: r => match stp f s m with
    | some t => run f t r
    | none => none
def failAt (f : List Lay) : List (Int × Int) → List Mv → Nat × Int
  | _, [] => (0, 0)
  | s, m :: r => match stp f s m with
    | some t => ((failAt f t r).1 + 1, (failAt f t r).2)
    | none => (0, m.2.1)
theorem stp_len {f : List Lay} {s t : List (Int × Int)} {m : Mv} (h : stp f s m = some t) : t.length = s.length := by
  unfold stp at h
  split at h
  · cases h
    rw [List.length_set]
  · cases h
theorem meth_done {m : Mv} (hm : Cw m.1) (a b : D) : dMeth tb_done "done" 2 (mvO m) (.ok [a, b]) = m_Move_done [mvO m, a, b] := by
  obtain ⟨c, r, b'⟩ := m
  have e1 : ("done" : Str) ∉ (["rod", "beads"] : List Str) := by decide +kernel
  rcases hm with h | h | h | h <;> (simp only at h; subst h)
  · have e : lkC tb_done "Take" = some m_Move_done := by kernel_rfl
    simp_arith [pr_0, pr_1, pr_tp, pr_isi, pr_len, Lay.ix0, Lay.ix1, Lay.ix2, Lay.ix3, Lay.tp, dMeth, mvO, e, e1]
  · have e : lkC tb_done "Down" = some m_Move_done := by kernel_rfl
    simp_arith [pr_0, pr_1, pr_tp, pr_isi, pr_len, Lay.ix0, Lay.ix1, Lay.ix2, Lay.ix3, Lay.tp, dMeth, mvO, e, e1]
  · have e : lkC tb_done "Put" = some m_Move_done := by kernel_rfl
    simp_arith [pr_0, pr_1, pr_tp, pr_isi, pr_len, Lay.ix0, Lay.ix1, Lay.ix2, Lay.ix3, Lay.tp, dMeth, mvO, e, e1]
  · have e : lkC tb_done "Up" = some m_Move_done := by kernel_rfl
    simp_arith [pr_0, pr_1, pr_tp, pr_isi, pr_len, Lay.ix0, Lay.ix1, Lay.ix2, Lay.ix3, Lay.tp, dMeth, mvO, e, e1]
def Good (r : List Mv) : Prop := ∀ m ∈ r, Cw m.1 ∧ 0 ≤ m.2.1
theorem loop_done {f : List Lay} (hl : f.length ≤ 1000) {a0 b0 c0 : Option Slot} (ha : a0 = some (.val (.lst (f.map Lay.d)))) : ∀ (r : List Mv) (s : List (Int × Int)) (j : Nat), Good r → s.length = f.length →
    match run f s r with
    | some t => loopF h_done_all1 g_done_all1 (enumL j (r.map mvO)) [a0, b0, c0, some (.val (.lst (s.map pairD))), none, none, none] = .nx [a0, b0, c0, some (.val (.lst (t.map pairD))), none, none, none]
    | none => ∃ Γ, loopF h_done_all1 g_done_all1 (enumL j (r.map mvO)) [a0, b0, c0, some (.val (.lst (s.map pairD))), none, none, none] = .exc (stuckD (.int ((j + (failAt f s r).1 : Nat) : Int)) (.int (failAt f s r).2)) Γ
  | [], s, j, _, _ => rfl
  | m :: r, s, j, hr, hs => by
    obtain ⟨hm, h0⟩ := hr m List.mem_cons_self
    have dn := done hs hl hm h0
    have md := meth_done hm (.lst (f.map Lay.d)) (.lst (s.map pairD))
    have s1 : subG "Stuck" "Stuck" = some true := by kernel_rfl
    show match run f s (m :: r) with
      | some t => loopF h_done_all1 g_done_all1 (.tup [.int (j : Nat), mvO m] :: enumL (j + 1) (r.map mvO)) _ = _
      | none => ∃ Γ, loopF h_done_all1 g_done_all1 (.tup [.int (j : Nat), mvO m] :: enumL (j + 1) (r.map mvO)) _ = _
    unfold run failAt
    cases e : stp f s m with
    | some u =>
      rw [e] at dn
      have dn : m_Move_done [mvO m, .lst (f.map Lay.d), .lst (s.map pairD)] = .ok (.lst (u.map pairD)) := dn
      have tn : turn h_done_all1 g_done_all1 (.tup [.int (j : Nat), mvO m]) [a0, b0, c0, some (.val (.lst (s.map pairD))), none, none, none] = .nx [a0, b0, c0, some (.val (.lst (u.map pairD))), none, none, none] := by
        subst ha
        simp_arith [pr_0, pr_1, pr_tp, pr_isi, pr_len, Lay.ix0, Lay.ix1, Lay.ix2, Lay.ix3, Lay.tp, h_done_all1, g_done_all1, sTryR, md, dn]
      have ih := loop_done hl (b0 := b0) (c0 := c0) ha r u (j + 1) (fun x hx => hr x (List.mem_cons_of_mem _ hx)) (by rw [stp_len e, hs])
      rw [loopF_turn, tn]
      show match run f u r with
        | some t => _
        | none => _
      cases e2 : run f u r with
      | some t => rw [e2] at ih; exact ih
      | none =>
        rw [e2] at ih
        obtain ⟨Γ, hΓ⟩ := ih
        refine ⟨Γ, ?_⟩
        show loopF _ _ _ _ = _
        rw [hΓ]
        congr 3
        show ((j + 1 + _ : Nat) : Int) = ((j + (_ + 1) : Nat) : Int)
        omega
    | none =>
      rw [e] at dn
      have dn : m_Move_done [mvO m, .lst (f.map Lay.d), .lst (s.map pairD)] = .exc (stuckD .non (.int m.2.1)) := dn
      unfold stuckD at dn
      have lk : lkN ["at", "rod"] [D.non, .int m.2.1] "rod" = some (.int m.2.1) := by kernel_rfl
      have tn : turn h_done_all1 g_done_all1 (.tup [.int (j : Nat), mvO m]) [a0, b0, c0, some (.val (.lst (s.map pairD))), none, none, none] = .exc (stuckD (.int (j : Nat)) (.int m.2.1)) [a0, b0, c0, some (.val (.lst (s.map pairD))), some (.val (.int ((j : Nat)))), some (.val (mvO m)), none] := by
        subst ha
        simp_arith [pr_0, pr_1, pr_tp, pr_isi, pr_len, Lay.ix0, Lay.ix1, Lay.ix2, Lay.ix3, Lay.tp, h_done_all1, g_done_all1, sTryR, md, dn, s1, lk, stuckD]
      rw [loopF_turn, tn]
      exact ⟨_, rfl⟩
theorem done_all {f : List Lay} (hl : f.length ≤ 1000) {s : List (Int × Int)} (hs : s.length = f.length) {r : List Mv} (hr : Good r) :
    m_done_all [.lst (f.map Lay.d), .lst (s.map pairD), .lst (r.map mvO)] = match run f s r with
      | some t => .ok (.lst (t.map pairD))
      | none => .exc (stuckD (.int ((failAt f s r).1 : Nat)) (.int (failAt f s r).2)) := by
  have l1 := loop_done hl (a0 := some (.val (.lst (f.map Lay.d)))) (b0 := some (.val (.lst (s.map pairD)))) (c0 := some (.val (.lst (r.map mvO)))) rfl r s 0 hr hs
  unfold m_done_all b_done_all
  cases e : run f s r with
  | some t =>
    rw [e] at l1
    dsimp only at l1
    simp_arith [pr_0, pr_1, pr_tp, pr_isi, pr_len, Lay.ix0, Lay.ix1, Lay.ix2, Lay.ix3, Lay.tp] at l1
    simp_arith [pr_0, pr_1, pr_tp, pr_isi, pr_len, Lay.ix0, Lay.ix1, Lay.ix2, Lay.ix3, Lay.tp, l1]
  | none =>
    rw [e] at l1
    obtain ⟨Γ, l1⟩ := l1
    rw [Nat.zero_add] at l1
    simp_arith [pr_0, pr_1, pr_tp, pr_isi, pr_len, Lay.ix0, Lay.ix1, Lay.ix2, Lay.ix3, Lay.tp] at l1
    simp_arith [pr_0, pr_1, pr_tp, pr_isi, pr_len, Lay.ix0, Lay.ix1, Lay.ix2, Lay.ix3, Lay.tp, l1]
abbrev cT : Str × Str := (("Take" : Str), ("take" : Str))
abbrev cD : Str × Str := (("Down" : Str), ("down" : Str))
abbrev cP : Str × Str := (("Put" : Str), ("put" : Str))
abbrev cU : Str × Str := (("Up" : Str), ("up" : Str))
def cwc (c : Str × Str) : Str × Str := if c.1 = "Take" then cP else if c.1 = "Down" then cU else if c.1 = "Put" then cT else cD
def ctr (m : Mv) : Mv := (cwc m.1, m.2)
def back (r : List Mv) : List Mv := r.reverse.map ctr
theorem fits_at {f : List Lay} {s : List (Int × Int)} (hs : Fits f s) {i : Nat} (hi : i < f.length) : fitP (lat f i) (atS s i) := by
  have hl := hs.1
  have e1 := lat_get hi
  have e2 : s[i]? = some (atS s i) := by
    unfold atS
    rw [List.getD_eq_getElem?_getD, List.getElem?_eq_getElem (by omega)]
    rfl
  exact hs.2 i _ _ e1 e2
theorem atS_set {s : List (Int × Int)} {i : Nat} (h : i < s.length) (q : Int × Int) : atS (s.set i q) i = q := by
  unfold atS
  rw [List.getD_eq_getElem?_getD, List.getElem?_set_self h]
  rfl
theorem set_atS {s : List (Int × Int)} {i : Nat} (h : i < s.length) : s.set i (atS s i) = s := by
  unfold atS
  rw [List.getD_eq_getElem?_getD, List.getElem?_eq_getElem h]
  exact List.set_getElem_self h
theorem stp_fits {f : List Lay} {s t : List (Int × Int)} (hs : Fits f s) {m : Mv} (h0 : 0 ≤ m.2.1) (h : stp f s m = some t) : Fits f t := by
  unfold stp at h
  split at h
  · rename_i c
    cases h
    refine ⟨by rw [List.length_set]; exact hs.1, fun i x p hx hp => ?_⟩
    by_cases e : m.2.1.toNat = i
    · subst e
      have hl := hs.1
      rw [List.getElem?_set_self (by omega)] at hp
      cases hp
      have := c.2
      rw [lat_of hx] at this
      exact this
    · rw [List.getElem?_set_ne e] at hp
      exact hs.2 i x p hx hp
  · cases h
theorem run_app {f : List Lay} : ∀ (r q : List Mv) (s : List (Int × Int)), run f s (r ++ q) = (run f s r).bind fun t => run f t q
  | [], q, s => rfl
  | m :: r, q, s => by
    show (match stp f s m with | some t => run f t (r ++ q) | none => none) = (match stp f s m with | some t => run f t r | none => none).bind _
    cases stp f s m with
    | none => rfl
    | some t => exact run_app r q t
theorem run_fits {f : List Lay} : ∀ {r : List Mv} {s t : List (Int × Int)}, Good r → Fits f s → run f s r = some t → Fits f t
  | [], s, t, _, hs, h => by cases h; exact hs
  | m :: r, s, t, hr, hs, h => by
    unfold run at h
    cases e : stp f s m with
    | none => rw [e] at h; cases h
    | some u =>
      rw [e] at h
      exact run_fits (fun x hx => hr x (List.mem_cons_of_mem _ hx)) (stp_fits hs (hr m List.mem_cons_self).2 e) h
end FR
namespace FW
open PySem DL L2 TL LA FA FB FC FD FM FR
def SmM (m : Mv) : Prop := Cw m.1 ∧ 0 ≤ m.2.1 ∧ m.2.1 < 1000 ∧ 0 ≤ m.2.2 ∧ m.2.2 < 1000000
theorem word_of {m : Mv} (h : Cw m.1) : dMeth tb_word "word" 0 (mvO m) (.ok []) = .ok (.str m.1.2) := by
  obtain ⟨c, r, b⟩ := m
  rcases h with h | h | h | h <;> (simp only at h; subst h; kernel_rfl)
def SmR (r : List Mv) : Prop := ∀ m ∈ r, SmM m
end FW
namespace LM
open PySem DL L2 LA FA FB FC FD FM FR
open LB (Fits)
def mx (c k : Int) : Int := ((c % 2147483647 + 7) * (48271 + 2 * k) % 2147483629) * ((c % 2147483647 + 7) * (48271 + 2 * k) % 2147483629) % 2147483587
theorem mixed (c : Int) {k : Int} (h0 : 0 ≤ k) (h1 : k < 1000000) : m_law_mixed [.int c, .int k] = .ok (.int (mx c k)) := by
  have h2 := Int.emod_nonneg c (show (2147483647 : Int) ≠ 0 by decide)
  have h3 := Int.emod_lt_of_pos c (show (0 : Int) < 2147483647 by decide)
  have e1 := dMul_r (i := c % 2147483647 + 7) (j := 48271 + 2 * k) (by omega) (by omega)
  have e2 := dMul_r (i := 2) (j := k) (by omega) (by omega)
  have h4 := Int.emod_nonneg ((c % 2147483647 + 7) * (48271 + 2 * k)) (show (2147483629 : Int) ≠ 0 by decide)
  have h5 := Int.emod_lt_of_pos ((c % 2147483647 + 7) * (48271 + 2 * k)) (show (0 : Int) < 2147483629 by decide)
  have e3 := dMul_r (i := (c % 2147483647 + 7) * (48271 + 2 * k) % 2147483629) (j := (c % 2147483647 + 7) * (48271 + 2 * k) % 2147483629) (by omega) (by omega)
  unfold m_law_mixed b_law_mixed mx
  simp_arith [pr_0, pr_1, pr_tp, pr_isi, pr_len, Lay.ix0, Lay.ix1, Lay.ix2, Lay.ix3, Lay.tp, e1, e2, e3]
theorem layout (c : Int) : ∃ x : Lay, x.Ok ∧ m_law_layout [.int c] = .ok x.d := by
  have m1 := mixed c (k := 1) (by decide) (by decide)
  have m2 := mixed c (k := 2) (by decide) (by decide)
  have m3 := mixed c (k := 3) (by decide) (by decide)
  have m4 := mixed c (k := 4) (by decide) (by decide)
  have m5 := mixed c (k := 5) (by decide) (by decide)
  unfold m_law_layout b_law_layout
  obtain ⟨b, hb⟩ : ∃ b, mx c 1 % 24 = b := ⟨_, rfl⟩
  obtain ⟨u, hu⟩ : ∃ u, mx c 2 % 7 = u := ⟨_, rfl⟩
  have b0 : 0 ≤ b ∧ b < 24 := by omega
  have u0 : 0 ≤ u ∧ u < 7 := by omega
  by_cases c0 : u = 0
  · have md := dMod_i (i := mx c 3) (j := 26 - (2 + b)) (by omega)
    have h4 := Int.emod_nonneg (mx c 3) (show 26 - (2 + b) ≠ 0 by omega)
    have h5 := Int.emod_lt_of_pos (mx c 3) (show 0 < 26 - (2 + b) by omega)
    refine ⟨⟨0, 1, 2 + b - 1 + mx c 3 % (26 - (2 + b)), 2 + b⟩, ⟨Int.le_refl 0, (show (0 : Int) ≤ 6 by decide), Int.le_refl 1, (show (1 : Int) ≤ 20 by decide), ?_, ?_, ?_, ?_, fun _ => rfl, fun z => absurd z (Int.lt_irrefl 0), ?_⟩, ?_⟩
    · show 0 ≤ 2 + b - 1 + mx c 3 % (26 - (2 + b)); omega
    · show 2 + b - 1 + mx c 3 % (26 - (2 + b)) ≤ 24; omega
    · show 2 ≤ 2 + b; omega
    · show 2 + b ≤ 25; omega
    · show 2 + b - 1 ≤ 0 * 1 + (2 + b - 1 + mx c 3 % (26 - (2 + b))); omega
    · unfold Lay.d
      simp_arith [pr_0, pr_1, pr_tp, pr_isi, pr_len, Lay.ix0, Lay.ix1, Lay.ix2, Lay.ix3, Lay.tp, m1, m2, m3, hb, hu, c0, md]
  · obtain ⟨w, hw⟩ : ∃ w, mx c 4 % 20 = w := ⟨_, rfl⟩
    have w0 : 0 ≤ w ∧ w < 20 := by omega
    have mm := dMul_r (i := u) (j := 1 + w) (by omega) (by omega)
    have p0 := Int.mul_nonneg u0.1 (show 0 ≤ 1 + w by omega)
    obtain ⟨l, hl⟩ : ∃ l, dMax3 [.int (1 + w - 1), .int (2 + b - 1 - u * (1 + w)), .int 0] = .ok (.int l) ∧ 0 ≤ l ∧ l ≤ 24 ∧ 1 + w - 1 ≤ l ∧ 2 + b - 1 - u * (1 + w) ≤ l := by
      refine ⟨_, rfl, ?_⟩
      generalize u * (1 + w) = q at *
      split <;> split <;> omega
    obtain ⟨hl, l0, l1, l2, l3⟩ := hl
    obtain ⟨v, hv⟩ : ∃ v, dIx (.lst [.int 0, .int 1, .int (mx c 5)]) (.int (c % 3)) = .ok (.int v) := by
      rcases (by omega : c % 3 = 0 ∨ c % 3 = 1 ∨ c % 3 = 2) with h | h | h <;> rw [h]
      · exact ⟨_, rfl⟩
      · exact ⟨_, rfl⟩
      · exact ⟨_, rfl⟩
    have md := dMod_i (i := v) (j := 25 - l) (by omega)
    have h4 := Int.emod_nonneg v (show 25 - l ≠ 0 by omega)
    have h5 := Int.emod_lt_of_pos v (show 0 < 25 - l by omega)
    refine ⟨⟨u, 1 + w, l + v % (25 - l), 2 + b⟩, ⟨u0.1, by show u ≤ 6; omega, ?_, ?_, ?_, ?_, ?_, ?_, fun z => absurd z c0, fun _ => ?_, ?_⟩, ?_⟩
    · show 1 ≤ 1 + w; omega
    · show 1 + w ≤ 20; omega
    · show 0 ≤ l + v % (25 - l); omega
    · show l + v % (25 - l) ≤ 24; omega
    · show 2 ≤ 2 + b; omega
    · show 2 + b ≤ 25; omega
    · show 1 + w - 1 ≤ l + v % (25 - l); omega
    · show 2 + b - 1 ≤ u * (1 + w) + (l + v % (25 - l)); omega
    · unfold Lay.d
      simp_arith [pr_0, pr_1, pr_tp, pr_isi, pr_len, Lay.ix0, Lay.ix1, Lay.ix2, Lay.ix3, Lay.tp, m1, m2, m4, m5, hb, hu, hw, c0, mm, hl, hv, md]
theorem map_ex {α : Type} (g : Nat → R D) (P : α → Prop) (enc : α → D) : ∀ n : Nat, (∀ k, k < n → ∃ x, P x ∧ g k = .ok (enc x)) → ∃ xs : List α, xs.length = n ∧ (∀ x ∈ xs, P x) ∧ ∀ k, k < n → ∃ x, xs[k]? = some x ∧ g k = .ok (enc x)
  | 0, _ => ⟨[], rfl, (fun _ h => nomatch h), fun _ h => absurd h (Nat.not_lt_zero _)⟩
  | n + 1, h => by
    obtain ⟨xs, h1, h2, h3⟩ := map_ex g P enc n fun k hk => h k (by omega)
    obtain ⟨x, hx, ex⟩ := h n (by omega)
    refine ⟨xs ++ [x], by rw [List.length_append, h1]; rfl, fun y hy => ?_, fun k hk => ?_⟩
    · rcases List.mem_append.mp hy with hy | hy
      · exact h2 y hy
      · rw [List.mem_singleton.mp hy]; exact hx
    · by_cases q : k < n
      · obtain ⟨y, hy, ey⟩ := h3 k q
        exact ⟨y, by rw [List.getElem?_append_left (by omega)]; exact hy, ey⟩
      · have : k = n := by omega
        subst this
        exact ⟨x, by rw [List.getElem?_append_right (by omega), h1, Nat.sub_self]; rfl, ex⟩
theorem oLc_nat {vs : List Nat} {fi : DL.Env → R (List D)} {h : Tg} {fe : DL.Env → R D} {Γ : DL.Env} {α : Type} (enc : α → D) (xs : List α) (hfi : fi Γ = .ok (rngL 0 xs.length)) (hl : xs.length ≤ 16777216)
    (hs : ∀ (k : Nat) (x : α), xs[k]? = some x → lcT h fe (.int (k : Nat)) (wipeE Γ vs) = .ok (enc x)) : oLc vs fi h bYes fe Γ = .ok (xs.map enc) := by
  have lc := oLc_at (fi := fi) (h := h) (fe := fe) (vs := vs) (Γ := Γ) (List.range xs.length) (fun (k : Nat) => D.int (k : Nat)) (fun k => (xs.map enc).getD k .non) (by rw [hfi, rngL_0]) (by rw [List.length_range]; exact hl) (by
    intro i k hk
    have e : i = k ∧ k < xs.length := by
      obtain ⟨h1, h2⟩ := List.getElem?_eq_some_iff.mp hk
      rw [List.length_range] at h1
      rw [List.getElem_range] at h2
      exact ⟨h2, by omega⟩
    obtain ⟨rfl, hi⟩ := e
    have := hs i xs[i] (List.getElem?_eq_getElem hi)
    rw [this, List.getD_eq_getElem?_getD, List.getElem?_map, List.getElem?_eq_getElem hi]
    rfl)
  rw [lc, List.length_range]
  congr 1
  refine List.ext_getElem? fun i => ?_
  rw [List.getElem?_map, List.getElem?_map]
  by_cases q : i < xs.length
  · rw [List.getElem?_range q, List.getElem?_eq_getElem q]
    show some ((xs.map enc).getD i .non) = _
    rw [List.getD_eq_getElem?_getD, List.getElem?_map, List.getElem?_eq_getElem q]
    rfl
  · rw [List.getElem?_eq_none (by rw [List.length_range]; omega), List.getElem?_eq_none (by omega)]
    rfl
theorem iR1 {n : Nat} (h : n ≤ 100000) : iRange1 [.int (n : Nat)] = .ok (rngL 0 n) := by
  unfold iRange1
  have e : inR62 ((n : Nat) : Int) = true := by
    unfold inR62
    simp only [Bool.and_eq_true, decide_eq_true_eq]
    omega
  show (if inR62 ((n : Nat) : Int) = true then R.ok (rngL 0 ((n : Nat) : Int).toNat) else R.stuck) = _
  rw [e, if_pos rfl, Int.toNat_natCast]
theorem frame (c : Int) : ∃ f : List Lay, (∀ x ∈ f, x.Ok) ∧ 1 ≤ f.length ∧ f.length ≤ 20 ∧ m_law_frame [.int c] = .ok (.lst (f.map Lay.d)) := by
  obtain ⟨n, hn0, hn1, hn⟩ : ∃ n : Nat, 1 ≤ n ∧ n ≤ 20 ∧ eOp dAdd (eC (.int 1)) (eOp dIx (eFrz (oLst (aCons (eOp dMod (eOp dDiv (eV 0) (eC (.int 3))) (eC (.int 4))) (aCons (eOp dMod (eOp dDiv (eV 0) (eC (.int 3))) (eC (.int 20))) (aNil))))) (eOp dMod (eV 0) (eC (.int 2)))) [some (.val (.int (c))), none, none] = .ok (.int (n : Nat)) := by
    rcases (by omega : c % 2 = 0 ∨ c % 2 = 1) with h | h
    · refine ⟨(1 + c / 3 % 4).toNat, by omega, by omega, ?_⟩
      simp_arith [pr_0, pr_1, pr_tp, pr_isi, pr_len, Lay.ix0, Lay.ix1, Lay.ix2, Lay.ix3, Lay.tp, h]
      congr 2
      omega
    · refine ⟨(1 + c / 3 % 20).toNat, by omega, by omega, ?_⟩
      simp_arith [pr_0, pr_1, pr_tp, pr_isi, pr_len, Lay.ix0, Lay.ix1, Lay.ix2, Lay.ix3, Lay.tp, h]
      congr 2
      omega
  obtain ⟨f, h1, h2, h3⟩ := map_ex (fun k => m_law_layout [.int (mx c (10 + (k : Nat)))]) Lay.Ok Lay.d n fun k hk => by
    obtain ⟨x, hx, ex⟩ := layout (mx c (10 + (k : Nat)))
    exact ⟨x, hx, ex⟩
  refine ⟨f, h2, by omega, by omega, ?_⟩
  have ir := iR1 (n := n) (by omega)
  have lc := oLc_nat (fi := iCall iRange1 (aCons (eV 1) (aNil))) (h := gNm 2) (fe := le_law_frame1) (vs := [2]) (Γ := [some (.val (.int (c))), some (.val (.int ((n : Nat)))), none]) Lay.d f (by
      rw [h1]
      simp_arith [pr_0, pr_1, pr_tp, pr_isi, pr_len, Lay.ix0, Lay.ix1, Lay.ix2, Lay.ix3, Lay.tp, ir]) (by omega) (by
      intro k x hx
      have hk : k < f.length := (List.getElem?_eq_some_iff.mp hx).1
      have mk := mixed c (k := 10 + (k : Nat)) (by omega) (by omega)
      obtain ⟨y, hy, ey⟩ := h3 k (by omega)
      rw [hx] at hy
      cases hy
      simp_arith [pr_0, pr_1, pr_tp, pr_isi, pr_len, Lay.ix0, Lay.ix1, Lay.ix2, Lay.ix3, Lay.tp, le_law_frame1, mk, ey])
  show R.bind (mo_law_frame _) _ = _
  unfold mo_law_frame b_law_frame
  have hn' := hn
  simp_arith [pr_0, pr_1, pr_tp, pr_isi, pr_len, Lay.ix0, Lay.ix1, Lay.ix2, Lay.ix3, Lay.tp] at hn'
  simp_arith [pr_0, pr_1, pr_tp, pr_isi, pr_len, Lay.ix0, Lay.ix1, Lay.ix2, Lay.ix3, Lay.tp, hn', lc]
theorem standing {f : List Lay} (hf : ∀ x ∈ f, x.Ok) (hl : f.length ≤ 1000) (c : Int) : ∃ s, Fits f s ∧ m_law_standing [.lst (f.map Lay.d), .int c] = .ok (.lst (s.map pairD)) := by
  let q := fun (k : Nat) => ((mx c (40 + (k : Nat)) % ((lat f k).u + 1), mx c (70 + (k : Nat)) % ((lat f k).l + 1)) : Int × Int)
  refine ⟨(List.range f.length).map q, ⟨by rw [List.length_map, List.length_range], fun i x p hx hp => ?_⟩, ?_⟩
  · have hi : i < f.length := (List.getElem?_eq_some_iff.mp hx).1
    rw [List.getElem?_map, List.getElem?_range hi] at hp
    cases hp
    have ok := hf x (List.mem_of_getElem? hx)
    have ex := lat_of hx
    have u0 := ok.u0
    have l0 := ok.l0
    show 0 ≤ _ % ((lat f i).u + 1) ∧ _ % ((lat f i).u + 1) ≤ x.u ∧ 0 ≤ _ % ((lat f i).l + 1) ∧ _ % ((lat f i).l + 1) ≤ x.l
    rw [ex]
    have a1 := Int.emod_nonneg (mx c (40 + (i : Nat))) (show x.u + 1 ≠ 0 by omega)
    have a2 := Int.emod_lt_of_pos (mx c (40 + (i : Nat))) (show 0 < x.u + 1 by omega)
    have a3 := Int.emod_nonneg (mx c (70 + (i : Nat))) (show x.l + 1 ≠ 0 by omega)
    have a4 := Int.emod_lt_of_pos (mx c (70 + (i : Nat))) (show 0 < x.l + 1 by omega)
    omega
  · have ir := iR1 (n := f.length) (by omega)
    have l1 := for_rng (h := h_law_standing1) (g := g_law_standing1) 0 f.length (fun i => [some (.val (.lst (f.map Lay.d))), some (.val (.int (c))), some (.own (((List.range i).map q).map pairD)), none, none]) (by
      intro i hi
      rw [Int.zero_add]
      have fx : dIx (.lst (f.map Lay.d)) (.int (i : Nat)) = .ok (lat f i).d := dIx_n (by rw [List.getElem?_map, lat_get hi]; rfl)
      have ok := lat_ok hf i
      have u0 := ok.u0
      have l0 := ok.l0
      have k1 := mixed c (k := 40 + (i : Nat)) (by omega) (by omega)
      have k2 := mixed c (k := 70 + (i : Nat)) (by omega) (by omega)
      have m1 := dMod_i (i := mx c (40 + (i : Nat))) (j := (lat f i).u + 1) (by omega)
      have m2 := dMod_i (i := mx c (70 + (i : Nat))) (j := (lat f i).l + 1) (by omega)
      have ec : ((List.range (i + 1)).map q).map pairD = ((List.range i).map q).map pairD ++ [.tup [.int (mx c (40 + (i : Nat)) % ((lat f i).u + 1)), .int (mx c (70 + (i : Nat)) % ((lat f i).l + 1))]] := by
        rw [List.range_succ, List.map_append, List.map_append]
        rfl
      rw [ec]
      have ll : (((List.range i).map q).map pairD).length = i := by rw [List.length_map, List.length_map, List.length_range]
      simp_arith [pr_0, pr_1, pr_tp, pr_isi, pr_len, Lay.ix0, Lay.ix1, Lay.ix2, Lay.ix3, Lay.tp, h_law_standing1, g_law_standing1, fx, k1, k2, m1, m2, List.length_range])
    have e0 : ((List.range 0).map q).map pairD = [] := rfl
    rw [e0] at l1
    show R.bind (mo_law_standing _) _ = _
    unfold mo_law_standing b_law_standing
    simp_arith [pr_0, pr_1, pr_tp, pr_isi, pr_len, Lay.ix0, Lay.ix1, Lay.ix2, Lay.ix3, Lay.tp, ir, l1]
def wd (m : Mv) : D := .str m.1.2
theorem law_move {m : Mv} (hm : Cw m.1) : m_law_move [.str m.1.2, .int m.2.1, .int m.2.2] = .ok (mvO m) := by
  obtain ⟨c, r, b⟩ := m
  have n1 : ¬ (("take" : Str) = "up") := by decide +kernel
  have n2 : ¬ (("take" : Str) = "down") := by decide +kernel
  have n3 : ¬ (("take" : Str) = "put") := by decide +kernel
  have n4 : ¬ (("down" : Str) = "up") := by decide +kernel
  have n5 : ¬ (("put" : Str) = "up") := by decide +kernel
  have n6 : ¬ (("put" : Str) = "down") := by decide +kernel
  rcases hm with h | h | h | h <;> (simp only at h; subst h; unfold m_law_move b_law_move mvO; simp_arith [pr_0, pr_1, pr_tp, pr_isi, pr_len, Lay.ix0, Lay.ix1, Lay.ix2, Lay.ix3, Lay.tp, n1, n2, n3, n4, n5, n6])
end LM
namespace LQ
open PySem DL
def b_law_mixed : DL.Env → Out :=
    sSeq (sIf (eB (eOp dEq (eV 0) (eFrz (oLst (aNil))))) (sRet (eOp dAdd (eOp dMul (eV 1) (eC (.int 7919))) (eC (.int 5)))) (sNx)) <|
    sRet (eOp dMod (eOp dMul (eOp dAdd (eOp dAdd (eOp dIx (eV 0) (eOp dMod (eV 1) (eCall dLen (aCons (eV 0) (aNil))))) (eC (.int 1))) (eV 1)) (eOp dAdd (eC (.int 48271)) (eOp dMul (eC (.int 7919)) (eV 1)))) (eC (.int 2147483647)))
def m_law_mixed : List D → R D := mk 2 b_law_mixed
def b_law_layout : DL.Env → Out :=
    sSeq (sSet (gNm 3) (eOp dAdd (eC (.int 2)) (eOp dMod (eV 0) (eOp dSub (eV 2) (eC (.int 1)))))) <|
    sSeq (sSet (gNm 4) (eOp dMod (eOp dDiv (eV 0) (eC (.int 32))) (eOp dAdd (eV 1) (eC (.int 1))))) <|
    sSeq (sSet (gNm 5) (eC (.int 1))) <|
    sSeq (sSet (gNm 6) (eOp dSub (eV 3) (eC (.int 1)))) <|
    sSeq (sIf (eB (eOp dGt (eV 4) (eC (.int 0)))) (sSeq (sSet (gNm 5) (eOp dAdd (eC (.int 1)) (eOp dMod (eOp dDiv (eV 0) (eC (.int 256))) (eC (.int 8))))) <|
    sSet (gNm 6) (eCall dMax2 (aCons (eOp dSub (eV 5) (eC (.int 1))) (aCons (eOp dSub (eOp dSub (eV 3) (eC (.int 1))) (eOp dMul (eV 4) (eV 5))) (aNil))))) (sNx)) <|
    sRet (eTup (aCons (eV 4) (aCons (eV 5) (aCons (eCall dMin2 (aCons (eC (.int 24)) (aCons (eOp dAdd (eV 6) (eOp dMod (eOp dDiv (eV 0) (eC (.int 4096))) (eC (.int 3)))) (aNil)))) (aCons (eV 3) (aNil))))))
def m_law_layout : List D → R D := mk 7 b_law_layout
def h_law_borne1 : Tg :=
    gTp 2 (gsCons (gNm 4) (gsCons (gNm 5) (gsNil)))
def g_law_borne1 : DL.Env → Out :=
    sWp [4, 5] (sSeq (sSet (gNm 2) (eOp dAdd (eV 2) (eOp dMul (eOp dAdd (eOp dMul (eOp dIx (eV 5) (eC (.int 0))) (eOp dIx (eV 4) (eC (.int 1)))) (eOp dIx (eV 5) (eC (.int 1)))) (eV 3)))) <|
    sSet (gNm 3) (eOp dMul (eV 3) (eOp dIx (eV 4) (eC (.int 3)))))
def b_law_borne : DL.Env → Out :=
    sSeq (sSet (gNm 2) (eC (.int 0))) <|
    sSeq (sSet (gNm 3) (eC (.int 1))) <|
    sSeq (sFor (iCall iZipD (aCons (eV 0) (aCons (eV 1) (aNil)))) h_law_borne1 g_law_borne1) <|
    sRet (eV 2)
def m_law_borne : List D → R D := mk 6 b_law_borne
def le_law_frame1 : DL.Env → R D :=
    eFn 3 m_law_layout (aCons (eFn 2 m_law_mixed (aCons (eV 0) (aCons (eOp dAdd (eC (.int 10)) (eV 4)) (aNil)))) (aCons (eV 2) (aCons (eV 3) (aNil))))
def b_law_frame : DL.Env → Out :=
    sRetO (oLc [4] (iCall iRange1 (aCons (eV 1) (aNil))) (gNm 4) (bYes) (le_law_frame1))
def mo_law_frame : List D → R (List D) := mkO 5 b_law_frame
def m_law_frame : List D → R D := fun ds => (mo_law_frame ds).bind fun r => .ok (.lst r)
def h_law_standing1 : Tg :=
    gTp 2 (gsCons (gNm 4) (gsCons (gNm 5) (gsNil)))
def g_law_standing1 : DL.Env → Out :=
    sWp [4, 5, 6] (sSeq (sSet (gNm 6) (eFn 2 m_law_mixed (aCons (eV 0) (aCons (eOp dAdd (eV 2) (eV 4)) (aNil))))) <|
    sApp 3 (eTup (aCons (eOp dMod (eV 6) (eOp dAdd (eOp dIx (eV 5) (eC (.int 0))) (eC (.int 1)))) (aCons (eOp dMod (eOp dDiv (eV 6) (eC (.int 64))) (eOp dAdd (eOp dIx (eV 5) (eC (.int 2))) (eC (.int 1)))) (aNil)))))
def b_law_standing : DL.Env → Out :=
    sSeq (sSetO 3 (oLst (aNil))) <|
    sSeq (sFor (iCall iEnumD (aCons (eV 1) (aNil))) h_law_standing1 g_law_standing1) <|
    sRetS 3
def mo_law_standing : List D → R (List D) := mkO 7 b_law_standing
def m_law_standing : List D → R D := fun ds => (mo_law_standing ds).bind fun r => .ok (.lst r)
end LQ
namespace FP
open PySem DL
end FP
namespace FP
open PySem DL L2 LA FA
def b01 (b : Bool) : Int := if b = true then 0 else 1
def rp (w : Nat) (p q : Int × Int) : Int :=
  if w = 0 then b01 (decide (p.1 = q.1)) + b01 (decide (p.2 = q.2))
  else if w = 1 then b01 (decide (p = q))
  else (if p.1 - q.1 < 0 then -(p.1 - q.1) else p.1 - q.1) + (if p.2 - q.2 < 0 then -(p.2 - q.2) else p.2 - q.2)
def pp (w : Nat) (a b : List (Int × Int)) : Int := ((a.zip b).map fun q => rp w q.1 q.2).sum
end FP
namespace LQ
open PySem DL L2 LA
def mix (ns : List Int) (k : Int) : Int := if ns = [] then k * 7919 + 5 else (ns.getD (k % (ns.length : Nat)).toNat 0 + 1 + k) * (48271 + 7919 * k) % 2147483647
theorem mix_nonneg (ns : List Int) {k : Int} (h : 0 ≤ k) : 0 ≤ mix ns k := by
  unfold mix
  split
  · omega
  · exact Int.emod_nonneg _ (by decide)
theorem mixed (ns : List Int) {k : Int} (h0 : 0 ≤ k) (h1 : k < 1000000) : m_law_mixed [.scr ns, .int k] = .ok (.int (mix ns k)) := by
  cases ns with
  | nil =>
    have e4 := dMul_r (i := k) (j := 7919) (by omega) (by omega)
    have e6 : dEq (.scr []) (.lst []) = .ok (.bl true) := rfl
    unfold m_law_mixed b_law_mixed mix
    simp_arith! [e6, e4]
  | cons a t =>
    have hl : (0 : Int) < ((a :: t).length : Nat) := by simp
    have e1 := dMod_i (i := k) hl
    have e2 := dIx_scr (ns := a :: t) (i := k % ((a :: t).length : Nat)) (Int.emod_nonneg _ (by omega)) (Int.emod_lt_of_pos _ hl)
    have e3 := dMul_r (i := (a :: t).getD (k % ((a :: t).length : Nat)).toNat 0 + 1 + k) (j := 48271 + 7919 * k) (by omega) (by omega)
    have e4 := dMul_r (i := 7919) (j := k) (by omega) (by omega)
    have e5 := fun i : Int => dMod_i (i := i) (j := 2147483647) (by decide)
    have e0 : dLen [.scr (a :: t)] = .ok (.int ((a :: t).length : Nat)) := rfl
    have e6 : dEq (.scr (a :: t)) (.lst []) = .ok (.bl false) := rfl
    unfold mix
    rw [if_neg (List.cons_ne_nil a t)]
    generalize hL : (a :: t).length = L at *
    unfold m_law_mixed b_law_mixed
    simp_arith! [e6, e0, e1, e2, e3, e4, e5]
def lay (c mu mb : Int) : Lay :=
  let b := 2 + c % (mb - 1)
  let u := c / 32 % (mu + 1)
  let w := if 0 < u then 1 + c / 256 % 8 else 1
  let l0 := if 0 < u then (if w - 1 < b - 1 - u * w then b - 1 - u * w else w - 1) else b - 1
  ⟨u, w, if l0 + c / 4096 % 3 < 24 then l0 + c / 4096 % 3 else 24, b⟩
theorem layout {c mu mb : Int} (h0 : 0 ≤ mu) (h1 : mu ≤ 6) (h2 : 2 ≤ mb) (h3 : mb ≤ 25) : m_law_layout [.int c, .int mu, .int mb] = .ok (lay c mu mb).d := by
  have m1 := dMod_i (i := c) (j := mb - 1) (by omega)
  have m2 := dMod_i (i := c / 32) (j := mu + 1) (by omega)
  have a1 := Int.emod_nonneg (c / 32) (show mu + 1 ≠ 0 by omega)
  have a2 := Int.emod_lt_of_pos (c / 32) (show 0 < mu + 1 by omega)
  unfold m_law_layout b_law_layout lay Lay.d
  dsimp only
  generalize hu : c / 32 % (mu + 1) = u at *
  have mm := dMul_r (i := u) (j := 1 + c / 256 % 8) (by omega) (by omega)
  by_cases c1 : 0 < u
  · simp_arith [Lay.ix0, Lay.ix1, Lay.ix2, Lay.ix3, Lay.tp, pr_0, pr_1, pr_tp, pr_isi, pr_len, m1, m2, c1, mm]
  · simp_arith [Lay.ix0, Lay.ix1, Lay.ix2, Lay.ix3, Lay.tp, pr_0, pr_1, pr_tp, pr_isi, pr_len, m1, m2, c1]
def fr (ns : List Int) (r : Nat) (mu mb : Int) : List Lay := (List.range r).map fun (k : Nat) => lay (mix ns (10 + (k : Int))) mu mb
theorem frame (ns : List Int) {r : Nat} (hr : r ≤ 1000) {mu mb : Int} (h0 : 0 ≤ mu) (h1 : mu ≤ 6) (h2 : 2 ≤ mb) (h3 : mb ≤ 25) : m_law_frame [.scr ns, .int (r : Nat), .int mu, .int mb] = .ok (.lst ((fr ns r mu mb).map Lay.d)) := by
  have ir : iRange1 [.int (r : Nat)] = .ok (rngL 0 r) := by
    unfold iRange1
    have e : inR62 ((r : Nat) : Int) = true := by
      unfold inR62
      simp only [Bool.and_eq_true, decide_eq_true_eq]
      omega
    show (if inR62 ((r : Nat) : Int) = true then R.ok (rngL 0 ((r : Nat) : Int).toNat) else R.stuck) = _
    rw [e, if_pos rfl, Int.toNat_natCast]
  have lc := oLc_map (fi := iCall iRange1 (aCons (eV 1) (aNil))) (h := gNm 4) (fe := le_law_frame1) (vs := [4]) (Γ := [some (.val (.scr ns)), some (.val (.int ((r : Nat)))), some (.val (.int (mu))), some (.val (.int (mb))), none])
    (List.range r) (fun (k : Nat) => D.int (k : Nat)) (fun (k : Nat) => (lay (mix ns (10 + (k : Int))) mu mb).d) (by
      simp_arith [Lay.ix0, Lay.ix1, Lay.ix2, Lay.ix3, Lay.tp, pr_0, pr_1, pr_tp, pr_isi, pr_len, ir, rngL_0]) (by
      rw [List.length_range]
      show _ ≤ 16777216
      omega) (by
      intro k hk
      rw [List.mem_range] at hk
      have e1 := mixed ns (k := 10 + (k : Int)) (by omega) (by omega)
      have e2 := layout (c := mix ns (10 + (k : Int))) h0 h1 h2 h3
      simp_arith [Lay.ix0, Lay.ix1, Lay.ix2, Lay.ix3, Lay.tp, pr_0, pr_1, pr_tp, pr_isi, pr_len, le_law_frame1, e1, e2])
  show R.bind (mo_law_frame _) _ = _
  unfold mo_law_frame b_law_frame
  simp_arith [Lay.ix0, Lay.ix1, Lay.ix2, Lay.ix3, Lay.tp, pr_0, pr_1, pr_tp, pr_isi, pr_len, lc]
  unfold fr
  rw [List.map_map]
  rfl
def st1 (c : Int) (x : Lay) : Int × Int := (c % (x.u + 1), c / 64 % (x.l + 1))
def st (ns : List Int) (at_ : Int) (f : List Lay) : List (Int × Int) := f.zipIdx.map fun q => st1 (mix ns (at_ + (q.2 : Nat))) q.1
theorem st_len (ns : List Int) (at_ : Int) (f : List Lay) : (st ns at_ f).length = f.length := by
  unfold st
  rw [List.length_map, List.length_zipIdx]
theorem st_get (ns : List Int) (at_ : Int) (f : List Lay) {i : Nat} {x : Lay} (h : f[i]? = some x) : (st ns at_ f)[i]? = some (st1 (mix ns (at_ + (i : Nat))) x) := by
  unfold st
  rw [List.getElem?_map, List.getElem?_zipIdx, h]
  simp
theorem standing (ns : List Int) {at_ : Int} {f : List Lay} (hf : ∀ x ∈ f, x.Ok) (h0 : 0 ≤ at_) (h1 : at_ < 900000) (hl : f.length ≤ 1000) : m_law_standing [.scr ns, .lst (f.map Lay.d), .int at_] = .ok (.lst ((st ns at_ f).map pairD)) := by
  have l1 := for_enum (h := h_law_standing1) (g := g_law_standing1) f Lay.d (fun i => [some (.val (.scr ns)), some (.val (.lst (f.map Lay.d))), some (.val (.int (at_))), some (.own (((st ns at_ f).take i).map pairD)), none, none, none]) (by
    intro i x hx
    have ok := hf x (List.mem_of_getElem? hx)
    have hi : i < f.length := (List.getElem?_eq_some_iff.mp hx).1
    have e1 := mixed ns (k := at_ + (i : Nat)) (by omega) (by omega)
    have u0 := ok.u0
    have l0 := ok.l0
    have m1 := dMod_i (i := mix ns (at_ + (i : Nat))) (j := x.u + 1) (by omega)
    have m2 := dMod_i (i := mix ns (at_ + (i : Nat)) / 64) (j := x.l + 1) (by omega)
    have e2 : ((st ns at_ f).take i).length < 16777216 := by
      rw [List.length_take]
      omega
    rw [take_succ_get (st_get ns at_ f hx), List.map_append]
    simp_arith [Lay.ix0, Lay.ix1, Lay.ix2, Lay.ix3, Lay.tp, pr_0, pr_1, pr_tp, pr_isi, pr_len, h_law_standing1, g_law_standing1, e1, m1, m2, st1, pairD])
  have e0 : ((st ns at_ f).take 0).map pairD = [] := rfl
  have e3 : (st ns at_ f).take f.length = st ns at_ f := by rw [← st_len ns at_ f, List.take_length]
  rw [e0, e3] at l1
  simp_arith [Lay.ix0, Lay.ix1, Lay.ix2, Lay.ix3, Lay.tp, pr_0, pr_1, pr_tp, pr_isi, pr_len] at l1
  show R.bind (mo_law_standing _) _ = _
  unfold mo_law_standing b_law_standing
  simp_arith [Lay.ix0, Lay.ix1, Lay.ix2, Lay.ix3, Lay.tp, pr_0, pr_1, pr_tp, pr_isi, pr_len, iEnumD, l1]
end LQ
namespace LM
open PySem DL L2 LA FA FB FC FD FM FR
open LB (Fits)
def rm (x : Lay) (p : Int × Int) (c : Str × Str) : Int := if c.1 = "Take" then p.1 else if c.1 = "Down" then p.2 else if c.1 = "Put" then x.u - p.1 else x.l - p.2
end LM
namespace FE
open PySem DL
end FE
namespace FE
open PySem DL L2 LA FA FB FC FD
def low (a b : Nat) : Int × Int := ((a / Nat.gcd a b : Nat), (b / Nat.gcd a b : Nat))
theorem bnz_nonneg : ∀ (l : List (Lay × (Int × Int))), (∀ q ∈ l, q.1.Ok) → (∀ q ∈ l, 0 ≤ q.2.1 ∧ 0 ≤ q.2.2) → 0 ≤ bnz l
  | [], _, _ => Int.le_refl 0
  | q :: t, h1, h2 => by
    have ok := h1 q List.mem_cons_self
    have hp := h2 q List.mem_cons_self
    have ih := bnz_nonneg t (fun q h => h1 q (List.mem_cons_of_mem _ h)) (fun q h => h2 q (List.mem_cons_of_mem _ h))
    have a := Int.mul_nonneg ih (show 0 ≤ q.1.b by have := ok.b2; omega)
    have b := Int.mul_nonneg hp.1 (show 0 ≤ q.1.w by have := ok.w1; omega)
    show 0 ≤ bnz t * q.1.b + (q.2.1 * q.1.w + q.2.2)
    omega
end FE
namespace FM
open PySem DL L2 LA FA FB FC FD LB
theorem pl_fit {x : Lay} (ok : x.Ok) {n : Int} (h0 : 0 ≤ n) (h1 : n ≤ full x) : 0 ≤ (pl x n).1 ∧ (pl x n).1 ≤ x.u ∧ 0 ≤ (pl x n).2 ∧ (pl x n).2 ≤ x.l := by
  refine ⟨pl_high ok h0, pl_le x n, pl_low ok h0, ?_⟩
  show n - hi x n * x.w ≤ x.l
  have w1 := ok.w1
  have l0 := ok.l0
  have u0 := ok.u0
  have e := Int.ediv_mul_le n (show x.w ≠ 0 by omega)
  have e2 := Int.mul_ediv_add_emod n x.w
  have e3 := Int.emod_lt_of_pos n (show 0 < x.w by omega)
  have e4 := Int.ediv_nonneg h0 (show 0 ≤ x.w by omega)
  have f1 : full x = x.u * x.w + x.l := rfl
  rw [Int.mul_comm] at e2
  unfold hi
  split
  · first
      | omega
      | (by_cases hu : 0 < x.u
         · have := ok.ul hu
           omega
         · have hu0 : x.u = 0 := by omega
           have := ok.uw hu0
           have : n / x.w = 0 := by omega
           rw [this]
           rw [hu0] at f1
           omega)
  · first
      | omega
      | (by_cases hu : 0 < x.u
         · have := ok.ul hu
           omega
         · have hu0 : x.u = 0 := by omega
           have := ok.uw hu0
           have : n / x.w = 0 := by omega
           rw [this]
           rw [hu0] at f1
           omega)
theorem tdl_fits {f : List Lay} (hf : ∀ x ∈ f, x.Ok) {n : Int} (h0 : 0 ≤ n) (h1 : n ≤ top_ f) : Fits f (tdl f n) := by
  refine ⟨tdl_len f n, fun i x p hx hp => ?_⟩
  rw [tdl_get hx] at hp
  cases hp
  have ok := hf x (List.mem_of_getElem? hx)
  have hi : i < f.length := (List.getElem?_eq_some_iff.mp hx).1
  have el : lat f i = x := lat_of hx
  refine pl_fit ok (dig_nonneg hf h0 i) ?_
  unfold dig
  by_cases c : i + 1 < f.length
  · rw [if_pos c, el]
    have := ok.full
    have := ok.b2
    have e := Int.emod_lt_of_pos (lft f n i) (show 0 < x.b by omega)
    have : full x = x.u * x.w + x.l := rfl
    omega
  · rw [if_neg c]
    have ei : i = f.length - 1 := by omega
    have q : ¬ full (lastL f) < lft f n (f.length - 1) := fun h => absurd ((too_great hf n).mp h) (show ¬ top_ f < n by omega)
    have : lastL f = x := by rw [← el, ei]; rfl
    rw [this] at q
    rw [ei]
    omega
theorem bnz_0 {f : List Lay} {s : List (Int × Int)} (hf : ∀ x ∈ f, x.Ok) (hs : Fits f s) : 0 ≤ bnz (f.zip s) := by
  refine FE.bnz_nonneg _ (fun q hq => hf _ (List.of_mem_zip hq).1) fun q hq => ?_
  obtain ⟨i, hi, e⟩ := List.mem_iff_getElem.mp hq
  have hi2 : i < f.length ∧ i < s.length := by
    rw [List.length_zip] at hi
    omega
  have e1 : (f.zip s)[i] = (f[i], s[i]) := List.getElem_zip
  rw [e1] at e
  have := hs.2 i f[i] s[i] (List.getElem?_eq_getElem hi2.1) (List.getElem?_eq_getElem hi2.2)
  rw [← e]
  exact ⟨this.1, this.2.2.1⟩
end FM
namespace FR
open PySem DL L2 LA FA FB FC FD FM
open LB (Fits)
theorem stp_at {f : List Lay} {u : List (Int × Int)} {r : Nat} (hr : r < f.length) {m : Mv} (hm : m.2.1 = (r : Nat)) {p : Int × Int} (hp : atS u r = p) (hq : fitP (lat f r) (rch m p)) : stp f u m = some (u.set r (rch m p)) := by
  unfold stp
  rw [hm, Int.toNat_natCast, hp, if_pos ⟨by omega, hq⟩]
theorem run_if {f : List Lay} {u : List (Int × Int)} {r : Nat} (hr : r < f.length) (hu : u.length = f.length) {c : Prop} [Decidable c] {m : Mv} (hm : m.2.1 = (r : Nat)) {p q : Int × Int} (hp : atS u r = p) (hq : fitP (lat f r) q) (h1 : c → rch m p = q) (h2 : ¬ c → p = q) :
    run f u (if c then [m] else []) = some (u.set r q) := by
  by_cases h : c
  · rw [if_pos h]
    have e := stp_at (f := f) (u := u) hr hm hp (by rw [h1 h]; exact hq)
    rw [h1 h] at e
    unfold run
    rw [e]
    rfl
  · rw [if_neg h, ← h2 h, ← hp, set_atS (by omega)]
    rfl
theorem run_rod {f : List Lay} {u : List (Int × Int)} {r : Nat} (hr : r < f.length) (hu : u.length = f.length) {p q : Int × Int} (hp : atS u r = p) (fp : fitP (lat f r) p) (fq : fitP (lat f r) q) : run f u (rodR (r : Nat) p q) = some (u.set r q) := by
  obtain ⟨p1, p2, p3, p4⟩ := fp
  obtain ⟨q1, q2, q3, q4⟩ := fq
  unfold rodR
  have s1 := run_if hr hu (c := q.1 < p.1) (m := (cT, (r : Nat), p.1 - q.1)) rfl (p := p) (q := (if q.1 < p.1 then q.1 else p.1, p.2)) hp (by
    unfold fitP
    dsimp only
    split <;> omega) (fun h => by rw [rch_t, if_pos h]; exact Prod.ext (by show p.1 - (p.1 - q.1) = q.1; omega) rfl) (fun h => by rw [if_neg h])
  generalize hA : (if q.1 < p.1 then q.1 else p.1) = A at *
  have a1 : 0 ≤ A ∧ A ≤ (lat f r).u ∧ A ≤ q.1 ∧ (¬ p.1 < q.1 → A = q.1) ∧ (p.1 < q.1 → A = p.1) := by
    rw [← hA]
    split <;> omega
  have u1 : (u.set r (A, p.2)).length = f.length := by rw [List.length_set, hu]
  have s2 := run_if (u := u.set r (A, p.2)) hr u1 (c := q.2 < p.2) (m := (cD, (r : Nat), p.2 - q.2)) rfl (p := (A, p.2)) (q := (A, if q.2 < p.2 then q.2 else p.2)) (atS_set (by omega) _) (by
    unfold fitP
    dsimp only
    split <;> omega) (fun h => by rw [rch_d, if_pos h]; exact Prod.ext rfl (by show p.2 - (p.2 - q.2) = q.2; omega)) (fun h => by rw [if_neg h])
  generalize hB : (if q.2 < p.2 then q.2 else p.2) = B at *
  have b1 : 0 ≤ B ∧ B ≤ (lat f r).l ∧ B ≤ q.2 ∧ (¬ p.2 < q.2 → B = q.2) ∧ (p.2 < q.2 → B = p.2) := by
    rw [← hB]
    split <;> omega
  rw [List.set_set] at s2
  have u2 : (u.set r (A, B)).length = f.length := by rw [List.length_set, hu]
  have s3 := run_if (u := u.set r (A, B)) hr u2 (c := p.1 < q.1) (m := (cP, (r : Nat), q.1 - p.1)) rfl (p := (A, B)) (q := (q.1, B)) (atS_set (by omega) _) (by
    unfold fitP
    dsimp only
    omega) (fun h => by rw [rch_p]; exact Prod.ext (by show A + (q.1 - p.1) = q.1; omega) rfl) (fun h => Prod.ext (by show A = q.1; omega) rfl)
  rw [List.set_set] at s3
  have u3 : (u.set r (q.1, B)).length = f.length := by rw [List.length_set, hu]
  have s4 := run_if (u := u.set r (q.1, B)) hr u3 (c := p.2 < q.2) (m := (cU, (r : Nat), q.2 - p.2)) rfl (p := (q.1, B)) (q := q) (atS_set (by omega) _) ⟨q1, q2, q3, q4⟩ (fun h => by rw [rch_u]; exact Prod.ext rfl (by show B + (q.2 - p.2) = q.2; omega)) (fun h => Prod.ext rfl (by show B = q.2; omega))
  rw [List.set_set] at s4
  rw [run_app, run_app, run_app, s1]
  show ((run f (u.set r (A, p.2)) _).bind _).bind _ = _
  rw [s2]
  show (run f (u.set r (A, B)) _).bind _ = _
  rw [s3]
  exact s4
def midS (s t : List (Int × Int)) (n : Nat) : Nat → List (Int × Int)
  | 0 => s
  | k + 1 => (midS s t n k).set (n - 1 - k) (atS t (n - 1 - k))
theorem midS_len (s t : List (Int × Int)) (n : Nat) : ∀ k, (midS s t n k).length = s.length
  | 0 => rfl
  | k + 1 => by
    show (List.set _ _ _).length = _
    rw [List.length_set, midS_len s t n k]
theorem midS_get {s t : List (Int × Int)} {n : Nat} (hs : s.length = n) : ∀ k, k ≤ n → ∀ i, i < n → atS (midS s t n k) i = if n - k ≤ i then atS t i else atS s i
  | 0, _, i, hi => by rw [if_neg (by omega)]; rfl
  | k + 1, hk, i, hi => by
    show atS ((midS s t n k).set (n - 1 - k) (atS t (n - 1 - k))) i = _
    have hl := midS_len s t n k
    have ih := midS_get (t := t) hs k (by omega) i hi
    by_cases e : n - 1 - k = i
    · subst e
      rw [atS_set (by omega), if_pos (by omega)]
    · have ea : atS ((midS s t n k).set (n - 1 - k) (atS t (n - 1 - k))) i = atS (midS s t n k) i := by
        unfold atS
        simp only [List.getD_eq_getElem?_getD, List.getElem?_set_ne e]
      rw [ea, ih]
      by_cases c : n - k ≤ i
      · rw [if_pos c, if_pos (by omega)]
      · rw [if_neg c, if_neg (by omega)]
theorem run_betK {f : List Lay} {s t : List (Int × Int)} (hs : Fits f s) (ht : Fits f t) : ∀ k, k ≤ f.length → run f s (betK s t f.length k) = some (midS s t f.length k)
  | 0, _ => rfl
  | k + 1, hk => by
    show run f s (betK s t f.length k ++ rodR ((f.length - 1 - k : Nat) : Int) (atS s (f.length - 1 - k)) (atS t (f.length - 1 - k))) = _
    rw [run_app, run_betK hs ht k (by omega)]
    have hl := hs.1
    refine run_rod (by omega) (by rw [midS_len, hl]) ?_ (fits_at hs (by omega)) (fits_at ht (by omega))
    rw [midS_get hs.1 k (by omega) _ (by omega), if_neg (by omega)]
theorem ext_atS {s t : List (Int × Int)} (hl : s.length = t.length) (h : ∀ i, i < s.length → atS s i = atS t i) : s = t := by
  refine List.ext_getElem? fun i => ?_
  by_cases q : i < s.length
  · have := h i q
    unfold atS at this
    rw [List.getD_eq_getElem?_getD, List.getD_eq_getElem?_getD, List.getElem?_eq_getElem q, List.getElem?_eq_getElem (by omega)] at this
    rw [List.getElem?_eq_getElem q, List.getElem?_eq_getElem (by omega)]
    exact congrArg some this
  · rw [List.getElem?_eq_none (by omega), List.getElem?_eq_none (by omega)]
theorem run_bet {f : List Lay} {s t : List (Int × Int)} (hs : Fits f s) (ht : Fits f t) : run f s (bet s t) = some t := by
  unfold bet
  have hl := hs.1
  have h2 := ht.1
  rw [hl, run_betK hs ht f.length (Nat.le_refl _)]
  congr 1
  refine ext_atS (by rw [midS_len]; omega) fun i hi => ?_
  rw [midS_len] at hi
  rw [midS_get hl f.length (Nat.le_refl _) i (by omega), if_pos (by omega)]
theorem rodR_good (r : Nat) (p q : Int × Int) : Good (rodR (r : Nat) p q) := fun m hm => by
  refine ⟨rodR_cw _ _ _ m hm, ?_⟩
  unfold rodR at hm
  simp only [List.mem_append] at hm
  rcases hm with ((hm | hm) | hm) | hm <;> (split at hm <;> first | (rw [List.mem_singleton.mp hm]; exact Int.natCast_nonneg r) | cases hm)
theorem betK_good (s t : List (Int × Int)) (n : Nat) : ∀ k, Good (betK s t n k)
  | 0, m, hm => by cases hm
  | k + 1, m, hm => by
    rcases List.mem_append.mp hm with hm | hm
    · exact betK_good s t n k m hm
    · exact rodR_good _ _ _ m hm
theorem bet_good (s t : List (Int × Int)) : Good (bet s t) := betK_good _ _ _ _
theorem bet_len (s t : List (Int × Int)) : (bet s t).length ≤ 4 * s.length := betK_len _ _ _ _
theorem rodR_same (r : Int) (p : Int × Int) : rodR r p p = [] := by
  unfold rodR
  rw [if_neg (Int.lt_irrefl _), if_neg (Int.lt_irrefl _), if_neg (Int.lt_irrefl _), if_neg (Int.lt_irrefl _)]
  rfl
end FR
namespace FG
open PySem DL
end FG
namespace LC
open PySem DL
end LC
set_option exponentiation.threshold 2000
namespace FG
open PySem DL L2 LA FA FB FC FD LB FE
end FG
namespace LS
open PySem DL
def h_law_tidy1 : Tg :=
    gTp 2 (gsCons (gNm 3) (gsCons (gNm 4) (gsNil)))
def g_law_tidy1 : DL.Env → Out :=
    sWp [3, 4, 5, 6] (sSeq (sSet (gNm 5) (eV 1)) <|
    sSeq (sIf (eB (eOp dLt (eV 3) (eOp dSub (eCall dLen (aCons (eV 0) (aNil))) (eC (.int 1))))) (sSet (gNm 5) (eOp dMod (eV 1) (eOp dIx (eV 4) (eC (.int 3))))) (sNx)) <|
    sSeq (sSet (gNm 1) (eOp dDiv (eOp dSub (eV 1) (eV 5)) (eOp dIx (eV 4) (eC (.int 3))))) <|
    sSeq (sIf (eB (eOp dGt (eV 5) (eOp dAdd (eOp dMul (eOp dIx (eV 4) (eC (.int 0))) (eOp dIx (eV 4) (eC (.int 1)))) (eOp dIx (eV 4) (eC (.int 2)))))) (sRet (eC .non)) (sNx)) <|
    sSeq (sSet (gNm 6) (eCall dMin2 (aCons (eOp dIx (eV 4) (eC (.int 0))) (aCons (eOp dDiv (eV 5) (eOp dIx (eV 4) (eC (.int 1)))) (aNil))))) <|
    sApp 2 (eTup (aCons (eV 6) (aCons (eOp dSub (eV 5) (eOp dMul (eV 6) (eOp dIx (eV 4) (eC (.int 1))))) (aNil)))))
def b_law_tidy : DL.Env → Out :=
    sSeq (sSetO 2 (oLst (aNil))) <|
    sSeq (sFor (iCall iEnumD (aCons (eV 0) (aNil))) h_law_tidy1 g_law_tidy1) <|
    sFrz 2 (sRet (eV 2))
def m_law_tidy : List D → R D := mk 7 b_law_tidy
end LS
namespace LS
open PySem DL L2 TL LA FA FB FC FD FM FR FW
theorem rodR_sm {r : Nat} (hr : r < 1000) {x : Lay} (ok : x.Ok) {p q : Int × Int} (hp : fitP x p) (hq : fitP x q) : SmR (rodR (r : Nat) p q) := by
  obtain ⟨a1, a2, a3, a4⟩ := hp
  obtain ⟨b1, b2, b3, b4⟩ := hq
  have u6 := ok.u6
  have l24 := ok.l24
  intro m hm
  refine ⟨rodR_cw _ _ _ m hm, ?_⟩
  unfold rodR at hm
  simp only [List.mem_append] at hm
  rcases hm with ((hm | hm) | hm) | hm <;> (split at hm <;> first | (rw [List.mem_singleton.mp hm]; refine ⟨Int.natCast_nonneg r, ?_, ?_, ?_⟩ <;> dsimp only <;> omega) | cases hm)
theorem betK_sm {f : List Lay} (hf : ∀ x ∈ f, x.Ok) (hl : f.length ≤ 1000) {s t : List (Int × Int)} (hs : LB.Fits f s) (ht : LB.Fits f t) : ∀ k, k ≤ f.length → SmR (betK s t f.length k)
  | 0, _, m, hm => by cases hm
  | k + 1, hk, m, hm => by
    rcases List.mem_append.mp hm with hm | hm
    · exact betK_sm hf hl hs ht k (by omega) m hm
    · exact rodR_sm (by omega) (lat_ok hf _) (fits_at hs (by omega)) (fits_at ht (by omega)) m hm
theorem bet_sm {f : List Lay} (hf : ∀ x ∈ f, x.Ok) (hl : f.length ≤ 1000) {s t : List (Int × Int)} (hs : LB.Fits f s) (ht : LB.Fits f t) : SmR (bet s t) := by
  have := betK_sm hf hl hs ht f.length (Nat.le_refl _)
  unfold bet
  rw [hs.1]
  exact this
end LS
namespace FZ
open PySem DL
end FZ
namespace FZ
open PySem DL L2 LA FA FB FC FD FE FG FM FR
open LB (Fits)
def rtN (N : Int) : Nat → Nat
  | 0 => 0
  | m + 1 => if ((m + 1 : Nat) : Int) * ((m + 1 : Nat) : Int) ≤ N then m + 1 else rtN N m
def rt (g : List Lay) (N : Int) : Int := (rtN N (top_ g).toNat : Nat)
theorem plc_dvd (f : List Lay) (i : Nat) : ∀ d, plc f i ∣ plc f (i + d)
  | 0 => Int.dvd_refl _
  | d + 1 => by
    show plc f i ∣ plc f (i + d) * _
    exact Int.dvd_trans (plc_dvd f i d) (Int.dvd_mul_right _ _)
def fnd (g : List Lay) (R : Int) (r : Nat) : Int := if r = g.length then 0 else lft g R r * plc g r
theorem fnd_next {g : List Lay} (hg : ∀ x ∈ g, x.Ok) (R : Int) {r : Nat} (hr : r < g.length) : fnd g R r = fnd g R (r + 1) + dig g R r * plc g r := by
  unfold fnd dig
  rw [if_neg (by omega)]
  by_cases c : r + 1 < g.length
  · rw [if_neg (by omega), if_pos c, lft_succ hg]
    show _ = lft g R r / (lat g r).b * (plc g r * (lat g r).b) + _
    have e := Int.mul_ediv_add_emod (lft g R r) (lat g r).b
    have e2 : lft g R r / (lat g r).b * (plc g r * (lat g r).b) = (lat g r).b * (lft g R r / (lat g r).b) * plc g r := by
      rw [Int.mul_comm (plc g r), ← Int.mul_assoc, Int.mul_comm (lft g R r / (lat g r).b)]
    rw [e2, ← Int.add_mul, e]
  · rw [if_pos (by omega), if_neg c, Int.zero_add]
theorem fnd_le {g : List Lay} (hg : ∀ x ∈ g, x.Ok) {R : Int} (h0 : 0 ≤ R) (r : Nat) : 0 ≤ fnd g R r ∧ fnd g R r ≤ R := by
  unfold fnd
  split
  · omega
  · have hp := plc_pos hg r
    exact ⟨Int.mul_nonneg (lft_nonneg hg h0 r) (Int.le_of_lt hp), Int.ediv_mul_le _ (by omega)⟩
theorem iR3 {n : Nat} (h : n ≤ 100000) : iRange3 [.int ((n : Nat) - 1), .int (-1), .int (-1)] = .ok (rngDn ((n : Nat) - 1) n) := by
  unfold iRange3
  have h1 : inR62 ((n : Nat) - 1 : Int) = true := by
    unfold inR62
    simp only [Bool.and_eq_true, decide_eq_true_eq]
    omega
  show (if (inR62 ((n : Nat) - 1 : Int) && inR62 (-1) && decide ((-1 : Int) = -1)) = true then R.ok (rngDn ((n : Nat) - 1) ((n : Nat) - 1 - -1 : Int).toNat) else R.stuck) = _
  rw [h1, if_pos (by decide)]
  rw [show ((n : Nat) - 1 - -1 : Int).toNat = n by omega]
theorem tdl_at {g : List Lay} {i : Nat} (hi : i < g.length) (n : Int) : atS (tdl g n) i = pl (lat g i) (dig g n i) := by
  unfold atS
  rw [List.getD_eq_getElem?_getD, tdl_get (lat_get hi) n]
  rfl
theorem betK_set {s : List (Int × Int)} {r : Nat} (hr : r < s.length) (q : Int × Int) : ∀ k, k ≤ s.length → betK s (s.set r q) s.length k = if s.length - k ≤ r then rodR (r : Nat) (atS s r) q else []
  | 0, _ => by rw [if_neg (by omega)]; rfl
  | k + 1, hk => by
    show betK s (s.set r q) s.length k ++ rodR ((s.length - 1 - k : Nat) : Int) (atS s (s.length - 1 - k)) (atS (s.set r q) (s.length - 1 - k)) = _
    rw [betK_set hr q k (by omega)]
    by_cases e : s.length - 1 - k = r
    · rw [if_neg (by omega), if_pos (by omega), e, atS_set hr, List.nil_append]
    · have ea : atS (s.set r q) (s.length - 1 - k) = atS s (s.length - 1 - k) := by
        unfold atS
        simp only [List.getD_eq_getElem?_getD, List.getElem?_set_ne (Ne.symm e)]
      rw [ea, rodR_same, List.append_nil]
      by_cases c : s.length - k ≤ r
      · rw [if_pos c, if_pos (by omega)]
      · rw [if_neg c, if_neg (by omega)]
theorem bet_set {s : List (Int × Int)} {r : Nat} (hr : r < s.length) (q : Int × Int) : bet s (s.set r q) = rodR (r : Nat) (atS s r) q := by
  have := betK_set hr q s.length (Nat.le_refl _)
  rw [if_pos (by omega)] at this
  exact this
end FZ
namespace FH
open PySem DL L2 LA FA FB FC FD FM FR
open LB (Fits)
def HN : List Str := ["frame", "now", "pushed"]
abbrev hfl (F S Z : List D) : List Fl := [.val (.lst F), .val (.lst S), .own Z]
abbrev hob (f : List Lay) (s : List (Int × Int)) (W : List Mv) : OB := (HN, hfl (f.map Lay.d) (s.map pairD) (W.map mvO))
section
variable {b : Bool} {F S Z T : List D} {Γ : DL.Env} {i n : Nat} {m : Str} {mf : OB → List D → R OB} {fs : DL.Env → R (List D)} {ds : List D} {ob : OB}
theorem fld_frame (h : Env.at_ Γ i = some (.oob b "Hand" HN (hfl F S Z))) : eFld i "Hand" "frame" Γ = .ok (.lst F) := by
  unfold eFld
  rw [h]
  kernel_rfl
theorem fld_now (h : Env.at_ Γ i = some (.oob b "Hand" HN (hfl F S Z))) : eFld i "Hand" "now" Γ = .ok (.lst S) := by
  unfold eFld
  rw [h]
  kernel_rfl
theorem ext_f {fo : DL.Env → R (List D)} (h : Env.at_ Γ i = some (.oob b "Hand" HN (hfl F S Z))) (e : fo Γ = .ok T) (hl : Z.length + T.length ≤ LIM) : sExtF i "Hand" "pushed" fo Γ = .nx (Γ.set i (some (.oob b "Hand" HN (hfl F S (Z ++ T))))) := by
  have e1 : lkF HN (hfl F S Z) "pushed" = some (.own Z) := by kernel_rfl
  have e2 : puL HN (hfl F S Z) "pushed" (.own (Z ++ T)) = hfl F S (Z ++ T) := by kernel_rfl
  unfold sExtF
  rw [h]
  dsimp only
  rw [if_pos rfl, e1]
  dsimp only
  rw [e]
  show (if _ then _ else _) = _
  rw [if_pos hl, e2]
theorem set_now {fv : DL.Env → R D} (h : Env.at_ Γ i = some (.oob b "Hand" HN (hfl F S Z))) (e : fv Γ = .ok (.lst T)) : sFldV i "Hand" "now" fv Γ = .nx (Γ.set i (some (.oob b "Hand" HN (hfl F T Z)))) := by
  unfold sFldV
  rw [e]
  show (match Env.at_ Γ i with | some (.oob b c' ns fs) => if c' = "Hand" ∧ ns.length < 900 then Out.nx (Γ.set i (some (.oob b "Hand" (puN ns "now") (puL ns fs "now" (.val (.lst T)))))) else .stuck | _ => .stuck) = _
  rw [h]
  have e1 : puN HN "now" = HN := by kernel_rfl
  have e2 : puL HN (hfl F S Z) "now" (.val (.lst T)) = hfl F T Z := by kernel_rfl
  dsimp only
  rw [if_pos ⟨rfl, by decide⟩, e1, e2]
theorem meth_h (h : Env.at_ Γ i = some (.oob b "Hand" HN (hfl F S Z))) (nm : m ∉ HN) (e : fs Γ = .ok ds) (hl : ds.length = n) (q : mf (HN, hfl F S Z) ds = .ok ob) : sMeth i "Hand" m n mf fs Γ = .nx (Γ.set i (some (.oob b "Hand" ob.1 ob.2))) := by
  unfold sMeth
  rw [h]
  dsimp only
  rw [if_pos ⟨rfl, nm⟩, e]
  show (if _ then _ else _) = _
  rw [if_pos hl, q]
theorem retF (h : Env.at_ Γ i = some (.oob b "Hand" HN (hfl F S Z))) : sRetF i "Hand" "pushed" Γ = .ro Z := by
  unfold sRetF
  rw [h]
  kernel_rfl
theorem init_h : m_Hand___init ([], []) [.lst F, .lst S] = .ok (HN, hfl F S []) := by kernel_rfl
end
abbrev sl (b : Bool) (F S Z : List D) : Option Slot := some (.oob b "Hand" HN (hfl F S Z))
section
variable {b : Bool} {F S Z T : List D} {Γ : DL.Env} {a0 a1 a2 : Option Slot} {n : Nat} {m : Str} {mf : OB → List D → R OB} {fs : DL.Env → R (List D)} {ds : List D} {ob : OB}
theorem mkM_ok {N : Nat} {c : Str} {g : DL.Env → Out} {Γ' : DL.Env} {ns : List Str} {gs : List Fl} (h : g (some (.oob true c ob.1 ob.2) :: stE N ds) = .nx (some (.oob true c ns gs) :: Γ')) : mkM N c g ob ds = .ok (ns, gs) := by
  unfold mkM
  rw [h]
  show (if c = c then _ else _) = _
  rw [if_pos rfl]
theorem fld_frame0 : eFld 0 "Hand" "frame" (sl b F S Z :: Γ) = .ok (.lst F) := fld_frame rfl
theorem fld_now0 : eFld 0 "Hand" "now" (sl b F S Z :: Γ) = .ok (.lst S) := fld_now rfl
end
theorem turn_to {f : List Lay} {s t : List (Int × Int)} {W : List Mv} (hs : s.length = f.length) (ht : t.length = f.length) (hl : f.length ≤ 1000) (hR : W.length ≤ 1000000) : m_Hand_turn_to (hob f s W) [.lst (t.map pairD)] = .ok (hob f t (W ++ bet s t)) := by
  have rb := rows_betweenO (ds := f.map Lay.d) (s := s) (t := t) (by rw [List.length_map]; exact hs) (by rw [List.length_map]; exact ht) (by rw [List.length_map]; exact hl)
  have bl := bet_len s t
  have x1 := ext_f (Γ := [sl true (f.map Lay.d) (s.map pairD) (W.map mvO), some (.val (.lst (t.map pairD)))]) (i := 0) (fo := oFn 3 FM.mo_rows_between (aCons (eFld 0 "Hand" "frame") (aCons (eFld 0 "Hand" "now") (aCons (eV 1) (aNil))))) (T := (bet s t).map mvO) rfl (by
    simp_arith [pr_0, pr_1, pr_tp, pr_isi, pr_len, Lay.ix0, Lay.ix1, Lay.ix2, Lay.ix3, Lay.tp, fld_frame0, fld_now0, rb]) (by rw [List.length_map, List.length_map]; show _ ≤ 16777216; omega)
  have x2 := set_now (Γ := [sl true (f.map Lay.d) (s.map pairD) (W.map mvO ++ (bet s t).map mvO), some (.val (.lst (t.map pairD)))]) (i := 0) (fv := eFrz (oCall oList (aCons (eV 1) (aNil)))) (T := t.map pairD) rfl (by simp_arith [pr_0, pr_1, pr_tp, pr_isi, pr_len, Lay.ix0, Lay.ix1, Lay.ix2, Lay.ix3, Lay.tp])
  show _ = DL.R.ok (HN, hfl _ _ ((W ++ bet s t).map mvO))
  rw [List.map_append]
  refine mkM_ok (Γ' := [some (.val (.lst (t.map pairD)))]) ?_
  show b_Hand_turn_to [sl true (f.map Lay.d) (s.map pairD) (W.map mvO), some (.val (.lst (t.map pairD)))] = _
  unfold b_Hand_turn_to
  simp_arith [pr_0, pr_1, pr_tp, pr_isi, pr_len, Lay.ix0, Lay.ix1, Lay.ix2, Lay.ix3, Lay.tp, x1, x2]
theorem nt_turn : ("turn_to" : Str) ∉ HN := by decide +kernel
theorem nt_make : ("make" : Str) ∉ HN := by decide +kernel
theorem nt_give : ("give" : Str) ∉ HN := by decide +kernel
theorem make {f : List Lay} (hf : ∀ x ∈ f, x.Ok) {s : List (Int × Int)} {W : List Mv} (hs : s.length = f.length) (hl : f.length ≤ 1000) (hW : W.length ≤ 1000000) {r : Nat} (hr : r < f.length) (k : Int) : m_Hand_make (hob f s W) [.int (r : Nat), .int k] = .ok (hob f (s.set r (pl (lat f r) k)) (W ++ bet s (s.set r (pl (lat f r) k)))) := by
  have fx : dIx (.lst (f.map Lay.d)) (.int (r : Nat)) = .ok (lat f r).d := dIx_n (by rw [List.getElem?_map, lat_get hr]; rfl)
  have po := FA.plain_of (lat_ok hf r) k
  have tt := turn_to (f := f) (s := s) (t := s.set r (pl (lat f r) k)) (W := W) hs (by rw [List.length_set]; exact hs) hl hW
  have x1 := meth_h (Γ := [sl true (f.map Lay.d) (s.map pairD) (W.map mvO), some (.val (.int ((r : Nat)))), some (.val (.int (k))), some (.val (.lst ((s.set r (pl (lat f r) k)).map pairD)))]) (i := 0) (m := "turn_to") (n := 1) (mf := m_Hand_turn_to) (fs := aCons (eV 3) (aNil)) rfl nt_turn (by simp_arith [pr_0, pr_1, pr_tp, pr_isi, pr_len, Lay.ix0, Lay.ix1, Lay.ix2, Lay.ix3, Lay.tp]) rfl tt
  have ix : ixN s.length ((r : Nat) : Int) = some r := ixN_n (by omega)
  have em : (s.map pairD).set r (pairD (pl (lat f r) k)) = (s.set r (pl (lat f r) k)).map pairD := by rw [List.map_set]
  unfold m_Hand_make b_Hand_make mkM
  simp_arith [pr_0, pr_1, pr_tp, pr_isi, pr_len, Lay.ix0, Lay.ix1, Lay.ix2, Lay.ix3, Lay.tp, fld_frame0, fld_now0, fx, po, ix, em, x1]
theorem stands {f : List Lay} (hf : ∀ x ∈ f, x.Ok) {s : List (Int × Int)} {Z : List D} (hs : s.length = f.length) {r : Nat} (hr : r < f.length) : dMeth tb_stands "stands" 1 (.obj "Hand" HN [.lst (f.map Lay.d), .lst (s.map pairD), .lst Z]) (.ok [.int (r : Nat)]) = .ok (.int (cnt (lat f r) (atS s r))) := by
  have fx : dIx (.lst (f.map Lay.d)) (.int (r : Nat)) = .ok (lat f r).d := dIx_n (by rw [List.getElem?_map, lat_get hr]; rfl)
  have sx := atS_ix (s := s) (i := r) (by omega)
  have co := FA.count_of (lat_ok hf r) (atS s r)
  have e1 : dXf cs_o_frame "frame" (.obj "Hand" HN [.lst (f.map Lay.d), .lst (s.map pairD), .lst Z]) = .ok (.lst (f.map Lay.d)) := by kernel_rfl
  have e2 : dXf cs_o_now "now" (.obj "Hand" HN [.lst (f.map Lay.d), .lst (s.map pairD), .lst Z]) = .ok (.lst (s.map pairD)) := by kernel_rfl
  have e0 : dMeth tb_stands "stands" 1 (.obj "Hand" HN [.lst (f.map Lay.d), .lst (s.map pairD), .lst Z]) (.ok [.int (r : Nat)]) = m_Hand_stands [.obj "Hand" HN [.lst (f.map Lay.d), .lst (s.map pairD), .lst Z], .int (r : Nat)] := by kernel_rfl
  rw [e0]
  unfold m_Hand_stands b_Hand_stands
  simp_arith [pr_0, pr_1, pr_tp, pr_isi, pr_len, Lay.ix0, Lay.ix1, Lay.ix2, Lay.ix3, Lay.tp, e1, e2, fx, sx, co]
structure Pth (f : List Lay) (s : List (Int × Int)) (W : List Mv) (t : List (Int × Int)) : Prop where
  run : run f s W = some t
  good : Good W
  sm : FW.SmR W
  ps : ∀ m ∈ W, 1 ≤ m.2.2
theorem Pth.nil (f : List Lay) (s : List (Int × Int)) : Pth f s [] s := ⟨rfl, fun m hm => (by cases hm), fun m hm => (by cases hm), fun m hm => (by cases hm)⟩
theorem Pth.app {f : List Lay} {s t u : List (Int × Int)} {W V : List Mv} (h : Pth f s W t) (k : Pth f t V u) : Pth f s (W ++ V) u := by
  refine ⟨?_, fun m hm => ?_, fun m hm => ?_, fun m hm => ?_⟩
  · rw [run_app, h.run]
    exact k.run
  · rcases List.mem_append.mp hm with z | z
    · exact h.good m z
    · exact k.good m z
  · rcases List.mem_append.mp hm with z | z
    · exact h.sm m z
    · exact k.sm m z
  · rcases List.mem_append.mp hm with z | z
    · exact h.ps m z
    · exact k.ps m z
theorem rodR_ps (r : Int) (p q : Int × Int) : ∀ m ∈ rodR r p q, 1 ≤ m.2.2 := by
  intro m hm
  unfold rodR at hm
  simp only [List.mem_append] at hm
  rcases hm with ((hm | hm) | hm) | hm <;> split at hm
  · rw [List.mem_singleton.mp hm]; show 1 ≤ _ - _; omega
  · cases hm
  · rw [List.mem_singleton.mp hm]; show 1 ≤ _ - _; omega
  · cases hm
  · rw [List.mem_singleton.mp hm]; show 1 ≤ _ - _; omega
  · cases hm
  · rw [List.mem_singleton.mp hm]; show 1 ≤ _ - _; omega
  · cases hm
theorem betK_ps (s t : List (Int × Int)) (n : Nat) : ∀ k, ∀ m ∈ betK s t n k, 1 ≤ m.2.2
  | 0, m, hm => by cases hm
  | k + 1, m, hm => by
    rcases List.mem_append.mp hm with hm | hm
    · exact betK_ps s t n k m hm
    · exact rodR_ps _ _ _ m hm
theorem Pth.bet {f : List Lay} (hf : ∀ x ∈ f, x.Ok) (hl : f.length ≤ 1000) {s t : List (Int × Int)} (hs : Fits f s) (ht : Fits f t) : Pth f s (bet s t) t := ⟨run_bet hs ht, bet_good s t, LS.bet_sm hf hl hs ht, betK_ps _ _ _ _⟩
theorem Pth.fits {f : List Lay} {s t : List (Int × Int)} {W : List Mv} (h : Pth f s W t) (hs : Fits f s) : Fits f t := run_fits h.good hs h.run
theorem plc_mul (f : List Lay) (i : Nat) : ∀ d, ∃ c : Int, plc f (i + d) = plc f i * c
  | 0 => ⟨1, (Int.mul_one _).symm⟩
  | d + 1 => by
    obtain ⟨c, h⟩ := plc_mul f i d
    exact ⟨c * (lat f (i + d)).b, by show plc f (i + d) * (lat f (i + d)).b = _; rw [h, Int.mul_assoc]⟩
theorem lft_add {f : List Lay} (hf : ∀ x ∈ f, x.Ok) (m x : Int) (r : Nat) : lft f (m + x * plc f r) r = lft f m r + x := by
  unfold lft
  exact Int.add_mul_ediv_right m x (Int.ne_of_gt (plc_pos hf r))
theorem dig_set {f : List Lay} (hf : ∀ x ∈ f, x.Ok) {m k : Int} {r : Nat} (hr : r < f.length) (k0 : 0 ≤ k) (k1 : r + 1 < f.length → k < (lat f r).b) : ∀ i, i < f.length → dig f (m + (k - dig f m r) * plc f r) i = if i = r then k else dig f m i := by
  have hb := (lat_ok hf r).b2
  have up : r + 1 < f.length → lft f (m + (k - dig f m r) * plc f r) (r + 1) = lft f m (r + 1) := fun h => by
    rw [lft_succ hf, lft_add hf, lft_succ hf]
    unfold dig
    rw [if_pos h]
    have e := Int.mul_ediv_add_emod (lft f m r) (lat f r).b
    have : lft f m r + (k - lft f m r % (lat f r).b) = k + (lft f m r / (lat f r).b) * (lat f r).b := by rw [Int.mul_comm] at e; omega
    rw [this, Int.add_mul_ediv_right _ _ (by omega), Int.ediv_eq_zero_of_lt k0 (k1 h), Int.zero_add]
  have upd : r + 1 < f.length → ∀ d, lft f (m + (k - dig f m r) * plc f r) (r + 1 + d) = lft f m (r + 1 + d) := fun h d => by
    induction d with
    | zero => exact up h
    | succ d ih => show lft f _ (r + 1 + d + 1) = lft f _ (r + 1 + d + 1); rw [lft_succ hf, lft_succ hf, ih]
  intro i il
  by_cases e : i = r
  · subst e
    rw [if_pos rfl]
    show (if i + 1 < f.length then lft f (m + (k - dig f m i) * plc f i) i % (lat f i).b else lft f (m + (k - dig f m i) * plc f i) i) = k
    rw [lft_add hf]
    unfold dig
    by_cases h : i + 1 < f.length
    · rw [if_pos h, if_pos h]
      have e := Int.mul_ediv_add_emod (lft f m i) (lat f i).b
      have : lft f m i + (k - lft f m i % (lat f i).b) = k + (lft f m i / (lat f i).b) * (lat f i).b := by rw [Int.mul_comm] at e; omega
      rw [this, Int.add_mul_emod_self_right, Int.emod_eq_of_lt k0 (k1 h)]
    · rw [if_neg h, if_neg h]
      omega
  · rw [if_neg e]
    by_cases c : i < r
    · obtain ⟨y, hy⟩ := plc_mul f (i + 1) (r - (i + 1))
      rw [show i + 1 + (r - (i + 1)) = r by omega] at hy
      have e2 : plc f r = plc f i * ((lat f i).b * y) := by rw [hy]; show plc f i * (lat f i).b * y = _; rw [Int.mul_assoc]
      have e3 : lft f (m + (k - dig f m r) * plc f r) i = lft f m i + ((k - dig f m r) * y) * (lat f i).b := by
        unfold lft
        have : m + (k - dig f m r) * plc f r = m + ((k - dig f m r) * ((lat f i).b * y)) * plc f i := by rw [e2, Int.mul_comm (plc f i), Int.mul_assoc (k - dig f m r)]
        rw [this, Int.add_mul_ediv_right _ _ (Int.ne_of_gt (plc_pos hf i)), Int.mul_comm (lat f i).b y, ← Int.mul_assoc]
      have ci : i + 1 < f.length := by omega
      show (if i + 1 < f.length then lft f (m + (k - dig f m r) * plc f r) i % (lat f i).b else _) = (if i + 1 < f.length then _ else _)
      rw [if_pos ci, if_pos ci, e3, Int.add_mul_emod_self_right]
    · by_cases hi : r + 1 < f.length
      · have := upd hi (i - (r + 1))
        rw [show r + 1 + (i - (r + 1)) = i by omega] at this
        show (if i + 1 < f.length then lft f (m + (k - dig f m r) * plc f r) i % (lat f i).b else lft f (m + (k - dig f m r) * plc f r) i) = (if i + 1 < f.length then lft f m i % (lat f i).b else lft f m i)
        rw [this]
      · omega
theorem dig_low {f : List Lay} (hf : ∀ x ∈ f, x.Ok) (m x : Int) {i r : Nat} (h : i < r) (hi : i + 1 < f.length) : dig f (m + x * plc f r) i = dig f m i := by
  obtain ⟨y, hy⟩ := plc_mul f (i + 1) (r - (i + 1))
  rw [show i + 1 + (r - (i + 1)) = r by omega] at hy
  have e2 : plc f r = plc f i * ((lat f i).b * y) := by rw [hy]; show plc f i * (lat f i).b * y = _; rw [Int.mul_assoc]
  have e3 : lft f (m + x * plc f r) i = lft f m i + (x * y) * (lat f i).b := by
    unfold lft
    have : m + x * plc f r = m + (x * ((lat f i).b * y)) * plc f i := by rw [e2, Int.mul_comm (plc f i), Int.mul_assoc x]
    rw [this, Int.add_mul_ediv_right _ _ (Int.ne_of_gt (plc_pos hf i)), Int.mul_comm (lat f i).b y, ← Int.mul_assoc]
  show (if i + 1 < f.length then lft f (m + x * plc f r) i % (lat f i).b else _) = (if i + 1 < f.length then _ else _)
  rw [if_pos hi, if_pos hi, e3, Int.add_mul_emod_self_right]
theorem lft_set {f : List Lay} (hf : ∀ x ∈ f, x.Ok) {m k : Int} {r : Nat} (k0 : 0 ≤ k) (h : r + 1 < f.length) (k1 : k < (lat f r).b) : lft f (m + (k - dig f m r) * plc f r) (r + 1) = lft f m (r + 1) := by
  have hb := (lat_ok hf r).b2
  rw [lft_succ hf, lft_add hf, lft_succ hf]
  unfold dig
  rw [if_pos h]
  have e := Int.mul_ediv_add_emod (lft f m r) (lat f r).b
  have : lft f m r + (k - lft f m r % (lat f r).b) = k + (lft f m r / (lat f r).b) * (lat f r).b := by rw [Int.mul_comm] at e; omega
  rw [this, Int.add_mul_ediv_right _ _ (by omega), Int.ediv_eq_zero_of_lt k0 k1, Int.zero_add]
theorem lft_top {f : List Lay} (hf : ∀ x ∈ f, x.Ok) {R : Int} (h1 : R ≤ top_ f) {r : Nat} (hr : r < f.length) : (lft f R r + 1) * plc f r ≤ top_ f + 1 := by
  have hp2 := plc_pos hf r
  obtain ⟨q, hq⟩ : plc f r ∣ top_ f + 1 := by
    have := FZ.plc_dvd f r (f.length - 1 - r)
    rw [show r + (f.length - 1 - r) = f.length - 1 by omega] at this
    unfold top_
    rw [Int.sub_add_cancel]
    exact Int.dvd_trans this (Int.dvd_mul_right _ _)
  have hlt : R / plc f r < q := Int.ediv_lt_of_lt_mul hp2 (by rw [Int.mul_comm, ← hq]; omega)
  have : (R / plc f r + 1) * plc f r ≤ q * plc f r := Int.mul_le_mul_of_nonneg_right (by omega) (by omega)
  rw [hq, Int.mul_comm _ q]
  exact this
theorem dig_b {f : List Lay} (hf : ∀ x ∈ f, x.Ok) (m : Int) {r : Nat} (h : r + 1 < f.length) : dig f m r < (lat f r).b := by
  have hb := (lat_ok hf r).b2
  unfold dig
  rw [if_pos h]
  exact Int.emod_lt_of_pos _ (by omega)
theorem tdl_set {f : List Lay} (hf : ∀ x ∈ f, x.Ok) {m k : Int} {r : Nat} (hr : r < f.length) (k0 : 0 ≤ k) (k1 : r + 1 < f.length → k < (lat f r).b) : (tdl f m).set r (pl (lat f r) k) = tdl f (m + (k - dig f m r) * plc f r) := by
  refine ext_atS (by rw [List.length_set, tdl_len, tdl_len]) fun i hi => ?_
  rw [List.length_set, tdl_len] at hi
  rw [FZ.tdl_at hi, dig_set hf hr k0 k1 i hi]
  by_cases e : i = r
  · subst e
    rw [if_pos rfl, atS_set (by rw [tdl_len]; exact hi)]
  · rw [if_neg e, ← FZ.tdl_at hi]
    unfold atS
    simp only [List.getD_eq_getElem?_getD, List.getElem?_set_ne (Ne.symm e)]
theorem bet_tdl {f : List Lay} (hf : ∀ x ∈ f, x.Ok) {m k : Int} {r : Nat} (hr : r < f.length) (k0 : 0 ≤ k) (k1 : r + 1 < f.length → k < (lat f r).b) : (bet (tdl f m) (tdl f (m + (k - dig f m r) * plc f r))).length ≤ 4 := by
  rw [← tdl_set hf hr k0 k1, FZ.bet_set (by rw [tdl_len]; exact hr)]
  exact rodR_len _ _ _
theorem make_t {f : List Lay} (hf : ∀ x ∈ f, x.Ok) (hl : f.length ≤ 1000) {m k : Int} {W : List Mv} (hW : W.length ≤ 1000000) {r : Nat} (hr : r < f.length) (k0 : 0 ≤ k) (k1 : r + 1 < f.length → k < (lat f r).b) : m_Hand_make (hob f (tdl f m) W) [.int (r : Nat), .int k] = .ok (hob f (tdl f (m + (k - dig f m r) * plc f r)) (W ++ bet (tdl f m) (tdl f (m + (k - dig f m r) * plc f r)))) := by
  rw [make hf (tdl_len f m) hl hW hr k, tdl_set hf hr k0 k1]
def giveW (f : List Lay) : Nat → Nat → Int → Int → List Mv
  | 0, _, _, _ => []
  | t + 1, r, m, d => if dig f m r + d < (lat f r).b ∨ r + 1 = f.length then bet (tdl f m) (tdl f (m + d * plc f r)) else giveW f t (r + 1) m 1 ++ bet (tdl f (m + 1 * plc f (r + 1))) (tdl f (m + d * plc f r))
theorem give {f : List Lay} (hf : ∀ x ∈ f, x.Ok) (hl : f.length ≤ 1000) : ∀ (t r : Nat) (m d : Int) (W : List Mv), r < f.length → f.length ≤ r + t → 0 ≤ m → 0 ≤ d → (r + 1 < f.length → d ≤ (lat f r).b) → m + d * plc f r ≤ top_ f → W.length + 4 * (f.length - r) ≤ 1000000 →
    mr_Hand_give t (hob f (tdl f m) W) [.int (r : Nat), .int d] = .ok (hob f (tdl f (m + d * plc f r)) (W ++ giveW f t r m d)) ∧ Pth f (tdl f m) (giveW f t r m d) (tdl f (m + d * plc f r)) ∧ (giveW f t r m d).length ≤ 4 * (f.length - r)
  | 0, r, m, d, W, hr, ht, _, _, _, _, _ => by omega
  | t + 1, r, m, d, W, hr, ht, m0, d0, d1, hm, hW => by
    have p0 := plc_pos hf r
    have dp := Int.mul_nonneg d0 (Int.le_of_lt p0)
    have c0 := dig_nonneg hf m0 r
    have st := stands hf (Z := W.map mvO) (tdl_len f m) hr
    rw [FZ.tdl_at hr, cnt_pl] at st
    have fx : dIx (.lst (f.map Lay.d)) (.int (r : Nat)) = .ok (lat f r).d := dIx_n (by rw [List.getElem?_map, lat_get hr]; rfl)
    have t0 := tdl_fits hf m0 (show m ≤ top_ f by omega)
    have t1 := tdl_fits hf (show 0 ≤ m + d * plc f r by omega) hm
    unfold giveW
    by_cases c : dig f m r + d < (lat f r).b ∨ r + 1 = f.length
    · rw [if_pos c]
      have e : m + (dig f m r + d - dig f m r) * plc f r = m + d * plc f r := by rw [show dig f m r + d - dig f m r = d by omega]
      have k1 : r + 1 < f.length → dig f m r + d < (lat f r).b := fun h => by rcases c with c | c <;> omega
      have mk := make_t hf hl (m := m) (k := dig f m r + d) (W := W) (by omega) hr (by omega) k1
      have bl := bet_tdl hf (m := m) (k := dig f m r + d) hr (by omega) k1
      rw [e] at mk bl
      have x1 := meth_h (Γ := [sl true (f.map Lay.d) ((tdl f m).map pairD) (W.map mvO), some (.val (.int ((r : Nat)))), some (.val (.int (d))), some (.val (.int (dig f m r + d))), some (.val (.int ((lat f r).b)))]) (i := 0) (m := "make") (n := 2) (mf := m_Hand_make) (fs := aCons (eV 1) (aCons (eV 3) (aNil))) rfl nt_make (by simp_arith [pr_0, pr_1, pr_tp, pr_isi, pr_len, Lay.ix0, Lay.ix1, Lay.ix2, Lay.ix3, Lay.tp]) rfl mk
      refine ⟨mkM_ok (Γ' := [some (.val (.int ((r : Nat)))), some (.val (.int (d))), some (.val (.int (dig f m r + d))), some (.val (.int ((lat f r).b)))]) ?_, .bet hf hl t0 t1, by omega⟩
      show b_Hand_give (mr_Hand_give t) [sl true (f.map Lay.d) ((tdl f m).map pairD) (W.map mvO), some (.val (.int ((r : Nat)))), some (.val (.int (d))), none, none] = _
      unfold b_Hand_give
      rcases c with c | c
      · simp_arith [pr_0, pr_1, pr_tp, pr_isi, pr_len, Lay.ix0, Lay.ix1, Lay.ix2, Lay.ix3, Lay.tp, fld_frame0, Fl.frz, st, fx, x1, c]
      · have c2 : ((f.length : Nat) : Int) - 1 = (r : Nat) := by omega
        by_cases c3 : dig f m r + d < (lat f r).b
        · simp_arith [pr_0, pr_1, pr_tp, pr_isi, pr_len, Lay.ix0, Lay.ix1, Lay.ix2, Lay.ix3, Lay.tp, fld_frame0, Fl.frz, st, fx, x1, c3]
        · simp_arith [pr_0, pr_1, pr_tp, pr_isi, pr_len, Lay.ix0, Lay.ix1, Lay.ix2, Lay.ix3, Lay.tp, fld_frame0, Fl.frz, st, fx, x1, c3, c2]
    · rw [if_neg c]
      have c1 : ¬ dig f m r + d < (lat f r).b := fun h => c (.inl h)
      have hr2 : r + 1 < f.length := by
        have : ¬ r + 1 = f.length := fun h => c (.inr h)
        omega
      have c2 : ¬ ((r : Nat) : Int) = (f.length : Nat) - 1 := by omega
      have db := dig_b hf m hr2
      have d2 := d1 hr2
      have e1 : (1 : Int) * plc f (r + 1) = (lat f r).b * plc f r := by rw [Int.one_mul]; show plc f r * (lat f r).b = _; rw [Int.mul_comm]
      have dl := dig_low hf m 1 (show r < r + 1 by omega) hr2
      have eM : m + 1 * plc f (r + 1) + (dig f m r + d - (lat f r).b - dig f (m + 1 * plc f (r + 1)) r) * plc f r = m + d * plc f r := by
        rw [dl, e1, show dig f m r + d - (lat f r).b - dig f m r = d - (lat f r).b by omega, Int.sub_mul]
        omega
      have hm1 : m + 1 * plc f (r + 1) ≤ top_ f := by
        have l1 := lft_set hf (m := m + 1 * plc f (r + 1)) (k := dig f m r + d - (lat f r).b) (by omega) hr2 (by omega)
        rw [eM] at l1
        have l2 := lft_top hf hm hr2
        rw [l1] at l2
        have l3 := Int.lt_ediv_add_one_mul_self (m + 1 * plc f (r + 1)) (plc_pos hf (r + 1))
        have l4 : m + 1 * plc f (r + 1) < (lft f (m + 1 * plc f (r + 1)) (r + 1) + 1) * plc f (r + 1) := l3
        omega
      have p1 := plc_pos hf (r + 1)
      obtain ⟨g1, g2, g3⟩ := give hf hl t (r + 1) m 1 W hr2 (by omega) m0 (by omega) (fun h => by have := (lat_ok hf (r + 1)).b2; omega) hm1 (by omega)
      have tm := tdl_fits hf (show 0 ≤ m + 1 * plc f (r + 1) by omega) hm1
      have mk := make_t hf hl (m := m + 1 * plc f (r + 1)) (k := dig f m r + d - (lat f r).b) (W := W ++ giveW f t (r + 1) m 1) (by rw [List.length_append]; omega) hr (by omega) (fun _ => by omega)
      have bl := bet_tdl hf (m := m + 1 * plc f (r + 1)) (k := dig f m r + d - (lat f r).b) hr (by omega) (fun _ => by omega)
      rw [eM] at mk bl
      have x1 := meth_h (Γ := [sl true (f.map Lay.d) ((tdl f m).map pairD) (W.map mvO), some (.val (.int ((r : Nat)))), some (.val (.int (d))), some (.val (.int (dig f m r + d))), some (.val (.int ((lat f r).b)))]) (i := 0) (m := "give") (n := 2) (mf := mr_Hand_give t) (fs := aCons (eOp dAdd (eV 1) (eC (.int 1))) (aCons (eC (.int 1)) (aNil))) rfl nt_give (by
        simp_arith [pr_0, pr_1, pr_tp, pr_isi, pr_len, Lay.ix0, Lay.ix1, Lay.ix2, Lay.ix3, Lay.tp]
        rfl) rfl g1
      have x2 := meth_h (Γ := [sl true (f.map Lay.d) ((tdl f (m + 1 * plc f (r + 1))).map pairD) ((W ++ giveW f t (r + 1) m 1).map mvO), some (.val (.int ((r : Nat)))), some (.val (.int (d))), some (.val (.int (dig f m r + d))), some (.val (.int ((lat f r).b)))]) (i := 0) (m := "make") (n := 2) (mf := m_Hand_make) (fs := aCons (eV 1) (aCons (eOp dSub (eV 3) (eV 4)) (aNil))) rfl nt_make (by simp_arith [pr_0, pr_1, pr_tp, pr_isi, pr_len, Lay.ix0, Lay.ix1, Lay.ix2, Lay.ix3, Lay.tp]) rfl mk
      rw [← List.append_assoc]
      refine ⟨mkM_ok (Γ' := [some (.val (.int ((r : Nat)))), some (.val (.int (d))), some (.val (.int (dig f m r + d))), some (.val (.int ((lat f r).b)))]) ?_, g2.app (.bet hf hl tm t1), by rw [List.length_append]; omega⟩
      show b_Hand_give (mr_Hand_give t) [sl true (f.map Lay.d) ((tdl f m).map pairD) (W.map mvO), some (.val (.int ((r : Nat)))), some (.val (.int (d))), none, none] = _
      unfold b_Hand_give
      simp only [Int.one_mul] at x1 x2
      simp_arith [pr_0, pr_1, pr_tp, pr_isi, pr_len, Lay.ix0, Lay.ix1, Lay.ix2, Lay.ix3, Lay.tp, fld_frame0, Fl.frz, st, fx, x1, x2, c1, c2]
section
variable {b : Bool} {F S Z T : List D} {Γ : DL.Env} {i n : Nat} {m : Str} {mf : OB → List D → R OB} {fs : DL.Env → R (List D)} {ds : List D} {ob : OB} {x : D}
theorem meth_x (h : Env.at_ Γ i = some (.oob b "Hand" HN (hfl F S Z))) (nm : m ∉ HN) (e : fs Γ = .exc x) : sMeth i "Hand" m n mf fs Γ = .exc x Γ := by
  unfold sMeth
  rw [h]
  dsimp only
  rw [if_pos ⟨rfl, nm⟩, e]
  rfl
theorem setB {f : DL.Env → R OB} (e : f Γ = .ok ob) : sSetB i "Hand" f Γ = .nx (Γ.set i (some (.oob false "Hand" ob.1 ob.2))) := by
  unfold sSetB
  rw [e]
  rfl
theorem setB_x {f : DL.Env → R OB} (e : f Γ = .exc x) : sSetB i "Hand" f Γ = .exc x Γ := by
  unfold sSetB
  rw [e]
  rfl
theorem bFn_x {mf : List D → R OB} (e : fs Γ = .ok ds) (hl : ds.length = n) (q : mf ds = .exc x) : bFn n mf fs Γ = .exc x := by
  unfold bFn
  rw [e]
  show (if _ then _ else _) = _
  rw [if_pos hl, q]
theorem bFn_ok {mf : List D → R OB} (e : fs Γ = .ok ds) (hl : ds.length = n) (q : mf ds = .ok ob) : bFn n mf fs Γ = .ok ob := by
  unfold bFn
  rw [e]
  show (if _ then _ else _) = _
  rw [if_pos hl, q]
theorem bNew_ok (e : fs Γ = .ok ds) (hl : ds.length = n) (q : mf ([], []) ds = .ok ob) : bNew n mf fs Γ = .ok ob := by
  unfold bNew
  rw [e]
  show (if _ then _ else _) = _
  rw [if_pos hl, q]
end
theorem tidy_hand {f : List Lay} (hf : ∀ x ∈ f, x.Ok) (hl : 1 ≤ f.length) (hl' : f.length ≤ 1000) {s : List (Int × Int)} (hs : s.length = f.length) :
    m_tidy_hand [.lst (f.map Lay.d), .lst (s.map pairD)] = if top_ f < bnz (f.zip s) then .exc (tg ((f.length : Nat) - 1)) else .ok (hob f (tdl f (bnz (f.zip s))) (bet s (tdl f (bnz (f.zip s))))) := by
  have bb := borne_by (f := f) (s := s) hf
  have td := tidyL hf hl hl' (bnz (f.zip s))
  have tt := turn_to (f := f) (s := s) (t := tdl f (bnz (f.zip s))) (W := []) hs (tdl_len _ _) hl' (by decide)
  generalize bnz (f.zip s) = N at *
  have x0 := setB (i := 2) (Γ := [some (.val (.lst (f.map Lay.d))), some (.val (.lst (s.map pairD))), none]) (bNew_ok (n := 2) (mf := m_Hand___init) (fs := aCons (eV 0) (aCons (eV 1) (aNil))) (by simp_arith [pr_0, pr_1, pr_tp, pr_isi, pr_len, Lay.ix0, Lay.ix1, Lay.ix2, Lay.ix3, Lay.tp]) rfl (init_h (F := f.map Lay.d) (S := s.map pairD)))
  unfold m_tidy_hand mkB
  show b_tidy_hand [some (.val (.lst (f.map Lay.d))), some (.val (.lst (s.map pairD))), none] = _
  unfold b_tidy_hand bSeq
  rw [x0]
  show (match sMeth 2 "Hand" "turn_to" 1 m_Hand_turn_to _ [some (.val (.lst (f.map Lay.d))), some (.val (.lst (s.map pairD))), sl false (f.map Lay.d) (s.map pairD) []] with | .nx Γ' => _ | .exc x _ => _ | _ => _) = _
  by_cases c : top_ f < N
  · rw [if_pos c] at td ⊢
    rw [meth_x (F := f.map Lay.d) (S := s.map pairD) (Z := []) (x := tg ((f.length : Nat) - 1)) rfl nt_turn (by simp_arith [pr_0, pr_1, pr_tp, pr_isi, pr_len, Lay.ix0, Lay.ix1, Lay.ix2, Lay.ix3, Lay.tp, bb, td])]
  · rw [if_neg c] at td ⊢
    rw [meth_h (i := 2) (Γ := [some (.val (.lst (f.map Lay.d))), some (.val (.lst (s.map pairD))), sl false (f.map Lay.d) (s.map pairD) []]) (fs := aCons (eFn 2 FD.m_tidy_of (aCons (eV 0) (aCons (eFn 2 FC.m_borne_by (aCons (eV 0) (aCons (eV 1) (aNil)))) (aNil)))) (aNil)) (n := 1) (mf := m_Hand_turn_to) (ds := [.lst ((tdl f N).map pairD)]) (F := f.map Lay.d) (S := s.map pairD) (Z := []) rfl nt_turn (by simp_arith [pr_0, pr_1, pr_tp, pr_isi, pr_len, Lay.ix0, Lay.ix1, Lay.ix2, Lay.ix3, Lay.tp, bb, td]) rfl tt]
    show (if ("Hand" : Str) = "Hand" then R.ok (hob f (tdl f N) ([] ++ bet s (tdl f N))) else R.stuck) = _
    rw [if_pos rfl]
    rfl
def addK (f : List Lay) (b n : Int) : Nat → List Mv
  | 0 => []
  | k + 1 => addK f b n k ++ (if 0 < dig f n (f.length - 1 - k) then giveW f 100 (f.length - 1 - k) (b + FZ.fnd f n (f.length - k)) (dig f n (f.length - 1 - k)) else [])
def addR (f : List Lay) (s : List (Int × Int)) (n : Int) : List Mv := bet s (tdl f (bnz (f.zip s))) ++ addK f (bnz (f.zip s)) n f.length
theorem add_turn {f : List Lay} (hf : ∀ x ∈ f, x.Ok) (hl : f.length ≤ 100) {b n : Int} (b0 : 0 ≤ b) (n0 : 0 ≤ n) (hn : b + n ≤ top_ f) {k : Nat} (hk : k < f.length) {S : List D} {W : List Mv} (hW : W.length ≤ 100000) :
    turn h_adding_row1 g_adding_row1 (.int ((f.length - 1 - k : Nat) : Int)) [some (.val (.lst (f.map Lay.d))), some (.val (.lst S)), some (.val (.int (n))), sl false (f.map Lay.d) ((tdl f (b + FZ.fnd f n (f.length - k))).map pairD) (W.map mvO), some (.val (.lst ((digs f n).map D.int))), none] =
    .nx [some (.val (.lst (f.map Lay.d))), some (.val (.lst S)), some (.val (.int (n))), sl false (f.map Lay.d) ((tdl f (b + FZ.fnd f n (f.length - (k + 1)))).map pairD) ((W ++ (if 0 < dig f n (f.length - 1 - k) then giveW f 100 (f.length - 1 - k) (b + FZ.fnd f n (f.length - k)) (dig f n (f.length - 1 - k)) else [])).map mvO), some (.val (.lst ((digs f n).map D.int))), none] ∧
    Pth f (tdl f (b + FZ.fnd f n (f.length - k))) (if 0 < dig f n (f.length - 1 - k) then giveW f 100 (f.length - 1 - k) (b + FZ.fnd f n (f.length - k)) (dig f n (f.length - 1 - k)) else []) (tdl f (b + FZ.fnd f n (f.length - (k + 1)))) ∧
    (if 0 < dig f n (f.length - 1 - k) then giveW f 100 (f.length - 1 - k) (b + FZ.fnd f n (f.length - k)) (dig f n (f.length - 1 - k)) else []).length ≤ 4 * f.length := by
  have hr : f.length - 1 - k < f.length := by omega
  have e1 : f.length - k = f.length - 1 - k + 1 := by omega
  have e2 : f.length - (k + 1) = f.length - 1 - k := by omega
  rw [e1, e2]
  generalize f.length - 1 - k = r at *
  have nx := FZ.fnd_next hf n hr
  obtain ⟨a0, a1⟩ := FZ.fnd_le hf n0 r
  obtain ⟨b0', b1⟩ := FZ.fnd_le hf n0 (r + 1)
  have d0 := dig_nonneg hf n0 r
  have dx : dIx (.lst ((digs f n).map D.int)) (.int (r : Nat)) = .ok (.int (dig f n r)) := dIx_n (by rw [List.getElem?_map, digs_get hr]; rfl)
  by_cases c : 0 < dig f n r
  · rw [if_pos c]
    obtain ⟨g1, g2, g3⟩ := give hf (by omega) 100 r (b + FZ.fnd f n (r + 1)) (dig f n r) W hr (by omega) (by omega) d0 (fun h => Int.le_of_lt (dig_b hf n h)) (by omega) (by omega)
    have em : b + FZ.fnd f n (r + 1) + dig f n r * plc f r = b + FZ.fnd f n r := by omega
    rw [em] at g1 g2
    refine ⟨?_, g2, by omega⟩
    have x1 := meth_h (Γ := [some (.val (.lst (f.map Lay.d))), some (.val (.lst S)), some (.val (.int (n))), sl false (f.map Lay.d) ((tdl f (b + FZ.fnd f n (r + 1))).map pairD) (W.map mvO), some (.val (.lst ((digs f n).map D.int))), some (.val (.int ((r : Nat))))]) (i := 3) (m := "give") (n := 2) (mf := m_Hand_give) (fs := aCons (eV 5) (aCons (eOp dIx (eV 4) (eV 5)) (aNil))) rfl nt_give (by simp_arith [pr_0, pr_1, pr_tp, pr_isi, pr_len, Lay.ix0, Lay.ix1, Lay.ix2, Lay.ix3, Lay.tp, dx]) rfl g1
    simp_arith [pr_0, pr_1, pr_tp, pr_isi, pr_len, Lay.ix0, Lay.ix1, Lay.ix2, Lay.ix3, Lay.tp, h_adding_row1, g_adding_row1, dx, c, x1]
  · rw [if_neg c]
    have z : dig f n r = 0 := by omega
    rw [z] at nx
    have em : FZ.fnd f n r = FZ.fnd f n (r + 1) := by omega
    rw [em]
    refine ⟨?_, .nil _ _, by show 0 ≤ _; omega⟩
    simp_arith [pr_0, pr_1, pr_tp, pr_isi, pr_len, Lay.ix0, Lay.ix1, Lay.ix2, Lay.ix3, Lay.tp, h_adding_row1, g_adding_row1, dx, c]
theorem addK_pth {f : List Lay} (hf : ∀ x ∈ f, x.Ok) (hl : f.length ≤ 100) {b n : Int} (b0 : 0 ≤ b) (n0 : 0 ≤ n) (hn : b + n ≤ top_ f) : ∀ k, k ≤ f.length → Pth f (tdl f b) (addK f b n k) (tdl f (b + FZ.fnd f n (f.length - k))) ∧ (addK f b n k).length ≤ k * (4 * f.length)
  | 0, _ => by
    have z0 : FZ.fnd f n f.length = 0 := if_pos rfl
    rw [Nat.sub_zero, z0, Int.add_zero]
    exact ⟨.nil _ _, by show 0 ≤ _; omega⟩
  | k + 1, hk => by
    obtain ⟨p, l⟩ := addK_pth hf hl b0 n0 hn k (by omega)
    obtain ⟨_, p2, l2⟩ := add_turn hf hl b0 n0 hn (k := k) (by omega) (S := []) (W := []) (by decide)
    refine ⟨p.app p2, ?_⟩
    rw [addK, List.length_append, Nat.add_mul]
    omega
theorem addR_pth {f : List Lay} (hf : ∀ x ∈ f, x.Ok) (h1 : 1 ≤ f.length) (hl : f.length ≤ 100) {s : List (Int × Int)} (hs : Fits f s) {n : Int} (n0 : 0 ≤ n) (hn : bnz (f.zip s) + n ≤ top_ f) : Pth f s (addR f s n) (tdl f (bnz (f.zip s) + n)) ∧ (addR f s n).length ≤ 4 * f.length + f.length * (4 * f.length) := by
  have b0 := bnz_0 hf hs
  have bl := bet_len s (tdl f (bnz (f.zip s)))
  unfold addR
  generalize bnz (f.zip s) = b at *
  obtain ⟨p, l⟩ := addK_pth hf hl b0 n0 hn f.length (Nat.le_refl _)
  have zn : FZ.fnd f n 0 = n := by
    unfold FZ.fnd
    rw [if_neg (by omega), lft_0]
    show n * 1 = _
    omega
  rw [Nat.sub_self, zn] at p
  have := hs.1
  exact ⟨(Pth.bet hf (by omega) hs (tdl_fits hf b0 (by omega))).app p, by rw [List.length_append]; omega⟩
theorem adding {f : List Lay} (hf : ∀ x ∈ f, x.Ok) (h1 : 1 ≤ f.length) (hl : f.length ≤ 100) {s : List (Int × Int)} (hs : Fits f s) {n : Int} (n0 : 0 ≤ n) :
    mo_adding_row [.lst (f.map Lay.d), .lst (s.map pairD), .int n] = if top_ f < bnz (f.zip s) + n then .exc (tg ((f.length : Nat) - 1)) else .ok ((addR f s n).map mvO) := by
  have th := tidy_hand hf h1 (by omega) hs.1
  have b0 := bnz_0 hf hs
  have bb := borne_by (f := f) (s := s) hf
  have bl := bet_len s (tdl f (bnz (f.zip s)))
  have td := tidyL hf h1 (by omega) (bnz (f.zip s) + n)
  have dg := digits_ofL hf h1 (by omega) n
  have sl1 := hs.1
  unfold mo_adding_row b_adding_row addR
  generalize bnz (f.zip s) = b at *
  by_cases c0 : top_ f < b
  · rw [if_pos c0] at th
    rw [if_pos (by omega)]
    have x0 := setB_x (i := 3) (Γ := [some (.val (.lst (f.map Lay.d))), some (.val (.lst (s.map pairD))), some (.val (.int (n))), none, none, none]) (bFn_x (n := 2) (mf := m_tidy_hand) (fs := aCons (eV 0) (aCons (eV 1) (aNil))) (by simp_arith [pr_0, pr_1, pr_tp, pr_isi, pr_len, Lay.ix0, Lay.ix1, Lay.ix2, Lay.ix3, Lay.tp]) rfl th)
    simp_arith [pr_0, pr_1, pr_tp, pr_isi, pr_len, Lay.ix0, Lay.ix1, Lay.ix2, Lay.ix3, Lay.tp, x0]
  · rw [if_neg c0] at th
    have x0 := setB (i := 3) (Γ := [some (.val (.lst (f.map Lay.d))), some (.val (.lst (s.map pairD))), some (.val (.int (n))), none, none, none]) (bFn_ok (n := 2) (mf := m_tidy_hand) (fs := aCons (eV 0) (aCons (eV 1) (aNil))) (by simp_arith [pr_0, pr_1, pr_tp, pr_isi, pr_len, Lay.ix0, Lay.ix1, Lay.ix2, Lay.ix3, Lay.tp]) rfl th)
    by_cases c : top_ f < b + n
    · rw [if_pos c] at td ⊢
      simp_arith [pr_0, pr_1, pr_tp, pr_isi, pr_len, Lay.ix0, Lay.ix1, Lay.ix2, Lay.ix3, Lay.tp, x0, bb, td]
    · rw [if_neg c] at td ⊢
      have l1 := for_dn (h := h_adding_row1) (g := g_adding_row1) ((f.length : Nat) - 1) f.length (fun k => [some (.val (.lst (f.map Lay.d))), some (.val (.lst (s.map pairD))), some (.val (.int (n))), sl false (f.map Lay.d) ((tdl f (b + FZ.fnd f n (f.length - k))).map pairD) ((bet s (tdl f b) ++ addK f b n k).map mvO), some (.val (.lst ((digs f n).map D.int))), none]) (by
        intro k hk
        have e : ((f.length : Nat) : Int) - 1 + (k : Nat) * (-1) = ((f.length - 1 - k : Nat) : Int) := by omega
        have kl := (addK_pth hf hl b0 n0 (by omega) k (by omega)).2
        have km : k * (4 * f.length) ≤ 100 * (4 * 100) := Nat.mul_le_mul (by omega) (by omega)
        rw [e, (add_turn hf hl b0 n0 (by omega) hk (by rw [List.length_append]; omega)).1, List.append_assoc]
        rfl)
      have ir := FZ.iR3 (n := f.length) (by omega)
      have z0 : FZ.fnd f n f.length = 0 := if_pos rfl
      have a0 : bet s (tdl f b) ++ addK f b n 0 = bet s (tdl f b) := List.append_nil _
      rw [Nat.sub_zero, z0, a0, Int.add_zero] at l1
      have rf := retF (b := false) (F := f.map Lay.d) (S := (tdl f (b + FZ.fnd f n (f.length - f.length))).map pairD) (Z := (bet s (tdl f b) ++ addK f b n f.length).map mvO) (Γ := [some (.val (.lst (f.map Lay.d))), some (.val (.lst (s.map pairD))), some (.val (.int (n))), sl false (f.map Lay.d) ((tdl f (b + FZ.fnd f n (f.length - f.length))).map pairD) ((bet s (tdl f b) ++ addK f b n f.length).map mvO), some (.val (.lst ((digs f n).map D.int))), none]) (i := 3) rfl
      rw [Nat.sub_self] at l1 rf
      simp_arith [pr_0, pr_1, pr_tp, pr_isi, pr_len, Lay.ix0, Lay.ix1, Lay.ix2, Lay.ix3, Lay.tp, x0, bb, td, dg, ir, l1, rf]
end FH
namespace DL
open PySem L2
end DL
namespace K82
open PySem DL
def cs : List Str := ["FrameError", "TooGreat", "Stuck", "Move", "Up", "Down", "Put", "Take", "Hand"]
def tb : Tb := [(.inl "FrameError", .inl "Up", false), (.inl "FrameError", .inl "Down", false), (.inl "FrameError", .inl "Put", false), (.inl "TooGreat", .inl "Up", false), (.inl "TooGreat", .inl "Down", false), (.inl "TooGreat", .inl "Put", false), (.inl "Stuck", .inl "Up", false), (.inl "Stuck", .inl "Down", false), (.inl "Stuck", .inl "Put", false), (.inl "Move", .inl "Up", false), (.inl "Move", .inl "Down", false), (.inl "Move", .inl "Put", false), (.inl "Up", .inl "Up", true), (.inl "Up", .inl "Down", false), (.inl "Up", .inl "Put", false), (.inl "Down", .inl "Up", false), (.inl "Down", .inl "Down", true), (.inl "Down", .inl "Put", false), (.inl "Put", .inl "Up", false), (.inl "Put", .inl "Down", false), (.inl "Put", .inl "Put", true), (.inl "Take", .inl "Up", false), (.inl "Take", .inl "Down", false), (.inl "Take", .inl "Put", false), (.inl "Hand", .inl "Up", false), (.inl "Hand", .inl "Down", false), (.inl "Hand", .inl "Put", false), (.inr "NoneType", .inl "Up", false), (.inr "NoneType", .inl "Down", false), (.inr "NoneType", .inl "Put", false)]
def cs_beads : List Str := ["Move", "Up", "Down", "Put", "Take"]
def cs_o_beads : List Str := ["Move", "Up", "Down", "Put", "Take"]
def cs_now : List Str := ["Hand"]
def cs_o_now : List Str := ["Hand"]
def cs_frame : List Str := ["Hand"]
def cs_o_frame : List Str := ["Hand"]
def cs_rod : List Str := ["TooGreat", "Stuck", "Move", "Up", "Down", "Put", "Take"]
def cs_o_rod : List Str := ["Move", "Up", "Down", "Put", "Take"]
abbrev b_Move_word : DL.Env → Out := FW.b_Move_word
abbrev m_Move_word : List D → R D := FW.m_Move_word
abbrev b_Move_reached : DL.Env → Out := FR.b_Move_reached
abbrev m_Move_reached : List D → R D := FR.m_Move_reached
abbrev b_Up_word : DL.Env → Out := FW.b_Up_word
abbrev m_Up_word : List D → R D := FW.m_Up_word
abbrev b_Up_reached : DL.Env → Out := FR.b_Up_reached
abbrev m_Up_reached : List D → R D := FR.m_Up_reached
abbrev b_Down_word : DL.Env → Out := FW.b_Down_word
abbrev m_Down_word : List D → R D := FW.m_Down_word
abbrev b_Down_reached : DL.Env → Out := FR.b_Down_reached
abbrev m_Down_reached : List D → R D := FR.m_Down_reached
abbrev b_Put_word : DL.Env → Out := FW.b_Put_word
abbrev m_Put_word : List D → R D := FW.m_Put_word
abbrev b_Put_reached : DL.Env → Out := FR.b_Put_reached
abbrev m_Put_reached : List D → R D := FR.m_Put_reached
abbrev b_Take_word : DL.Env → Out := FW.b_Take_word
abbrev m_Take_word : List D → R D := FW.m_Take_word
abbrev b_Take_reached : DL.Env → Out := FR.b_Take_reached
abbrev m_Take_reached : List D → R D := FR.m_Take_reached
def b_with_slip : DL.Env → Out :=
    sSeq (sSet (gTp 3 (gsCons (gNm 2) (gsCons (gNm 3) (gsCons (gNm 4) (gsNil))))) (eV 1)) <|
    sSeq (sIf (eB (eOp dIs (eV 4) (eC .non))) (sRetO (oOp oAdd (eSl (eV 0) (pNo) (pSo (eV 2))) (eSl (eV 0) (pSo (eOp dAdd (eV 2) (eC (.int 1)))) (pNo)))) (sNx)) <|
    sRetO (oOp oAdd (eOp dAdd (eSl (eV 0) (pNo) (pSo (eV 2))) (eFrz (oLst (aCons (eV 4) (aNil))))) (eSl (eV 0) (pSo (eOp dAdd (eV 2) (eC (.int 1)))) (pNo)))
def mo_with_slip : List D → R (List D) := mkO 5 b_with_slip
def m_with_slip : List D → R D := fun ds => (mo_with_slip ds).bind fun r => .ok (.lst r)
abbrev b_full_worth : DL.Env → Out := FD.b_full_worth
abbrev m_full_worth : List D → R D := FD.m_full_worth
abbrev b_count_of : DL.Env → Out := FA.b_count_of
abbrev m_count_of : List D → R D := FA.m_count_of
abbrev b_plain_of : DL.Env → Out := FA.b_plain_of
abbrev m_plain_of : List D → R D := FA.m_plain_of
abbrev b_digits_of : DL.Env → Out := FB.b_digits_of
abbrev mo_digits_of : List D → R (List D) := FB.mo_digits_of
abbrev m_digits_of : List D → R D := FB.m_digits_of
abbrev b_Hand___init := FH.b_Hand___init
abbrev m_Hand___init : OB → List D → R OB := FH.m_Hand___init
abbrev b_law_cell : DL.Env → Out := LB.b_law_cell
abbrev m_law_cell : List D → R D := LB.m_law_cell
abbrev b_law_layout : DL.Env → Out := LB.b_law_layout
abbrev m_law_layout : List D → R D := LB.m_law_layout
abbrev b_law_plain : DL.Env → Out := LB.b_law_plain
abbrev m_law_plain : List D → R D := LB.m_law_plain
abbrev b_law_borne : DL.Env → Out := LB.b_law_borne
abbrev m_law_borne : List D → R D := LB.m_law_borne
abbrev b_law_digits : DL.Env → Out := LB.b_law_digits
abbrev mo_law_digits : List D → R (List D) := LB.mo_law_digits
abbrev m_law_digits : List D → R D := LB.m_law_digits
abbrev b_law_whole : DL.Env → Out := LB.b_law_whole
abbrev m_law_whole : List D → R D := LB.m_law_whole
def b_law_with : DL.Env → Out :=
    sSeq (sIf (eB (eOp dIs (eOp dIx (eV 1) (eC (.int 2))) (eC .non))) (sRet (eOp dAdd (eSl (eV 0) (pNo) (pSo (eOp dIx (eV 1) (eC (.int 0))))) (eSl (eV 0) (pSo (eOp dAdd (eOp dIx (eV 1) (eC (.int 0))) (eC (.int 1)))) (pNo)))) (sNx)) <|
    sRet (eOp dAdd (eOp dAdd (eSl (eV 0) (pNo) (pSo (eOp dIx (eV 1) (eC (.int 0))))) (eFrz (oLst (aCons (eOp dIx (eV 1) (eC (.int 2))) (aNil))))) (eSl (eV 0) (pSo (eOp dAdd (eOp dIx (eV 1) (eC (.int 0))) (eC (.int 1)))) (pNo)))
def m_law_with : List D → R D := mk 2 b_law_with
abbrev b_borne_by : DL.Env → Out := FC.b_borne_by
abbrev m_borne_by : List D → R D := FC.m_borne_by
abbrev b_Hand_stands : DL.Env → Out := FH.b_Hand_stands
abbrev m_Hand_stands : List D → R D := FH.m_Hand_stands
abbrev b_law_frame : DL.Env → Out := LB.b_law_frame
abbrev mo_law_frame : List D → R (List D) := LB.mo_law_frame
abbrev m_law_frame : List D → R D := LB.m_law_frame
abbrev b_law_standing : DL.Env → Out := LB.b_law_standing
abbrev mo_law_standing : List D → R (List D) := LB.mo_law_standing
abbrev m_law_standing : List D → R D := LB.m_law_standing
abbrev b_law_tidy : DL.Env → Out := LB.b_law_tidy
abbrev m_law_tidy : List D → R D := LB.m_law_tidy
abbrev tb_word : List (Str × (List D → R D)) := FW.tb_word
def h_law_pushed1 : Tg :=
    gNm 4
def g_law_pushed1 : DL.Env → Out :=
    sWp [4, 5, 6, 7] (sSeq (sSet (gNm 5) (eUn (dXf cs_rod "rod") (eV 4))) <|
    sSeq (sIf (bOr (bNot (eTru (eFn 1 m_law_whole (aCons (eV 5) (aNil))))) (bOr (eB (eOp dLt (eV 5) (eC (.int 0)))) (bOr (eB (eOp dGe (eV 5) (eCall dLen (aCons (eV 0) (aNil))))) (bOr (bNot (eTru (eFn 1 m_law_whole (aCons (eUn (dXf cs_beads "beads") (eV 4)) (aNil))))) (eB (eOp dLt (eUn (dXf cs_beads "beads") (eV 4)) (eC (.int 1)))))))) (sRet (eC .non)) (sNx)) <|
    sSeq (sSet (gTp 2 (gsCons (gNm 6) (gsCons (gNm 7) (gsNil)))) (eOwnIx 3 (eV 5))) <|
    sSeq (sIf (eB (eOp dEq (eMeth tb_word "word" 0 (eV 4) aNil) (eC (.str "up")))) (sSet (gNm 7) (eOp dAdd (eV 7) (eUn (dXf cs_beads "beads") (eV 4)))) (sIf (eB (eOp dEq (eMeth tb_word "word" 0 (eV 4) aNil) (eC (.str "down")))) (sSet (gNm 7) (eOp dSub (eV 7) (eUn (dXf cs_beads "beads") (eV 4)))) (sIf (eB (eOp dEq (eMeth tb_word "word" 0 (eV 4) aNil) (eC (.str "put")))) (sSet (gNm 6) (eOp dAdd (eV 6) (eUn (dXf cs_beads "beads") (eV 4)))) (sIf (eB (eOp dEq (eMeth tb_word "word" 0 (eV 4) aNil) (eC (.str "take")))) (sSet (gNm 6) (eOp dSub (eV 6) (eUn (dXf cs_beads "beads") (eV 4)))) (sNx))))) <|
    sSeq (sIf (bOr (eB (eOp dEq (eTup (aCons (eV 6) (aCons (eV 7) (aNil)))) (eOwnIx 3 (eV 5)))) (bOr (eB (eOp dLt (eV 6) (eC (.int 0)))) (bOr (eB (eOp dLt (eV 7) (eC (.int 0)))) (bOr (eB (eOp dGt (eV 6) (eOp dIx (eOp dIx (eV 0) (eV 5)) (eC (.int 0))))) (eB (eOp dGt (eV 7) (eOp dIx (eOp dIx (eV 0) (eV 5)) (eC (.int 2))))))))) (sRet (eC .non)) (sNx)) <|
    sSetIx 3 (eV 5) (eTup (aCons (eV 6) (aCons (eV 7) (aNil)))))
def b_law_pushed : DL.Env → Out :=
    sSeq (sSetO 3 (oCall oList (aCons (eV 1) (aNil)))) <|
    sSeq (sFor (iOf (eV 2)) h_law_pushed1 g_law_pushed1) <|
    sFrz 3 (sRet (eV 3))
def m_law_pushed : List D → R D := mk 8 b_law_pushed
def b_law_told : DL.Env → Out :=
    sSeq (sIf (eB (eOp dIs (eOp dIx (eV 0) (eC (.int 2))) (eC .non))) (sRet (eTup (aCons (eOp dIx (eV 0) (eC (.int 0))) (aCons (eOp dIx (eV 0) (eC (.int 1))) (aCons (eC (.str "")) (aNil)))))) (sNx)) <|
    sRet (eTup (aCons (eOp dIx (eV 0) (eC (.int 0))) (aCons (eOp dIx (eV 0) (eC (.int 1))) (aCons (eMeth tb_word "word" 0 (eOp dIx (eV 0) (eC (.int 2))) aNil) (aCons (eUn (dXf cs_rod "rod") (eOp dIx (eV 0) (eC (.int 2)))) (aCons (eUn (dXf cs_beads "beads") (eOp dIx (eV 0) (eC (.int 2)))) (aNil)))))))
def m_law_told : List D → R D := mk 1 b_law_told
def le_law_words1 : DL.Env → R D :=
    eTup (aCons (eMeth tb_word "word" 0 (eV 1) aNil) (aCons (eUn (dXf cs_rod "rod") (eV 1)) (aCons (eUn (dXf cs_beads "beads") (eV 1)) (aNil))))
def b_law_words : DL.Env → Out :=
    sRetO (oLc [1] (iOf (eV 0)) (gNm 1) (bYes) (le_law_words1))
def mo_law_words : List D → R (List D) := mkO 2 b_law_words
def m_law_words : List D → R D := fun ds => (mo_law_words ds).bind fun r => .ok (.lst r)
abbrev tb_reached : List (Str × (List D → R D)) := FR.tb_reached
abbrev b_Move_done : DL.Env → Out := FR.b_Move_done
abbrev m_Move_done : List D → R D := FR.m_Move_done
abbrev b_rod_rows : DL.Env → Out := FM.b_rod_rows
abbrev mo_rod_rows : List D → R (List D) := FM.mo_rod_rows
def b_like : DL.Env → Out :=
    sSeq (sIf (eTru (eCall (dIsX cs tb) (aCons (eV 0) (aCons (eC (.cls "Up")) (aNil))))) (sRet (eNew2 "Up" "rod" "beads" (aCons (eV 1) (aCons (eV 2) (aNil))))) (sNx)) <|
    sSeq (sIf (eTru (eCall (dIsX cs tb) (aCons (eV 0) (aCons (eC (.cls "Down")) (aNil))))) (sRet (eNew2 "Down" "rod" "beads" (aCons (eV 1) (aCons (eV 2) (aNil))))) (sNx)) <|
    sSeq (sIf (eTru (eCall (dIsX cs tb) (aCons (eV 0) (aCons (eC (.cls "Put")) (aNil))))) (sRet (eNew2 "Put" "rod" "beads" (aCons (eV 1) (aCons (eV 2) (aNil))))) (sNx)) <|
    sRet (eNew2 "Take" "rod" "beads" (aCons (eV 1) (aCons (eV 2) (aNil))))
def m_like : List D → R D := mk 3 b_like
abbrev b_tidy_of : DL.Env → Out := FD.b_tidy_of
abbrev mo_tidy_of : List D → R (List D) := FD.mo_tidy_of
abbrev m_tidy_of : List D → R D := FD.m_tidy_of
abbrev b_law_move : DL.Env → Out := LM.b_law_move
abbrev m_law_move : List D → R D := LM.m_law_move
abbrev tb_done : List (Str × (List D → R D)) := FR.tb_done
abbrev b_done_all : DL.Env → Out := FR.b_done_all
abbrev m_done_all : List D → R D := FR.m_done_all
abbrev b_rows_between : DL.Env → Out := FM.b_rows_between
abbrev mo_rows_between : List D → R (List D) := FM.mo_rows_between
abbrev m_rows_between : List D → R D := FM.m_rows_between
def b_slips_at : DL.Env → Out :=
    sSeq (sSet (gNm 3) (eOp dIx (eV 1) (eV 2))) <|
    sSeq (sSetO 4 (oLst (aNil))) <|
    sSeq (sIf (eB (eOp dGt (eUn (dXf cs_o_beads "beads") (eV 3)) (eC (.int 1)))) (sApp 4 (eTup (aCons (eV 2) (aCons (eC (.str "fewer")) (aCons (eFn 3 m_like (aCons (eV 3) (aCons (eUn (dXf cs_o_rod "rod") (eV 3)) (aCons (eOp dSub (eUn (dXf cs_o_beads "beads") (eV 3)) (eC (.int 1))) (aNil))))) (aNil)))))) (sNx)) <|
    sSeq (sIf (eB (eOp dGt (eUn (dXf cs_o_rod "rod") (eV 3)) (eC (.int 0)))) (sApp 4 (eTup (aCons (eV 2) (aCons (eC (.str "last")) (aCons (eFn 3 m_like (aCons (eV 3) (aCons (eOp dSub (eUn (dXf cs_o_rod "rod") (eV 3)) (eC (.int 1))) (aCons (eUn (dXf cs_o_beads "beads") (eV 3)) (aNil))))) (aNil)))))) (sNx)) <|
    sSeq (sApp 4 (eTup (aCons (eV 2) (aCons (eC (.str "left")) (aCons (eC .non) (aNil)))))) <|
    sSeq (sApp 4 (eTup (aCons (eV 2) (aCons (eC (.str "more")) (aCons (eFn 3 m_like (aCons (eV 3) (aCons (eUn (dXf cs_o_rod "rod") (eV 3)) (aCons (eOp dAdd (eUn (dXf cs_o_beads "beads") (eV 3)) (eC (.int 1))) (aNil))))) (aNil)))))) <|
    sSeq (sIf (eB (eOp dLt (eOp dAdd (eUn (dXf cs_o_rod "rod") (eV 3)) (eC (.int 1))) (eCall dLen (aCons (eV 0) (aNil))))) (sApp 4 (eTup (aCons (eV 2) (aCons (eC (.str "next")) (aCons (eFn 3 m_like (aCons (eV 3) (aCons (eOp dAdd (eUn (dXf cs_o_rod "rod") (eV 3)) (eC (.int 1))) (aCons (eUn (dXf cs_o_beads "beads") (eV 3)) (aNil))))) (aNil)))))) (sNx)) <|
    sRetS 4
def mo_slips_at : List D → R (List D) := mkO 5 b_slips_at
def m_slips_at : List D → R D := fun ds => (mo_slips_at ds).bind fun r => .ok (.lst r)
def b_law_slip : DL.Env → Out :=
    sSeq (sSet (gNm 2) (eOp dMod (eOp dDiv (eV 1) (eC (.int 5))) (eCall dLen (aCons (eV 0) (aNil))))) <|
    sSeq (sSet (gNm 3) (eOp dIx (eV 0) (eV 2))) <|
    sSeq (sSet (gNm 4) (eOp dMod (eV 1) (eC (.int 5)))) <|
    sSeq (sIf (bAnd (eB (eOp dEq (eV 4) (eC (.int 1)))) (eB (eOp dGt (eUn (dXf cs_beads "beads") (eV 3)) (eC (.int 1))))) (sRet (eTup (aCons (eV 2) (aCons (eC (.str "fewer")) (aCons (eFn 3 m_law_move (aCons (eMeth tb_word "word" 0 (eV 3) aNil) (aCons (eUn (dXf cs_rod "rod") (eV 3)) (aCons (eOp dSub (eUn (dXf cs_beads "beads") (eV 3)) (eC (.int 1))) (aNil))))) (aNil)))))) (sNx)) <|
    sSeq (sIf (eB (eOp dEq (eV 4) (eC (.int 2)))) (sRet (eTup (aCons (eV 2) (aCons (eC (.str "more")) (aCons (eFn 3 m_law_move (aCons (eMeth tb_word "word" 0 (eV 3) aNil) (aCons (eUn (dXf cs_rod "rod") (eV 3)) (aCons (eOp dAdd (eUn (dXf cs_beads "beads") (eV 3)) (eC (.int 1))) (aNil))))) (aNil)))))) (sNx)) <|
    sSeq (sIf (bAnd (eB (eOp dEq (eV 4) (eC (.int 3)))) (eB (eOp dGt (eUn (dXf cs_rod "rod") (eV 3)) (eC (.int 0))))) (sRet (eTup (aCons (eV 2) (aCons (eC (.str "last")) (aCons (eFn 3 m_law_move (aCons (eMeth tb_word "word" 0 (eV 3) aNil) (aCons (eOp dSub (eUn (dXf cs_rod "rod") (eV 3)) (eC (.int 1))) (aCons (eUn (dXf cs_beads "beads") (eV 3)) (aNil))))) (aNil)))))) (sNx)) <|
    sSeq (sIf (eB (eOp dEq (eV 4) (eC (.int 4)))) (sRet (eTup (aCons (eV 2) (aCons (eC (.str "next")) (aCons (eFn 3 m_law_move (aCons (eMeth tb_word "word" 0 (eV 3) aNil) (aCons (eOp dAdd (eUn (dXf cs_rod "rod") (eV 3)) (eC (.int 1))) (aCons (eUn (dXf cs_beads "beads") (eV 3)) (aNil))))) (aNil)))))) (sNx)) <|
    sRet (eTup (aCons (eV 2) (aCons (eC (.str "left")) (aCons (eC .non) (aNil)))))
def m_law_slip : List D → R D := mk 5 b_law_slip
def b_leads_to : DL.Env → Out :=
    sSeq (sTryO (subG "Stuck") (sSet (gNm 4) (eFn 3 m_done_all (aCons (eV 0) (aCons (eV 1) (aCons (eV 2) (aNil)))))) (sRet (eC (.bl false)))) <|
    sRet (eOp dEq (eV 4) (eV 3))
def m_leads_to : List D → R D := mk 5 b_leads_to
abbrev b_Hand_turn_to := FH.b_Hand_turn_to
abbrev m_Hand_turn_to : OB → List D → R OB := FH.m_Hand_turn_to
def h_slips_of2 : Tg :=
    gNm 6
def g_slips_of2 : DL.Env → Out :=
    sWp [6] (sIf (eTru (eFn 4 m_leads_to (aCons (eV 0) (aCons (eV 1) (aCons (eFn 2 m_with_slip (aCons (eV 2) (aCons (eV 6) (aNil)))) (aCons (eV 3) (aNil))))))) (sApp 4 (eV 6)) (sNx))
def h_slips_of1 : Tg :=
    gNm 5
def g_slips_of1 : DL.Env → Out :=
    sWp [5, 6] (sFor (iOf (eFn 3 m_slips_at (aCons (eV 0) (aCons (eV 2) (aCons (eV 5) (aNil)))))) h_slips_of2 g_slips_of2)
def b_slips_of : DL.Env → Out :=
    sSeq (sSetO 4 (oLst (aNil))) <|
    sSeq (sFor (iCall iRange1 (aCons (eCall dLen (aCons (eV 2) (aNil))) (aNil))) h_slips_of1 g_slips_of1) <|
    sRetS 4
def mo_slips_of : List D → R (List D) := mkO 7 b_slips_of
def m_slips_of : List D → R D := fun ds => (mo_slips_of ds).bind fun r => .ok (.lst r)
abbrev b_Hand_make := FH.b_Hand_make
abbrev m_Hand_make : OB → List D → R OB := FH.m_Hand_make
abbrev b_tidy_hand := FH.b_tidy_hand
abbrev m_tidy_hand : List D → R OB := FH.m_tidy_hand
abbrev tb_stands : List (Str × (List D → R D)) := FH.tb_stands
abbrev b_Hand_give := FH.b_Hand_give
abbrev mr_Hand_give : Nat → OB → List D → R OB := FH.mr_Hand_give
abbrev m_Hand_give : OB → List D → R OB := FH.m_Hand_give
abbrev b_adding_row : DL.Env → Out := FH.b_adding_row
abbrev mo_adding_row : List D → R (List D) := FH.mo_adding_row
abbrev m_adding_row : List D → R D := FH.m_adding_row
def h_law_row1 : Tg :=
    gNm 4
def g_law_row1 : DL.Env → Out :=
    sWp [4, 5] (sSeq (sSet (gNm 5) (eFrz (oLst (aNil)))) <|
    sSeq (sTryO (subG "FrameError") (sFrz 2 (sSet (gNm 5) (eFn 3 m_adding_row (aCons (eV 1) (aCons (eV 2) (aCons (eOp dMod (eOp dMod (eV 4) (eOp dPow (eC (.int 10)) (eC (.int 9)))) (eOp dIx (eFrz (oLst (aCons (eC (.int 30)) (aCons (eOp dPow (eC (.int 10)) (eC (.int 9))) (aNil))))) (eOp dMod (eV 4) (eC (.int 2))))) (aNil))))))) (sSet (gNm 5) (eFrz (oLst (aNil))))) <|
    sSeq (sSet (gNm 3) (eOp dAdd (eV 3) (eV 5))) <|
    sFrz 2 (sSet (gNm 2) (eFn 3 m_law_pushed (aCons (eV 1) (aCons (eV 2) (aCons (eV 5) (aNil)))))))
def le_law_row2 : DL.Env → R D :=
    eTup (aCons (eC (.int 0)) (aCons (eC (.int 0)) (aNil)))
def b_law_row : DL.Env → Out :=
    sSeq (sSetO 2 (oLc [6] (iOf (eV 1)) (gNm 6) (bYes) (le_law_row2))) <|
    sSeq (sSet (gNm 3) (eFrz (oLst (aNil)))) <|
    sSeq (sFor (iOf (eSl (eV 0) (pSo (eC (.int 16))) (pSo (eC (.int 24))))) h_law_row1 g_law_row1) <|
    sRet (eSl (eV 3) (pNo) (pSo (eC (.int 40))))
def m_law_row : List D → R D := mk 7 b_law_row
def h_law2 : Tg :=
    gNm 10
def g_law2 : DL.Env → Out :=
    sWp [10, 11] (sSeq (sSetO 11 (oFn 2 mo_with_slip (aCons (eV 2) (aCons (eV 10) (aNil))))) <|
    sSeq (sIf (bOr (bNot (eTru (eBor 11 (eCall dIsi (aCons (eV 11) (aCons (eC (.ty "list")) (aNil))))))) (bBor 11 (eB (eOp dNe (eFn 1 m_law_words (aCons (eV 11) (aNil))) (eFn 1 m_law_words (aCons (eFn 2 m_law_with (aCons (eV 2) (aCons (eV 10) (aNil)))) (aNil))))))) (sRet (eC (.bl false))) (sNx)) <|
    sSeq (sFrz 3 (sIf (bBor 11 (eB (eOp dNe (eFn 3 m_law_pushed (aCons (eV 1) (aCons (eV 3) (aCons (eV 11) (aNil))))) (eV 6)))) (sRet (eC (.bl false))) (sNx))) <|
    sApp 11 (eC .non))
def le_law3 : DL.Env → R D :=
    eSl (eV 10) (pNo) (pSo (eC (.int 2)))
def le_law4 : DL.Env → R D :=
    eFn 1 m_law_told (aCons (eV 10) (aNil))
def h_law1 : Tg :=
    gNm 4
def g_law1 : DL.Env → Out :=
    sWp [4, 5, 6, 7, 8, 9, 10, 11] (sSeq (sSet (gNm 5) (eFn 2 m_law_slip (aCons (eV 2) (aCons (eOp dMod (eV 4) (eOp dPow (eC (.int 10)) (eC (.int 40)))) (aNil))))) <|
    sSeq (sFrz 3 (sSet (gNm 6) (eFn 3 m_law_pushed (aCons (eV 1) (aCons (eV 3) (aCons (eFn 2 m_law_with (aCons (eV 2) (aCons (eV 5) (aNil)))) (aNil))))))) <|
    sIf (eB (eOp dIsNot (eV 6) (eC .non))) (sSeq (sFrz 3 (sSet (gNm 7) (eFn 4 m_slips_of (aCons (eV 1) (aCons (eV 3) (aCons (eFrz (oCall oList (aCons (eV 2) (aNil)))) (aCons (eV 6) (aNil)))))))) <|
    sSeq (sSetO 8 (oLc [10] (iOf (eV 7)) (gNm 10) (bYes) (le_law4))) <|
    sSeq (sFrz 8 (sSetO 9 (oLc [10] (iOf (eV 8)) (gNm 10) (bYes) (le_law3)))) <|
    sSeq (sFrz 9 (sIf (bOr (eB (eOp dNe (eMB dCntD (eV 8) (eFn 1 m_law_told (aCons (eV 5) (aNil)))) (eC (.int 1)))) (eB (eOp dNe (eV 9) (eFrz (oSetS (eV 9)))))) (sRet (eC (.bl false))) (sNx))) <|
    sFrz 3 (sFgt [10] (sFor (iOf (eV 7)) h_law2 g_law2))) (sNx))
def le_law5 : DL.Env → R D :=
    eTup (aCons (eC (.int 0)) (aCons (eC (.int 0)) (aNil)))
def le_law6 : DL.Env → R D :=
    eTup (aCons (eC (.int 0)) (aCons (eC (.int 0)) (aNil)))
def le_law7 : DL.Env → R D :=
    eTup (aCons (eC (.int 0)) (aCons (eC (.int 0)) (aNil)))
def b_law : DL.Env → Out :=
    sSeq (sSet (gNm 1) (eFn 3 m_law_frame (aCons (eV 0) (aCons (eC (.int 0)) (aCons (eC (.int 8)) (aNil)))))) <|
    sSeq (sSet (gNm 2) (eFn 2 m_law_row (aCons (eV 0) (aCons (eV 1) (aNil))))) <|
    sSeq (sIf (eB (eOp dEqN (eV 2) (eFrz (oLst (aNil))))) (sRet (eOp dEqN (eFn 4 m_slips_of (aCons (eV 1) (aCons (eFrz (oLc [12] (iOf (eV 1)) (gNm 12) (bYes) (le_law7))) (aCons (eFrz (oLst (aNil))) (aCons (eFrz (oLc [12] (iOf (eV 1)) (gNm 12) (bYes) (le_law6))) (aNil)))))) (eFrz (oLst (aNil))))) (sNx)) <|
    sSeq (sSetO 3 (oLc [12] (iOf (eV 1)) (gNm 12) (bYes) (le_law5))) <|
    sSeq (sFrz 3 (sFor (iOf (eOp dAdd (eFrz (oLst (aCons (eFn 2 m_law_cell (aCons (eV 0) (aCons (eC (.int 15)) (aNil)))) (aNil)))) (eSl (eV 0) (pSo (eC (.int 24))) (pSo (eC (.int 26)))))) h_law1 g_law1)) <|
    sRet (eC (.bl true))
def m_law : List D → R D := mk 13 b_law
end K82
namespace K82
open PySem DL L2 LA FA FB FC FD FM FR FH
open LB (Fits bnz_tdl)
def outP (f : List Lay) (b0 c0 : Option Slot) : Option (List (Int × Int)) → Out
  | some t => .nx [some (.val (.lst (f.map Lay.d))), b0, c0, some (.own (t.map pairD)), none, none, none, none]
  | none => .rt .non
theorem pr_neE {p q : Int × Int} (h : p ≠ q) : dEq (pairD p) (pairD q) = .ok (.bl false) := dEq_ne rfl rfl (by
  intro e
  simp only [pairD, D.tup.injEq, D.int.injEq, List.cons.injEq, and_true] at e
  exact h (Prod.ext e.1 e.2))
theorem w_ud : ¬ ("down" : Str) = "up" := by decide +kernel
theorem w_up : ¬ ("put" : Str) = "up" := by decide +kernel
theorem w_pd : ¬ ("put" : Str) = "down" := by decide +kernel
theorem w_ut : ¬ ("take" : Str) = "up" := by decide +kernel
theorem w_dt : ¬ ("take" : Str) = "down" := by decide +kernel
theorem w_pt : ¬ ("take" : Str) = "put" := by decide +kernel
theorem mcr : MvCs cs_rod := by unfold MvCs; decide +kernel
theorem mcb : MvCs cs_beads := by unfold MvCs; decide +kernel
theorem push_turn {f : List Lay} {b0 c0 : Option Slot} {s u : List (Int × Int)} {m : Mv} (hm : Cw m.1) (h0 : 0 ≤ m.2.1) (h1 : 1 ≤ m.2.2) (hs : s.length = f.length) (e : stp f s m = some u) :
    turn h_law_pushed1 g_law_pushed1 (mvO m) [some (.val (.lst (f.map Lay.d))), b0, c0, some (.own (s.map pairD)), none, none, none, none] = .nx [some (.val (.lst (f.map Lay.d))), b0, c0, some (.own (u.map pairD)), none, none, none, none] := by
  have er := rod_in mcr hm
  have eb := beads_in mcb hm
  have ew := FW.word_of hm
  unfold stp at e
  by_cases c : m.2.1 < (f.length : Nat) ∧ fitP (lat f m.2.1.toNat) (rch m (atS s m.2.1.toNat))
  · rw [if_pos c] at e
    cases e
    obtain ⟨c1, c2⟩ := c
    obtain ⟨⟨c, w⟩, r, b⟩ := m
    dsimp only at *
    obtain ⟨n, rfl⟩ : ∃ n : Nat, r = (n : Nat) := ⟨r.toNat, by omega⟩
    rw [Int.toNat_natCast] at *
    have hn : n < f.length := by omega
    have fx : dIx (.lst (f.map Lay.d)) (.int (n : Nat)) = .ok (lat f n).d := dIx_n (by rw [List.getElem?_map, lat_get hn]; rfl)
    have sx := atS_ix (s := s) (i := n) (by omega)
    have ix : ixN s.length ((n : Nat) : Int) = some n := ixN_n (by omega)
    have em : ∀ x y : Int, (s.map pairD).set n (.tup [.int x, .int y]) = (s.set n (x, y)).map pairD := fun x y => by rw [List.map_set]; rfl
    have wn := LB.law_whole_i ((n : Nat) : Int)
    have wb := LB.law_whole_i b
    generalize atS s n = p at *
    obtain ⟨p1, p2⟩ := p
    have k1 : ¬ ((n : Nat) : Int) < 0 := by omega
    have k2 : ¬ ((n : Nat) : Int) ≥ (f.length : Nat) := by omega
    have k3 : ¬ b < 1 := by omega
    rcases hm with h | h | h | h
    · obtain ⟨rfl, rfl⟩ := Prod.mk.inj h
      rw [rch_t] at c2 ⊢
      obtain ⟨q1, q2, q3, q4⟩ := c2
      dsimp only at q1 q2 q3 q4
      have ne := pr_neE (p := (p1 - b, p2)) (q := (p1, p2)) (fun z => by have := congrArg Prod.fst z; dsimp only at this; omega)
      have g1 : ¬ p1 - b < 0 := by omega
      have g2 : ¬ p2 < 0 := by omega
      have g3 : ¬ p1 - b > (lat f n).u := by omega
      have g4 : ¬ p2 > (lat f n).l := by omega
      simp only [pairD] at ne
      simp_arith [Lay.ix0, Lay.ix1, Lay.ix2, Lay.ix3, Lay.tp, pr_0, pr_1, pr_tp, pr_isi, pr_len, lay_isi, lay_len, h_law_pushed1, g_law_pushed1, er, eb, ew, wn, wb, k1, k2, k3, sx, w_ut, w_dt, w_pt, ne, fx, g1, g2, g3, g4, ix, em, pairD]
    · obtain ⟨rfl, rfl⟩ := Prod.mk.inj h
      rw [rch_d] at c2 ⊢
      obtain ⟨q1, q2, q3, q4⟩ := c2
      dsimp only at q1 q2 q3 q4
      have ne := pr_neE (p := (p1, p2 - b)) (q := (p1, p2)) (fun z => by have := congrArg Prod.snd z; dsimp only at this; omega)
      have g1 : ¬ p1 < 0 := by omega
      have g2 : ¬ p2 - b < 0 := by omega
      have g3 : ¬ p1 > (lat f n).u := by omega
      have g4 : ¬ p2 - b > (lat f n).l := by omega
      simp only [pairD] at ne
      simp_arith [Lay.ix0, Lay.ix1, Lay.ix2, Lay.ix3, Lay.tp, pr_0, pr_1, pr_tp, pr_isi, pr_len, lay_isi, lay_len, h_law_pushed1, g_law_pushed1, er, eb, ew, wn, wb, k1, k2, k3, sx, w_ud, ne, fx, g1, g2, g3, g4, ix, em, pairD]
    · obtain ⟨rfl, rfl⟩ := Prod.mk.inj h
      rw [rch_p] at c2 ⊢
      obtain ⟨q1, q2, q3, q4⟩ := c2
      dsimp only at q1 q2 q3 q4
      have ne := pr_neE (p := (p1 + b, p2)) (q := (p1, p2)) (fun z => by have := congrArg Prod.fst z; dsimp only at this; omega)
      have g1 : ¬ p1 + b < 0 := by omega
      have g2 : ¬ p2 < 0 := by omega
      have g3 : ¬ p1 + b > (lat f n).u := by omega
      have g4 : ¬ p2 > (lat f n).l := by omega
      simp only [pairD] at ne
      simp_arith [Lay.ix0, Lay.ix1, Lay.ix2, Lay.ix3, Lay.tp, pr_0, pr_1, pr_tp, pr_isi, pr_len, lay_isi, lay_len, h_law_pushed1, g_law_pushed1, er, eb, ew, wn, wb, k1, k2, k3, sx, w_up, w_pd, ne, fx, g1, g2, g3, g4, ix, em, pairD]
    · obtain ⟨rfl, rfl⟩ := Prod.mk.inj h
      rw [rch_u] at c2 ⊢
      obtain ⟨q1, q2, q3, q4⟩ := c2
      dsimp only at q1 q2 q3 q4
      have ne := pr_neE (p := (p1, p2 + b)) (q := (p1, p2)) (fun z => by have := congrArg Prod.snd z; dsimp only at this; omega)
      have g1 : ¬ p1 < 0 := by omega
      have g2 : ¬ p2 + b < 0 := by omega
      have g3 : ¬ p1 > (lat f n).u := by omega
      have g4 : ¬ p2 + b > (lat f n).l := by omega
      simp only [pairD] at ne
      simp_arith [Lay.ix0, Lay.ix1, Lay.ix2, Lay.ix3, Lay.tp, pr_0, pr_1, pr_tp, pr_isi, pr_len, lay_isi, lay_len, h_law_pushed1, g_law_pushed1, er, eb, ew, wn, wb, k1, k2, k3, sx, ne, fx, g1, g2, g3, g4, ix, em, pairD]
  · rw [if_neg c] at e
    cases e
theorem push_fail {f : List Lay} {b0 c0 : Option Slot} {s : List (Int × Int)} {m : Mv} (hm : Cw m.1) (h0 : 0 ≤ m.2.1) (h1 : 1 ≤ m.2.2) (hs : s.length = f.length) (e : stp f s m = none) :
    turn h_law_pushed1 g_law_pushed1 (mvO m) [some (.val (.lst (f.map Lay.d))), b0, c0, some (.own (s.map pairD)), none, none, none, none] = .rt .non := by
  have er := rod_in mcr hm
  have eb := beads_in mcb hm
  have ew := FW.word_of hm
  unfold stp at e
  have wr := LB.law_whole_i m.2.1
  by_cases c1 : m.2.1 < (f.length : Nat)
  · have c2 : ¬ fitP (lat f m.2.1.toNat) (rch m (atS s m.2.1.toNat)) := fun q => by rw [if_pos ⟨c1, q⟩] at e; cases e
    clear e wr
    obtain ⟨⟨c, w⟩, r, b⟩ := m
    dsimp only at *
    obtain ⟨n, rfl⟩ : ∃ n : Nat, r = (n : Nat) := ⟨r.toNat, by omega⟩
    rw [Int.toNat_natCast] at *
    have hn : n < f.length := by omega
    have fx : dIx (.lst (f.map Lay.d)) (.int (n : Nat)) = .ok (lat f n).d := dIx_n (by rw [List.getElem?_map, lat_get hn]; rfl)
    have sx := atS_ix (s := s) (i := n) (by omega)
    have wn := LB.law_whole_i ((n : Nat) : Int)
    have wb := LB.law_whole_i b
    generalize atS s n = p at *
    obtain ⟨p1, p2⟩ := p
    have k1 : ¬ ((n : Nat) : Int) < 0 := by omega
    have k2 : ¬ ((n : Nat) : Int) ≥ (f.length : Nat) := by omega
    have k3 : ¬ b < 1 := by omega
    rcases hm with h | h | h | h
    · obtain ⟨rfl, rfl⟩ := Prod.mk.inj h
      rw [rch_t] at c2
      have ne := pr_neE (p := (p1 - b, p2)) (q := (p1, p2)) (fun z => by have := congrArg Prod.fst z; dsimp only at this; omega)
      simp only [pairD] at ne
      by_cases g1 : p1 - b < 0
      · simp_arith [Lay.ix0, Lay.ix1, Lay.ix2, Lay.ix3, Lay.tp, pr_0, pr_1, pr_tp, pr_isi, pr_len, lay_isi, lay_len, h_law_pushed1, g_law_pushed1, er, eb, ew, wn, wb, k1, k2, k3, sx, w_ut, w_dt, w_pt, ne, fx, g1, pairD]
      · by_cases g2 : p2 < 0
        · simp_arith [Lay.ix0, Lay.ix1, Lay.ix2, Lay.ix3, Lay.tp, pr_0, pr_1, pr_tp, pr_isi, pr_len, lay_isi, lay_len, h_law_pushed1, g_law_pushed1, er, eb, ew, wn, wb, k1, k2, k3, sx, w_ut, w_dt, w_pt, ne, fx, g1, g2, pairD]
        · by_cases g3 : p1 - b > (lat f n).u
          · simp_arith [Lay.ix0, Lay.ix1, Lay.ix2, Lay.ix3, Lay.tp, pr_0, pr_1, pr_tp, pr_isi, pr_len, lay_isi, lay_len, h_law_pushed1, g_law_pushed1, er, eb, ew, wn, wb, k1, k2, k3, sx, w_ut, w_dt, w_pt, ne, fx, g1, g2, g3, pairD]
          · by_cases g4 : p2 > (lat f n).l
            · simp_arith [Lay.ix0, Lay.ix1, Lay.ix2, Lay.ix3, Lay.tp, pr_0, pr_1, pr_tp, pr_isi, pr_len, lay_isi, lay_len, h_law_pushed1, g_law_pushed1, er, eb, ew, wn, wb, k1, k2, k3, sx, w_ut, w_dt, w_pt, ne, fx, g1, g2, g3, g4, pairD]
            · exact absurd ⟨by dsimp only; omega, by dsimp only; omega, by dsimp only; omega, by dsimp only; omega⟩ c2
    · obtain ⟨rfl, rfl⟩ := Prod.mk.inj h
      rw [rch_d] at c2
      have ne := pr_neE (p := (p1, p2 - b)) (q := (p1, p2)) (fun z => by have := congrArg Prod.snd z; dsimp only at this; omega)
      simp only [pairD] at ne
      by_cases g1 : p1 < 0
      · simp_arith [Lay.ix0, Lay.ix1, Lay.ix2, Lay.ix3, Lay.tp, pr_0, pr_1, pr_tp, pr_isi, pr_len, lay_isi, lay_len, h_law_pushed1, g_law_pushed1, er, eb, ew, wn, wb, k1, k2, k3, sx, w_ud, ne, fx, g1, pairD]
      · by_cases g2 : p2 - b < 0
        · simp_arith [Lay.ix0, Lay.ix1, Lay.ix2, Lay.ix3, Lay.tp, pr_0, pr_1, pr_tp, pr_isi, pr_len, lay_isi, lay_len, h_law_pushed1, g_law_pushed1, er, eb, ew, wn, wb, k1, k2, k3, sx, w_ud, ne, fx, g1, g2, pairD]
        · by_cases g3 : p1 > (lat f n).u
          · simp_arith [Lay.ix0, Lay.ix1, Lay.ix2, Lay.ix3, Lay.tp, pr_0, pr_1, pr_tp, pr_isi, pr_len, lay_isi, lay_len, h_law_pushed1, g_law_pushed1, er, eb, ew, wn, wb, k1, k2, k3, sx, w_ud, ne, fx, g1, g2, g3, pairD]
          · by_cases g4 : p2 - b > (lat f n).l
            · simp_arith [Lay.ix0, Lay.ix1, Lay.ix2, Lay.ix3, Lay.tp, pr_0, pr_1, pr_tp, pr_isi, pr_len, lay_isi, lay_len, h_law_pushed1, g_law_pushed1, er, eb, ew, wn, wb, k1, k2, k3, sx, w_ud, ne, fx, g1, g2, g3, g4, pairD]
            · exact absurd ⟨by dsimp only; omega, by dsimp only; omega, by dsimp only; omega, by dsimp only; omega⟩ c2
    · obtain ⟨rfl, rfl⟩ := Prod.mk.inj h
      rw [rch_p] at c2
      have ne := pr_neE (p := (p1 + b, p2)) (q := (p1, p2)) (fun z => by have := congrArg Prod.fst z; dsimp only at this; omega)
      simp only [pairD] at ne
      by_cases g1 : p1 + b < 0
      · simp_arith [Lay.ix0, Lay.ix1, Lay.ix2, Lay.ix3, Lay.tp, pr_0, pr_1, pr_tp, pr_isi, pr_len, lay_isi, lay_len, h_law_pushed1, g_law_pushed1, er, eb, ew, wn, wb, k1, k2, k3, sx, w_up, w_pd, ne, fx, g1, pairD]
      · by_cases g2 : p2 < 0
        · simp_arith [Lay.ix0, Lay.ix1, Lay.ix2, Lay.ix3, Lay.tp, pr_0, pr_1, pr_tp, pr_isi, pr_len, lay_isi, lay_len, h_law_pushed1, g_law_pushed1, er, eb, ew, wn, wb, k1, k2, k3, sx, w_up, w_pd, ne, fx, g1, g2, pairD]
        · by_cases g3 : p1 + b > (lat f n).u
          · simp_arith [Lay.ix0, Lay.ix1, Lay.ix2, Lay.ix3, Lay.tp, pr_0, pr_1, pr_tp, pr_isi, pr_len, lay_isi, lay_len, h_law_pushed1, g_law_pushed1, er, eb, ew, wn, wb, k1, k2, k3, sx, w_up, w_pd, ne, fx, g1, g2, g3, pairD]
          · by_cases g4 : p2 > (lat f n).l
            · simp_arith [Lay.ix0, Lay.ix1, Lay.ix2, Lay.ix3, Lay.tp, pr_0, pr_1, pr_tp, pr_isi, pr_len, lay_isi, lay_len, h_law_pushed1, g_law_pushed1, er, eb, ew, wn, wb, k1, k2, k3, sx, w_up, w_pd, ne, fx, g1, g2, g3, g4, pairD]
            · exact absurd ⟨by dsimp only; omega, by dsimp only; omega, by dsimp only; omega, by dsimp only; omega⟩ c2
    · obtain ⟨rfl, rfl⟩ := Prod.mk.inj h
      rw [rch_u] at c2
      have ne := pr_neE (p := (p1, p2 + b)) (q := (p1, p2)) (fun z => by have := congrArg Prod.snd z; dsimp only at this; omega)
      simp only [pairD] at ne
      by_cases g1 : p1 < 0
      · simp_arith [Lay.ix0, Lay.ix1, Lay.ix2, Lay.ix3, Lay.tp, pr_0, pr_1, pr_tp, pr_isi, pr_len, lay_isi, lay_len, h_law_pushed1, g_law_pushed1, er, eb, ew, wn, wb, k1, k2, k3, sx, ne, fx, g1, pairD]
      · by_cases g2 : p2 + b < 0
        · simp_arith [Lay.ix0, Lay.ix1, Lay.ix2, Lay.ix3, Lay.tp, pr_0, pr_1, pr_tp, pr_isi, pr_len, lay_isi, lay_len, h_law_pushed1, g_law_pushed1, er, eb, ew, wn, wb, k1, k2, k3, sx, ne, fx, g1, g2, pairD]
        · by_cases g3 : p1 > (lat f n).u
          · simp_arith [Lay.ix0, Lay.ix1, Lay.ix2, Lay.ix3, Lay.tp, pr_0, pr_1, pr_tp, pr_isi, pr_len, lay_isi, lay_len, h_law_pushed1, g_law_pushed1, er, eb, ew, wn, wb, k1, k2, k3, sx, ne, fx, g1, g2, g3, pairD]
          · by_cases g4 : p2 + b > (lat f n).l
            · simp_arith [Lay.ix0, Lay.ix1, Lay.ix2, Lay.ix3, Lay.tp, pr_0, pr_1, pr_tp, pr_isi, pr_len, lay_isi, lay_len, h_law_pushed1, g_law_pushed1, er, eb, ew, wn, wb, k1, k2, k3, sx, ne, fx, g1, g2, g3, g4, pairD]
            · exact absurd ⟨by dsimp only; omega, by dsimp only; omega, by dsimp only; omega, by dsimp only; omega⟩ c2
  · have k1 : ¬ m.2.1 < 0 := by omega
    have k2 : m.2.1 ≥ (f.length : Nat) := by omega
    simp_arith [Lay.ix0, Lay.ix1, Lay.ix2, Lay.ix3, Lay.tp, pr_0, pr_1, pr_tp, pr_isi, pr_len, lay_isi, lay_len, h_law_pushed1, g_law_pushed1, er, wr, k1, k2]
theorem push_loop {f : List Lay} {b0 c0 : Option Slot} : ∀ (W : List Mv) (s : List (Int × Int)), Good W → (∀ m ∈ W, 1 ≤ m.2.2) → s.length = f.length →
    loopF h_law_pushed1 g_law_pushed1 (W.map mvO) [some (.val (.lst (f.map Lay.d))), b0, c0, some (.own (s.map pairD)), none, none, none, none] = outP f b0 c0 (FR.run f s W)
  | [], s, _, _, _ => rfl
  | m :: W, s, hg, hp, hs => by
    obtain ⟨hm, h0⟩ := hg m List.mem_cons_self
    unfold FR.run
    cases e : stp f s m with
    | none =>
      rw [List.map_cons, loopF_turn, push_fail hm h0 (hp m List.mem_cons_self) hs e]
      rfl
    | some u =>
      rw [List.map_cons, loopF_turn, push_turn hm h0 (hp m List.mem_cons_self) hs e]
      exact push_loop W u (fun x hx => hg x (List.mem_cons_of_mem _ hx)) (fun x hx => hp x (List.mem_cons_of_mem _ hx)) (by rw [stp_len e, hs])
def encR : Option (List (Int × Int)) → DL.D
  | some t => .lst (t.map pairD)
  | none => .non
theorem law_pushed {f : List Lay} {s : List (Int × Int)} {W : List Mv} (hs : s.length = f.length) (hg : Good W) (hp : ∀ m ∈ W, 1 ≤ m.2.2) : m_law_pushed [.lst (f.map Lay.d), .lst (s.map pairD), .lst (W.map mvO)] = .ok (encR (FR.run f s W)) := by
  have l1 := push_loop (b0 := some (.val (.lst (s.map pairD)))) (c0 := some (.val (.lst (W.map mvO)))) W s hg hp hs
  unfold m_law_pushed b_law_pushed
  cases e : FR.run f s W with
  | none =>
    rw [e] at l1
    replace l1 : loopF h_law_pushed1 g_law_pushed1 (W.map mvO) [some (.val (.lst (f.map Lay.d))), some (.val (.lst (s.map pairD))), some (.val (.lst (W.map mvO))), some (.own (s.map pairD)), none, none, none, none] = .rt .non := l1
    simp_arith [Lay.ix0, Lay.ix1, Lay.ix2, Lay.ix3, Lay.tp, pr_0, pr_1, pr_tp, pr_isi, pr_len, lay_isi, lay_len, l1, encR]
  | some t =>
    rw [e] at l1
    replace l1 : loopF h_law_pushed1 g_law_pushed1 (W.map mvO) [some (.val (.lst (f.map Lay.d))), some (.val (.lst (s.map pairD))), some (.val (.lst (W.map mvO))), some (.own (s.map pairD)), none, none, none, none] = .nx [some (.val (.lst (f.map Lay.d))), some (.val (.lst (s.map pairD))), some (.val (.lst (W.map mvO))), some (.own (t.map pairD)), none, none, none, none] := l1
    simp_arith [Lay.ix0, Lay.ix1, Lay.ix2, Lay.ix3, Lay.tp, pr_0, pr_1, pr_tp, pr_isi, pr_len, lay_isi, lay_len, l1, encR]
theorem like {m : Mv} (hm : Cw m.1) (r b : Int) : m_like [mvO m, .int r, .int b] = .ok (mvO (m.1, r, b)) := by
  obtain ⟨c, r0, b0⟩ := m
  rcases hm with h | h | h | h <;> (simp only at h; subst h)
  · have i1 : dIsX cs tb [mvO (cT, r0, b0), .cls "Up"] = .ok (.bl false) := by kernel_rfl
    have i2 : dIsX cs tb [mvO (cT, r0, b0), .cls "Down"] = .ok (.bl false) := by kernel_rfl
    have i3 : dIsX cs tb [mvO (cT, r0, b0), .cls "Put"] = .ok (.bl false) := by kernel_rfl
    unfold m_like b_like
    simp_arith [Lay.ix0, Lay.ix1, Lay.ix2, Lay.ix3, Lay.tp, pr_0, pr_1, pr_tp, pr_isi, pr_len, lay_isi, lay_len, i1, i2, i3]
    rfl
  · have i1 : dIsX cs tb [mvO (cD, r0, b0), .cls "Up"] = .ok (.bl false) := by kernel_rfl
    have i2 : dIsX cs tb [mvO (cD, r0, b0), .cls "Down"] = .ok (.bl true) := by kernel_rfl
    unfold m_like b_like
    simp_arith [Lay.ix0, Lay.ix1, Lay.ix2, Lay.ix3, Lay.tp, pr_0, pr_1, pr_tp, pr_isi, pr_len, lay_isi, lay_len, i1, i2]
    rfl
  · have i1 : dIsX cs tb [mvO (cP, r0, b0), .cls "Up"] = .ok (.bl false) := by kernel_rfl
    have i2 : dIsX cs tb [mvO (cP, r0, b0), .cls "Down"] = .ok (.bl false) := by kernel_rfl
    have i3 : dIsX cs tb [mvO (cP, r0, b0), .cls "Put"] = .ok (.bl true) := by kernel_rfl
    unfold m_like b_like
    simp_arith [Lay.ix0, Lay.ix1, Lay.ix2, Lay.ix3, Lay.tp, pr_0, pr_1, pr_tp, pr_isi, pr_len, lay_isi, lay_len, i1, i2, i3]
    rfl
  · have i1 : dIsX cs tb [mvO (cU, r0, b0), .cls "Up"] = .ok (.bl true) := by kernel_rfl
    unfold m_like b_like
    simp_arith [Lay.ix0, Lay.ix1, Lay.ix2, Lay.ix3, Lay.tp, pr_0, pr_1, pr_tp, pr_isi, pr_len, lay_isi, lay_len, i1]
    rfl
abbrev Sl := Nat × Str × Option Mv
def encM : Option Mv → DL.D
  | some m => mvO m
  | none => .non
def encSl (s : Sl) : DL.D := .tup [.int (s.1 : Nat), .str s.2.1, encM s.2.2]
def slL (n i : Nat) (m : Mv) : List Sl :=
  (if 1 < m.2.2 then [(i, ("fewer" : Str), some (m.1, m.2.1, m.2.2 - 1))] else []) ++ ((if 0 < m.2.1 then [(i, ("last" : Str), some (m.1, m.2.1 - 1, m.2.2))] else []) ++
    ([(i, ("left" : Str), none), (i, ("more" : Str), some (m.1, m.2.1, m.2.2 + 1))] ++ (if m.2.1 + 1 < (n : Nat) then [(i, ("next" : Str), some (m.1, m.2.1 + 1, m.2.2))] else [])))
theorem mor : MvCs cs_o_rod := by unfold MvCs; decide +kernel
theorem mob : MvCs cs_o_beads := by unfold MvCs; decide +kernel
theorem slips_at {ds : List DL.D} {r : List Mv} {i : Nat} {m : Mv} (hi : r[i]? = some m) (hm : Cw m.1) : m_slips_at [.lst ds, .lst (r.map mvO), .int (i : Nat)] = .ok (.lst ((slL ds.length i m).map encSl)) := by
  have ix : dIx (.lst (r.map mvO)) (.int (i : Nat)) = .ok (mvO m) := dIx_n (by rw [List.getElem?_map, hi]; rfl)
  have er := rod_in mor hm
  have eb := beads_in mob hm
  have l1 := like hm m.2.1 (m.2.2 - 1)
  have l2 := like hm (m.2.1 - 1) m.2.2
  have l3 := like hm m.2.1 (m.2.2 + 1)
  have l4 := like hm (m.2.1 + 1) m.2.2
  show (mo_slips_at _).bind _ = _
  unfold mo_slips_at b_slips_at slL
  by_cases c1 : 1 < m.2.2 <;> by_cases c2 : 0 < m.2.1 <;> by_cases c3 : m.2.1 + 1 < ((ds.length : Nat) : Int) <;> (simp_arith [Lay.ix0, Lay.ix1, Lay.ix2, Lay.ix3, Lay.tp, pr_0, pr_1, pr_tp, pr_isi, pr_len, lay_isi, lay_len, ix, er, eb, l1, l2, l3, l4, c1, c2, c3]; rfl)
def wth (r : List Mv) (s : Sl) : List Mv := r.take s.1 ++ (s.2.2.toList ++ r.drop (s.1 + 1))
theorem cutA (r : List Mv) (i : Nat) : sl1 (.lst (r.map mvO)) none (some ((i : Nat) : Int)) = .ok (.lst ((r.take i).map mvO)) := by
  show R.ok (DL.D.lst (cutL (r.map mvO) none (some ((i : Nat) : Int)))) = _
  rw [cutL_take (by omega), List.map_take]
  rfl
theorem cutB (r : List Mv) (i : Nat) : sl1 (.lst (r.map mvO)) (some (((i : Nat) : Int) + 1)) none = .ok (.lst ((r.drop (i + 1)).map mvO)) := by
  show R.ok (DL.D.lst (cutL (r.map mvO) (some (((i : Nat) : Int) + 1)) none)) = _
  rw [cutL_drop (by omega), List.map_drop]
  congr 3
theorem add_mv {a b : List Mv} (ha : a.length ≤ 10000) (hb : b.length ≤ 10000) : dAdd (.lst (a.map mvO)) (.lst (b.map mvO)) = .ok (.lst ((a ++ b).map mvO)) := by
  rw [dAdd_l (by rw [List.length_map, List.length_map]; omega), List.map_append]
theorem add_mvO {a b : List Mv} (ha : a.length ≤ 10000) (hb : b.length ≤ 10000) : oAdd (.lst (a.map mvO)) (.lst (b.map mvO)) = .ok ((a ++ b).map mvO) := by
  rw [List.map_append]
  exact oAdd_l (by rw [List.length_map, List.length_map]; omega)
theorem with_slipO {r : List Mv} (hr : r.length ≤ 1000) (s : Sl) : mo_with_slip [.lst (r.map mvO), encSl s] = .ok ((wth r s).map mvO) := by
  obtain ⟨i, w, o⟩ := s
  have a1 := cutA r i
  have a2 := cutB r i
  have t1 : (r.take i).length ≤ 1000 := by rw [List.length_take]; omega
  have t2 : (r.drop (i + 1)).length ≤ 1000 := by rw [List.length_drop]; omega
  have b1 := add_mvO (a := r.take i) (b := r.drop (i + 1)) (by omega) (by omega)
  unfold mo_with_slip b_with_slip encSl wth
  dsimp only
  cases o with
  | none =>
    simp_arith [Lay.ix0, Lay.ix1, Lay.ix2, Lay.ix3, Lay.tp, pr_0, pr_1, pr_tp, pr_isi, pr_len, lay_isi, lay_len, encM, a1, a2, b1]
    rfl
  | some m =>
    have b2 := add_mv (a := r.take i) (b := [m]) (by omega) (by show 1 ≤ _; decide)
    have b3 := add_mvO (a := r.take i ++ [m]) (b := r.drop (i + 1)) (by rw [List.length_append]; show _ + 1 ≤ _; omega) (by omega)
    replace b2 : dAdd (.lst ((r.take i).map mvO)) (.lst [mvO m]) = .ok (.lst ((r.take i ++ [m]).map mvO)) := b2
    obtain ⟨c, ks, ds, eo⟩ : ∃ c ks ds, mvO m = .obj c ks ds := ⟨_, _, _, rfl⟩
    have em : encM (some m) = .obj c ks ds := eo
    rw [eo] at b2
    simp_arith [Lay.ix0, Lay.ix1, Lay.ix2, Lay.ix3, Lay.tp, pr_0, pr_1, pr_tp, pr_isi, pr_len, lay_isi, lay_len, em, a1, a2, b2, b3]
    rw [List.append_assoc]
    rfl
theorem with_slip {r : List Mv} (hr : r.length ≤ 1000) (s : Sl) : m_with_slip [.lst (r.map mvO), encSl s] = .ok (.lst ((wth r s).map mvO)) := by
  show R.bind (mo_with_slip _) _ = _
  rw [with_slipO hr s]
  rfl
theorem law_with {r : List Mv} (hr : r.length ≤ 1000) (s : Sl) : m_law_with [.lst (r.map mvO), encSl s] = .ok (.lst ((wth r s).map mvO)) := by
  obtain ⟨i, w, o⟩ := s
  have a1 := cutA r i
  have a2 := cutB r i
  have t1 : (r.take i).length ≤ 1000 := by rw [List.length_take]; omega
  have t2 : (r.drop (i + 1)).length ≤ 1000 := by rw [List.length_drop]; omega
  have b1 := add_mv (a := r.take i) (b := r.drop (i + 1)) (by omega) (by omega)
  unfold m_law_with b_law_with encSl wth
  dsimp only
  cases o with
  | none =>
    simp_arith [Lay.ix0, Lay.ix1, Lay.ix2, Lay.ix3, Lay.tp, pr_0, pr_1, pr_tp, pr_isi, pr_len, lay_isi, lay_len, encM, a1, a2, b1]
    rfl
  | some m =>
    have b2 := add_mv (a := r.take i) (b := [m]) (by omega) (by show 1 ≤ _; decide)
    have b3 := add_mv (a := r.take i ++ [m]) (b := r.drop (i + 1)) (by rw [List.length_append]; show _ + 1 ≤ _; omega) (by omega)
    replace b2 : dAdd (.lst ((r.take i).map mvO)) (.lst [mvO m]) = .ok (.lst ((r.take i ++ [m]).map mvO)) := b2
    obtain ⟨c, ks, ds, eo⟩ : ∃ c ks ds, mvO m = .obj c ks ds := ⟨_, _, _, rfl⟩
    have em : encM (some m) = .obj c ks ds := eo
    rw [eo] at b2
    simp_arith [Lay.ix0, Lay.ix1, Lay.ix2, Lay.ix3, Lay.tp, pr_0, pr_1, pr_tp, pr_isi, pr_len, lay_isi, lay_len, em, a1, a2, b2, b3]
    rw [List.append_assoc]
    rfl
theorem kd_pairs (s : List (Int × Int)) : (DL.D.lst (s.map pairD)).kd 60 = true := by
  show (s.map pairD).all (D.kd 59) = true
  rw [List.all_map, List.all_eq_true]
  exact fun _ _ => rfl
theorem pairs_inj {s t : List (Int × Int)} (h : s.map pairD = t.map pairD) : s = t := by
  refine (List.map_inj_right ?_).mp h
  intro a b e
  simp only [pairD, D.tup.injEq, D.int.injEq, List.cons.injEq, and_true] at e
  exact Prod.ext e.1 e.2
theorem eq_pairs (s t : List (Int × Int)) : dEq (.lst (s.map pairD)) (.lst (t.map pairD)) = .ok (.bl (decide (s = t))) := by
  by_cases e : s = t
  · subst e
    rw [decide_eq_true rfl]
    exact prs_same s
  · rw [decide_eq_false e]
    exact dEq_ne (kd_pairs s) (kd_pairs t) fun z => e (pairs_inj (DL.D.lst.inj z))
def lead (f : List Lay) (s g : List (Int × Int)) (r : List Mv) : Bool := decide (FR.run f s r = some g)
theorem leads_to {f : List Lay} (hl : f.length ≤ 1000) {s g : List (Int × Int)} (hs : s.length = f.length) {r : List Mv} (hr : Good r) : m_leads_to [.lst (f.map Lay.d), .lst (s.map pairD), .lst (r.map mvO), .lst (g.map pairD)] = .ok (.bl (lead f s g r)) := by
  have da := done_all hl hs hr
  have s1 : subG "Stuck" "Stuck" = some true := by kernel_rfl
  unfold lead
  unfold m_leads_to b_leads_to
  cases e : FR.run f s r with
  | none =>
    rw [e] at da
    rw [decide_eq_false (fun z => by cases z)]
    unfold stuckD at da
    simp_arith [Lay.ix0, Lay.ix1, Lay.ix2, Lay.ix3, Lay.tp, pr_0, pr_1, pr_tp, pr_isi, pr_len, lay_isi, lay_len, da, sTryO, s1, Out.noX]
  | some t =>
    rw [e] at da
    have eq := eq_pairs t g
    have dd : decide (some t = some g) = decide (t = g) := by
      rw [decide_eq_decide]
      exact ⟨fun z => Option.some.inj z, fun z => by rw [z]⟩
    rw [dd]
    simp_arith [Lay.ix0, Lay.ix1, Lay.ix2, Lay.ix3, Lay.tp, pr_0, pr_1, pr_tp, pr_isi, pr_len, lay_isi, lay_len, da, sTryO, eq]
def Gb (r : List Mv) : Prop := ∀ m ∈ r, Cw m.1 ∧ 0 ≤ m.2.1 ∧ 1 ≤ m.2.2
theorem Gb.good {r : List Mv} (h : Gb r) : Good r := fun m hm => ⟨(h m hm).1, (h m hm).2.1⟩
def Sok (s : Sl) : Prop := ∀ m, s.2.2 = some m → Cw m.1 ∧ 0 ≤ m.2.1 ∧ 1 ≤ m.2.2
theorem wth_gb {r : List Mv} (h : Gb r) {s : Sl} (hs : Sok s) : Gb (wth r s) := fun m hm => by
  unfold wth at hm
  rcases List.mem_append.mp hm with q | q
  · exact h m (List.mem_of_mem_take q)
  · rcases List.mem_append.mp q with q | q
    · exact hs m (by cases e : s.2.2 with
        | none => rw [e] at q; cases q
        | some x => rw [e] at q; rw [List.mem_singleton.mp q])
    · exact h m (List.mem_of_mem_drop q)
theorem wth_len {r : List Mv} {s : Sl} : (wth r s).length ≤ r.length + 1 := by
  unfold wth
  rw [List.length_append, List.length_append, List.length_take, List.length_drop]
  cases s.2.2 with
  | none => show _ + (0 + _) ≤ _; omega
  | some m => show _ + (1 + _) ≤ _; omega
theorem slL_ok {n i : Nat} {m : Mv} (hm : Cw m.1 ∧ 0 ≤ m.2.1 ∧ 1 ≤ m.2.2) : ∀ s ∈ slL n i m, Sok s := fun s hs => by
  obtain ⟨h1, h2, h3⟩ := hm
  intro x hx
  unfold slL at hs
  simp only [List.mem_append, List.mem_cons, List.not_mem_nil, or_false] at hs
  rcases hs with hs | hs | (hs | hs) | hs
  · split at hs
    · rw [List.mem_singleton.mp hs] at hx
      cases hx
      exact ⟨h1, h2, by dsimp only; omega⟩
    · cases hs
  · split at hs
    · rw [List.mem_singleton.mp hs] at hx
      cases hx
      exact ⟨h1, by dsimp only; omega, h3⟩
    · cases hs
  · rw [hs] at hx; cases hx
  · rw [hs] at hx
    cases hx
    exact ⟨h1, h2, by dsimp only; omega⟩
  · split at hs
    · rw [List.mem_singleton.mp hs] at hx
      cases hx
      exact ⟨h1, by dsimp only; omega, h3⟩
    · cases hs
theorem slL_len {n i : Nat} {m : Mv} : (slL n i m).length ≤ 5 := by
  unfold slL
  simp only [List.length_append, List.length_cons, List.length_nil]
  split <;> split <;> split <;> simp
abbrev dm : Mv := (cU, 0, 1)
def all (n : Nat) (r : List Mv) : Nat → List Sl
  | 0 => []
  | i + 1 => all n r i ++ slL n i (r.getD i dm)
theorem getD_of {r : List Mv} {i : Nat} (h : i < r.length) : r[i]? = some (r.getD i dm) := by
  rw [List.getD_eq_getElem?_getD, List.getElem?_eq_getElem h]
  rfl
theorem all_ok {n : Nat} {r : List Mv} (h : Gb r) : ∀ i, i ≤ r.length → ∀ s ∈ all n r i, Sok s
  | 0, _, s, hs => by cases hs
  | i + 1, hi, s, hs => by
    rcases List.mem_append.mp hs with q | q
    · exact all_ok h i (by omega) s q
    · exact slL_ok (h _ (List.mem_of_getElem? (getD_of (by omega)))) s q
theorem all_len {n : Nat} {r : List Mv} : ∀ i, (all n r i).length ≤ 5 * i
  | 0 => Nat.le_refl _
  | i + 1 => by
    have := all_len (n := n) (r := r) i
    have := slL_len (n := n) (i := i) (m := r.getD i dm)
    show (all n r i ++ slL n i (r.getD i dm)).length ≤ _
    rw [List.length_append]
    omega
def hit (f : List Lay) (s g : List (Int × Int)) (r : List Mv) (x : Sl) : Bool := lead f s g (wth r x)
theorem inner {f : List Lay} (hl : f.length ≤ 1000) {s g : List (Int × Int)} (hs : s.length = f.length) {r : List Mv} (hr : Gb r) (hn : r.length ≤ 100) {z : Option Slot} : ∀ (xs acc : List Sl), (∀ x ∈ xs, Sok x) → acc.length + xs.length ≤ 10000 →
    loopF h_slips_of2 g_slips_of2 (xs.map encSl) [some (.val (.lst (f.map Lay.d))), some (.val (.lst (s.map pairD))), some (.val (.lst (r.map mvO))), some (.val (.lst (g.map pairD))), some (.own (acc.map encSl)), z, none] = .nx [some (.val (.lst (f.map Lay.d))), some (.val (.lst (s.map pairD))), some (.val (.lst (r.map mvO))), some (.val (.lst (g.map pairD))), some (.own ((acc ++ xs.filter (hit f s g r)).map encSl)), z, none]
  | [], acc, _, _ => by
    show Out.nx _ = .nx _
    rw [List.filter_nil, List.append_nil]
  | x :: xs, acc, hx, hb => by
    rw [List.length_cons] at hb
    have ws := with_slip (r := r) (by omega) x
    have lt := leads_to hl (g := g) hs (wth_gb hr (hx x List.mem_cons_self)).good
    have ih := fun a ha => inner hl hs hr hn (z := z) (g := g) xs a (fun y hy => hx y (List.mem_cons_of_mem _ hy)) ha
    rw [List.map_cons, loopF_turn, List.filter_cons]
    cases hh : hit f s g r x with
    | true =>
      unfold hit at hh
      rw [hh] at lt
      have t1 : turn h_slips_of2 g_slips_of2 (encSl x) [some (.val (.lst (f.map Lay.d))), some (.val (.lst (s.map pairD))), some (.val (.lst (r.map mvO))), some (.val (.lst (g.map pairD))), some (.own (acc.map encSl)), z, none] = .nx [some (.val (.lst (f.map Lay.d))), some (.val (.lst (s.map pairD))), some (.val (.lst (r.map mvO))), some (.val (.lst (g.map pairD))), some (.own ((acc ++ [x]).map encSl)), z, none] := by
        simp_arith [Lay.ix0, Lay.ix1, Lay.ix2, Lay.ix3, Lay.tp, pr_0, pr_1, pr_tp, pr_isi, pr_len, lay_isi, lay_len, h_slips_of2, g_slips_of2, ws, lt]
        rw [List.map_append]
        rfl
      rw [t1]
      dsimp only
      rw [ih (acc ++ [x]) (by rw [List.length_append, List.length_cons, List.length_nil]; omega), if_pos rfl, List.append_assoc]
      rfl
    | false =>
      unfold hit at hh
      rw [hh] at lt
      have t1 : turn h_slips_of2 g_slips_of2 (encSl x) [some (.val (.lst (f.map Lay.d))), some (.val (.lst (s.map pairD))), some (.val (.lst (r.map mvO))), some (.val (.lst (g.map pairD))), some (.own (acc.map encSl)), z, none] = .nx [some (.val (.lst (f.map Lay.d))), some (.val (.lst (s.map pairD))), some (.val (.lst (r.map mvO))), some (.val (.lst (g.map pairD))), some (.own (acc.map encSl)), z, none] := by
        simp_arith [Lay.ix0, Lay.ix1, Lay.ix2, Lay.ix3, Lay.tp, pr_0, pr_1, pr_tp, pr_isi, pr_len, lay_isi, lay_len, h_slips_of2, g_slips_of2, ws, lt]
      rw [t1]
      dsimp only
      rw [ih acc (by omega), if_neg (by decide)]
theorem slips_of {f : List Lay} (hl : f.length ≤ 1000) {s g : List (Int × Int)} (hs : s.length = f.length) {r : List Mv} (hr : Gb r) (hn : r.length ≤ 100) :
    m_slips_of [.lst (f.map Lay.d), .lst (s.map pairD), .lst (r.map mvO), .lst (g.map pairD)] = .ok (.lst (((all f.length r r.length).filter (hit f s g r)).map encSl)) := by
  have lp := for_rng (h := h_slips_of1) (g := g_slips_of1) 0 r.length (fun i => [some (.val (.lst (f.map Lay.d))), some (.val (.lst (s.map pairD))), some (.val (.lst (r.map mvO))), some (.val (.lst (g.map pairD))), some (.own (((all f.length r i).filter (hit f s g r)).map encSl)), none, none]) (by
    intro i hi
    have gi := getD_of hi
    have gm := hr _ (List.mem_of_getElem? gi)
    have sa := slips_at (ds := f.map Lay.d) gi gm.1
    rw [List.length_map] at sa
    have al := all_len (n := f.length) (r := r) i
    have fl := List.length_filter_le (hit f s g r) (all f.length r i)
    have il := inner hl hs hr hn (g := g) (z := some (.val (.int ((i : Nat))))) (slL f.length i (r.getD i dm)) ((all f.length r i).filter (hit f s g r)) (slL_ok gm) (by have := slL_len (n := f.length) (i := i) (m := r.getD i dm); omega)
    rw [← List.filter_append] at il
    have z0 : (0 : Int) + ((i : Nat) : Int) = ((i : Nat) : Int) := by omega
    rw [z0]
    simp_arith [Lay.ix0, Lay.ix1, Lay.ix2, Lay.ix3, Lay.tp, pr_0, pr_1, pr_tp, pr_isi, pr_len, lay_isi, lay_len, h_slips_of1, g_slips_of1, sa, il]
    rfl)
  have ir := LM.iR1 (n := r.length) (by omega)
  show (mo_slips_of _).bind _ = _
  unfold mo_slips_of b_slips_of
  replace lp : loopF h_slips_of1 g_slips_of1 (rngL 0 r.length) [some (.val (.lst (f.map Lay.d))), some (.val (.lst (s.map pairD))), some (.val (.lst (r.map mvO))), some (.val (.lst (g.map pairD))), some (.own ([])), none, none] = .nx [some (.val (.lst (f.map Lay.d))), some (.val (.lst (s.map pairD))), some (.val (.lst (r.map mvO))), some (.val (.lst (g.map pairD))), some (.own (((all f.length r r.length).filter (hit f s g r)).map encSl)), none, none] := lp
  simp_arith [Lay.ix0, Lay.ix1, Lay.ix2, Lay.ix3, Lay.tp, pr_0, pr_1, pr_tp, pr_isi, pr_len, lay_isi, lay_len, ir, lp]
def toldD (s : Sl) : DL.D := match s.2.2 with
  | some m => .tup [.int (s.1 : Nat), .str s.2.1, .str m.1.2, .int m.2.1, .int m.2.2]
  | none => .tup [.int (s.1 : Nat), .str s.2.1, .str ""]
theorem law_told {s : Sl} (hs : Sok s) : m_law_told [encSl s] = .ok (toldD s) := by
  obtain ⟨i, w, o⟩ := s
  unfold m_law_told b_law_told encSl toldD
  dsimp only
  cases o with
  | none => simp_arith [Lay.ix0, Lay.ix1, Lay.ix2, Lay.ix3, Lay.tp, pr_0, pr_1, pr_tp, pr_isi, pr_len, lay_isi, lay_len, encM]
  | some m =>
    have hm := (hs m rfl).1
    have er := rod_in mcr hm
    have eb := beads_in mcb hm
    have ew := FW.word_of hm
    obtain ⟨c, ks, ds, eo⟩ : ∃ c ks ds, mvO m = .obj c ks ds := ⟨_, _, _, rfl⟩
    have em : encM (some m) = .obj c ks ds := eo
    rw [eo] at er eb ew
    simp_arith [Lay.ix0, Lay.ix1, Lay.ix2, Lay.ix3, Lay.tp, pr_0, pr_1, pr_tp, pr_isi, pr_len, lay_isi, lay_len, em, er, eb, ew]
def Wok (w : Str) : Prop := w = "fewer" ∨ w = "last" ∨ w = "left" ∨ w = "more" ∨ w = "next"
theorem slL_w {n i : Nat} {m : Mv} : ∀ s ∈ slL n i m, Wok s.2.1 := fun s hs => by
  unfold slL at hs
  simp only [List.mem_append, List.mem_cons, List.not_mem_nil, or_false] at hs
  rcases hs with hs | hs | (hs | hs) | hs
  · split at hs
    · rw [List.mem_singleton.mp hs]; exact .inl rfl
    · cases hs
  · split at hs
    · rw [List.mem_singleton.mp hs]; exact .inr (.inl rfl)
    · cases hs
  · rw [hs]; exact .inr (.inr (.inl rfl))
  · rw [hs]; exact .inr (.inr (.inr (.inl rfl)))
  · split at hs
    · rw [List.mem_singleton.mp hs]; exact .inr (.inr (.inr (.inr rfl)))
    · cases hs
theorem all_w {n : Nat} {r : List Mv} : ∀ i, ∀ s ∈ all n r i, Wok s.2.1
  | 0, s, hs => by cases hs
  | i + 1, s, hs => by
    rcases List.mem_append.mp hs with q | q
    · exact all_w i s q
    · exact slL_w s q
theorem told_sh {s : Sl} (hs : Sok s) (hw : Wok s.2.1) : (toldD s).sh 59 = true := by
  obtain ⟨i, w, o⟩ := s
  unfold toldD
  dsimp only at *
  cases o with
  | none => rcases hw with e | e | e | e | e <;> (subst e; kernel_rfl)
  | some m =>
    have hm := (hs m rfl).1
    obtain ⟨⟨c, x⟩, a, b⟩ := m
    rcases hw with e | e | e | e | e <;> subst e <;> rcases hm with h | h | h | h <;> (obtain ⟨rfl, rfl⟩ := Prod.mk.inj h; kernel_rfl)
def ef (m : Mv) (j : Nat) : Int × Int := if m.2.1.toNat = j then rch m (0, 0) else (0, 0)
def tot : List Mv → Nat → Int × Int
  | [], _ => (0, 0)
  | m :: W, j => ((ef m j).1 + (tot W j).1, (ef m j).2 + (tot W j).2)
theorem tot_app (j : Nat) : ∀ W V : List Mv, tot (W ++ V) j = ((tot W j).1 + (tot V j).1, (tot W j).2 + (tot V j).2)
  | [], V => by
    show tot V j = (0 + (tot V j).1, 0 + (tot V j).2)
    rw [Int.zero_add, Int.zero_add]
  | m :: W, V => by
    show ((ef m j).1 + (tot (W ++ V) j).1, (ef m j).2 + (tot (W ++ V) j).2) = ((ef m j).1 + (tot W j).1 + (tot V j).1, (ef m j).2 + (tot W j).2 + (tot V j).2)
    rw [tot_app j W V, Int.add_assoc, Int.add_assoc]
theorem rch_add (m : Mv) (p : Int × Int) : rch m p = (p.1 + (rch m (0, 0)).1, p.2 + (rch m (0, 0)).2) := by
  unfold rch
  split
  · exact Prod.ext (by show p.1 - m.2.2 = p.1 + (0 - m.2.2); omega) (by show p.2 = p.2 + 0; omega)
  split
  · exact Prod.ext (by show p.1 = p.1 + 0; omega) (by show p.2 - m.2.2 = p.2 + (0 - m.2.2); omega)
  split
  · exact Prod.ext (by show p.1 + m.2.2 = p.1 + (0 + m.2.2); omega) (by show p.2 = p.2 + 0; omega)
  · exact Prod.ext (by show p.1 = p.1 + 0; omega) (by show p.2 + m.2.2 = p.2 + (0 + m.2.2); omega)
theorem atS_ne {s : List (Int × Int)} {r i : Nat} (h : r ≠ i) (q : Int × Int) : FM.atS (s.set r q) i = FM.atS s i := by
  unfold FM.atS
  simp only [List.getD_eq_getElem?_getD, List.getElem?_set_ne h]
theorem run_tot {f : List Lay} : ∀ (W : List Mv) (s g : List (Int × Int)), Good W → s.length = f.length → FR.run f s W = some g → ∀ j, FM.atS g j = ((FM.atS s j).1 + (tot W j).1, (FM.atS s j).2 + (tot W j).2)
  | [], s, g, _, _, e, j => by
    cases e
    show FM.atS s j = ((FM.atS s j).1 + 0, (FM.atS s j).2 + 0)
    rw [Int.add_zero, Int.add_zero]
  | m :: W, s, g, hg, hs, e, j => by
    have e : (match FR.stp f s m with | some t => FR.run f t W | none => none) = some g := e
    cases es : FR.stp f s m with
    | none => rw [es] at e; cases e
    | some t =>
      rw [es] at e
      have m0 := (hg m List.mem_cons_self).2
      unfold FR.stp at es
      split at es
      · rename_i c
        have es := (Option.some.inj es).symm
        subst es
        have ih := run_tot W _ g (fun m' h => hg m' (List.mem_cons_of_mem _ h)) (by rw [List.length_set]; exact hs) e j
        rw [ih]
        show _ = ((FM.atS s j).1 + ((ef m j).1 + (tot W j).1), (FM.atS s j).2 + ((ef m j).2 + (tot W j).2))
        unfold ef
        by_cases q : m.2.1.toNat = j
        · subst q
          rw [if_pos rfl, atS_set (by rw [hs]; omega), rch_add m (FM.atS s m.2.1.toNat)]
          show (_, _) = (_, _)
          rw [Int.add_assoc, Int.add_assoc]
        · rw [if_neg q, atS_ne q]
          show (_, _) = (_ + (0 + _), _ + (0 + _))
          rw [Int.zero_add, Int.zero_add]
      · cases es
theorem rch_nz {m : Mv} (hc : Cw m.1) (h1 : 1 ≤ m.2.2) : rch m (0, 0) ≠ (0, 0) := by
  obtain ⟨c, r, b⟩ := m
  have h1 : 1 ≤ b := h1
  rcases hc with h | h | h | h <;> (simp only at h; subst h)
  · rw [rch_t]; intro e; injection e with e _; dsimp only at e; omega
  · rw [rch_d]; intro e; injection e with _ e; dsimp only at e; omega
  · rw [rch_p]; intro e; injection e with e _; dsimp only at e; omega
  · rw [rch_u]; intro e; injection e with _ e; dsimp only at e; omega
theorem rch_inj {c : Str × Str} (hc : Cw c) {r r' b b' : Int} (e : rch (c, r, b) (0, 0) = rch (c, r', b') (0, 0)) : b = b' := by
  rcases hc with h | h | h | h <;> (subst h)
  · rw [rch_t, rch_t] at e; injection e with e _; dsimp only at e; omega
  · rw [rch_d, rch_d] at e; injection e with _ e; dsimp only at e; omega
  · rw [rch_p, rch_p] at e; injection e with e _; dsimp only at e; omega
  · rw [rch_u, rch_u] at e; injection e with _ e; dsimp only at e; omega
theorem mid_inj {c : Str × Str} (hc : Cw c) {o o' : Option Mv} (h : ∀ m, o = some m → m.1 = c ∧ 0 ≤ m.2.1 ∧ 1 ≤ m.2.2) (h' : ∀ m, o' = some m → m.1 = c ∧ 0 ≤ m.2.1 ∧ 1 ≤ m.2.2) (e : ∀ j, tot o.toList j = tot o'.toList j) : o = o' := by
  have one : ∀ (m : Mv) j, tot (some m).toList j = ef m j := fun m j => by
    show ((ef m j).1 + 0, (ef m j).2 + 0) = ef m j
    rw [Int.add_zero, Int.add_zero]
  have self : ∀ m : Mv, ef m m.2.1.toNat = rch m (0, 0) := fun m => if_pos rfl
  cases o with
  | none =>
    cases o' with
    | none => rfl
    | some m =>
      obtain ⟨h1, h2, h3⟩ := h' m rfl
      have q := e m.2.1.toNat
      rw [one, self] at q
      exact absurd q.symm (rch_nz (by rw [h1]; exact hc) h3)
  | some m =>
    obtain ⟨h1, h2, h3⟩ := h m rfl
    have q := e m.2.1.toNat
    rw [one, self] at q
    cases o' with
    | none => exact absurd q (rch_nz (by rw [h1]; exact hc) h3)
    | some m' =>
      obtain ⟨k1, k2, k3⟩ := h' m' rfl
      rw [one] at q
      unfold ef at q
      split at q
      · rename_i er
        obtain ⟨c1, r, b⟩ := m
        obtain ⟨c2, r', b'⟩ := m'
        have h1 : c1 = c := h1
        have k1 : c2 = c := k1
        subst h1 k1
        have er : r'.toNat = r.toNat := er
        have h2 : 0 ≤ r := h2
        have k2 : 0 ≤ r' := k2
        have rr : r = r' := by omega
        rw [rch_inj hc q, rr]
      · exact absurd q (rch_nz (by rw [h1]; exact hc) h3)
theorem slL_mem {n i : Nat} {m : Mv} {x : Sl} (h : x ∈ slL n i m) : x.1 = i ∧ ((x.2 = (("fewer" : Str), some (m.1, m.2.1, m.2.2 - 1)) ∧ 1 < m.2.2) ∨ (x.2 = (("last" : Str), some (m.1, m.2.1 - 1, m.2.2)) ∧ 0 < m.2.1) ∨ x.2 = (("left" : Str), none) ∨ x.2 = (("more" : Str), some (m.1, m.2.1, m.2.2 + 1)) ∨ x.2 = (("next" : Str), some (m.1, m.2.1 + 1, m.2.2))) := by
  unfold slL at h
  rcases List.mem_append.mp h with h | h
  · split at h
    · rename_i c
      rw [List.mem_singleton.mp h]
      exact ⟨rfl, .inl ⟨rfl, c⟩⟩
    · cases h
  rcases List.mem_append.mp h with h | h
  · split at h
    · rename_i c
      rw [List.mem_singleton.mp h]
      exact ⟨rfl, .inr (.inl ⟨rfl, c⟩)⟩
    · cases h
  rcases List.mem_append.mp h with h | h
  · rcases List.mem_cons.mp h with h | h
    · rw [h]; exact ⟨rfl, .inr (.inr (.inl rfl))⟩
    · rw [List.mem_singleton.mp h]; exact ⟨rfl, .inr (.inr (.inr (.inl rfl)))⟩
  · split at h
    · rw [List.mem_singleton.mp h]
      exact ⟨rfl, .inr (.inr (.inr (.inr rfl)))⟩
    · cases h
theorem slL_opt {n i : Nat} {m : Mv} {x y : Sl} (hx : x ∈ slL n i m) (hy : y ∈ slL n i m) (e : x.2.2 = y.2.2) : x = y := by
  obtain ⟨x1, hx⟩ := slL_mem hx
  obtain ⟨y1, hy⟩ := slL_mem hy
  refine Prod.ext (x1.trans y1.symm) ?_
  rcases hx with ⟨hx, _⟩ | ⟨hx, _⟩ | hx | hx | hx <;> rcases hy with ⟨hy, _⟩ | ⟨hy, _⟩ | hy | hy | hy <;> rw [hx, hy] <;> rw [hx, hy] at e <;> first
    | rfl
    | (exfalso; simp only [Option.some.injEq, Prod.mk.injEq, reduceCtorEq] at e <;> omega)
theorem slL_nd (n i : Nat) (m : Mv) : (slL n i m).Nodup := by
  have key : ∀ (a b c : Bool), (((if a then [("fewer" : Str)] else []) ++ ((if b then [("last" : Str)] else []) ++ ([("left" : Str), ("more" : Str)] ++ (if c then [("next" : Str)] else []))) : List Str)).Nodup := by decide +kernel
  have e : (slL n i m).map (fun x => x.2.1) = (if decide (1 < m.2.2) then [("fewer" : Str)] else []) ++ ((if decide (0 < m.2.1) then [("last" : Str)] else []) ++ ([("left" : Str), ("more" : Str)] ++ (if decide (m.2.1 + 1 < (n : Nat)) then [("next" : Str)] else []))) := by
    unfold slL
    rw [List.map_append, List.map_append, List.map_append]
    by_cases a : 1 < m.2.2 <;> by_cases b : 0 < m.2.1 <;> by_cases c : m.2.1 + 1 < (n : Nat) <;> simp only [a, b, c, if_true, if_false, decide_true, decide_false, Bool.false_eq_true] <;> rfl
  have q := key (decide (1 < m.2.2)) (decide (0 < m.2.1)) (decide (m.2.1 + 1 < (n : Nat)))
  rw [← e] at q
  exact List.Pairwise.of_map _ (fun _ _ h e => h (congrArg (fun z : Sl => z.2.1) e)) q
theorem one_left {α : Type} {l : List α} {p : α → Bool} (nd : l.Nodup) (h : ∀ x ∈ l, ∀ y ∈ l, p x = true → p y = true → x = y) : l.filter p = [] ∨ ∃ x, x ∈ l ∧ l.filter p = [x] := by
  have nd2 := nd.sublist (List.filter_sublist (p := p))
  have mem : ∀ x ∈ l.filter p, x ∈ l ∧ p x = true := fun x hx => List.mem_filter.mp hx
  generalize l.filter p = q at nd2 mem
  match q, nd2, mem with
  | [], _, _ => exact .inl rfl
  | [x], _, mem => exact .inr ⟨x, (mem x List.mem_cons_self).1, rfl⟩
  | x :: y :: r, nd2, mem =>
    exfalso
    have hx := mem x List.mem_cons_self
    have hy := mem y (List.mem_cons_of_mem _ List.mem_cons_self)
    have e := h x hx.1 y hy.1 hx.2 hy.2
    rw [List.nodup_cons] at nd2
    exact nd2.1 (by rw [e]; exact List.mem_cons_self)
theorem hit_one {f : List Lay} {s g : List (Int × Int)} (hs : s.length = f.length) {r : List Mv} (hr : Gb r) {n i : Nat} (hi : i < r.length) : ∀ x ∈ slL n i (r.getD i dm), ∀ y ∈ slL n i (r.getD i dm), hit f s g r x = true → hit f s g r y = true → x = y := by
  have hm := hr _ (List.mem_of_getElem? (getD_of hi))
  generalize r.getD i dm = m at hm
  intro x hx y hy h1 h2
  have ox := slL_ok (n := n) (i := i) hm x hx
  have oy := slL_ok (n := n) (i := i) hm y hy
  have e1 : x.1 = i := (slL_mem hx).1
  have e2 : y.1 = i := (slL_mem hy).1
  have t1 := run_tot (wth r x) s g (wth_gb hr ox).good hs (of_decide_eq_true h1)
  have t2 := run_tot (wth r y) s g (wth_gb hr oy).good hs (of_decide_eq_true h2)
  have cls : ∀ z, z ∈ slL n i m → ∀ m', z.2.2 = some m' → m'.1 = m.1 := fun z hz m' e => by
    rcases (slL_mem hz).2 with ⟨q, _⟩ | ⟨q, _⟩ | q | q | q <;> rw [q] at e
    · cases e; rfl
    · cases e; rfl
    · cases e
    · cases e; rfl
    · cases e; rfl
  refine slL_opt hx hy (mid_inj hm.1 (fun m' e => ⟨cls x hx m' e, (ox m' e).2.1, (ox m' e).2.2⟩) (fun m' e => ⟨cls y hy m' e, (oy m' e).2.1, (oy m' e).2.2⟩) fun j => ?_)
  have a := t1 j
  rw [t2 j] at a
  unfold wth at a
  rw [e1, e2, tot_app, tot_app, tot_app, tot_app] at a
  injection a with a b
  dsimp only at a b
  exact Prod.ext (by omega) (by omega)
theorem rise {f : List Lay} {s g : List (Int × Int)} (hs : s.length = f.length) {r : List Mv} (hr : Gb r) {n : Nat} : ∀ k, k ≤ r.length → ((all n r k).filter (hit f s g r)).Pairwise (fun x y => x.1 < y.1) ∧ ∀ x ∈ (all n r k).filter (hit f s g r), x.1 < k
  | 0, _ => ⟨.nil, fun x hx => nomatch hx⟩
  | k + 1, hk => by
    obtain ⟨h1, h2⟩ := rise hs hr (n := n) k (by omega)
    have e : (all n r (k + 1)).filter (hit f s g r) = (all n r k).filter (hit f s g r) ++ (slL n k (r.getD k dm)).filter (hit f s g r) := by
      show (all n r k ++ slL n k (r.getD k dm)).filter _ = _
      rw [List.filter_append]
    rw [e]
    rcases one_left (slL_nd n k (r.getD k dm)) (hit_one (g := g) hs hr (n := n) (i := k) (by omega)) with q | ⟨x, hx, q⟩
    · rw [q, List.append_nil]
      exact ⟨h1, fun x hx => by have := h2 x hx; omega⟩
    · rw [q]
      have xk := (slL_mem hx).1
      refine ⟨List.pairwise_append.mpr ⟨h1, List.pairwise_singleton _ _, fun a ha b hb => ?_⟩, fun a ha => ?_⟩
      · rw [List.mem_singleton.mp hb, xk]
        exact h2 a ha
      · rcases List.mem_append.mp ha with ha | ha
        · have := h2 a ha; omega
        · rw [List.mem_singleton.mp ha, xk]; omega
theorem rise_len {l : List Sl} {k : Nat} (h1 : l.Pairwise (fun x y => x.1 < y.1)) (h2 : ∀ x ∈ l, x.1 < k) : l.length ≤ k := by
  have nd : (l.map fun x => x.1).Nodup := List.pairwise_map.mpr (h1.imp fun h e => by omega)
  have sub : ∀ x ∈ l.map (fun x => x.1), x ∈ List.range k := fun x hx => by
    obtain ⟨y, hy, rfl⟩ := List.mem_map.mp hx
    exact List.mem_range.mpr (h2 y hy)
  have := L2.nat_nodup_len _ _ nd sub
  rwa [List.length_map, List.length_range] at this
theorem told_kd {s : Sl} (hs : Sok s) (hw : Wok s.2.1) : (toldD s).kd 60 = true := by
  obtain ⟨i, w, o⟩ := s
  unfold toldD
  dsimp only at *
  cases o with
  | none => rcases hw with e | e | e | e | e <;> (subst e; kernel_rfl)
  | some m =>
    have hm := (hs m rfl).1
    obtain ⟨⟨c, x⟩, a, b⟩ := m
    rcases hw with e | e | e | e | e <;> subst e <;> rcases hm with h | h | h | h <;> (obtain ⟨rfl, rfl⟩ := Prod.mk.inj h; kernel_rfl)
theorem told_fst {x y : Sl} (e : toldD x = toldD y) : x.1 = y.1 := by
  have f : ∀ z : Sl, ∃ r, toldD z = .tup (.int (z.1 : Nat) :: r) := fun z => by
    unfold toldD
    cases z.2.2 <;> exact ⟨_, rfl⟩
  obtain ⟨r, h1⟩ := f x
  obtain ⟨r', h2⟩ := f y
  rw [h1, h2] at e
  injection e with e
  injection e with e _
  injection e with e
  exact Int.ofNat.inj e
theorem one_cnt : ∀ {l : List Sl} {x : Sl}, l.Pairwise (fun x y => x.1 < y.1) → x ∈ l → (l.countP fun y => decide (y.1 = x.1)) = 1
  | a :: l, x, h, hx => by
    rw [List.pairwise_cons] at h
    rcases List.mem_cons.mp hx with rfl | hx
    · rw [List.countP_cons_of_pos (by exact decide_eq_true rfl), List.countP_eq_zero.mpr]
      intro y hy
      have := h.1 y hy
      simp only [decide_eq_true_eq]
      omega
    · have := h.1 x hx
      rw [List.countP_cons_of_neg (by simp only [decide_eq_true_eq]; omega)]
      exact one_cnt h.2 hx
theorem fst_one : ∀ {l : List Sl}, l.Pairwise (fun x y => x.1 < y.1) → ∀ x ∈ l, ∀ y ∈ l, x.1 = y.1 → x = y
  | a :: l, h, x, hx, y, hy, e => by
    rw [List.pairwise_cons] at h
    rcases List.mem_cons.mp hx with z | z <;> rcases List.mem_cons.mp hy with w | w
    · rw [z, w]
    · have := h.1 y w; rw [z] at e; omega
    · have := h.1 x z; rw [w] at e; omega
    · exact fst_one h.2 x z y w e
theorem told_cnt {l : List Sl} (h : l.Pairwise (fun x y => x.1 < y.1)) (ok : ∀ x ∈ l, Sok x ∧ Wok x.2.1) {x : Sl} (hx : x ∈ l) : dCntD (.lst (l.map toldD)) (toldD x) = .ok (.int 1) := by
  have sx := told_sh (ok x hx).1 (ok x hx).2
  have s2 : (D.lst (l.map toldD)).sh 60 = true := by
    show (l.map toldD).all (D.sh 59) = true
    rw [List.all_map, List.all_eq_true]
    exact fun y hy => told_sh (ok y hy).1 (ok y hy).2
  have s1 : (toldD x).sh 60 = true := kd_sh _ _ (told_kd (ok x hx).1 (ok x hx).2)
  have c : (l.map toldD).countP (fun d => dEqB d (toldD x)) = 1 := by
    rw [List.countP_map, ← one_cnt h hx]
    refine List.countP_congr fun y hy => ?_
    show dEqB (toldD y) (toldD x) = true ↔ decide (y.1 = x.1) = true
    rw [show dEqB (toldD y) (toldD x) = PyData.eqv (toldD y).pd (toldD x).pd from rfl, kd_eq 60 _ _ (told_kd (ok y hy).1 (ok y hy).2) (told_kd (ok x hx).1 (ok x hx).2), decide_eq_true_eq]
    exact ⟨told_fst, fun e => by rw [fst_one h y hy x hx e]⟩
  show (if (D.lst (l.map toldD)).sh 60 && (toldD x).sh 60 then R.ok (D.int (((l.map toldD).countP fun d => dEqB d (toldD x)) : Nat)) else R.stuck) = _
  rw [s1, s2, c]
  rfl
def spotD (x : Sl) : DL.D := .tup [.int (x.1 : Nat), .str x.2.1]
theorem spot_cut (x : Sl) : sl1 (toldD x) none (some 2) = .ok (spotD x) := by
  unfold toldD
  cases x.2.2 <;> rfl
theorem tr_sp : ∀ l : List Sl, trD (l.map spotD) = some (l.map fun x => (((x.1 : Nat) : Int), x.2.1))
  | [] => rfl
  | x :: l => by
    show (trD (l.map spotD)).map _ = _
    rw [tr_sp l]
    rfl
theorem ris_sp : ∀ {l : List Sl}, l.Pairwise (fun x y => x.1 < y.1) → risB (l.map fun x => (((x.1 : Nat) : Int), x.2.1)) = true
  | [], _ => rfl
  | [x], _ => rfl
  | x :: y :: l, h => by
    rw [List.pairwise_cons] at h
    show (decide (((x.1 : Nat) : Int) < ((y.1 : Nat) : Int)) && risB ((y :: l).map fun x => (((x.1 : Nat) : Int), x.2.1))) = true
    rw [ris_sp h.2, decide_eq_true (by have := h.1 y List.mem_cons_self; omega)]
    rfl
theorem set_sp {l : List Sl} (h : l.Pairwise (fun x y => x.1 < y.1)) (hl : l.length < 64) : oSetS1 (.lst (l.map spotD)) = .ok (l.map spotD) := by
  show (match trD (l.map spotD) with
    | some L => if decide (L.length < 64) && risB L then R.ok (l.map spotD) else R.stuck
    | none => R.stuck) = _
  rw [tr_sp]
  dsimp only
  rw [ris_sp h, List.length_map, decide_eq_true hl]
  rfl
theorem sp_same {l : List Sl} (ok : ∀ x ∈ l, Sok x ∧ Wok x.2.1) : dNe (.lst (l.map spotD)) (.lst (l.map spotD)) = .ok (.bl false) := dNe_same (by
  show (l.map spotD).all (D.sh 59) = true
  rw [List.all_map, List.all_eq_true]
  intro x hx
  obtain ⟨i, w, o⟩ := x
  have hw : Wok w := (ok _ hx).2
  show (D.tup [.int (i : Nat), .str w]).sh 59 = true
  rcases hw with e | e | e | e | e <;> (subst e; kernel_rfl))
theorem law_words {W : List Mv} (hw : ∀ m ∈ W, Cw m.1) (hl : W.length ≤ 10000) : m_law_words [.lst (W.map mvO)] = .ok (.lst (W.map mvT)) := by
  have lc := oLc_map (h := gNm 1) (fe := le_law_words1) (fi := iOf (eV 0)) (vs := [1]) (Γ := [some (.val (.lst (W.map mvO))), none]) W mvO mvT (by simp_arith [Lay.ix0, Lay.ix1, Lay.ix2, Lay.ix3, Lay.tp, pr_0, pr_1, pr_tp, pr_isi, pr_len, lay_isi, lay_len]) (by show _ ≤ 16777216; omega) (by
    intro m hm
    have c := hw m hm
    have w1 := FW.word_of c
    have w2 := rod_in mcr c
    have w3 := beads_in mcb c
    unfold mvT
    generalize mvO m = d at w1 w2 w3 ⊢
    simp_arith [Lay.ix0, Lay.ix1, Lay.ix2, Lay.ix3, Lay.tp, pr_0, pr_1, pr_tp, pr_isi, pr_len, lay_isi, lay_len, le_law_words1, w1, w2, w3])
  show R.bind (mo_law_words _) _ = _
  have : mo_law_words [.lst (W.map mvO)] = .ok (W.map mvT) := by
    generalize W.map mvT = ys at lc ⊢
    unfold mo_law_words b_law_words
    simp_arith [Lay.ix0, Lay.ix1, Lay.ix2, Lay.ix3, Lay.tp, pr_0, pr_1, pr_tp, pr_isi, pr_len, lay_isi, lay_len, lc]
  rw [this]
  rfl
theorem law_slip {r : List Mv} (hr : Gb r) (h1 : r ≠ []) (hl : r.length ≤ 100) {c : Int} (n : Nat) : ∃ x : Sl, x.1 < r.length ∧ (x ∈ slL n x.1 (r.getD x.1 dm) ∨ ∃ m, x.2.2 = some m ∧ (n : Int) ≤ m.2.1) ∧ Sok x ∧ Wok x.2.1 ∧ m_law_slip [.lst (r.map mvO), .int c] = .ok (encSl x) := by
  have lp : 0 < r.length := List.length_pos_iff.mpr h1
  have a0 := Int.emod_nonneg (c / 5) (show ((r.length : Nat) : Int) ≠ 0 by omega)
  have a1 := Int.emod_lt_of_pos (c / 5) (show (0 : Int) < ((r.length : Nat) : Int) by omega)
  have d1 := dMod_i (i := c / 5) (j := ((r.length : Nat) : Int)) (by omega)
  obtain ⟨i, hi⟩ := Int.eq_ofNat_of_zero_le a0
  rw [hi] at d1 a1
  have il : i < r.length := by omega
  have gi := getD_of il
  have hm := hr _ (List.mem_of_getElem? gi)
  have ix : dIx (.lst (r.map mvO)) (.int (i : Nat)) = .ok (mvO (r.getD i dm)) := dIx_n (by rw [List.getElem?_map, gi]; rfl)
  have ln : dLen [.lst (r.map mvO)] = .ok (.int (r.length : Nat)) := by rw [dLen_l, List.length_map]
  obtain ⟨m, em⟩ : ∃ m, r.getD i dm = m := ⟨_, rfl⟩
  rw [em] at hm ix
  obtain ⟨hc, m0, m1⟩ := hm
  have w1 := FW.word_of hc
  have w2 := rod_in mcr hc
  have w3 := beads_in mcb hc
  have mv : ∀ r' b', m_law_move [.str m.1.2, .int r', .int b'] = .ok (mvO (m.1, r', b')) := fun r' b' => LM.law_move (m := (m.1, r', b')) hc
  have enc : ∀ m' : Mv, encM (some m') = mvO m' := fun _ => rfl
  have q0 := Int.emod_nonneg c (show (5 : Int) ≠ 0 by decide)
  have q1 := Int.emod_lt_of_pos c (show (0 : Int) < 5 by decide)
  generalize hw : c % 5 = w at q0 q1
  generalize hmo : mvO m = d at ix w1 w2 w3
  generalize hrm : r.map mvO = rs at ix ln
  have left : m_law_slip [.lst rs, .int c] = .ok (encSl (i, "left", none)) → ∃ x : Sl, x.1 < r.length ∧ (x ∈ slL n x.1 (r.getD x.1 dm) ∨ ∃ m, x.2.2 = some m ∧ (n : Int) ≤ m.2.1) ∧ Sok x ∧ Wok x.2.1 ∧ m_law_slip [.lst rs, .int c] = .ok (encSl x) := fun e =>
    ⟨(i, "left", none), il, .inl (by unfold slL; exact List.mem_append_right _ (List.mem_append_right _ (List.mem_append_left _ List.mem_cons_self))), fun m e => (nomatch e), .inr (.inr (.inl rfl)), e⟩
  by_cases c1 : w = 1 ∧ 1 < m.2.2
  · obtain ⟨rfl, c1⟩ := c1
    refine ⟨(i, "fewer", some (m.1, m.2.1, m.2.2 - 1)), il, .inl ?_, fun m' e => by cases e; exact ⟨hc, m0, by show 1 ≤ m.2.2 - 1; omega⟩, .inl rfl, ?_⟩
    · dsimp only
      rw [em]
      unfold slL
      rw [if_pos c1]
      exact List.mem_append_left _ List.mem_cons_self
    · unfold m_law_slip b_law_slip encSl
      simp_arith [Lay.ix0, Lay.ix1, Lay.ix2, Lay.ix3, Lay.tp, pr_0, pr_1, pr_tp, pr_isi, pr_len, lay_isi, lay_len, ln, hi, d1, ix, w1, w2, w3, hw, c1, mv, enc]
  by_cases c2 : w = 2
  · subst c2
    refine ⟨(i, "more", some (m.1, m.2.1, m.2.2 + 1)), il, .inl ?_, fun m' e => by cases e; exact ⟨hc, m0, by show 1 ≤ m.2.2 + 1; omega⟩, .inr (.inr (.inr (.inl rfl))), ?_⟩
    · dsimp only
      rw [em]
      unfold slL
      exact List.mem_append_right _ (List.mem_append_right _ (List.mem_append_left _ (List.mem_cons_of_mem _ List.mem_cons_self)))
    · unfold m_law_slip b_law_slip encSl
      simp_arith [Lay.ix0, Lay.ix1, Lay.ix2, Lay.ix3, Lay.tp, pr_0, pr_1, pr_tp, pr_isi, pr_len, lay_isi, lay_len, ln, hi, d1, ix, w1, w2, w3, hw, mv, enc]
  by_cases c3 : w = 3 ∧ 0 < m.2.1
  · obtain ⟨rfl, c3⟩ := c3
    refine ⟨(i, "last", some (m.1, m.2.1 - 1, m.2.2)), il, .inl ?_, fun m' e => by cases e; exact ⟨hc, by show 0 ≤ m.2.1 - 1; omega, m1⟩, .inr (.inl rfl), ?_⟩
    · dsimp only
      rw [em]
      unfold slL
      rw [if_pos c3]
      exact List.mem_append_right _ (List.mem_append_left _ List.mem_cons_self)
    · unfold m_law_slip b_law_slip encSl
      simp_arith [Lay.ix0, Lay.ix1, Lay.ix2, Lay.ix3, Lay.tp, pr_0, pr_1, pr_tp, pr_isi, pr_len, lay_isi, lay_len, ln, hi, d1, ix, w1, w2, w3, hw, c3, mv, enc]
  by_cases c4 : w = 4
  · subst c4
    refine ⟨(i, "next", some (m.1, m.2.1 + 1, m.2.2)), il, ?_, fun m' e => by cases e; exact ⟨hc, by show 0 ≤ m.2.1 + 1; omega, m1⟩, .inr (.inr (.inr (.inr rfl))), ?_⟩
    · dsimp only
      rw [em]
      by_cases q : m.2.1 + 1 < (n : Nat)
      · refine .inl ?_
        unfold slL
        rw [if_pos q]
        exact List.mem_append_right _ (List.mem_append_right _ (List.mem_append_right _ List.mem_cons_self))
      · exact .inr ⟨_, rfl, by dsimp only; omega⟩
    · unfold m_law_slip b_law_slip encSl
      simp_arith [Lay.ix0, Lay.ix1, Lay.ix2, Lay.ix3, Lay.tp, pr_0, pr_1, pr_tp, pr_isi, pr_len, lay_isi, lay_len, ln, hi, d1, ix, w1, w2, w3, hw, mv, enc]
  refine left ?_
  unfold m_law_slip b_law_slip encSl
  by_cases z1 : w = 1
  · have z2 : ¬ 1 < m.2.2 := fun z => c1 ⟨z1, z⟩
    subst z1
    simp_arith [Lay.ix0, Lay.ix1, Lay.ix2, Lay.ix3, Lay.tp, pr_0, pr_1, pr_tp, pr_isi, pr_len, lay_isi, lay_len, ln, hi, d1, ix, w1, w2, w3, hw, z2, encM]
  by_cases z3 : w = 3
  · have z2 : ¬ 0 < m.2.1 := fun z => c3 ⟨z3, z⟩
    subst z3
    simp_arith [Lay.ix0, Lay.ix1, Lay.ix2, Lay.ix3, Lay.tp, pr_0, pr_1, pr_tp, pr_isi, pr_len, lay_isi, lay_len, ln, hi, d1, ix, w1, w2, w3, hw, z2, encM]
  simp_arith [Lay.ix0, Lay.ix1, Lay.ix2, Lay.ix3, Lay.tp, pr_0, pr_1, pr_tp, pr_isi, pr_len, lay_isi, lay_len, ln, hi, d1, ix, w1, w2, w3, hw, z1, c2, z3, c4, encM]
theorem mv_kd {m : Mv} (h : Cw m.1) : (mvT m).kd 59 = true := by
  obtain ⟨c, r, b⟩ := m
  rcases h with h | h | h | h <;> (simp only at h; subst h; kernel_rfl)
theorem words_same {W : List Mv} (h : ∀ m ∈ W, Cw m.1) : dNe (.lst (W.map mvT)) (.lst (W.map mvT)) = .ok (.bl false) := dNe_same (kd_sh 60 _ (by
  show (W.map mvT).all (D.kd 59) = true
  rw [List.all_map, List.all_eq_true]
  exact fun m hm => mv_kd (h m hm)))
theorem in_turn {f : List Lay} {s g : List (Int × Int)} (hs : s.length = f.length) {r : List Mv} (hr : Gb r) (hl : r.length ≤ 100) {x : Sl} (ok : Sok x) (hx : hit f s g r x = true) {z0 z4 z5 z7 z8 z9 z12 : Option Slot} :
    turn h_law2 g_law2 (encSl x) [z0, some (.val (.lst (f.map Lay.d))), some (.val (.lst (r.map mvO))), some (.val (.lst (s.map pairD))), z4, z5, some (.val (.lst (g.map pairD))), z7, z8, z9, none, none, z12] = .nx [z0, some (.val (.lst (f.map Lay.d))), some (.val (.lst (r.map mvO))), some (.val (.lst (s.map pairD))), z4, z5, some (.val (.lst (g.map pairD))), z7, z8, z9, none, none, z12] := by
  have gb := wth_gb hr ok
  have wl := wth_len (r := r) (s := x)
  have ws := with_slipO (r := r) (by omega) x
  have lw := law_with (r := r) (by omega) x
  have cw : ∀ m ∈ wth r x, Cw m.1 := fun m hm => (gb m hm).1
  have wd := law_words cw (by omega)
  have sm := words_same cw
  have ps := law_pushed hs gb.good fun m hm => (gb m hm).2.2
  rw [of_decide_eq_true hx] at ps
  have ps : m_law_pushed [.lst (f.map Lay.d), .lst (s.map pairD), .lst ((wth r x).map mvO)] = .ok (.lst (g.map pairD)) := ps
  have sg : dNe (.lst (g.map pairD)) (.lst (g.map pairD)) = .ok (.bl false) := dNe_same (kd_sh 60 _ (kd_pairs g))
  have ll : ((wth r x).map mvO).length < 16777216 := by rw [List.length_map]; omega
  generalize (wth r x).map mvT = WT at *
  generalize (wth r x).map mvO = WM at *
  generalize r.map mvO = RM at *
  generalize encSl x = xd at *
  generalize f.map Lay.d = fd at *
  generalize s.map pairD = sd at *
  generalize g.map pairD = gd at *
  simp_arith [Lay.ix0, Lay.ix1, Lay.ix2, Lay.ix3, Lay.tp, pr_0, pr_1, pr_tp, pr_isi, pr_len, lay_isi, lay_len, h_law2, g_law2, ws, lw, wd, sm, ps, sg, ll]
theorem in_loop {f : List Lay} {s g : List (Int × Int)} (hs : s.length = f.length) {r : List Mv} (hr : Gb r) (hl : r.length ≤ 100) {z0 z4 z5 z7 z8 z9 z12 : Option Slot} (l : List Sl) (hx : ∀ x ∈ l, Sok x ∧ hit f s g r x = true) :
    loopF h_law2 g_law2 (l.map encSl) [z0, some (.val (.lst (f.map Lay.d))), some (.val (.lst (r.map mvO))), some (.val (.lst (s.map pairD))), z4, z5, some (.val (.lst (g.map pairD))), z7, z8, z9, none, none, z12] = .nx [z0, some (.val (.lst (f.map Lay.d))), some (.val (.lst (r.map mvO))), some (.val (.lst (s.map pairD))), z4, z5, some (.val (.lst (g.map pairD))), z7, z8, z9, none, none, z12] :=
  for_map (h := h_law2) (g := g_law2) l encSl (fun _ => [z0, some (.val (.lst (f.map Lay.d))), some (.val (.lst (r.map mvO))), some (.val (.lst (s.map pairD))), z4, z5, some (.val (.lst (g.map pairD))), z7, z8, z9, none, none, z12]) fun i x h => in_turn hs hr hl (hx x (List.mem_of_getElem? h)).1 (hx x (List.mem_of_getElem? h)).2
theorem mem_all {n : Nat} {r : List Mv} {x : Sl} : ∀ k, x.1 < k → x ∈ slL n x.1 (r.getD x.1 dm) → x ∈ all n r k
  | 0, h, _ => absurd h (Nat.not_lt_zero _)
  | k + 1, h, hx => by
    show x ∈ all n r k ++ slL n k (r.getD k dm)
    by_cases e : x.1 = k
    · rw [← e]
      exact List.mem_append_right _ hx
    · exact List.mem_append_left _ (mem_all k (by omega) hx)
theorem run_over {f : List Lay} {s : List (Int × Int)} {r : List Mv} {x : Sl} {m : Mv} (e : x.2.2 = some m) (h : (f.length : Int) ≤ m.2.1) : FR.run f s (wth r x) = none := by
  unfold wth
  rw [e, run_app]
  cases FR.run f s (r.take x.1) with
  | none => rfl
  | some t =>
    show FR.run f t (m :: r.drop (x.1 + 1)) = none
    show (match FR.stp f t m with | some t => FR.run f t (r.drop (x.1 + 1)) | none => none) = none
    have : FR.stp f t m = none := by
      unfold FR.stp
      rw [if_neg]
      rintro ⟨h1, _⟩
      omega
    rw [this]
theorem cell_turn {f : List Lay} (hf : f.length ≤ 1000) {s : List (Int × Int)} (hs : s.length = f.length) {r : List Mv} (hr : Gb r) (h1 : r ≠ []) (hl : r.length ≤ 60) (c : Int) {z0 : Option Slot} :
    turn h_law1 g_law1 (.int c) [z0, some (.val (.lst (f.map Lay.d))), some (.val (.lst (r.map mvO))), some (.val (.lst (s.map pairD))), none, none, none, none, none, none, none, none, none] = .nx [z0, some (.val (.lst (f.map Lay.d))), some (.val (.lst (r.map mvO))), some (.val (.lst (s.map pairD))), none, none, none, none, none, none, none, none, none] := by
  have p40 : dPow (.int 10) (.int 40) = .ok (.int 10000000000000000000000000000000000000000) := by kernel_rfl
  obtain ⟨x, xl, xm, ok, wk, es⟩ := law_slip hr h1 (by omega) (c := c % 10000000000000000000000000000000000000000) f.length
  have md := dMod_i (i := c) (j := 10000000000000000000000000000000000000000) (by decide)
  generalize (10000000000000000000000000000000000000000 : Int) = T at *
  generalize c % T = c1 at *
  have gb := wth_gb hr ok
  have wl := wth_len (r := r) (s := x)
  have lw := law_with (r := r) (by omega) x
  have ps := law_pushed hs gb.good fun m hm => (gb m hm).2.2
  cases e : FR.run f s (wth r x) with
  | none =>
    rw [e] at ps
    have ps : m_law_pushed [.lst (f.map Lay.d), .lst (s.map pairD), .lst ((wth r x).map mvO)] = .ok .non := ps
    have i0 : dIsNot .non .non = .ok (.bl false) := rfl
    generalize (wth r x).map mvO = WM at *
    generalize r.map mvO = RM at *
    generalize encSl x = xd at *
    generalize f.map Lay.d = fd at *
    generalize s.map pairD = sd at *
    simp_arith [Lay.ix0, Lay.ix1, Lay.ix2, Lay.ix3, Lay.tp, pr_0, pr_1, pr_tp, pr_isi, pr_len, lay_isi, lay_len, h_law1, g_law1, p40, md, es, lw, ps, i0]
  | some g =>
    rw [e] at ps
    have ps : m_law_pushed [.lst (f.map Lay.d), .lst (s.map pairD), .lst ((wth r x).map mvO)] = .ok (.lst (g.map pairD)) := ps
    have i0 : dIsNot (.lst (g.map pairD)) .non = .ok (.bl true) := rfl
    have so := slips_of (g := g) hf hs hr (by omega)
    have hx : x ∈ (all f.length r r.length).filter (hit f s g r) := by
      rcases xm with h | ⟨m, h2, h3⟩
      · exact List.mem_filter.mpr ⟨mem_all _ xl h, decide_eq_true e⟩
      · rw [run_over h2 h3] at e
        cases e
    obtain ⟨rs, rl⟩ := rise (g := g) hs hr (n := f.length) r.length (Nat.le_refl _)
    have ll := rise_len rs rl
    have okl : ∀ y ∈ (all f.length r r.length).filter (hit f s g r), (Sok y ∧ Wok y.2.1) ∧ hit f s g r y = true := fun y hy => by
      obtain ⟨h2, h3⟩ := List.mem_filter.mp hy
      exact ⟨⟨all_ok hr _ (Nat.le_refl _) y h2, all_w _ y h2⟩, h3⟩
    generalize (all f.length r r.length).filter (hit f s g r) = l at *
    have cl : oList [.lst (r.map mvO)] = .ok (r.map mvO) := rfl
    have tc := told_cnt rs (fun y hy => (okl y hy).1) hx
    have lt := law_told ok
    have lc := fun s8 s9 s11 s12 => oLc_map (h := gNm 10) (fe := le_law4) (fi := iOf (eV 7)) (vs := [10]) (Γ := [z0, some (.val (.lst (f.map Lay.d))), some (.val (.lst (r.map mvO))), some (.val (.lst (s.map pairD))), some (.val (.int (c))), some (.val (encSl x)), some (.val (.lst (g.map pairD))), some (.val (.lst (l.map encSl))), s8, s9, none, s11, s12]) l encSl toldD (by simp_arith [Lay.ix0, Lay.ix1, Lay.ix2, Lay.ix3, Lay.tp, pr_0, pr_1, pr_tp, pr_isi, pr_len, lay_isi, lay_len]) (by show _ ≤ 16777216; omega) (by
      intro y hy
      have q := law_told (okl y hy).1.1
      generalize encSl y = yd at q
      generalize toldD y = yt at q
      simp_arith [Lay.ix0, Lay.ix1, Lay.ix2, Lay.ix3, Lay.tp, pr_0, pr_1, pr_tp, pr_isi, pr_len, lay_isi, lay_len, le_law4, q])
    have lc2 := fun s9 s11 s12 => oLc_map (h := gNm 10) (fe := le_law3) (fi := iOf (eV 8)) (vs := [10]) (Γ := [z0, some (.val (.lst (f.map Lay.d))), some (.val (.lst (r.map mvO))), some (.val (.lst (s.map pairD))), some (.val (.int (c))), some (.val (encSl x)), some (.val (.lst (g.map pairD))), some (.val (.lst (l.map encSl))), some (.val (.lst (l.map toldD))), s9, none, s11, s12]) l toldD spotD (by simp_arith [Lay.ix0, Lay.ix1, Lay.ix2, Lay.ix3, Lay.tp, pr_0, pr_1, pr_tp, pr_isi, pr_len, lay_isi, lay_len]) (by show _ ≤ 16777216; omega) (by
      intro y hy
      have q := spot_cut y
      generalize toldD y = yd at q
      generalize spotD y = yt at q
      simp_arith [Lay.ix0, Lay.ix1, Lay.ix2, Lay.ix3, Lay.tp, pr_0, pr_1, pr_tp, pr_isi, pr_len, lay_isi, lay_len, le_law3, q])
    have st := set_sp rs (by omega)
    have ss := sp_same (l := l) fun y hy => (okl y hy).1
    have il := fun z4 z5 z7 z8 z9 z12 => in_loop (z0 := z0) (z4 := z4) (z5 := z5) (z7 := z7) (z8 := z8) (z9 := z9) (z12 := z12) hs hr (by omega) l fun y hy => ⟨(okl y hy).1.1, (okl y hy).2⟩
    have ne1 : dNe (.int 1) (.int 1) = .ok (.bl false) := by rw [dNe_i]; rfl
    clear okl
    generalize (wth r x).map mvO = WM at *
    generalize l.map encSl = LE at *
    generalize l.map toldD = LT at *
    generalize l.map spotD = LS at *
    generalize r.map mvO = RM at *
    generalize encSl x = xd at *
    generalize toldD x = xt at *
    generalize f.map Lay.d = fd at *
    generalize s.map pairD = sd at *
    generalize g.map pairD = gd at *
    simp_arith [Lay.ix0, Lay.ix1, Lay.ix2, Lay.ix3, Lay.tp, pr_0, pr_1, pr_tp, pr_isi, pr_len, lay_isi, lay_len, h_law1, g_law1, p40, md, es, lw, ps, i0, cl, so, lc, lc2, eMB, lt, tc, ne1, oSetS, st, ss, il]
theorem add_big {a b : List Mv} (h : a.length + b.length ≤ 16777216) : dAdd (.lst (a.map mvO)) (.lst (b.map mvO)) = .ok (.lst ((a ++ b).map mvO)) := by
  rw [List.map_append]
  exact dAdd_l (by rw [List.length_map, List.length_map]; exact h)
theorem pick2 {T c : Int} : dIx (.lst [.int 30, .int T]) (.int (c % 2)) = .ok (.int (if c % 2 = 0 then 30 else T)) := by
  rcases (by omega : c % 2 = 0 ∨ c % 2 = 1) with e | e <;> rw [e] <;> rfl
def nowS (b : Bool) (s : List (Int × Int)) : Option Slot := if b = true then some (.own (s.map pairD)) else some (.val (.lst (s.map pairD)))
theorem row_turn {f : List Lay} (hf : ∀ x ∈ f, x.Ok) (h1 : 1 ≤ f.length) (hl : f.length ≤ 20) {b : Bool} {v : Int} (v0 : 0 ≤ v) (v1 : v ≤ top_ f) {W : List Mv} (gb : Gb W) {i : Nat} (hW : W.length ≤ i * 2000) (hi : i ≤ 100) (c : Int) {z0 : Option Slot} :
    ∃ v' W', 0 ≤ v' ∧ v' ≤ top_ f ∧ Gb W' ∧ W'.length ≤ (i + 1) * 2000 ∧ turn h_law_row1 g_law_row1 (.int c) [z0, some (.val (.lst (f.map Lay.d))), nowS b (tdl f v), some (.val (.lst (W.map mvO))), none, none, none] = .nx [z0, some (.val (.lst (f.map Lay.d))), nowS false (tdl f v'), some (.val (.lst (W'.map mvO))), none, none, none] := by
  have p9 : dPow (.int 10) (.int 9) = .ok (.int 1000000000) := by kernel_rfl
  have d1 := dMod_i (i := c) (j := 1000000000) (by decide)
  have pk := pick2 (T := 1000000000) (c := c)
  have m0 : 0 < (if c % 2 = 0 then (30 : Int) else 1000000000) := by split <;> decide
  have n0 := Int.emod_nonneg (c % 1000000000) (show (if c % 2 = 0 then (30 : Int) else 1000000000) ≠ 0 by omega)
  have d2 := dMod_i (i := c % 1000000000) (j := if c % 2 = 0 then (30 : Int) else 1000000000) m0
  generalize c % 1000000000 % (if c % 2 = 0 then (30 : Int) else 1000000000) = n at *
  have ft := tdl_fits hf v0 v1
  have ad := adding hf h1 (by omega) ft n0
  rw [bnz_tdl hf h1] at ad
  have ad2 : m_adding_row [.lst (f.map Lay.d), .lst ((tdl f v).map pairD), .int n] = (if top_ f < v + n then R.exc (tg ((f.length : Nat) - 1)) else R.ok ((addR f (tdl f v) n).map mvO)).bind fun r => .ok (.lst r) := by
    show R.bind (mo_adding_row _) _ = _
    rw [show mo_adding_row = FH.mo_adding_row from rfl, ad]
  have sl : (tdl f v).length = f.length := ft.1
  have sg : subG "FrameError" "TooGreat" = some true := by kernel_rfl
  by_cases q : top_ f < v + n
  · rw [if_pos q] at ad2
    have ad2 : m_adding_row [.lst (f.map Lay.d), .lst ((tdl f v).map pairD), .int n] = .exc (tg ((f.length : Nat) - 1)) := ad2
    have ps := law_pushed (W := []) sl (fun m hm => nomatch hm) (fun m hm => nomatch hm)
    have ps : m_law_pushed [.lst (f.map Lay.d), .lst ((tdl f v).map pairD), .lst []] = .ok (.lst ((tdl f v).map pairD)) := ps
    have a0 := add_big (a := W) (b := []) (by show W.length + 0 ≤ _; omega)
    rw [List.append_nil] at a0
    have a0 : dAdd (.lst (W.map mvO)) (.lst []) = .ok (.lst (W.map mvO)) := a0
    refine ⟨v, W, v0, v1, gb, by omega, ?_⟩
    unfold tg at ad2
    generalize W.map mvO = WM at *
    generalize f.map Lay.d = fd at *
    cases b
    · show turn h_law_row1 g_law_row1 (.int c) [z0, some (.val (.lst fd)), some (.val (.lst ((tdl f v).map pairD))), some (.val (.lst WM)), none, none, none] = .nx [z0, some (.val (.lst fd)), some (.val (.lst ((tdl f v).map pairD))), some (.val (.lst WM)), none, none, none]
      generalize (tdl f v).map pairD = sd at *
      simp_arith [Lay.ix0, Lay.ix1, Lay.ix2, Lay.ix3, Lay.tp, pr_0, pr_1, pr_tp, pr_isi, pr_len, lay_isi, lay_len, h_law_row1, g_law_row1, p9, d1, pk, d2, ad2, sg, ps, a0]
    · show turn h_law_row1 g_law_row1 (.int c) [z0, some (.val (.lst fd)), some (.own ((tdl f v).map pairD)), some (.val (.lst WM)), none, none, none] = .nx [z0, some (.val (.lst fd)), some (.val (.lst ((tdl f v).map pairD))), some (.val (.lst WM)), none, none, none]
      generalize (tdl f v).map pairD = sd at *
      simp_arith [Lay.ix0, Lay.ix1, Lay.ix2, Lay.ix3, Lay.tp, pr_0, pr_1, pr_tp, pr_isi, pr_len, lay_isi, lay_len, h_law_row1, g_law_row1, p9, d1, pk, d2, ad2, sg, ps, a0]
  · rw [if_neg q] at ad2
    have ad2 : m_adding_row [.lst (f.map Lay.d), .lst ((tdl f v).map pairD), .int n] = .ok (.lst ((addR f (tdl f v) n).map mvO)) := ad2
    obtain ⟨pt, pl⟩ := addR_pth hf h1 (by omega) ft n0 (by rw [bnz_tdl hf h1]; omega)
    rw [bnz_tdl hf h1] at pt
    have pl2 : (addR f (tdl f v) n).length ≤ 2000 := by
      have := Nat.mul_le_mul hl (Nat.mul_le_mul (Nat.le_refl 4) hl)
      omega
    generalize addR f (tdl f v) n = V at *
    have ps := law_pushed sl pt.good pt.ps
    rw [pt.run] at ps
    have ps : m_law_pushed [.lst (f.map Lay.d), .lst ((tdl f v).map pairD), .lst (V.map mvO)] = .ok (.lst ((tdl f (v + n)).map pairD)) := ps
    have a0 := add_big (a := W) (b := V) (by omega)
    refine ⟨v + n, W ++ V, by omega, by omega, fun m hm => ?_, by rw [List.length_append]; omega, ?_⟩
    · rcases List.mem_append.mp hm with h | h
      · exact gb m h
      · exact ⟨(pt.good m h).1, (pt.good m h).2, pt.ps m h⟩
    generalize (W ++ V).map mvO = WV at *
    generalize V.map mvO = VM at *
    generalize W.map mvO = WM at *
    generalize f.map Lay.d = fd at *
    show turn h_law_row1 g_law_row1 (.int c) [z0, some (.val (.lst fd)), nowS b (tdl f v), some (.val (.lst WM)), none, none, none] = .nx [z0, some (.val (.lst fd)), some (.val (.lst ((tdl f (v + n)).map pairD))), some (.val (.lst WV)), none, none, none]
    generalize (tdl f (v + n)).map pairD = sd2 at *
    cases b
    · show turn h_law_row1 g_law_row1 (.int c) [z0, some (.val (.lst fd)), some (.val (.lst ((tdl f v).map pairD))), some (.val (.lst WM)), none, none, none] = _
      generalize (tdl f v).map pairD = sd at *
      simp_arith [Lay.ix0, Lay.ix1, Lay.ix2, Lay.ix3, Lay.tp, pr_0, pr_1, pr_tp, pr_isi, pr_len, lay_isi, lay_len, h_law_row1, g_law_row1, p9, d1, pk, d2, ad2, ps, a0]
    · show turn h_law_row1 g_law_row1 (.int c) [z0, some (.val (.lst fd)), some (.own ((tdl f v).map pairD)), some (.val (.lst WM)), none, none, none] = _
      generalize (tdl f v).map pairD = sd at *
      simp_arith [Lay.ix0, Lay.ix1, Lay.ix2, Lay.ix3, Lay.tp, pr_0, pr_1, pr_tp, pr_isi, pr_len, lay_isi, lay_len, h_law_row1, g_law_row1, p9, d1, pk, d2, ad2, ps, a0]
theorem sl_sc (ns : List Int) (lo hi : Option Int) : sl1 (.scr ns) lo hi = .ok (.lst ((cutL ns lo hi).map D.int)) := by
  show R.ok (D.lst (cutL (ns.map D.int) lo hi)) = _
  unfold cutL
  rw [List.map_take, List.map_drop, List.length_map]
theorem cut_le {α : Type} (l : List α) {a b : Nat} (h : a ≤ b) : (cutL l (some (a : Int)) (some (b : Int))).length ≤ b - a := by
  unfold cutL
  rw [List.length_take, HT.sIx_nat, HT.sIx_nat]
  omega
theorem zeros {f : List Lay} (hl : f.length ≤ 1000) {v : Nat} {fe : DL.Env → R D} {Γ : DL.Env} (e1 : Env.at_ Γ 1 = some (.val (.lst (f.map Lay.d)))) (he : ∀ d, lcT (gNm v) fe d (wipeE Γ [v]) = .ok (pairD (0, 0))) : oLc [v] (iOf (eV 1)) (gNm v) (bYes) fe Γ = .ok ((clr f).map pairD) := by
  have lc := oLc_map (h := gNm v) (fe := fe) (fi := iOf (eV 1)) (vs := [v]) (Γ := Γ) f Lay.d (fun _ => pairD (0, 0)) (by
    unfold iOf eV
    rw [e1]
    rfl) (by show _ ≤ 16777216; omega) (fun x _ => he _)
  rw [lc]
  unfold clr
  rw [List.map_map]
  rfl
theorem law_row (ns : List Int) {f : List Lay} (hf : ∀ x ∈ f, x.Ok) (h1 : 1 ≤ f.length) (hl : f.length ≤ 20) : ∃ r : List Mv, Gb r ∧ r.length ≤ 40 ∧ m_law_row [.scr ns, .lst (f.map Lay.d)] = .ok (.lst (r.map mvO)) := by
  have s1 := sl_sc ns (some 16) (some 24)
  have cl := cut_le ns (a := 16) (b := 24) (by decide)
  have cl : (cutL ns (some 16) (some 24)).length ≤ 8 := cl
  generalize cutL ns (some 16) (some 24) = cs at *
  have zr := zeros (f := f) (by omega) (v := 6) (fe := le_law_row2) (Γ := [some (.val (.scr ns)), some (.val (.lst (f.map Lay.d))), none, none, none, none, none]) rfl (fun d => by
    unfold pairD
    generalize f.map Lay.d = fd
    simp_arith [Lay.ix0, Lay.ix1, Lay.ix2, Lay.ix3, Lay.tp, pr_0, pr_1, pr_tp, pr_isi, pr_len, lay_isi, lay_len, le_law_row2])
  obtain ⟨Γ', lp, v, W, b, _, _, gb, _, rfl⟩ := for_inv (h := h_law_row1) (g := g_law_row1) (Γ := [some (.val (.scr ns)), some (.val (.lst (f.map Lay.d))), some (.own ((clr f).map pairD)), some (.val (.lst [])), none, none, none]) cs D.int (fun i Γ => ∃ (v : Int) (W : List Mv) (b : Bool), 0 ≤ v ∧ v ≤ top_ f ∧ Gb W ∧ W.length ≤ i * 2000 ∧ Γ = [some (.val (.scr ns)), some (.val (.lst (f.map Lay.d))), nowS b (tdl f v), some (.val (.lst (W.map mvO))), none, none, none]) ⟨0, [], true, Int.le_refl 0, top_nonneg hf, fun m hm => (nomatch hm), Nat.zero_le _, by rw [tdl_0 hf]; rfl⟩ (by
    rintro i c Γ hx ⟨v, W, b, v0, v1, gb, wl, rfl⟩
    have hi := (List.getElem?_eq_some_iff.mp hx).1
    obtain ⟨v', W', a1, a2, a3, a4, e⟩ := row_turn hf h1 hl v0 v1 gb wl (by omega) c (b := b) (z0 := some (.val (.scr ns)))
    exact ⟨_, e, v', W', false, a1, a2, a3, a4, rfl⟩)
  have ct := cutA W 40
  refine ⟨W.take 40, fun m hm => gb m (List.mem_of_mem_take hm), by rw [List.length_take]; omega, ?_⟩
  have ct : sl1 (.lst (W.map mvO)) none (some 40) = .ok (.lst ((W.take 40).map mvO)) := ct
  generalize (W.take 40).map mvO = W4 at *
  generalize W.map mvO = WM at *
  generalize (clr f).map pairD = cd at *
  generalize nowS b (tdl f v) = nw at *
  generalize f.map Lay.d = fd at *
  generalize cs.map D.int = cd2 at *
  unfold m_law_row b_law_row
  simp_arith [Lay.ix0, Lay.ix1, Lay.ix2, Lay.ix3, Lay.tp, pr_0, pr_1, pr_tp, pr_isi, pr_len, lay_isi, lay_len, zr, s1, lp, ct]
theorem eq_nil {α : Type} {l : List α} {enc : α → DL.D} : dEqN (.lst (l.map enc)) (.lst []) = .ok (.bl (decide (l = []))) := by
  cases l <;> rfl
theorem law_true (ns : List Int) (h : ns.length ≤ 63) : m_law [.scr ns] = .ok (.bl true) := by
  have ef := LB.law_frame ns (a := 0) (most := 8) (by decide) (by decide) (by decide) (by decide)
  have fo := LB.frB_ok ns 0 8
  have fl := LB.frB_len ns 0 (most := 8) (by decide)
  generalize LB.frB ns 0 8 = f at *
  have hl : f.length ≤ 20 := by omega
  obtain ⟨r, gb, rl, er⟩ := law_row ns fo fl.1 hl
  have e0 := eq_nil (l := r) (enc := mvO)
  have hs : (clr f).length = f.length := clr_len f
  have lc := LB.law_cell ns (k := 15) (by decide) (by decide)
  have s1 := sl_sc ns (some 24) (some 26)
  have cl := cut_le ns (a := 24) (b := 26) (by decide)
  have cl : (cutL ns (some 24) (some 26)).length ≤ 2 := cl
  generalize LB.cell ns 15 = c15 at *
  generalize cutL ns (some 24) (some 26) = cs at *
  by_cases q : r = []
  · subst q
    have so := slips_of (f := f) (s := clr f) (g := clr f) (by omega) hs (r := []) (fun m hm => nomatch hm) (by decide)
    have so : m_slips_of [.lst (f.map Lay.d), .lst ((clr f).map pairD), .lst [], .lst ((clr f).map pairD)] = .ok (.lst []) := so
    have z1 := zeros (f := f) (by omega) (v := 12) (fe := le_law6) (Γ := [some (.val (.scr ns)), some (.val (.lst (f.map Lay.d))), some (.val (.lst [])), none, none, none, none, none, none, none, none, none, none]) rfl (fun d => by
      unfold pairD
      generalize f.map Lay.d = fd
      simp_arith [Lay.ix0, Lay.ix1, Lay.ix2, Lay.ix3, Lay.tp, pr_0, pr_1, pr_tp, pr_isi, pr_len, lay_isi, lay_len, le_law6])
    have z2 := zeros (f := f) (by omega) (v := 12) (fe := le_law7) (Γ := [some (.val (.scr ns)), some (.val (.lst (f.map Lay.d))), some (.val (.lst [])), none, none, none, none, none, none, none, none, none, none]) rfl (fun d => by
      unfold pairD
      generalize f.map Lay.d = fd
      simp_arith [Lay.ix0, Lay.ix1, Lay.ix2, Lay.ix3, Lay.tp, pr_0, pr_1, pr_tp, pr_isi, pr_len, lay_isi, lay_len, le_law7])
    have er : m_law_row [.scr ns, .lst (f.map Lay.d)] = .ok (.lst []) := er
    have e1 : dEqN (.lst []) (.lst []) = .ok (.bl true) := rfl
    generalize (clr f).map pairD = cd at *
    generalize f.map Lay.d = fd at *
    unfold m_law b_law
    simp_arith [Lay.ix0, Lay.ix1, Lay.ix2, Lay.ix3, Lay.tp, pr_0, pr_1, pr_tp, pr_isi, pr_len, lay_isi, lay_len, ef, er, e1, z1, z2, so]
  · rw [decide_eq_false q] at e0
    have z3 := zeros (f := f) (by omega) (v := 12) (fe := le_law5) (Γ := [some (.val (.scr ns)), some (.val (.lst (f.map Lay.d))), some (.val (.lst (r.map mvO))), none, none, none, none, none, none, none, none, none, none]) rfl (fun d => by
      unfold pairD
      generalize f.map Lay.d = fd
      simp_arith [Lay.ix0, Lay.ix1, Lay.ix2, Lay.ix3, Lay.tp, pr_0, pr_1, pr_tp, pr_isi, pr_len, lay_isi, lay_len, le_law5])
    have lp := for_map (h := h_law1) (g := g_law1) (c15 :: cs) D.int (fun _ => [some (.val (.scr ns)), some (.val (.lst (f.map Lay.d))), some (.val (.lst (r.map mvO))), some (.val (.lst ((clr f).map pairD))), none, none, none, none, none, none, none, none, none]) fun i c _ => cell_turn (by omega) hs gb q (by omega) c
    have a0 : dAdd (.lst [.int c15]) (.lst (cs.map D.int)) = .ok (.lst ((c15 :: cs).map D.int)) := dAdd_l (by rw [List.length_map]; show 1 + _ ≤ _; omega)
    generalize (c15 :: cs).map D.int = cd2 at *
    generalize cs.map D.int = cd3 at *
    generalize (clr f).map pairD = cd at *
    generalize r.map mvO = RM at *
    generalize f.map Lay.d = fd at *
    unfold m_law b_law
    simp_arith [Lay.ix0, Lay.ix1, Lay.ix2, Lay.ix3, Lay.tp, pr_0, pr_1, pr_tp, pr_isi, pr_len, lay_isi, lay_len, ef, er, e0, z3, lc, s1, a0, lp]
end K82
namespace K82
open PySem PySem.Spec L2 DL
def top (i : Nat) : Stmt := PySem.Challenge.pw_beadframe_k82_whole_slips_lead_there.main.body.getD i (.Pass ⟨0, 0, 0, 0⟩)
structure Bt (mg : Str → Option Value) : Prop where
  n_min : mg "min" = none
  n_divmod : mg "divmod" = none
  n_list : mg "list" = none
  n_len : mg "len" = none
  n_enumerate : mg "enumerate" = none
  n_isinstance : mg "isinstance" = none
  n_int : mg "int" = none
  n_bool : mg "bool" = none
  n_reversed : mg "reversed" = none
  n_zip : mg "zip" = none
  n_range : mg "range" = none
  n_sorted : mg "sorted" = none
  n_set : mg "set" = none
def inCls (s : Stmt) (i : Nat) : Stmt := match s with
  | .ClassDef _ _ _ body _ _ _ _ _ _ _ => body.getD i (.Pass ⟨0, 0, 0, 0⟩)
  | s => s
abbrev s_Move_word : Stmt := inCls (top 6) 1
abbrev s_Move_reached : Stmt := inCls (top 6) 3
abbrev s_Up_word : Stmt := inCls (top 7) 0
abbrev s_Up_reached : Stmt := inCls (top 7) 2
abbrev s_Down_word : Stmt := inCls (top 8) 0
abbrev s_Down_reached : Stmt := inCls (top 8) 2
abbrev s_Put_word : Stmt := inCls (top 9) 0
abbrev s_Put_reached : Stmt := inCls (top 9) 2
abbrev s_Take_word : Stmt := inCls (top 10) 0
abbrev s_Take_reached : Stmt := inCls (top 10) 2
abbrev s_with_slip : Stmt := top 18
abbrev s_full_worth : Stmt := top 22
abbrev s_count_of : Stmt := top 23
abbrev s_plain_of : Stmt := top 24
abbrev s_digits_of : Stmt := top 27
abbrev s_Hand___init : Stmt := inCls (top 30) 0
abbrev s_law_cell : Stmt := top 34
abbrev s_law_layout : Stmt := top 35
abbrev s_law_plain : Stmt := top 38
abbrev s_law_borne : Stmt := top 39
abbrev s_law_digits : Stmt := top 40
abbrev s_law_whole : Stmt := top 42
abbrev s_law_with : Stmt := top 48
abbrev s_borne_by : Stmt := top 26
abbrev s_Hand_stands : Stmt := inCls (top 30) 1
abbrev s_law_frame : Stmt := top 36
abbrev s_law_standing : Stmt := top 37
abbrev s_law_tidy : Stmt := top 41
abbrev s_law_pushed : Stmt := top 43
abbrev s_law_told : Stmt := top 47
abbrev s_law_words : Stmt := top 49
abbrev s_Move_done : Stmt := inCls (top 6) 5
abbrev s_rod_rows : Stmt := top 13
abbrev s_like : Stmt := top 16
abbrev s_tidy_of : Stmt := top 28
abbrev s_law_move : Stmt := top 44
abbrev s_done_all : Stmt := top 12
abbrev s_rows_between : Stmt := top 14
abbrev s_slips_at : Stmt := top 17
abbrev s_law_slip : Stmt := top 46
abbrev s_leads_to : Stmt := top 19
abbrev s_Hand_turn_to : Stmt := inCls (top 30) 2
abbrev s_slips_of : Stmt := top 20
abbrev s_Hand_make : Stmt := inCls (top 30) 3
abbrev s_tidy_hand : Stmt := top 31
abbrev s_Hand_give : Stmt := inCls (top 30) 4
abbrev s_adding_row : Stmt := top 32
abbrev s_law_row : Stmt := top 45
abbrev s_law : Stmt := top 50
abbrev si_Up : Stmt := inCls (top 6) 0
abbrev si_Put : Stmt := inCls (top 6) 0
abbrev si_Down : Stmt := inCls (top 6) 0
abbrev si_Take : Stmt := inCls (top 6) 0
abbrev si_Stuck : Stmt := inCls (top 4) 0
abbrev si_TooGreat : Stmt := inCls (top 3) 0
section
variable {P : Program} {w : World} {K : PySem.W.Frag} {mg : Str → Option Value} {base : Heap}
theorem sc_Move_word : FnScope ["self"] ["self"] (defScope s_Move_word) := ⟨rfl, rfl, rfl, by decide +kernel, rfl, by decide +kernel, by decide +kernel⟩
theorem k_Move_word {a : Addr} (F : ∃ fd, FunD K "word" "Move.word" (defArgs s_Move_word) (defBody s_Move_word) (defScope s_Move_word) [] [] a fd) (B : Bt mg) : ∃ fd ps, FnOk P w K mg base (L2.CX P w) 1 a fd ps (spD K mg 1 m_Move_word) ∧ Binds K fd ps [] := by
  obtain ⟨fd, Fd⟩ := F
  have hb : Binds K fd ["self"] [] := Fd.bindsN (fun _ _ _ _ _ _ us hl => match us, hl with | [_], _ => by kernel_rfl)
  have G : FnOk P w K mg base (L2.CX P w) 1 a fd ["self"] (spD K mg 1 (mk 1 b_Move_word)) := by
    refine fn_ok (k := 0) (g := b_Move_word) (N := ["self"]) (ps := ["self"]) Fd sc_Move_word (by decide) ?_
    intro cdv A outer s H E hr
    exact dss_one (ds_ret (de_str))
  exact ⟨fd, ["self"], G, hb⟩
theorem sc_Move_reached : FnScope ["self", "layout", "rod_standing"] ["self", "layout", "rod_standing"] (defScope s_Move_reached) := ⟨rfl, rfl, rfl, by decide +kernel, rfl, by decide +kernel, by decide +kernel⟩
theorem k_Move_reached {a : Addr} (F : ∃ fd, FunD K "reached" "Move.reached" (defArgs s_Move_reached) (defBody s_Move_reached) (defScope s_Move_reached) [] [] a fd) (B : Bt mg) : ∃ fd ps, FnOk P w K mg base (L2N.CX P w) 1 a fd ps (spD K mg 3 m_Move_reached) ∧ Binds K fd ps [] := by
  obtain ⟨fd, Fd⟩ := F
  have hb : Binds K fd ["self", "layout", "rod_standing"] [] := Fd.bindsN (fun _ _ _ _ _ _ us hl => match us, hl with | [_, _, _], _ => by kernel_rfl)
  have G : FnOk P w K mg base (L2N.CX P w) 1 a fd ["self", "layout", "rod_standing"] (spD K mg 3 (mk 3 b_Move_reached)) := by
    refine fn_okN (k := 0) (g := b_Move_reached) (N := ["self", "layout", "rod_standing"]) (ps := ["self", "layout", "rod_standing"]) Fd sc_Move_reached (by decide) ?_
    intro cdv A outer s H E hr
    exact dss_one (ds_ret (de_var 2 (hv := Or.inl (by kernel_rfl))))
  exact ⟨fd, ["self", "layout", "rod_standing"], G, hb⟩
theorem sc_Up_word : FnScope ["self"] ["self"] (defScope s_Up_word) := ⟨rfl, rfl, rfl, by decide +kernel, rfl, by decide +kernel, by decide +kernel⟩
theorem k_Up_word {a : Addr} (F : ∃ fd, FunD K "word" "Up.word" (defArgs s_Up_word) (defBody s_Up_word) (defScope s_Up_word) [] [] a fd) (B : Bt mg) : ∃ fd ps, FnOk P w K mg base (L2.CX P w) 1 a fd ps (spD K mg 1 m_Up_word) ∧ Binds K fd ps [] := by
  obtain ⟨fd, Fd⟩ := F
  have hb : Binds K fd ["self"] [] := Fd.bindsN (fun _ _ _ _ _ _ us hl => match us, hl with | [_], _ => by kernel_rfl)
  have G : FnOk P w K mg base (L2.CX P w) 1 a fd ["self"] (spD K mg 1 (mk 1 b_Up_word)) := by
    refine fn_ok (k := 0) (g := b_Up_word) (N := ["self"]) (ps := ["self"]) Fd sc_Up_word (by decide) ?_
    intro cdv A outer s H E hr
    exact dss_one (ds_ret (de_str))
  exact ⟨fd, ["self"], G, hb⟩
theorem sc_Up_reached : FnScope ["self", "layout", "rod_standing"] ["self", "layout", "rod_standing"] (defScope s_Up_reached) := ⟨rfl, rfl, rfl, by decide +kernel, rfl, by decide +kernel, by decide +kernel⟩
theorem k_Up_reached {a : Addr} (F : ∃ fd, FunD K "reached" "Up.reached" (defArgs s_Up_reached) (defBody s_Up_reached) (defScope s_Up_reached) [] [] a fd) (B : Bt mg) (E_ : ExF K mg cs tb) (a_beads : ∀ c ∈ cs_beads, ∀ C, mg c = some (.ref C) → PySem.W.findIn K (.ref C) "beads" = some none) : ∃ fd ps, FnOk P w K mg base (L2N.CX P w) 1 a fd ps (spD K mg 3 m_Up_reached) ∧ Binds K fd ps [] := by
  obtain ⟨fd, Fd⟩ := F
  have hb : Binds K fd ["self", "layout", "rod_standing"] [] := Fd.bindsN (fun _ _ _ _ _ _ us hl => match us, hl with | [_, _, _], _ => by kernel_rfl)
  have G : FnOk P w K mg base (L2N.CX P w) 1 a fd ["self", "layout", "rod_standing"] (spD K mg 3 (mk 3 b_Up_reached)) := by
    refine fn_okN (k := 0) (g := b_Up_reached) (N := ["self", "layout", "rod_standing"]) (ps := ["self", "layout", "rod_standing"]) Fd sc_Up_reached (by decide) ?_
    intro cdv A outer s H E hr
    exact dss_one (ds_ret (de_tup (da_cons (de_ix ix_seq sat_ix (de_var 2 (hv := Or.inl (by kernel_rfl))) (de_int) (fun _ _ => rfl)) (da_cons (de_op opAdd sat_add (de_ix ix_seq sat_ix (de_var 2 (hv := Or.inl (by kernel_rfl))) (de_int) (fun _ _ => rfl)) (de_xf (E_.sub (by decide +kernel)) (fun c hc => a_beads c ((by decide +kernel : ∀ c ∈ cs_o_beads, c ∈ cs_beads) c hc)) (de_var 0 (hv := Or.inl (by kernel_rfl))))) (da_nil)))))
  exact ⟨fd, ["self", "layout", "rod_standing"], G, hb⟩
theorem sc_Down_word : FnScope ["self"] ["self"] (defScope s_Down_word) := ⟨rfl, rfl, rfl, by decide +kernel, rfl, by decide +kernel, by decide +kernel⟩
theorem k_Down_word {a : Addr} (F : ∃ fd, FunD K "word" "Down.word" (defArgs s_Down_word) (defBody s_Down_word) (defScope s_Down_word) [] [] a fd) (B : Bt mg) : ∃ fd ps, FnOk P w K mg base (L2.CX P w) 1 a fd ps (spD K mg 1 m_Down_word) ∧ Binds K fd ps [] := by
  obtain ⟨fd, Fd⟩ := F
  have hb : Binds K fd ["self"] [] := Fd.bindsN (fun _ _ _ _ _ _ us hl => match us, hl with | [_], _ => by kernel_rfl)
  have G : FnOk P w K mg base (L2.CX P w) 1 a fd ["self"] (spD K mg 1 (mk 1 b_Down_word)) := by
    refine fn_ok (k := 0) (g := b_Down_word) (N := ["self"]) (ps := ["self"]) Fd sc_Down_word (by decide) ?_
    intro cdv A outer s H E hr
    exact dss_one (ds_ret (de_str))
  exact ⟨fd, ["self"], G, hb⟩
theorem sc_Down_reached : FnScope ["self", "layout", "rod_standing"] ["self", "layout", "rod_standing"] (defScope s_Down_reached) := ⟨rfl, rfl, rfl, by decide +kernel, rfl, by decide +kernel, by decide +kernel⟩
theorem k_Down_reached {a : Addr} (F : ∃ fd, FunD K "reached" "Down.reached" (defArgs s_Down_reached) (defBody s_Down_reached) (defScope s_Down_reached) [] [] a fd) (B : Bt mg) (E_ : ExF K mg cs tb) (a_beads : ∀ c ∈ cs_beads, ∀ C, mg c = some (.ref C) → PySem.W.findIn K (.ref C) "beads" = some none) : ∃ fd ps, FnOk P w K mg base (L2N.CX P w) 1 a fd ps (spD K mg 3 m_Down_reached) ∧ Binds K fd ps [] := by
  obtain ⟨fd, Fd⟩ := F
  have hb : Binds K fd ["self", "layout", "rod_standing"] [] := Fd.bindsN (fun _ _ _ _ _ _ us hl => match us, hl with | [_, _, _], _ => by kernel_rfl)
  have G : FnOk P w K mg base (L2N.CX P w) 1 a fd ["self", "layout", "rod_standing"] (spD K mg 3 (mk 3 b_Down_reached)) := by
    refine fn_okN (k := 0) (g := b_Down_reached) (N := ["self", "layout", "rod_standing"]) (ps := ["self", "layout", "rod_standing"]) Fd sc_Down_reached (by decide) ?_
    intro cdv A outer s H E hr
    exact dss_one (ds_ret (de_tup (da_cons (de_ix ix_seq sat_ix (de_var 2 (hv := Or.inl (by kernel_rfl))) (de_int) (fun _ _ => rfl)) (da_cons (de_op op_sub sat_sub (de_ix ix_seq sat_ix (de_var 2 (hv := Or.inl (by kernel_rfl))) (de_int) (fun _ _ => rfl)) (de_xf (E_.sub (by decide +kernel)) (fun c hc => a_beads c ((by decide +kernel : ∀ c ∈ cs_o_beads, c ∈ cs_beads) c hc)) (de_var 0 (hv := Or.inl (by kernel_rfl))))) (da_nil)))))
  exact ⟨fd, ["self", "layout", "rod_standing"], G, hb⟩
theorem sc_Put_word : FnScope ["self"] ["self"] (defScope s_Put_word) := ⟨rfl, rfl, rfl, by decide +kernel, rfl, by decide +kernel, by decide +kernel⟩
theorem k_Put_word {a : Addr} (F : ∃ fd, FunD K "word" "Put.word" (defArgs s_Put_word) (defBody s_Put_word) (defScope s_Put_word) [] [] a fd) (B : Bt mg) : ∃ fd ps, FnOk P w K mg base (L2.CX P w) 1 a fd ps (spD K mg 1 m_Put_word) ∧ Binds K fd ps [] := by
  obtain ⟨fd, Fd⟩ := F
  have hb : Binds K fd ["self"] [] := Fd.bindsN (fun _ _ _ _ _ _ us hl => match us, hl with | [_], _ => by kernel_rfl)
  have G : FnOk P w K mg base (L2.CX P w) 1 a fd ["self"] (spD K mg 1 (mk 1 b_Put_word)) := by
    refine fn_ok (k := 0) (g := b_Put_word) (N := ["self"]) (ps := ["self"]) Fd sc_Put_word (by decide) ?_
    intro cdv A outer s H E hr
    exact dss_one (ds_ret (de_str))
  exact ⟨fd, ["self"], G, hb⟩
theorem sc_Put_reached : FnScope ["self", "layout", "rod_standing"] ["self", "layout", "rod_standing"] (defScope s_Put_reached) := ⟨rfl, rfl, rfl, by decide +kernel, rfl, by decide +kernel, by decide +kernel⟩
theorem k_Put_reached {a : Addr} (F : ∃ fd, FunD K "reached" "Put.reached" (defArgs s_Put_reached) (defBody s_Put_reached) (defScope s_Put_reached) [] [] a fd) (B : Bt mg) (E_ : ExF K mg cs tb) (a_beads : ∀ c ∈ cs_beads, ∀ C, mg c = some (.ref C) → PySem.W.findIn K (.ref C) "beads" = some none) : ∃ fd ps, FnOk P w K mg base (L2N.CX P w) 1 a fd ps (spD K mg 3 m_Put_reached) ∧ Binds K fd ps [] := by
  obtain ⟨fd, Fd⟩ := F
  have hb : Binds K fd ["self", "layout", "rod_standing"] [] := Fd.bindsN (fun _ _ _ _ _ _ us hl => match us, hl with | [_, _, _], _ => by kernel_rfl)
  have G : FnOk P w K mg base (L2N.CX P w) 1 a fd ["self", "layout", "rod_standing"] (spD K mg 3 (mk 3 b_Put_reached)) := by
    refine fn_okN (k := 0) (g := b_Put_reached) (N := ["self", "layout", "rod_standing"]) (ps := ["self", "layout", "rod_standing"]) Fd sc_Put_reached (by decide) ?_
    intro cdv A outer s H E hr
    exact dss_one (ds_ret (de_tup (da_cons (de_op opAdd sat_add (de_ix ix_seq sat_ix (de_var 2 (hv := Or.inl (by kernel_rfl))) (de_int) (fun _ _ => rfl)) (de_xf (E_.sub (by decide +kernel)) (fun c hc => a_beads c ((by decide +kernel : ∀ c ∈ cs_o_beads, c ∈ cs_beads) c hc)) (de_var 0 (hv := Or.inl (by kernel_rfl))))) (da_cons (de_ix ix_seq sat_ix (de_var 2 (hv := Or.inl (by kernel_rfl))) (de_int) (fun _ _ => rfl)) (da_nil)))))
  exact ⟨fd, ["self", "layout", "rod_standing"], G, hb⟩
theorem sc_Take_word : FnScope ["self"] ["self"] (defScope s_Take_word) := ⟨rfl, rfl, rfl, by decide +kernel, rfl, by decide +kernel, by decide +kernel⟩
theorem k_Take_word {a : Addr} (F : ∃ fd, FunD K "word" "Take.word" (defArgs s_Take_word) (defBody s_Take_word) (defScope s_Take_word) [] [] a fd) (B : Bt mg) : ∃ fd ps, FnOk P w K mg base (L2.CX P w) 1 a fd ps (spD K mg 1 m_Take_word) ∧ Binds K fd ps [] := by
  obtain ⟨fd, Fd⟩ := F
  have hb : Binds K fd ["self"] [] := Fd.bindsN (fun _ _ _ _ _ _ us hl => match us, hl with | [_], _ => by kernel_rfl)
  have G : FnOk P w K mg base (L2.CX P w) 1 a fd ["self"] (spD K mg 1 (mk 1 b_Take_word)) := by
    refine fn_ok (k := 0) (g := b_Take_word) (N := ["self"]) (ps := ["self"]) Fd sc_Take_word (by decide) ?_
    intro cdv A outer s H E hr
    exact dss_one (ds_ret (de_str))
  exact ⟨fd, ["self"], G, hb⟩
theorem sc_Take_reached : FnScope ["self", "layout", "rod_standing"] ["self", "layout", "rod_standing"] (defScope s_Take_reached) := ⟨rfl, rfl, rfl, by decide +kernel, rfl, by decide +kernel, by decide +kernel⟩
theorem k_Take_reached {a : Addr} (F : ∃ fd, FunD K "reached" "Take.reached" (defArgs s_Take_reached) (defBody s_Take_reached) (defScope s_Take_reached) [] [] a fd) (B : Bt mg) (E_ : ExF K mg cs tb) (a_beads : ∀ c ∈ cs_beads, ∀ C, mg c = some (.ref C) → PySem.W.findIn K (.ref C) "beads" = some none) : ∃ fd ps, FnOk P w K mg base (L2N.CX P w) 1 a fd ps (spD K mg 3 m_Take_reached) ∧ Binds K fd ps [] := by
  obtain ⟨fd, Fd⟩ := F
  have hb : Binds K fd ["self", "layout", "rod_standing"] [] := Fd.bindsN (fun _ _ _ _ _ _ us hl => match us, hl with | [_, _, _], _ => by kernel_rfl)
  have G : FnOk P w K mg base (L2N.CX P w) 1 a fd ["self", "layout", "rod_standing"] (spD K mg 3 (mk 3 b_Take_reached)) := by
    refine fn_okN (k := 0) (g := b_Take_reached) (N := ["self", "layout", "rod_standing"]) (ps := ["self", "layout", "rod_standing"]) Fd sc_Take_reached (by decide) ?_
    intro cdv A outer s H E hr
    exact dss_one (ds_ret (de_tup (da_cons (de_op op_sub sat_sub (de_ix ix_seq sat_ix (de_var 2 (hv := Or.inl (by kernel_rfl))) (de_int) (fun _ _ => rfl)) (de_xf (E_.sub (by decide +kernel)) (fun c hc => a_beads c ((by decide +kernel : ∀ c ∈ cs_o_beads, c ∈ cs_beads) c hc)) (de_var 0 (hv := Or.inl (by kernel_rfl))))) (da_cons (de_ix ix_seq sat_ix (de_var 2 (hv := Or.inl (by kernel_rfl))) (de_int) (fun _ _ => rfl)) (da_nil)))))
  exact ⟨fd, ["self", "layout", "rod_standing"], G, hb⟩
theorem sc_with_slip : FnScope ["row", "slip", "at", "word", "move"] ["row", "slip"] (defScope s_with_slip) := ⟨rfl, rfl, rfl, by decide +kernel, rfl, by decide +kernel, by decide +kernel⟩
theorem ko_with_slip {a : Addr} (F : ∃ fd, FunD K "with_slip" "with_slip" (defArgs s_with_slip) (defBody s_with_slip) (defScope s_with_slip) [] [] a fd) (gm : mg "with_slip" = some (.ref a)) (B : Bt mg) : KnO P w K mg base 1 "with_slip" 2 mo_with_slip := by
  obtain ⟨fd, Fd⟩ := F
  have hb : Binds K fd ["row", "slip"] [] := Fd.bindsN (fun _ _ _ _ _ _ us hl => match us, hl with | [_, _], _ => by kernel_rfl)
  have G : FnOk P w K mg base (L2.CX P w) 1 a fd ["row", "slip"] (spO K mg 2 (mkO 5 b_with_slip)) := by
    refine fn_okO (k := 0) (g := b_with_slip) (N := ["row", "slip", "at", "word", "move"]) (ps := ["row", "slip"]) Fd sc_with_slip (by decide) ?_
    intro cdv A outer s H E hr
    exact dss_cons (ds_asg (de_var 1 (hv := Or.inl (by kernel_rfl))) (dg_tup rfl (dgs_cons (dg_name 2 sc_with_slip.nd (hx := Or.inl (by kernel_rfl)) (hf := .inl rfl)) (dgs_cons (dg_name 3 sc_with_slip.nd (hx := Or.inl (by kernel_rfl)) (hf := .inl rfl)) (dgs_cons (dg_name 4 sc_with_slip.nd (hx := Or.inl (by kernel_rfl)) (hf := .inl rfl)) (dgs_nil)))))) <|
    dss_cons (ds_if (dt_cmp op_isN sat_is (de_var 4 (hv := Or.inl (by kernel_rfl))) (de_non) (nomark _)) (dss_one (ds_retO (do_op opAdd satO_add (de_slice (de_var 0 (hv := Or.inl (by kernel_rfl))) (dp_no) (dp_so (de_var 2 (hv := Or.inl (by kernel_rfl))))) (de_slice (de_var 0 (hv := Or.inl (by kernel_rfl))) (dp_so (de_op opAdd sat_add (de_var 2 (hv := Or.inl (by kernel_rfl))) (de_int))) (dp_no))))) (dss_nil)) <|
    dss_one (ds_retO (do_op opAdd satO_add (de_op opAdd sat_add (de_slice (de_var 0 (hv := Or.inl (by kernel_rfl))) (dp_no) (dp_so (de_var 2 (hv := Or.inl (by kernel_rfl))))) (de_frz (do_lst (da_cons (de_var 4 (hv := Or.inl (by kernel_rfl))) (da_nil))))) (de_slice (de_var 0 (hv := Or.inl (by kernel_rfl))) (dp_so (de_op opAdd sat_add (de_var 2 (hv := Or.inl (by kernel_rfl))) (de_int))) (dp_no))))
  exact ⟨a, fd, ["row", "slip"], gm, Fd.kp, hb, G⟩
theorem sc_full_worth : FnScope ["layout", "upper", "worth", "lower", "base"] ["layout"] (defScope s_full_worth) := ⟨rfl, rfl, rfl, by decide +kernel, rfl, by decide +kernel, by decide +kernel⟩
theorem k_full_worth {a : Addr} (F : ∃ fd, FunD K "full_worth" "full_worth" (defArgs s_full_worth) (defBody s_full_worth) (defScope s_full_worth) [] [] a fd) (gm : mg "full_worth" = some (.ref a)) (B : Bt mg) : Kn P w K mg base 1 "full_worth" 1 m_full_worth := by
  obtain ⟨fd, Fd⟩ := F
  have hb : Binds K fd ["layout"] [] := Fd.bindsN (fun _ _ _ _ _ _ us hl => match us, hl with | [_], _ => by kernel_rfl)
  have G : FnOk P w K mg base (L2.CX P w) 1 a fd ["layout"] (spD K mg 1 (mk 5 b_full_worth)) := by
    refine fn_ok (k := 0) (g := b_full_worth) (N := ["layout", "upper", "worth", "lower", "base"]) (ps := ["layout"]) Fd sc_full_worth (by decide) ?_
    intro cdv A outer s H E hr
    exact dss_cons (ds_asg (de_var 0 (hv := Or.inl (by kernel_rfl))) (dg_tup rfl (dgs_cons (dg_name 1 sc_full_worth.nd (hx := Or.inl (by kernel_rfl)) (hf := .inl rfl)) (dgs_cons (dg_name 2 sc_full_worth.nd (hx := Or.inl (by kernel_rfl)) (hf := .inl rfl)) (dgs_cons (dg_name 3 sc_full_worth.nd (hx := Or.inl (by kernel_rfl)) (hf := .inl rfl)) (dgs_cons (dg_name 4 sc_full_worth.nd (hx := Or.inl (by kernel_rfl)) (hf := .inl rfl)) (dgs_nil))))))) <|
    dss_one (ds_ret (de_op opAdd sat_add (de_op opMul sat_mul (de_var 1 (hv := Or.inl (by kernel_rfl))) (de_var 2 (hv := Or.inl (by kernel_rfl)))) (de_var 3 (hv := Or.inl (by kernel_rfl)))))
  exact ⟨a, fd, ["layout"], gm, Fd.kp, hb, G⟩
theorem sc_count_of : FnScope ["layout", "rod_standing"] ["layout", "rod_standing"] (defScope s_count_of) := ⟨rfl, rfl, rfl, by decide +kernel, rfl, by decide +kernel, by decide +kernel⟩
theorem k_count_of {a : Addr} (F : ∃ fd, FunD K "count_of" "count_of" (defArgs s_count_of) (defBody s_count_of) (defScope s_count_of) [] [] a fd) (gm : mg "count_of" = some (.ref a)) (B : Bt mg) : Kn P w K mg base 1 "count_of" 2 m_count_of := by
  obtain ⟨fd, Fd⟩ := F
  have hb : Binds K fd ["layout", "rod_standing"] [] := Fd.bindsN (fun _ _ _ _ _ _ us hl => match us, hl with | [_, _], _ => by kernel_rfl)
  have G : FnOk P w K mg base (L2.CX P w) 1 a fd ["layout", "rod_standing"] (spD K mg 2 (mk 2 b_count_of)) := by
    refine fn_ok (k := 0) (g := b_count_of) (N := ["layout", "rod_standing"]) (ps := ["layout", "rod_standing"]) Fd sc_count_of (by decide) ?_
    intro cdv A outer s H E hr
    exact dss_one (ds_ret (de_op opAdd sat_add (de_op opMul sat_mul (de_ix ix_seq sat_ix (de_var 1 (hv := Or.inl (by kernel_rfl))) (de_int) (fun _ _ => rfl)) (de_ix ix_seq sat_ix (de_var 0 (hv := Or.inl (by kernel_rfl))) (de_int) (fun _ _ => rfl))) (de_ix ix_seq sat_ix (de_var 1 (hv := Or.inl (by kernel_rfl))) (de_int) (fun _ _ => rfl))))
  exact ⟨a, fd, ["layout", "rod_standing"], gm, Fd.kp, hb, G⟩
theorem sc_plain_of : FnScope ["layout", "number", "high"] ["layout", "number"] (defScope s_plain_of) := ⟨rfl, rfl, rfl, by decide +kernel, rfl, by decide +kernel, by decide +kernel⟩
theorem k_plain_of {a : Addr} (F : ∃ fd, FunD K "plain_of" "plain_of" (defArgs s_plain_of) (defBody s_plain_of) (defScope s_plain_of) [] [] a fd) (gm : mg "plain_of" = some (.ref a)) (B : Bt mg) : Kn P w K mg base 1 "plain_of" 2 m_plain_of := by
  obtain ⟨fd, Fd⟩ := F
  have hb : Binds K fd ["layout", "number"] [] := Fd.bindsN (fun _ _ _ _ _ _ us hl => match us, hl with | [_, _], _ => by kernel_rfl)
  have G : FnOk P w K mg base (L2.CX P w) 1 a fd ["layout", "number"] (spD K mg 2 (mk 3 b_plain_of)) := by
    refine fn_ok (k := 0) (g := b_plain_of) (N := ["layout", "number", "high"]) (ps := ["layout", "number"]) Fd sc_plain_of (by decide) ?_
    intro cdv A outer s H E hr
    exact dss_cons (ds_asg (de_callB (call_min2 rfl) sat_min2 (by unfold L2.Gl; kernel_rfl) B.n_min (by decide +kernel) (da_cons (de_ix ix_seq sat_ix (de_var 0 (hv := Or.inl (by kernel_rfl))) (de_int) (fun _ _ => rfl)) (da_cons (de_op op_fdivW sat_div (de_var 1 (hv := Or.inl (by kernel_rfl))) (de_ix ix_seq sat_ix (de_var 0 (hv := Or.inl (by kernel_rfl))) (de_int) (fun _ _ => rfl))) (da_nil)))) (dg_name 2 sc_plain_of.nd (hx := Or.inl (by kernel_rfl)) (hf := .inl rfl))) <|
    dss_one (ds_ret (de_tup (da_cons (de_var 2 (hv := Or.inl (by kernel_rfl))) (da_cons (de_op op_sub sat_sub (de_var 1 (hv := Or.inl (by kernel_rfl))) (de_op opMul sat_mul (de_var 2 (hv := Or.inl (by kernel_rfl))) (de_ix ix_seq sat_ix (de_var 0 (hv := Or.inl (by kernel_rfl))) (de_int) (fun _ _ => rfl)))) (da_nil)))))
  exact ⟨a, fd, ["layout", "number"], gm, Fd.kp, hb, G⟩
theorem sc_digits_of : FnScope ["frame", "number", "found", "layout", "digit"] ["frame", "number"] (defScope s_digits_of) := ⟨rfl, rfl, rfl, by decide +kernel, rfl, by decide +kernel, by decide +kernel⟩
theorem ko_digits_of {a : Addr} (F : ∃ fd, FunD K "digits_of" "digits_of" (defArgs s_digits_of) (defBody s_digits_of) (defScope s_digits_of) [] [] a fd) (gm : mg "digits_of" = some (.ref a)) (B : Bt mg) : KnO P w K mg base 1 "digits_of" 2 mo_digits_of := by
  obtain ⟨fd, Fd⟩ := F
  have hb : Binds K fd ["frame", "number"] [] := Fd.bindsN (fun _ _ _ _ _ _ us hl => match us, hl with | [_, _], _ => by kernel_rfl)
  have G : FnOk P w K mg base (L2.CX P w) 1 a fd ["frame", "number"] (spO K mg 2 (mkO 5 b_digits_of)) := by
    refine fn_okO (k := 0) (g := b_digits_of) (N := ["frame", "number", "found", "layout", "digit"]) (ps := ["frame", "number"]) Fd sc_digits_of (by decide) ?_
    intro cdv A outer s H E hr
    exact dss_cons (ds_setO 2 sc_digits_of.nd (do_lst (da_nil)) (hx := Or.inl (by kernel_rfl)) (hf := .inl rfl)) <|
    dss_cons (ds_for passOwnOf rfl (di_list (de_slice (de_var 0 (hv := Or.inl (by kernel_rfl))) (dp_no) (dp_so (de_un un_neg sat_neg (de_int))))) (dg_name 3 sc_digits_of.nd (hx := Or.inl (by kernel_rfl)) (hf := .inl rfl)) (dss_cons (ds_asg (de_callB call_divmodW sat_divmod (by unfold L2.Gl; kernel_rfl) B.n_divmod (by decide +kernel) (da_cons (de_var 1 (hv := Or.inl (by kernel_rfl))) (da_cons (de_ix ix_seq sat_ix (de_var 3 (hv := Or.inl (by kernel_rfl))) (de_int) (fun _ _ => rfl)) (da_nil)))) (dg_tup rfl (dgs_cons (dg_name 1 sc_digits_of.nd (hx := Or.inl (by kernel_rfl)) (hf := .inl rfl)) (dgs_cons (dg_name 4 sc_digits_of.nd (hx := Or.inl (by kernel_rfl)) (hf := .inl rfl)) (dgs_nil))))) <|
    dss_one (ds_append 2 (de_var 4 (hv := Or.inl (by kernel_rfl))) (hv := Or.inl (by kernel_rfl))))) <|
    dss_one (ds_frz 2 (ds_retO (do_op opAdd satO_add (de_var 2 (hv := Or.inl (by kernel_rfl))) (de_frz (do_lst (da_cons (de_var 1 (hv := Or.inl (by kernel_rfl))) (da_nil)))))))
  exact ⟨a, fd, ["frame", "number"], gm, Fd.kp, hb, G⟩
theorem sc_Hand___init : FnScope ["self", "frame", "standing"] ["self", "frame", "standing"] (defScope s_Hand___init) := ⟨rfl, rfl, rfl, by decide +kernel, rfl, by decide +kernel, by decide +kernel⟩
theorem k_Hand___init {a : Addr} (F : ∃ fd, FunD K "__init__" "Hand.__init__" (defArgs s_Hand___init) (defBody s_Hand___init) (defScope s_Hand___init) [] [] a fd) (B : Bt mg) (oc_Hand : OCf K mg "Hand" ["frame", "now", "pushed"]) : ∃ fd ps, FnOk P w K mg base (L2.CX P w) 1 a fd ps (spM K mg "Hand" 2 (m_Hand___init)) ∧ Binds K fd ps [] := by
  obtain ⟨fd, Fd⟩ := F
  have hb : Binds K fd ["self", "frame", "standing"] [] := Fd.bindsN (fun _ _ _ _ _ _ us hl => match us, hl with | [_, _, _], _ => by kernel_rfl)
  have G : FnOk P w K mg base (L2.CX P w) 1 a fd ["self", "frame", "standing"] (spM K mg "Hand" 2 (mkM 2 "Hand" b_Hand___init)) := by
    refine fn_okM (k := 0) (g := b_Hand___init) (N0 := "self") (N' := ["frame", "standing"]) (ps := ["self", "frame", "standing"]) Fd sc_Hand___init (by decide) (by decide) ?_
    intro cdv A outer s H E hr
    exact dss_cons (ds_fldV 0 oc_Hand (by decide +kernel) (de_var 1 (hv := Or.inl (by kernel_rfl))) (hv := Or.inl (by kernel_rfl))) <|
    dss_cons (ds_fldV 0 oc_Hand (by decide +kernel) (de_frz (do_callTy call_list_of satO_list (by unfold L2.Gl; kernel_rfl) B.n_list (by decide +kernel) (da_cons (de_var 2 (hv := Or.inl (by kernel_rfl))) (da_nil)))) (hv := Or.inl (by kernel_rfl))) <|
    dss_one (ds_fldO 0 oc_Hand (by decide +kernel) (do_lst (da_nil)) (hv := Or.inl (by kernel_rfl)))
  exact ⟨fd, ["self", "frame", "standing"], G, hb⟩
theorem sc_law_cell : FnScope ["_law_script", "_law_k", "_law_number"] ["_law_script", "_law_k"] (defScope s_law_cell) := ⟨rfl, rfl, rfl, by decide +kernel, rfl, by decide +kernel, by decide +kernel⟩
theorem k_law_cell {a : Addr} (F : ∃ fd, FunD K "_law_cell" "_law_cell" (defArgs s_law_cell) (defBody s_law_cell) (defScope s_law_cell) [] [] a fd) (gm : mg "_law_cell" = some (.ref a)) (B : Bt mg) : Kn P w K mg base 1 "_law_cell" 2 m_law_cell := by
  obtain ⟨fd, Fd⟩ := F
  have hb : Binds K fd ["_law_script", "_law_k"] [] := Fd.bindsN (fun _ _ _ _ _ _ us hl => match us, hl with | [_, _], _ => by kernel_rfl)
  have G : FnOk P w K mg base (L2.CX P w) 1 a fd ["_law_script", "_law_k"] (spD K mg 2 (mk 3 b_law_cell)) := by
    refine fn_ok (k := 0) (g := b_law_cell) (N := ["_law_script", "_law_k", "_law_number"]) (ps := ["_law_script", "_law_k"]) Fd sc_law_cell (by decide) ?_
    intro cdv A outer s H E hr
    exact dss_cons (ds_if (dt_cmp op_lt sat_lt (de_var 1 (hv := Or.inl (by kernel_rfl))) (de_callB call_len sat_len (by unfold L2.Gl; kernel_rfl) B.n_len (by decide +kernel) (da_cons (de_var 0 (hv := Or.inl (by kernel_rfl))) (da_nil))) (nomark _)) (dss_one (ds_ret (de_ix ix_seq sat_ix (de_var 0 (hv := Or.inl (by kernel_rfl))) (de_var 1 (hv := Or.inl (by kernel_rfl))) (fun _ _ => rfl)))) (dss_nil)) <|
    dss_cons (ds_asg (de_op opAdd sat_add (de_op opMul sat_mul (de_var 1 (hv := Or.inl (by kernel_rfl))) (de_int)) (de_int)) (dg_name 2 sc_law_cell.nd (hx := Or.inl (by kernel_rfl)) (hf := .inl rfl))) <|
    dss_cons (ds_if (dt_cmp op_gt sat_gt (de_callB call_len sat_len (by unfold L2.Gl; kernel_rfl) B.n_len (by decide +kernel) (da_cons (de_var 0 (hv := Or.inl (by kernel_rfl))) (da_nil))) (de_int) (nomark _)) (dss_one (ds_asg (de_op opAdd sat_add (de_var 2 (hv := Or.inl (by kernel_rfl))) (de_op opMul sat_mul (de_op op_mod sat_mod (de_ix ix_seq sat_ix (de_var 0 (hv := Or.inl (by kernel_rfl))) (de_op op_mod sat_mod (de_op opMul sat_mul (de_var 1 (hv := Or.inl (by kernel_rfl))) (de_int)) (de_callB call_len sat_len (by unfold L2.Gl; kernel_rfl) B.n_len (by decide +kernel) (da_cons (de_var 0 (hv := Or.inl (by kernel_rfl))) (da_nil)))) (fun _ _ => rfl)) (de_int)) (de_int))) (dg_name 2 sc_law_cell.nd (hx := Or.inl (by kernel_rfl)) (hf := .inl rfl)))) (dss_nil)) <|
    dss_one (ds_ret (de_op op_mod sat_mod (de_op opMul sat_mul (de_var 2 (hv := Or.inl (by kernel_rfl))) (de_var 2 (hv := Or.inl (by kernel_rfl)))) (de_int)))
  exact ⟨a, fd, ["_law_script", "_law_k"], gm, Fd.kp, hb, G⟩
theorem sc_law_layout : FnScope ["_law_cell_here", "_law_upper", "_law_base", "_law_worth", "_law_lower", "_law_most"] ["_law_cell_here"] (defScope s_law_layout) := ⟨rfl, rfl, rfl, by decide +kernel, rfl, by decide +kernel, by decide +kernel⟩
theorem k_law_layout {a : Addr} (F : ∃ fd, FunD K "_law_layout" "_law_layout" (defArgs s_law_layout) (defBody s_law_layout) (defScope s_law_layout) [] [] a fd) (gm : mg "_law_layout" = some (.ref a)) (B : Bt mg) : Kn P w K mg base 1 "_law_layout" 1 m_law_layout := by
  obtain ⟨fd, Fd⟩ := F
  have hb : Binds K fd ["_law_cell_here"] [] := Fd.bindsN (fun _ _ _ _ _ _ us hl => match us, hl with | [_], _ => by kernel_rfl)
  have G : FnOk P w K mg base (L2.CX P w) 1 a fd ["_law_cell_here"] (spD K mg 1 (mk 6 b_law_layout)) := by
    refine fn_ok (k := 0) (g := b_law_layout) (N := ["_law_cell_here", "_law_upper", "_law_base", "_law_worth", "_law_lower", "_law_most"]) (ps := ["_law_cell_here"]) Fd sc_law_layout (by decide) ?_
    intro cdv A outer s H E hr
    exact dss_cons (ds_asg (de_op op_mod sat_mod (de_var 0 (hv := Or.inl (by kernel_rfl))) (de_op op_pow sat_pow (de_int) (de_int))) (dg_name 0 sc_law_layout.nd (hx := Or.inl (by kernel_rfl)) (hf := .inl rfl))) <|
    dss_cons (ds_asg (de_ix ix_seq sat_ix (de_frz (do_lst (da_cons (de_int) (da_cons (de_int) (da_cons (de_int) (da_cons (de_op opAdd sat_add (de_int) (de_op op_mod sat_mod (de_op op_fdivW sat_div (de_var 0 (hv := Or.inl (by kernel_rfl))) (de_int)) (de_int))) (da_nil))))))) (de_op op_mod sat_mod (de_var 0 (hv := Or.inl (by kernel_rfl))) (de_int)) (fun _ _ => rfl)) (dg_name 1 sc_law_layout.nd (hx := Or.inl (by kernel_rfl)) (hf := .inl rfl))) <|
    dss_cons (ds_if (dt_cmp (opEq hr.units) sat_eq (de_var 1 (hv := Or.inl (by kernel_rfl))) (de_int) (nomark _)) (dss_cons (ds_asg (de_op opAdd sat_add (de_int) (de_op op_mod sat_mod (de_op op_fdivW sat_div (de_var 0 (hv := Or.inl (by kernel_rfl))) (de_int)) (de_int))) (dg_name 2 sc_law_layout.nd (hx := Or.inl (by kernel_rfl)) (hf := .inl rfl))) <|
    dss_one (ds_ret (de_tup (da_cons (de_int) (da_cons (de_int) (da_cons (de_callB (call_min2 rfl) sat_min2 (by unfold L2.Gl; kernel_rfl) B.n_min (by decide +kernel) (da_cons (de_int) (da_cons (de_op opAdd sat_add (de_op op_sub sat_sub (de_var 2 (hv := Or.inl (by kernel_rfl))) (de_int)) (de_op op_mod sat_mod (de_op op_fdivW sat_div (de_var 0 (hv := Or.inl (by kernel_rfl))) (de_int)) (de_int))) (da_nil)))) (da_cons (de_var 2 (hv := Or.inl (by kernel_rfl))) (da_nil)))))))) (dss_nil)) <|
    dss_cons (ds_asg (de_ix ix_seq sat_ix (de_frz (do_lst (da_cons (de_int) (da_cons (de_op opAdd sat_add (de_int) (de_op op_mod sat_mod (de_op op_fdivW sat_div (de_var 0 (hv := Or.inl (by kernel_rfl))) (de_int)) (de_int))) (da_nil))))) (de_op op_mod sat_mod (de_op op_fdivW sat_div (de_var 0 (hv := Or.inl (by kernel_rfl))) (de_int)) (de_int)) (fun _ _ => rfl)) (dg_name 3 sc_law_layout.nd (hx := Or.inl (by kernel_rfl)) (hf := .inl rfl))) <|
    dss_cons (ds_asg (de_op opAdd sat_add (de_op op_sub sat_sub (de_var 3 (hv := Or.inl (by kernel_rfl))) (de_int)) (de_op op_mod sat_mod (de_op op_fdivW sat_div (de_var 0 (hv := Or.inl (by kernel_rfl))) (de_int)) (de_int))) (dg_name 4 sc_law_layout.nd (hx := Or.inl (by kernel_rfl)) (hf := .inl rfl))) <|
    dss_cons (ds_asg (de_callB (call_min2 rfl) sat_min2 (by unfold L2.Gl; kernel_rfl) B.n_min (by decide +kernel) (da_cons (de_int) (da_cons (de_op opAdd sat_add (de_op opAdd sat_add (de_op opMul sat_mul (de_var 1 (hv := Or.inl (by kernel_rfl))) (de_var 3 (hv := Or.inl (by kernel_rfl)))) (de_var 4 (hv := Or.inl (by kernel_rfl)))) (de_int)) (da_nil)))) (dg_name 5 sc_law_layout.nd (hx := Or.inl (by kernel_rfl)) (hf := .inl rfl))) <|
    dss_one (ds_ret (de_tup (da_cons (de_var 1 (hv := Or.inl (by kernel_rfl))) (da_cons (de_var 3 (hv := Or.inl (by kernel_rfl))) (da_cons (de_var 4 (hv := Or.inl (by kernel_rfl))) (da_cons (de_ix ix_seq sat_ix (de_frz (do_lst (da_cons (de_var 5 (hv := Or.inl (by kernel_rfl))) (da_cons (de_op opAdd sat_add (de_int) (de_op op_mod sat_mod (de_op op_fdivW sat_div (de_var 0 (hv := Or.inl (by kernel_rfl))) (de_int)) (de_op op_sub sat_sub (de_var 5 (hv := Or.inl (by kernel_rfl))) (de_int)))) (da_nil))))) (de_op op_mod sat_mod (de_op op_fdivW sat_div (de_var 0 (hv := Or.inl (by kernel_rfl))) (de_int)) (de_int)) (fun _ _ => rfl)) (da_nil)))))))
  exact ⟨a, fd, ["_law_cell_here"], gm, Fd.kp, hb, G⟩
theorem sc_law_plain : FnScope ["_law_layout_here", "_law_number", "_law_high"] ["_law_layout_here", "_law_number"] (defScope s_law_plain) := ⟨rfl, rfl, rfl, by decide +kernel, rfl, by decide +kernel, by decide +kernel⟩
theorem k_law_plain {a : Addr} (F : ∃ fd, FunD K "_law_plain" "_law_plain" (defArgs s_law_plain) (defBody s_law_plain) (defScope s_law_plain) [] [] a fd) (gm : mg "_law_plain" = some (.ref a)) (B : Bt mg) : Kn P w K mg base 1 "_law_plain" 2 m_law_plain := by
  obtain ⟨fd, Fd⟩ := F
  have hb : Binds K fd ["_law_layout_here", "_law_number"] [] := Fd.bindsN (fun _ _ _ _ _ _ us hl => match us, hl with | [_, _], _ => by kernel_rfl)
  have G : FnOk P w K mg base (L2.CX P w) 1 a fd ["_law_layout_here", "_law_number"] (spD K mg 2 (mk 3 b_law_plain)) := by
    refine fn_ok (k := 0) (g := b_law_plain) (N := ["_law_layout_here", "_law_number", "_law_high"]) (ps := ["_law_layout_here", "_law_number"]) Fd sc_law_plain (by decide) ?_
    intro cdv A outer s H E hr
    exact dss_cons (ds_asg (de_callB (call_min2 rfl) sat_min2 (by unfold L2.Gl; kernel_rfl) B.n_min (by decide +kernel) (da_cons (de_ix ix_seq sat_ix (de_var 0 (hv := Or.inl (by kernel_rfl))) (de_int) (fun _ _ => rfl)) (da_cons (de_op op_fdivW sat_div (de_var 1 (hv := Or.inl (by kernel_rfl))) (de_ix ix_seq sat_ix (de_var 0 (hv := Or.inl (by kernel_rfl))) (de_int) (fun _ _ => rfl))) (da_nil)))) (dg_name 2 sc_law_plain.nd (hx := Or.inl (by kernel_rfl)) (hf := .inl rfl))) <|
    dss_one (ds_ret (de_tup (da_cons (de_var 2 (hv := Or.inl (by kernel_rfl))) (da_cons (de_op op_sub sat_sub (de_var 1 (hv := Or.inl (by kernel_rfl))) (de_op opMul sat_mul (de_var 2 (hv := Or.inl (by kernel_rfl))) (de_ix ix_seq sat_ix (de_var 0 (hv := Or.inl (by kernel_rfl))) (de_int) (fun _ _ => rfl)))) (da_nil)))))
  exact ⟨a, fd, ["_law_layout_here", "_law_number"], gm, Fd.kp, hb, G⟩
theorem sc_law_borne : FnScope ["_law_frame_here", "_law_standing_here", "_law_found", "_law_place", "_law_rod", "_law_layout_here", "_law_high", "_law_low"] ["_law_frame_here", "_law_standing_here"] (defScope s_law_borne) := ⟨rfl, rfl, rfl, by decide +kernel, rfl, by decide +kernel, by decide +kernel⟩
theorem k_law_borne {a : Addr} (F : ∃ fd, FunD K "_law_borne" "_law_borne" (defArgs s_law_borne) (defBody s_law_borne) (defScope s_law_borne) [] [] a fd) (gm : mg "_law_borne" = some (.ref a)) (B : Bt mg) : Kn P w K mg base 1 "_law_borne" 2 m_law_borne := by
  obtain ⟨fd, Fd⟩ := F
  have hb : Binds K fd ["_law_frame_here", "_law_standing_here"] [] := Fd.bindsN (fun _ _ _ _ _ _ us hl => match us, hl with | [_, _], _ => by kernel_rfl)
  have G : FnOk P w K mg base (L2.CX P w) 1 a fd ["_law_frame_here", "_law_standing_here"] (spD K mg 2 (mk 8 b_law_borne)) := by
    refine fn_ok (k := 0) (g := b_law_borne) (N := ["_law_frame_here", "_law_standing_here", "_law_found", "_law_place", "_law_rod", "_law_layout_here", "_law_high", "_law_low"]) (ps := ["_law_frame_here", "_law_standing_here"]) Fd sc_law_borne (by decide) ?_
    intro cdv A outer s H E hr
    exact dss_cons (ds_asg (de_int) (dg_name 2 sc_law_borne.nd (hx := Or.inl (by kernel_rfl)) (hf := .inl rfl))) <|
    dss_cons (ds_asg (de_int) (dg_name 3 sc_law_borne.nd (hx := Or.inl (by kernel_rfl)) (hf := .inl rfl))) <|
    dss_cons (ds_for passOwnOf rfl (di_enum (by unfold L2.Gl; kernel_rfl) B.n_enumerate (da_cons (de_var 0 (hv := Or.inl (by kernel_rfl))) (da_nil))) (dg_tup rfl (dgs_cons (dg_name 4 sc_law_borne.nd (hx := Or.inl (by kernel_rfl)) (hf := .inl rfl)) (dgs_cons (dg_name 5 sc_law_borne.nd (hx := Or.inl (by kernel_rfl)) (hf := .inl rfl)) (dgs_nil)))) (dss_wp [4, 5, 6, 7] (dss_cons (ds_asg (de_ix ix_seq sat_ix (de_var 1 (hv := Or.inl (by kernel_rfl))) (de_var 4 (hv := Or.inl (by kernel_rfl))) (fun _ _ => rfl)) (dg_tup rfl (dgs_cons (dg_name 6 sc_law_borne.nd (hx := Or.inl (by kernel_rfl)) (hf := .inl rfl)) (dgs_cons (dg_name 7 sc_law_borne.nd (hx := Or.inl (by kernel_rfl)) (hf := .inl rfl)) (dgs_nil))))) <|
    dss_cons (ds_asg (de_op opAdd sat_add (de_var 2 (hv := Or.inl (by kernel_rfl))) (de_op opMul sat_mul (de_op opAdd sat_add (de_op opMul sat_mul (de_var 6 (hv := Or.inl (by kernel_rfl))) (de_ix ix_seq sat_ix (de_var 5 (hv := Or.inl (by kernel_rfl))) (de_int) (fun _ _ => rfl))) (de_var 7 (hv := Or.inl (by kernel_rfl)))) (de_var 3 (hv := Or.inl (by kernel_rfl))))) (dg_name 2 sc_law_borne.nd (hx := Or.inl (by kernel_rfl)) (hf := .inl rfl))) <|
    dss_one (ds_asg (de_op opMul sat_mul (de_var 3 (hv := Or.inl (by kernel_rfl))) (de_ix ix_seq sat_ix (de_var 5 (hv := Or.inl (by kernel_rfl))) (de_int) (fun _ _ => rfl))) (dg_name 3 sc_law_borne.nd (hx := Or.inl (by kernel_rfl)) (hf := .inl rfl)))))) <|
    dss_one (ds_ret (de_var 2 (hv := Or.inl (by kernel_rfl))))
  exact ⟨a, fd, ["_law_frame_here", "_law_standing_here"], gm, Fd.kp, hb, G⟩
theorem sc_law_digits : FnScope ["_law_frame_here", "_law_number", "_law_found", "_law_layout_here"] ["_law_frame_here", "_law_number"] (defScope s_law_digits) := ⟨rfl, rfl, rfl, by decide +kernel, rfl, by decide +kernel, by decide +kernel⟩
theorem ko_law_digits {a : Addr} (F : ∃ fd, FunD K "_law_digits" "_law_digits" (defArgs s_law_digits) (defBody s_law_digits) (defScope s_law_digits) [] [] a fd) (gm : mg "_law_digits" = some (.ref a)) (B : Bt mg) : KnO P w K mg base 1 "_law_digits" 2 mo_law_digits := by
  obtain ⟨fd, Fd⟩ := F
  have hb : Binds K fd ["_law_frame_here", "_law_number"] [] := Fd.bindsN (fun _ _ _ _ _ _ us hl => match us, hl with | [_, _], _ => by kernel_rfl)
  have G : FnOk P w K mg base (L2.CX P w) 1 a fd ["_law_frame_here", "_law_number"] (spO K mg 2 (mkO 4 b_law_digits)) := by
    refine fn_okO (k := 0) (g := b_law_digits) (N := ["_law_frame_here", "_law_number", "_law_found", "_law_layout_here"]) (ps := ["_law_frame_here", "_law_number"]) Fd sc_law_digits (by decide) ?_
    intro cdv A outer s H E hr
    exact dss_cons (ds_setO 2 sc_law_digits.nd (do_lst (da_nil)) (hx := Or.inl (by kernel_rfl)) (hf := .inl rfl)) <|
    dss_cons (ds_for passOwnOf rfl (di_list (de_slice (de_var 0 (hv := Or.inl (by kernel_rfl))) (dp_no) (dp_so (de_un un_neg sat_neg (de_int))))) (dg_name 3 sc_law_digits.nd (hx := Or.inl (by kernel_rfl)) (hf := .inl rfl)) (dss_wp [3] (dss_cons (ds_append 2 (de_op op_mod sat_mod (de_var 1 (hv := Or.inl (by kernel_rfl))) (de_ix ix_seq sat_ix (de_var 3 (hv := Or.inl (by kernel_rfl))) (de_int) (fun _ _ => rfl))) (hv := Or.inl (by kernel_rfl))) <|
    dss_one (ds_asg (de_op op_fdivW sat_div (de_var 1 (hv := Or.inl (by kernel_rfl))) (de_ix ix_seq sat_ix (de_var 3 (hv := Or.inl (by kernel_rfl))) (de_int) (fun _ _ => rfl))) (dg_name 1 sc_law_digits.nd (hx := Or.inl (by kernel_rfl)) (hf := .inl rfl)))))) <|
    dss_one (ds_frz 2 (ds_retO (do_op opAdd satO_add (de_var 2 (hv := Or.inl (by kernel_rfl))) (de_frz (do_lst (da_cons (de_var 1 (hv := Or.inl (by kernel_rfl))) (da_nil)))))))
  exact ⟨a, fd, ["_law_frame_here", "_law_number"], gm, Fd.kp, hb, G⟩
theorem sc_law_whole : FnScope ["_law_found"] ["_law_found"] (defScope s_law_whole) := ⟨rfl, rfl, rfl, by decide +kernel, rfl, by decide +kernel, by decide +kernel⟩
theorem k_law_whole {a : Addr} (F : ∃ fd, FunD K "_law_whole" "_law_whole" (defArgs s_law_whole) (defBody s_law_whole) (defScope s_law_whole) [] [] a fd) (gm : mg "_law_whole" = some (.ref a)) (B : Bt mg) : Kn P w K mg base 1 "_law_whole" 1 m_law_whole := by
  obtain ⟨fd, Fd⟩ := F
  have hb : Binds K fd ["_law_found"] [] := Fd.bindsN (fun _ _ _ _ _ _ us hl => match us, hl with | [_], _ => by kernel_rfl)
  have G : FnOk P w K mg base (L2.CX P w) 1 a fd ["_law_found"] (spD K mg 1 (mk 1 b_law_whole)) := by
    refine fn_ok (k := 0) (g := b_law_whole) (N := ["_law_found"]) (ps := ["_law_found"]) Fd sc_law_whole (by decide) ?_
    intro cdv A outer s H E hr
    exact dss_one (ds_ret (de_and (de_callB call_isi sat_isi (by unfold L2.Gl; kernel_rfl) B.n_isinstance (by decide +kernel) (da_cons (de_var 0 (hv := Or.inl (by kernel_rfl))) (da_cons (de_ty (by unfold L2.Gl; kernel_rfl) B.n_int (by decide +kernel)) (da_nil)))) (de_one (de_not (de_callB call_isi sat_isi (by unfold L2.Gl; kernel_rfl) B.n_isinstance (by decide +kernel) (da_cons (de_var 0 (hv := Or.inl (by kernel_rfl))) (da_cons (de_ty (by unfold L2.Gl; kernel_rfl) B.n_bool (by decide +kernel)) (da_nil))))))))
  exact ⟨a, fd, ["_law_found"], gm, Fd.kp, hb, G⟩
theorem sc_law_with : FnScope ["_law_row_here", "_law_slip_here"] ["_law_row_here", "_law_slip_here"] (defScope s_law_with) := ⟨rfl, rfl, rfl, by decide +kernel, rfl, by decide +kernel, by decide +kernel⟩
theorem k_law_with {a : Addr} (F : ∃ fd, FunD K "_law_with" "_law_with" (defArgs s_law_with) (defBody s_law_with) (defScope s_law_with) [] [] a fd) (gm : mg "_law_with" = some (.ref a)) (B : Bt mg) : Kn P w K mg base 1 "_law_with" 2 m_law_with := by
  obtain ⟨fd, Fd⟩ := F
  have hb : Binds K fd ["_law_row_here", "_law_slip_here"] [] := Fd.bindsN (fun _ _ _ _ _ _ us hl => match us, hl with | [_, _], _ => by kernel_rfl)
  have G : FnOk P w K mg base (L2.CX P w) 1 a fd ["_law_row_here", "_law_slip_here"] (spD K mg 2 (mk 2 b_law_with)) := by
    refine fn_ok (k := 0) (g := b_law_with) (N := ["_law_row_here", "_law_slip_here"]) (ps := ["_law_row_here", "_law_slip_here"]) Fd sc_law_with (by decide) ?_
    intro cdv A outer s H E hr
    exact dss_cons (ds_if (dt_cmp op_isN sat_is (de_ix ix_seq sat_ix (de_var 1 (hv := Or.inl (by kernel_rfl))) (de_int) (fun _ _ => rfl)) (de_non) (nomark _)) (dss_one (ds_ret (de_op opAdd sat_add (de_slice (de_var 0 (hv := Or.inl (by kernel_rfl))) (dp_no) (dp_so (de_ix ix_seq sat_ix (de_var 1 (hv := Or.inl (by kernel_rfl))) (de_int) (fun _ _ => rfl)))) (de_slice (de_var 0 (hv := Or.inl (by kernel_rfl))) (dp_so (de_op opAdd sat_add (de_ix ix_seq sat_ix (de_var 1 (hv := Or.inl (by kernel_rfl))) (de_int) (fun _ _ => rfl)) (de_int))) (dp_no))))) (dss_nil)) <|
    dss_one (ds_ret (de_op opAdd sat_add (de_op opAdd sat_add (de_slice (de_var 0 (hv := Or.inl (by kernel_rfl))) (dp_no) (dp_so (de_ix ix_seq sat_ix (de_var 1 (hv := Or.inl (by kernel_rfl))) (de_int) (fun _ _ => rfl)))) (de_frz (do_lst (da_cons (de_ix ix_seq sat_ix (de_var 1 (hv := Or.inl (by kernel_rfl))) (de_int) (fun _ _ => rfl)) (da_nil))))) (de_slice (de_var 0 (hv := Or.inl (by kernel_rfl))) (dp_so (de_op opAdd sat_add (de_ix ix_seq sat_ix (de_var 1 (hv := Or.inl (by kernel_rfl))) (de_int) (fun _ _ => rfl)) (de_int))) (dp_no))))
  exact ⟨a, fd, ["_law_row_here", "_law_slip_here"], gm, Fd.kp, hb, G⟩
theorem sc_borne_by : FnScope ["frame", "standing", "found", "layout", "one"] ["frame", "standing"] (defScope s_borne_by) := ⟨rfl, rfl, rfl, by decide +kernel, rfl, by decide +kernel, by decide +kernel⟩
theorem k_borne_by {a : Addr} (F : ∃ fd, FunD K "borne_by" "borne_by" (defArgs s_borne_by) (defBody s_borne_by) (defScope s_borne_by) [] [] a fd) (gm : mg "borne_by" = some (.ref a)) (B : Bt mg) (h_count_of : Kn P w K mg base 1 "count_of" 2 m_count_of) : Kn P w K mg base 2 "borne_by" 2 m_borne_by := by
  obtain ⟨fd, Fd⟩ := F
  have hb : Binds K fd ["frame", "standing"] [] := Fd.bindsN (fun _ _ _ _ _ _ us hl => match us, hl with | [_, _], _ => by kernel_rfl)
  have G : FnOk P w K mg base (L2.CX P w) 2 a fd ["frame", "standing"] (spD K mg 2 (mk 5 b_borne_by)) := by
    refine fn_ok (k := 1) (g := b_borne_by) (N := ["frame", "standing", "found", "layout", "one"]) (ps := ["frame", "standing"]) Fd sc_borne_by (by decide) ?_
    intro cdv A outer s H E hr
    exact dss_cons (ds_asg (de_int) (dg_name 2 sc_borne_by.nd (hx := Or.inl (by kernel_rfl)) (hf := .inl rfl))) <|
    dss_cons (ds_for passOwnOf rfl (di_rev (by unfold L2.Gl; kernel_rfl) B.n_reversed (da_cons (de_frz (do_listZip rfl (da_cons (de_var 0 (hv := Or.inl (by kernel_rfl))) (da_cons (de_var 1 (hv := Or.inl (by kernel_rfl))) (da_nil))) (by unfold L2.Gl; kernel_rfl) B.n_list (by unfold L2.Gl; kernel_rfl) B.n_zip (by decide +kernel))) (da_nil))) (dg_tup rfl (dgs_cons (dg_name 3 sc_borne_by.nd (hx := Or.inl (by kernel_rfl)) (hf := .inl rfl)) (dgs_cons (dg_name 4 sc_borne_by.nd (hx := Or.inl (by kernel_rfl)) (hf := .inl rfl)) (dgs_nil)))) (dss_one (ds_asg (de_op opAdd sat_add (de_op opMul sat_mul (de_var 2 (hv := Or.inl (by kernel_rfl))) (de_ix ix_seq sat_ix (de_var 3 (hv := Or.inl (by kernel_rfl))) (de_int) (fun _ _ => rfl))) (de_kn h_count_of hr (da_cons (de_var 3 (hv := Or.inl (by kernel_rfl))) (da_cons (de_var 4 (hv := Or.inl (by kernel_rfl))) (da_nil))) okWOf)) (dg_name 2 sc_borne_by.nd (hx := Or.inl (by kernel_rfl)) (hf := .inl rfl))))) <|
    dss_one (ds_ret (de_var 2 (hv := Or.inl (by kernel_rfl))))
  exact ⟨a, fd, ["frame", "standing"], gm, Fd.kp, hb, G⟩
theorem sc_Hand_stands : FnScope ["self", "rod"] ["self", "rod"] (defScope s_Hand_stands) := ⟨rfl, rfl, rfl, by decide +kernel, rfl, by decide +kernel, by decide +kernel⟩
theorem k_Hand_stands {a : Addr} (F : ∃ fd, FunD K "stands" "Hand.stands" (defArgs s_Hand_stands) (defBody s_Hand_stands) (defScope s_Hand_stands) [] [] a fd) (B : Bt mg) (h_count_of : Kn P w K mg base 1 "count_of" 2 m_count_of) (E_ : ExF K mg cs tb) (a_now : ∀ c ∈ cs_now, ∀ C, mg c = some (.ref C) → PySem.W.findIn K (.ref C) "now" = some none) (a_frame : ∀ c ∈ cs_frame, ∀ C, mg c = some (.ref C) → PySem.W.findIn K (.ref C) "frame" = some none) : ∃ fd ps, FnOk P w K mg base (L2.CX P w) 2 a fd ps (spD K mg 2 m_Hand_stands) ∧ Binds K fd ps [] := by
  obtain ⟨fd, Fd⟩ := F
  have hb : Binds K fd ["self", "rod"] [] := Fd.bindsN (fun _ _ _ _ _ _ us hl => match us, hl with | [_, _], _ => by kernel_rfl)
  have G : FnOk P w K mg base (L2.CX P w) 2 a fd ["self", "rod"] (spD K mg 2 (mk 2 b_Hand_stands)) := by
    refine fn_ok (k := 1) (g := b_Hand_stands) (N := ["self", "rod"]) (ps := ["self", "rod"]) Fd sc_Hand_stands (by decide) ?_
    intro cdv A outer s H E hr
    exact dss_one (ds_ret (de_kn h_count_of hr (da_cons (de_ix ix_seq sat_ix (de_xf (cs := ["Hand"]) (E_.sub (by decide +kernel)) (fun c hc => a_frame c ((by decide +kernel : ∀ c ∈ (["Hand"] : List Str), c ∈ cs_frame) c hc)) (de_var 0 (hv := Or.inl (by kernel_rfl)))) (de_var 1 (hv := Or.inl (by kernel_rfl))) (fun _ _ => rfl)) (da_cons (de_ix ix_seq sat_ix (de_xf (cs := ["Hand"]) (E_.sub (by decide +kernel)) (fun c hc => a_now c ((by decide +kernel : ∀ c ∈ (["Hand"] : List Str), c ∈ cs_now) c hc)) (de_var 0 (hv := Or.inl (by kernel_rfl)))) (de_var 1 (hv := Or.inl (by kernel_rfl))) (fun _ _ => rfl)) (da_nil))) okWOf))
  exact ⟨fd, ["self", "rod"], G, hb⟩
theorem sc_law_frame : FnScope ["_law_script", "_law_at", "_law_most", "_law_k"] ["_law_script", "_law_at", "_law_most"] (defScope s_law_frame) := ⟨rfl, rfl, rfl, by decide +kernel, rfl, by decide +kernel, by decide +kernel⟩
theorem ko_law_frame {a : Addr} (F : ∃ fd, FunD K "_law_frame" "_law_frame" (defArgs s_law_frame) (defBody s_law_frame) (defScope s_law_frame) [] [] a fd) (gm : mg "_law_frame" = some (.ref a)) (B : Bt mg) (h_law_cell : Kn P w K mg base 1 "_law_cell" 2 m_law_cell) (h_law_layout : Kn P w K mg base 1 "_law_layout" 1 m_law_layout) : KnO P w K mg base 2 "_law_frame" 3 mo_law_frame := by
  obtain ⟨fd, Fd⟩ := F
  have hb : Binds K fd ["_law_script", "_law_at", "_law_most"] [] := Fd.bindsN (fun _ _ _ _ _ _ us hl => match us, hl with | [_, _, _], _ => by kernel_rfl)
  have G : FnOk P w K mg base (L2.CX P w) 2 a fd ["_law_script", "_law_at", "_law_most"] (spO K mg 3 (mkO 4 b_law_frame)) := by
    refine fn_okO (k := 1) (g := b_law_frame) (N := ["_law_script", "_law_at", "_law_most", "_law_k"]) (ps := ["_law_script", "_law_at", "_law_most"]) Fd sc_law_frame (by decide) ?_
    intro cdv A outer s H E hr
    exact dss_one (ds_retO (do_lc (own := [("_law_k", 3)]) rfl sc_law_frame.nd (di_range1 (by unfold L2.Gl; kernel_rfl) B.n_range (da_cons (de_op opAdd sat_add (de_int) (de_op op_mod sat_mod (de_kn h_law_cell hr (da_cons (de_var 0 (hv := Or.inr (Or.inl (by kernel_rfl)))) (da_cons (de_var 1 (hv := Or.inr (Or.inl (by kernel_rfl)))) (da_nil))) okWOf) (de_var 2 (hv := Or.inl (by kernel_rfl))))) (da_nil))) (blkOk_by (own := [("_law_k", 3)]) (N := ["_law_script", "_law_at", "_law_most", "_law_k"]) (sc := defScope s_law_frame) (by decide +kernel)) (fun _ _ _ _ _ => dg_name 3 sc_law_frame.nd (hx := Or.inl (by kernel_rfl)) (hf := .inr (by kernel_rfl))) (fun _ _ _ _ _ => dts_nil) (fun _ _ _ _ _ => de_kn h_law_layout hr (da_cons (de_kn h_law_cell hr (da_cons (de_var 0 (hv := Or.inr (Or.inl (by kernel_rfl)))) (da_cons (de_op opAdd sat_add (de_op opAdd sat_add (de_var 1 (hv := Or.inr (Or.inl (by kernel_rfl)))) (de_int)) (de_var 3 (hv := Or.inl (by kernel_rfl)))) (da_nil))) okW0) (da_nil)) okW0)))
  exact ⟨a, fd, ["_law_script", "_law_at", "_law_most"], gm, Fd.kp, hb, G⟩
theorem sc_law_standing : FnScope ["_law_script", "_law_at", "_law_frame_here", "_law_found", "_law_rod", "_law_layout_here", "_law_cell_here"] ["_law_script", "_law_at", "_law_frame_here"] (defScope s_law_standing) := ⟨rfl, rfl, rfl, by decide +kernel, rfl, by decide +kernel, by decide +kernel⟩
theorem ko_law_standing {a : Addr} (F : ∃ fd, FunD K "_law_standing" "_law_standing" (defArgs s_law_standing) (defBody s_law_standing) (defScope s_law_standing) [] [] a fd) (gm : mg "_law_standing" = some (.ref a)) (B : Bt mg) (h_law_cell : Kn P w K mg base 1 "_law_cell" 2 m_law_cell) : KnO P w K mg base 2 "_law_standing" 3 mo_law_standing := by
  obtain ⟨fd, Fd⟩ := F
  have hb : Binds K fd ["_law_script", "_law_at", "_law_frame_here"] [] := Fd.bindsN (fun _ _ _ _ _ _ us hl => match us, hl with | [_, _, _], _ => by kernel_rfl)
  have G : FnOk P w K mg base (L2.CX P w) 2 a fd ["_law_script", "_law_at", "_law_frame_here"] (spO K mg 3 (mkO 7 b_law_standing)) := by
    refine fn_okO (k := 1) (g := b_law_standing) (N := ["_law_script", "_law_at", "_law_frame_here", "_law_found", "_law_rod", "_law_layout_here", "_law_cell_here"]) (ps := ["_law_script", "_law_at", "_law_frame_here"]) Fd sc_law_standing (by decide) ?_
    intro cdv A outer s H E hr
    exact dss_cons (ds_setO 3 sc_law_standing.nd (do_lst (da_nil)) (hx := Or.inl (by kernel_rfl)) (hf := .inl rfl)) <|
    dss_cons (ds_for passOwnOf rfl (di_enum (by unfold L2.Gl; kernel_rfl) B.n_enumerate (da_cons (de_var 2 (hv := Or.inl (by kernel_rfl))) (da_nil))) (dg_tup rfl (dgs_cons (dg_name 4 sc_law_standing.nd (hx := Or.inl (by kernel_rfl)) (hf := .inl rfl)) (dgs_cons (dg_name 5 sc_law_standing.nd (hx := Or.inl (by kernel_rfl)) (hf := .inl rfl)) (dgs_nil)))) (dss_wp [4, 5, 6] (dss_cons (ds_asg (de_op op_mod sat_mod (de_kn h_law_cell hr (da_cons (de_var 0 (hv := Or.inl (by kernel_rfl))) (da_cons (de_op opAdd sat_add (de_var 1 (hv := Or.inl (by kernel_rfl))) (de_var 4 (hv := Or.inl (by kernel_rfl)))) (da_nil))) okWOf) (de_op op_pow sat_pow (de_int) (de_int))) (dg_name 6 sc_law_standing.nd (hx := Or.inl (by kernel_rfl)) (hf := .inl rfl))) <|
    dss_one (ds_append 3 (de_tup (da_cons (de_op op_mod sat_mod (de_var 6 (hv := Or.inl (by kernel_rfl))) (de_op opAdd sat_add (de_ix ix_seq sat_ix (de_var 5 (hv := Or.inl (by kernel_rfl))) (de_int) (fun _ _ => rfl)) (de_int))) (da_cons (de_op op_mod sat_mod (de_op op_fdivW sat_div (de_var 6 (hv := Or.inl (by kernel_rfl))) (de_int)) (de_op opAdd sat_add (de_ix ix_seq sat_ix (de_var 5 (hv := Or.inl (by kernel_rfl))) (de_int) (fun _ _ => rfl)) (de_int))) (da_nil)))) (hv := Or.inl (by kernel_rfl)))))) <|
    dss_one (ds_retS 3 (hv := Or.inl (by kernel_rfl)))
  exact ⟨a, fd, ["_law_script", "_law_at", "_law_frame_here"], gm, Fd.kp, hb, G⟩
theorem sc_law_tidy : FnScope ["_law_frame_here", "_law_number", "_law_digits_here", "_law_rod", "_law_layout_here"] ["_law_frame_here", "_law_number"] (defScope s_law_tidy) := ⟨rfl, rfl, rfl, by decide +kernel, rfl, by decide +kernel, by decide +kernel⟩
theorem k_law_tidy {a : Addr} (F : ∃ fd, FunD K "_law_tidy" "_law_tidy" (defArgs s_law_tidy) (defBody s_law_tidy) (defScope s_law_tidy) [] [] a fd) (gm : mg "_law_tidy" = some (.ref a)) (B : Bt mg) (h_law_plain : Kn P w K mg base 1 "_law_plain" 2 m_law_plain) (h_law_digits : Kn P w K mg base 1 "_law_digits" 2 m_law_digits) : Kn P w K mg base 2 "_law_tidy" 2 m_law_tidy := by
  obtain ⟨fd, Fd⟩ := F
  have hb : Binds K fd ["_law_frame_here", "_law_number"] [] := Fd.bindsN (fun _ _ _ _ _ _ us hl => match us, hl with | [_, _], _ => by kernel_rfl)
  have G : FnOk P w K mg base (L2.CX P w) 2 a fd ["_law_frame_here", "_law_number"] (spD K mg 2 (mk 5 b_law_tidy)) := by
    refine fn_ok (k := 1) (g := b_law_tidy) (N := ["_law_frame_here", "_law_number", "_law_digits_here", "_law_rod", "_law_layout_here"]) (ps := ["_law_frame_here", "_law_number"]) Fd sc_law_tidy (by decide) ?_
    intro cdv A outer s H E hr
    exact dss_cons (ds_asg (de_kn h_law_digits hr (da_cons (de_var 0 (hv := Or.inl (by kernel_rfl))) (da_cons (de_var 1 (hv := Or.inl (by kernel_rfl))) (da_nil))) okWOf) (dg_name 2 sc_law_tidy.nd (hx := Or.inr (by kernel_rfl)) (hf := .inl rfl))) <|
    dss_cons (ds_if (dt_cmp op_gt sat_gt (de_ix ix_seq sat_ix (de_var 2 (hv := Or.inr (Or.inl (by kernel_rfl)))) (de_un un_neg sat_neg (de_int)) (fun _ _ => rfl)) (de_op opAdd sat_add (de_op opMul sat_mul (de_ix ix_seq sat_ix (de_ix ix_seq sat_ix (de_var 0 (hv := Or.inl (by kernel_rfl))) (de_un un_neg sat_neg (de_int)) (fun _ _ => rfl)) (de_int) (fun _ _ => rfl)) (de_ix ix_seq sat_ix (de_ix ix_seq sat_ix (de_var 0 (hv := Or.inl (by kernel_rfl))) (de_un un_neg sat_neg (de_int)) (fun _ _ => rfl)) (de_int) (fun _ _ => rfl))) (de_ix ix_seq sat_ix (de_ix ix_seq sat_ix (de_var 0 (hv := Or.inl (by kernel_rfl))) (de_un un_neg sat_neg (de_int)) (fun _ _ => rfl)) (de_int) (fun _ _ => rfl))) (nomark _)) (dss_one (ds_ret (de_non))) (dss_nil)) <|
    dss_one (ds_ret (de_frz (do_lc (own := [("_law_rod", 3), ("_law_layout_here", 4)]) rfl sc_law_tidy.nd (di_enum (by unfold L2.Gl; kernel_rfl) B.n_enumerate (da_cons (de_var 0 (hv := Or.inl (by kernel_rfl))) (da_nil))) (blkOk_by (own := [("_law_rod", 3), ("_law_layout_here", 4)]) (N := ["_law_frame_here", "_law_number", "_law_digits_here", "_law_rod", "_law_layout_here"]) (sc := defScope s_law_tidy) (by decide +kernel)) (fun _ _ _ _ _ => dg_tup rfl (dgs_cons (dg_name 3 sc_law_tidy.nd (hx := Or.inl (by kernel_rfl)) (hf := .inr (by kernel_rfl))) (dgs_cons (dg_name 4 sc_law_tidy.nd (hx := Or.inl (by kernel_rfl)) (hf := .inr (by kernel_rfl))) (dgs_nil)))) (fun _ _ _ _ _ => dts_nil) (fun _ _ _ _ _ => de_kn h_law_plain hr (da_cons (de_var 4 (hv := Or.inl (by kernel_rfl))) (da_cons (de_ix ix_seq sat_ix (de_var 2 (hv := Or.inr (Or.inl (by kernel_rfl)))) (de_var 3 (hv := Or.inl (by kernel_rfl))) (fun _ _ => rfl)) (da_nil))) okW0))))
  exact ⟨a, fd, ["_law_frame_here", "_law_number"], gm, Fd.kp, hb, G⟩
theorem sc_law_pushed : FnScope ["_law_frame_here", "_law_standing_here", "_law_row_here", "_law_now", "_law_move_here", "_law_rod", "_law_high", "_law_low"] ["_law_frame_here", "_law_standing_here", "_law_row_here"] (defScope s_law_pushed) := ⟨rfl, rfl, rfl, by decide +kernel, rfl, by decide +kernel, by decide +kernel⟩
theorem k_law_pushed {a : Addr} (F : ∃ fd, FunD K "_law_pushed" "_law_pushed" (defArgs s_law_pushed) (defBody s_law_pushed) (defScope s_law_pushed) [] [] a fd) (gm : mg "_law_pushed" = some (.ref a)) (B : Bt mg) (h_law_whole : Kn P w K mg base 1 "_law_whole" 1 m_law_whole) (M_word : KnM P w K mg base 1 tb_word "word" 0) (E_ : ExF K mg cs tb) (a_beads : ∀ c ∈ cs_beads, ∀ C, mg c = some (.ref C) → PySem.W.findIn K (.ref C) "beads" = some none) (a_rod : ∀ c ∈ cs_rod, ∀ C, mg c = some (.ref C) → PySem.W.findIn K (.ref C) "rod" = some none) : Kn P w K mg base 2 "_law_pushed" 3 m_law_pushed := by
  obtain ⟨fd, Fd⟩ := F
  have hb : Binds K fd ["_law_frame_here", "_law_standing_here", "_law_row_here"] [] := Fd.bindsN (fun _ _ _ _ _ _ us hl => match us, hl with | [_, _, _], _ => by kernel_rfl)
  have G : FnOk P w K mg base (L2.CX P w) 2 a fd ["_law_frame_here", "_law_standing_here", "_law_row_here"] (spD K mg 3 (mk 8 b_law_pushed)) := by
    refine fn_ok (k := 1) (g := b_law_pushed) (N := ["_law_frame_here", "_law_standing_here", "_law_row_here", "_law_now", "_law_move_here", "_law_rod", "_law_high", "_law_low"]) (ps := ["_law_frame_here", "_law_standing_here", "_law_row_here"]) Fd sc_law_pushed (by decide) ?_
    intro cdv A outer s H E hr
    exact dss_cons (ds_setO 3 sc_law_pushed.nd (do_callTy call_list_of satO_list (by unfold L2.Gl; kernel_rfl) B.n_list (by decide +kernel) (da_cons (de_var 1 (hv := Or.inl (by kernel_rfl))) (da_nil))) (hx := Or.inl (by kernel_rfl)) (hf := .inl rfl)) <|
    dss_cons (ds_for passOwnOf rfl (di_list (de_var 2 (hv := Or.inl (by kernel_rfl)))) (dg_name 4 sc_law_pushed.nd (hx := Or.inl (by kernel_rfl)) (hf := .inl rfl)) (dss_wp [4, 5, 6, 7] (dss_cons (ds_asg (de_xf (E_.sub (by decide +kernel)) a_rod (de_var 4 (hv := Or.inl (by kernel_rfl)))) (dg_name 5 sc_law_pushed.nd (hx := Or.inl (by kernel_rfl)) (hf := .inl rfl))) <|
    dss_cons (ds_if (dt_w (dw_or (dt_not (dt_tru (de_kn h_law_whole hr (da_cons (de_var 5 (hv := Or.inl (by kernel_rfl))) (da_nil)) okWOf) (by intro _; rfl))) (dw_or (dt_cmp op_lt sat_lt (de_var 5 (hv := Or.inl (by kernel_rfl))) (de_int) (nomark _)) (dw_or (dt_cmp op_ge sat_ge (de_var 5 (hv := Or.inl (by kernel_rfl))) (de_callB call_len sat_len (by unfold L2.Gl; kernel_rfl) B.n_len (by decide +kernel) (da_cons (de_var 0 (hv := Or.inl (by kernel_rfl))) (da_nil))) (nomark _)) (dw_or (dt_not (dt_tru (de_kn h_law_whole hr (da_cons (de_xf (E_.sub (by decide +kernel)) a_beads (de_var 4 (hv := Or.inl (by kernel_rfl)))) (da_nil)) okWOf) (by intro _; rfl))) (dw_or1 (dt_cmp op_lt sat_lt (de_xf (E_.sub (by decide +kernel)) a_beads (de_var 4 (hv := Or.inl (by kernel_rfl)))) (de_int) (nomark _)))))))) (dss_one (ds_ret (de_non))) (dss_nil)) <|
    dss_cons (ds_asg (de_ownIx 3 (de_var 5 (hv := Or.inl (by kernel_rfl))) (fun _ _ => rfl) (hv := Or.inl (by kernel_rfl))) (dg_tup rfl (dgs_cons (dg_name 6 sc_law_pushed.nd (hx := Or.inl (by kernel_rfl)) (hf := .inl rfl)) (dgs_cons (dg_name 7 sc_law_pushed.nd (hx := Or.inl (by kernel_rfl)) (hf := .inl rfl)) (dgs_nil))))) <|
    dss_cons (ds_if (dt_cmp (opEq hr.units) sat_eq (de_meth0 M_word hr (de_var 4 (hv := Or.inl (by kernel_rfl))) okWOf) (de_str) (nomark _)) (dss_one (ds_asg (de_op opAdd sat_add (de_var 7 (hv := Or.inl (by kernel_rfl))) (de_xf (E_.sub (by decide +kernel)) a_beads (de_var 4 (hv := Or.inl (by kernel_rfl))))) (dg_name 7 sc_law_pushed.nd (hx := Or.inl (by kernel_rfl)) (hf := .inl rfl)))) (dss_one (ds_if (dt_cmp (opEq hr.units) sat_eq (de_meth0 M_word hr (de_var 4 (hv := Or.inl (by kernel_rfl))) okWOf) (de_str) (nomark _)) (dss_one (ds_asg (de_op op_sub sat_sub (de_var 7 (hv := Or.inl (by kernel_rfl))) (de_xf (E_.sub (by decide +kernel)) a_beads (de_var 4 (hv := Or.inl (by kernel_rfl))))) (dg_name 7 sc_law_pushed.nd (hx := Or.inl (by kernel_rfl)) (hf := .inl rfl)))) (dss_one (ds_if (dt_cmp (opEq hr.units) sat_eq (de_meth0 M_word hr (de_var 4 (hv := Or.inl (by kernel_rfl))) okWOf) (de_str) (nomark _)) (dss_one (ds_asg (de_op opAdd sat_add (de_var 6 (hv := Or.inl (by kernel_rfl))) (de_xf (E_.sub (by decide +kernel)) a_beads (de_var 4 (hv := Or.inl (by kernel_rfl))))) (dg_name 6 sc_law_pushed.nd (hx := Or.inl (by kernel_rfl)) (hf := .inl rfl)))) (dss_one (ds_if (dt_cmp (opEq hr.units) sat_eq (de_meth0 M_word hr (de_var 4 (hv := Or.inl (by kernel_rfl))) okWOf) (de_str) (nomark _)) (dss_one (ds_asg (de_op op_sub sat_sub (de_var 6 (hv := Or.inl (by kernel_rfl))) (de_xf (E_.sub (by decide +kernel)) a_beads (de_var 4 (hv := Or.inl (by kernel_rfl))))) (dg_name 6 sc_law_pushed.nd (hx := Or.inl (by kernel_rfl)) (hf := .inl rfl)))) (dss_nil)))))))) <|
    dss_cons (ds_if (dt_w (dw_or (dt_cmp (opEq hr.units) sat_eq (de_tup (da_cons (de_var 6 (hv := Or.inl (by kernel_rfl))) (da_cons (de_var 7 (hv := Or.inl (by kernel_rfl))) (da_nil)))) (de_ownIx 3 (de_var 5 (hv := Or.inl (by kernel_rfl))) (fun _ _ => rfl) (hv := Or.inl (by kernel_rfl))) (nomark _)) (dw_or (dt_cmp op_lt sat_lt (de_var 6 (hv := Or.inl (by kernel_rfl))) (de_int) (nomark _)) (dw_or (dt_cmp op_lt sat_lt (de_var 7 (hv := Or.inl (by kernel_rfl))) (de_int) (nomark _)) (dw_or (dt_cmp op_gt sat_gt (de_var 6 (hv := Or.inl (by kernel_rfl))) (de_ix ix_seq sat_ix (de_ix ix_seq sat_ix (de_var 0 (hv := Or.inl (by kernel_rfl))) (de_var 5 (hv := Or.inl (by kernel_rfl))) (fun _ _ => rfl)) (de_int) (fun _ _ => rfl)) (nomark _)) (dw_or1 (dt_cmp op_gt sat_gt (de_var 7 (hv := Or.inl (by kernel_rfl))) (de_ix ix_seq sat_ix (de_ix ix_seq sat_ix (de_var 0 (hv := Or.inl (by kernel_rfl))) (de_var 5 (hv := Or.inl (by kernel_rfl))) (fun _ _ => rfl)) (de_int) (fun _ _ => rfl)) (nomark _)))))))) (dss_one (ds_ret (de_non))) (dss_nil)) <|
    dss_one (ds_setIx 3 (de_var 5 (hv := Or.inl (by kernel_rfl))) (de_tup (da_cons (de_var 6 (hv := Or.inl (by kernel_rfl))) (da_cons (de_var 7 (hv := Or.inl (by kernel_rfl))) (da_nil)))) (hv := Or.inl (by kernel_rfl)))))) <|
    dss_one (ds_frz 3 (ds_ret (de_var 3 (hv := Or.inl (by kernel_rfl)))))
  exact ⟨a, fd, ["_law_frame_here", "_law_standing_here", "_law_row_here"], gm, Fd.kp, hb, G⟩
theorem sc_law_told : FnScope ["_law_slip_here"] ["_law_slip_here"] (defScope s_law_told) := ⟨rfl, rfl, rfl, by decide +kernel, rfl, by decide +kernel, by decide +kernel⟩
theorem k_law_told {a : Addr} (F : ∃ fd, FunD K "_law_told" "_law_told" (defArgs s_law_told) (defBody s_law_told) (defScope s_law_told) [] [] a fd) (gm : mg "_law_told" = some (.ref a)) (B : Bt mg) (E_ : ExF K mg cs tb) (a_beads : ∀ c ∈ cs_beads, ∀ C, mg c = some (.ref C) → PySem.W.findIn K (.ref C) "beads" = some none) (a_rod : ∀ c ∈ cs_rod, ∀ C, mg c = some (.ref C) → PySem.W.findIn K (.ref C) "rod" = some none) (M_word : KnM P w K mg base 1 tb_word "word" 0) : Kn P w K mg base 2 "_law_told" 1 m_law_told := by
  obtain ⟨fd, Fd⟩ := F
  have hb : Binds K fd ["_law_slip_here"] [] := Fd.bindsN (fun _ _ _ _ _ _ us hl => match us, hl with | [_], _ => by kernel_rfl)
  have G : FnOk P w K mg base (L2.CX P w) 2 a fd ["_law_slip_here"] (spD K mg 1 (mk 1 b_law_told)) := by
    refine fn_ok (k := 1) (g := b_law_told) (N := ["_law_slip_here"]) (ps := ["_law_slip_here"]) Fd sc_law_told (by decide) ?_
    intro cdv A outer s H E hr
    exact dss_cons (ds_if (dt_cmp op_isN sat_is (de_ix ix_seq sat_ix (de_var 0 (hv := Or.inl (by kernel_rfl))) (de_int) (fun _ _ => rfl)) (de_non) (nomark _)) (dss_one (ds_ret (de_tup (da_cons (de_ix ix_seq sat_ix (de_var 0 (hv := Or.inl (by kernel_rfl))) (de_int) (fun _ _ => rfl)) (da_cons (de_ix ix_seq sat_ix (de_var 0 (hv := Or.inl (by kernel_rfl))) (de_int) (fun _ _ => rfl)) (da_cons (de_str) (da_nil))))))) (dss_nil)) <|
    dss_one (ds_ret (de_tup (da_cons (de_ix ix_seq sat_ix (de_var 0 (hv := Or.inl (by kernel_rfl))) (de_int) (fun _ _ => rfl)) (da_cons (de_ix ix_seq sat_ix (de_var 0 (hv := Or.inl (by kernel_rfl))) (de_int) (fun _ _ => rfl)) (da_cons (de_meth0 M_word hr (de_ix ix_seq sat_ix (de_var 0 (hv := Or.inl (by kernel_rfl))) (de_int) (fun _ _ => rfl)) okWOf) (da_cons (de_xf (E_.sub (by decide +kernel)) a_rod (de_ix ix_seq sat_ix (de_var 0 (hv := Or.inl (by kernel_rfl))) (de_int) (fun _ _ => rfl))) (da_cons (de_xf (E_.sub (by decide +kernel)) a_beads (de_ix ix_seq sat_ix (de_var 0 (hv := Or.inl (by kernel_rfl))) (de_int) (fun _ _ => rfl))) (da_nil))))))))
  exact ⟨a, fd, ["_law_slip_here"], gm, Fd.kp, hb, G⟩
theorem sc_law_words : FnScope ["_law_row_here", "_law_move_here"] ["_law_row_here"] (defScope s_law_words) := ⟨rfl, rfl, rfl, by decide +kernel, rfl, by decide +kernel, by decide +kernel⟩
theorem ko_law_words {a : Addr} (F : ∃ fd, FunD K "_law_words" "_law_words" (defArgs s_law_words) (defBody s_law_words) (defScope s_law_words) [] [] a fd) (gm : mg "_law_words" = some (.ref a)) (B : Bt mg) (E_ : ExF K mg cs tb) (a_beads : ∀ c ∈ cs_beads, ∀ C, mg c = some (.ref C) → PySem.W.findIn K (.ref C) "beads" = some none) (a_rod : ∀ c ∈ cs_rod, ∀ C, mg c = some (.ref C) → PySem.W.findIn K (.ref C) "rod" = some none) (M_word : KnM P w K mg base 1 tb_word "word" 0) : KnO P w K mg base 2 "_law_words" 1 mo_law_words := by
  obtain ⟨fd, Fd⟩ := F
  have hb : Binds K fd ["_law_row_here"] [] := Fd.bindsN (fun _ _ _ _ _ _ us hl => match us, hl with | [_], _ => by kernel_rfl)
  have G : FnOk P w K mg base (L2.CX P w) 2 a fd ["_law_row_here"] (spO K mg 1 (mkO 2 b_law_words)) := by
    refine fn_okO (k := 1) (g := b_law_words) (N := ["_law_row_here", "_law_move_here"]) (ps := ["_law_row_here"]) Fd sc_law_words (by decide) ?_
    intro cdv A outer s H E hr
    exact dss_one (ds_retO (do_lc (own := [("_law_move_here", 1)]) rfl sc_law_words.nd (di_list (de_var 0 (hv := Or.inl (by kernel_rfl)))) (blkOk_by (own := [("_law_move_here", 1)]) (N := ["_law_row_here", "_law_move_here"]) (sc := defScope s_law_words) (by decide +kernel)) (fun _ _ _ _ _ => dg_name 1 sc_law_words.nd (hx := Or.inl (by kernel_rfl)) (hf := .inr (by kernel_rfl))) (fun _ _ _ _ _ => dts_nil) (fun _ _ _ _ _ => de_tup (da_cons (de_meth0 M_word hr (de_var 1 (hv := Or.inl (by kernel_rfl))) okW0) (da_cons (de_xf (E_.sub (by decide +kernel)) a_rod (de_var 1 (hv := Or.inl (by kernel_rfl)))) (da_cons (de_xf (E_.sub (by decide +kernel)) a_beads (de_var 1 (hv := Or.inl (by kernel_rfl)))) (da_nil)))))))
  exact ⟨a, fd, ["_law_row_here"], gm, Fd.kp, hb, G⟩
theorem sc_Move_done : FnScope ["self", "frame", "standing", "layout", "high", "low"] ["self", "frame", "standing"] (defScope s_Move_done) := ⟨rfl, rfl, rfl, by decide +kernel, rfl, by decide +kernel, by decide +kernel⟩
theorem k_Move_done {a : Addr} (F : ∃ fd, FunD K "done" "Move.done" (defArgs s_Move_done) (defBody s_Move_done) (defScope s_Move_done) [] [] a fd) (B : Bt mg) (E_ : ExF K mg cs tb) (a_rod : ∀ c ∈ cs_rod, ∀ C, mg c = some (.ref C) → PySem.W.findIn K (.ref C) "rod" = some none) (x_Stuck : Kx2 P w K mg base 1 "Stuck" "rod" "at") (MN_reached : KnMN P w K mg base 1 tb_reached "reached" 2) : ∃ fd ps, FnOk P w K mg base (L2N.CX P w) 3 a fd ps (spD K mg 3 m_Move_done) ∧ Binds K fd ps [] := by
  obtain ⟨fd, Fd⟩ := F
  have hb : Binds K fd ["self", "frame", "standing"] [] := Fd.bindsN (fun _ _ _ _ _ _ us hl => match us, hl with | [_, _, _], _ => by kernel_rfl)
  have G : FnOk P w K mg base (L2N.CX P w) 3 a fd ["self", "frame", "standing"] (spD K mg 3 (mk 6 b_Move_done)) := by
    refine fn_okN (k := 2) (g := b_Move_done) (N := ["self", "frame", "standing", "layout", "high", "low"]) (ps := ["self", "frame", "standing"]) Fd sc_Move_done (by decide) ?_
    intro cdv A outer s H E hr
    exact dss_cons (ds_if (dt_cmp op_ge sat_ge (de_xf (E_.sub (by decide +kernel)) (fun c hc => a_rod c ((by decide +kernel : ∀ c ∈ cs_o_rod, c ∈ cs_rod) c hc)) (de_var 0 (hv := Or.inl (by kernel_rfl)))) (de_callB call_len sat_len (by unfold L2.Gl; kernel_rfl) B.n_len (by decide +kernel) (da_cons (de_var 1 (hv := Or.inl (by kernel_rfl))) (da_nil))) (nomark _)) (dss_one (ds_kx2N x_Stuck hr rfl (L2N.takes_of rfl rfl rfl rfl) (da_cons (de_xf (E_.sub (by decide +kernel)) (fun c hc => a_rod c ((by decide +kernel : ∀ c ∈ cs_o_rod, c ∈ cs_rod) c hc)) (de_var 0 (hv := Or.inl (by kernel_rfl)))) (da_cons (de_non) (da_nil))))) (dss_nil)) <|
    dss_cons (ds_asg (de_ix ix_seq sat_ix (de_var 1 (hv := Or.inl (by kernel_rfl))) (de_xf (E_.sub (by decide +kernel)) (fun c hc => a_rod c ((by decide +kernel : ∀ c ∈ cs_o_rod, c ∈ cs_rod) c hc)) (de_var 0 (hv := Or.inl (by kernel_rfl)))) (fun _ _ => rfl)) (dg_name 3 sc_Move_done.nd (hx := Or.inl (by kernel_rfl)) (hf := .inl rfl))) <|
    dss_cons (ds_asg (de_methN MN_reached hr (de_var 0 (hv := Or.inl (by kernel_rfl))) (da_cons (de_var 3 (hv := Or.inl (by kernel_rfl))) (da_cons (de_ix ix_seq sat_ix (de_var 2 (hv := Or.inl (by kernel_rfl))) (de_xf (E_.sub (by decide +kernel)) (fun c hc => a_rod c ((by decide +kernel : ∀ c ∈ cs_o_rod, c ∈ cs_rod) c hc)) (de_var 0 (hv := Or.inl (by kernel_rfl)))) (fun _ _ => rfl)) (da_nil))) okWOfN) (dg_tup rfl (dgs_cons (dg_name 4 sc_Move_done.nd (hx := Or.inl (by kernel_rfl)) (hf := .inl rfl)) (dgs_cons (dg_name 5 sc_Move_done.nd (hx := Or.inl (by kernel_rfl)) (hf := .inl rfl)) (dgs_nil))))) <|
    dss_cons (ds_if (dt_w (dw_or (dt_not (dt_chain op_le sat_le op_le sat_le (de_int) (de_var 4 (hv := Or.inl (by kernel_rfl))) (de_ix ix_seq sat_ix (de_var 3 (hv := Or.inl (by kernel_rfl))) (de_int) (fun _ _ => rfl)))) (dw_or1 (dt_not (dt_chain op_le sat_le op_le sat_le (de_int) (de_var 5 (hv := Or.inl (by kernel_rfl))) (de_ix ix_seq sat_ix (de_var 3 (hv := Or.inl (by kernel_rfl))) (de_int) (fun _ _ => rfl))))))) (dss_one (ds_kx2N x_Stuck hr rfl (L2N.takes_of rfl rfl rfl rfl) (da_cons (de_xf (E_.sub (by decide +kernel)) (fun c hc => a_rod c ((by decide +kernel : ∀ c ∈ cs_o_rod, c ∈ cs_rod) c hc)) (de_var 0 (hv := Or.inl (by kernel_rfl)))) (da_cons (de_non) (da_nil))))) (dss_nil)) <|
    dss_one (ds_ret (de_op opAdd sat_add (de_op opAdd sat_add (de_slice (de_var 2 (hv := Or.inl (by kernel_rfl))) (dp_no) (dp_so (de_xf (E_.sub (by decide +kernel)) (fun c hc => a_rod c ((by decide +kernel : ∀ c ∈ cs_o_rod, c ∈ cs_rod) c hc)) (de_var 0 (hv := Or.inl (by kernel_rfl)))))) (de_frz (do_lst (da_cons (de_tup (da_cons (de_var 4 (hv := Or.inl (by kernel_rfl))) (da_cons (de_var 5 (hv := Or.inl (by kernel_rfl))) (da_nil)))) (da_nil))))) (de_slice (de_var 2 (hv := Or.inl (by kernel_rfl))) (dp_so (de_op opAdd sat_add (de_xf (E_.sub (by decide +kernel)) (fun c hc => a_rod c ((by decide +kernel : ∀ c ∈ cs_o_rod, c ∈ cs_rod) c hc)) (de_var 0 (hv := Or.inl (by kernel_rfl)))) (de_int))) (dp_no))))
  exact ⟨fd, ["self", "frame", "standing"], G, hb⟩
theorem sc_rod_rows : FnScope ["rod", "one", "other", "rows"] ["rod", "one", "other"] (defScope s_rod_rows) := ⟨rfl, rfl, rfl, by decide +kernel, rfl, by decide +kernel, by decide +kernel⟩
theorem ko_rod_rows {a : Addr} (F : ∃ fd, FunD K "rod_rows" "rod_rows" (defArgs s_rod_rows) (defBody s_rod_rows) (defScope s_rod_rows) [] [] a fd) (gm : mg "rod_rows" = some (.ref a)) (B : Bt mg) (o_Up : KO2 P w K mg base 1 "Up" "rod" "beads") (o_Put : KO2 P w K mg base 1 "Put" "rod" "beads") (o_Down : KO2 P w K mg base 1 "Down" "rod" "beads") (o_Take : KO2 P w K mg base 1 "Take" "rod" "beads") : KnO P w K mg base 3 "rod_rows" 3 mo_rod_rows := by
  obtain ⟨fd, Fd⟩ := F
  have hb : Binds K fd ["rod", "one", "other"] [] := Fd.bindsN (fun _ _ _ _ _ _ us hl => match us, hl with | [_, _, _], _ => by kernel_rfl)
  have G : FnOk P w K mg base (L2.CX P w) 3 a fd ["rod", "one", "other"] (spO K mg 3 (mkO 4 b_rod_rows)) := by
    refine fn_okO (k := 2) (g := b_rod_rows) (N := ["rod", "one", "other", "rows"]) (ps := ["rod", "one", "other"]) Fd sc_rod_rows (by decide) ?_
    intro cdv A outer s H E hr
    exact dss_cons (ds_setO 3 sc_rod_rows.nd (do_lst (da_nil)) (hx := Or.inl (by kernel_rfl)) (hf := .inl rfl)) <|
    dss_cons (ds_if (dt_cmp op_gt sat_gt (de_ix ix_seq sat_ix (de_var 1 (hv := Or.inl (by kernel_rfl))) (de_int) (fun _ _ => rfl)) (de_ix ix_seq sat_ix (de_var 2 (hv := Or.inl (by kernel_rfl))) (de_int) (fun _ _ => rfl)) (nomark _)) (dss_one (ds_append 3 (de_new2 o_Take hr (da_cons (de_var 0 (hv := Or.inl (by kernel_rfl))) (da_cons (de_op op_sub sat_sub (de_ix ix_seq sat_ix (de_var 1 (hv := Or.inl (by kernel_rfl))) (de_int) (fun _ _ => rfl)) (de_ix ix_seq sat_ix (de_var 2 (hv := Or.inl (by kernel_rfl))) (de_int) (fun _ _ => rfl))) (da_nil)))) (hv := Or.inl (by kernel_rfl)))) (dss_nil)) <|
    dss_cons (ds_if (dt_cmp op_gt sat_gt (de_ix ix_seq sat_ix (de_var 1 (hv := Or.inl (by kernel_rfl))) (de_int) (fun _ _ => rfl)) (de_ix ix_seq sat_ix (de_var 2 (hv := Or.inl (by kernel_rfl))) (de_int) (fun _ _ => rfl)) (nomark _)) (dss_one (ds_append 3 (de_new2 o_Down hr (da_cons (de_var 0 (hv := Or.inl (by kernel_rfl))) (da_cons (de_op op_sub sat_sub (de_ix ix_seq sat_ix (de_var 1 (hv := Or.inl (by kernel_rfl))) (de_int) (fun _ _ => rfl)) (de_ix ix_seq sat_ix (de_var 2 (hv := Or.inl (by kernel_rfl))) (de_int) (fun _ _ => rfl))) (da_nil)))) (hv := Or.inl (by kernel_rfl)))) (dss_nil)) <|
    dss_cons (ds_if (dt_cmp op_lt sat_lt (de_ix ix_seq sat_ix (de_var 1 (hv := Or.inl (by kernel_rfl))) (de_int) (fun _ _ => rfl)) (de_ix ix_seq sat_ix (de_var 2 (hv := Or.inl (by kernel_rfl))) (de_int) (fun _ _ => rfl)) (nomark _)) (dss_one (ds_append 3 (de_new2 o_Put hr (da_cons (de_var 0 (hv := Or.inl (by kernel_rfl))) (da_cons (de_op op_sub sat_sub (de_ix ix_seq sat_ix (de_var 2 (hv := Or.inl (by kernel_rfl))) (de_int) (fun _ _ => rfl)) (de_ix ix_seq sat_ix (de_var 1 (hv := Or.inl (by kernel_rfl))) (de_int) (fun _ _ => rfl))) (da_nil)))) (hv := Or.inl (by kernel_rfl)))) (dss_nil)) <|
    dss_cons (ds_if (dt_cmp op_lt sat_lt (de_ix ix_seq sat_ix (de_var 1 (hv := Or.inl (by kernel_rfl))) (de_int) (fun _ _ => rfl)) (de_ix ix_seq sat_ix (de_var 2 (hv := Or.inl (by kernel_rfl))) (de_int) (fun _ _ => rfl)) (nomark _)) (dss_one (ds_append 3 (de_new2 o_Up hr (da_cons (de_var 0 (hv := Or.inl (by kernel_rfl))) (da_cons (de_op op_sub sat_sub (de_ix ix_seq sat_ix (de_var 2 (hv := Or.inl (by kernel_rfl))) (de_int) (fun _ _ => rfl)) (de_ix ix_seq sat_ix (de_var 1 (hv := Or.inl (by kernel_rfl))) (de_int) (fun _ _ => rfl))) (da_nil)))) (hv := Or.inl (by kernel_rfl)))) (dss_nil)) <|
    dss_one (ds_retS 3 (hv := Or.inl (by kernel_rfl)))
  exact ⟨a, fd, ["rod", "one", "other"], gm, Fd.kp, hb, G⟩
theorem sc_like : FnScope ["move", "rod", "beads"] ["move", "rod", "beads"] (defScope s_like) := ⟨rfl, rfl, rfl, by decide +kernel, rfl, by decide +kernel, by decide +kernel⟩
theorem k_like {a : Addr} (F : ∃ fd, FunD K "like" "like" (defArgs s_like) (defBody s_like) (defScope s_like) [] [] a fd) (gm : mg "like" = some (.ref a)) (B : Bt mg) (o_Take : KO2 P w K mg base 1 "Take" "rod" "beads") (E_ : ExF K mg cs tb) (o_Put : KO2 P w K mg base 1 "Put" "rod" "beads") (o_Down : KO2 P w K mg base 1 "Down" "rod" "beads") (o_Up : KO2 P w K mg base 1 "Up" "rod" "beads") : Kn P w K mg base 3 "like" 3 m_like := by
  obtain ⟨fd, Fd⟩ := F
  have hb : Binds K fd ["move", "rod", "beads"] [] := Fd.bindsN (fun _ _ _ _ _ _ us hl => match us, hl with | [_, _, _], _ => by kernel_rfl)
  have G : FnOk P w K mg base (L2.CX P w) 3 a fd ["move", "rod", "beads"] (spD K mg 3 (mk 3 b_like)) := by
    refine fn_ok (k := 2) (g := b_like) (N := ["move", "rod", "beads"]) (ps := ["move", "rod", "beads"]) Fd sc_like (by decide) ?_
    intro cdv A outer s H E hr
    exact dss_cons (ds_if (dt_tru (de_callB HX.call_isX (sat_isX E_) (by unfold L2.Gl; kernel_rfl) B.n_isinstance (by decide +kernel) (da_cons (de_var 0 (hv := Or.inl (by kernel_rfl))) (da_cons (de_clsE E_ (by decide +kernel)) (da_nil)))) (by intro _; rfl)) (dss_one (ds_ret (de_new2 o_Up hr (da_cons (de_var 1 (hv := Or.inl (by kernel_rfl))) (da_cons (de_var 2 (hv := Or.inl (by kernel_rfl))) (da_nil)))))) (dss_nil)) <|
    dss_cons (ds_if (dt_tru (de_callB HX.call_isX (sat_isX E_) (by unfold L2.Gl; kernel_rfl) B.n_isinstance (by decide +kernel) (da_cons (de_var 0 (hv := Or.inl (by kernel_rfl))) (da_cons (de_clsE E_ (by decide +kernel)) (da_nil)))) (by intro _; rfl)) (dss_one (ds_ret (de_new2 o_Down hr (da_cons (de_var 1 (hv := Or.inl (by kernel_rfl))) (da_cons (de_var 2 (hv := Or.inl (by kernel_rfl))) (da_nil)))))) (dss_nil)) <|
    dss_cons (ds_if (dt_tru (de_callB HX.call_isX (sat_isX E_) (by unfold L2.Gl; kernel_rfl) B.n_isinstance (by decide +kernel) (da_cons (de_var 0 (hv := Or.inl (by kernel_rfl))) (da_cons (de_clsE E_ (by decide +kernel)) (da_nil)))) (by intro _; rfl)) (dss_one (ds_ret (de_new2 o_Put hr (da_cons (de_var 1 (hv := Or.inl (by kernel_rfl))) (da_cons (de_var 2 (hv := Or.inl (by kernel_rfl))) (da_nil)))))) (dss_nil)) <|
    dss_one (ds_ret (de_new2 o_Take hr (da_cons (de_var 1 (hv := Or.inl (by kernel_rfl))) (da_cons (de_var 2 (hv := Or.inl (by kernel_rfl))) (da_nil)))))
  exact ⟨a, fd, ["move", "rod", "beads"], gm, Fd.kp, hb, G⟩
theorem sc_tidy_of : FnScope ["frame", "number", "digits", "layout", "digit"] ["frame", "number"] (defScope s_tidy_of) := ⟨rfl, rfl, rfl, by decide +kernel, rfl, by decide +kernel, by decide +kernel⟩
theorem ko_tidy_of {a : Addr} (F : ∃ fd, FunD K "tidy_of" "tidy_of" (defArgs s_tidy_of) (defBody s_tidy_of) (defScope s_tidy_of) [] [] a fd) (gm : mg "tidy_of" = some (.ref a)) (B : Bt mg) (h_plain_of : Kn P w K mg base 1 "plain_of" 2 m_plain_of) (h_full_worth : Kn P w K mg base 1 "full_worth" 1 m_full_worth) (h_digits_of : Kn P w K mg base 1 "digits_of" 2 m_digits_of) (x_TooGreat : Kx1 P w K mg base 1 "TooGreat" "rod") : KnO P w K mg base 3 "tidy_of" 2 mo_tidy_of := by
  obtain ⟨fd, Fd⟩ := F
  have hb : Binds K fd ["frame", "number"] [] := Fd.bindsN (fun _ _ _ _ _ _ us hl => match us, hl with | [_, _], _ => by kernel_rfl)
  have G : FnOk P w K mg base (L2.CX P w) 3 a fd ["frame", "number"] (spO K mg 2 (mkO 5 b_tidy_of)) := by
    refine fn_okO (k := 2) (g := b_tidy_of) (N := ["frame", "number", "digits", "layout", "digit"]) (ps := ["frame", "number"]) Fd sc_tidy_of (by decide) ?_
    intro cdv A outer s H E hr
    exact dss_cons (ds_asg (de_kn h_digits_of hr (da_cons (de_var 0 (hv := Or.inl (by kernel_rfl))) (da_cons (de_var 1 (hv := Or.inl (by kernel_rfl))) (da_nil))) okWOf) (dg_name 2 sc_tidy_of.nd (hx := Or.inl (by kernel_rfl)) (hf := .inl rfl))) <|
    dss_cons (ds_if (dt_cmp op_gt sat_gt (de_ix ix_seq sat_ix (de_var 2 (hv := Or.inl (by kernel_rfl))) (de_un un_neg sat_neg (de_int)) (fun _ _ => rfl)) (de_kn h_full_worth hr (da_cons (de_ix ix_seq sat_ix (de_var 0 (hv := Or.inl (by kernel_rfl))) (de_un un_neg sat_neg (de_int)) (fun _ _ => rfl)) (da_nil)) okWOf) (nomark _)) (dss_one (ds_kx1 x_TooGreat hr rfl (takes_of rfl rfl rfl rfl) (da_cons (de_op op_sub sat_sub (de_callB call_len sat_len (by unfold L2.Gl; kernel_rfl) B.n_len (by decide +kernel) (da_cons (de_var 0 (hv := Or.inl (by kernel_rfl))) (da_nil))) (de_int)) (da_nil)))) (dss_nil)) <|
    dss_one (ds_retO (do_lc (own := [("layout", 3), ("digit", 4)]) rfl sc_tidy_of.nd (di_zip (by unfold L2.Gl; kernel_rfl) B.n_zip (da_cons (de_var 0 (hv := Or.inl (by kernel_rfl))) (da_cons (de_var 2 (hv := Or.inl (by kernel_rfl))) (da_nil)))) (blkOk_by (own := [("layout", 3), ("digit", 4)]) (N := ["frame", "number", "digits", "layout", "digit"]) (sc := defScope s_tidy_of) (by decide +kernel)) (fun _ _ _ _ _ => dg_tup rfl (dgs_cons (dg_name 3 sc_tidy_of.nd (hx := Or.inl (by kernel_rfl)) (hf := .inr (by kernel_rfl))) (dgs_cons (dg_name 4 sc_tidy_of.nd (hx := Or.inl (by kernel_rfl)) (hf := .inr (by kernel_rfl))) (dgs_nil)))) (fun _ _ _ _ _ => dts_nil) (fun _ _ _ _ _ => de_kn h_plain_of hr (da_cons (de_var 3 (hv := Or.inl (by kernel_rfl))) (da_cons (de_var 4 (hv := Or.inl (by kernel_rfl))) (da_nil))) okW0)))
  exact ⟨a, fd, ["frame", "number"], gm, Fd.kp, hb, G⟩
theorem sc_law_move : FnScope ["_law_word", "_law_rod", "_law_beads"] ["_law_word", "_law_rod", "_law_beads"] (defScope s_law_move) := ⟨rfl, rfl, rfl, by decide +kernel, rfl, by decide +kernel, by decide +kernel⟩
theorem k_law_move {a : Addr} (F : ∃ fd, FunD K "_law_move" "_law_move" (defArgs s_law_move) (defBody s_law_move) (defScope s_law_move) [] [] a fd) (gm : mg "_law_move" = some (.ref a)) (B : Bt mg) (o_Take : KO2 P w K mg base 1 "Take" "rod" "beads") (o_Put : KO2 P w K mg base 1 "Put" "rod" "beads") (o_Down : KO2 P w K mg base 1 "Down" "rod" "beads") (o_Up : KO2 P w K mg base 1 "Up" "rod" "beads") : Kn P w K mg base 3 "_law_move" 3 m_law_move := by
  obtain ⟨fd, Fd⟩ := F
  have hb : Binds K fd ["_law_word", "_law_rod", "_law_beads"] [] := Fd.bindsN (fun _ _ _ _ _ _ us hl => match us, hl with | [_, _, _], _ => by kernel_rfl)
  have G : FnOk P w K mg base (L2.CX P w) 3 a fd ["_law_word", "_law_rod", "_law_beads"] (spD K mg 3 (mk 3 b_law_move)) := by
    refine fn_ok (k := 2) (g := b_law_move) (N := ["_law_word", "_law_rod", "_law_beads"]) (ps := ["_law_word", "_law_rod", "_law_beads"]) Fd sc_law_move (by decide) ?_
    intro cdv A outer s H E hr
    exact dss_cons (ds_if (dt_cmp (opEq hr.units) sat_eq (de_var 0 (hv := Or.inl (by kernel_rfl))) (de_str) (nomark _)) (dss_one (ds_ret (de_new2 o_Up hr (da_cons (de_var 1 (hv := Or.inl (by kernel_rfl))) (da_cons (de_var 2 (hv := Or.inl (by kernel_rfl))) (da_nil)))))) (dss_nil)) <|
    dss_cons (ds_if (dt_cmp (opEq hr.units) sat_eq (de_var 0 (hv := Or.inl (by kernel_rfl))) (de_str) (nomark _)) (dss_one (ds_ret (de_new2 o_Down hr (da_cons (de_var 1 (hv := Or.inl (by kernel_rfl))) (da_cons (de_var 2 (hv := Or.inl (by kernel_rfl))) (da_nil)))))) (dss_nil)) <|
    dss_cons (ds_if (dt_cmp (opEq hr.units) sat_eq (de_var 0 (hv := Or.inl (by kernel_rfl))) (de_str) (nomark _)) (dss_one (ds_ret (de_new2 o_Put hr (da_cons (de_var 1 (hv := Or.inl (by kernel_rfl))) (da_cons (de_var 2 (hv := Or.inl (by kernel_rfl))) (da_nil)))))) (dss_nil)) <|
    dss_one (ds_ret (de_new2 o_Take hr (da_cons (de_var 1 (hv := Or.inl (by kernel_rfl))) (da_cons (de_var 2 (hv := Or.inl (by kernel_rfl))) (da_nil)))))
  exact ⟨a, fd, ["_law_word", "_law_rod", "_law_beads"], gm, Fd.kp, hb, G⟩
theorem sc_done_all : FnScope ["frame", "standing", "row", "here", "at", "move", "e"] ["frame", "standing", "row"] (defScope s_done_all) := ⟨rfl, rfl, rfl, by decide +kernel, rfl, by decide +kernel, by decide +kernel⟩
theorem k_done_all {a : Addr} (F : ∃ fd, FunD K "done_all" "done_all" (defArgs s_done_all) (defBody s_done_all) (defScope s_done_all) [] [] a fd) (gm : mg "done_all" = some (.ref a)) (B : Bt mg) (E_ : ExF K mg cs tb) (a_rod : ∀ c ∈ cs_rod, ∀ C, mg c = some (.ref C) → PySem.W.findIn K (.ref C) "rod" = some none) (tg_Stuck : KxT K mg "Stuck" (subG "Stuck")) (xh_Stuck : Kx2H P w K mg base 1 "Stuck" "rod" "at") (MN_done : KnMN P w K mg base 3 tb_done "done" 2) : Kn P w K mg base 4 "done_all" 3 m_done_all := by
  obtain ⟨fd, Fd⟩ := F
  have hb : Binds K fd ["frame", "standing", "row"] [] := Fd.bindsN (fun _ _ _ _ _ _ us hl => match us, hl with | [_, _, _], _ => by kernel_rfl)
  have G : FnOk P w K mg base (L2.CX P w) 4 a fd ["frame", "standing", "row"] (spD K mg 3 (mk 7 b_done_all)) := by
    refine fn_ok (k := 3) (g := b_done_all) (N := ["frame", "standing", "row", "here", "at", "move", "e"]) (ps := ["frame", "standing", "row"]) Fd sc_done_all (by decide) ?_
    intro cdv A outer s H E hr
    exact dss_cons (ds_asg (de_frz (do_callTy call_list_of satO_list (by unfold L2.Gl; kernel_rfl) B.n_list (by decide +kernel) (da_cons (de_var 1 (hv := Or.inl (by kernel_rfl))) (da_nil)))) (dg_name 3 sc_done_all.nd (hx := Or.inl (by kernel_rfl)) (hf := .inl rfl))) <|
    dss_cons (ds_for passOwnOf rfl (di_enum (by unfold L2.Gl; kernel_rfl) B.n_enumerate (da_cons (de_var 2 (hv := Or.inl (by kernel_rfl))) (da_nil))) (dg_tup rfl (dgs_cons (dg_name 4 sc_done_all.nd (hx := Or.inl (by kernel_rfl)) (hf := .inl rfl)) (dgs_cons (dg_name 5 sc_done_all.nd (hx := Or.inl (by kernel_rfl)) (hf := .inl rfl)) (dgs_nil)))) (dss_wp [4, 5, 6] (dss_one (ds_tryR 6 tg_Stuck sc_done_all.nd (takes_of rfl rfl rfl rfl) (fun hd => L2H.passesAt_of rfl hd) xh_Stuck (hr.mono (by decide)) (xfG E_ rfl (by decide +kernel) (by decide +kernel) a_rod (by decide +kernel)) (fun W pn xe tk _ => dss_one (ds_asg (de_methN MN_done hr (de_var 5 (hv := Or.inl (by kernel_rfl))) (da_cons (de_var 0 (hv := Or.inl (by kernel_rfl))) (da_cons (de_var 3 (hv := Or.inl (by kernel_rfl))) (da_nil))) (fun σ => L2N.passAt tk σ)) (dg_name 3 sc_done_all.nd (hx := Or.inl (by kernel_rfl)) (hf := .inl rfl)))) (fun a pn => de_var 4 (hv := Or.inl (by kernel_rfl))))))) <|
    dss_one (ds_ret (de_var 3 (hv := Or.inl (by kernel_rfl))))
  exact ⟨a, fd, ["frame", "standing", "row"], gm, Fd.kp, hb, G⟩
theorem sc_rows_between : FnScope ["frame", "one", "other", "rows", "rod"] ["frame", "one", "other"] (defScope s_rows_between) := ⟨rfl, rfl, rfl, by decide +kernel, rfl, by decide +kernel, by decide +kernel⟩
theorem ko_rows_between {a : Addr} (F : ∃ fd, FunD K "rows_between" "rows_between" (defArgs s_rows_between) (defBody s_rows_between) (defScope s_rows_between) [] [] a fd) (gm : mg "rows_between" = some (.ref a)) (B : Bt mg) (ho_rod_rows : KnO P w K mg base 3 "rod_rows" 3 mo_rod_rows) : KnO P w K mg base 4 "rows_between" 3 mo_rows_between := by
  obtain ⟨fd, Fd⟩ := F
  have hb : Binds K fd ["frame", "one", "other"] [] := Fd.bindsN (fun _ _ _ _ _ _ us hl => match us, hl with | [_, _, _], _ => by kernel_rfl)
  have G : FnOk P w K mg base (L2.CX P w) 4 a fd ["frame", "one", "other"] (spO K mg 3 (mkO 5 b_rows_between)) := by
    refine fn_okO (k := 3) (g := b_rows_between) (N := ["frame", "one", "other", "rows", "rod"]) (ps := ["frame", "one", "other"]) Fd sc_rows_between (by decide) ?_
    intro cdv A outer s H E hr
    exact dss_cons (ds_setO 3 sc_rows_between.nd (do_lst (da_nil)) (hx := Or.inl (by kernel_rfl)) (hf := .inl rfl)) <|
    dss_cons (ds_for passOwnOf rfl (di_revRng (by unfold L2.Gl; kernel_rfl) B.n_reversed (by unfold L2.Gl; kernel_rfl) B.n_range (de_callB call_len sat_len (by unfold L2.Gl; kernel_rfl) B.n_len (by decide +kernel) (da_cons (de_var 0 (hv := Or.inl (by kernel_rfl))) (da_nil)))) (dg_name 4 sc_rows_between.nd (hx := Or.inl (by kernel_rfl)) (hf := .inl rfl)) (dss_wp [4] (dss_one (ds_extendO 3 (do_kn ho_rod_rows hr (da_cons (de_var 4 (hv := Or.inl (by kernel_rfl))) (da_cons (de_ix ix_seq sat_ix (de_var 1 (hv := Or.inl (by kernel_rfl))) (de_var 4 (hv := Or.inl (by kernel_rfl))) (fun _ _ => rfl)) (da_cons (de_ix ix_seq sat_ix (de_var 2 (hv := Or.inl (by kernel_rfl))) (de_var 4 (hv := Or.inl (by kernel_rfl))) (fun _ _ => rfl)) (da_nil)))) okWOf) (hv := Or.inl (by kernel_rfl)))))) <|
    dss_one (ds_retS 3 (hv := Or.inl (by kernel_rfl)))
  exact ⟨a, fd, ["frame", "one", "other"], gm, Fd.kp, hb, G⟩
theorem sc_slips_at : FnScope ["frame", "row", "at", "move", "found"] ["frame", "row", "at"] (defScope s_slips_at) := ⟨rfl, rfl, rfl, by decide +kernel, rfl, by decide +kernel, by decide +kernel⟩
theorem ko_slips_at {a : Addr} (F : ∃ fd, FunD K "slips_at" "slips_at" (defArgs s_slips_at) (defBody s_slips_at) (defScope s_slips_at) [] [] a fd) (gm : mg "slips_at" = some (.ref a)) (B : Bt mg) (h_like : Kn P w K mg base 3 "like" 3 m_like) (E_ : ExF K mg cs tb) (a_rod : ∀ c ∈ cs_rod, ∀ C, mg c = some (.ref C) → PySem.W.findIn K (.ref C) "rod" = some none) (a_beads : ∀ c ∈ cs_beads, ∀ C, mg c = some (.ref C) → PySem.W.findIn K (.ref C) "beads" = some none) : KnO P w K mg base 4 "slips_at" 3 mo_slips_at := by
  obtain ⟨fd, Fd⟩ := F
  have hb : Binds K fd ["frame", "row", "at"] [] := Fd.bindsN (fun _ _ _ _ _ _ us hl => match us, hl with | [_, _, _], _ => by kernel_rfl)
  have G : FnOk P w K mg base (L2.CX P w) 4 a fd ["frame", "row", "at"] (spO K mg 3 (mkO 5 b_slips_at)) := by
    refine fn_okO (k := 3) (g := b_slips_at) (N := ["frame", "row", "at", "move", "found"]) (ps := ["frame", "row", "at"]) Fd sc_slips_at (by decide) ?_
    intro cdv A outer s H E hr
    exact dss_cons (ds_asg (de_ix ix_seq sat_ix (de_var 1 (hv := Or.inl (by kernel_rfl))) (de_var 2 (hv := Or.inl (by kernel_rfl))) (fun _ _ => rfl)) (dg_name 3 sc_slips_at.nd (hx := Or.inl (by kernel_rfl)) (hf := .inl rfl))) <|
    dss_cons (ds_setO 4 sc_slips_at.nd (do_lst (da_nil)) (hx := Or.inl (by kernel_rfl)) (hf := .inl rfl)) <|
    dss_cons (ds_if (dt_cmp op_gt sat_gt (de_xf (E_.sub (by decide +kernel)) (fun c hc => a_beads c ((by decide +kernel : ∀ c ∈ cs_o_beads, c ∈ cs_beads) c hc)) (de_var 3 (hv := Or.inl (by kernel_rfl)))) (de_int) (nomark _)) (dss_one (ds_append 4 (de_tup (da_cons (de_var 2 (hv := Or.inl (by kernel_rfl))) (da_cons (de_str) (da_cons (de_kn h_like hr (da_cons (de_var 3 (hv := Or.inl (by kernel_rfl))) (da_cons (de_xf (E_.sub (by decide +kernel)) (fun c hc => a_rod c ((by decide +kernel : ∀ c ∈ cs_o_rod, c ∈ cs_rod) c hc)) (de_var 3 (hv := Or.inl (by kernel_rfl)))) (da_cons (de_op op_sub sat_sub (de_xf (E_.sub (by decide +kernel)) (fun c hc => a_beads c ((by decide +kernel : ∀ c ∈ cs_o_beads, c ∈ cs_beads) c hc)) (de_var 3 (hv := Or.inl (by kernel_rfl)))) (de_int)) (da_nil)))) okWOf) (da_nil))))) (hv := Or.inl (by kernel_rfl)))) (dss_nil)) <|
    dss_cons (ds_if (dt_cmp op_gt sat_gt (de_xf (E_.sub (by decide +kernel)) (fun c hc => a_rod c ((by decide +kernel : ∀ c ∈ cs_o_rod, c ∈ cs_rod) c hc)) (de_var 3 (hv := Or.inl (by kernel_rfl)))) (de_int) (nomark _)) (dss_one (ds_append 4 (de_tup (da_cons (de_var 2 (hv := Or.inl (by kernel_rfl))) (da_cons (de_str) (da_cons (de_kn h_like hr (da_cons (de_var 3 (hv := Or.inl (by kernel_rfl))) (da_cons (de_op op_sub sat_sub (de_xf (E_.sub (by decide +kernel)) (fun c hc => a_rod c ((by decide +kernel : ∀ c ∈ cs_o_rod, c ∈ cs_rod) c hc)) (de_var 3 (hv := Or.inl (by kernel_rfl)))) (de_int)) (da_cons (de_xf (E_.sub (by decide +kernel)) (fun c hc => a_beads c ((by decide +kernel : ∀ c ∈ cs_o_beads, c ∈ cs_beads) c hc)) (de_var 3 (hv := Or.inl (by kernel_rfl)))) (da_nil)))) okWOf) (da_nil))))) (hv := Or.inl (by kernel_rfl)))) (dss_nil)) <|
    dss_cons (ds_append 4 (de_tup (da_cons (de_var 2 (hv := Or.inl (by kernel_rfl))) (da_cons (de_str) (da_cons (de_non) (da_nil))))) (hv := Or.inl (by kernel_rfl))) <|
    dss_cons (ds_append 4 (de_tup (da_cons (de_var 2 (hv := Or.inl (by kernel_rfl))) (da_cons (de_str) (da_cons (de_kn h_like hr (da_cons (de_var 3 (hv := Or.inl (by kernel_rfl))) (da_cons (de_xf (E_.sub (by decide +kernel)) (fun c hc => a_rod c ((by decide +kernel : ∀ c ∈ cs_o_rod, c ∈ cs_rod) c hc)) (de_var 3 (hv := Or.inl (by kernel_rfl)))) (da_cons (de_op opAdd sat_add (de_xf (E_.sub (by decide +kernel)) (fun c hc => a_beads c ((by decide +kernel : ∀ c ∈ cs_o_beads, c ∈ cs_beads) c hc)) (de_var 3 (hv := Or.inl (by kernel_rfl)))) (de_int)) (da_nil)))) okWOf) (da_nil))))) (hv := Or.inl (by kernel_rfl))) <|
    dss_cons (ds_if (dt_cmp op_lt sat_lt (de_op opAdd sat_add (de_xf (E_.sub (by decide +kernel)) (fun c hc => a_rod c ((by decide +kernel : ∀ c ∈ cs_o_rod, c ∈ cs_rod) c hc)) (de_var 3 (hv := Or.inl (by kernel_rfl)))) (de_int)) (de_callB call_len sat_len (by unfold L2.Gl; kernel_rfl) B.n_len (by decide +kernel) (da_cons (de_var 0 (hv := Or.inl (by kernel_rfl))) (da_nil))) (nomark _)) (dss_one (ds_append 4 (de_tup (da_cons (de_var 2 (hv := Or.inl (by kernel_rfl))) (da_cons (de_str) (da_cons (de_kn h_like hr (da_cons (de_var 3 (hv := Or.inl (by kernel_rfl))) (da_cons (de_op opAdd sat_add (de_xf (E_.sub (by decide +kernel)) (fun c hc => a_rod c ((by decide +kernel : ∀ c ∈ cs_o_rod, c ∈ cs_rod) c hc)) (de_var 3 (hv := Or.inl (by kernel_rfl)))) (de_int)) (da_cons (de_xf (E_.sub (by decide +kernel)) (fun c hc => a_beads c ((by decide +kernel : ∀ c ∈ cs_o_beads, c ∈ cs_beads) c hc)) (de_var 3 (hv := Or.inl (by kernel_rfl)))) (da_nil)))) okWOf) (da_nil))))) (hv := Or.inl (by kernel_rfl)))) (dss_nil)) <|
    dss_one (ds_retS 4 (hv := Or.inl (by kernel_rfl)))
  exact ⟨a, fd, ["frame", "row", "at"], gm, Fd.kp, hb, G⟩
theorem sc_law_slip : FnScope ["_law_row_here", "_law_cell_here", "_law_at", "_law_move_here", "_law_way"] ["_law_row_here", "_law_cell_here"] (defScope s_law_slip) := ⟨rfl, rfl, rfl, by decide +kernel, rfl, by decide +kernel, by decide +kernel⟩
theorem k_law_slip {a : Addr} (F : ∃ fd, FunD K "_law_slip" "_law_slip" (defArgs s_law_slip) (defBody s_law_slip) (defScope s_law_slip) [] [] a fd) (gm : mg "_law_slip" = some (.ref a)) (B : Bt mg) (h_law_move : Kn P w K mg base 3 "_law_move" 3 m_law_move) (E_ : ExF K mg cs tb) (a_beads : ∀ c ∈ cs_beads, ∀ C, mg c = some (.ref C) → PySem.W.findIn K (.ref C) "beads" = some none) (a_rod : ∀ c ∈ cs_rod, ∀ C, mg c = some (.ref C) → PySem.W.findIn K (.ref C) "rod" = some none) (M_word : KnM P w K mg base 1 tb_word "word" 0) : Kn P w K mg base 4 "_law_slip" 2 m_law_slip := by
  obtain ⟨fd, Fd⟩ := F
  have hb : Binds K fd ["_law_row_here", "_law_cell_here"] [] := Fd.bindsN (fun _ _ _ _ _ _ us hl => match us, hl with | [_, _], _ => by kernel_rfl)
  have G : FnOk P w K mg base (L2.CX P w) 4 a fd ["_law_row_here", "_law_cell_here"] (spD K mg 2 (mk 5 b_law_slip)) := by
    refine fn_ok (k := 3) (g := b_law_slip) (N := ["_law_row_here", "_law_cell_here", "_law_at", "_law_move_here", "_law_way"]) (ps := ["_law_row_here", "_law_cell_here"]) Fd sc_law_slip (by decide) ?_
    intro cdv A outer s H E hr
    exact dss_cons (ds_asg (de_op op_mod sat_mod (de_op op_fdivW sat_div (de_var 1 (hv := Or.inl (by kernel_rfl))) (de_int)) (de_callB call_len sat_len (by unfold L2.Gl; kernel_rfl) B.n_len (by decide +kernel) (da_cons (de_var 0 (hv := Or.inl (by kernel_rfl))) (da_nil)))) (dg_name 2 sc_law_slip.nd (hx := Or.inl (by kernel_rfl)) (hf := .inl rfl))) <|
    dss_cons (ds_asg (de_ix ix_seq sat_ix (de_var 0 (hv := Or.inl (by kernel_rfl))) (de_var 2 (hv := Or.inl (by kernel_rfl))) (fun _ _ => rfl)) (dg_name 3 sc_law_slip.nd (hx := Or.inl (by kernel_rfl)) (hf := .inl rfl))) <|
    dss_cons (ds_asg (de_op op_mod sat_mod (de_var 1 (hv := Or.inl (by kernel_rfl))) (de_int)) (dg_name 4 sc_law_slip.nd (hx := Or.inl (by kernel_rfl)) (hf := .inl rfl))) <|
    dss_cons (ds_if (dt_w (dw_and (dt_cmp (opEq hr.units) sat_eq (de_var 4 (hv := Or.inl (by kernel_rfl))) (de_int) (nomark _)) (dw_and1 (dt_cmp op_gt sat_gt (de_xf (E_.sub (by decide +kernel)) a_beads (de_var 3 (hv := Or.inl (by kernel_rfl)))) (de_int) (nomark _))))) (dss_one (ds_ret (de_tup (da_cons (de_var 2 (hv := Or.inl (by kernel_rfl))) (da_cons (de_str) (da_cons (de_kn h_law_move hr (da_cons (de_meth0 M_word hr (de_var 3 (hv := Or.inl (by kernel_rfl))) okWOf) (da_cons (de_xf (E_.sub (by decide +kernel)) a_rod (de_var 3 (hv := Or.inl (by kernel_rfl)))) (da_cons (de_op op_sub sat_sub (de_xf (E_.sub (by decide +kernel)) a_beads (de_var 3 (hv := Or.inl (by kernel_rfl)))) (de_int)) (da_nil)))) okWOf) (da_nil))))))) (dss_nil)) <|
    dss_cons (ds_if (dt_cmp (opEq hr.units) sat_eq (de_var 4 (hv := Or.inl (by kernel_rfl))) (de_int) (nomark _)) (dss_one (ds_ret (de_tup (da_cons (de_var 2 (hv := Or.inl (by kernel_rfl))) (da_cons (de_str) (da_cons (de_kn h_law_move hr (da_cons (de_meth0 M_word hr (de_var 3 (hv := Or.inl (by kernel_rfl))) okWOf) (da_cons (de_xf (E_.sub (by decide +kernel)) a_rod (de_var 3 (hv := Or.inl (by kernel_rfl)))) (da_cons (de_op opAdd sat_add (de_xf (E_.sub (by decide +kernel)) a_beads (de_var 3 (hv := Or.inl (by kernel_rfl)))) (de_int)) (da_nil)))) okWOf) (da_nil))))))) (dss_nil)) <|
    dss_cons (ds_if (dt_w (dw_and (dt_cmp (opEq hr.units) sat_eq (de_var 4 (hv := Or.inl (by kernel_rfl))) (de_int) (nomark _)) (dw_and1 (dt_cmp op_gt sat_gt (de_xf (E_.sub (by decide +kernel)) a_rod (de_var 3 (hv := Or.inl (by kernel_rfl)))) (de_int) (nomark _))))) (dss_one (ds_ret (de_tup (da_cons (de_var 2 (hv := Or.inl (by kernel_rfl))) (da_cons (de_str) (da_cons (de_kn h_law_move hr (da_cons (de_meth0 M_word hr (de_var 3 (hv := Or.inl (by kernel_rfl))) okWOf) (da_cons (de_op op_sub sat_sub (de_xf (E_.sub (by decide +kernel)) a_rod (de_var 3 (hv := Or.inl (by kernel_rfl)))) (de_int)) (da_cons (de_xf (E_.sub (by decide +kernel)) a_beads (de_var 3 (hv := Or.inl (by kernel_rfl)))) (da_nil)))) okWOf) (da_nil))))))) (dss_nil)) <|
    dss_cons (ds_if (dt_cmp (opEq hr.units) sat_eq (de_var 4 (hv := Or.inl (by kernel_rfl))) (de_int) (nomark _)) (dss_one (ds_ret (de_tup (da_cons (de_var 2 (hv := Or.inl (by kernel_rfl))) (da_cons (de_str) (da_cons (de_kn h_law_move hr (da_cons (de_meth0 M_word hr (de_var 3 (hv := Or.inl (by kernel_rfl))) okWOf) (da_cons (de_op opAdd sat_add (de_xf (E_.sub (by decide +kernel)) a_rod (de_var 3 (hv := Or.inl (by kernel_rfl)))) (de_int)) (da_cons (de_xf (E_.sub (by decide +kernel)) a_beads (de_var 3 (hv := Or.inl (by kernel_rfl)))) (da_nil)))) okWOf) (da_nil))))))) (dss_nil)) <|
    dss_one (ds_ret (de_tup (da_cons (de_var 2 (hv := Or.inl (by kernel_rfl))) (da_cons (de_str) (da_cons (de_non) (da_nil))))))
  exact ⟨a, fd, ["_law_row_here", "_law_cell_here"], gm, Fd.kp, hb, G⟩
theorem sc_leads_to : FnScope ["frame", "standing", "row", "other", "found"] ["frame", "standing", "row", "other"] (defScope s_leads_to) := ⟨rfl, rfl, rfl, by decide +kernel, rfl, by decide +kernel, by decide +kernel⟩
theorem k_leads_to {a : Addr} (F : ∃ fd, FunD K "leads_to" "leads_to" (defArgs s_leads_to) (defBody s_leads_to) (defScope s_leads_to) [] [] a fd) (gm : mg "leads_to" = some (.ref a)) (B : Bt mg) (h_done_all : Kn P w K mg base 4 "done_all" 3 m_done_all) (tg_Stuck : KxT K mg "Stuck" (subG "Stuck")) : Kn P w K mg base 5 "leads_to" 4 m_leads_to := by
  obtain ⟨fd, Fd⟩ := F
  have hb : Binds K fd ["frame", "standing", "row", "other"] [] := Fd.bindsN (fun _ _ _ _ _ _ us hl => match us, hl with | [_, _, _, _], _ => by kernel_rfl)
  have G : FnOk P w K mg base (L2.CX P w) 5 a fd ["frame", "standing", "row", "other"] (spD K mg 4 (mk 5 b_leads_to)) := by
    refine fn_ok (k := 4) (g := b_leads_to) (N := ["frame", "standing", "row", "other", "found"]) (ps := ["frame", "standing", "row", "other"]) Fd sc_leads_to (by decide) ?_
    intro cdv A outer s H E hr
    exact dss_cons (ds_kxTryO tg_Stuck (takes_of rfl rfl rfl rfl) (fun W pn xe tk _ => dss_one (ds_asg (de_kn h_done_all hr (da_cons (de_var 0 (hv := Or.inl (by kernel_rfl))) (da_cons (de_var 1 (hv := Or.inl (by kernel_rfl))) (da_cons (de_var 2 (hv := Or.inl (by kernel_rfl))) (da_nil)))) (fun σ => passAt tk σ)) (dg_name 4 sc_leads_to.nd (hx := Or.inl (by kernel_rfl)) (hf := .inl rfl)))) (fun a pn => dss_one (ds_ret (de_bl)))) <|
    dss_one (ds_ret (de_cmp (opEq hr.units) sat_eq (de_var 4 (hv := Or.inl (by kernel_rfl))) (de_var 3 (hv := Or.inl (by kernel_rfl))) (nomark _)))
  exact ⟨a, fd, ["frame", "standing", "row", "other"], gm, Fd.kp, hb, G⟩
theorem sc_Hand_turn_to : FnScope ["self", "standing"] ["self", "standing"] (defScope s_Hand_turn_to) := ⟨rfl, rfl, rfl, by decide +kernel, rfl, by decide +kernel, by decide +kernel⟩
theorem k_Hand_turn_to {a : Addr} (F : ∃ fd, FunD K "turn_to" "Hand.turn_to" (defArgs s_Hand_turn_to) (defBody s_Hand_turn_to) (defScope s_Hand_turn_to) [] [] a fd) (B : Bt mg) (ho_rows_between : KnO P w K mg base 4 "rows_between" 3 mo_rows_between) (oc_Hand : OCf K mg "Hand" ["frame", "now", "pushed"]) : ∃ fd ps, FnOk P w K mg base (L2.CX P w) 5 a fd ps (spM K mg "Hand" 1 (m_Hand_turn_to)) ∧ Binds K fd ps [] := by
  obtain ⟨fd, Fd⟩ := F
  have hb : Binds K fd ["self", "standing"] [] := Fd.bindsN (fun _ _ _ _ _ _ us hl => match us, hl with | [_, _], _ => by kernel_rfl)
  have G : FnOk P w K mg base (L2.CX P w) 5 a fd ["self", "standing"] (spM K mg "Hand" 1 (mkM 1 "Hand" b_Hand_turn_to)) := by
    refine fn_okM (k := 4) (g := b_Hand_turn_to) (N0 := "self") (N' := ["standing"]) (ps := ["self", "standing"]) Fd sc_Hand_turn_to (by decide) (by decide) ?_
    intro cdv A outer s H E hr
    exact dss_cons (ds_extF 0 oc_Hand (by decide +kernel) (do_kn ho_rows_between hr (da_cons (de_fld 0 oc_Hand (by decide +kernel) (hv := Or.inl (by kernel_rfl))) (da_cons (de_fld 0 oc_Hand (by decide +kernel) (hv := Or.inl (by kernel_rfl))) (da_cons (de_var 1 (hv := Or.inl (by kernel_rfl))) (da_nil)))) okWOf) (hv := Or.inl (by kernel_rfl))) <|
    dss_one (ds_fldV 0 oc_Hand (by decide +kernel) (de_frz (do_callTy call_list_of satO_list (by unfold L2.Gl; kernel_rfl) B.n_list (by decide +kernel) (da_cons (de_var 1 (hv := Or.inl (by kernel_rfl))) (da_nil)))) (hv := Or.inl (by kernel_rfl)))
  exact ⟨fd, ["self", "standing"], G, hb⟩
theorem sc_slips_of : FnScope ["frame", "standing", "row", "other", "told", "at", "slip"] ["frame", "standing", "row", "other"] (defScope s_slips_of) := ⟨rfl, rfl, rfl, by decide +kernel, rfl, by decide +kernel, by decide +kernel⟩
theorem ko_slips_of {a : Addr} (F : ∃ fd, FunD K "slips_of" "slips_of" (defArgs s_slips_of) (defBody s_slips_of) (defScope s_slips_of) [] [] a fd) (gm : mg "slips_of" = some (.ref a)) (B : Bt mg) (h_slips_at : Kn P w K mg base 4 "slips_at" 3 m_slips_at) (h_with_slip : Kn P w K mg base 1 "with_slip" 2 m_with_slip) (h_leads_to : Kn P w K mg base 5 "leads_to" 4 m_leads_to) : KnO P w K mg base 6 "slips_of" 4 mo_slips_of := by
  obtain ⟨fd, Fd⟩ := F
  have hb : Binds K fd ["frame", "standing", "row", "other"] [] := Fd.bindsN (fun _ _ _ _ _ _ us hl => match us, hl with | [_, _, _, _], _ => by kernel_rfl)
  have G : FnOk P w K mg base (L2.CX P w) 6 a fd ["frame", "standing", "row", "other"] (spO K mg 4 (mkO 7 b_slips_of)) := by
    refine fn_okO (k := 5) (g := b_slips_of) (N := ["frame", "standing", "row", "other", "told", "at", "slip"]) (ps := ["frame", "standing", "row", "other"]) Fd sc_slips_of (by decide) ?_
    intro cdv A outer s H E hr
    exact dss_cons (ds_setO 4 sc_slips_of.nd (do_lst (da_nil)) (hx := Or.inl (by kernel_rfl)) (hf := .inl rfl)) <|
    dss_cons (ds_for passOwnOf rfl (di_range1 (by unfold L2.Gl; kernel_rfl) B.n_range (da_cons (de_callB call_len sat_len (by unfold L2.Gl; kernel_rfl) B.n_len (by decide +kernel) (da_cons (de_var 2 (hv := Or.inl (by kernel_rfl))) (da_nil))) (da_nil))) (dg_name 5 sc_slips_of.nd (hx := Or.inl (by kernel_rfl)) (hf := .inl rfl)) (dss_wp [5, 6] (dss_one (ds_for passOwnOf rfl (di_list (de_kn h_slips_at hr (da_cons (de_var 0 (hv := Or.inl (by kernel_rfl))) (da_cons (de_var 2 (hv := Or.inl (by kernel_rfl))) (da_cons (de_var 5 (hv := Or.inl (by kernel_rfl))) (da_nil)))) okWOf)) (dg_name 6 sc_slips_of.nd (hx := Or.inl (by kernel_rfl)) (hf := .inl rfl)) (dss_wp [6] (dss_one (ds_if (dt_tru (de_kn h_leads_to hr (da_cons (de_var 0 (hv := Or.inl (by kernel_rfl))) (da_cons (de_var 1 (hv := Or.inl (by kernel_rfl))) (da_cons (de_kn h_with_slip hr (da_cons (de_var 2 (hv := Or.inl (by kernel_rfl))) (da_cons (de_var 6 (hv := Or.inl (by kernel_rfl))) (da_nil))) okWOf) (da_cons (de_var 3 (hv := Or.inl (by kernel_rfl))) (da_nil))))) okWOf) (by intro _; rfl)) (dss_one (ds_append 4 (de_var 6 (hv := Or.inl (by kernel_rfl))) (hv := Or.inl (by kernel_rfl)))) (dss_nil)))))))) <|
    dss_one (ds_retS 4 (hv := Or.inl (by kernel_rfl)))
  exact ⟨a, fd, ["frame", "standing", "row", "other"], gm, Fd.kp, hb, G⟩
theorem sc_Hand_make : FnScope ["self", "rod", "count", "later"] ["self", "rod", "count"] (defScope s_Hand_make) := ⟨rfl, rfl, rfl, by decide +kernel, rfl, by decide +kernel, by decide +kernel⟩
theorem k_Hand_make {a : Addr} (F : ∃ fd, FunD K "make" "Hand.make" (defArgs s_Hand_make) (defBody s_Hand_make) (defScope s_Hand_make) [] [] a fd) (B : Bt mg) (h_plain_of : Kn P w K mg base 1 "plain_of" 2 m_plain_of) (S_Hand_turn_to : KnS P w K mg base 5 "Hand" "turn_to" 1 m_Hand_turn_to) (oc_Hand : OCf K mg "Hand" ["frame", "now", "pushed"]) : ∃ fd ps, FnOk P w K mg base (L2.CX P w) 6 a fd ps (spM K mg "Hand" 2 (m_Hand_make)) ∧ Binds K fd ps [] := by
  obtain ⟨fd, Fd⟩ := F
  have hb : Binds K fd ["self", "rod", "count"] [] := Fd.bindsN (fun _ _ _ _ _ _ us hl => match us, hl with | [_, _, _], _ => by kernel_rfl)
  have G : FnOk P w K mg base (L2.CX P w) 6 a fd ["self", "rod", "count"] (spM K mg "Hand" 2 (mkM 3 "Hand" b_Hand_make)) := by
    refine fn_okM (k := 5) (g := b_Hand_make) (N0 := "self") (N' := ["rod", "count", "later"]) (ps := ["self", "rod", "count"]) Fd sc_Hand_make (by decide) (by decide) ?_
    intro cdv A outer s H E hr
    exact dss_cons (ds_setO 3 sc_Hand_make.nd (do_callTy call_list_of satO_list (by unfold L2.Gl; kernel_rfl) B.n_list (by decide +kernel) (da_cons (de_fld 0 oc_Hand (by decide +kernel) (hv := Or.inl (by kernel_rfl))) (da_nil))) (hx := Or.inl (by kernel_rfl)) (hf := .inl rfl)) <|
    dss_cons (ds_setIx 3 (de_var 1 (hv := Or.inl (by kernel_rfl))) (de_kn h_plain_of hr (da_cons (de_ix ix_seq sat_ix (de_fld 0 oc_Hand (by decide +kernel) (hv := Or.inl (by kernel_rfl))) (de_var 1 (hv := Or.inl (by kernel_rfl))) (fun _ _ => rfl)) (da_cons (de_var 2 (hv := Or.inl (by kernel_rfl))) (da_nil))) okWOf) (hv := Or.inl (by kernel_rfl))) <|
    dss_one (ds_frz 3 (ds_meth 0 S_Hand_turn_to hr (da_cons (de_var 3 (hv := Or.inl (by kernel_rfl))) (da_nil)) okWOf (hv := Or.inl (by kernel_rfl))))
  exact ⟨fd, ["self", "rod", "count"], G, hb⟩
theorem sc_tidy_hand : FnScope ["frame", "standing", "hand"] ["frame", "standing"] (defScope s_tidy_hand) := ⟨rfl, rfl, rfl, by decide +kernel, rfl, by decide +kernel, by decide +kernel⟩
theorem kB_tidy_hand {a : Addr} (F : ∃ fd, FunD K "tidy_hand" "tidy_hand" (defArgs s_tidy_hand) (defBody s_tidy_hand) (defScope s_tidy_hand) [] [] a fd) (gm : mg "tidy_hand" = some (.ref a)) (B : Bt mg) (h_borne_by : Kn P w K mg base 2 "borne_by" 2 m_borne_by) (h_tidy_of : Kn P w K mg base 3 "tidy_of" 2 m_tidy_of) (S_Hand_turn_to : KnS P w K mg base 5 "Hand" "turn_to" 1 m_Hand_turn_to) (I_Hand : KnI P w K mg base 1 "Hand" 2 m_Hand___init) : KnB P w K mg base 6 "tidy_hand" "Hand" 2 m_tidy_hand := by
  obtain ⟨fd, Fd⟩ := F
  have hb : Binds K fd ["frame", "standing"] [] := Fd.bindsN (fun _ _ _ _ _ _ us hl => match us, hl with | [_, _], _ => by kernel_rfl)
  have G : FnOk P w K mg base (L2.CX P w) 6 a fd ["frame", "standing"] (spB K mg "Hand" 2 (mkB 3 b_tidy_hand)) := by
    refine fn_okB (k := 5) (g := b_tidy_hand) (N := ["frame", "standing", "hand"]) (ps := ["frame", "standing"]) Fd sc_tidy_hand (by decide) ?_
    intro cdv A outer s H E hr
    exact dsb_cons (ds_setB 2 sc_tidy_hand.nd (db_new I_Hand hr (da_cons (de_var 0 (hv := Or.inl (by kernel_rfl))) (da_cons (de_var 1 (hv := Or.inl (by kernel_rfl))) (da_nil)))) (hx := Or.inl (by kernel_rfl)) (hf := .inl rfl)) <|
    dsb_cons (ds_meth 2 S_Hand_turn_to hr (da_cons (de_kn h_tidy_of hr (da_cons (de_var 0 (hv := Or.inl (by kernel_rfl))) (da_cons (de_kn h_borne_by hr (da_cons (de_var 0 (hv := Or.inl (by kernel_rfl))) (da_cons (de_var 1 (hv := Or.inl (by kernel_rfl))) (da_nil))) okWOf) (da_nil))) okWOf) (da_nil)) okWOf (hv := Or.inl (by kernel_rfl))) <|
    dsb_ret 2 (hv := Or.inl (by kernel_rfl))
  exact ⟨a, fd, ["frame", "standing"], gm, Fd.kp, hb, G⟩
theorem sc_Hand_give : FnScope ["self", "rod", "digit", "found", "base"] ["self", "rod", "digit"] (defScope s_Hand_give) := ⟨rfl, rfl, rfl, by decide +kernel, rfl, by decide +kernel, by decide +kernel⟩
theorem k_Hand_give {a : Addr} (F : ∃ fd, FunD K "give" "Hand.give" (defArgs s_Hand_give) (defBody s_Hand_give) (defScope s_Hand_give) [] [] a fd) (B : Bt mg) (oc_Hand : OCf K mg "Hand" ["frame", "now", "pushed"]) (S_Hand_make : KnS P w K mg base 6 "Hand" "make" 2 m_Hand_make) (M_stands : KnM P w K mg base 2 tb_stands "stands" 1) (hC : ∃ C, mg "Hand" = some (.ref C) ∧ Cls K C ∧ Meth K C "give" a) : ∃ fd ps, FnOk P w K mg base (L2.CX P w) 106 a fd ps (spM K mg "Hand" 2 (m_Hand_give)) ∧ Binds K fd ps [] := by
  obtain ⟨fd, Fd⟩ := F
  have hb : Binds K fd ["self", "rod", "digit"] [] := Fd.bindsN (fun _ _ _ _ _ _ us hl => match us, hl with | [_, _, _], _ => by kernel_rfl)
  have G : ∀ t : Nat, FnOk P w K mg base (L2.CX P w) (6 + t) a fd ["self", "rod", "digit"] (spM K mg "Hand" 2 (mr_Hand_give t)) := by
    intro t
    induction t with
    | zero => exact fnOk0 (by decide)
    | succ t ih =>
      obtain ⟨C, gC, cl, me⟩ := hC
      have S_Hand_give : KnS P w K mg base (6 + t) "Hand" "give" 2 (mr_Hand_give t) := ⟨C, a, fd, ["self", "rod", "digit"], gC, cl, me, hb, ih⟩
      refine fn_okM (k := 6 + t) (g := b_Hand_give (mr_Hand_give t)) (N0 := "self") (N' := ["rod", "digit", "found", "base"]) (ps := ["self", "rod", "digit"]) Fd sc_Hand_give (by decide) (by decide) ?_
      intro cdv A outer s H E hR
      have hr : Room 6 _ := hR.mono (Nat.le_add_right 6 t)
      exact dss_cons (ds_asg (de_op opAdd sat_add (de_bor 0 (de_meth M_stands hr (de_var 0 (hv := Or.inl (by kernel_rfl))) (da_cons (de_var 1 (hv := Or.inl (by kernel_rfl))) (da_nil)) okWOf)) (de_var 2 (hv := Or.inl (by kernel_rfl)))) (dg_name 3 sc_Hand_give.nd (hx := Or.inl (by kernel_rfl)) (hf := .inl rfl))) <|
    dss_cons (ds_asg (de_ix ix_seq sat_ix (de_ix ix_seq sat_ix (de_fld 0 oc_Hand (by decide +kernel) (hv := Or.inl (by kernel_rfl))) (de_var 1 (hv := Or.inl (by kernel_rfl))) (fun _ _ => rfl)) (de_int) (fun _ _ => rfl)) (dg_name 4 sc_Hand_give.nd (hx := Or.inl (by kernel_rfl)) (hf := .inl rfl))) <|
    dss_one (ds_if (dt_w (dw_or (dt_cmp op_lt sat_lt (de_var 3 (hv := Or.inl (by kernel_rfl))) (de_var 4 (hv := Or.inl (by kernel_rfl))) (nomark _)) (dw_or1 (dt_cmp (opEq hr.units) sat_eq (de_var 1 (hv := Or.inl (by kernel_rfl))) (de_op op_sub sat_sub (de_callB call_len sat_len (by unfold L2.Gl; kernel_rfl) B.n_len (by decide +kernel) (da_cons (de_fld 0 oc_Hand (by decide +kernel) (hv := Or.inl (by kernel_rfl))) (da_nil))) (de_int)) (nomark _))))) (dss_one (ds_meth 0 S_Hand_make hr (da_cons (de_var 1 (hv := Or.inl (by kernel_rfl))) (da_cons (de_var 3 (hv := Or.inl (by kernel_rfl))) (da_nil))) okWOf (hv := Or.inl (by kernel_rfl)))) (dss_cons (ds_meth 0 S_Hand_give hR (da_cons (de_op opAdd sat_add (de_var 1 (hv := Or.inl (by kernel_rfl))) (de_int)) (da_cons (de_int) (da_nil))) okWOf (hj := Nat.le_refl _) (hv := Or.inl (by kernel_rfl))) <|
    dss_one (ds_meth 0 S_Hand_make hr (da_cons (de_var 1 (hv := Or.inl (by kernel_rfl))) (da_cons (de_op op_sub sat_sub (de_var 3 (hv := Or.inl (by kernel_rfl))) (de_var 4 (hv := Or.inl (by kernel_rfl)))) (da_nil))) okWOf (hv := Or.inl (by kernel_rfl)))))
  exact ⟨fd, ["self", "rod", "digit"], G 100, hb⟩
theorem sc_adding_row : FnScope ["frame", "standing", "number", "hand", "digits", "rod"] ["frame", "standing", "number"] (defScope s_adding_row) := ⟨rfl, rfl, rfl, by decide +kernel, rfl, by decide +kernel, by decide +kernel⟩
theorem ko_adding_row {a : Addr} (F : ∃ fd, FunD K "adding_row" "adding_row" (defArgs s_adding_row) (defBody s_adding_row) (defScope s_adding_row) [] [] a fd) (gm : mg "adding_row" = some (.ref a)) (B : Bt mg) (h_digits_of : Kn P w K mg base 1 "digits_of" 2 m_digits_of) (h_borne_by : Kn P w K mg base 2 "borne_by" 2 m_borne_by) (h_tidy_of : Kn P w K mg base 3 "tidy_of" 2 m_tidy_of) (hB_tidy_hand : KnB P w K mg base 6 "tidy_hand" "Hand" 2 m_tidy_hand) (oc_Hand : OCf K mg "Hand" ["frame", "now", "pushed"]) (S_Hand_give : KnS P w K mg base 106 "Hand" "give" 2 m_Hand_give) : KnO P w K mg base 107 "adding_row" 3 mo_adding_row := by
  obtain ⟨fd, Fd⟩ := F
  have hb : Binds K fd ["frame", "standing", "number"] [] := Fd.bindsN (fun _ _ _ _ _ _ us hl => match us, hl with | [_, _, _], _ => by kernel_rfl)
  have G : FnOk P w K mg base (L2.CX P w) 107 a fd ["frame", "standing", "number"] (spO K mg 3 (mkO 6 b_adding_row)) := by
    refine fn_okO (k := 106) (g := b_adding_row) (N := ["frame", "standing", "number", "hand", "digits", "rod"]) (ps := ["frame", "standing", "number"]) Fd sc_adding_row (by decide) ?_
    intro cdv A outer s H E hr
    exact dss_cons (ds_setB 3 sc_adding_row.nd (db_kn hB_tidy_hand hr (da_cons (de_var 0 (hv := Or.inl (by kernel_rfl))) (da_cons (de_var 1 (hv := Or.inl (by kernel_rfl))) (da_nil))) okWOf) (hx := Or.inl (by kernel_rfl)) (hf := .inl rfl)) <|
    dss_cons (ds_expr (de_kn h_tidy_of hr (da_cons (de_var 0 (hv := Or.inl (by kernel_rfl))) (da_cons (de_op opAdd sat_add (de_kn h_borne_by hr (da_cons (de_var 0 (hv := Or.inl (by kernel_rfl))) (da_cons (de_var 1 (hv := Or.inl (by kernel_rfl))) (da_nil))) okWOf) (de_var 2 (hv := Or.inl (by kernel_rfl)))) (da_nil))) okWOf)) <|
    dss_cons (ds_asg (de_kn h_digits_of hr (da_cons (de_var 0 (hv := Or.inl (by kernel_rfl))) (da_cons (de_var 2 (hv := Or.inl (by kernel_rfl))) (da_nil))) okWOf) (dg_name 4 sc_adding_row.nd (hx := Or.inl (by kernel_rfl)) (hf := .inl rfl))) <|
    dss_cons (ds_for passOwnOf rfl (di_range3 (by unfold L2.Gl; kernel_rfl) B.n_range (da_cons (de_op op_sub sat_sub (de_callB call_len sat_len (by unfold L2.Gl; kernel_rfl) B.n_len (by decide +kernel) (da_cons (de_var 0 (hv := Or.inl (by kernel_rfl))) (da_nil))) (de_int)) (da_cons (de_un un_neg sat_neg (de_int)) (da_cons (de_un un_neg sat_neg (de_int)) (da_nil))))) (dg_name 5 sc_adding_row.nd (hx := Or.inl (by kernel_rfl)) (hf := .inl rfl)) (dss_wp [5] (dss_one (ds_if (dt_cmp op_gt sat_gt (de_ix ix_seq sat_ix (de_var 4 (hv := Or.inl (by kernel_rfl))) (de_var 5 (hv := Or.inl (by kernel_rfl))) (fun _ _ => rfl)) (de_int) (nomark _)) (dss_one (ds_meth 3 S_Hand_give hr (da_cons (de_var 5 (hv := Or.inl (by kernel_rfl))) (da_cons (de_ix ix_seq sat_ix (de_var 4 (hv := Or.inl (by kernel_rfl))) (de_var 5 (hv := Or.inl (by kernel_rfl))) (fun _ _ => rfl)) (da_nil))) okWOf (hv := Or.inl (by kernel_rfl)))) (dss_nil))))) <|
    dss_one (ds_retF 3 oc_Hand (by decide +kernel) (hv := Or.inl (by kernel_rfl)))
  exact ⟨a, fd, ["frame", "standing", "number"], gm, Fd.kp, hb, G⟩
theorem sc_law_row : FnScope ["_law_script", "_law_frame_here", "_law_now", "_law_row_here", "_law_cell_here", "_law_more", "_law_layout_here"] ["_law_script", "_law_frame_here"] (defScope s_law_row) := ⟨rfl, rfl, rfl, by decide +kernel, rfl, by decide +kernel, by decide +kernel⟩
theorem k_law_row {a : Addr} (F : ∃ fd, FunD K "_law_row" "_law_row" (defArgs s_law_row) (defBody s_law_row) (defScope s_law_row) [] [] a fd) (gm : mg "_law_row" = some (.ref a)) (B : Bt mg) (h_law_pushed : Kn P w K mg base 2 "_law_pushed" 3 m_law_pushed) (h_adding_row : Kn P w K mg base 107 "adding_row" 3 m_adding_row) (tg_FrameError : KxT K mg "FrameError" (subG "FrameError")) : Kn P w K mg base 108 "_law_row" 2 m_law_row := by
  obtain ⟨fd, Fd⟩ := F
  have hb : Binds K fd ["_law_script", "_law_frame_here"] [] := Fd.bindsN (fun _ _ _ _ _ _ us hl => match us, hl with | [_, _], _ => by kernel_rfl)
  have G : FnOk P w K mg base (L2.CX P w) 108 a fd ["_law_script", "_law_frame_here"] (spD K mg 2 (mk 7 b_law_row)) := by
    refine fn_ok (k := 107) (g := b_law_row) (N := ["_law_script", "_law_frame_here", "_law_now", "_law_row_here", "_law_cell_here", "_law_more", "_law_layout_here"]) (ps := ["_law_script", "_law_frame_here"]) Fd sc_law_row (by decide) ?_
    intro cdv A outer s H E hr
    exact dss_cons (ds_setLc 2 (own := [("_law_layout_here", 6)]) rfl sc_law_row.nd (by kernel_rfl) (sw_true rfl (by kernel_rfl) rfl (by decide +kernel)) (di_list (de_var 1 (hv := Or.inl (by kernel_rfl)))) (blkOk_by (own := [("_law_layout_here", 6)]) (N := ["_law_script", "_law_frame_here", "_law_now", "_law_row_here", "_law_cell_here", "_law_more", "_law_layout_here"]) (sc := defScope s_law_row) (by decide +kernel)) (fun _ _ _ _ _ => dg_name 6 sc_law_row.nd (hx := Or.inl (by kernel_rfl)) (hf := .inr (by kernel_rfl))) (fun _ _ _ _ _ => dts_nil) (fun _ _ _ _ _ => de_tup (da_cons (de_int) (da_cons (de_int) (da_nil))))) <|
    dss_cons (ds_asg (de_frz (do_lst (da_nil))) (dg_name 3 sc_law_row.nd (hx := Or.inl (by kernel_rfl)) (hf := .inl rfl))) <|
    dss_cons (ds_for passOwnOf rfl (di_list (de_slice (de_var 0 (hv := Or.inl (by kernel_rfl))) (dp_so (de_int)) (dp_so (de_int)))) (dg_name 4 sc_law_row.nd (hx := Or.inl (by kernel_rfl)) (hf := .inl rfl)) (dss_wp [4, 5] (dss_cons (ds_asg (de_frz (do_lst (da_nil))) (dg_name 5 sc_law_row.nd (hx := Or.inl (by kernel_rfl)) (hf := .inl rfl))) <|
    dss_cons (ds_kxTryO tg_FrameError (takes_of rfl rfl rfl rfl) (fun W pn xe tk _ => dss_one (ds_frz 2 (ds_asg (de_kn h_adding_row hr (da_cons (de_var 1 (hv := Or.inl (by kernel_rfl))) (da_cons (de_var 2 (hv := Or.inl (by kernel_rfl))) (da_cons (de_op op_mod sat_mod (de_op op_mod sat_mod (de_var 4 (hv := Or.inl (by kernel_rfl))) (de_op op_pow sat_pow (de_int) (de_int))) (de_ix ix_seq sat_ix (de_frz (do_lst (da_cons (de_int) (da_cons (de_op op_pow sat_pow (de_int) (de_int)) (da_nil))))) (de_op op_mod sat_mod (de_var 4 (hv := Or.inl (by kernel_rfl))) (de_int)) (fun _ _ => rfl))) (da_nil)))) (fun σ => passAt tk σ)) (dg_name 5 sc_law_row.nd (hx := Or.inl (by kernel_rfl)) (hf := .inl rfl))))) (fun a pn => dss_one (ds_asg (de_frz (do_lst (da_nil))) (dg_name 5 sc_law_row.nd (hx := Or.inl (by kernel_rfl)) (hf := .inl rfl))))) <|
    dss_cons (ds_asg (de_op opAdd sat_add (de_var 3 (hv := Or.inl (by kernel_rfl))) (de_var 5 (hv := Or.inl (by kernel_rfl)))) (dg_name 3 sc_law_row.nd (hx := Or.inl (by kernel_rfl)) (hf := .inl rfl))) <|
    dss_one (ds_frz 2 (ds_asg (de_kn h_law_pushed hr (da_cons (de_var 1 (hv := Or.inl (by kernel_rfl))) (da_cons (de_var 2 (hv := Or.inl (by kernel_rfl))) (da_cons (de_var 5 (hv := Or.inl (by kernel_rfl))) (da_nil)))) okWOf) (dg_name 2 sc_law_row.nd (hx := Or.inl (by kernel_rfl)) (hf := .inl rfl))))))) <|
    dss_one (ds_ret (de_slice (de_var 3 (hv := Or.inl (by kernel_rfl))) (dp_no) (dp_so (de_int))))
  exact ⟨a, fd, ["_law_script", "_law_frame_here"], gm, Fd.kp, hb, G⟩
theorem sc_law : FnScope ["_law_script", "_law_frame_here", "_law_row_here", "_law_start", "_law_cell_here", "_law_slip_here", "_law_goal", "_law_found", "_law_told_here", "_law_spots", "_law_one", "_law_made", "_law_layout_here"] ["_law_script"] (defScope s_law) := ⟨rfl, rfl, rfl, by decide +kernel, rfl, by decide +kernel, by decide +kernel⟩
theorem sci_Stuck : FnScope ["self", "rod", "at"] ["self", "rod", "at"] (defScope si_Stuck) := ⟨rfl, rfl, rfl, by decide +kernel, rfl, by decide +kernel, by decide +kernel⟩
theorem ki_Stuck {a B C : Addr} (F : ∃ fd, FunD K "__init__" "Stuck.__init__" (defArgs si_Stuck) (defBody si_Stuck) (defScope si_Stuck) [] [] a fd) (gB : mg "FrameError" = some (.ref B)) (fe : feB K B = true) (T : OexC K C) (n_rod : PySem.W.findIn K (.ref C) "rod" = some none) (n_at : PySem.W.findIn K (.ref C) "at" = some none) : ∃ fd, FnOk P w K mg base (L2.CX P w) 1 a fd ["self", "rod", "at"] (HX.sp2 K C "rod" "at") ∧ Binds K fd ["self", "rod", "at"] [] := by
  obtain ⟨fd, Fd⟩ := F
  obtain ⟨rd, vV⟩ := feB_ok fe
  have hb : Binds K fd ["self", "rod", "at"] [] := Fd.bindsN (fun _ _ _ _ _ _ us hl => match us, hl with | [_, _, _], _ => by kernel_rfl)
  have G : FnOk P w K mg base (L2.CX P w) 1 a fd ["self", "rod", "at"] (HX.sp2 K C "rod" "at") := by
    refine FunD.ok (N := ["self", "rod", "at"]) (ps := ["self", "rod", "at"]) Fd sci_Stuck (fun vs H Q E h => by obtain ⟨b, y0, y1, rfl, _⟩ := h; rfl) fun cdv A outer s H vs Q E hr h => ?_
    refine ⟨_, pss_cons (ps_expr (HX.pe_oinit (by unfold L2.Gl; kernel_rfl) gB rd vV (pa_cons (pe_var (i := 0) rfl (Or.inl (by kernel_rfl)) (by kernel_rfl) (by kernel_rfl)) (pa_cons pe_str pa_nil))) (by rfl)) (pss_cons (ps_ost (pe_var (i := 0) rfl (Or.inl (by kernel_rfl)) (by kernel_rfl) (by kernel_rfl)) (pe_var (i := 1) rfl (Or.inl (by kernel_rfl)) (by kernel_rfl) (by kernel_rfl))) (pss_cons (ps_ost (pe_var (i := 0) rfl (Or.inl (by kernel_rfl)) (by kernel_rfl) (by kernel_rfl)) (pe_var (i := 2) rfl (Or.inl (by kernel_rfl)) (by kernel_rfl) (by kernel_rfl))) pss_nil)), ?_⟩
    obtain ⟨b, y0, y1, rfl, eb, q⟩ := h
    refine ⟨_, rfl, _, C, _, rfl, by decide, T, eb, ?_⟩
    refine ⟨_, rfl, _, rfl, b, C, rfl, T, n_rod, .inl ⟨eb, fun dx n ne => ?_⟩⟩
    exact ⟨_, rfl, _, rfl, b, C, rfl, T, n_at, .inr ⟨dx, _, upd_same, by rw [upd_ne ne, upd_same], by show (1 : Nat) ≤ 900; decide, q dx n ne⟩⟩
  exact ⟨fd, G, hb⟩
theorem sci_TooGreat : FnScope ["self", "rod"] ["self", "rod"] (defScope si_TooGreat) := ⟨rfl, rfl, rfl, by decide +kernel, rfl, by decide +kernel, by decide +kernel⟩
theorem ki_TooGreat {a B C : Addr} (F : ∃ fd, FunD K "__init__" "TooGreat.__init__" (defArgs si_TooGreat) (defBody si_TooGreat) (defScope si_TooGreat) [] [] a fd) (gB : mg "FrameError" = some (.ref B)) (fe : feB K B = true) (T : OexC K C) (n_rod : PySem.W.findIn K (.ref C) "rod" = some none) : ∃ fd, FnOk P w K mg base (L2.CX P w) 1 a fd ["self", "rod"] (HX.sp1 K C "rod") ∧ Binds K fd ["self", "rod"] [] := by
  obtain ⟨fd, Fd⟩ := F
  obtain ⟨rd, vV⟩ := feB_ok fe
  have hb : Binds K fd ["self", "rod"] [] := Fd.bindsN (fun _ _ _ _ _ _ us hl => match us, hl with | [_, _], _ => by kernel_rfl)
  have G : FnOk P w K mg base (L2.CX P w) 1 a fd ["self", "rod"] (HX.sp1 K C "rod") := by
    refine FunD.ok (N := ["self", "rod"]) (ps := ["self", "rod"]) Fd sci_TooGreat (fun vs H Q E h => by obtain ⟨b, y0, rfl, _⟩ := h; rfl) fun cdv A outer s H vs Q E hr h => ?_
    refine ⟨_, pss_cons (ps_expr (HX.pe_oinit (by unfold L2.Gl; kernel_rfl) gB rd vV (pa_cons (pe_var (i := 0) rfl (Or.inl (by kernel_rfl)) (by kernel_rfl) (by kernel_rfl)) (pa_cons pe_str pa_nil))) (by rfl)) (pss_cons (ps_ost (pe_var (i := 0) rfl (Or.inl (by kernel_rfl)) (by kernel_rfl) (by kernel_rfl)) (pe_var (i := 1) rfl (Or.inl (by kernel_rfl)) (by kernel_rfl) (by kernel_rfl))) pss_nil), ?_⟩
    obtain ⟨b, y0, rfl, eb, q⟩ := h
    refine ⟨_, rfl, _, C, _, rfl, by decide, T, eb, ?_⟩
    exact ⟨_, rfl, _, rfl, b, C, rfl, T, n_rod, .inl ⟨eb, fun dx n ne => q dx n ne⟩⟩
  exact ⟨fd, G, hb⟩
theorem kih_Stuck {a B C : Addr} (F : ∃ fd, FunD K "__init__" "Stuck.__init__" (defArgs si_Stuck) (defBody si_Stuck) (defScope si_Stuck) [] [] a fd) (gB : mg "FrameError" = some (.ref B)) (fe : feB K B = true) (T : OexC K C) (n_rod : PySem.W.findIn K (.ref C) "rod" = some none) (n_at : PySem.W.findIn K (.ref C) "at" = some none) : ∃ fd, L2H.FnH P w K mg base (L2.CX P w) 1 a fd ["self", "rod", "at"] (HX.sp2 K C "rod" "at") ∧ Binds K fd ["self", "rod", "at"] [] := by
  obtain ⟨fd, Fd⟩ := F
  obtain ⟨rd, vV⟩ := feB_ok fe
  have hb : Binds K fd ["self", "rod", "at"] [] := Fd.bindsN (fun _ _ _ _ _ _ us hl => match us, hl with | [_, _, _], _ => by kernel_rfl)
  have G : L2H.FnH P w K mg base (L2.CX P w) 1 a fd ["self", "rod", "at"] (HX.sp2 K C "rod" "at") := by
    refine HX.funD_okH (k := 0) (N := ["self", "rod", "at"]) (ps := ["self", "rod", "at"]) Fd sci_Stuck (fun vs H Q E h => by obtain ⟨b, y0, y1, rfl, _⟩ := h; rfl) fun cdv A outer s H vs Q E pin h => ?_
    refine ⟨_, pss_cons (ps_expr (HX.pe_oinit (by unfold L2.Gl; kernel_rfl) gB rd vV (pa_cons (pe_var (i := 0) rfl (Or.inl (by kernel_rfl)) (by kernel_rfl) (by kernel_rfl)) (pa_cons pe_str pa_nil))) (by rfl)) (pss_cons (ps_ost (pe_var (i := 0) rfl (Or.inl (by kernel_rfl)) (by kernel_rfl) (by kernel_rfl)) (pe_var (i := 1) rfl (Or.inl (by kernel_rfl)) (by kernel_rfl) (by kernel_rfl))) (pss_cons (ps_ost (pe_var (i := 0) rfl (Or.inl (by kernel_rfl)) (by kernel_rfl) (by kernel_rfl)) (pe_var (i := 2) rfl (Or.inl (by kernel_rfl)) (by kernel_rfl) (by kernel_rfl))) pss_nil)), ?_⟩
    obtain ⟨b, y0, y1, rfl, eb, q⟩ := h
    refine ⟨_, rfl, _, C, _, rfl, by decide, T, eb, ?_⟩
    refine ⟨_, rfl, _, rfl, b, C, rfl, T, n_rod, .inl ⟨eb, fun dx n ne => ?_⟩⟩
    exact ⟨_, rfl, _, rfl, b, C, rfl, T, n_at, .inr ⟨dx, _, upd_same, by rw [upd_ne ne, upd_same], by show (1 : Nat) ≤ 900; decide, q dx n ne⟩⟩
  exact ⟨fd, G, hb⟩
theorem sci_Up : FnScope ["self", "rod", "beads"] ["self", "rod", "beads"] (defScope si_Up) := ⟨rfl, rfl, rfl, by decide +kernel, rfl, by decide +kernel, by decide +kernel⟩
theorem ko_Up {a C : Addr} (F : ∃ fd, FunD K "__init__" "Move.__init__" (defArgs si_Up) (defBody si_Up) (defScope si_Up) [] [] a fd) (cl : Cls K C) (n1 : NoAttr K C "rod") (n2 : NoAttr K C "beads") : ∃ fd, FnOk P w K mg base (L2.CX P w) 1 a fd ["self", "rod", "beads"] (HO.spi2 C "rod" "beads") ∧ Binds K fd ["self", "rod", "beads"] [] := by
  obtain ⟨fd, Fd⟩ := F
  have hb : Binds K fd ["self", "rod", "beads"] [] := Fd.bindsN (fun _ _ _ _ _ _ us hl => match us, hl with | [_, _, _], _ => by kernel_rfl)
  have G : FnOk P w K mg base (L2.CX P w) 1 a fd ["self", "rod", "beads"] (HO.spi2 C "rod" "beads") := by
    refine FunD.ok (N := ["self", "rod", "beads"]) (ps := ["self", "rod", "beads"]) Fd sci_Up (fun vs H Q E h => by obtain ⟨b, y, z, dx, rfl, _⟩ := h; rfl) fun cdv A outer s H vs Q E hr h => ?_
    refine ⟨_, pss_cons (ps_fld (pe_var (i := 0) rfl (Or.inl (by kernel_rfl)) (by kernel_rfl) (by kernel_rfl)) (pe_var (i := 1) rfl (Or.inl (by kernel_rfl)) (by kernel_rfl) (by kernel_rfl)) (by rfl)) (pss_cons (ps_fld (pe_var (i := 0) rfl (Or.inl (by kernel_rfl)) (by kernel_rfl) (by kernel_rfl)) (pe_var (i := 2) rfl (Or.inl (by kernel_rfl)) (by kernel_rfl) (by kernel_rfl)) (by rfl)) pss_nil), ?_⟩
    obtain ⟨b, y, z, dx, rfl, eb, q⟩ := h
    exact ⟨_, rfl, _, rfl, b, C, dx, _, rfl, eb, cl, n1, by decide, _, rfl, _, rfl, b, C, dx, _, rfl, upd_same, cl, n2, by show (1 : Nat) < 1000; decide, q⟩
  exact ⟨fd, G, hb⟩
theorem sci_Put : FnScope ["self", "rod", "beads"] ["self", "rod", "beads"] (defScope si_Put) := ⟨rfl, rfl, rfl, by decide +kernel, rfl, by decide +kernel, by decide +kernel⟩
theorem ko_Put {a C : Addr} (F : ∃ fd, FunD K "__init__" "Move.__init__" (defArgs si_Put) (defBody si_Put) (defScope si_Put) [] [] a fd) (cl : Cls K C) (n1 : NoAttr K C "rod") (n2 : NoAttr K C "beads") : ∃ fd, FnOk P w K mg base (L2.CX P w) 1 a fd ["self", "rod", "beads"] (HO.spi2 C "rod" "beads") ∧ Binds K fd ["self", "rod", "beads"] [] := by
  obtain ⟨fd, Fd⟩ := F
  have hb : Binds K fd ["self", "rod", "beads"] [] := Fd.bindsN (fun _ _ _ _ _ _ us hl => match us, hl with | [_, _, _], _ => by kernel_rfl)
  have G : FnOk P w K mg base (L2.CX P w) 1 a fd ["self", "rod", "beads"] (HO.spi2 C "rod" "beads") := by
    refine FunD.ok (N := ["self", "rod", "beads"]) (ps := ["self", "rod", "beads"]) Fd sci_Put (fun vs H Q E h => by obtain ⟨b, y, z, dx, rfl, _⟩ := h; rfl) fun cdv A outer s H vs Q E hr h => ?_
    refine ⟨_, pss_cons (ps_fld (pe_var (i := 0) rfl (Or.inl (by kernel_rfl)) (by kernel_rfl) (by kernel_rfl)) (pe_var (i := 1) rfl (Or.inl (by kernel_rfl)) (by kernel_rfl) (by kernel_rfl)) (by rfl)) (pss_cons (ps_fld (pe_var (i := 0) rfl (Or.inl (by kernel_rfl)) (by kernel_rfl) (by kernel_rfl)) (pe_var (i := 2) rfl (Or.inl (by kernel_rfl)) (by kernel_rfl) (by kernel_rfl)) (by rfl)) pss_nil), ?_⟩
    obtain ⟨b, y, z, dx, rfl, eb, q⟩ := h
    exact ⟨_, rfl, _, rfl, b, C, dx, _, rfl, eb, cl, n1, by decide, _, rfl, _, rfl, b, C, dx, _, rfl, upd_same, cl, n2, by show (1 : Nat) < 1000; decide, q⟩
  exact ⟨fd, G, hb⟩
theorem sci_Down : FnScope ["self", "rod", "beads"] ["self", "rod", "beads"] (defScope si_Down) := ⟨rfl, rfl, rfl, by decide +kernel, rfl, by decide +kernel, by decide +kernel⟩
theorem ko_Down {a C : Addr} (F : ∃ fd, FunD K "__init__" "Move.__init__" (defArgs si_Down) (defBody si_Down) (defScope si_Down) [] [] a fd) (cl : Cls K C) (n1 : NoAttr K C "rod") (n2 : NoAttr K C "beads") : ∃ fd, FnOk P w K mg base (L2.CX P w) 1 a fd ["self", "rod", "beads"] (HO.spi2 C "rod" "beads") ∧ Binds K fd ["self", "rod", "beads"] [] := by
  obtain ⟨fd, Fd⟩ := F
  have hb : Binds K fd ["self", "rod", "beads"] [] := Fd.bindsN (fun _ _ _ _ _ _ us hl => match us, hl with | [_, _, _], _ => by kernel_rfl)
  have G : FnOk P w K mg base (L2.CX P w) 1 a fd ["self", "rod", "beads"] (HO.spi2 C "rod" "beads") := by
    refine FunD.ok (N := ["self", "rod", "beads"]) (ps := ["self", "rod", "beads"]) Fd sci_Down (fun vs H Q E h => by obtain ⟨b, y, z, dx, rfl, _⟩ := h; rfl) fun cdv A outer s H vs Q E hr h => ?_
    refine ⟨_, pss_cons (ps_fld (pe_var (i := 0) rfl (Or.inl (by kernel_rfl)) (by kernel_rfl) (by kernel_rfl)) (pe_var (i := 1) rfl (Or.inl (by kernel_rfl)) (by kernel_rfl) (by kernel_rfl)) (by rfl)) (pss_cons (ps_fld (pe_var (i := 0) rfl (Or.inl (by kernel_rfl)) (by kernel_rfl) (by kernel_rfl)) (pe_var (i := 2) rfl (Or.inl (by kernel_rfl)) (by kernel_rfl) (by kernel_rfl)) (by rfl)) pss_nil), ?_⟩
    obtain ⟨b, y, z, dx, rfl, eb, q⟩ := h
    exact ⟨_, rfl, _, rfl, b, C, dx, _, rfl, eb, cl, n1, by decide, _, rfl, _, rfl, b, C, dx, _, rfl, upd_same, cl, n2, by show (1 : Nat) < 1000; decide, q⟩
  exact ⟨fd, G, hb⟩
theorem sci_Take : FnScope ["self", "rod", "beads"] ["self", "rod", "beads"] (defScope si_Take) := ⟨rfl, rfl, rfl, by decide +kernel, rfl, by decide +kernel, by decide +kernel⟩
theorem ko_Take {a C : Addr} (F : ∃ fd, FunD K "__init__" "Move.__init__" (defArgs si_Take) (defBody si_Take) (defScope si_Take) [] [] a fd) (cl : Cls K C) (n1 : NoAttr K C "rod") (n2 : NoAttr K C "beads") : ∃ fd, FnOk P w K mg base (L2.CX P w) 1 a fd ["self", "rod", "beads"] (HO.spi2 C "rod" "beads") ∧ Binds K fd ["self", "rod", "beads"] [] := by
  obtain ⟨fd, Fd⟩ := F
  have hb : Binds K fd ["self", "rod", "beads"] [] := Fd.bindsN (fun _ _ _ _ _ _ us hl => match us, hl with | [_, _, _], _ => by kernel_rfl)
  have G : FnOk P w K mg base (L2.CX P w) 1 a fd ["self", "rod", "beads"] (HO.spi2 C "rod" "beads") := by
    refine FunD.ok (N := ["self", "rod", "beads"]) (ps := ["self", "rod", "beads"]) Fd sci_Take (fun vs H Q E h => by obtain ⟨b, y, z, dx, rfl, _⟩ := h; rfl) fun cdv A outer s H vs Q E hr h => ?_
    refine ⟨_, pss_cons (ps_fld (pe_var (i := 0) rfl (Or.inl (by kernel_rfl)) (by kernel_rfl) (by kernel_rfl)) (pe_var (i := 1) rfl (Or.inl (by kernel_rfl)) (by kernel_rfl) (by kernel_rfl)) (by rfl)) (pss_cons (ps_fld (pe_var (i := 0) rfl (Or.inl (by kernel_rfl)) (by kernel_rfl) (by kernel_rfl)) (pe_var (i := 2) rfl (Or.inl (by kernel_rfl)) (by kernel_rfl) (by kernel_rfl)) (by rfl)) pss_nil), ?_⟩
    obtain ⟨b, y, z, dx, rfl, eb, q⟩ := h
    exact ⟨_, rfl, _, rfl, b, C, dx, _, rfl, eb, cl, n1, by decide, _, rfl, _, rfl, b, C, dx, _, rfl, upd_same, cl, n2, by show (1 : Nat) < 1000; decide, q⟩
  exact ⟨fd, G, hb⟩
end
section
variable {P : Program} {w : World} {K : PySem.W.Frag} {mg : Str → Option Value} {base : Heap}
theorem law_ok {a : Addr} {fd : FuncData} (Fd : FunD K "law" "law" (defArgs s_law) (defBody s_law) (defScope s_law) [] [] a fd) (B : Bt mg) (h_law_cell : Kn P w K mg base 1 "_law_cell" 2 m_law_cell) (h_law_pushed : Kn P w K mg base 2 "_law_pushed" 3 m_law_pushed) (h_law_words : Kn P w K mg base 2 "_law_words" 1 m_law_words) (h_law_with : Kn P w K mg base 1 "_law_with" 2 m_law_with) (ho_with_slip : KnO P w K mg base 1 "with_slip" 2 mo_with_slip) (h_law_told : Kn P w K mg base 2 "_law_told" 1 m_law_told) (h_slips_of : Kn P w K mg base 6 "slips_of" 4 m_slips_of) (h_law_slip : Kn P w K mg base 4 "_law_slip" 2 m_law_slip) (h_law_row : Kn P w K mg base 108 "_law_row" 2 m_law_row) (h_law_frame : Kn P w K mg base 2 "_law_frame" 3 m_law_frame) : FnOk P w K mg base (L2.CX P w) 109 a fd ["_law_script"] (spD K mg 1 m_law) := by
  refine fn_ok (k := 108) (g := b_law) (N := ["_law_script", "_law_frame_here", "_law_row_here", "_law_start", "_law_cell_here", "_law_slip_here", "_law_goal", "_law_found", "_law_told_here", "_law_spots", "_law_one", "_law_made", "_law_layout_here"]) (ps := ["_law_script"]) Fd sc_law (by decide) ?_
  intro cdv A outer s H E hr
  exact dss_cons (ds_asg (de_kn h_law_frame hr (da_cons (de_var 0 (hv := Or.inl (by kernel_rfl))) (da_cons (de_int) (da_cons (de_int) (da_nil)))) okWOf) (dg_name 1 sc_law.nd (hx := Or.inl (by kernel_rfl)) (hf := .inl rfl))) <|
    dss_cons (ds_asg (de_kn h_law_row hr (da_cons (de_var 0 (hv := Or.inl (by kernel_rfl))) (da_cons (de_var 1 (hv := Or.inl (by kernel_rfl))) (da_nil))) okWOf) (dg_name 2 sc_law.nd (hx := Or.inl (by kernel_rfl)) (hf := .inl rfl))) <|
    dss_cons (ds_if (dt_cmp (op_eqN hr.units) sat_eqN (de_var 2 (hv := Or.inl (by kernel_rfl))) (de_frz (do_lst (da_nil))) (nomark _)) (dss_one (ds_ret (de_cmp (op_eqN hr.units) sat_eqN (de_kn h_slips_of hr (da_cons (de_var 1 (hv := Or.inl (by kernel_rfl))) (da_cons (de_frz (do_lc (own := [("_law_layout_here", 12)]) rfl sc_law.nd (di_list (de_var 1 (hv := Or.inl (by kernel_rfl)))) (blkOk_by (own := [("_law_layout_here", 12)]) (N := ["_law_script", "_law_frame_here", "_law_row_here", "_law_start", "_law_cell_here", "_law_slip_here", "_law_goal", "_law_found", "_law_told_here", "_law_spots", "_law_one", "_law_made", "_law_layout_here"]) (sc := defScope s_law) (by decide +kernel)) (fun _ _ _ _ _ => dg_name 12 sc_law.nd (hx := Or.inl (by kernel_rfl)) (hf := .inr (by kernel_rfl))) (fun _ _ _ _ _ => dts_nil) (fun _ _ _ _ _ => de_tup (da_cons (de_int) (da_cons (de_int) (da_nil)))))) (da_cons (de_frz (do_lst (da_nil))) (da_cons (de_frz (do_lc (own := [("_law_layout_here", 12)]) rfl sc_law.nd (di_list (de_var 1 (hv := Or.inl (by kernel_rfl)))) (blkOk_by (own := [("_law_layout_here", 12)]) (N := ["_law_script", "_law_frame_here", "_law_row_here", "_law_start", "_law_cell_here", "_law_slip_here", "_law_goal", "_law_found", "_law_told_here", "_law_spots", "_law_one", "_law_made", "_law_layout_here"]) (sc := defScope s_law) (by decide +kernel)) (fun _ _ _ _ _ => dg_name 12 sc_law.nd (hx := Or.inl (by kernel_rfl)) (hf := .inr (by kernel_rfl))) (fun _ _ _ _ _ => dts_nil) (fun _ _ _ _ _ => de_tup (da_cons (de_int) (da_cons (de_int) (da_nil)))))) (da_nil))))) okWOf) (de_frz (do_lst (da_nil))) (nomark _)))) (dss_nil)) <|
    dss_cons (ds_setLc 3 (own := [("_law_layout_here", 12)]) rfl sc_law.nd (by kernel_rfl) (sw_true rfl (by kernel_rfl) rfl (by decide +kernel)) (di_list (de_var 1 (hv := Or.inl (by kernel_rfl)))) (blkOk_by (own := [("_law_layout_here", 12)]) (N := ["_law_script", "_law_frame_here", "_law_row_here", "_law_start", "_law_cell_here", "_law_slip_here", "_law_goal", "_law_found", "_law_told_here", "_law_spots", "_law_one", "_law_made", "_law_layout_here"]) (sc := defScope s_law) (by decide +kernel)) (fun _ _ _ _ _ => dg_name 12 sc_law.nd (hx := Or.inl (by kernel_rfl)) (hf := .inr (by kernel_rfl))) (fun _ _ _ _ _ => dts_nil) (fun _ _ _ _ _ => de_tup (da_cons (de_int) (da_cons (de_int) (da_nil))))) <|
    dss_cons (ds_frz 3 (ds_for passOwnOf rfl (di_list (de_op opAdd sat_add (de_frz (do_lst (da_cons (de_kn h_law_cell hr (da_cons (de_var 0 (hv := Or.inl (by kernel_rfl))) (da_cons (de_int) (da_nil))) okWOf) (da_nil)))) (de_slice (de_var 0 (hv := Or.inl (by kernel_rfl))) (dp_so (de_int)) (dp_so (de_int))))) (dg_name 4 sc_law.nd (hx := Or.inl (by kernel_rfl)) (hf := .inl rfl)) (dss_wp [4, 5, 6, 7, 8, 9, 10, 11] (dss_cons (ds_asg (de_kn h_law_slip hr (da_cons (de_var 2 (hv := Or.inl (by kernel_rfl))) (da_cons (de_op op_mod sat_mod (de_var 4 (hv := Or.inl (by kernel_rfl))) (de_op op_pow sat_pow (de_int) (de_int))) (da_nil))) okWOf) (dg_name 5 sc_law.nd (hx := Or.inl (by kernel_rfl)) (hf := .inl rfl))) <|
    dss_cons (ds_frz 3 (ds_asg (de_kn h_law_pushed hr (da_cons (de_var 1 (hv := Or.inl (by kernel_rfl))) (da_cons (de_var 3 (hv := Or.inl (by kernel_rfl))) (da_cons (de_kn h_law_with hr (da_cons (de_var 2 (hv := Or.inl (by kernel_rfl))) (da_cons (de_var 5 (hv := Or.inl (by kernel_rfl))) (da_nil))) okWOf) (da_nil)))) okWOf) (dg_name 6 sc_law.nd (hx := Or.inl (by kernel_rfl)) (hf := .inl rfl)))) <|
    dss_one (ds_if (dt_cmp op_notN sat_isnot (de_var 6 (hv := Or.inl (by kernel_rfl))) (de_non) (nomark _)) (dss_cons (ds_frz 3 (ds_asg (de_kn h_slips_of hr (da_cons (de_var 1 (hv := Or.inl (by kernel_rfl))) (da_cons (de_var 3 (hv := Or.inl (by kernel_rfl))) (da_cons (de_frz (do_callTy call_list_of satO_list (by unfold L2.Gl; kernel_rfl) B.n_list (by decide +kernel) (da_cons (de_var 2 (hv := Or.inl (by kernel_rfl))) (da_nil)))) (da_cons (de_var 6 (hv := Or.inl (by kernel_rfl))) (da_nil))))) okWOf) (dg_name 7 sc_law.nd (hx := Or.inl (by kernel_rfl)) (hf := .inl rfl)))) <|
    dss_cons (ds_setLc 8 (own := [("_law_one", 10)]) rfl sc_law.nd (by kernel_rfl) (sw_true rfl (by kernel_rfl) rfl (by decide +kernel)) (di_list (de_var 7 (hv := Or.inl (by kernel_rfl)))) (blkOk_by (own := [("_law_one", 10)]) (N := ["_law_script", "_law_frame_here", "_law_row_here", "_law_start", "_law_cell_here", "_law_slip_here", "_law_goal", "_law_found", "_law_told_here", "_law_spots", "_law_one", "_law_made", "_law_layout_here"]) (sc := defScope s_law) (by decide +kernel)) (fun _ _ _ _ _ => dg_name 10 sc_law.nd (hx := Or.inl (by kernel_rfl)) (hf := .inr (by kernel_rfl))) (fun _ _ _ _ _ => dts_nil) (fun _ _ _ _ _ => de_kn h_law_told hr (da_cons (de_var 10 (hv := Or.inl (by kernel_rfl))) (da_nil)) okW0)) <|
    dss_cons (ds_frz 8 (ds_setLc 9 (own := [("_law_one", 10)]) rfl sc_law.nd (by kernel_rfl) (sw_true rfl (by kernel_rfl) rfl (by decide +kernel)) (di_list (de_var 8 (hv := Or.inl (by kernel_rfl)))) (blkOk_by (own := [("_law_one", 10)]) (N := ["_law_script", "_law_frame_here", "_law_row_here", "_law_start", "_law_cell_here", "_law_slip_here", "_law_goal", "_law_found", "_law_told_here", "_law_spots", "_law_one", "_law_made", "_law_layout_here"]) (sc := defScope s_law) (by decide +kernel)) (fun _ _ _ _ _ => dg_name 10 sc_law.nd (hx := Or.inl (by kernel_rfl)) (hf := .inr (by kernel_rfl))) (fun _ _ _ _ _ => dts_nil) (fun _ _ _ _ _ => de_slice (de_var 10 (hv := Or.inl (by kernel_rfl))) (dp_no) (dp_so (de_int))))) <|
    dss_cons (ds_frz 9 (ds_if (dt_w (dw_or (dt_cmp (opNe hr.units) sat_ne (de_cntD hr.units (de_var 8 (hv := Or.inl (by kernel_rfl))) (de_kn h_law_told hr (da_cons (de_var 5 (hv := Or.inl (by kernel_rfl))) (da_nil)) okWOf)) (de_int) (nomark _)) (dw_or1 (dt_cmp (opNe hr.units) sat_ne (de_var 9 (hv := Or.inl (by kernel_rfl))) (de_frz (do_sortSet rfl hr.units (by unfold L2.Gl; kernel_rfl) B.n_sorted (by unfold L2.Gl; kernel_rfl) B.n_set (de_var 9 (hv := Or.inl (by kernel_rfl))))) (nomark _))))) (dss_one (ds_ret (de_bl))) (dss_nil))) <|
    dss_one (ds_frz 3 (ds_fgt [10] (ds_for passOwnOf rfl (di_list (de_var 7 (hv := Or.inl (by kernel_rfl)))) (dg_name 10 sc_law.nd (hx := Or.inl (by kernel_rfl)) (hf := .inl rfl)) (dss_wp [10, 11] (dss_cons (ds_setO 11 sc_law.nd (do_kn ho_with_slip hr (da_cons (de_var 2 (hv := Or.inl (by kernel_rfl))) (da_cons (de_var 10 (hv := Or.inl (by kernel_rfl))) (da_nil))) okWOf) (hx := Or.inl (by kernel_rfl)) (hf := .inl rfl)) <|
    dss_cons (ds_if (dt_w (dw_or (dt_not (dt_tru (de_bor 11 (de_callB call_isi sat_isi (by unfold L2.Gl; kernel_rfl) B.n_isinstance (by decide +kernel) (da_cons (de_var 11 (hv := Or.inl (by kernel_rfl))) (da_cons (de_ty (by unfold L2.Gl; kernel_rfl) B.n_list (by decide +kernel)) (da_nil))))) (by intro _; rfl))) (dw_or1 (dt_bor 11 (dt_cmp (opNe hr.units) sat_ne (de_kn h_law_words hr (da_cons (de_var 11 (hv := Or.inl (by kernel_rfl))) (da_nil)) okWOf) (de_kn h_law_words hr (da_cons (de_kn h_law_with hr (da_cons (de_var 2 (hv := Or.inl (by kernel_rfl))) (da_cons (de_var 10 (hv := Or.inl (by kernel_rfl))) (da_nil))) okWOf) (da_nil)) okWOf) (nomark _)))))) (dss_one (ds_ret (de_bl))) (dss_nil)) <|
    dss_cons (ds_frz 3 (ds_if (dt_bor 11 (dt_cmp (opNe hr.units) sat_ne (de_kn h_law_pushed hr (da_cons (de_var 1 (hv := Or.inl (by kernel_rfl))) (da_cons (de_var 3 (hv := Or.inl (by kernel_rfl))) (da_cons (de_var 11 (hv := Or.inl (by kernel_rfl))) (da_nil)))) okWOf) (de_var 6 (hv := Or.inl (by kernel_rfl))) (nomark _))) (dss_one (ds_ret (de_bl))) (dss_nil))) <|
    dss_one (ds_append 11 (de_non) (hv := Or.inl (by kernel_rfl))))))))) (dss_nil)))))) <|
    dss_one (ds_ret (de_bl))
end
def d_with_slip : He.DefD := ⟨("with_slip", none), "with_slip", "with_slip", defArgs s_with_slip, defBody s_with_slip, defScope s_with_slip, [], []⟩
def d_full_worth : He.DefD := ⟨("full_worth", none), "full_worth", "full_worth", defArgs s_full_worth, defBody s_full_worth, defScope s_full_worth, [], []⟩
def d_count_of : He.DefD := ⟨("count_of", none), "count_of", "count_of", defArgs s_count_of, defBody s_count_of, defScope s_count_of, [], []⟩
def d_plain_of : He.DefD := ⟨("plain_of", none), "plain_of", "plain_of", defArgs s_plain_of, defBody s_plain_of, defScope s_plain_of, [], []⟩
def d_digits_of : He.DefD := ⟨("digits_of", none), "digits_of", "digits_of", defArgs s_digits_of, defBody s_digits_of, defScope s_digits_of, [], []⟩
def d_law_cell : He.DefD := ⟨("_law_cell", none), "_law_cell", "_law_cell", defArgs s_law_cell, defBody s_law_cell, defScope s_law_cell, [], []⟩
def d_law_layout : He.DefD := ⟨("_law_layout", none), "_law_layout", "_law_layout", defArgs s_law_layout, defBody s_law_layout, defScope s_law_layout, [], []⟩
def d_law_plain : He.DefD := ⟨("_law_plain", none), "_law_plain", "_law_plain", defArgs s_law_plain, defBody s_law_plain, defScope s_law_plain, [], []⟩
def d_law_borne : He.DefD := ⟨("_law_borne", none), "_law_borne", "_law_borne", defArgs s_law_borne, defBody s_law_borne, defScope s_law_borne, [], []⟩
def d_law_digits : He.DefD := ⟨("_law_digits", none), "_law_digits", "_law_digits", defArgs s_law_digits, defBody s_law_digits, defScope s_law_digits, [], []⟩
def d_law_whole : He.DefD := ⟨("_law_whole", none), "_law_whole", "_law_whole", defArgs s_law_whole, defBody s_law_whole, defScope s_law_whole, [], []⟩
def d_law_with : He.DefD := ⟨("_law_with", none), "_law_with", "_law_with", defArgs s_law_with, defBody s_law_with, defScope s_law_with, [], []⟩
def d_borne_by : He.DefD := ⟨("borne_by", none), "borne_by", "borne_by", defArgs s_borne_by, defBody s_borne_by, defScope s_borne_by, [], []⟩
def d_law_frame : He.DefD := ⟨("_law_frame", none), "_law_frame", "_law_frame", defArgs s_law_frame, defBody s_law_frame, defScope s_law_frame, [], []⟩
def d_law_standing : He.DefD := ⟨("_law_standing", none), "_law_standing", "_law_standing", defArgs s_law_standing, defBody s_law_standing, defScope s_law_standing, [], []⟩
def d_law_tidy : He.DefD := ⟨("_law_tidy", none), "_law_tidy", "_law_tidy", defArgs s_law_tidy, defBody s_law_tidy, defScope s_law_tidy, [], []⟩
def d_law_pushed : He.DefD := ⟨("_law_pushed", none), "_law_pushed", "_law_pushed", defArgs s_law_pushed, defBody s_law_pushed, defScope s_law_pushed, [], []⟩
def d_law_told : He.DefD := ⟨("_law_told", none), "_law_told", "_law_told", defArgs s_law_told, defBody s_law_told, defScope s_law_told, [], []⟩
def d_law_words : He.DefD := ⟨("_law_words", none), "_law_words", "_law_words", defArgs s_law_words, defBody s_law_words, defScope s_law_words, [], []⟩
def d_rod_rows : He.DefD := ⟨("rod_rows", none), "rod_rows", "rod_rows", defArgs s_rod_rows, defBody s_rod_rows, defScope s_rod_rows, [], []⟩
def d_like : He.DefD := ⟨("like", none), "like", "like", defArgs s_like, defBody s_like, defScope s_like, [], []⟩
def d_tidy_of : He.DefD := ⟨("tidy_of", none), "tidy_of", "tidy_of", defArgs s_tidy_of, defBody s_tidy_of, defScope s_tidy_of, [], []⟩
def d_law_move : He.DefD := ⟨("_law_move", none), "_law_move", "_law_move", defArgs s_law_move, defBody s_law_move, defScope s_law_move, [], []⟩
def d_done_all : He.DefD := ⟨("done_all", none), "done_all", "done_all", defArgs s_done_all, defBody s_done_all, defScope s_done_all, [], []⟩
def d_rows_between : He.DefD := ⟨("rows_between", none), "rows_between", "rows_between", defArgs s_rows_between, defBody s_rows_between, defScope s_rows_between, [], []⟩
def d_slips_at : He.DefD := ⟨("slips_at", none), "slips_at", "slips_at", defArgs s_slips_at, defBody s_slips_at, defScope s_slips_at, [], []⟩
def d_law_slip : He.DefD := ⟨("_law_slip", none), "_law_slip", "_law_slip", defArgs s_law_slip, defBody s_law_slip, defScope s_law_slip, [], []⟩
def d_leads_to : He.DefD := ⟨("leads_to", none), "leads_to", "leads_to", defArgs s_leads_to, defBody s_leads_to, defScope s_leads_to, [], []⟩
def d_slips_of : He.DefD := ⟨("slips_of", none), "slips_of", "slips_of", defArgs s_slips_of, defBody s_slips_of, defScope s_slips_of, [], []⟩
def d_tidy_hand : He.DefD := ⟨("tidy_hand", none), "tidy_hand", "tidy_hand", defArgs s_tidy_hand, defBody s_tidy_hand, defScope s_tidy_hand, [], []⟩
def d_adding_row : He.DefD := ⟨("adding_row", none), "adding_row", "adding_row", defArgs s_adding_row, defBody s_adding_row, defScope s_adding_row, [], []⟩
def d_law_row : He.DefD := ⟨("_law_row", none), "_law_row", "_law_row", defArgs s_law_row, defBody s_law_row, defScope s_law_row, [], []⟩
def d_law : He.DefD := ⟨("law", none), "law", "law", defArgs s_law, defBody s_law, defScope s_law, [], []⟩
def di_Stuck : He.DefD := ⟨("Stuck", some "__init__"), "__init__", "Stuck.__init__", defArgs si_Stuck, defBody si_Stuck, defScope si_Stuck, [], []⟩
def di_TooGreat : He.DefD := ⟨("TooGreat", some "__init__"), "__init__", "TooGreat.__init__", defArgs si_TooGreat, defBody si_TooGreat, defScope si_TooGreat, [], []⟩
def di_Up : He.DefD := ⟨("Up", some "__init__"), "__init__", "Move.__init__", defArgs si_Up, defBody si_Up, defScope si_Up, [], []⟩
def di_Put : He.DefD := ⟨("Put", some "__init__"), "__init__", "Move.__init__", defArgs si_Put, defBody si_Put, defScope si_Put, [], []⟩
def di_Down : He.DefD := ⟨("Down", some "__init__"), "__init__", "Move.__init__", defArgs si_Down, defBody si_Down, defScope si_Down, [], []⟩
def di_Take : He.DefD := ⟨("Take", some "__init__"), "__init__", "Move.__init__", defArgs si_Take, defBody si_Take, defScope si_Take, [], []⟩
def dm_Move_word : He.DefD := ⟨("Move", some "word"), "word", "Move.word", defArgs s_Move_word, defBody s_Move_word, defScope s_Move_word, [], []⟩
def dm_Up_word : He.DefD := ⟨("Up", some "word"), "word", "Up.word", defArgs s_Up_word, defBody s_Up_word, defScope s_Up_word, [], []⟩
def dm_Down_word : He.DefD := ⟨("Down", some "word"), "word", "Down.word", defArgs s_Down_word, defBody s_Down_word, defScope s_Down_word, [], []⟩
def dm_Put_word : He.DefD := ⟨("Put", some "word"), "word", "Put.word", defArgs s_Put_word, defBody s_Put_word, defScope s_Put_word, [], []⟩
def dm_Take_word : He.DefD := ⟨("Take", some "word"), "word", "Take.word", defArgs s_Take_word, defBody s_Take_word, defScope s_Take_word, [], []⟩
def dm_Move_reached : He.DefD := ⟨("Move", some "reached"), "reached", "Move.reached", defArgs s_Move_reached, defBody s_Move_reached, defScope s_Move_reached, [], []⟩
def dm_Up_reached : He.DefD := ⟨("Up", some "reached"), "reached", "Up.reached", defArgs s_Up_reached, defBody s_Up_reached, defScope s_Up_reached, [], []⟩
def dm_Down_reached : He.DefD := ⟨("Down", some "reached"), "reached", "Down.reached", defArgs s_Down_reached, defBody s_Down_reached, defScope s_Down_reached, [], []⟩
def dm_Put_reached : He.DefD := ⟨("Put", some "reached"), "reached", "Put.reached", defArgs s_Put_reached, defBody s_Put_reached, defScope s_Put_reached, [], []⟩
def dm_Take_reached : He.DefD := ⟨("Take", some "reached"), "reached", "Take.reached", defArgs s_Take_reached, defBody s_Take_reached, defScope s_Take_reached, [], []⟩
def dm_Move_done : He.DefD := ⟨("Move", some "done"), "done", "Move.done", defArgs s_Move_done, defBody s_Move_done, defScope s_Move_done, [], []⟩
def dm_Up_done : He.DefD := ⟨("Up", some "done"), "done", "Move.done", defArgs s_Move_done, defBody s_Move_done, defScope s_Move_done, [], []⟩
def dm_Down_done : He.DefD := ⟨("Down", some "done"), "done", "Move.done", defArgs s_Move_done, defBody s_Move_done, defScope s_Move_done, [], []⟩
def dm_Put_done : He.DefD := ⟨("Put", some "done"), "done", "Move.done", defArgs s_Move_done, defBody s_Move_done, defScope s_Move_done, [], []⟩
def dm_Take_done : He.DefD := ⟨("Take", some "done"), "done", "Move.done", defArgs s_Move_done, defBody s_Move_done, defScope s_Move_done, [], []⟩
def dm_Hand_stands : He.DefD := ⟨("Hand", some "stands"), "stands", "Hand.stands", defArgs s_Hand_stands, defBody s_Hand_stands, defScope s_Hand_stands, [], []⟩
def dm_Hand_turn_to : He.DefD := ⟨("Hand", some "turn_to"), "turn_to", "Hand.turn_to", defArgs s_Hand_turn_to, defBody s_Hand_turn_to, defScope s_Hand_turn_to, [], []⟩
def dm_Hand_make : He.DefD := ⟨("Hand", some "make"), "make", "Hand.make", defArgs s_Hand_make, defBody s_Hand_make, defScope s_Hand_make, [], []⟩
def dm_Hand_give : He.DefD := ⟨("Hand", some "give"), "give", "Hand.give", defArgs s_Hand_give, defBody s_Hand_give, defScope s_Hand_give, [], []⟩
def dm_Hand___init__ : He.DefD := ⟨("Hand", some "__init__"), "__init__", "Hand.__init__", defArgs s_Hand___init, defBody s_Hand___init, defScope s_Hand___init, [], []⟩
def fns : List He.DefD := [d_with_slip, d_full_worth, d_count_of, d_plain_of, d_digits_of, d_law_cell, d_law_layout, d_law_plain, d_law_borne, d_law_digits, d_law_whole, d_law_with, d_borne_by, d_law_frame, d_law_standing, d_law_tidy, d_law_pushed, d_law_told, d_law_words, d_rod_rows, d_like, d_tidy_of, d_law_move, d_done_all, d_rows_between, d_slips_at, d_law_slip, d_leads_to, d_slips_of, d_tidy_hand, d_adding_row, d_law_row, d_law, di_Stuck, di_TooGreat, di_Up, di_Put, di_Down, di_Take, dm_Move_word, dm_Up_word, dm_Down_word, dm_Put_word, dm_Take_word, dm_Move_reached, dm_Up_reached, dm_Down_reached, dm_Put_reached, dm_Take_reached, dm_Move_done, dm_Up_done, dm_Down_done, dm_Put_done, dm_Take_done, dm_Hand_stands, dm_Hand_turn_to, dm_Hand_make, dm_Hand_give, dm_Hand___init__]
def csX : List Str := ["FrameError", "TooGreat", "Stuck"]
def ex : PySem.W.Frag → Bool := fun K => exAll cs tb K && (feB K (He.ga K "FrameError") && (cs_beads.all (fun c => He.eqO (PySem.W.findIn K (.ref (He.ga K c)) "beads") (some none)) && (cs_now.all (fun c => He.eqO (PySem.W.findIn K (.ref (He.ga K c)) "now") (some none)) && (cs_frame.all (fun c => He.eqO (PySem.W.findIn K (.ref (He.ga K c)) "frame") (some none)) && (cs_rod.all (fun c => He.eqO (PySem.W.findIn K (.ref (He.ga K c)) "rod") (some none)) && (csX.all (fun c => decide (PySem.W.exmOne K (.ref (He.ga K c)) (.ref (He.ga K "Stuck")) = some (decide (c ∈ ysG "Stuck")))) && (csX.all (fun c => decide (PySem.W.exmOne K (.ref (He.ga K c)) (.ref (He.ga K "FrameError")) = some (decide (c ∈ ysG "FrameError")))))))))))
def fa : List He.Fa := [.glo "with_slip", .glo "full_worth", .glo "count_of", .glo "plain_of", .glo "digits_of", .glo "_law_cell", .glo "_law_layout", .glo "_law_plain", .glo "_law_borne", .glo "_law_digits", .glo "_law_whole", .glo "_law_with", .glo "borne_by", .glo "_law_frame", .glo "_law_standing", .glo "_law_tidy", .glo "_law_pushed", .glo "_law_told", .glo "_law_words", .glo "rod_rows", .glo "like", .glo "tidy_of", .glo "_law_move", .glo "done_all", .glo "rows_between", .glo "slips_at", .glo "_law_slip", .glo "leads_to", .glo "slips_of", .glo "tidy_hand", .glo "adding_row", .glo "_law_row", .glo "law", .free "min", .free "divmod", .free "list", .free "len", .free "enumerate", .free "isinstance", .free "int", .free "bool", .free "reversed", .free "zip", .free "range", .free "sorted", .free "set", .glo "FrameError", .glo "TooGreat", .glo "Stuck", .glo "Move", .glo "Up", .glo "Down", .glo "Put", .glo "Take", .glo "Hand", .meth "Stuck" "__init__", .meth "TooGreat" "__init__", .noat "Stuck" "rod", .noat "Stuck" "at", .noat "TooGreat" "rod", .free "NoLayout", .free "NoStanding", .free "NoMove", .free "Below", .free "NoDivisor", .free "Between", .free "NoRow", .free "Spoilt", .free "TooLong", .free "NoBack", .free "NoName", .free "NoSay", .cls "Up", .cls "Put", .cls "Down", .cls "Take", .cls "Move", .cls "Hand", .mkr "Up", .mkr "Put", .mkr "Down", .mkr "Take", .noat "Up" "rod", .noat "Up" "beads", .noat "Put" "rod", .noat "Put" "beads", .noat "Down" "rod", .noat "Down" "beads", .noat "Take" "rod", .noat "Take" "beads", .meth "Move" "word", .meth "Up" "word", .meth "Down" "word", .meth "Put" "word", .meth "Take" "word", .meth "Move" "reached", .meth "Up" "reached", .meth "Down" "reached", .meth "Put" "reached", .meth "Take" "reached", .meth "Move" "done", .meth "Up" "done", .meth "Down" "done", .meth "Put" "done", .meth "Take" "done", .meth "Hand" "stands", .meth "Hand" "turn_to", .meth "Hand" "make", .meth "Hand" "give", .mkr "Hand", .noat "Hand" "frame", .noat "Hand" "now", .noat "Hand" "pushed"]
abbrev Rw : PySem.W.OpenRow := PySem.W.OpenLaw.row PySem.Challenge.rw_beadframe_k82_whole_slips_lead_there
abbrev hk : PySem.W.Hook := DHk.hookS 4 fa fns ex
def ob (s : PySem.W.SharedT) : DHk.AlS := DHk.obsSG 4 fa fns ex (HandSHeadRun.getT s)
theorem ob_eq (s : PySem.W.SharedT) : ob s = hk.obs s.abs := DHk.obsS_eq (HandSHeadRun.getT_eq s)
def names0 : List PySem.Str := ["_wall", "FrameError", "TooGreat", "Stuck", "Move", "Up", "Down", "Put", "Take", "done_all", "rod_rows", "rows_between", "like", "slips_at", "with_slip", "leads_to", "slips_of", "full_worth", "count_of", "plain_of", "borne_by", "digits_of", "tidy_of", "Hand", "tidy_hand", "adding_row", "_law_cell", "_law_layout", "_law_frame", "_law_standing"]
def names1 : List PySem.Str := ["_law_plain", "_law_borne", "_law_digits", "_law_tidy", "_law_whole", "_law_pushed", "_law_move", "_law_row", "_law_slip", "_law_told", "_law_with", "_law_words"]
def names : List PySem.Str := names0 ++ names1
theorem run (w : World) : HandSHeadRun.RunEq Rw (PySem.W.view Rw.prog [50]) hk ob 20000 names w := by
  intro os
  kernel_rfl
theorem facts {P : Program} {w : World} {K : PySem.W.Frag} {h : Heap} {mg : Str → Option Value} {f : Addr} (X : K.In h) (G : h.Ns mainGlobals mg) (hfa : mg ("law" : Str) = some (.ref f)) (cX : DHk.SaysS fa fns ex K) :
    ∃ fd : FuncData, (∀ (s : Shared) (v : Value), BindsTo s fd ⟨[v], []⟩ [("_law_script", v)]) ∧ ∀ base : Heap, K.In base → base.Ns mainGlobals mg → FnOk P w K mg base (L2.CX P w) 109 f fd ["_law_script"] (spD K mg 1 m_law) := by
  have c := cX.d
  have B : Bt mg := ⟨He.free_ok X G (c.fact 33 (f := .free "min") rfl), He.free_ok X G (c.fact 34 (f := .free "divmod") rfl), He.free_ok X G (c.fact 35 (f := .free "list") rfl), He.free_ok X G (c.fact 36 (f := .free "len") rfl), He.free_ok X G (c.fact 37 (f := .free "enumerate") rfl), He.free_ok X G (c.fact 38 (f := .free "isinstance") rfl), He.free_ok X G (c.fact 39 (f := .free "int") rfl), He.free_ok X G (c.fact 40 (f := .free "bool") rfl), He.free_ok X G (c.fact 41 (f := .free "reversed") rfl), He.free_ok X G (c.fact 42 (f := .free "zip") rfl), He.free_ok X G (c.fact 43 (f := .free "range") rfl), He.free_ok X G (c.fact 44 (f := .free "sorted") rfl), He.free_ok X G (c.fact 45 (f := .free "set") rfl)⟩
  have g_with_slip := He.glo_ok X G (c.fact 0 (f := .glo "with_slip") rfl)
  have g_full_worth := He.glo_ok X G (c.fact 1 (f := .glo "full_worth") rfl)
  have g_count_of := He.glo_ok X G (c.fact 2 (f := .glo "count_of") rfl)
  have g_plain_of := He.glo_ok X G (c.fact 3 (f := .glo "plain_of") rfl)
  have g_digits_of := He.glo_ok X G (c.fact 4 (f := .glo "digits_of") rfl)
  have g_law_cell := He.glo_ok X G (c.fact 5 (f := .glo "_law_cell") rfl)
  have g_law_layout := He.glo_ok X G (c.fact 6 (f := .glo "_law_layout") rfl)
  have g_law_plain := He.glo_ok X G (c.fact 7 (f := .glo "_law_plain") rfl)
  have g_law_borne := He.glo_ok X G (c.fact 8 (f := .glo "_law_borne") rfl)
  have g_law_digits := He.glo_ok X G (c.fact 9 (f := .glo "_law_digits") rfl)
  have g_law_whole := He.glo_ok X G (c.fact 10 (f := .glo "_law_whole") rfl)
  have g_law_with := He.glo_ok X G (c.fact 11 (f := .glo "_law_with") rfl)
  have g_borne_by := He.glo_ok X G (c.fact 12 (f := .glo "borne_by") rfl)
  have g_law_frame := He.glo_ok X G (c.fact 13 (f := .glo "_law_frame") rfl)
  have g_law_standing := He.glo_ok X G (c.fact 14 (f := .glo "_law_standing") rfl)
  have g_law_tidy := He.glo_ok X G (c.fact 15 (f := .glo "_law_tidy") rfl)
  have g_law_pushed := He.glo_ok X G (c.fact 16 (f := .glo "_law_pushed") rfl)
  have g_law_told := He.glo_ok X G (c.fact 17 (f := .glo "_law_told") rfl)
  have g_law_words := He.glo_ok X G (c.fact 18 (f := .glo "_law_words") rfl)
  have g_rod_rows := He.glo_ok X G (c.fact 19 (f := .glo "rod_rows") rfl)
  have g_like := He.glo_ok X G (c.fact 20 (f := .glo "like") rfl)
  have g_tidy_of := He.glo_ok X G (c.fact 21 (f := .glo "tidy_of") rfl)
  have g_law_move := He.glo_ok X G (c.fact 22 (f := .glo "_law_move") rfl)
  have g_done_all := He.glo_ok X G (c.fact 23 (f := .glo "done_all") rfl)
  have g_rows_between := He.glo_ok X G (c.fact 24 (f := .glo "rows_between") rfl)
  have g_slips_at := He.glo_ok X G (c.fact 25 (f := .glo "slips_at") rfl)
  have g_law_slip := He.glo_ok X G (c.fact 26 (f := .glo "_law_slip") rfl)
  have g_leads_to := He.glo_ok X G (c.fact 27 (f := .glo "leads_to") rfl)
  have g_slips_of := He.glo_ok X G (c.fact 28 (f := .glo "slips_of") rfl)
  have g_tidy_hand := He.glo_ok X G (c.fact 29 (f := .glo "tidy_hand") rfl)
  have g_adding_row := He.glo_ok X G (c.fact 30 (f := .glo "adding_row") rfl)
  have g_law_row := He.glo_ok X G (c.fact 31 (f := .glo "_law_row") rfl)
  have g_law := He.glo_ok X G (c.fact 32 (f := .glo "law") rfl)
  have gc_FrameError := He.glo_ok X G (c.fact 46 (f := .glo "FrameError") rfl)
  have gc_TooGreat := He.glo_ok X G (c.fact 47 (f := .glo "TooGreat") rfl)
  have gc_Stuck := He.glo_ok X G (c.fact 48 (f := .glo "Stuck") rfl)
  have gc_Move := He.glo_ok X G (c.fact 49 (f := .glo "Move") rfl)
  have gc_Up := He.glo_ok X G (c.fact 50 (f := .glo "Up") rfl)
  have gc_Down := He.glo_ok X G (c.fact 51 (f := .glo "Down") rfl)
  have gc_Put := He.glo_ok X G (c.fact 52 (f := .glo "Put") rfl)
  have gc_Take := He.glo_ok X G (c.fact 53 (f := .glo "Take") rfl)
  have gc_Hand := He.glo_ok X G (c.fact 54 (f := .glo "Hand") rfl)
  have gcs : ∀ c ∈ cs, mg c = some (.ref (He.ga K c)) := by
    intro c hc
    simp only [cs, List.mem_cons, List.not_mem_nil, or_false] at hc
    rcases hc with rfl | rfl | rfl | rfl | rfl | rfl | rfl | rfl | rfl
    · exact gc_FrameError
    · exact gc_TooGreat
    · exact gc_Stuck
    · exact gc_Move
    · exact gc_Up
    · exact gc_Down
    · exact gc_Put
    · exact gc_Take
    · exact gc_Hand
  have q_ : ex K = true := cX.more
  obtain ⟨q0, r0⟩ := He.ba q_
  obtain ⟨q1, r1⟩ := He.ba r0
  obtain ⟨q2, r2⟩ := He.ba r1
  obtain ⟨q3, r3⟩ := He.ba r2
  obtain ⟨q4, r4⟩ := He.ba r3
  obtain ⟨q5, r5⟩ := He.ba r4
  obtain ⟨q6, r6⟩ := He.ba r5
  have q7 := r6
  have E_ : ExF K mg cs tb := exF_of gcs (by decide +kernel) q0
  have a_beads := at_of (cs := cs_beads) (f := "beads") (fun c hc => gcs c ((by decide +kernel : ∀ c ∈ cs_beads, c ∈ cs) c hc)) q2
  have a_now := at_of (cs := cs_now) (f := "now") (fun c hc => gcs c ((by decide +kernel : ∀ c ∈ cs_now, c ∈ cs) c hc)) q3
  have a_frame := at_of (cs := cs_frame) (f := "frame") (fun c hc => gcs c ((by decide +kernel : ∀ c ∈ cs_frame, c ∈ cs) c hc)) q4
  have a_rod := at_of (cs := cs_rod) (f := "rod") (fun c hc => gcs c ((by decide +kernel : ∀ c ∈ cs_rod, c ∈ cs) c hc)) q5
  have nG_NoLayout := He.free_ok X G (c.fact 60 (f := .free "NoLayout") rfl)
  have nG_NoStanding := He.free_ok X G (c.fact 61 (f := .free "NoStanding") rfl)
  have nG_NoMove := He.free_ok X G (c.fact 62 (f := .free "NoMove") rfl)
  have nG_Below := He.free_ok X G (c.fact 63 (f := .free "Below") rfl)
  have nG_NoDivisor := He.free_ok X G (c.fact 64 (f := .free "NoDivisor") rfl)
  have nG_Between := He.free_ok X G (c.fact 65 (f := .free "Between") rfl)
  have nG_NoRow := He.free_ok X G (c.fact 66 (f := .free "NoRow") rfl)
  have nG_Spoilt := He.free_ok X G (c.fact 67 (f := .free "Spoilt") rfl)
  have nG_TooLong := He.free_ok X G (c.fact 68 (f := .free "TooLong") rfl)
  have nG_NoBack := He.free_ok X G (c.fact 69 (f := .free "NoBack") rfl)
  have nG_NoName := He.free_ok X G (c.fact 70 (f := .free "NoName") rfl)
  have nG_NoSay := He.free_ok X G (c.fact 71 (f := .free "NoSay") rfl)
  have gcsX : ∀ c ∈ csX, mg c = some (.ref (He.ga K c)) := fun c hc => gcs c ((by decide +kernel : ∀ c ∈ csX, c ∈ cs) c hc)
  have hnG : ∀ c ∈ CSG, c ∈ csX ∨ mg c = none := by
    intro c hc
    simp only [CSG, List.mem_cons, List.not_mem_nil, or_false] at hc
    rcases hc with rfl | rfl | rfl | rfl | rfl | rfl | rfl | rfl | rfl | rfl | rfl | rfl | rfl | rfl | rfl
    · exact .inl (by decide +kernel)
    · exact .inr nG_NoLayout
    · exact .inl (by decide +kernel)
    · exact .inr nG_NoStanding
    · exact .inl (by decide +kernel)
    · exact .inr nG_NoMove
    · exact .inr nG_Below
    · exact .inr nG_NoDivisor
    · exact .inr nG_Between
    · exact .inr nG_NoRow
    · exact .inr nG_Spoilt
    · exact .inr nG_TooLong
    · exact .inr nG_NoBack
    · exact .inr nG_NoName
    · exact .inr nG_NoSay
  have tg_Stuck : KxT K mg "Stuck" (subG "Stuck") := kxT_ofG gc_Stuck gcsX hnG q6
  have tg_FrameError : KxT K mg "FrameError" (subG "FrameError") := kxT_ofG gc_FrameError gcsX hnG q7
  have m_Stuck := He.meth_ok (c.fact 55 (f := .meth "Stuck" "__init__") rfl)
  obtain ⟨C_Stuck, gC_Stuck, T_Stuck, _⟩ := E_.cls "Stuck" (by decide +kernel)
  have T_Stuck := T_Stuck (by decide +kernel)
  have eC_Stuck := gC_Stuck.symm.trans gc_Stuck
  cases eC_Stuck
  have x_Stuck : ∀ base, Kx2 P w K mg base 1 "Stuck" "rod" "at" := fun base => by
    obtain ⟨fd, g, b⟩ := ki_Stuck (P := P) (w := w) (base := base) (c.def_ 33 (d := di_Stuck) rfl) gc_FrameError q1 T_Stuck.o (He.noat_ok (c.fact 57 (f := .noat "Stuck" "rod") rfl)) (He.noat_ok (c.fact 58 (f := .noat "Stuck" "at") rfl))
    exact ⟨_, _, fd, _, gc_Stuck, T_Stuck.o, m_Stuck.1, beq_iff_eq.mp m_Stuck.2, g, b⟩
  have m_TooGreat := He.meth_ok (c.fact 56 (f := .meth "TooGreat" "__init__") rfl)
  obtain ⟨C_TooGreat, gC_TooGreat, T_TooGreat, _⟩ := E_.cls "TooGreat" (by decide +kernel)
  have T_TooGreat := T_TooGreat (by decide +kernel)
  have eC_TooGreat := gC_TooGreat.symm.trans gc_TooGreat
  cases eC_TooGreat
  have x_TooGreat : ∀ base, Kx1 P w K mg base 1 "TooGreat" "rod" := fun base => by
    obtain ⟨fd, g, b⟩ := ki_TooGreat (P := P) (w := w) (base := base) (c.def_ 34 (d := di_TooGreat) rfl) gc_FrameError q1 T_TooGreat.o (He.noat_ok (c.fact 59 (f := .noat "TooGreat" "rod") rfl))
    exact ⟨_, _, fd, _, gc_TooGreat, T_TooGreat.o, m_TooGreat.1, beq_iff_eq.mp m_TooGreat.2, g, b⟩
  have xh_Stuck : ∀ base, Kx2H P w K mg base 1 "Stuck" "rod" "at" := fun base => by
    obtain ⟨fd, g, b⟩ := kih_Stuck (P := P) (w := w) (base := base) (c.def_ 33 (d := di_Stuck) rfl) gc_FrameError q1 T_Stuck.o (He.noat_ok (c.fact 57 (f := .noat "Stuck" "rod") rfl)) (He.noat_ok (c.fact 58 (f := .noat "Stuck" "at") rfl))
    exact ⟨_, _, fd, _, gc_Stuck, T_Stuck.o, m_Stuck.1, beq_iff_eq.mp m_Stuck.2, g, b⟩
  have o_Up : ∀ base, KO2 P w K mg base 1 "Up" "rod" "beads" := fun base => by
    obtain ⟨fd, g, b⟩ := ko_Up (P := P) (w := w) (base := base) (mg := mg) (c.def_ 35 (d := di_Up) rfl) (He.cls_ok (c.fact 72 (f := .cls "Up") rfl)) (He.noat_ok (c.fact 82 (f := .noat "Up" "rod") rfl)) (He.noat_ok (c.fact 83 (f := .noat "Up" "beads") rfl))
    exact ⟨_, _, fd, _, gc_Up, He.mkr_ok (c.fact 78 (f := .mkr "Up") rfl), b, g⟩
  have o_Put : ∀ base, KO2 P w K mg base 1 "Put" "rod" "beads" := fun base => by
    obtain ⟨fd, g, b⟩ := ko_Put (P := P) (w := w) (base := base) (mg := mg) (c.def_ 36 (d := di_Put) rfl) (He.cls_ok (c.fact 73 (f := .cls "Put") rfl)) (He.noat_ok (c.fact 84 (f := .noat "Put" "rod") rfl)) (He.noat_ok (c.fact 85 (f := .noat "Put" "beads") rfl))
    exact ⟨_, _, fd, _, gc_Put, He.mkr_ok (c.fact 79 (f := .mkr "Put") rfl), b, g⟩
  have o_Down : ∀ base, KO2 P w K mg base 1 "Down" "rod" "beads" := fun base => by
    obtain ⟨fd, g, b⟩ := ko_Down (P := P) (w := w) (base := base) (mg := mg) (c.def_ 37 (d := di_Down) rfl) (He.cls_ok (c.fact 74 (f := .cls "Down") rfl)) (He.noat_ok (c.fact 86 (f := .noat "Down" "rod") rfl)) (He.noat_ok (c.fact 87 (f := .noat "Down" "beads") rfl))
    exact ⟨_, _, fd, _, gc_Down, He.mkr_ok (c.fact 80 (f := .mkr "Down") rfl), b, g⟩
  have o_Take : ∀ base, KO2 P w K mg base 1 "Take" "rod" "beads" := fun base => by
    obtain ⟨fd, g, b⟩ := ko_Take (P := P) (w := w) (base := base) (mg := mg) (c.def_ 38 (d := di_Take) rfl) (He.cls_ok (c.fact 75 (f := .cls "Take") rfl)) (He.noat_ok (c.fact 88 (f := .noat "Take" "rod") rfl)) (He.noat_ok (c.fact 89 (f := .noat "Take" "beads") rfl))
    exact ⟨_, _, fd, _, gc_Take, He.mkr_ok (c.fact 81 (f := .mkr "Take") rfl), b, g⟩
  have oc_Hand : OCf K mg "Hand" ["frame", "now", "pushed"] := ⟨_, gc_Hand, He.cls_ok (c.fact 77 (f := .cls "Hand") rfl), fun y hy => by
    simp only [List.mem_cons, List.not_mem_nil, or_false] at hy
    rcases hy with rfl | rfl | rfl
    · exact He.noat_ok (c.fact 110 (f := .noat "Hand" "frame") rfl)
    · exact He.noat_ok (c.fact 111 (f := .noat "Hand" "now") rfl)
    · exact He.noat_ok (c.fact 112 (f := .noat "Hand" "pushed") rfl)⟩
  have ho_with_slip := fun base => ko_with_slip (P := P) (w := w) (base := base) (c.def_ 0 (d := d_with_slip) rfl) g_with_slip B
  have h_with_slip := fun base => (ho_with_slip base).kn
  have h_full_worth := fun base => k_full_worth (P := P) (w := w) (base := base) (c.def_ 1 (d := d_full_worth) rfl) g_full_worth B
  have h_count_of := fun base => k_count_of (P := P) (w := w) (base := base) (c.def_ 2 (d := d_count_of) rfl) g_count_of B
  have h_plain_of := fun base => k_plain_of (P := P) (w := w) (base := base) (c.def_ 3 (d := d_plain_of) rfl) g_plain_of B
  have ho_digits_of := fun base => ko_digits_of (P := P) (w := w) (base := base) (c.def_ 4 (d := d_digits_of) rfl) g_digits_of B
  have h_digits_of := fun base => (ho_digits_of base).kn
  have h_law_cell := fun base => k_law_cell (P := P) (w := w) (base := base) (c.def_ 5 (d := d_law_cell) rfl) g_law_cell B
  have h_law_layout := fun base => k_law_layout (P := P) (w := w) (base := base) (c.def_ 6 (d := d_law_layout) rfl) g_law_layout B
  have h_law_plain := fun base => k_law_plain (P := P) (w := w) (base := base) (c.def_ 7 (d := d_law_plain) rfl) g_law_plain B
  have h_law_borne := fun base => k_law_borne (P := P) (w := w) (base := base) (c.def_ 8 (d := d_law_borne) rfl) g_law_borne B
  have ho_law_digits := fun base => ko_law_digits (P := P) (w := w) (base := base) (c.def_ 9 (d := d_law_digits) rfl) g_law_digits B
  have h_law_digits := fun base => (ho_law_digits base).kn
  have h_law_whole := fun base => k_law_whole (P := P) (w := w) (base := base) (c.def_ 10 (d := d_law_whole) rfl) g_law_whole B
  have h_law_with := fun base => k_law_with (P := P) (w := w) (base := base) (c.def_ 11 (d := d_law_with) rfl) g_law_with B
  have h_borne_by := fun base => k_borne_by (P := P) (w := w) (base := base) (c.def_ 12 (d := d_borne_by) rfl) g_borne_by B (h_count_of base)
  have ho_law_frame := fun base => ko_law_frame (P := P) (w := w) (base := base) (c.def_ 13 (d := d_law_frame) rfl) g_law_frame B (h_law_cell base) (h_law_layout base)
  have h_law_frame := fun base => (ho_law_frame base).kn
  have ho_law_standing := fun base => ko_law_standing (P := P) (w := w) (base := base) (c.def_ 14 (d := d_law_standing) rfl) g_law_standing B (h_law_cell base)
  have h_law_standing := fun base => (ho_law_standing base).kn
  have h_law_tidy := fun base => k_law_tidy (P := P) (w := w) (base := base) (c.def_ 15 (d := d_law_tidy) rfl) g_law_tidy B (h_law_plain base) (h_law_digits base)
  have M_word : ∀ base, KnM P w K mg base 1 tb_word "word" 0 := fun base => by
    intro e he
    have he : e ∈ [(("Move" : Str), m_Move_word), (("Up" : Str), m_Up_word), (("Down" : Str), m_Down_word), (("Put" : Str), m_Put_word), (("Take" : Str), m_Take_word)] := he
    simp only [List.mem_cons, List.not_mem_nil, or_false] at he
    rcases he with rfl | rfl | rfl | rfl | rfl
    · obtain ⟨fd, ps, g, b⟩ := k_Move_word (P := P) (w := w) (base := base) (c.def_ 39 (d := dm_Move_word) rfl) B
      exact ⟨_, _, fd, ps, gc_Move, He.cls_ok (c.fact 76 (f := .cls "Move") rfl), He.meth_ok (c.fact 90 (f := .meth "Move" "word") rfl), b, g.mono (by decide)⟩
    · obtain ⟨fd, ps, g, b⟩ := k_Up_word (P := P) (w := w) (base := base) (c.def_ 40 (d := dm_Up_word) rfl) B
      exact ⟨_, _, fd, ps, gc_Up, He.cls_ok (c.fact 72 (f := .cls "Up") rfl), He.meth_ok (c.fact 91 (f := .meth "Up" "word") rfl), b, g.mono (by decide)⟩
    · obtain ⟨fd, ps, g, b⟩ := k_Down_word (P := P) (w := w) (base := base) (c.def_ 41 (d := dm_Down_word) rfl) B
      exact ⟨_, _, fd, ps, gc_Down, He.cls_ok (c.fact 74 (f := .cls "Down") rfl), He.meth_ok (c.fact 92 (f := .meth "Down" "word") rfl), b, g.mono (by decide)⟩
    · obtain ⟨fd, ps, g, b⟩ := k_Put_word (P := P) (w := w) (base := base) (c.def_ 42 (d := dm_Put_word) rfl) B
      exact ⟨_, _, fd, ps, gc_Put, He.cls_ok (c.fact 73 (f := .cls "Put") rfl), He.meth_ok (c.fact 93 (f := .meth "Put" "word") rfl), b, g.mono (by decide)⟩
    · obtain ⟨fd, ps, g, b⟩ := k_Take_word (P := P) (w := w) (base := base) (c.def_ 43 (d := dm_Take_word) rfl) B
      exact ⟨_, _, fd, ps, gc_Take, He.cls_ok (c.fact 75 (f := .cls "Take") rfl), He.meth_ok (c.fact 94 (f := .meth "Take" "word") rfl), b, g.mono (by decide)⟩
  have h_law_pushed := fun base => k_law_pushed (P := P) (w := w) (base := base) (c.def_ 16 (d := d_law_pushed) rfl) g_law_pushed B (h_law_whole base) (M_word base) E_ a_beads a_rod
  have h_law_told := fun base => k_law_told (P := P) (w := w) (base := base) (c.def_ 17 (d := d_law_told) rfl) g_law_told B E_ a_beads a_rod (M_word base)
  have ho_law_words := fun base => ko_law_words (P := P) (w := w) (base := base) (c.def_ 18 (d := d_law_words) rfl) g_law_words B E_ a_beads a_rod (M_word base)
  have h_law_words := fun base => (ho_law_words base).kn
  have ho_rod_rows := fun base => ko_rod_rows (P := P) (w := w) (base := base) (c.def_ 19 (d := d_rod_rows) rfl) g_rod_rows B (o_Up base) (o_Put base) (o_Down base) (o_Take base)
  have h_rod_rows := fun base => (ho_rod_rows base).kn
  have h_like := fun base => k_like (P := P) (w := w) (base := base) (c.def_ 20 (d := d_like) rfl) g_like B (o_Take base) E_ (o_Put base) (o_Down base) (o_Up base)
  have ho_tidy_of := fun base => ko_tidy_of (P := P) (w := w) (base := base) (c.def_ 21 (d := d_tidy_of) rfl) g_tidy_of B (h_plain_of base) (h_full_worth base) (h_digits_of base) (x_TooGreat base)
  have h_tidy_of := fun base => (ho_tidy_of base).kn
  have h_law_move := fun base => k_law_move (P := P) (w := w) (base := base) (c.def_ 22 (d := d_law_move) rfl) g_law_move B (o_Take base) (o_Put base) (o_Down base) (o_Up base)
  have MN_reached : ∀ base, KnMN P w K mg base 1 tb_reached "reached" 2 := fun base => by
    intro e he
    have he : e ∈ [(("Move" : Str), m_Move_reached), (("Up" : Str), m_Up_reached), (("Down" : Str), m_Down_reached), (("Put" : Str), m_Put_reached), (("Take" : Str), m_Take_reached)] := he
    simp only [List.mem_cons, List.not_mem_nil, or_false] at he
    rcases he with rfl | rfl | rfl | rfl | rfl
    · obtain ⟨fd, ps, g, b⟩ := k_Move_reached (P := P) (w := w) (base := base) (c.def_ 44 (d := dm_Move_reached) rfl) B
      exact ⟨_, _, fd, ps, gc_Move, He.cls_ok (c.fact 76 (f := .cls "Move") rfl), He.meth_ok (c.fact 95 (f := .meth "Move" "reached") rfl), b, g.mono (by decide)⟩
    · obtain ⟨fd, ps, g, b⟩ := k_Up_reached (P := P) (w := w) (base := base) (c.def_ 45 (d := dm_Up_reached) rfl) B E_ a_beads
      exact ⟨_, _, fd, ps, gc_Up, He.cls_ok (c.fact 72 (f := .cls "Up") rfl), He.meth_ok (c.fact 96 (f := .meth "Up" "reached") rfl), b, g.mono (by decide)⟩
    · obtain ⟨fd, ps, g, b⟩ := k_Down_reached (P := P) (w := w) (base := base) (c.def_ 46 (d := dm_Down_reached) rfl) B E_ a_beads
      exact ⟨_, _, fd, ps, gc_Down, He.cls_ok (c.fact 74 (f := .cls "Down") rfl), He.meth_ok (c.fact 97 (f := .meth "Down" "reached") rfl), b, g.mono (by decide)⟩
    · obtain ⟨fd, ps, g, b⟩ := k_Put_reached (P := P) (w := w) (base := base) (c.def_ 47 (d := dm_Put_reached) rfl) B E_ a_beads
      exact ⟨_, _, fd, ps, gc_Put, He.cls_ok (c.fact 73 (f := .cls "Put") rfl), He.meth_ok (c.fact 98 (f := .meth "Put" "reached") rfl), b, g.mono (by decide)⟩
    · obtain ⟨fd, ps, g, b⟩ := k_Take_reached (P := P) (w := w) (base := base) (c.def_ 48 (d := dm_Take_reached) rfl) B E_ a_beads
      exact ⟨_, _, fd, ps, gc_Take, He.cls_ok (c.fact 75 (f := .cls "Take") rfl), He.meth_ok (c.fact 99 (f := .meth "Take" "reached") rfl), b, g.mono (by decide)⟩
  have M_reached := fun base => (MN_reached base).knm
  have MN_done : ∀ base, KnMN P w K mg base 3 tb_done "done" 2 := fun base => by
    intro e he
    have he : e ∈ [(("Move" : Str), m_Move_done), (("Up" : Str), m_Move_done), (("Down" : Str), m_Move_done), (("Put" : Str), m_Move_done), (("Take" : Str), m_Move_done)] := he
    simp only [List.mem_cons, List.not_mem_nil, or_false] at he
    rcases he with rfl | rfl | rfl | rfl | rfl
    · obtain ⟨fd, ps, g, b⟩ := k_Move_done (P := P) (w := w) (base := base) (c.def_ 49 (d := dm_Move_done) rfl) B E_ a_rod (x_Stuck base) (MN_reached base)
      exact ⟨_, _, fd, ps, gc_Move, He.cls_ok (c.fact 76 (f := .cls "Move") rfl), He.meth_ok (c.fact 100 (f := .meth "Move" "done") rfl), b, g.mono (by decide)⟩
    · obtain ⟨fd, ps, g, b⟩ := k_Move_done (P := P) (w := w) (base := base) (c.def_ 50 (d := dm_Up_done) rfl) B E_ a_rod (x_Stuck base) (MN_reached base)
      exact ⟨_, _, fd, ps, gc_Up, He.cls_ok (c.fact 72 (f := .cls "Up") rfl), He.meth_ok (c.fact 101 (f := .meth "Up" "done") rfl), b, g.mono (by decide)⟩
    · obtain ⟨fd, ps, g, b⟩ := k_Move_done (P := P) (w := w) (base := base) (c.def_ 51 (d := dm_Down_done) rfl) B E_ a_rod (x_Stuck base) (MN_reached base)
      exact ⟨_, _, fd, ps, gc_Down, He.cls_ok (c.fact 74 (f := .cls "Down") rfl), He.meth_ok (c.fact 102 (f := .meth "Down" "done") rfl), b, g.mono (by decide)⟩
    · obtain ⟨fd, ps, g, b⟩ := k_Move_done (P := P) (w := w) (base := base) (c.def_ 52 (d := dm_Put_done) rfl) B E_ a_rod (x_Stuck base) (MN_reached base)
      exact ⟨_, _, fd, ps, gc_Put, He.cls_ok (c.fact 73 (f := .cls "Put") rfl), He.meth_ok (c.fact 103 (f := .meth "Put" "done") rfl), b, g.mono (by decide)⟩
    · obtain ⟨fd, ps, g, b⟩ := k_Move_done (P := P) (w := w) (base := base) (c.def_ 53 (d := dm_Take_done) rfl) B E_ a_rod (x_Stuck base) (MN_reached base)
      exact ⟨_, _, fd, ps, gc_Take, He.cls_ok (c.fact 75 (f := .cls "Take") rfl), He.meth_ok (c.fact 104 (f := .meth "Take" "done") rfl), b, g.mono (by decide)⟩
  have M_done := fun base => (MN_done base).knm
  have h_done_all := fun base => k_done_all (P := P) (w := w) (base := base) (c.def_ 23 (d := d_done_all) rfl) g_done_all B E_ a_rod tg_Stuck (xh_Stuck base) (MN_done base)
  have ho_rows_between := fun base => ko_rows_between (P := P) (w := w) (base := base) (c.def_ 24 (d := d_rows_between) rfl) g_rows_between B (ho_rod_rows base)
  have h_rows_between := fun base => (ho_rows_between base).kn
  have ho_slips_at := fun base => ko_slips_at (P := P) (w := w) (base := base) (c.def_ 25 (d := d_slips_at) rfl) g_slips_at B (h_like base) E_ a_rod a_beads
  have h_slips_at := fun base => (ho_slips_at base).kn
  have h_law_slip := fun base => k_law_slip (P := P) (w := w) (base := base) (c.def_ 26 (d := d_law_slip) rfl) g_law_slip B (h_law_move base) E_ a_beads a_rod (M_word base)
  have h_leads_to := fun base => k_leads_to (P := P) (w := w) (base := base) (c.def_ 27 (d := d_leads_to) rfl) g_leads_to B (h_done_all base) tg_Stuck
  have ho_slips_of := fun base => ko_slips_of (P := P) (w := w) (base := base) (c.def_ 28 (d := d_slips_of) rfl) g_slips_of B (h_slips_at base) (h_with_slip base) (h_leads_to base)
  have h_slips_of := fun base => (ho_slips_of base).kn
  have S_Hand_turn_to : ∀ base, KnS P w K mg base 5 "Hand" "turn_to" 1 m_Hand_turn_to := fun base => by
    obtain ⟨fd, ps, g, b⟩ := k_Hand_turn_to (P := P) (w := w) (base := base) (c.def_ 55 (d := dm_Hand_turn_to) rfl) B (ho_rows_between base) oc_Hand
    exact ⟨_, _, fd, ps, gc_Hand, He.cls_ok (c.fact 77 (f := .cls "Hand") rfl), He.meth_ok (c.fact 106 (f := .meth "Hand" "turn_to") rfl), b, g⟩
  have I_Hand : ∀ base, KnI P w K mg base 1 "Hand" 2 m_Hand___init := fun base => by
    obtain ⟨fd, ps, g, b⟩ := k_Hand___init (P := P) (w := w) (base := base) (c.def_ 58 (d := dm_Hand___init__) rfl) B oc_Hand
    exact ⟨_, _, fd, ps, gc_Hand, He.mkr_ok (c.fact 109 (f := .mkr "Hand") rfl), b, g⟩
  have hB_tidy_hand := fun base => kB_tidy_hand (P := P) (w := w) (base := base) (c.def_ 29 (d := d_tidy_hand) rfl) g_tidy_hand B (h_borne_by base) (h_tidy_of base) (S_Hand_turn_to base) (I_Hand base)
  have S_Hand_make : ∀ base, KnS P w K mg base 6 "Hand" "make" 2 m_Hand_make := fun base => by
    obtain ⟨fd, ps, g, b⟩ := k_Hand_make (P := P) (w := w) (base := base) (c.def_ 56 (d := dm_Hand_make) rfl) B (h_plain_of base) (S_Hand_turn_to base) oc_Hand
    exact ⟨_, _, fd, ps, gc_Hand, He.cls_ok (c.fact 77 (f := .cls "Hand") rfl), He.meth_ok (c.fact 107 (f := .meth "Hand" "make") rfl), b, g⟩
  have M_stands : ∀ base, KnM P w K mg base 2 tb_stands "stands" 1 := fun base => by
    intro e he
    have he : e ∈ [(("Hand" : Str), m_Hand_stands)] := he
    simp only [List.mem_cons, List.not_mem_nil, or_false] at he
    rcases he with rfl
    · obtain ⟨fd, ps, g, b⟩ := k_Hand_stands (P := P) (w := w) (base := base) (c.def_ 54 (d := dm_Hand_stands) rfl) B (h_count_of base) E_ a_now a_frame
      exact ⟨_, _, fd, ps, gc_Hand, He.cls_ok (c.fact 77 (f := .cls "Hand") rfl), He.meth_ok (c.fact 105 (f := .meth "Hand" "stands") rfl), b, g.mono (by decide)⟩
  have S_Hand_give : ∀ base, KnS P w K mg base 106 "Hand" "give" 2 m_Hand_give := fun base => by
    obtain ⟨fd, ps, g, b⟩ := k_Hand_give (P := P) (w := w) (base := base) (c.def_ 57 (d := dm_Hand_give) rfl) B oc_Hand (S_Hand_make base) (M_stands base) ⟨_, gc_Hand, He.cls_ok (c.fact 77 (f := .cls "Hand") rfl), He.meth_ok (c.fact 108 (f := .meth "Hand" "give") rfl)⟩
    exact ⟨_, _, fd, ps, gc_Hand, He.cls_ok (c.fact 77 (f := .cls "Hand") rfl), He.meth_ok (c.fact 108 (f := .meth "Hand" "give") rfl), b, g⟩
  have ho_adding_row := fun base => ko_adding_row (P := P) (w := w) (base := base) (c.def_ 30 (d := d_adding_row) rfl) g_adding_row B (h_digits_of base) (h_borne_by base) (h_tidy_of base) (hB_tidy_hand base) oc_Hand (S_Hand_give base)
  have h_adding_row := fun base => (ho_adding_row base).kn
  have h_law_row := fun base => k_law_row (P := P) (w := w) (base := base) (c.def_ 31 (d := d_law_row) rfl) g_law_row B (h_law_pushed base) (h_adding_row base) tg_FrameError
  obtain ⟨fd, F⟩ := c.def_ 32 (d := d_law) rfl
  have e := hfa.symm.trans g_law
  cases e
  have b := FunD.bindsA (ps := ["_law_script"]) F fun _ _ _ _ _ _ us hl => match us, hl with | [_], _ => by kernel_rfl
  refine ⟨fd, fun s v => b s [v] rfl, fun base _ _ => ?_⟩
  exact law_ok F B (h_law_cell base) (h_law_pushed base) (h_law_words base) (h_law_with base) (ho_with_slip base) (h_law_told base) (h_slips_of base) (h_law_slip base) (h_law_row base) (h_law_frame base)
end K82
open PySem PySem.W PySem.Calls PyProof.Rows
set_option maxRecDepth 100000 in
set_option maxHeartbeats 0 in
theorem PySem.Challenge.cw_beadframe_k82_whole_slips_lead_there_holds : PySem.Challenge.rw_beadframe_k82_whole_slips_lead_there.Holds := by
  w_on; o_law
  refine HandSHeadRun.head_any (r := OpenLaw.row PySem.Challenge.rw_beadframe_k82_whole_slips_lead_there) (q := view (OpenLaw.row PySem.Challenge.rw_beadframe_k82_whole_slips_lead_there).prog [50]) (H := K82.hk) (ob := K82.ob) (M := 20000) (loose := K82.names) (d := HandSHeadRun.topDef (OpenLaw.row PySem.Challenge.rw_beadframe_k82_whole_slips_lead_there).prog 50) (kwd := []) K82.ob_eq
    (by kernel_rfl) (fun s => by kernel_rfl) K82.run (by kernel_rfl) (by kernel_rfl) (by kernel_rfl) (by rfl) (by first | assumption | decide +kernel) (by decide +kernel) ⟨rfl, rfl, rfl, rfl, rfl, by decide +kernel⟩ ?hw ?hc
  case hw => w_witness2
  case hc =>
    refine DL.walkE (l := PySem.Challenge.rw_beadframe_k82_whole_slips_lead_there) (n := 63) (k := 109) (x := "_law_script") (m := K82.m_law) rfl (by decide) (by kernel_rfl) ⟨rfl, by decide, by decide⟩ K82.law_true ?F
    intro w mg fa h Y G hmg0
    obtain ⟨K, KX, c⟩ := Y
    have hmg : mg ("law" : PySem.Str) = some (.ref fa) := by
      have e : (HandSHeadRun.topDef (OpenLaw.row PySem.Challenge.rw_beadframe_k82_whole_slips_lead_there).prog 50).name = ("law" : PySem.Str) := by kernel_rfl
      rw [← e]
      exact hmg0
    obtain ⟨fd, hb, hF⟩ := K82.facts (P := (PySem.Challenge.rw_beadframe_k82_whole_slips_lead_there).prog) (w := w) KX G hmg c
    exact ⟨K, fd, KX, hb, hF⟩
