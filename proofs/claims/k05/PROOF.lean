import PyProof.Rows.All
import Wide.All
import OpenK.AllK
import Wide.FinOn
import KE.KStateDown
import Lean
import HandS.ForMost
import HandS.Walk
import HandS.Defaults
import HandS.WordsExc
import HandS.Flow
import HandS.IsInst
import HandS.MakeKw
import HandS.MakeKwOnly
import HandS.Exc
import HandS.Head0
import HandS.Head1
import HandS.Head2
import HandS.HeadEnd
import HandS.HeadHook1
import HandS.HeadHook2
import HandS.Zip
import HandS.TupAny
import HandS.Text
import HandS.Style
import HandS.ExcValue
import HandS.ExcInit
import HandS.CallSlots
import KE.KExcIs
import KE.KExcInit
import HandS.ExcBuiltin
import HandS.SortInts
import KE.KUnpackStar
import KE.GoesEnum
import HandS.More
import HandS.HeadHook3
import HandS.Strs
import KE.GoesZip
import KE.GoesMore
import HandS.Dict
import HandS.TryOnly
import HandS.Conv
import HandS.OwnEq
import PyProof.InstNe
import PyProof.ListRange
import HandS.SortKw
import KE.DataMinKey
import KE.DataMinMax
import PyProof.NeKinds
import HandS.TupLe
import HandS.Deep
import HandS.SetKeys
import PyProof.MaxThree
import HandS.SetFor
import HandS.FStr
import KE.KCallOwn
import KE.KFmtOwn
import HandS.Lambda
import HandS.Ends
import PyProof.ReprRoads
import PyProof.CallFns
import HandS.Small
import PyProof.P3Eq
import PyProof.Rows.Range3
import KE.KDictZip
import HandS.FltList
import KE.GoesRaise
import HandS.SetBool
import HandS.DictComp
import HandS.Replace
import PyProof.Rows.StrStep
import PyProof.StrOps2
import HandS.Finally
import HandS.ExcCtx
import HandS.ExcInitHot
import HandS.RaiseMore
import HandS.TupMul
import PyProof.FitsInt
import PyProof.Fits
import HandS.Codes
import PySem.Challenge.RW_cardlines_k05_texts_of_places_spoilt
set_option Elab.async false
set_option linter.all false
set_option maxRecDepth 100000
set_option maxHeartbeats 4000000
set_option autoImplicit false
/-! DL1: data without the heap: D, what stands for it (Rep), a frame's slots as data (Rho), what fits (Fit). -/
namespace DL
open PySem L2

/-- classes of Python's own -/
inductive TyC where
  | none | bool | int | str | list | tuple
def TyC.nm : TyC → String
  | .none => "NoneType"
  | .bool => "bool"
  | .int => "int"
  | .str => "str"
  | .list => "list"
  | .tuple => "tuple"
/-- data: a value with all that it reaches -/
inductive D where
  | non | bl (b : Bool) | int (i : Int) | str (x : Str)
  | lst (ds : List D) | rol (ds : List D) | tup (ds : List D)
  | ins (C : Str) (fs : List (Str × D))
  | exc (C f : Str) (d : D)
  | ty (n : TyC) | cls (C : Str)
  | adr (a : Addr)

/-- at a: an error of the class cls, its dict d -/
def exk (a : Addr) (cls : Value) (d : Option Addr) : HO := .ext fun h => ∃ oe vs, h.get? a = some oe ∧ Zc cls d oe ∧ oe.data = .fields vs
mutual
/-- v stands for d in the heap H -/
inductive Rep (K : PySem.W.Frag) (H : Hp) : V → D → Prop
  | non : Rep K H .non .non
  | bl (b : Bool) : Rep K H (.bl b) (.bl b)
  | int (i : Int) : Rep K H (.int i) (.int i)
  | str (x : Str) : Rep K H (.str x) (.str x)
  | ty (n : TyC) {z : String} (e : z = n.nm) : Rep K H (.ty z) (.ty n)
  | cls (C : Str) : Rep K H (.ref (He.ga K C)) (.cls C)
  | lst {a : Addr} {xs : List V} {ds : List D} : H a = some (.lst xs) → Reps K H xs ds → Rep K H (.ref a) (.lst ds)
  | rol {a : Addr} {xs : List V} {ds : List D} : SqL K H a xs → Reps K H xs ds → Rep K H (.ref a) (.rol ds)
  | tup {a : Addr} {xs : List V} {ds : List D} : SqT K H a xs → Reps K H xs ds → Rep K H (.ref a) (.tup ds)
  | adr {a : Addr} : Rep K H (.ref a) (.adr a)
  | ins {a dx : Addr} {C : Str} {fs : List (Str × V)} {gs : List (Str × D)} : H a = some (.ins (He.ga K C) dx fs) → RepF K H fs gs → Rep K H (.ref a) (.ins C gs)
  | exc {a dx : Addr} {C f : Str} {v : V} {d : D} : H a = some (exk a (.ref (He.ga K C)) (some dx)) → H dx = some (.xd [(f, v)]) → Rep K H v d → Rep K H (.ref a) (.exc C f d)
inductive Reps (K : PySem.W.Frag) (H : Hp) : List V → List D → Prop
  | nil : Reps K H [] []
  | cons {v : V} {d : D} {vs : List V} {ds : List D} : Rep K H v d → Reps K H vs ds → Reps K H (v :: vs) (d :: ds)
inductive RepF (K : PySem.W.Frag) (H : Hp) : List (Str × V) → List (Str × D) → Prop
  | nil : RepF K H [] []
  | cons {f : Str} {v : V} {d : D} {vs : List (Str × V)} {ds : List (Str × D)} : Rep K H v d → RepF K H vs ds → RepF K H ((f, v) :: vs) ((f, d) :: ds)
end

theorem seqT {K : PySem.W.Frag} {H H' : Hp} {a : Addr} {xs : List V} (e : Same H H') (h : SqT K H a xs) : SqT K H' a xs := by
  rcases h with (h | ⟨o, h⟩) | h
  · exact .inl (.inl (e _ _ h))
  · exact .inl (.inr ⟨o, e _ _ h⟩)
  · exact .inr h

mutual
theorem Rep.mono {K : PySem.W.Frag} {H H' : Hp} (e : Same H H') : ∀ {v : V} {d : D}, Rep K H v d → Rep K H' v d
  | _, _, .non => .non
  | _, _, .bl b => .bl b
  | _, _, .int i => .int i
  | _, _, .str x => .str x
  | _, _, .ty n e => .ty n e
  | _, _, .cls C => .cls C
  | _, _, .adr => .adr
  | _, _, .lst h r => .lst (e _ _ h) (Reps.mono e r)
  | _, _, .rol h r => .rol (e.seq h) (Reps.mono e r)
  | _, _, .tup h r => .tup (seqT e h) (Reps.mono e r)
  | _, _, .ins h r => .ins (e _ _ h) (RepF.mono e r)
  | _, _, .exc h1 h2 r => .exc (e _ _ h1) (e _ _ h2) (Rep.mono e r)
theorem Reps.mono {K : PySem.W.Frag} {H H' : Hp} (e : Same H H') : ∀ {vs : List V} {ds : List D}, Reps K H vs ds → Reps K H' vs ds
  | _, _, .nil => .nil
  | _, _, .cons r t => .cons (Rep.mono e r) (Reps.mono e t)
theorem RepF.mono {K : PySem.W.Frag} {H H' : Hp} (e : Same H H') : ∀ {vs : List (Str × V)} {ds : List (Str × D)}, RepF K H vs ds → RepF K H' vs ds
  | _, _, .nil => .nil
  | _, _, .cons r t => .cons (Rep.mono e r) (RepF.mono e t)
end

section
variable {K : PySem.W.Frag} {H H' : Hp}
theorem Reps.length : ∀ {vs : List V} {ds : List D}, Reps K H vs ds → vs.length = ds.length
  | _, _, .nil => rfl
  | _, _, .cons _ t => by rw [List.length_cons, List.length_cons, Reps.length t]
theorem Reps.append : ∀ {vs ws : List V} {ds es : List D}, Reps K H vs ds → Reps K H ws es → Reps K H (vs ++ ws) (ds ++ es)
  | _, _, _, _, .nil, s => s
  | _, _, _, _, .cons r t, s => .cons r (Reps.append t s)
theorem Reps.get : ∀ {vs : List V} {ds : List D} {i : Nat} {d : D}, Reps K H vs ds → ds[i]? = some d → ∃ v, vs[i]? = some v ∧ Rep K H v d
  | _, _, _, _, .nil, e => by simp at e
  | _, _, 0, _, .cons r _, e => by simp at e; subst e; exact ⟨_, rfl, r⟩
  | _, _, i + 1, d, .cons _ t, e => by
    obtain ⟨u, h1, h2⟩ := Reps.get (i := i) (d := d) t (by simpa using e)
    exact ⟨u, by simpa using h1, h2⟩
theorem Reps.getV : ∀ {vs : List V} {ds : List D} {i : Nat} {v : V}, Reps K H vs ds → vs[i]? = some v → ∃ d, ds[i]? = some d ∧ Rep K H v d
  | _, _, _, _, .nil, e => by simp at e
  | _, _, 0, _, .cons r _, e => by simp at e; subst e; exact ⟨_, rfl, r⟩
  | _, _, i + 1, d, .cons _ t, e => by
    obtain ⟨u, h1, h2⟩ := Reps.getV (i := i) (v := d) t (by simpa using e)
    exact ⟨u, by simpa using h1, h2⟩
theorem Reps.set {v : V} {d : D} (r : Rep K H v d) : ∀ {vs : List V} {ds : List D} (i : Nat), Reps K H vs ds → Reps K H (vs.set i v) (ds.set i d)
  | _, _, _, .nil => .nil
  | _, _, 0, .cons _ t => .cons r t
  | _, _, i + 1, .cons q t => .cons q (Reps.set r i t)
theorem Reps.take : ∀ {vs : List V} {ds : List D} (n : Nat), Reps K H vs ds → Reps K H (vs.take n) (ds.take n)
  | _, _, 0, _ => .nil
  | _, _, _ + 1, .nil => .nil
  | _, _, n + 1, .cons r t => .cons r (Reps.take n t)
theorem Reps.drop : ∀ {vs : List V} {ds : List D} (n : Nat), Reps K H vs ds → Reps K H (vs.drop n) (ds.drop n)
  | _, _, 0, r => r
  | _, _, _ + 1, .nil => .nil
  | _, _, n + 1, .cons _ t => Reps.drop n t
theorem Reps.reverse : ∀ {vs : List V} {ds : List D}, Reps K H vs ds → Reps K H vs.reverse ds.reverse
  | _, _, .nil => .nil
  | _, _, .cons r t => by
    rw [List.reverse_cons, List.reverse_cons]
    exact (Reps.reverse t).append (.cons r .nil)
theorem reps_ints (ns : List Int) : Reps K H (ns.map V.int) (ns.map D.int) := by
  induction ns with
  | nil => exact .nil
  | cons n r ih => exact .cons (.int n) ih
end

/-- a field of an own thing of a class: data; an own list; an own thing of a class -/
inductive Fld where
  | dat (d : D) | lst (ds : List D) | obj (C : Str) (fs : List (Str × Fld))
/-- a thing of the frame's own: a dict; a list or a tuple some items of which are own lists; a thing of a class whose fields may be set -/
inductive OwnT where
  | dic (kvs : List (Key × D))
  | box (t : Bool) (its : List (D ⊕ List D))
  | obj (C : Str) (fs : List (Str × Fld))
/-- an item as data -/
def itD : D ⊕ List D → D
  | .inl d => d
  | .inr ds => .lst ds
/-- what a slot holds: data; a list of the frame's own; a list of the caller's that may be changed; a thing of the frame's own, with the addresses that are its own -/
inductive S where
  | v (d : D) | o (ds : List D) | m (ds : List D) | x (x : OwnT) (F : List Addr)
def S.d : S → D
  | .v d => d
  | .o ds => .lst ds
  | .m ds => .lst ds
  | .x (.box true its) _ => .tup (its.map itD)
  | .x (.box false its) _ => .lst (its.map itD)
  | .x (.dic _) (p :: _) => .adr p
  | .x (.dic _) [] => .non
  | .x (.obj _ _) (p :: _) => .adr p
  | .x (.obj _ _) [] => .non
/-- no own thing -/
def notX : S → Prop → Prop
  | .x _ _, _ => False
  | .v _, p => p
  | .o _, p => p
  | .m _, p => p
/-- what a slot tells as data -/
def S.hd : S → Option D
  | .v d => some d
  | .o ds => some (.lst ds)
  | .m ds => some (.lst ds)
  | .x _ _ => none
/-- the items of a list that may be changed -/
def S.own : S → Option (List D)
  | .v _ => none
  | .o ds => some ds
  | .m ds => some ds
  | .x _ _ => none
abbrev Rho := List (Option S)
/-- the entry of a def: the mutable parameters (slot, address), the frozen heap, the heap; tm: lists that are being made -/
structure Fx where
  mp : List (Nat × Addr)
  H0 : Hp
  Hs : Hp
  tm : List (Addr × List V)
/-- with these lists being made -/
abbrev Fx.at (Γ : Fx) (tm : List (Addr × List V)) : Fx := { Γ with tm := tm }
abbrev Fx.ma (Γ : Fx) : List Addr := Γ.mp.map (·.2)

/-- an own list at p -/
def OwnAt (K : PySem.W.Frag) (H0 H : Hp) (p : Addr) (ds : List D) : Prop := H0 p = none ∧ ∃ xs, H p = some (.lst xs) ∧ Reps K H0 xs ds
/-- a dict's entries -/
inductive KReps (K : PySem.W.Frag) (H : Hp) : List (Key × V) → List (Key × D) → Prop
  | nil : KReps K H [] []
  | cons {k : Key} {v : V} {d : D} {vs : List (Key × V)} {ds : List (Key × D)} : Rep K H v d → KReps K H vs ds → KReps K H ((k, v) :: vs) ((k, d) :: ds)
theorem KReps.mono {K : PySem.W.Frag} {H H' : Hp} (e : Same H H') : ∀ {vs : List (Key × V)} {ds : List (Key × D)}, KReps K H vs ds → KReps K H' vs ds
  | _, _, .nil => .nil
  | _, _, .cons r t => .cons (r.mono e) (t.mono e)
/-- the items of a box, the addresses of its lists -/
inductive IReps (K : PySem.W.Frag) (H0 H : Hp) : List V → List (D ⊕ List D) → List Addr → Prop
  | nil : IReps K H0 H [] [] []
  | dat {v : V} {d : D} {vs : List V} {ds : List (D ⊕ List D)} {F : List Addr} : Rep K H0 v d → IReps K H0 H vs ds F → IReps K H0 H (v :: vs) (.inl d :: ds) F
  | own {q : Addr} {xs : List V} {es : List D} {vs : List V} {ds : List (D ⊕ List D)} {F : List Addr} : H q = some (.lst xs) → Reps K H0 xs es → IReps K H0 H vs ds F → IReps K H0 H (.ref q :: vs) (.inr es :: ds) (q :: F)
theorem IReps.stay {K : PySem.W.Frag} {H0 H H1 H' : Hp} (e : Same H0 H1) : ∀ {vs : List V} {ds : List (D ⊕ List D)} {F : List Addr}, IReps K H0 H vs ds F → (∀ a ∈ F, H' a = H a) → IReps K H1 H' vs ds F
  | _, _, _, .nil, _ => .nil
  | _, _, _, .dat r t, k => .dat (r.mono e) (t.stay e k)
  | _, _, _, .own h r t, k => .own (by rw [k _ List.mem_cons_self]; exact h) (r.mono e) (t.stay e fun a z => k a (List.mem_cons_of_mem _ z))
theorem IReps.cell {K : PySem.W.Frag} {H0 H : Hp} : ∀ {vs : List V} {ds : List (D ⊕ List D)} {F : List Addr}, IReps K H0 H vs ds F → ∀ a ∈ F, ∃ o, H a = some o
  | _, _, _, .nil, a, z => by cases z
  | _, _, _, .dat r t, a, z => t.cell a z
  | _, _, _, .own h r t, a, z => by
    rcases List.mem_cons.mp z with rfl | z
    · exact ⟨_, h⟩
    · exact t.cell a z
mutual
/-- a field stands for f; F: its addresses -/
inductive FRep (K : PySem.W.Frag) (H0 H : Hp) : V → Fld → List Addr → Prop
  | dat {v : V} {d : D} : Rep K H0 v d → FRep K H0 H v (.dat d) []
  | lst {q : Addr} {xs : List V} {es : List D} : H q = some (.lst xs) → Reps K H0 xs es → FRep K H0 H (.ref q) (.lst es) [q]
  | obj {p dx : Addr} {C : Str} {ws : List (Str × V)} {fs : List (Str × Fld)} {G : List Addr} : H p = some (.ins (He.ga K C) dx ws) → H dx = some (.own p) → FReps K H0 H ws fs G → FRep K H0 H (.ref p) (.obj C fs) (p :: dx :: G)
inductive FReps (K : PySem.W.Frag) (H0 H : Hp) : List (Str × V) → List (Str × Fld) → List Addr → Prop
  | nil : FReps K H0 H [] [] []
  | cons {f : Str} {v : V} {x : Fld} {ws : List (Str × V)} {fs : List (Str × Fld)} {G G' : List Addr} : FRep K H0 H v x G → FReps K H0 H ws fs G' → FReps K H0 H ((f, v) :: ws) ((f, x) :: fs) (G ++ G')
end
/-- an own thing's cells are lists, dicts, things of a class -/
def ownO : HO → Bool
  | .lst _ => true
  | .dK _ => true
  | .ins _ _ _ => true
  | .own _ => true
  | _ => false
mutual
theorem FRep.stay {K : PySem.W.Frag} {H0 H H1 H' : Hp} (e : Same H0 H1) : ∀ {v : V} {x : Fld} {F : List Addr}, FRep K H0 H v x F → (∀ a ∈ F, H' a = H a) → FRep K H1 H' v x F
  | _, _, _, .dat r, _ => .dat (r.mono e)
  | _, _, _, .lst h r, k => .lst (by rw [k _ List.mem_cons_self]; exact h) (r.mono e)
  | _, _, _, .obj h1 h2 r, k => .obj (by rw [k _ List.mem_cons_self]; exact h1) (by rw [k _ (List.mem_cons_of_mem _ List.mem_cons_self)]; exact h2) (FReps.stay e r fun a z => k a (List.mem_cons_of_mem _ (List.mem_cons_of_mem _ z)))
theorem FReps.stay {K : PySem.W.Frag} {H0 H H1 H' : Hp} (e : Same H0 H1) : ∀ {vs : List (Str × V)} {fs : List (Str × Fld)} {F : List Addr}, FReps K H0 H vs fs F → (∀ a ∈ F, H' a = H a) → FReps K H1 H' vs fs F
  | _, _, _, .nil, _ => .nil
  | _, _, _, .cons r t, k => .cons (FRep.stay e r fun a z => k a (List.mem_append_left _ z)) (FReps.stay e t fun a z => k a (List.mem_append_right _ z))
end
mutual
theorem FRep.kind {K : PySem.W.Frag} {H0 H : Hp} : ∀ {v : V} {x : Fld} {F : List Addr}, FRep K H0 H v x F → ∀ a ∈ F, ∃ o, H a = some o ∧ ownO o = true
  | _, _, _, .dat r, a, z => by cases z
  | _, _, _, .lst h r, a, z => by
    cases List.mem_singleton.mp z
    exact ⟨_, h, rfl⟩
  | _, _, _, .obj h1 h2 r, a, z => by
    rcases List.mem_cons.mp z with rfl | z
    · exact ⟨_, h1, rfl⟩
    · rcases List.mem_cons.mp z with rfl | z
      · exact ⟨_, h2, rfl⟩
      · exact FReps.kind r a z
theorem FReps.kind {K : PySem.W.Frag} {H0 H : Hp} : ∀ {vs : List (Str × V)} {fs : List (Str × Fld)} {F : List Addr}, FReps K H0 H vs fs F → ∀ a ∈ F, ∃ o, H a = some o ∧ ownO o = true
  | _, _, _, .nil, a, z => by cases z
  | _, _, _, .cons r t, a, z => by
    rcases List.mem_append.mp z with z | z
    · exact FRep.kind r a z
    · exact FReps.kind t a z
end
def XR (K : PySem.W.Frag) (H0 H : Hp) (v : V) : OwnT → List Addr → Prop
  | .obj C fs, F => FRep K H0 H v (.obj C fs) F ∧ F.Nodup
  | .dic kvs, F => ∃ p ws, v = .ref p ∧ F = [p] ∧ H p = some (.dK ws) ∧ KReps K H0 ws kvs
  | .box true its, F => ∃ p ys, v = .ref p ∧ H0 p = some (.tup ys) ∧ IReps K H0 H ys its F ∧ F.Nodup
  | .box false its, F => ∃ p ys G, v = .ref p ∧ F = p :: G ∧ H p = some (.lst ys) ∧ IReps K H0 H ys its G ∧ F.Nodup
/-- an own thing at v; F: its addresses -/
def XAt (K : PySem.W.Frag) (H0 H : Hp) (v : V) (x : OwnT) (F : List Addr) : Prop := (∀ a ∈ F, H0 a = none) ∧ XR K H0 H v x F
theorem XAt.cell {K : PySem.W.Frag} {H0 H : Hp} {v : V} {x : OwnT} {F : List Addr} (h : XAt K H0 H v x F) : ∀ a ∈ F, ∃ o, H a = some o := by
  obtain ⟨_, h⟩ := h
  cases x with
  | obj C fs => exact fun a z => let ⟨o, h1, _⟩ := FRep.kind h.1 a z; ⟨o, h1⟩
  | dic kvs =>
    obtain ⟨p, ws, rfl, rfl, h1, _⟩ := h
    intro a z
    rcases List.mem_cons.mp z with rfl | z
    · exact ⟨_, h1⟩
    · cases z
  | box t its =>
    cases t with
    | true =>
      obtain ⟨p, ys, rfl, _, h2, _⟩ := h
      exact h2.cell
    | false =>
      obtain ⟨p, ys, G, rfl, rfl, h1, h2, _⟩ := h
      intro a z
      rcases List.mem_cons.mp z with rfl | z
      · exact ⟨_, h1⟩
      · exact h2.cell a z
theorem XAt.stay {K : PySem.W.Frag} {H0 H H1 H' : Hp} {v : V} {x : OwnT} {F : List Addr} (h : XAt K H0 H v x F) (e : Same H0 H1) (k : ∀ a ∈ F, H1 a = none ∧ H' a = H a) : XAt K H1 H' v x F := by
  refine ⟨fun a z => (k a z).1, ?_⟩
  obtain ⟨_, h⟩ := h
  cases x with
  | obj C fs => exact ⟨FRep.stay e h.1 fun a z => (k a z).2, h.2⟩
  | dic kvs =>
    obtain ⟨p, ws, rfl, rfl, h1, h2⟩ := h
    exact ⟨p, ws, rfl, rfl, by rw [(k p List.mem_cons_self).2]; exact h1, h2.mono e⟩
  | box t its =>
    cases t with
    | true =>
      obtain ⟨p, ys, rfl, h1, h2, h3⟩ := h
      exact ⟨p, ys, rfl, e _ _ h1, h2.stay e fun a z => (k a z).2, h3⟩
    | false =>
      obtain ⟨p, ys, G, rfl, rfl, h1, h2, h3⟩ := h
      exact ⟨p, ys, G, rfl, rfl, by rw [(k p List.mem_cons_self).2]; exact h1, h2.stay e fun a z => (k a (List.mem_cons_of_mem _ z)).2, h3⟩
theorem IReps.kind {K : PySem.W.Frag} {H0 H : Hp} : ∀ {vs : List V} {ds : List (D ⊕ List D)} {F : List Addr}, IReps K H0 H vs ds F → ∀ a ∈ F, ∃ o, H a = some o ∧ ownO o = true
  | _, _, _, .nil, a, z => by cases z
  | _, _, _, .dat r t, a, z => t.kind a z
  | _, _, _, .own h r t, a, z => by
    rcases List.mem_cons.mp z with rfl | z
    · exact ⟨_, h, rfl⟩
    · exact t.kind a z
theorem XAt.kind {K : PySem.W.Frag} {H0 H : Hp} {v : V} {x : OwnT} {F : List Addr} (h : XAt K H0 H v x F) : ∀ a ∈ F, ∃ o, H a = some o ∧ ownO o = true := by
  obtain ⟨_, h⟩ := h
  cases x with
  | obj C fs => exact FRep.kind h.1
  | dic kvs =>
    obtain ⟨p, ws, rfl, rfl, h1, _⟩ := h
    intro a z
    rcases List.mem_cons.mp z with rfl | z
    · exact ⟨_, h1, rfl⟩
    · cases z
  | box t its =>
    cases t with
    | true =>
      obtain ⟨p, ys, rfl, _, h2, _⟩ := h
      exact h2.kind
    | false =>
      obtain ⟨p, ys, G, rfl, rfl, h1, h2, _⟩ := h
      intro a z
      rcases List.mem_cons.mp z with rfl | z
      · exact ⟨_, h1, rfl⟩
      · exact h2.kind a z
def SRep (K : PySem.W.Frag) (H0 H : Hp) (v : V) : S → Prop
  | .v d => Rep K H0 v d
  | .o ds => ∃ p, v = .ref p ∧ OwnAt K H0 H p ds
  | .m ds => ∃ p, v = .ref p ∧ OwnAt K H0 H p ds
  | .x x F => XAt K H0 H v x F
theorem SRep.ownAt {K : PySem.W.Frag} {H0 H : Hp} {v : V} {s : S} {ds : List D} (h : SRep K H0 H v s) (e : s.own = some ds) : ∃ p, v = .ref p ∧ OwnAt K H0 H p ds := by
  cases s with
  | v d => cases e
  | o es => cases e; exact h
  | m es => cases e; exact h
  | x x F => cases e
/-- a is in no own thing but the slot's -/
structure XFree (Γ : Fx) (σ : St) (ρ : Rho) (i : Nat) (a : Addr) : Prop where
  hs : Γ.Hs a = none
  tm : ∀ xs, (a, xs) ∉ Γ.tm
  sl : ∀ (j : Nat) s es, ρ[j]? = some (some s) → s.own = some es → σ[j]? ≠ some (some (.ref a))
  xs : ∀ (j : Nat) y G, j ≠ i → ρ[j]? = some (some (.x y G)) → a ∉ G
theorem XFree.tr {Γ Γ' : Fx} {σ σ' : St} {ρ ρ' : Rho} {i : Nat} {a : Addr} (h : XFree Γ σ ρ i a) (hs : Γ'.Hs a = none) (ht : ∀ xs, (a, xs) ∉ Γ'.tm)
    (h1 : ∀ (j : Nat) s es, ρ'[j]? = some (some s) → s.own = some es → ∃ s2 es2, ρ[j]? = some (some s2) ∧ s2.own = some es2 ∧ σ'[j]? = σ[j]?) (h2 : ∀ (j : Nat) y G, ρ'[j]? = some (some (.x y G)) → ∃ y', ρ[j]? = some (some (.x y' G))) : XFree Γ' σ' ρ' i a :=
  ⟨hs, ht, fun j s es q1 q2 q3 => by
    obtain ⟨s2, es2, g1, g2, g3⟩ := h1 j s es q1 q2
    rw [g3] at q3
    exact h.sl j s2 es2 g1 g2 q3, fun j y G hj q => by
    obtain ⟨y', g⟩ := h2 j y G q
    exact h.xs j y' G hj g⟩
/-- a is in no own thing -/
abbrev NoX (ρ : Rho) (a : Addr) : Prop := ∀ (j : Nat) y G, ρ[j]? = some (some (.x y G)) → a ∉ G

structure Fit (Γ : Fx) (K : PySem.W.Frag) (H0 : Hp) (σ : St) (ρ : Rho) (H : Hp) : Prop where
  sub : Same H0 H
  s0 : Same Γ.H0 H0
  keep : ∀ a o, Γ.Hs a = some o → a ∉ Γ.ma → H a = some o
  new : ∀ a o, H0 a = some o → Γ.H0 a = none → Γ.Hs a = none
  len : ρ.length = σ.length
  slots : ∀ (i : Nat) s, ρ[i]? = some (some s) → ∃ v, σ[i]? = some (some v) ∧ SRep K H0 H v s
  loc : ∀ (i : Nat) ds p, ρ[i]? = some (some (.o ds)) → σ[i]? = some (some (.ref p)) → Γ.Hs p = none
  par : ∀ (i : Nat) ds p, ρ[i]? = some (some (.m ds)) → σ[i]? = some (some (.ref p)) → (i, p) ∈ Γ.mp
  dist : ∀ (i j : Nat) s t ds es p, ρ[i]? = some (some s) → ρ[j]? = some (some t) → s.own = some ds → t.own = some es → σ[i]? = some (some (.ref p)) → σ[j]? = some (some (.ref p)) → i = j
  mps : ∀ (i : Nat) a, (i, a) ∈ Γ.mp → σ[i]? = some (some (.ref a)) ∧ ∃ ds, ρ[i]? = some (some (.m ds))
  tmp : ∀ p xs, (p, xs) ∈ Γ.tm → H p = some (.lst xs) ∧ H0 p = none ∧ ∀ (i : Nat) s es, ρ[i]? = some (some s) → s.own = some es → σ[i]? ≠ some (some (.ref p))
  ex : ∀ (i : Nat) x F, ρ[i]? = some (some (.x x F)) → ∀ a ∈ F, XFree Γ σ ρ i a

/-- the value of an expression: data, or a new list that no slot holds -/
def RRep (Γ : Fx) (K : PySem.W.Frag) (H0 : Hp) (σ : St) (ρ : Rho) (H : Hp) (v : V) : S → Prop
  | .v d => Rep K H0 v d
  | .o ds => ∃ p, v = .ref p ∧ OwnAt K H0 H p ds ∧ Γ.Hs p = none ∧ (∀ xs, (p, xs) ∉ Γ.tm) ∧ (∀ (i : Nat) s es, ρ[i]? = some (some s) → s.own = some es → σ[i]? ≠ some (some (.ref p))) ∧ NoX ρ p
  | .m _ => False
  | .x x F => XAt K H0 H v x F ∧ ∀ a ∈ F, Γ.Hs a = none ∧ (∀ xs, (a, xs) ∉ Γ.tm) ∧ (∀ (i : Nat) s es, ρ[i]? = some (some s) → s.own = some es → σ[i]? ≠ some (some (.ref a))) ∧ NoX ρ a

section
variable {Γ : Fx} {K : PySem.W.Frag} {H0 : Hp} {σ : St} {ρ : Rho} {H : Hp} {p : Addr}
theorem Fit.maSome (F : Fit Γ K H0 σ ρ H) {a : Addr} (h : a ∈ Γ.ma) : ∃ xs, H a = some (.lst xs) := by
  obtain ⟨⟨i, b⟩, hm, rfl⟩ := List.mem_map.mp h
  obtain ⟨e1, ds, e2⟩ := F.mps i b hm
  obtain ⟨v, e3, q⟩ := F.slots i _ e2
  rw [e1] at e3
  cases e3
  obtain ⟨p, ep, _, xs, hx, _⟩ := q
  cases ep
  exact ⟨xs, hx⟩
theorem Fit.none0 (F : Fit Γ K H0 σ ρ H) (h : H p = none) : H0 p = none := F.sub.free h
theorem Fit.noneS (F : Fit Γ K H0 σ ρ H) (h : H p = none) : Γ.Hs p = none := by
  cases q : Γ.Hs p with
  | none => rfl
  | some o =>
    by_cases hm : p ∈ Γ.ma
    · obtain ⟨xs, e⟩ := F.maSome hm
      rw [h] at e; cases e
    · have := F.keep p o q hm
      rw [h] at this; cases this
/-- an address that is new holds no slot's list -/
theorem Fit.noSlot (F : Fit Γ K H0 σ ρ H) (h : H p = none) : ∀ (i : Nat) s es, ρ[i]? = some (some s) → s.own = some es → σ[i]? ≠ some (some (.ref p)) := by
  intro i s es h1 h2 h3
  obtain ⟨v, h4, h5⟩ := F.slots i s h1
  rw [h3] at h4
  cases h4
  obtain ⟨q, e, _, xs, hx, _⟩ := h5.ownAt h2
  cases e
  rw [h] at hx; cases hx
theorem Fit.xAt (F : Fit Γ K H0 σ ρ H) {i : Nat} {x : OwnT} {G : List Addr} (h : ρ[i]? = some (some (.x x G))) : ∃ v, σ[i]? = some (some v) ∧ XAt K H0 H v x G := F.slots i _ h
theorem Fit.xSome (F : Fit Γ K H0 σ ρ H) {i : Nat} {x : OwnT} {G : List Addr} (h : ρ[i]? = some (some (.x x G))) {a : Addr} (ha : a ∈ G) : H0 a = none ∧ ∃ o, H a = some o := by
  obtain ⟨v, _, q⟩ := F.xAt h
  exact ⟨q.1 a ha, q.cell a ha⟩
theorem Fit.noX (F : Fit Γ K H0 σ ρ H) (h : H p = none) : NoX ρ p := fun j y G h1 h2 => by
  obtain ⟨_, o, e⟩ := F.xSome h1 h2
  rw [h] at e; cases e
/-- a cell of another kind is in no own thing -/
theorem Fit.noXo (F : Fit Γ K H0 σ ρ H) {o : HO} (h : H p = some o) (ho : ownO o = false) : NoX ρ p := fun j y G h1 h2 => by
  obtain ⟨v, _, q⟩ := F.xAt h1
  obtain ⟨o', e, k⟩ := q.kind p h2
  rw [h] at e
  cases e
  rw [ho] at k; cases k
theorem Fit.noXd (F : Fit Γ K H0 σ ρ H) {fs : List (Str × V)} (h : H p = some (.xd fs)) : NoX ρ p := F.noXo h rfl
theorem Fit.tmX (F : Fit Γ K H0 σ ρ H) {xs : List V} (h : (p, xs) ∈ Γ.tm) : NoX ρ p := fun j y G h1 h2 => (F.ex j y G h1 p h2).tm xs h
theorem same_upd {o : HO} (h : H p = none) : Same H (upd H p o) := fun b u e => by rw [upd_ne (ne_of_none e h)]; exact e
/-- a heap that tells as much of the lists that are the frame's own -/
theorem SRep.stay {H1 H' : Hp} {v : V} {s : S} (h : SRep K H0 H v s) (e : Same H0 H1) (k : ∀ p ds, v = .ref p → s.own = some ds → H1 p = none ∧ H' p = H p) (kx : ∀ x F, s = .x x F → ∀ a ∈ F, H1 a = none ∧ H' a = H a) : SRep K H1 H' v s := by
  cases s with
  | v d => exact Rep.mono e h
  | o ds =>
    obtain ⟨p, rfl, h0, xs, hx, r⟩ := h
    obtain ⟨k1, k2⟩ := k p ds rfl rfl
    exact ⟨p, rfl, k1, xs, by rw [k2]; exact hx, r.mono e⟩
  | m ds =>
    obtain ⟨p, rfl, h0, xs, hx, r⟩ := h
    obtain ⟨k1, k2⟩ := k p ds rfl rfl
    exact ⟨p, rfl, k1, xs, by rw [k2]; exact hx, r.mono e⟩
  | x x F => exact XAt.stay h e (kx x F rfl)
/-- a step that leaves the slots as they are -/
theorem Fit.step {H1 H' : Hp} (F : Fit Γ K H0 σ ρ H) (e0 : Same H0 H1) (e1 : Same H1 H') (k : ∀ a o, H a = some o → H' a = some o) (nw : ∀ a o, H1 a = some o → H0 a = none → Γ.Hs a = none)
    (ow : ∀ (i : Nat) s ds p, ρ[i]? = some (some s) → s.own = some ds → σ[i]? = some (some (.ref p)) → H1 p = none) (tw : ∀ p xs, (p, xs) ∈ Γ.tm → H1 p = none)
    (xw : ∀ (i : Nat) x F a, ρ[i]? = some (some (.x x F)) → a ∈ F → H1 a = none) : Fit Γ K H1 σ ρ H' where
  sub := e1
  s0 := F.s0.trans e0
  keep := fun a o h hm => k a o (F.keep a o h hm)
  new := fun a o h hn => by
    cases q : H0 a with
    | none => exact nw a o h q
    | some u => exact F.new a u q hn
  len := F.len
  slots := fun i s h => by
    obtain ⟨v, h1, h2⟩ := F.slots i s h
    refine ⟨v, h1, h2.stay e0 (fun p ds ev es => ?_) fun x G ex a ha => ?_⟩
    · subst ev
      refine ⟨ow i s ds p h es h1, ?_⟩
      obtain ⟨q, eq, _, xs, hx, _⟩ := h2.ownAt es
      cases eq
      rw [k _ _ hx, hx]
    · subst ex
      obtain ⟨_, o, ho⟩ := F.xSome h ha
      exact ⟨xw i x G a h ha, by rw [k _ _ ho, ho]⟩
  loc := F.loc
  par := F.par
  dist := F.dist
  mps := F.mps
  tmp := fun p xs h => ⟨k _ _ (F.tmp p xs h).1, tw p xs h, (F.tmp p xs h).2.2⟩
  ex := F.ex
theorem Fit.ownNone (F : Fit Γ K H0 σ ρ H) {i : Nat} {s : S} {ds : List D} {p : Addr} (h : ρ[i]? = some (some s)) (hs : s.own = some ds) (hv : σ[i]? = some (some (.ref p))) : H0 p = none ∧ ∃ xs, H p = some (.lst xs) ∧ Reps K H0 xs ds := by
  obtain ⟨v, h1, h2⟩ := F.slots i s h
  rw [hv] at h1
  cases h1
  obtain ⟨q, e, r⟩ := h2.ownAt hs
  cases e
  exact r
theorem Fit.noTmp (F : Fit Γ K H0 σ ρ H) (h : H p = none) : ∀ xs, (p, xs) ∉ Γ.tm := fun xs hm => by
  have := (F.tmp p xs hm).1
  rw [h] at this; cases this
/-- a new own list -/
theorem Fit.allocO (F : Fit Γ K H0 σ ρ H) {xs : List V} {ds : List D} (h : H p = none) (r : Reps K H0 xs ds) : Fit Γ K H0 σ ρ (upd H p (.lst xs)) ∧ RRep Γ K H0 σ ρ (upd H p (.lst xs)) (.ref p) (.o ds) :=
  ⟨F.step (Same.refl _) (F.sub.trans (same_upd h)) (same_upd h) (fun a o h1 h2 => by rw [h2] at h1; cases h1) (fun i s ds p h1 h2 h3 => (F.ownNone h1 h2 h3).1) (fun p xs h => (F.tmp p xs h).2.1) (fun i x G a h1 h2 => (F.xSome h1 h2).1),
    p, rfl, ⟨F.none0 h, xs, upd_same, r⟩, F.noneS h, F.noTmp h, F.noSlot h, F.noX h⟩
/-- a new frozen thing -/
theorem Fit.allocF (F : Fit Γ K H0 σ ρ H) {o : HO} (h : H p = none) : Fit Γ K (upd H0 p o) σ ρ (upd H p o) ∧ Same H0 (upd H0 p o) := by
  have h0 := F.none0 h
  refine ⟨F.step (same_upd h0) (fun b u e => ?_) (same_upd h) (fun a u h1 h2 => ?_) (fun i s ds q h1 h2 h3 => ?_) (fun q xs hq => ?_) (fun i x G a h1 h2 => ?_), same_upd h0⟩
  · by_cases hb : b = p
    · subst hb; rw [upd_same] at e ⊢; exact e
    · rw [upd_ne hb] at e ⊢; exact F.sub _ _ e
  · by_cases ha : a = p
    · subst ha; exact F.noneS h
    · rw [upd_ne ha, h2] at h1; cases h1
  · obtain ⟨q1, xs, q2, _⟩ := F.ownNone h1 h2 h3
    rw [upd_ne (ne_of_none q2 h)]; exact q1
  · obtain ⟨q1, q2, _⟩ := F.tmp q xs hq
    rw [upd_ne (ne_of_none q1 h)]; exact q2
  · obtain ⟨q1, o, q2⟩ := F.xSome h1 h2
    rw [upd_ne (ne_of_none q2 h)]; exact q1
theorem Fit.allocT (F : Fit Γ K H0 σ ρ H) {xs : List V} {ds : List D} (h : H p = none) (r : Reps K H0 xs ds) : Fit Γ K (upd H0 p (.tup xs)) σ ρ (upd H p (.tup xs)) ∧ Same H0 (upd H0 p (.tup xs)) ∧ Rep K (upd H0 p (.tup xs)) (.ref p) (.tup ds) := by
  obtain ⟨F1, e⟩ := F.allocF (o := .tup xs) h
  exact ⟨F1, e, .tup (SqT.of upd_same) (r.mono e)⟩
/-- a cell that is nobody's frozen -/
theorem Fit.frz1 (F : Fit Γ K H0 σ ρ H) {o : HO} (hx : H p = some o) (h0 : H0 p = none) (hs : Γ.Hs p = none) (nt : ∀ xs, (p, xs) ∉ Γ.tm) (ns : ∀ (i : Nat) s es, ρ[i]? = some (some s) → s.own = some es → σ[i]? ≠ some (some (.ref p))) (nx : NoX ρ p) :
    Fit Γ K (upd H0 p o) σ ρ H := by
  refine F.step (same_upd h0) (fun b u e => ?_) (fun _ _ e => e) (fun a u h1 h2 => ?_) (fun i s ds q h1 h2 h3 => ?_) (fun q ys hq => ?_) (fun i x G a h1 h2 => ?_)
  · by_cases hb : b = p
    · subst hb; rw [upd_same] at e; rw [hx]; exact e
    · rw [upd_ne hb] at e; exact F.sub _ _ e
  · by_cases ha : a = p
    · subst ha; exact hs
    · rw [upd_ne ha, h2] at h1; cases h1
  · have hne : q ≠ p := fun z => ns i s ds h1 h2 (by rw [← z]; exact h3)
    rw [upd_ne hne]
    exact (F.ownNone h1 h2 h3).1
  · have hne : q ≠ p := fun z => by subst z; exact nt ys hq
    rw [upd_ne hne]
    exact (F.tmp q ys hq).2.1
  · have hne : a ≠ p := fun z => by subst z; exact nx i x G h1 h2
    rw [upd_ne hne]
    exact (F.xSome h1 h2).1
/-- the lists of a box frozen -/
theorem Fit.frzI {H : Hp} : ∀ {H0 : Hp} {ys : List V} {its : List (D ⊕ List D)} {G : List Addr}, IReps K H0 H ys its G → Fit Γ K H0 σ ρ H → G.Nodup →
    (∀ a ∈ G, H0 a = none ∧ Γ.Hs a = none ∧ (∀ xs, (a, xs) ∉ Γ.tm) ∧ (∀ (i : Nat) s es, ρ[i]? = some (some s) → s.own = some es → σ[i]? ≠ some (some (.ref a))) ∧ NoX ρ a) →
    ∃ H1, Fit Γ K H1 σ ρ H ∧ Same H0 H1 ∧ Reps K H1 ys (its.map itD) ∧ ∀ a, a ∉ G → H1 a = H0 a
  | H0, _, _, _, .nil, F, _, _ => ⟨H0, F, Same.refl _, .nil, fun _ _ => rfl⟩
  | H0, _, _, _, .dat r t, F, nd, k => by
    obtain ⟨H1, F1, e1, r1, k1⟩ := Fit.frzI t F nd k
    exact ⟨H1, F1, e1, .cons (r.mono e1) r1, k1⟩
  | H0, _, _, _, .own (q := q) (xs := xs) h r t, F, nd, k => by
    obtain ⟨k1, k2, k3, k4, k5⟩ := k q List.mem_cons_self
    have F1 := F.frz1 h k1 k2 k3 k4 k5
    have s1 : Same H0 (upd H0 q (.lst xs)) := same_upd k1
    obtain ⟨H2, F2, e2, r2, k6⟩ := Fit.frzI (t.stay s1 fun _ _ => rfl) F1 (List.nodup_cons.mp nd).2 fun a ha => by
      have hne : a ≠ q := fun z => by subst z; exact (List.nodup_cons.mp nd).1 ha
      obtain ⟨q1, q2⟩ := k a (List.mem_cons_of_mem _ ha)
      exact ⟨by rw [upd_ne hne]; exact q1, q2⟩
    refine ⟨H2, F2, s1.trans e2, .cons (.lst (e2 _ _ upd_same) (r.mono (s1.trans e2))) r2, fun a ha => ?_⟩
    have h1 : a ≠ q := fun z => ha (by rw [z]; exact List.mem_cons_self)
    rw [k6 a fun z => ha (List.mem_cons_of_mem _ z), upd_ne h1]
/-- a new thing frozen -/
theorem Fit.freeze (F : Fit Γ K H0 σ ρ H) {v : V} {s : S} (r : RRep Γ K H0 σ ρ H v s) : ∃ H1, Fit Γ K H1 σ ρ H ∧ Same H0 H1 ∧ Rep K H1 v s.d := by
  cases s with
  | v d => exact ⟨H0, F, Same.refl _, r⟩
  | m ds => exact r.elim
  | o ds =>
    obtain ⟨p, rfl, ⟨h0, xs, hx, r⟩, hs, nt, ns, nx⟩ := r
    exact ⟨upd H0 p (.lst xs), F.frz1 hx h0 hs nt ns nx, same_upd h0, .lst upd_same (r.mono (same_upd h0))⟩
  | x x G =>
    obtain ⟨⟨hn, r⟩, k⟩ := r
    cases x with
    | obj C fs =>
      obtain ⟨r, _⟩ := r
      cases r
      exact ⟨H0, F, Same.refl _, .adr⟩
    | dic kvs =>
      obtain ⟨p, ws, rfl, rfl, _, _⟩ := r
      exact ⟨H0, F, Same.refl _, .adr⟩
    | box t its =>
      cases t with
      | true =>
        obtain ⟨p, ys, rfl, h1, h2, nd⟩ := r
        obtain ⟨H1, F1, e1, r1, k1⟩ := Fit.frzI h2 F nd fun a ha => ⟨hn a ha, k a ha⟩
        exact ⟨H1, F1, e1, .tup (SqT.of (e1 _ _ h1)) r1⟩
      | false =>
        obtain ⟨p, ys, G, rfl, rfl, h1, h2, nd⟩ := r
        obtain ⟨H1, F1, e1, r1, k1⟩ := Fit.frzI h2 F (List.nodup_cons.mp nd).2 fun a ha => ⟨hn a (List.mem_cons_of_mem _ ha), k a (List.mem_cons_of_mem _ ha)⟩
        have hp : H1 p = none := by rw [k1 p (List.nodup_cons.mp nd).1]; exact hn p List.mem_cons_self
        obtain ⟨q1, q2, q3, q4⟩ := k p List.mem_cons_self
        exact ⟨upd H1 p (.lst ys), F1.frz1 h1 hp q1 q2 q3 q4, e1.trans (same_upd hp), .lst upd_same (r1.mono (same_upd hp))⟩
end

/-- both ways -/
structure IfB (b : Bool) (p q : Prop) : Prop where
  tt : b = true → p
  ff : b = false → q
theorem IfB.t {p q : Prop} (h : p) : IfB true p q := ⟨fun _ => h, (fun z => nomatch z)⟩
theorem IfB.f {p q : Prop} (h : q) : IfB false p q := ⟨(fun z => nomatch z), fun _ => h⟩
/-! ### readings over data -/
abbrev DT := Rho → (S → Rho → Prop) → Prop
/-- an expression's reading over data, as a reading -/
def LE (Γ : Fx) (K : PySem.W.Frag) (t : DT) : TE := fun σ H Q => ∃ H0 ρ R, Fit Γ K H0 σ ρ H ∧ t ρ R ∧ ∀ r ρ' v H0' H', R r ρ' → Fit Γ K H0' σ ρ' H' → Same H0 H0' → RRep Γ K H0' σ ρ' H' v r → Q v H'
structure DE (X : Cx) (Γ : Fx) (e : Expr) (t : DT) : Prop where
  run : ∀ tm, PE X e (LE (Γ.at tm) X.K t)
theorem peLe {X : Cx} {e : Expr} {t t' : TE} (h : PE X e t) (w : ∀ σ H Q, t' σ H Q → t σ H Q) : PE X e t' := ⟨fun pins s σ H Q I q => h.run pins s σ H Q I (w σ H Q q)⟩

/-- a handle: data, or the slot whose list it is -/
inductive Hd where
  | val (d : D) | slot (i : Nat)
def Hd.get (ρ : Rho) : Hd → Option D
  | .val d => some d
  | .slot i => match ρ[i]? with
    | some (some s) => s.hd
    | _ => none
def HRep (K : PySem.W.Frag) (H0 : Hp) (σ : St) (v : V) : Hd → Prop
  | .val d => Rep K H0 v d
  | .slot i => σ[i]? = some (some v)
theorem HRep.mono {K : PySem.W.Frag} {H0 H1 : Hp} {σ : St} {v : V} {h : Hd} (e : Same H0 H1) (r : HRep K H0 σ v h) : HRep K H1 σ v h := by
  cases h with
  | val d => exact Rep.mono e r
  | slot i => exact r
abbrev DHT := Rho → (Hd → Rho → Prop) → Prop
def LH (Γ : Fx) (K : PySem.W.Frag) (t : DHT) : TE := fun σ H Q => ∃ H0 ρ R, Fit Γ K H0 σ ρ H ∧ t ρ R ∧ ∀ h ρ' v H0' H', R h ρ' → Fit Γ K H0' σ ρ' H' → Same H0 H0' → HRep K H0' σ v h → Q v H'
structure DH (X : Cx) (Γ : Fx) (e : Expr) (t : DHT) : Prop where
  run : ∀ tm, PE X e (LH (Γ.at tm) X.K t)
/-- what a handle tells where it is used: of a list its items are frozen, it itself may be the frame's own -/
inductive Top (K : PySem.W.Frag) (H0 H : Hp) : V → D → Prop
  | rep {v : V} {d : D} : Rep K H0 v d → Top K H0 H v d
  | own {p : Addr} {xs : List V} {ds : List D} : H p = some (.lst xs) → Reps K H0 xs ds → Top K H0 H (.ref p) (.lst ds)
theorem Top.lst {K : PySem.W.Frag} {H0 H : Hp} {v : V} {ds : List D} (e : Same H0 H) (t : Top K H0 H v (.lst ds)) : ∃ p xs, v = .ref p ∧ H p = some (.lst xs) ∧ Reps K H0 xs ds := by
  cases t with
  | rep r => cases r with | lst h r => exact ⟨_, _, rfl, e _ _ h, r⟩
  | own h r => exact ⟨_, _, rfl, h, r⟩
/-- anything but a list -/
theorem Top.other {K : PySem.W.Frag} {H0 H : Hp} {v : V} {d : D} (t : Top K H0 H v d) (n : ∀ ds, d ≠ .lst ds) : Rep K H0 v d := by
  cases t with
  | rep r => exact r
  | own h r => exact absurd rfl (n _)
/-- the whole as it stands now -/
theorem Top.now {K : PySem.W.Frag} {H0 H : Hp} {v : V} {d : D} (e : Same H0 H) (t : Top K H0 H v d) : Rep K H v d := by
  cases t with
  | rep r => exact r.mono e
  | own h r => exact .lst h (r.mono e)
theorem Fit.top {Γ : Fx} {K : PySem.W.Frag} {H0 : Hp} {σ : St} {ρ : Rho} {H : Hp} {v : V} {h : Hd} {d : D} (F : Fit Γ K H0 σ ρ H) (r : HRep K H0 σ v h) (g : h.get ρ = some d) : Top K H0 H v d := by
  cases h with
  | val e => cases g; exact .rep r
  | slot i =>
    simp only [Hd.get] at g
    cases q : ρ[i]? with
    | none => rw [q] at g; cases g
    | some o =>
      cases o with
      | none => rw [q] at g; cases g
      | some s =>
        rw [q] at g
        obtain ⟨u, h1, h2⟩ := F.slots i s q
        have r : σ[i]? = some (some v) := r
        rw [r] at h1
        cases h1
        cases s with
        | v d => cases g; exact .rep h2
        | o ds => cases g; obtain ⟨p, rfl, _, xs, hx, r⟩ := h2; exact .own hx r
        | m ds => cases g; obtain ⟨p, rfl, _, xs, hx, r⟩ := h2; exact .own hx r
        | x x F => cases g
end DL

/-! DL2: expressions over data. -/
namespace DL
open PySem L2

/-! ### constants, names -/
def dC (d : D) : DT := fun ρ R => R (.v d) ρ
section
variable {X : Cx} {Γ : Fx} {e a b c : Expr} {pos : Pos}
/-- a constant of the text or of the module -/
theorem de_c {v : V} {d : D} (h : PE X e (tC v)) (r : ∀ H, Rep X.K H v d) : DE X Γ e (dC d) := ⟨fun tm => peLe h fun σ H Q ⟨H0, ρ, R, F, t, k⟩ => k (.v d) ρ v H0 H t F (Same.refl _) (r _)⟩
theorem de_int {i j pos} : DE X Γ (.Constant (.int i) j pos) (dC (.int i)) := de_c pe_int fun _ => .int i
theorem de_bl {i j pos} : DE X Γ (.Constant (.bool i) j pos) (dC (.bl i)) := de_c pe_bl fun _ => .bl i
theorem de_non {j pos} : DE X Γ (.Constant .none j pos) (dC .non) := de_c pe_non fun _ => .non
theorem de_str {x j pos} : DE X Γ (.Constant (.str x) j pos) (dC (.str x)) := de_c pe_str fun _ => .str x
/-- a slot's name, where it is used and not kept -/
def dhV (i : Nat) : DHT := fun ρ R => match ρ[i]? with
  | some (some _) => R (.slot i) ρ
  | _ => False
theorem dh_var {i : Nat} (h : PE X e (tVar i)) : DH X Γ e (dhV i) := ⟨fun tm => peLe h fun σ H Q ⟨H0, ρ, R, F, t, k⟩ => by
  simp only [dhV] at t
  split at t
  · rename_i s q
    obtain ⟨v, h1, _⟩ := F.slots i _ q
    exact ⟨v, h1, k _ ρ v H0 H t F (Same.refl _) h1⟩
  · exact t.elim⟩
/-- an expression's value as a handle -/
def dhE (t : DT) : DHT := fun ρ R => t ρ fun r ρ' => R (.val r.d) ρ'
theorem dh_e {t : DT} (h : DE X Γ e t) : DH X Γ e (dhE t) := ⟨fun tm => peLe (h.run tm) fun σ H Q ⟨H0, ρ, R, F, t, k⟩ =>
  ⟨H0, ρ, _, F, t, fun r ρ' v H0' H' hr F' e' rr => by
    obtain ⟨H1, F1, e1, r1⟩ := F'.freeze rr
    exact k _ ρ' v H1 H' hr F1 (e'.trans e1) r1⟩⟩
/-- a slot's name, its value kept: an own list is frozen -/
def dV (i : Nat) : DT := fun ρ R => match ρ[i]? with
  | some (some (.v d)) => R (.v d) ρ
  | some (some (.o ds)) => R (.v (.lst ds)) (ρ.set i (some (.v (.lst ds))))
  | _ => False
/-- an own slot frozen -/
theorem Fit.freezeSlot {Γ : Fx} {K : PySem.W.Frag} {H0 : Hp} {σ : St} {ρ : Rho} {H : Hp} (F : Fit Γ K H0 σ ρ H) {i : Nat} {ds : List D} {v : V} (h : ρ[i]? = some (some (.o ds))) (hv : σ[i]? = some (some v)) :
    ∃ H1, Fit Γ K H1 σ (ρ.set i (some (.v (.lst ds)))) H ∧ Same H0 H1 ∧ Rep K H1 v (.lst ds) := by
  obtain ⟨u, h1, h2⟩ := F.slots i _ h
  rw [hv] at h1
  cases h1
  obtain ⟨p, rfl, h0, xs, hx, r⟩ := h2
  have e := same_upd (o := .lst xs) h0
  have hi : i < ρ.length := by
    have := List.getElem?_eq_some_iff.mp h
    exact this.1
  have rr : Rep K (upd H0 p (.lst xs)) (.ref p) (.lst ds) := .lst upd_same (r.mono e)
  have get : ∀ (j : Nat) s ds', (ρ.set i (some (.v (.lst ds))))[j]? = some (some s) → s.own = some ds' → j ≠ i ∧ ρ[j]? = some (some s) := by
    intro j s ds' hj hs
    by_cases q : i = j
    · subst q
      rw [List.getElem?_set_self hi] at hj
      cases hj
      cases hs
    · rw [List.getElem?_set_ne q] at hj
      exact ⟨fun z => q z.symm, hj⟩
  refine ⟨upd H0 p (.lst xs), ?_, e, rr⟩
  have sub : Same (upd H0 p (.lst xs)) H := fun b u q => by
    by_cases hb : b = p
    · subst hb; rw [upd_same] at q; rw [hx]; exact q
    · rw [upd_ne hb] at q; exact F.sub _ _ q
  refine ⟨sub, F.s0.trans e, F.keep, fun a o q n => ?_, by rw [List.length_set]; exact F.len, fun j s hj => ?_, fun j ds' q hj hq => ?_, fun j ds' q hj hq => ?_, fun j k s t ds' es q h1 h2 h3 h4 h5 h6 => ?_, fun j a' hm => ?_, fun q ys hq => ?_, fun j x G hj a' ha' => ?_⟩
  · by_cases ha : a = p
    · subst ha; exact F.loc i ds a h hv
    · rw [upd_ne ha] at q; exact F.new a o q n
  · by_cases q : i = j
    · subst q
      rw [List.getElem?_set_self hi] at hj
      cases hj
      exact ⟨_, hv, rr⟩
    · rw [List.getElem?_set_ne q] at hj
      obtain ⟨u, h1, h2⟩ := F.slots j s hj
      refine ⟨u, h1, h2.stay e (fun p' ds' ev es => ?_) fun x G ex a ha => ?_⟩
      · subst ev
        have hne : p' ≠ p := fun z => by
          subst z
          exact q (F.dist i j _ _ _ _ p' h hj rfl es hv h1)
        exact ⟨by rw [upd_ne hne]; exact (F.ownNone hj es h1).1, rfl⟩
      · subst ex
        have hne : a ≠ p := fun z => by
          subst z
          exact (F.ex j x G hj a ha).sl i _ ds h rfl hv
        exact ⟨by rw [upd_ne hne]; exact (F.xSome hj ha).1, rfl⟩
  · exact F.loc j ds' q (get j _ _ hj rfl).2 hq
  · exact F.par j ds' q (get j _ _ hj rfl).2 hq
  · exact F.dist j k s t ds' es q (get j _ _ h1 h3).2 (get k _ _ h2 h4).2 h3 h4 h5 h6
  · obtain ⟨q1, ds', q2⟩ := F.mps j a' hm
    refine ⟨q1, ds', ?_⟩
    rw [List.getElem?_set_ne (fun z => by subst z; rw [h] at q2; cases q2)]
    exact q2
  · obtain ⟨q1, q2, q3⟩ := F.tmp q ys hq
    have hne : q ≠ p := fun z => by subst z; exact q3 i _ ds h rfl hv
    exact ⟨q1, by rw [upd_ne hne]; exact q2, fun j s es h1 h2 => q3 j s es (get j _ _ h1 h2).2 h2⟩
  · have gx : ∀ (j : Nat) y G, (ρ.set i (some (.v (.lst ds))))[j]? = some (some (.x y G)) → ρ[j]? = some (some (.x y G)) := fun j y G z => by
      by_cases q : i = j
      · subst q
        rw [List.getElem?_set_self hi] at z
        cases z
      · rw [List.getElem?_set_ne q] at z
        exact z
    have X1 := F.ex j x G (gx j x G hj) a' ha'
    exact X1.tr X1.hs X1.tm (fun k s es q1 q2 => ⟨s, es, (get k _ _ q1 q2).2, q2, rfl⟩) fun k y G q => ⟨y, gx k y G q⟩
theorem de_var {i : Nat} (h : PE X e (tVar i)) : DE X Γ e (dV i) := ⟨fun tm => peLe h fun σ H Q ⟨H0, ρ, R, F, t, k⟩ => by
  simp only [dV] at t
  split at t
  · rename_i d q
    obtain ⟨v, h1, h2⟩ := F.slots i _ q
    exact ⟨v, h1, k _ ρ v H0 H t F (Same.refl _) h2⟩
  · rename_i ds q
    obtain ⟨v, h1, _⟩ := F.slots i _ q
    obtain ⟨H1, F1, e1, r1⟩ := F.freezeSlot q h1
    exact ⟨v, h1, k _ _ v H1 H t F1 e1 r1⟩
  · exact t.elim⟩
end

/-! ### two-place operations -/
/-- the reading r of values does what f says of data -/
def Op2 (X : Cx) (r : R2) (f : D → D → (S → Prop) → Prop) : Prop := ∀ (Γ : Fx) (H0 : Hp) (σ : St) (ρ : Rho) (H : Hp) (x y : V) (a b : D) (R : S → Prop) (Q : VK), Fit Γ X.K H0 σ ρ H → Top X.K H0 H x a → Top X.K H0 H y b → f a b R →
  (∀ s v H0' H', R s → Fit Γ X.K H0' σ ρ H' → Same H0 H0' → RRep Γ X.K H0' σ ρ H' v s → Q v H') → r x y H Q
def dBin (f : D → D → (S → Prop) → Prop) (ta tb : DHT) : DT := fun ρ R => ta ρ fun a ρ1 => tb ρ1 fun b ρ2 => match a.get ρ2, b.get ρ2 with
  | some x, some y => f x y fun r => R r ρ2
  | _, _ => False
section
variable {X : Cx} {Γ : Fx} {e a b c : Expr} {pos : Pos} {ta tb tc : DHT} {r : R2} {f : D → D → (S → Prop) → Prop}
theorem bin_le {Γ : Fx} (hf : Op2 X r f) {σ : St} {H : Hp} {Q : VK} (h : LE Γ X.K (dBin f ta tb) σ H Q) : tOp r (LH Γ X.K ta) (LH Γ X.K tb) σ H Q := by
  obtain ⟨H0, ρ, R, F, t, k⟩ := h
  refine ⟨H0, ρ, _, F, t, fun ha ρ1 v H1 H' q1 F1 e1 r1 => ⟨H1, ρ1, _, F1, q1, fun hb ρ2 u H2 H'' q2 F2 e2 r2 => ?_⟩⟩
  split at q2
  · rename_i x y gx gy
    exact hf _ H2 σ ρ2 H'' v u x y _ Q F2 (F2.top (r1.mono e2) gx) (F2.top r2 gy) q2 fun s w H3 H4 q3 F3 e3 r3 => k s ρ2 w H3 H4 q3 F3 ((e1.trans e2).trans e3) r3
  · exact q2.elim
theorem de_op {op : Operator} (ho : OpR X (binaryOp op) r) (hf : Op2 X r f) (ha : DH X Γ a ta) (hb : DH X Γ b tb) : DE X Γ (.BinOp a op b pos) (dBin f ta tb) :=
  ⟨fun tm => peLe (pe_op ho (ha.run tm) (hb.run tm)) fun σ H Q h => bin_le hf h⟩
theorem de_cmp {op : CmpOp} (ho : OpR X (compareOp op) r) (hf : Op2 X r f) (ha : DH X Γ a ta) (hb : DH X Γ b tb) (hm : behindInMarks op b = false) : DE X Γ (.Compare a [op] [b] pos) (dBin f ta tb) :=
  ⟨fun tm => peLe (pe_cmpR ho (ha.run tm) (hb.run tm) hm) fun σ H Q h => bin_le hf h⟩
theorem de_ix (ho : IxR X r) (hf : Op2 X r f) (ha : DH X Γ a ta) (hb : DH X Γ b tb) (hs : PlainIx b) : DE X Γ (.Subscript a b pos) (dBin f ta tb) :=
  ⟨fun tm => peLe (pe_ix ho (ha.run tm) (hb.run tm) hs) fun σ H Q h => bin_le hf h⟩
end

/-! ### tests -/
abbrev DTT := Rho → (Bool → Rho → Prop) → Prop
def LT (Γ : Fx) (K : PySem.W.Frag) (t : DTT) : TT := fun σ H Q => ∃ H0 ρ R, Fit Γ K H0 σ ρ H ∧ t ρ R ∧ ∀ b ρ' H0' H', R b ρ' → Fit Γ K H0' σ ρ' H' → Same H0 H0' → Q b H'
structure DTs (X : Cx) (Γ : Fx) (e : Expr) (t : DTT) : Prop where
  run : ∀ tm, PT X e (LT (Γ.at tm) X.K t)
structure DW (X : Cx) (Γ : Fx) (e : Expr) (t : DTT) : Prop where
  run : ∀ tm, PW X e (LT (Γ.at tm) X.K t)
theorem ptLe {X : Cx} {e : Expr} {t t' : TT} (h : PT X e t) (w : ∀ σ H Q, t' σ H Q → t σ H Q) : PT X e t' := ⟨fun pins s σ H Q I q => h.run pins s σ H Q I (w σ H Q q)⟩
theorem pwLe {X : Cx} {e : Expr} {t t' : TT} (h : PW X e t) (w : ∀ σ H Q, t' σ H Q → t σ H Q) : PW X e t' := ⟨fun whole pins s σ H Q I q => h.run whole pins s σ H Q I (w σ H Q q)⟩
theorem DW.dt {X : Cx} {Γ : Fx} {e : Expr} {t : DTT} (h : DW X Γ e t) : DTs X Γ e t := ⟨fun tm => (h.run tm).pt⟩
/-- a value that is a truth value, as a test -/
def dTest (t : DT) : DTT := fun ρ R => t ρ fun r ρ' => match r with
  | .v (.bl b) => R b ρ'
  | _ => False
theorem RRep.bl {Γ : Fx} {K : PySem.W.Frag} {H0 : Hp} {σ : St} {ρ : Rho} {H : Hp} {v : V} {b : Bool} (h : RRep Γ K H0 σ ρ H v (.v (.bl b))) : v = .bl b := by
  have h : Rep K H0 v (.bl b) := h
  cases h
  rfl
/-- a value's truth -/
def truD : D → Option Bool
  | .non => some false
  | .bl b => some b
  | .int i => some (i != 0)
  | .str x => if x.length ≤ sizeLine then some ((x.length : Int) != 0) else none
  | .lst ds => some (!ds.isEmpty)
  | .rol ds => some (!ds.isEmpty)
  | .tup ds => some (!ds.isEmpty)
  | _ => none
def dTru (t : DHT) : DTT := fun ρ R => t ρ fun h ρ' => match h.get ρ' with
  | some d => (match truD d with
    | some b => R b ρ'
    | none => False)
  | none => False
theorem Reps.isEmpty {K : PySem.W.Frag} {H : Hp} {vs : List V} {ds : List D} (r : Reps K H vs ds) : ds.isEmpty = vs.isEmpty := by
  cases r <;> rfl
theorem truV_of {K : PySem.W.Frag} {H0 H : Hp} {v : V} {d : D} {b : Bool} (e : Same H0 H) (t : Top K H0 H v d) (h : truD d = some b) : TruV K v H b := by
  have r := t.now e
  cases r with
  | non => cases h; rfl
  | bl b => cases h; rfl
  | int i => cases h; rfl
  | str x =>
    simp only [truD] at h
    split at h
    · rename_i q
      cases h
      exact ⟨q, rfl⟩
    · cases h
  | lst h1 r1 => cases h; exact .inl ⟨_, SqL.of h1, by rw [r1.isEmpty]⟩
  | rol h1 r1 => cases h; exact .inl ⟨_, h1, by rw [r1.isEmpty]⟩
  | tup h1 r1 => cases h; exact .inr (.inl ⟨_, h1, by rw [r1.isEmpty]⟩)
  | ins => cases h
  | exc => cases h
  | ty => cases h
  | cls => cases h
  | adr => cases h
section
variable {X : Cx} {Γ : Fx} {e a b c : Expr} {pos : Pos} {ta tb tc : DHT} {r r' : R2} {f f' : D → D → (S → Prop) → Prop} {t u : DTT} {rest : List Expr}
theorem dt_cmp {op : CmpOp} (ho : OpR X (compareOp op) r) (hf : Op2 X r f) (ha : DH X Γ a ta) (hb : DH X Γ b tb) (hm : behindInMarks op b = false) : DTs X Γ (.Compare a [op] [b] pos) (dTest (dBin f ta tb)) :=
  ⟨fun tm => ptLe (pt_cmpR ho (ha.run tm) (hb.run tm) hm) fun σ H Q ⟨H0, ρ, R, F, t, k⟩ => bin_le hf ⟨H0, ρ, _, F, t, fun r ρ' v H1 H' q F' e' rr => by
    split at q
    · exact ⟨_, rr.bl, k _ ρ' H1 H' q F' e'⟩
    · exact q.elim⟩⟩
/-- any expression by its truth -/
theorem dt_tru (ha : DH X Γ a ta) (he : ∀ whole, isTrue a X.env whole = (do let v ← whole; standAt a.pos; holding [v] (truthy v)) := by intro _; rfl) : DTs X Γ a (dTru ta) :=
  ⟨fun tm => ptLe (pt_truth (ha.run tm) he) fun σ H Q ⟨H0, ρ, R, F, t, k⟩ => ⟨H0, ρ, _, F, t, fun h ρ' v H1 H' q F' e' rr => by
    split at q
    · rename_i d g
      split at q
      · rename_i b hb
        exact ⟨b, truV_of F'.sub (F'.top rr g) hb, k b ρ' H1 H' q F' e'⟩
      · exact q.elim
    · exact q.elim⟩⟩
def dtAnd (t u : DTT) : DTT := fun ρ R => t ρ fun b ρ1 => IfB b (u ρ1 R) (R false ρ1)
def dtOr (t u : DTT) : DTT := fun ρ R => t ρ fun b ρ1 => IfB b (R true ρ1) (u ρ1 R)
def dtNot (t : DTT) : DTT := fun ρ R => t ρ fun b ρ1 => R (!b) ρ1
theorem dw_and1 (ha : DTs X Γ a t) : DW X Γ (.BoolOp .And [a] pos) t := ⟨fun tm => pw_and1 (ha.run tm)⟩
theorem dw_or1 (ha : DTs X Γ a t) : DW X Γ (.BoolOp .Or [a] pos) t := ⟨fun tm => pw_or1 (ha.run tm)⟩
theorem dw_and (ha : DTs X Γ a t) (hb : DW X Γ (.BoolOp .And (b :: rest) pos) u) : DW X Γ (.BoolOp .And (a :: b :: rest) pos) (dtAnd t u) :=
  ⟨fun tm => pwLe (pw_and (ha.run tm) (hb.run tm)) fun σ H Q ⟨H0, ρ, R, F, t, k⟩ => ⟨H0, ρ, _, F, t, fun b ρ1 H1 H' q F' e' => by
    cases b with
    | true =>
      rw [if_pos rfl]; replace q := q.tt rfl
      exact ⟨H1, ρ1, R, F', q, fun b ρ2 H2 H'' q2 F2 e2 => k b ρ2 H2 H'' q2 F2 (e'.trans e2)⟩
    | false =>
      rw [if_neg Bool.false_ne_true]; replace q := q.ff rfl
      exact k _ ρ1 H1 H' q F' e'⟩⟩
theorem dw_or (ha : DTs X Γ a t) (hb : DW X Γ (.BoolOp .Or (b :: rest) pos) u) : DW X Γ (.BoolOp .Or (a :: b :: rest) pos) (dtOr t u) :=
  ⟨fun tm => pwLe (pw_or (ha.run tm) (hb.run tm)) fun σ H Q ⟨H0, ρ, R, F, t, k⟩ => ⟨H0, ρ, _, F, t, fun b ρ1 H1 H' q F' e' => by
    cases b with
    | false =>
      rw [if_neg Bool.false_ne_true]; replace q := q.ff rfl
      exact ⟨H1, ρ1, R, F', q, fun b ρ2 H2 H'' q2 F2 e2 => k b ρ2 H2 H'' q2 F2 (e'.trans e2)⟩
    | true =>
      rw [if_pos rfl]; replace q := q.tt rfl
      exact k _ ρ1 H1 H' q F' e'⟩⟩
theorem dt_not (ha : DTs X Γ a t) : DTs X Γ (.UnaryOp .Not a pos) (dtNot t) :=
  ⟨fun tm => ptLe (pt_not (ha.run tm)) fun σ H Q ⟨H0, ρ, R, F, t, k⟩ => ⟨H0, ρ, _, F, t, fun b ρ1 H1 H' q F' e' => k _ ρ1 H1 H' q F' e'⟩⟩
/-! ### and, or, not as values of truth values; a if c else b -/
def dAnd (t u : DT) : DT := fun ρ R => t ρ fun r ρ1 => match r with
  | .v (.bl b) => IfB b (u ρ1 R) (R (.v (.bl false)) ρ1)
  | _ => False
def dOr (t u : DT) : DT := fun ρ R => t ρ fun r ρ1 => match r with
  | .v (.bl b) => IfB b (R (.v (.bl true)) ρ1) (u ρ1 R)
  | _ => False
def dNot (t : DT) : DT := fun ρ R => t ρ fun r ρ1 => match r with
  | .v (.bl b) => R (.v (.bl (!b))) ρ1
  | _ => False
theorem de_one {op} {t : DT} (h : DE X Γ a t) : DE X Γ (.BoolOp op [a] pos) t := ⟨fun tm => pe_one (h.run tm)⟩
theorem de_and {t u : DT} (ha : DE X Γ a t) (hb : DE X Γ (.BoolOp .And (b :: rest) pos) u) : DE X Γ (.BoolOp .And (a :: b :: rest) pos) (dAnd t u) :=
  ⟨fun tm => peLe (pe_and (ha.run tm) (hb.run tm)) fun σ H Q ⟨H0, ρ, R, F, t, k⟩ => ⟨H0, ρ, _, F, t, fun r ρ1 v H1 H' q F' e' rr => by
    split at q
    · rename_i b
      refine ⟨b, rr.bl, ?_⟩
      cases b with
      | true =>
        rw [if_pos rfl]; replace q := q.tt rfl
        exact ⟨H1, ρ1, R, F', q, fun b ρ2 v H2 H'' q2 F2 e2 r2 => k b ρ2 v H2 H'' q2 F2 (e'.trans e2) r2⟩
      | false =>
        rw [if_neg Bool.false_ne_true]; replace q := q.ff rfl
        exact k _ ρ1 _ H1 H' q F' e' (Rep.bl false)
    · exact q.elim⟩⟩
theorem de_or {t u : DT} (ha : DE X Γ a t) (hb : DE X Γ (.BoolOp .Or (b :: rest) pos) u) : DE X Γ (.BoolOp .Or (a :: b :: rest) pos) (dOr t u) :=
  ⟨fun tm => peLe (pe_or (ha.run tm) (hb.run tm)) fun σ H Q ⟨H0, ρ, R, F, t, k⟩ => ⟨H0, ρ, _, F, t, fun r ρ1 v H1 H' q F' e' rr => by
    split at q
    · rename_i b
      refine ⟨b, rr.bl, ?_⟩
      cases b with
      | false =>
        rw [if_neg Bool.false_ne_true]; replace q := q.ff rfl
        exact ⟨H1, ρ1, R, F', q, fun b ρ2 v H2 H'' q2 F2 e2 r2 => k b ρ2 v H2 H'' q2 F2 (e'.trans e2) r2⟩
      | true =>
        rw [if_pos rfl]; replace q := q.tt rfl
        exact k _ ρ1 _ H1 H' q F' e' (Rep.bl true)
    · exact q.elim⟩⟩
theorem de_not {t : DT} (ha : DE X Γ a t) : DE X Γ (.UnaryOp .Not a pos) (dNot t) :=
  ⟨fun tm => peLe (pe_not (ha.run tm)) fun σ H Q ⟨H0, ρ, R, F, t, k⟩ => ⟨H0, ρ, _, F, t, fun r ρ1 v H1 H' q F' e' rr => by
    split at q
    · rename_i b
      exact ⟨b, rr.bl, k _ ρ1 _ H1 H' q F' e' (Rep.bl _)⟩
    · exact q.elim⟩⟩
def dIf (c : DTT) (t u : DT) : DT := fun ρ R => c ρ fun b ρ1 => IfB b (t ρ1 R) (u ρ1 R)
theorem de_if {t : DTT} {u w : DT} (hc : DTs X Γ c t) (ha : DE X Γ a u) (hb : DE X Γ b w) : DE X Γ (.IfExp c a b pos) (dIf t u w) :=
  ⟨fun tm => peLe (pe_ifExp (hc.run tm) (ha.run tm) (hb.run tm)) fun σ H Q ⟨H0, ρ, R, F, t, k⟩ => ⟨H0, ρ, _, F, t, fun b ρ1 H1 H' q F' e' => by
    cases b with
    | false =>
      rw [if_neg Bool.false_ne_true]; replace q := q.ff rfl
      exact ⟨H1, ρ1, R, F', q, fun b ρ2 v H2 H'' q2 F2 e2 r2 => k b ρ2 v H2 H'' q2 F2 (e'.trans e2) r2⟩
    | true =>
      rw [if_pos rfl]; replace q := q.tt rfl
      exact ⟨H1, ρ1, R, F', q, fun b ρ2 v H2 H'' q2 F2 e2 r2 => k b ρ2 v H2 H'' q2 F2 (e'.trans e2) r2⟩⟩⟩
/-- a op b op' c: the middle one asked once -/
def dChain (f f' : D → D → (S → Prop) → Prop) (ta tb tc : DHT) : DT := fun ρ R => ta ρ fun a ρ1 => tb ρ1 fun b ρ2 => match a.get ρ2, b.get ρ2 with
  | some x, some y => f x y fun r => match r with
    | .v (.bl k) => IfB k (tc ρ2 fun c ρ3 => (match b.get ρ3, c.get ρ3 with
      | some y, some z => f' y z fun r => R r ρ3
      | _, _ => False)) (R (.v (.bl false)) ρ2)
    | _ => False
  | _, _ => False
theorem chain_le {Γ : Fx} (hf : Op2 X r f) (hf' : Op2 X r' f') {σ : St} {H : Hp} {Q : VK} (h : LE Γ X.K (dChain f f' ta tb tc) σ H Q) : tChain r r' (LH Γ X.K ta) (LH Γ X.K tb) (LH Γ X.K tc) σ H Q := by
  obtain ⟨H0, ρ, R, F, t, k⟩ := h
  refine ⟨H0, ρ, _, F, t, fun ha ρ1 v H1 H' q1 F1 e1 r1 => ⟨H1, ρ1, _, F1, q1, fun hb ρ2 u H2 H'' q2 F2 e2 r2 => ?_⟩⟩
  split at q2
  · rename_i x y gx gy
    refine hf _ H2 σ ρ2 H'' v u x y _ _ F2 (F2.top (r1.mono e2) gx) (F2.top r2 gy) q2 fun s w H3 H4 q3 F3 e3 r3 => ?_
    split at q3
    · rename_i bb
      refine ⟨bb, r3.bl, ?_⟩
      cases bb with
      | false =>
        rw [if_neg Bool.false_ne_true]; replace q3 := q3.ff rfl
        exact k _ ρ2 _ H3 H4 q3 F3 ((e1.trans e2).trans e3) (Rep.bl false)
      | true =>
        rw [if_pos rfl]; replace q3 := q3.tt rfl
        refine ⟨H3, ρ2, _, F3, q3, fun hc ρ3 w3 H5 H6 q4 F5 e5 r5 => ?_⟩
        split at q4
        · rename_i y' z gy' gz
          exact hf' _ H5 σ ρ3 H6 u w3 y' z _ Q F5 (F5.top (r2.mono (e3.trans e5)) gy') (F5.top r5 gz) q4 fun s w6 H7 H8 q5 F7 e7 r7 => k s ρ3 w6 H7 H8 q5 F7 ((((e1.trans e2).trans e3).trans e5).trans e7) r7
        · exact q4.elim
    · exact q3.elim
  · exact q2.elim
theorem de_chain {op op' : CmpOp} (ho : OpR X (compareOp op) r) (ho' : OpR X (compareOp op') r') (hf : Op2 X r f) (hf' : Op2 X r' f') (ha : DH X Γ a ta) (hb : DH X Γ b tb) (hc : DH X Γ c tc)
    (hm : lastMarks [op, op'] [b, c] = false := by with_unfolding_all rfl) : DE X Γ (.Compare a [op, op'] [b, c] pos) (dChain f f' ta tb tc) :=
  ⟨fun tm => peLe (pe_chain ho ho' (ha.run tm) (hb.run tm) (hc.run tm) hm) fun σ H Q h => chain_le hf hf' h⟩
theorem dt_chain {op op' : CmpOp} (ho : OpR X (compareOp op) r) (ho' : OpR X (compareOp op') r') (hf : Op2 X r f) (hf' : Op2 X r' f') (ha : DH X Γ a ta) (hb : DH X Γ b tb) (hc : DH X Γ c tc)
    (hm : lastMarks [op, op'] [b, c] = false := by with_unfolding_all rfl) : DTs X Γ (.Compare a [op, op'] [b, c] pos) (dTest (dChain f f' ta tb tc)) :=
  ⟨fun tm => ptLe (pt_chain ho ho' (ha.run tm) (hb.run tm) (hc.run tm) hm) fun σ H Q ⟨H0, ρ, R, F, t, k⟩ => chain_le hf hf' ⟨H0, ρ, _, F, t, fun r ρ' v H1 H' q F' e' rr => by
    split at q
    · exact ⟨_, rr.bl, k _ ρ' H1 H' q F' e'⟩
    · exact q.elim⟩⟩
end

/-! ### one-place operations, argument lists -/
def Op1 (X : Cx) (r : V → Hp → VK → Prop) (f : D → (S → Prop) → Prop) : Prop := ∀ (Γ : Fx) (H0 : Hp) (σ : St) (ρ : Rho) (H : Hp) (x : V) (a : D) (R : S → Prop) (Q : VK), Fit Γ X.K H0 σ ρ H → Top X.K H0 H x a → f a R →
  (∀ s v H0' H', R s → Fit Γ X.K H0' σ ρ H' → Same H0 H0' → RRep Γ X.K H0' σ ρ H' v s → Q v H') → r x H Q
def dUn (f : D → (S → Prop) → Prop) (ta : DHT) : DT := fun ρ R => ta ρ fun a ρ1 => match a.get ρ1 with
  | some x => f x fun r => R r ρ1
  | _ => False
abbrev DAT := Rho → (List Hd → Rho → Prop) → Prop
inductive HReps (K : PySem.W.Frag) (H0 : Hp) (σ : St) : List V → List Hd → Prop
  | nil : HReps K H0 σ [] []
  | cons {v : V} {h : Hd} {vs : List V} {hs : List Hd} : HRep K H0 σ v h → HReps K H0 σ vs hs → HReps K H0 σ (v :: vs) (h :: hs)
theorem HReps.mono {K : PySem.W.Frag} {H0 H1 : Hp} {σ : St} (e : Same H0 H1) : ∀ {vs : List V} {hs : List Hd}, HReps K H0 σ vs hs → HReps K H1 σ vs hs
  | _, _, .nil => .nil
  | _, _, .cons r t => .cons (r.mono e) (HReps.mono e t)
def LA (Γ : Fx) (K : PySem.W.Frag) (t : DAT) : TA := fun σ H Q => ∃ H0 ρ R, Fit Γ K H0 σ ρ H ∧ t ρ R ∧ ∀ hs ρ' vs H0' H', R hs ρ' → Fit Γ K H0' σ ρ' H' → Same H0 H0' → HReps K H0' σ vs hs → Q vs H'
structure DA (X : Cx) (Γ : Fx) (es : List Expr) (t : DAT) : Prop where
  run : ∀ tm, PA X es (LA (Γ.at tm) X.K t)
structure DK (X : Cx) (Γ : Fx) (kws : List Keyword) (t : DAT) : Prop where
  run : ∀ tm, PK X kws (LA (Γ.at tm) X.K t)
def daNil : DAT := fun ρ R => R [] ρ
def daCons (t : DHT) (u : DAT) : DAT := fun ρ R => t ρ fun h ρ1 => u ρ1 fun hs ρ2 => R (h :: hs) ρ2
section
variable {X : Cx} {Γ : Fx} {e : Expr} {es : List Expr} {t : DHT} {u : DAT} {kws : List Keyword} {nm : Option Str} {kpos : Pos}
theorem paLe {es : List Expr} {t t' : TA} (h : PA X es t) (w : ∀ σ H Q, t' σ H Q → t σ H Q) : PA X es t' := ⟨fun pos pins s σ H Q I q => h.run pos pins s σ H Q I (w σ H Q q)⟩
theorem pkLe {es : List Keyword} {t t' : TA} (h : PK X es t) (w : ∀ σ H Q, t' σ H Q → t σ H Q) : PK X es t' := ⟨fun pos pins s σ H Q I q => h.run pos pins s σ H Q I (w σ H Q q)⟩
theorem da_nil : DA X Γ [] daNil := ⟨fun tm => paLe pa_nil fun σ H Q ⟨H0, ρ, R, F, t, k⟩ => k [] ρ [] H0 H t F (Same.refl _) .nil⟩
theorem dk_nil : DK X Γ [] daNil := ⟨fun tm => pkLe pk_nil fun σ H Q ⟨H0, ρ, R, F, t, k⟩ => k [] ρ [] H0 H t F (Same.refl _) .nil⟩
theorem la_cons {Γ : Fx} {σ : St} {H : Hp} {Q : List V → Hp → Prop} (h : LA Γ X.K (daCons t u) σ H Q) : tCons (LH Γ X.K t) (LA Γ X.K u) σ H Q := by
  obtain ⟨H0, ρ, R, F, t, k⟩ := h
  exact ⟨H0, ρ, _, F, t, fun h ρ1 v H1 H' q F1 e1 r1 => ⟨H1, ρ1, _, F1, q, fun hs ρ2 vs H2 H'' q2 F2 e2 r2 => k _ ρ2 _ H2 H'' q2 F2 (e1.trans e2) (.cons (r1.mono e2) r2)⟩⟩
theorem da_cons (ha : DH X Γ e t) (hr : DA X Γ es u) (hs : starEach (e :: es) X.env = (false, eval e X.env) :: starEach es X.env := by rfl) : DA X Γ (e :: es) (daCons t u) :=
  ⟨fun tm => paLe (pa_cons (ha.run tm) (hr.run tm) hs) fun σ H Q h => la_cons h⟩
theorem dk_cons (ha : DH X Γ e t) (hr : DK X Γ kws u) : DK X Γ (⟨nm, e, kpos⟩ :: kws) (daCons t u) :=
  ⟨fun tm => pkLe (pk_cons (ha.run tm) (hr.run tm)) fun σ H Q h => la_cons h⟩
end
/-- the data of handles -/
def gets (ρ : Rho) : List Hd → Option (List D)
  | [] => some []
  | h :: hs => match h.get ρ, gets ρ hs with
    | some d, some ds => some (d :: ds)
    | _, _ => none
inductive Tops (K : PySem.W.Frag) (H0 H : Hp) : List V → List D → Prop
  | nil : Tops K H0 H [] []
  | cons {v : V} {d : D} {vs : List V} {ds : List D} : Top K H0 H v d → Tops K H0 H vs ds → Tops K H0 H (v :: vs) (d :: ds)
theorem Fit.tops {Γ : Fx} {K : PySem.W.Frag} {H0 : Hp} {σ : St} {ρ : Rho} {H : Hp} (F : Fit Γ K H0 σ ρ H) : ∀ {vs : List V} {hs : List Hd} {ds : List D}, HReps K H0 σ vs hs → gets ρ hs = some ds → Tops K H0 H vs ds
  | _, _, _, .nil, g => by cases g; exact .nil
  | _, _, _, .cons r t, g => by
    simp only [gets] at g
    split at g
    · rename_i d ds g1 g2
      cases g
      exact .cons (F.top r g1) (F.tops t g2)
    · cases g
/-- a call of a builtin -/
def OpN (X : Cx) (r : List V → Hp → VK → Prop) (f : List D → (S → Prop) → Prop) : Prop := ∀ (Γ : Fx) (H0 : Hp) (σ : St) (ρ : Rho) (H : Hp) (xs : List V) (as : List D) (R : S → Prop) (Q : VK), Fit Γ X.K H0 σ ρ H → Tops X.K H0 H xs as → f as R →
  (∀ s v H0' H', R s → Fit Γ X.K H0' σ ρ H' → Same H0 H0' → RRep Γ X.K H0' σ ρ H' v s → Q v H') → r xs H Q
def dCB (f : List D → (S → Prop) → Prop) (ta : DAT) : DT := fun ρ R => ta ρ fun hs ρ1 => match gets ρ1 hs with
  | some ds => f ds fun r => R r ρ1
  | none => False
section
variable {X : Cx} {Γ : Fx} {e : Expr} {es : List Expr} {ta : DAT} {r : List V → Hp → VK → Prop} {f : List D → (S → Prop) → Prop} {x : Str} {p pos : Pos} {id T : String}
theorem cb_le {Γ : Fx} (hf : OpN X r f) {σ : St} {H : Hp} {Q : VK} (h : LE Γ X.K (dCB f ta) σ H Q) : tCB r (LA Γ X.K ta) σ H Q := by
  obtain ⟨H0, ρ, R, F, t, k⟩ := h
  refine ⟨H0, ρ, _, F, t, fun hs ρ1 vs H1 H' q F1 e1 r1 => ?_⟩
  split at q
  · rename_i ds g
    exact hf _ H1 σ ρ1 H' vs ds _ Q F1 (F1.tops r1 g) q fun s w H2 H3 q2 F2 e2 r2 => k s ρ1 w H2 H3 q2 F2 (e1.trans e2) r2
  · exact q.elim
theorem de_cb (hc : CallR X (.builtin id) r) (hf : OpN X r f) (hm : X.mg x = none) (ha : DA X Γ (e :: es) ta) (hg : Gl X x := by rfl) (hv : bootBuiltins x = some (.builtin id) := by decide +kernel) (hn : x ≠ "__name__" := by decide) (hdb : (x == ("__debug__" : Str)) = false := by decide)
    (he : starEach (e :: es) X.env = (false, eval e X.env) :: starEach es X.env := by rfl) (hpl : (backTo pos (starEach es X.env)).any (·.1) = false := by rfl) : DE X Γ (.Call (.Name x p) (e :: es) [] pos) (dCB f ta) :=
  ⟨fun tm => peLe (pe_callB hc hg hm hv (ha.run tm) hn hdb he hpl) fun σ H Q h => cb_le hf h⟩
theorem de_ct (hc : CallR X (.type T) r) (hf : OpN X r f) (hm : X.mg x = none) (ha : DA X Γ (e :: es) ta) (hg : Gl X x := by rfl) (hv : bootBuiltins x = some (.type T) := by decide +kernel) (hn : x ≠ "__name__" := by decide) (hdb : (x == ("__debug__" : Str)) = false := by decide)
    (he : starEach (e :: es) X.env = (false, eval e X.env) :: starEach es X.env := by rfl) (hpl : (backTo pos (starEach es X.env)).any (·.1) = false := by rfl) : DE X Γ (.Call (.Name x p) (e :: es) [] pos) (dCB f ta) :=
  ⟨fun tm => peLe (pe_callTy hc hg hm hv (ha.run tm) hn hdb he hpl) fun σ H Q h => cb_le hf h⟩
end
/-! ### displays: the items are kept, so they are frozen -/
/-- each item's data; an own slot must not be kept by a display without being frozen: items come by dhE or from slots that hold data -/
def vals (ρ : Rho) : List Hd → Option (List D)
  | [] => some []
  | .val d :: hs => match vals ρ hs with
    | some ds => some (d :: ds)
    | none => none
  | .slot i :: hs => match ρ[i]? with
    | some (some (.v d)) => (match vals ρ hs with
      | some ds => some (d :: ds)
      | none => none)
    | _ => none
theorem Fit.vals {Γ : Fx} {K : PySem.W.Frag} {H0 : Hp} {σ : St} {ρ : Rho} {H : Hp} (F : Fit Γ K H0 σ ρ H) : ∀ {vs : List V} {hs : List Hd} {ds : List D}, HReps K H0 σ vs hs → vals ρ hs = some ds → Reps K H0 vs ds
  | _, _, _, .nil, g => by cases g; exact .nil
  | _, _, _, .cons (h := .val d) r t, g => by
    simp only [DL.vals] at g
    split at g
    · rename_i ds g2
      cases g
      exact .cons r (F.vals t g2)
    · cases g
  | _, _, _, .cons (h := .slot i) r t, g => by
    simp only [DL.vals] at g
    split at g
    · rename_i d q
      split at g
      · rename_i ds g2
        cases g
        obtain ⟨v, h1, h2⟩ := F.slots i _ q
        have r : σ[i]? = some (some _) := r
        rw [r] at h1
        cases h1
        exact .cons h2 (F.vals t g2)
      · cases g
    · cases g
def dTup (ta : DAT) : DT := fun ρ R => ta ρ fun hs ρ1 => match vals ρ1 hs with
  | some ds => ds.length ≤ sizeLine ∧ R (.v (.tup ds)) ρ1
  | none => False
def dLst (ta : DAT) : DT := fun ρ R => ta ρ fun hs ρ1 => match vals ρ1 hs with
  | some ds => ds.length ≤ sizeLine ∧ R (.o ds) ρ1
  | none => False
section
variable {X : Cx} {Γ : Fx} {es : List Expr} {ta : DAT} {pos : Pos}
theorem de_tup {x1} (h : DA X Γ es ta) : DE X Γ (.Tuple es x1 pos) (dTup ta) := ⟨fun tm => peLe (pe_tup (h.run tm)) fun σ H Q ⟨H0, ρ, R, F, t, k⟩ => ⟨H0, ρ, _, F, t, fun hs ρ1 vs H1 H' q F1 e1 r1 => by
  split at q
  · rename_i ds g
    have rr := F1.vals r1 g
    refine ⟨by rw [rr.length]; exact q.1, fun p hp => ?_⟩
    obtain ⟨F2, e2, r2⟩ := F1.allocT hp rr
    exact k _ ρ1 _ _ _ q.2 F2 (e1.trans e2) r2
  · exact q.elim⟩⟩
theorem de_lst (h : DA X Γ es ta) : DE X Γ (.List es pos) (dLst ta) := ⟨fun tm => peLe (pe_lst (h.run tm)) fun σ H Q ⟨H0, ρ, R, F, t, k⟩ => ⟨H0, ρ, _, F, t, fun hs ρ1 vs H1 H' q F1 e1 r1 => by
  split at q
  · rename_i ds g
    have rr := F1.vals r1 g
    refine ⟨by rw [rr.length]; exact q.1, fun p hp => ?_⟩
    obtain ⟨F2, r2⟩ := F1.allocO hp rr
    exact k _ ρ1 _ _ _ q.2 F2 e1 r2
  · exact q.elim⟩⟩
end
end DL

/-! DL3: operators, subscripts and builtins over data. -/
namespace DL
open PySem L2
section
variable {K : PySem.W.Frag} {H0 H : Hp} {v : V}
theorem Top.non (t : Top K H0 H v .non) : v = .non := by cases t.other (by simp); rfl
theorem Top.bl {b : Bool} (t : Top K H0 H v (.bl b)) : v = .bl b := by cases t.other (by simp); rfl
theorem Top.int {i : Int} (t : Top K H0 H v (.int i)) : v = .int i := by cases t.other (by simp); rfl
theorem Top.str {x : Str} (t : Top K H0 H v (.str x)) : v = .str x := by cases t.other (by simp); rfl
theorem Top.ty {n : TyC} (t : Top K H0 H v (.ty n)) : v = .ty n.nm := by
  cases t.other (by simp) with
  | ty n e => rw [e]
theorem Top.cls {C : Str} (t : Top K H0 H v (.cls C)) : v = .ref (He.ga K C) := by cases t.other (by simp); rfl
theorem Top.tup {ds : List D} (t : Top K H0 H v (.tup ds)) : ∃ p xs, v = .ref p ∧ SqT K H0 p xs ∧ Reps K H0 xs ds := by
  cases t.other (by simp) with
  | tup h r => exact ⟨_, _, rfl, h, r⟩
theorem Top.rol {ds : List D} (t : Top K H0 H v (.rol ds)) : ∃ p xs, v = .ref p ∧ SqL K H0 p xs ∧ Reps K H0 xs ds := by
  cases t.other (by simp) with
  | rol h r => exact ⟨_, _, rfl, h, r⟩
theorem Top.exc {C f : Str} {d : D} (t : Top K H0 H v (.exc C f d)) : ∃ p dx u, v = .ref p ∧ H0 p = some (exk p (.ref (He.ga K C)) (some dx)) ∧ H0 dx = some (.xd [(f, u)]) ∧ Rep K H0 u d := by
  cases t.other (by simp) with
  | exc h1 h2 r => exact ⟨_, _, _, rfl, h1, h2, r⟩
theorem Top.ins {C : Str} {gs : List (Str × D)} (t : Top K H0 H v (.ins C gs)) : ∃ p dx fs, v = .ref p ∧ H0 p = some (.ins (He.ga K C) dx fs) ∧ RepF K H0 fs gs := by
  cases t.other (by simp) with
  | ins h r => exact ⟨_, _, _, rfl, h, r⟩
end
theorem Reps.nil_iff {K : PySem.W.Frag} {H : Hp} {vs : List V} {ds : List D} (r : Reps K H vs ds) : vs = [] ↔ ds = [] := by
  cases r <;> simp

/-! ### arithmetic -/
def addD : D → D → (S → Prop) → Prop
  | .int i, .int j, R => R (.v (.int (i + j)))
  | .str i, .str j, R => i.length + j.length ≤ sizeLine ∧ R (.v (.str (i ++ j)))
  | .lst a, .lst b, R => a.length + b.length ≤ sizeLine ∧ R (.o (a ++ b))
  | .tup a, .tup b, R => a ≠ [] ∧ a.length + b.length ≤ sizeLine ∧ R (.v (.tup (a ++ b)))
  | _, _, _ => False
def subD : D → D → (S → Prop) → Prop
  | .int i, .int j, R => R (.v (.int (i - j)))
  | _, _, _ => False
def mulD : D → D → (S → Prop) → Prop
  | .int i, .int j, R => CMul i j ∧ R (.v (.int (i * j)))
  | .lst a, .int k, R => k < 2 ^ 63 ∧ -(2 ^ 63) ≤ k ∧ a.length * k.toNat ≤ sizeLine ∧ R (.o (List.replicate k.toNat a).flatten)
  | _, _, _ => False
def modD : D → D → (S → Prop) → Prop
  | .int i, .int j, R => 0 < j ∧ R (.v (.int (i % j)))
  | _, _, _ => False
def fdivD : D → D → (S → Prop) → Prop
  | .int i, .int j, R => CDiv i j ∧ R (.v (.int (i / j)))
  | _, _, _ => False
def powD : D → D → (S → Prop) → Prop
  | .int i, .int j, R => CPow i j ∧ R (.v (.int (i ^ j.toNat)))
  | _, _, _ => False
def cmpD (p : Int → Int → Bool) : D → D → (S → Prop) → Prop
  | .int i, .int j, R => R (.v (.bl (p i j)))
  | _, _, _ => False
abbrev ltD := cmpD fun i j => decide (i < j)
abbrev leD := cmpD fun i j => decide (i ≤ j)
abbrev gtD := cmpD fun i j => decide (j < i)
abbrev geD := cmpD fun i j => decide (j ≤ i)
theorem Reps.flatten {K : PySem.W.Frag} {H : Hp} {vs : List V} {ds : List D} (r : Reps K H vs ds) : ∀ n : Nat, Reps K H (List.replicate n vs).flatten (List.replicate n ds).flatten
  | 0 => .nil
  | n + 1 => by
    rw [List.replicate_succ, List.replicate_succ, List.flatten_cons, List.flatten_cons]
    exact r.append (r.flatten n)
section
variable {X : Cx} {Γ : Fx}
abbrev rAddA (K : PySem.W.Frag) : R2 := fun x y H Q => rI0 (fun i j => .int (i + j)) x y H Q ∨ (∃ i j, x = .str i ∧ y = .str j ∧ i.length + j.length ≤ sizeLine ∧ Q (.str (i ++ j)) H) ∨ rCat x y H Q ∨ rCatT K x y H Q
theorem or_add : OpR X (binaryOp .Add) (rAddA X.K) := OpR.or op_add (OpR.or op_add_str (OpR.or op_cat op_catT))
theorem o_add : Op2 X (rAddA X.K) addD := by
  intro Γ H0 σ ρ H x y a b R Q F ta tb h k
  unfold addD at h
  split at h
  · exact .inl ⟨_, _, ta.int, tb.int, k _ _ H0 H h F (Same.refl _) (Rep.int _)⟩
  · exact .inr (.inl ⟨_, _, ta.str, tb.str, h.1, k _ _ H0 H h.2 F (Same.refl _) (Rep.str _)⟩)
  · obtain ⟨p, xs, rfl, hx, rx⟩ := ta.lst F.sub
    obtain ⟨q, ys, rfl, hy, ry⟩ := tb.lst F.sub
    refine .inr (.inr (.inl ⟨_, _, xs, ys, rfl, rfl, hx, hy, by rw [rx.length, ry.length]; exact h.1, fun l hl => ?_⟩))
    obtain ⟨F1, r1⟩ := F.allocO hl (rx.append ry)
    exact k _ _ H0 _ h.2 F1 (Same.refl _) r1
  · obtain ⟨p, xs, rfl, hx, rx⟩ := ta.tup
    obtain ⟨q, ys, rfl, hy, ry⟩ := tb.tup
    refine .inr (.inr (.inr ⟨_, _, xs, ys, rfl, rfl, seqT F.sub hx, seqT F.sub hy, fun z => h.1 (rx.nil_iff.mp z), by rw [rx.length, ry.length]; exact h.2.1, fun z => ?_, fun z l hl => ?_⟩))
    · have e := ry.nil_iff.mp z
      have h2 := h.2.2
      rw [e, List.append_nil] at h2
      exact k _ _ H0 H h2 F (Same.refl _) (Rep.tup hx rx)
    · obtain ⟨F1, e1, r1⟩ := F.allocT hl (rx.append ry)
      exact k _ _ _ _ h.2.2 F1 e1 r1
  · exact h.elim
theorem o_int {C : Int → Int → Prop} {g : Int → Int → D} {gV : Int → Int → V} {f : D → D → (S → Prop) → Prop} (hr : ∀ i j H, Rep X.K H (gV i j) (g i j))
    (hf : ∀ a b R, f a b R → ∃ i j, a = .int i ∧ b = .int j ∧ C i j ∧ R (.v (g i j))) : Op2 X (rI C gV) f := by
  intro Γ H0 σ ρ H x y a b R Q F ta tb h k
  obtain ⟨i, j, rfl, rfl, c, q⟩ := hf a b R h
  exact ⟨_, _, ta.int, tb.int, c, k _ _ H0 H q F (Same.refl _) (hr _ _ _)⟩
theorem o_int0 {g : Int → Int → D} {gV : Int → Int → V} {f : D → D → (S → Prop) → Prop} (hr : ∀ i j H, Rep X.K H (gV i j) (g i j))
    (hf : ∀ a b R, f a b R → ∃ i j, a = .int i ∧ b = .int j ∧ R (.v (g i j))) : Op2 X (rI0 gV) f := by
  intro Γ H0 σ ρ H x y a b R Q F ta tb h k
  obtain ⟨i, j, rfl, rfl, q⟩ := hf a b R h
  exact ⟨_, _, ta.int, tb.int, k _ _ H0 H q F (Same.refl _) (hr _ _ _)⟩
theorem o_sub : Op2 X (rI0 fun i j => .int (i - j)) subD := o_int0 (g := fun i j => .int (i - j)) (fun _ _ _ => .int _) fun a b R h => by
  unfold subD at h; split at h
  · exact ⟨_, _, rfl, rfl, h⟩
  · exact h.elim
theorem o_mod : Op2 X (rI (fun _ j => 0 < j) fun i j => .int (i % j)) modD := o_int (g := fun i j => .int (i % j)) (fun _ _ _ => .int _) fun a b R h => by
  unfold modD at h; split at h
  · exact ⟨_, _, rfl, rfl, h.1, h.2⟩
  · exact h.elim
theorem o_fdiv : Op2 X (rI CDiv fun i j => .int (i / j)) fdivD := o_int (g := fun i j => .int (i / j)) (fun _ _ _ => .int _) fun a b R h => by
  unfold fdivD at h; split at h
  · exact ⟨_, _, rfl, rfl, h.1, h.2⟩
  · exact h.elim
theorem o_pow : Op2 X (rI CPow fun i j => .int (i ^ j.toNat)) powD := o_int (g := fun i j => .int (i ^ j.toNat)) (fun _ _ _ => .int _) fun a b R h => by
  unfold powD at h; split at h
  · exact ⟨_, _, rfl, rfl, h.1, h.2⟩
  · exact h.elim
theorem o_cmp {p : Int → Int → Bool} : Op2 X (rI0 fun i j => .bl (p i j)) (cmpD p) := o_int0 (g := fun i j => .bl (p i j)) (fun _ _ _ => .bl _) fun a b R h => by
  unfold cmpD at h; split at h
  · exact ⟨_, _, rfl, rfl, h⟩
  · exact h.elim
abbrev rMulA : R2 := fun x y H Q => rI CMul (fun i j => .int (i * j)) x y H Q ∨ rRep x y H Q
theorem or_mul : OpR X (binaryOp .Mult) rMulA := OpR.or op_mul op_rep
theorem o_mul : Op2 X rMulA mulD := by
  intro Γ H0 σ ρ H x y a b R Q F ta tb h k
  unfold mulD at h
  split at h
  · exact .inl ⟨_, _, ta.int, tb.int, h.1, k _ _ H0 H h.2 F (Same.refl _) (Rep.int _)⟩
  · obtain ⟨p, xs, rfl, hx, rx⟩ := ta.lst F.sub
    refine .inr ⟨_, _, xs, rfl, tb.int, hx, h.2.1, h.1, by rw [rx.length]; exact h.2.2.1, fun l hl => ?_⟩
    obtain ⟨F1, r1⟩ := F.allocO hl (rx.flatten _)
    exact k _ _ H0 _ h.2.2.2 F1 (Same.refl _) r1
  · exact h.elim
def negD : D → (S → Prop) → Prop
  | .int i, R => R (.v (.int (-i)))
  | _, _ => False
end
/-! ### == of data without instances -/
mutual
def toP : D → PyData
  | .bl b => .bool b
  | .int i => .int i
  | .str x => .str x
  | .lst ds => .list (toPs ds)
  | .rol ds => .list (toPs ds)
  | .tup ds => .tuple (toPs ds)
  | .non => .none
  | .ins _ _ => .none
  | .exc _ _ _ => .none
  | .ty _ => .none
  | .cls _ => .none
  | .adr _ => .none
def toPs : List D → List PyData
  | [] => []
  | d :: ds => toP d :: toPs ds
end
mutual
def plainD : D → Bool
  | .bl _ => true
  | .int _ => true
  | .str _ => true
  | .lst ds => plainDs ds
  | .rol ds => plainDs ds
  | .tup ds => plainDs ds
  | .non => true
  | .ins _ _ => false
  | .exc _ _ _ => false
  | .ty _ => false
  | .cls _ => false
  | .adr _ => false
def plainDs : List D → Bool
  | [] => true
  | d :: ds => plainD d && plainDs ds
end
mutual
theorem rep_dp {K : PySem.W.Frag} {H : Hp} : ∀ {v : V} {d : D}, Rep K H v d → plainD d = true → Dp K H v (toP d)
  | _, _, .non, _ => by rw [toP]; exact .non
  | _, _, .bl b, _ => by rw [toP]; exact .bl b
  | _, _, .int i, _ => by rw [toP]; exact .int i
  | _, _, .str x, _ => by rw [toP]; exact .str x
  | _, _, .lst h r, e => by rw [toP]; exact .lst (SqL.of h) (reps_dp r (by rw [plainD] at e; exact e))
  | _, _, .rol h r, e => by rw [toP]; exact .lst h (reps_dp r (by rw [plainD] at e; exact e))
  | _, _, .tup h r, e => by rw [toP]; exact .tup h (reps_dp r (by rw [plainD] at e; exact e))
  | _, _, .ins h r, e => by rw [plainD] at e; cases e
  | _, _, .exc h1 h2 r, e => by rw [plainD] at e; cases e
  | _, _, .ty n _, e => by rw [plainD] at e; cases e
  | _, _, .cls C, e => by rw [plainD] at e; cases e
  | _, _, .adr, e => by rw [plainD] at e; cases e
theorem reps_dp {K : PySem.W.Frag} {H : Hp} : ∀ {vs : List V} {ds : List D}, Reps K H vs ds → plainDs ds = true → DpAll K H vs (toPs ds)
  | _, _, .nil, _ => by rw [toPs]; exact .nil
  | _, _, .cons r t, e => by
    rw [plainDs, Bool.and_eq_true] at e
    rw [toPs]
    exact .cons (rep_dp r e.1) (reps_dp t e.2)
end
/-- data that == may be asked of -/
def okD (d : D) : Bool := plainD d && SeqAt.shaped (toP d)
def deqv (a b : D) : Bool := PyData.eqv (toP a) (toP b)
def eqD (a b : D) (R : S → Prop) : Prop := okD a = true ∧ okD b = true ∧ R (.v (.bl (deqv a b)))
def neD (a b : D) (R : S → Prop) : Prop := okD a = true ∧ okD b = true ∧ R (.v (.bl (!deqv a b)))
section
variable {X : Cx} {Γ : Fx}
theorem o_eq : Op2 X (rEqD X.K) eqD := by
  intro Γ H0 σ ρ H x y a b R Q F ta tb h k
  obtain ⟨h1, h2, h3⟩ := h
  rw [okD, Bool.and_eq_true] at h1 h2
  exact ⟨_, _, rep_dp (ta.now F.sub) h1.1, rep_dp (tb.now F.sub) h2.1, h1.2, h2.2, k _ _ H0 H h3 F (Same.refl _) (Rep.bl _)⟩
theorem o_ne : Op2 X (rNeD X.K) neD := by
  intro Γ H0 σ ρ H x y a b R Q F ta tb h k
  obtain ⟨h1, h2, h3⟩ := h
  rw [okD, Bool.and_eq_true] at h1 h2
  exact ⟨_, _, rep_dp (ta.now F.sub) h1.1, rep_dp (tb.now F.sub) h2.1, h1.2, h2.2, k _ _ H0 H h3 F (Same.refl _) (Rep.bl _)⟩
/-- is None -/
def isN : D → Bool
  | .non => true
  | _ => false
def isND (a b : D) (R : S → Prop) : Prop := match b with
  | .non => R (.v (.bl (isN a)))
  | _ => False
def notND (a b : D) (R : S → Prop) : Prop := match b with
  | .non => R (.v (.bl (!isN a)))
  | _ => False
theorem top_non {K : PySem.W.Frag} {H0 H : Hp} {x : V} {a : D} (t : Top K H0 H x a) : decide (x = .non) = isN a := by
  cases t with
  | rep r => cases r <;> rfl
  | own h r => rfl
theorem o_isN : Op2 X (fun x y H Q => y = .non ∧ Q (.bl (decide (x = .non))) H) isND := by
  intro Γ H0 σ ρ H x y a b R Q F ta tb h k
  unfold isND at h
  split at h
  · refine ⟨tb.non, ?_⟩
    rw [top_non ta]
    exact k _ _ H0 H h F (Same.refl _) (Rep.bl _)
  · exact h.elim
theorem o_notN : Op2 X (fun x y H Q => y = .non ∧ Q (.bl (!decide (x = .non))) H) notND := by
  intro Γ H0 σ ρ H x y a b R Q F ta tb h k
  unfold notND at h
  split at h
  · refine ⟨tb.non, ?_⟩
    have e : (!decide (x = .non)) = (!isN a) := by
      rw [top_non ta]
    rw [e]
    exact k _ _ H0 H h F (Same.refl _) (Rep.bl _)
  · exact h.elim
/-! ### subscripts -/
def ixD : D → D → (S → Prop) → Prop
  | .lst ds, .int i, R => (match atI ds i with
    | some d => R (.v d)
    | none => False)
  | .rol ds, .int i, R => (match atI ds i with
    | some d => R (.v d)
    | none => False)
  | .tup ds, .int i, R => (match atI ds i with
    | some d => R (.v d)
    | none => False)
  | .str z, .int i, R => (match atI z.cps.toList i with
    | some c => z.length ≤ sizeLine ∧ R (.v (.str ⟨#[c]⟩))
    | none => False)
  | _, _, _ => False
theorem Reps.atI {K : PySem.W.Frag} {H : Hp} {vs : List V} {ds : List D} {i : Int} {d : D} (r : Reps K H vs ds) (h : L2.atI ds i = some d) : ∃ v, L2.atI vs i = some v ∧ Rep K H v d := by
  unfold L2.atI at h ⊢
  rw [r.length]
  cases e : ixN ds.length i with
  | none => rw [e] at h; cases h
  | some j =>
    rw [e] at h
    exact r.get h
theorem o_ix : Op2 X (rIx X.K) ixD := by
  intro Γ H0 σ ρ H x y a b R Q F ta tb h k
  unfold ixD at h
  split at h
  · obtain ⟨p, xs, rfl, hx, rx⟩ := ta.lst F.sub
    split at h
    · rename_i d e
      obtain ⟨v, e1, r1⟩ := rx.atI e
      exact .inl ⟨p, xs, _, v, rfl, tb.int, SqL.of hx, e1, k _ _ H0 H h F (Same.refl _) r1⟩
    · exact h.elim
  · obtain ⟨p, xs, rfl, hx, rx⟩ := ta.rol
    split at h
    · rename_i d e
      obtain ⟨v, e1, r1⟩ := rx.atI e
      exact .inl ⟨p, xs, _, v, rfl, tb.int, F.sub.seq hx, e1, k _ _ H0 H h F (Same.refl _) r1⟩
    · exact h.elim
  · obtain ⟨p, xs, rfl, hx, rx⟩ := ta.tup
    split at h
    · rename_i d e
      obtain ⟨v, e1, r1⟩ := rx.atI e
      exact .inr (.inl ⟨p, xs, _, v, rfl, tb.int, seqT F.sub hx, e1, k _ _ H0 H h F (Same.refl _) r1⟩)
    · exact h.elim
  · split at h
    · rename_i c e
      exact .inr (.inr ⟨_, _, c, ta.str, tb.int, h.1, e, k _ _ H0 H h.2 F (Same.refl _) (Rep.str _)⟩)
    · exact h.elim
  · exact h.elim
end
/-! ### builtins -/
def lenD : List D → (S → Prop) → Prop
  | [.lst ds], R => R (.v (.int ds.length))
  | [.rol ds], R => R (.v (.int ds.length))
  | [.tup ds], R => R (.v (.int ds.length))
  | [.str z], R => z.length ≤ sizeLine ∧ R (.v (.int z.length))
  | _, _ => False
def absD : List D → (S → Prop) → Prop
  | [.int i], R => R (.v (.int (if i < 0 then -i else i)))
  | _, _ => False
def max2D : List D → (S → Prop) → Prop
  | [.int i, .int j], R => R (.v (.int (if j > i then j else i)))
  | _, _ => False
def min2D : List D → (S → Prop) → Prop
  | [.int i, .int j], R => R (.v (.int (if j < i then j else i)))
  | _, _ => False
def intD : List D → (S → Prop) → Prop
  | [.int i], R => R (.v (.int i))
  | [.bl b], R => R (.v (.int (if b then 1 else 0)))
  | _, _ => False
def listD : List D → (S → Prop) → Prop
  | [.lst ds], R => R (.o ds)
  | [.rol ds], R => R (.o ds)
  | [.tup ds], R => R (.o ds)
  | _, _ => False
def tupleD : List D → (S → Prop) → Prop
  | [.lst ds], R => R (.v (.tup ds))
  | [.rol ds], R => R (.v (.tup ds))
  | [.tup ds], R => R (.v (.tup ds))
  | _, _ => False
/-- a list of truth values -/
def blsOf : List D → Option (List Bool)
  | [] => some []
  | .bl b :: ds => (match blsOf ds with
    | some bs => some (b :: bs)
    | none => none)
  | _ :: _ => none
def intsOf : List D → Option (List Int)
  | [] => some []
  | .int b :: ds => (match intsOf ds with
    | some bs => some (b :: bs)
    | none => none)
  | _ :: _ => none
def allD : List D → (S → Prop) → Prop
  | [.lst ds], R => (match blsOf ds with
    | some bs => R (.v (.bl (bs.all id)))
    | none => False)
  | _, _ => False
def anyD : List D → (S → Prop) → Prop
  | [.lst ds], R => (match blsOf ds with
    | some bs => R (.v (.bl (bs.any id)))
    | none => False)
  | _, _ => False
def sumD : List D → (S → Prop) → Prop
  | [.lst ds], R => (match intsOf ds with
    | some bs => R (.v (.int bs.sum))
    | none => False)
  | _, _ => False
def divmodD : List D → (S → Prop) → Prop
  | [.int i, .int j], R => CDiv i j ∧ R (.v (.tup [.int (i / j), .int (i % j)]))
  | _, _ => False
theorem Reps.bls {K : PySem.W.Frag} {H : Hp} : ∀ {vs : List V} {ds : List D} {bs : List Bool}, Reps K H vs ds → blsOf ds = some bs → vs = bs.map V.bl
  | _, _, _, .nil, e => by cases e; rfl
  | _, _, bs, .cons (ds := ds) r t, e => by
    cases r with
    | bl b =>
      simp only [blsOf] at e
      split at e
      · rename_i cs q
        cases e
        rw [List.map_cons, Reps.bls t q]
      · cases e
    | _ => cases e
theorem Reps.ints {K : PySem.W.Frag} {H : Hp} : ∀ {vs : List V} {ds : List D} {bs : List Int}, Reps K H vs ds → intsOf ds = some bs → vs = bs.map V.int
  | _, _, _, .nil, e => by cases e; rfl
  | _, _, bs, .cons (ds := ds) r t, e => by
    cases r with
    | int b =>
      simp only [intsOf] at e
      split at e
      · rename_i cs q
        cases e
        rw [List.map_cons, Reps.ints t q]
      · cases e
    | _ => cases e
section
variable {K : PySem.W.Frag} {H0 H : Hp} {vs : List V}
theorem Tops.one {d : D} (t : Tops K H0 H vs [d]) : ∃ v, vs = [v] ∧ Top K H0 H v d := by
  cases t with
  | cons r t => cases t; exact ⟨_, rfl, r⟩
theorem Tops.two {d e : D} (t : Tops K H0 H vs [d, e]) : ∃ v u, vs = [v, u] ∧ Top K H0 H v d ∧ Top K H0 H u e := by
  cases t with
  | cons r t => cases t with
    | cons r2 t => cases t; exact ⟨_, _, rfl, r, r2⟩
end
section
variable {X : Cx} {Γ : Fx}
theorem o_len : OpN X (fun xs H Q => ∃ x n, xs = [x] ∧ LenV X.K x H n ∧ Q (.int n) H) lenD := by
  intro Γ H0 σ ρ H xs as R Q F t h k
  unfold lenD at h
  split at h
  · obtain ⟨v, rfl, t1⟩ := t.one
    obtain ⟨p, ys, rfl, hx, rx⟩ := t1.lst F.sub
    exact ⟨_, ys.length, rfl, .inl ⟨ys, SqL.of hx, rfl⟩, k _ _ H0 H h F (Same.refl _) (by rw [rx.length]; exact Rep.int _)⟩
  · obtain ⟨v, rfl, t1⟩ := t.one
    obtain ⟨p, ys, rfl, hx, rx⟩ := t1.rol
    exact ⟨_, ys.length, rfl, .inl ⟨ys, F.sub.seq hx, rfl⟩, k _ _ H0 H h F (Same.refl _) (by rw [rx.length]; exact Rep.int _)⟩
  · obtain ⟨v, rfl, t1⟩ := t.one
    obtain ⟨p, ys, rfl, hx, rx⟩ := t1.tup
    exact ⟨_, ys.length, rfl, .inr ⟨ys, seqT F.sub hx, rfl⟩, k _ _ H0 H h F (Same.refl _) (by rw [rx.length]; exact Rep.int _)⟩
  · obtain ⟨v, rfl, t1⟩ := t.one
    cases t1.str
    exact ⟨_, _, rfl, ⟨h.1, rfl⟩, k _ _ H0 H h.2 F (Same.refl _) (Rep.int _)⟩
  · exact h.elim
theorem o_abs : OpN X (fun xs H Q => ∃ i, xs = [.int i] ∧ Q (.int (if i < 0 then -i else i)) H) absD := by
  intro Γ H0 σ ρ H xs as R Q F t h k
  unfold absD at h
  split at h
  · obtain ⟨v, rfl, t1⟩ := t.one
    cases t1.int
    exact ⟨_, rfl, k _ _ H0 H h F (Same.refl _) (Rep.int _)⟩
  · exact h.elim
theorem o_max2 : OpN X (fun xs H Q => ∃ i j, xs = [.int i, .int j] ∧ Q (.int (if j > i then j else i)) H) max2D := by
  intro Γ H0 σ ρ H xs as R Q F t h k
  unfold max2D at h
  split at h
  · obtain ⟨v, u, rfl, t1, t2⟩ := t.two
    cases t1.int
    cases t2.int
    exact ⟨_, _, rfl, k _ _ H0 H h F (Same.refl _) (Rep.int _)⟩
  · exact h.elim
theorem o_min2 : OpN X (fun xs H Q => ∃ i j, xs = [.int i, .int j] ∧ Q (.int (if j < i then j else i)) H) min2D := by
  intro Γ H0 σ ρ H xs as R Q F t h k
  unfold min2D at h
  split at h
  · obtain ⟨v, u, rfl, t1, t2⟩ := t.two
    cases t1.int
    cases t2.int
    exact ⟨_, _, rfl, k _ _ H0 H h F (Same.refl _) (Rep.int _)⟩
  · exact h.elim
theorem o_int1 : OpN X (fun xs H Q => (∃ i, xs = [.int i] ∧ Q (.int i) H) ∨ ∃ k, xs = [.bl k] ∧ Q (.int (if k then 1 else 0)) H) intD := by
  intro Γ H0 σ ρ H xs as R Q F t h k
  unfold intD at h
  split at h
  · obtain ⟨v, rfl, t1⟩ := t.one
    cases t1.int
    exact .inl ⟨_, rfl, k _ _ H0 H h F (Same.refl _) (Rep.int _)⟩
  · obtain ⟨v, rfl, t1⟩ := t.one
    cases t1.bl
    exact .inr ⟨_, rfl, k _ _ H0 H h F (Same.refl _) (Rep.int _)⟩
  · exact h.elim
theorem o_all : OpN X (rAll X.K) allD := by
  intro Γ H0 σ ρ H xs as R Q F t h k
  unfold allD at h
  split at h
  · obtain ⟨v, rfl, t1⟩ := t.one
    obtain ⟨p, ys, rfl, hx, rx⟩ := t1.lst F.sub
    split at h
    · rename_i bs e
      have e2 := rx.bls e
      subst e2
      exact ⟨_, bs, rfl, SqL.of hx, k _ _ H0 H h F (Same.refl _) (Rep.bl _)⟩
    · exact h.elim
  · exact h.elim
/-! ### isinstance -/
/-- a value's class -/
def tyC : D → Option TyC
  | .non => some .none
  | .bl _ => some .bool
  | .int _ => some .int
  | .str _ => some .str
  | .lst _ => some .list
  | .tup _ => some .tuple
  | _ => none
def isiB : TyC → TyC → Bool
  | .bool, .bool => true
  | .bool, .int => true
  | .int, .int => true
  | .str, .str => true
  | .list, .list => true
  | .tuple, .tuple => true
  | _, _ => false
def TyC.cl : TyC → Bool
  | .none => false
  | _ => true
theorem kitB_ok (a b : TyC) (h : b.cl = true) : kitB a.nm b.nm = some (isiB a b) := by
  cases b with
  | none => cases h
  | bool => cases a <;> decide +kernel
  | int => cases a <;> decide +kernel
  | str => cases a <;> decide +kernel
  | list => cases a <;> decide +kernel
  | tuple => cases a <;> decide +kernel
/-- isinstance(x, T): a class of Python's own -/
def isiD : List D → (S → Prop) → Prop
  | [x, .ty b], R => b.cl = true ∧ (match tyC x with
    | some a => R (.v (.bl (isiB a b)))
    | none => False)
  | _, _ => False
def isiTD (ns : List TyC) (x : D) (R : S → Prop) : Prop := ns.all TyC.cl = true ∧ match tyC x with
  | some a => R (.v (.bl (ns.any (isiB a))))
  | none => False
theorem seqT_ty {K : PySem.W.Frag} {H : Hp} {p : Addr} {xs : List V} (h : SqT K H p xs) : TyX K H (.ref p) (.type "tuple") := by
  rcases h with (h | ⟨o, h⟩) | ⟨o, its, n, h, c, _⟩
  · exact .base (.tup h)
  · exact .fTuple h
  · exact .kTuple h c
theorem tyX_of {K : PySem.W.Frag} {H0 H : Hp} {v : V} {d : D} {c : TyC} (e : Same H0 H) (t : Top K H0 H v d) (h : tyC d = some c) : TyX K H v (.type c.nm) := by
  cases t with
  | own hp r => cases h; exact .base (.lst hp)
  | rep r =>
    cases r with
    | non => cases h; exact .base .non
    | bl b => cases h; exact .base (.bl b)
    | int i => cases h; exact .base (.int i)
    | str x => cases h; exact .base (.str x)
    | lst hp r => cases h; exact .base (.lst (e _ _ hp))
    | tup hp r => cases h; exact seqT_ty (seqT e hp)
    | rol => cases h
    | ins => cases h
    | exc => cases h
    | ty => cases h
    | cls => cases h
    | adr => cases h
theorem kitAny_tys {K : PySem.W.Frag} {a : TyC} : ∀ {ns : List TyC}, ns.all TyC.cl = true → PySem.W.kitAny K (.type a.nm) (ns.map fun n => Value.type n.nm) = some (ns.any (isiB a))
  | [], _ => kitAny_nil
  | b :: ns, h => by
    rw [List.all_cons, Bool.and_eq_true] at h
    have h2 := kitAny_tys (K := K) (a := a) (ns := ns) h.2
    refine kitAny_cons (kit_ty (kitB_ok a b h.1)) (fun z => ?_) (fun z => ?_)
    · rw [h2, List.any_cons, z, Bool.false_or]
    · rw [List.any_cons, z, Bool.true_or]
theorem paired_tys : ∀ ns : List TyC, Paired ClsV (ns.map fun n => V.ty n.nm) (ns.map fun n => Value.type n.nm)
  | [] => .nil
  | n :: ns => .cons (.ty n.nm) (paired_tys ns)
theorem o_isi : OpN X (rIsi X.K) isiD := by
  intro Γ H0 σ ρ H xs as R Q F t h k
  unfold isiD at h
  split at h
  · obtain ⟨v, u, rfl, t1, t2⟩ := t.two
    cases t2.ty
    obtain ⟨h1, h2⟩ := h
    split at h2
    · rename_i a q
      exact ⟨_, _, _, _, _, rfl, .ty _, tyX_of F.sub t1 q, kit_ty (kitB_ok _ _ h1), k _ _ H0 H h2 F (Same.refl _) (Rep.bl _)⟩
    · exact h2.elim
  · exact h.elim
/-- isinstance(x, (T1, T2, ..)) -/
theorem de_isiT {a : Expr} {es : List Expr} {ta : DHT} {tl : TA} {ns : List TyC} {p pos tp : Pos} {x1} (hm : X.mg "isinstance" = none) (ha : DH X Γ a ta) (hes : PA X es tl) (htl : ∀ σ H Q, Q (ns.map fun n => V.ty n.nm) H → tl σ H Q) (hl : ns.length ≤ sizeLine)
    (hg : Gl X "isinstance" := by rfl) (he : starEach (a :: [Expr.Tuple es x1 tp]) X.env = (false, eval a X.env) :: starEach [Expr.Tuple es x1 tp] X.env := by rfl) (he2 : starEach [Expr.Tuple es x1 tp] X.env = (false, eval (Expr.Tuple es x1 tp) X.env) :: starEach [] X.env := by rfl)
    (hpl : (backTo pos (starEach [Expr.Tuple es x1 tp] X.env)).any (·.1) = false := by rfl) :
    DE X Γ (.Call (.Name "isinstance" p) [a, .Tuple es x1 tp] [] pos) (dUn (isiTD ns) ta) :=
  ⟨fun tm => peLe (pe_callB call_isiT hg hm (by decide +kernel) (pa_cons (ha.run tm) (pa_cons (pe_tup hes) pa_nil he2) he) (by decide) (by decide) he hpl) fun σ H Q ⟨H0, ρ, R, F, t, k⟩ => ⟨H0, ρ, _, F, t, fun h ρ1 v H1 H' q F1 e1 r1 => by
    refine htl _ _ _ ⟨by rw [List.length_map]; exact hl, fun tpa htp => ?_⟩
    split at q
    · rename_i x g
      obtain ⟨F2, e2⟩ := F1.allocF (o := .tup (ns.map fun n => V.ty n.nm)) htp
      obtain ⟨q1, q2⟩ := q
      split at q2
      · rename_i c qc
        exact ⟨v, tpa, ns.map (fun n => V.ty n.nm), _, ns.map (fun n => Value.type n.nm), _, rfl, upd_same, paired_tys ns, tyX_of F2.sub (F2.top (r1.mono e2) g) qc, kitAny_tys q1, k _ ρ1 _ _ _ q2 F2 (e1.trans e2) (Rep.bl _)⟩
      · exact q2.elim
    · exact q.elim⟩⟩
end
end DL

/-! DL4: statements over data. -/
namespace DL
open PySem L2

structure DEnds where
  nx : Rho → Prop
  rt : S → Rho → Prop
  bk : Rho → Prop := fun _ => False
  ct : Rho → Prop := fun _ => False
abbrev DST := DEnds → Rho → Prop
/-- a value that is handed back: data, or a list that is new -/
def RRet (Γ : Fx) (K : PySem.W.Frag) (H0 H : Hp) (v : V) : S → Prop
  | .v d => Rep K H0 v d
  | .o ds => ∃ p, v = .ref p ∧ OwnAt K H0 H p ds ∧ Γ.Hs p = none
  | .m _ => False
  | .x x F => XAt K H0 H v x F ∧ ∀ a ∈ F, Γ.Hs a = none
theorem RRep.ret {Γ : Fx} {K : PySem.W.Frag} {H0 : Hp} {σ : St} {ρ : Rho} {H : Hp} {v : V} {r : S} (h : RRep Γ K H0 σ ρ H v r) : RRet Γ K H0 H v r := by
  cases r with
  | v d => exact h
  | o ds => obtain ⟨p, h1, h2, h3, _⟩ := h; exact ⟨p, h1, h2, h3⟩
  | m ds => exact h
  | x x F => exact ⟨h.1, fun a ha => (h.2 a ha).1⟩
/-- the ends agree; B: what was frozen at first -/
structure EndsOk (Γ : Fx) (K : PySem.W.Frag) (B : Hp) (D : Ends) (De : DEnds) : Prop where
  nx : ∀ H0 σ ρ H, De.nx ρ → Fit Γ K H0 σ ρ H → Same B H0 → D.nx σ H
  rt : ∀ H0 σ ρ H v r, De.rt r ρ → Fit Γ K H0 σ ρ H → Same B H0 → RRet Γ K H0 H v r → D.rt v H
  bk : ∀ H0 σ ρ H, De.bk ρ → Fit Γ K H0 σ ρ H → Same B H0 → D.bk σ H
  ct : ∀ H0 σ ρ H, De.ct ρ → Fit Γ K H0 σ ρ H → Same B H0 → D.ct σ H
theorem EndsOk.up {Γ : Fx} {K : PySem.W.Frag} {B B' : Hp} {D : Ends} {De : DEnds} (E : EndsOk Γ K B D De) (e : Same B B') : EndsOk Γ K B' D De :=
  ⟨fun H0 σ ρ H q F z => E.nx H0 σ ρ H q F (e.trans z), fun H0 σ ρ H v r q F z => E.rt H0 σ ρ H v r q F (e.trans z), fun H0 σ ρ H q F z => E.bk H0 σ ρ H q F (e.trans z), fun H0 σ ρ H q F z => E.ct H0 σ ρ H q F (e.trans z)⟩
def LS (Γ : Fx) (K : PySem.W.Frag) (t : DST) : TS := fun D σ H => ∃ H0 ρ De, Fit Γ K H0 σ ρ H ∧ t De ρ ∧ EndsOk Γ K H0 D De
structure DS (X : Cx) (Γ : Fx) (st : Stmt) (t : DST) : Prop where
  run : ∀ tm : List (Addr × List V), PS X st (LS (Γ.at []) X.K t)
structure DSs (X : Cx) (Γ : Fx) (st : List Stmt) (t : DST) : Prop where
  run : ∀ tm : List (Addr × List V), PSs X st (LS (Γ.at []) X.K t)
theorem psLe {X : Cx} {st : Stmt} {t t' : TS} (h : PS X st t) (w : ∀ D σ H, t' D σ H → t D σ H) : PS X st t' := ⟨fun pins s σ H D I q => h.run pins s σ H D I (w D σ H q)⟩
theorem pssLe {X : Cx} {st : List Stmt} {t t' : TS} (h : PSs X st t) (w : ∀ D σ H, t' D σ H → t D σ H) : PSs X st t' := ⟨fun pins s σ H D I q => h.run pins s σ H D I (w D σ H q)⟩
def dNext : DST := fun De ρ => De.nx ρ
def dSeq (t u : DST) : DST := fun De ρ => t { De with nx := u De } ρ
section
variable {X : Cx} {Γ : Fx} {st : Stmt} {rest a b : List Stmt} {t u : DST} {pos : Pos} {e c : Expr}
theorem dss_nil : DSs X Γ [] dNext := ⟨fun tm => pssLe pss_nil fun D σ H ⟨H0, ρ, De, F, t, E⟩ => E.nx H0 σ ρ H t F (Same.refl _)⟩
theorem dss_cons (h1 : DS X Γ st t) (h2 : DSs X Γ rest u) : DSs X Γ (st :: rest) (dSeq t u) := ⟨fun tm => pssLe (pss_cons (h1.run []) (h2.run [])) fun D σ H ⟨H0, ρ, De, F, t, E⟩ =>
  ⟨H0, ρ, _, F, t, ⟨fun H1 σ1 ρ1 H' q F1 e1 => ⟨H1, ρ1, De, F1, q, E.up e1⟩, E.rt, E.bk, E.ct⟩⟩⟩
theorem dss_one (h1 : DS X Γ st t) : DSs X Γ [st] t := ⟨fun tm => pss_one (h1.run [])⟩
def dBreak : DST := fun De ρ => De.bk ρ
def dCont : DST := fun De ρ => De.ct ρ
def dRet (t : DT) : DST := fun De ρ => t ρ De.rt
theorem ds_ret {t : DT} (h : DE X Γ e t) : DS X Γ (.Return (some e) pos) (dRet t) := ⟨fun tm => psLe (ps_ret (h.run [])) fun D σ H ⟨H0, ρ, De, F, t, E⟩ =>
  ⟨H0, ρ, _, F, t, fun r ρ1 v H1 H' q F1 e1 rr => E.rt H1 σ ρ1 H' v r q F1 e1 rr.ret⟩⟩
def dRetN : DST := fun De ρ => De.rt (.v .non) ρ
/-- return x, x a slot: an own list goes out as it is -/
def dRetV (i : Nat) : DST := fun De ρ => match ρ[i]? with
  | some (some (.v d)) => De.rt (.v d) ρ
  | some (some (.o ds)) => De.rt (.o ds) ρ
  | _ => False
theorem ds_retV {i : Nat} (h : PE X e (tVar i)) : DS X Γ (.Return (some e) pos) (dRetV i) := ⟨fun tm => psLe (ps_ret h) fun D σ H ⟨H0, ρ, De, F, t, E⟩ => by
  simp only [dRetV] at t
  split at t
  · rename_i d q
    obtain ⟨v, h1, h2⟩ := F.slots i _ q
    exact ⟨v, h1, E.rt H0 σ ρ H v _ t F (Same.refl _) h2⟩
  · rename_i ds q
    obtain ⟨v, h1, p, rfl, h2⟩ := F.slots i _ q
    exact ⟨_, h1, E.rt H0 σ ρ H _ _ t F (Same.refl _) ⟨p, rfl, h2, F.loc i ds p q h1⟩⟩
  · exact t.elim⟩
def dDrop (t : DT) : DST := fun De ρ => t ρ fun _ ρ1 => De.nx ρ1
def dIfS (c : DTT) (t u : DST) : DST := fun De ρ => c ρ fun b ρ1 => IfB b (t De ρ1) (u De ρ1)
theorem ds_if {tc : DTT} (hc : DTs X Γ c tc) (ha : DSs X Γ a t) (hb : DSs X Γ b u) : DS X Γ (.If c a b pos) (dIfS tc t u) := ⟨fun tm => psLe (ps_if (hc.run []) (ha.run []) (hb.run [])) fun D σ H ⟨H0, ρ, De, F, t, E⟩ =>
  ⟨H0, ρ, _, F, t, fun b ρ1 H1 H' q F1 e1 => by
    cases b with
    | true =>
      rw [if_pos rfl]; replace q := q.tt rfl
      exact ⟨H1, ρ1, De, F1, q, E.up e1⟩
    | false =>
      rw [if_neg Bool.false_ne_true]; replace q := q.ff rfl
      exact ⟨H1, ρ1, De, F1, q, E.up e1⟩⟩⟩
end

/-! ### stores to names -/
def setR (i : Nat) (r : S) (ρ : Rho) (k : Rho → Prop) : Prop := match ρ[i]? with
  | some (some (.m _)) => False
  | some _ => k (ρ.set i (some r))
  | none => False
theorem Fit.set {Γ : Fx} {K : PySem.W.Frag} {H0 : Hp} {σ : St} {ρ : Rho} {H : Hp} {i : Nat} {v : V} {r : S} (F : Fit Γ K H0 σ ρ H) (rr : RRep Γ K H0 σ ρ H v r) (hi : i < ρ.length) (hm : ∀ ds, ρ[i]? ≠ some (some (.m ds))) :
    Fit Γ K H0 (σ.set i (some v)) (ρ.set i (some r)) H := by
  have hi2 : i < σ.length := by rw [← F.len]; exact hi
  have getσ : ∀ j u, (σ.set i (some v))[j]? = some (some u) → (i = j ∧ u = v) ∨ (i ≠ j ∧ σ[j]? = some (some u)) := fun j u h => by
    by_cases q : i = j
    · subst q
      rw [List.getElem?_set_self hi2] at h
      cases h
      exact .inl ⟨rfl, rfl⟩
    · rw [List.getElem?_set_ne q] at h
      exact .inr ⟨q, h⟩
  have getρ : ∀ j s, (ρ.set i (some r))[j]? = some (some s) → (i = j ∧ s = r) ∨ (i ≠ j ∧ ρ[j]? = some (some s)) := fun j s h => by
    by_cases q : i = j
    · subst q
      rw [List.getElem?_set_self hi] at h
      cases h
      exact .inl ⟨rfl, rfl⟩
    · rw [List.getElem?_set_ne q] at h
      exact .inr ⟨q, h⟩
  have nm : ∀ ds, r ≠ .m ds := fun ds e => by subst e; exact rr
  have ow : ∀ ds, r.own = some ds → ∃ p, v = .ref p ∧ OwnAt K H0 H p ds ∧ Γ.Hs p = none ∧ (∀ xs, (p, xs) ∉ Γ.tm) ∧ (∀ (i : Nat) s es, ρ[i]? = some (some s) → s.own = some es → σ[i]? ≠ some (some (.ref p))) ∧ NoX ρ p := fun ds e => by
    cases r with
    | v d => cases e
    | o es => cases e; exact rr
    | m es => exact rr.elim
    | x x F => cases e
  refine ⟨F.sub, F.s0, F.keep, F.new, by rw [List.length_set, List.length_set]; exact F.len, fun j s h => ?_, fun j ds p h1 h2 => ?_, fun j ds p h1 h2 => ?_, fun j k s t ds es p h1 h2 h3 h4 h5 h6 => ?_, fun j a hm' => ?_, fun q ys hq => ?_, fun j x G hj a ha => ?_⟩
  · rcases getρ j s h with ⟨rfl, rfl⟩ | ⟨q, h⟩
    · refine ⟨v, by rw [List.getElem?_set_self hi2], ?_⟩
      cases s with
      | v d => exact rr
      | o ds => obtain ⟨p, h1, h2, _⟩ := rr; exact ⟨p, h1, h2⟩
      | m ds => exact rr.elim
      | x x F => exact rr.1
    · rw [List.getElem?_set_ne q]
      exact F.slots j s h
  · rcases getρ j _ h1 with ⟨rfl, e⟩ | ⟨q, h⟩
    · subst e
      obtain ⟨p', h3, _, h4, _⟩ := rr
      rw [List.getElem?_set_self hi2] at h2
      cases h2
      cases h3
      exact h4
    · rw [List.getElem?_set_ne q] at h2
      exact F.loc j ds p h h2
  · rcases getρ j _ h1 with ⟨rfl, e⟩ | ⟨q, h⟩
    · exact absurd e.symm (nm ds)
    · rw [List.getElem?_set_ne q] at h2
      exact F.par j ds p h h2
  · rcases getρ j s h1 with ⟨rfl, rfl⟩ | ⟨q1, h1'⟩
    · obtain ⟨p', e', _, _, _, hh, _⟩ := ow ds h3
      rw [List.getElem?_set_self hi2] at h5
      cases h5
      cases e'
      rcases getρ k t h2 with ⟨rfl, _⟩ | ⟨q2, h2⟩
      · rfl
      · rw [List.getElem?_set_ne q2] at h6
        exact absurd h6 (hh k t es h2 h4)
    · rw [List.getElem?_set_ne q1] at h5
      rcases getρ k t h2 with ⟨rfl, rfl⟩ | ⟨q2, h2'⟩
      · obtain ⟨p', e', _, _, _, hh, _⟩ := ow es h4
        rw [List.getElem?_set_self hi2] at h6
        cases h6
        cases e'
        exact absurd h5 (hh j s ds h1' h3)
      · rw [List.getElem?_set_ne q2] at h6
        exact F.dist j k s t ds es p h1' h2' h3 h4 h5 h6
  · obtain ⟨q1, ds, q2⟩ := F.mps j a hm'
    have q : i ≠ j := fun z => by subst z; exact hm ds q2
    rw [List.getElem?_set_ne q, List.getElem?_set_ne q]
    exact ⟨q1, ds, q2⟩
  · obtain ⟨q1, q2, q3⟩ := F.tmp q ys hq
    refine ⟨q1, q2, fun j s es h1 h2 h3 => ?_⟩
    rcases getρ j s h1 with ⟨rfl, rfl⟩ | ⟨z, h1⟩
    · obtain ⟨p', e', _, _, ht, _⟩ := ow es h2
      rw [List.getElem?_set_self hi2] at h3
      cases h3
      cases e'
      exact ht ys hq
    · rw [List.getElem?_set_ne z] at h3
      exact q3 j s es h1 h2 h3
  · rcases getρ j _ hj with ⟨rfl, e⟩ | ⟨q, hj'⟩
    · subst e
      obtain ⟨_, k⟩ := rr
      obtain ⟨k1, k2, k3, k4⟩ := k a ha
      refine ⟨k1, k2, fun l s es h1 h2 h3 => ?_, fun l y G' hl h1 => ?_⟩
      · rcases getρ l s h1 with ⟨rfl, rfl⟩ | ⟨z, h1⟩
        · cases h2
        · rw [List.getElem?_set_ne z] at h3
          exact k3 l s es h1 h2 h3
      · rcases getρ l _ h1 with ⟨rfl, _⟩ | ⟨z, h1⟩
        · exact absurd rfl hl
        · exact k4 l y G' h1
    · have X1 := F.ex j x G hj' a ha
      refine ⟨X1.hs, X1.tm, fun l s es h1 h2 h3 => ?_, fun l y G' hl h1 h2 => ?_⟩
      · rcases getρ l s h1 with ⟨rfl, rfl⟩ | ⟨z, h1⟩
        · obtain ⟨p', e', _, _, _, _, nx⟩ := ow es h2
          rw [List.getElem?_set_self hi2] at h3
          cases h3
          cases e'
          exact nx j x G hj' ha
        · rw [List.getElem?_set_ne z] at h3
          exact X1.sl l s es h1 h2 h3
      · rcases getρ l _ h1 with ⟨rfl, e⟩ | ⟨z, h1⟩
        · subst e
          exact (rr.2 a h2).2.2.2 j x G hj' ha
        · exact X1.xs l y G' hl h1 h2
theorem setR_ok {i : Nat} {r : S} {ρ : Rho} {k : Rho → Prop} (h : setR i r ρ k) : i < ρ.length ∧ (∀ ds, ρ[i]? ≠ some (some (.m ds))) ∧ k (ρ.set i (some r)) := by
  cases q : ρ[i]? with
  | none => rw [setR, q] at h; exact h.elim
  | some o =>
    have hi := (List.getElem?_eq_some_iff.mp q).1
    cases o with
    | none => rw [setR, q] at h; exact ⟨hi, (fun ds z => by cases z), h⟩
    | some s =>
      cases s with
      | m ds => rw [setR, q] at h; exact h.elim
      | v d => rw [setR, q] at h; exact ⟨hi, (fun ds z => by cases z), h⟩
      | o d => rw [setR, q] at h; exact ⟨hi, (fun ds z => by cases z), h⟩
      | x x F => rw [setR, q] at h; exact ⟨hi, (fun ds z => by cases z), h⟩
abbrev DGT := S → Rho → (Rho → Prop) → Prop
/-- a target: takes a value that was just made -/
def LG (Γ : Fx) (K : PySem.W.Frag) (g : DGT) : TG := fun v σ H Q => ∃ H0 ρ r R, Fit Γ K H0 σ ρ H ∧ RRep Γ K H0 σ ρ H v r ∧ g r ρ R ∧ ∀ ρ' H0' σ' H', R ρ' → Fit Γ K H0' σ' ρ' H' → Same H0 H0' → Q σ' H'
structure DG (X : Cx) (Γ : Fx) (tg : Expr) (g : DGT) : Prop where
  run : ∀ tm, PG X tg (LG (Γ.at tm) X.K g)
def gN (i : Nat) : DGT := fun r ρ R => setR i r ρ R
theorem pgLe {X : Cx} {e : Expr} {t t' : TG} (h : PG X e t) (w : ∀ v σ H Q, t' v σ H Q → t v σ H Q) : PG X e t' := ⟨fun pins s σ H v u Q I r q => h.run pins s σ H v u Q I r (w v σ H Q q)⟩
section
variable {X : Cx} {Γ : Fx} {pos pos' : Pos} {x : Str} {i : Nat} {e tg : Expr}
/-- several targets -/
abbrev DGTs := List D → Rho → (Rho → Prop) → Prop
def LGs (Γ : Fx) (K : PySem.W.Frag) (js : List Nat) (g : DGTs) : TGs := fun vs σ H Q => ∃ H0 ρ ds R, Fit Γ K H0 σ ρ H ∧ Reps K H0 vs ds ∧ g ds ρ R ∧ ∀ ρ' H0' σ' H', R ρ' → Fit Γ K H0' σ' ρ' H' → Same H0 H0' → wipe σ' js = wipe σ js → Q σ' H'
/-- a target that takes data, and freezes nothing away -/
def LGd (Γ : Fx) (K : PySem.W.Frag) (js : List Nat) (g : DGT) : TG := fun v σ H Q => ∃ H0 ρ d R, Fit Γ K H0 σ ρ H ∧ Rep K H0 v d ∧ g (.v d) ρ R ∧ ∀ ρ' H0' σ' H', R ρ' → Fit Γ K H0' σ' ρ' H' → Same H0 H0' → wipe σ' js = wipe σ js → Q σ' H'
structure DGd (X : Cx) (Γ : Fx) (tg : Expr) (js : List Nat) (g : DGT) : Prop where
  run : ∀ tm, PG X tg (LGd (Γ.at tm) X.K js g)
structure DGs (X : Cx) (Γ : Fx) (ts : List Expr) (js : List Nat) (g : DGTs) : Prop where
  run : ∀ tm, PGs X ts (LGs (Γ.at tm) X.K js g)
theorem wipe_set {σ : St} {i : Nat} {v : Option V} : ∀ {js : List Nat}, i ∈ js → wipe (σ.set i v) js = wipe σ js
  | [], h => by cases h
  | j :: js, h => by
    have comm : ∀ (σ : St) (ks : List Nat), wipe (σ.set i v) ks = (wipe σ ks).set i v ∨ wipe (σ.set i v) ks = wipe σ ks := by
      intro σ ks
      induction ks with
      | nil => exact .inl rfl
      | cons k ks ih =>
        simp only [wipe]
        rcases ih with e | e
        · by_cases q : i = k
          · subst q
            rw [e, List.set_set]
            exact .inr rfl
          · rw [e, List.set_comm _ _ q]
            exact .inl rfl
        · rw [e]
          exact .inr rfl
    simp only [wipe]
    rcases comm σ js with e | e
    · by_cases q : i = j
      · subst q
        rw [e, List.set_set]
      · have hj : i ∈ js := by
          rcases List.mem_cons.mp h with z | z
          · exact absurd z q
          · exact z
        rw [wipe_set hj]
    · rw [e]
theorem pgsLe {es : List Expr} {t t' : TGs} (h : PGs X es t) (w : ∀ v σ H Q, t' v σ H Q → t v σ H Q) : PGs X es t' := ⟨fun pins s σ H v u Q I r q => h.run pins s σ H v u Q I r (w v σ H Q q)⟩
theorem dgd_name (hN : X.N.Nodup) (hi : X.N[i]? = some x := by rfl) (hx : Loc X.env.scope x := by first | exact Or.inl rfl | exact Or.inr rfl) (hf : X.fn x = true ∨ X.env.scope.names.lookup x = some .local := by first | exact .inl rfl | exact .inr rfl | assumption) {js : List Nat} (hj : i ∈ js := by decide) : DGd X Γ (.Name x pos) js (gN i) :=
  ⟨fun tm => pgLe (pg_name (i := i) hN hi hx hf) fun v σ H Q ⟨H0, ρ, r, R, F, rr, g, k⟩ => by
    obtain ⟨h1, h2, h3⟩ := setR_ok g
    exact k _ H0 _ H h3 (F.set (r := .v r) rr h1 h2) (Same.refl _) (wipe_set hj)⟩
def gsNil : DGTs := fun ds ρ R => match ds with
  | [] => R ρ
  | _ => False
def gsCons (g : DGT) (u : DGTs) : DGTs := fun ds ρ R => match ds with
  | d :: ds => g (.v d) ρ fun ρ1 => u ds ρ1 R
  | [] => False
theorem dgs_nil {js : List Nat} : DGs X Γ [] js gsNil := ⟨fun tm => pgsLe pgs_nil fun vs σ H Q ⟨H0, ρ, ds, R, F, rr, g, k⟩ => by
  cases rr with
  | nil => exact ⟨rfl, k ρ H0 σ H g F (Same.refl _) rfl⟩
  | cons r t => exact g.elim⟩
theorem dgs_cons {es : List Expr} {g : DGT} {u : DGTs} {js : List Nat} (h1 : DGd X Γ e js g) (h2 : DGs X Γ es js u) (hs : (assignEach (e :: es) X.env).map (·.2) = assign e X.env :: (assignEach es X.env).map (·.2) := by rfl) : DGs X Γ (e :: es) js (gsCons g u) :=
  ⟨fun tm => pgsLe (pgs_cons (h1.run tm) (h2.run tm) hs) fun vs σ H Q ⟨H0, ρ, ds, R, F, rr, g, k⟩ => by
    cases rr with
    | nil => exact g.elim
    | cons r t => exact ⟨_, _, rfl, H0, ρ, _, _, F, r, g, fun ρ1 H1 σ1 H' q F1 e1 w1 => ⟨H1, ρ1, _, R, F1, t.mono e1, q, fun ρ2 H2 σ2 H'' q2 F2 e2 w2 => k ρ2 H2 σ2 H'' q2 F2 (e1.trans e2) (w2.trans w1)⟩⟩⟩
/-- (a, b, ..) = a tuple -/
def gT (u : DGTs) : DGT := fun r ρ R => match r with
  | .v (.tup ds) => u ds ρ R
  | _ => False
theorem len_nil (ds : List D) (ρ : Rho) (R : Rho → Prop) (h : gsNil ds ρ R) : ds.length = 0 := by
  cases ds with
  | nil => rfl
  | cons d ds => exact h.elim
theorem len_name {u : DGTs} {n i : Nat} (hu : ∀ ds ρ R, u ds ρ R → ds.length = n) (ds : List D) (ρ : Rho) (R : Rho → Prop) (h : gsCons (gN i) u ds ρ R) : ds.length = n + 1 := by
  cases ds with
  | nil => exact h.elim
  | cons d ds =>
    have h : setR i (.v d) ρ fun ρ1 => u ds ρ1 R := h
    obtain ⟨_, _, h3⟩ := setR_ok h
    rw [List.length_cons, hu _ _ _ h3]
/-- target = e -/
def dAsg (t : DT) (g : DGT) : DST := fun De ρ => t ρ fun r ρ1 => g r ρ1 De.nx
theorem ds_asg {t : DT} {g : DGT} (he : DE X Γ e t) (hg : DG X Γ tg g) (hs : swapsWithSole [tg] e pos.line X.env = pure false := by rfl) (hw : swappedStores [tg] e X.env = pure none := by rfl)
    (h1 : (assignEach [tg] X.env).map (·.2) = [assign tg X.env] := by rfl) : DS X Γ (.Assign [tg] e pos) (dAsg t g) :=
  ⟨fun tm => psLe (ps_asg (he.run []) (hg.run []) hs hw h1) fun D σ H ⟨H0, ρ, De, F, t, E⟩ => ⟨H0, ρ, _, F, t, fun r ρ1 v H1 H' q F1 e1 rr => ⟨H1, ρ1, r, _, F1, rr, q, fun ρ2 H2 σ2 H'' q2 F2 e2 => E.nx H2 σ2 ρ2 H'' q2 F2 (e1.trans e2)⟩⟩⟩
theorem ds_set {t : DT} (hN : X.N.Nodup) (he : DE X Γ e t) (hi : X.N[i]? = some x := by rfl) (hx : Loc X.env.scope x := by first | exact Or.inl rfl | exact Or.inr rfl) (hs : swapsWith e (some (.Name x pos')) pos.line X.env = pure false := by rfl) (hf : X.fn x = true ∨ X.env.scope.names.lookup x = some .local := by first | exact .inl rfl | exact .inr rfl | assumption) :
    DS X Γ (.Assign [.Name x pos'] e pos) (dAsg t (gN i)) :=
  ⟨fun tm => psLe (ps_set (i := i) hN hi hx (he.run []) hs hf) fun D σ H ⟨H0, ρ, De, F, t, E⟩ => ⟨H0, ρ, _, F, t, fun r ρ1 v H1 H' q F1 e1 rr => by
    obtain ⟨h1, h2, h3⟩ := setR_ok q
    exact E.nx H1 _ _ H' h3 (F1.set rr h1 h2) e1⟩⟩
/-- t1 = t2 = e -/
def dAsg2 (t : DT) (g1 g2 : DGT) : DST := fun De ρ => t ρ fun r ρ1 => g1 (.v r.d) ρ1 fun ρ2 => g2 (.v r.d) ρ2 De.nx
/-- a, b = e1, e2 -/
def dPar (i j : Nat) (ta : DAT) : DST := fun De ρ => ta ρ fun hs ρ1 => match vals ρ1 hs with
  | some [d, e] => setR i (.v d) ρ1 fun ρ2 => setR j (.v e) ρ2 De.nx
  | _ => False
theorem Reps.two {K : PySem.W.Frag} {H : Hp} {vs : List V} {d e : D} (r : Reps K H vs [d, e]) : ∃ v u, vs = [v, u] ∧ Rep K H v d ∧ Rep K H u e := by
  cases r with
  | cons r t => cases t with
    | cons r2 t => cases t; exact ⟨_, _, rfl, r, r2⟩
/-- x op= e -/
def dAug (i : Nat) (f : D → D → (S → Prop) → Prop) (te : DHT) : DST := fun De ρ => (∃ d, ρ[i]? = some (some (.v d))) ∧ te ρ fun h ρ1 => match ρ1[i]?, h.get ρ1 with
  | some (some (.v d)), some y => f d y fun r => setR i r ρ1 De.nx
  | _, _ => False
end
/-! ### changes of own lists -/
def S.wth : S → List D → S
  | .m _, es => .m es
  | _, es => .o es
/-- a slot's own list changed -/
theorem Fit.chg {Γ : Fx} {K : PySem.W.Frag} {H0 : Hp} {σ : St} {ρ : Rho} {H : Hp} {i : Nat} {p : Addr} {s : S} {ds es : List D} {xs : List V} (F : Fit Γ K H0 σ ρ H) (h : ρ[i]? = some (some s)) (hs : s.own = some ds) (hv : σ[i]? = some (some (.ref p))) (r : Reps K H0 xs es) :
    Fit Γ K H0 σ (ρ.set i (some (s.wth es))) (upd H p (.lst xs)) := by
  have hi : i < ρ.length := (List.getElem?_eq_some_iff.mp h).1
  obtain ⟨h0, ys, hy, _⟩ := F.ownNone h hs hv
  have getρ : ∀ j s', (ρ.set i (some (s.wth es)))[j]? = some (some s') → (i = j ∧ s' = s.wth es) ∨ (i ≠ j ∧ ρ[j]? = some (some s')) := fun j s' h => by
    by_cases q : i = j
    · subst q
      rw [List.getElem?_set_self hi] at h
      cases h
      exact .inl ⟨rfl, rfl⟩
    · rw [List.getElem?_set_ne q] at h
      exact .inr ⟨q, h⟩
  have own1 : ∀ (j : Nat) (s' : S) es', (ρ.set i (some (s.wth es)))[j]? = some (some s') → s'.own = some es' → ∃ s2 es2, ρ[j]? = some (some s2) ∧ s2.own = some es2 := fun j s' es' h1 h2 => by
    rcases getρ j s' h1 with ⟨rfl, _⟩ | ⟨_, h3⟩
    · exact ⟨s, ds, h, hs⟩
    · exact ⟨s', es', h3, h2⟩
  refine ⟨fun b u e => ?_, F.s0, fun a o e hm => ?_, F.new, by rw [List.length_set]; exact F.len, fun j s' h' => ?_, fun j ds' q h1 h2 => ?_, fun j ds' q h1 h2 => ?_, fun j k s1 s2 d1 d2 q h1 h2 h3 h4 h5 h6 => ?_, fun j a hm => ?_, fun q zs hq => ?_, fun j x G hj a ha => ?_⟩
  · have hne : b ≠ p := fun z => by subst z; rw [h0] at e; cases e
    rw [upd_ne hne]
    exact F.sub _ _ e
  · have hne : a ≠ p := fun z => by
      subst z
      cases s with
      | v d => cases hs
      | o es' =>
        have := F.loc i _ a h hv
        rw [this] at e; cases e
      | m es' => exact hm (List.mem_map.mpr ⟨_, F.par i _ a h hv, rfl⟩)
      | x x F => cases hs
    rw [upd_ne hne]
    exact F.keep a o e hm
  · rcases getρ j s' h' with ⟨rfl, rfl⟩ | ⟨q, h'⟩
    · refine ⟨_, hv, ?_⟩
      cases s with
      | v d => cases hs
      | o es' => exact ⟨p, rfl, h0, xs, upd_same, r⟩
      | m es' => exact ⟨p, rfl, h0, xs, upd_same, r⟩
      | x x F => cases hs
    · obtain ⟨v, h1, h2⟩ := F.slots j s' h'
      refine ⟨v, h1, h2.stay (Same.refl _) (fun p' ds' ev e' => ?_) fun x G ex a ha => ?_⟩
      · subst ev
        have hne : p' ≠ p := fun z => by
          subst z
          exact q (F.dist i j s s' ds ds' p' h h' hs e' hv h1)
        exact ⟨(F.ownNone h' e' h1).1, upd_ne hne⟩
      · subst ex
        have hne : a ≠ p := fun z => by
          subst z
          exact (F.ex j x G h' a ha).sl i s ds h hs hv
        exact ⟨(F.xSome h' ha).1, upd_ne hne⟩
  · rcases getρ j _ h1 with ⟨rfl, e⟩ | ⟨q', h1⟩
    · cases s with
      | v d => cases hs
      | o es' => exact F.loc i _ q h h2
      | m es' => cases e
      | x x F => cases hs
    · exact F.loc j ds' q h1 h2
  · rcases getρ j _ h1 with ⟨rfl, e⟩ | ⟨q', h1⟩
    · cases s with
      | v d => cases hs
      | o es' => cases e
      | m es' => exact F.par i _ q h h2
      | x x F => cases hs
    · exact F.par j ds' q h1 h2
  · obtain ⟨t1, e1, g1, g2⟩ := own1 j s1 d1 h1 h3
    obtain ⟨t2, e2, g3, g4⟩ := own1 k s2 d2 h2 h4
    exact F.dist j k t1 t2 e1 e2 q g1 g3 g2 g4 h5 h6
  · obtain ⟨q1, ds', q2⟩ := F.mps j a hm
    refine ⟨q1, ?_⟩
    by_cases q : i = j
    · subst q
      rw [h] at q2
      cases q2
      exact ⟨es, by rw [List.getElem?_set_self hi]; rfl⟩
    · rw [List.getElem?_set_ne q]
      exact ⟨ds', q2⟩
  · obtain ⟨q1, q2, q3⟩ := F.tmp q zs hq
    have hne : q ≠ p := fun z => by subst z; exact q3 i s ds h hs hv
    refine ⟨by rw [upd_ne hne]; exact q1, q2, fun j s' es' h1 h2 => ?_⟩
    obtain ⟨t1, e1, g1, g2⟩ := own1 j s' es' h1 h2
    exact q3 j t1 e1 g1 g2
  · have gx : ∀ (j : Nat) y G, (ρ.set i (some (s.wth es)))[j]? = some (some (.x y G)) → ρ[j]? = some (some (.x y G)) := fun j y G z => by
      rcases getρ j _ z with ⟨rfl, e⟩ | ⟨_, z⟩
      · cases s with
        | v d => cases hs
        | o es' => cases e
        | m es' => cases e
        | x x F => cases hs
      · exact z
    have X1 := F.ex j x G (gx j x G hj) a ha
    exact X1.tr X1.hs X1.tm (fun k s' es' q1 q2 => by
      obtain ⟨t1, e1, g1, g2⟩ := own1 k s' es' q1 q2
      exact ⟨t1, e1, g1, g2, rfl⟩) fun k y G q => ⟨y, gx k y G q⟩
/-- the slot's list with other items -/
def chg (i : Nat) (f : List D → (List D → Prop) → Prop) (ρ : Rho) (k : Rho → Prop) : Prop := match ρ[i]? with
  | some (some (.o ds)) => f ds fun es => k (ρ.set i (some (.o es)))
  | some (some (.m ds)) => f ds fun es => k (ρ.set i (some (.m es)))
  | _ => False
end DL

/-! DL5: lists changed, loops, what is walked. -/
namespace DL
open PySem L2

/-! ### a method of a slot's own list -/
abbrev MtF := List D → List D → (D → List D → Prop) → Prop
/-- the reading r of a list's method does what f says: the items, the arguments; the answer, the items behind it -/
def OpM (X : Cx) (r : V → List V → Hp → VK → Prop) (f : MtF) : Prop := ∀ (H0 H : Hp) (p : Addr) (xs ys : List V) (ds as : List D) (R : D → List D → Prop) (Q : VK), Same H0 H → H p = some (.lst xs) → Reps X.K H0 xs ds → Reps X.K H0 ys as → f ds as R →
  (∀ d es v zs, R d es → Rep X.K H0 v d → Reps X.K H0 zs es → Q v (upd H p (.lst zs))) → r (.ref p) ys H Q
def meth (i : Nat) (f : MtF) (as : List D) (ρ : Rho) (R : S → Rho → Prop) : Prop := match ρ[i]? with
  | some (some (.o ds)) => f ds as fun d es => R (.v d) (ρ.set i (some (.o es)))
  | some (some (.m ds)) => f ds as fun d es => R (.v d) (ρ.set i (some (.m es)))
  | _ => False
def isOwn (i : Nat) (ρ : Rho) : Prop := match ρ[i]? with
  | some (some (.o _)) => True
  | some (some (.m _)) => True
  | _ => False
def dMe (i : Nat) (f : MtF) (ta : DAT) : DT := fun ρ R => isOwn i ρ ∧ ta ρ fun hs ρ1 => match vals ρ1 hs with
  | some as => meth i f as ρ1 R
  | none => False
theorem isOwn_ok {i : Nat} {ρ : Rho} (h : isOwn i ρ) : ∃ s ds, ρ[i]? = some (some s) ∧ s.own = some ds := by
  unfold isOwn at h
  split at h
  · rename_i ds q; exact ⟨_, ds, q, rfl⟩
  · rename_i ds q; exact ⟨_, ds, q, rfl⟩
  · exact h.elim
theorem meth_ok {i : Nat} {f : MtF} {as : List D} {ρ : Rho} {R : S → Rho → Prop} (h : meth i f as ρ R) : ∃ s ds, ρ[i]? = some (some s) ∧ s.own = some ds ∧ f ds as fun d es => R (.v d) (ρ.set i (some (s.wth es))) := by
  unfold meth at h
  split at h
  · rename_i ds q; exact ⟨_, ds, q, rfl, h⟩
  · rename_i ds q; exact ⟨_, ds, q, rfl, h⟩
  · exact h.elim
section
variable {X : Cx} {Γ : Fx} {e o : Expr} {es : List Expr} {i : Nat} {ta : DAT} {f : MtF} {name : Str} {apos cpos : Pos} {id : String} {r : V → List V → Hp → VK → Prop}
theorem me_le {Γ : Fx} (hf : OpM X r f) {σ : St} {H : Hp} {Q : VK} (h : LE Γ X.K (dMe i f ta) σ H Q) : tBM X.K "list" r (tVar i) (LA Γ X.K ta) σ H Q := by
  obtain ⟨H0, ρ, R, F, ⟨h0, t⟩, k⟩ := h
  obtain ⟨s, ds, q1, q2⟩ := isOwn_ok h0
  obtain ⟨v, hv, hr⟩ := F.slots i s q1
  obtain ⟨p, rfl, _, xs, hx, _⟩ := hr.ownAt q2
  refine ⟨_, hv, .inl ⟨rfl, xs, SqL.of hx⟩, H0, ρ, _, F, t, fun hs ρ1 vs H1 H' q F1 e1 rr => ?_⟩
  split at q
  · rename_i as g
    obtain ⟨s', ds', g1, g2, g3⟩ := meth_ok q
    obtain ⟨_, ys, hy, ry⟩ := F1.ownNone g1 g2 hv
    refine hf H1 H' p ys vs ds' as _ Q F1.sub hy ry (F1.vals rr g) g3 fun d es v zs q3 r3 r4 => ?_
    exact k _ _ v H1 _ q3 (F1.chg g1 g2 hv r4) e1 r3
  · exact q.elim
theorem de_me (slot : Slot "list" name id) (hty : typeOf (.builtin id) = pure (.type "method_descriptor")) (hm : MtR X id r) (hf : OpM X r f) (ho : PE X o (tVar i)) (ha : DA X Γ (e :: es) ta)
    (hbase : attributeBase o name X.env (eval o X.env) = eval o X.env := by rfl)
    (hfew : ((backTo cpos (starEach (e :: es) X.env)).all (fun x => !x.1) && (backToKw cpos (keywordEach [] X.env)).all (fun x => x.1.isSome)
      && decide ((e :: es).length + ([] : List Keyword).length + (if ([] : List Keyword).isEmpty then 0 else 1) < 30)) = true := by rfl)
    (hline : (apos.endLine == cpos.line) = true := by rfl) (hs : starEach (e :: es) X.env = (false, eval e X.env) :: starEach es X.env := by rfl) (hplain : (backTo cpos (starEach es X.env)).any (·.1) = false := by rfl) :
    DE X Γ (.Call (.Attribute o name apos) (e :: es) [] cpos) (dMe i f ta) :=
  ⟨fun tm => peLe (pe_bm PySem.F.plainAttrs_list slot hty hm ho (ha.run tm) hbase hfew hline hs hplain) fun σ H Q h => me_le hf h⟩
def dMe0 (i : Nat) (f : MtF) : DT := fun ρ R => meth i f [] ρ R
end
def appendF : MtF := fun ds as R => match as with
  | [d] => ds.length < sizeLine ∧ R .non (ds ++ [d])
  | _ => False
def extendF : MtF := fun ds as R => match as with
  | [.lst es] => ds.length + es.length ≤ sizeLine ∧ R .non (ds ++ es)
  | _ => False
def popF : MtF := fun ds as R => match as with
  | [] => (match ds[ds.length - 1]? with
    | some d => R d ds.dropLast
    | none => False)
  | _ => False
def reverseF : MtF := fun ds as R => match as with
  | [] => R .non ds.reverse
  | _ => False
def clearF : MtF := fun ds as R => match as with
  | [] => R .non []
  | _ => False
theorem Reps.dropLast {K : PySem.W.Frag} {H : Hp} {vs : List V} {ds : List D} (r : Reps K H vs ds) : Reps K H vs.dropLast ds.dropLast := by
  rw [List.dropLast_eq_take, List.dropLast_eq_take, r.length]
  exact r.take _
section
variable {X : Cx} {Γ : Fx}
end
/-! ### x[k] = e -/
def setF (k : D) (d : D) : List D → (List D → Prop) → Prop := fun ds R => match k with
  | .int i => (match ixN ds.length i with
    | some j => R (ds.set j d)
    | none => False)
  | _ => False
def dSetI (i : Nat) (tk : DHT) (te : DT) : DST := fun De ρ => te ρ fun r ρ1 => isOwn i ρ1 ∧ tk ρ1 fun h ρ2 => match h.get ρ2 with
  | some k => chg i (setF k r.d) ρ2 De.nx
  | none => False
theorem chg_ok {i : Nat} {f : List D → (List D → Prop) → Prop} {ρ : Rho} {k : Rho → Prop} (h : chg i f ρ k) : ∃ s ds, ρ[i]? = some (some s) ∧ s.own = some ds ∧ f ds fun es => k (ρ.set i (some (s.wth es))) := by
  unfold chg at h
  split at h
  · rename_i ds q; exact ⟨_, ds, q, rfl, h⟩
  · rename_i ds q; exact ⟨_, ds, q, rfl, h⟩
  · exact h.elim
theorem ds_setI {X : Cx} {Γ : Fx} {e o k : Expr} {i : Nat} {tk : DHT} {te : DT} {pos pos' : Pos} (he : DE X Γ e te) (ho : PE X o (tVar i)) (hk : DH X Γ k tk)
    (ha : ∀ v, assign (.Subscript o k pos') X.env v = (do
      let ov ← holding [v] (eval o X.env)
      let iv ← holding [v, ov] (eval k X.env)
      standAt pos'
      holding [v, ov, iv] (setItem ov iv v)
      release [v, ov, iv] []) := by intro _; rfl)
    (hs : swapsWithSole [.Subscript o k pos'] e pos.line X.env = pure false := by rfl) (hw : swappedStores [.Subscript o k pos'] e X.env = pure none := by rfl)
    (h1 : (assignEach [.Subscript o k pos'] X.env).map (·.2) = [assign (.Subscript o k pos') X.env] := by rfl) : DS X Γ (.Assign [.Subscript o k pos'] e pos) (dSetI i tk te) :=
  ⟨fun tm => psLe (ps_asg (he.run []) (pg_sub ho (hk.run []) set_list ha) hs hw h1) fun D σ H ⟨H0, ρ, De, F, t, E⟩ => ⟨H0, ρ, _, F, t, fun r ρ1 v H1 H' q F1 e1 rr => by
    obtain ⟨H2, F2, e2, r2⟩ := F1.freeze rr
    obtain ⟨h0, q⟩ := q
    obtain ⟨s, ds, q1, q2⟩ := isOwn_ok h0
    obtain ⟨u, hu, hr⟩ := F2.slots i s q1
    obtain ⟨p, rfl, _, xs, hx, _⟩ := hr.ownAt q2
    refine ⟨_, hu, H2, ρ1, _, F2, q, fun h ρ2 w H3 H'' q3 F3 e3 r3 => ?_⟩
    split at q3
    · rename_i kd g
      obtain ⟨s', ds', g1, g2, g3⟩ := chg_ok q3
      unfold setF at g3
      split at g3
      · rename_i ii
        split at g3
        · rename_i j hj
          obtain ⟨_, ys, hy, ry⟩ := F3.ownNone g1 g2 hu
          have ew := (F3.top r3 g).int
          subst ew
          refine ⟨p, ys, _, j, rfl, rfl, hy, by rw [ry.length]; exact hj, ?_⟩
          exact E.nx H3 σ _ _ g3 (F3.chg g1 g2 hu (ry.set (r2.mono e3) j)) ((e1.trans e2).trans e3)
        · exact g3.elim
      · exact g3.elim
    · exact q3.elim⟩⟩
/-! ### while -/
def dWhile (c : DTT) (tb : DST) : DST := fun De ρ => ∃ W : Nat → Rho → Prop, (∃ m, W m ρ) ∧ ∀ m ρ, W m ρ → c ρ fun b ρ1 =>
  IfB b (tb { De with nx := fun ρ' => ∃ m', m' < m ∧ W m' ρ', ct := fun ρ' => ∃ m', m' < m ∧ W m' ρ', bk := De.nx } ρ1) (De.nx ρ1)
/-! ### what is walked -/
/-- J gives these items, one behind the other, as long as what is frozen in B stands -/
structure ItD (K : PySem.W.Frag) (B : Hp) (J : It) (items : List D) : Prop where
  goes : ∀ i H, i < items.length → Same B H → J.go i H
  stops : ∀ H, Same B H → J.stop items.length H
  yields : ∀ i H x H', i < items.length → Same B H → J.yld i H x H' → ∃ d, items[i]? = some d ∧ ((H' = H ∧ Rep K B x d) ∨ ∃ T zs es, x = .ref T ∧ H T = none ∧ H' = upd H T (.tup zs) ∧ Reps K B zs es ∧ d = .tup es)
section
variable {K : PySem.W.Frag} {B : Hp}
theorem it_at {J : It} {G : Hp → Prop} {xs : List V} {ds : List D} (w : Walk J xs.length G (YAt xs)) (hG : ∀ H, Same B H → G H) (r : Reps K B xs ds) : ItD K B J ds :=
  ⟨fun i H hi e => w.goes i H (by rw [r.length]; exact hi) (hG H e), fun H e => by rw [← r.length]; exact w.stops H (hG H e), fun i H x H' hi e y => by
    obtain ⟨h1, h2⟩ := w.yields i H x H' (by rw [r.length]; exact hi) (hG H e) y
    obtain ⟨d, h3, h4⟩ := r.getV h2
    exact ⟨d, h3, .inl ⟨h1, h4⟩⟩⟩
theorem it_list {a : Addr} {xs : List V} {ds : List D} (h : SqL K B a xs) (r : Reps K B xs ds) : ItD K B (Itl K a) ds := it_at walk_list (fun _ e => e.seq h) r
theorem it_tup {a : Addr} {xs : List V} {ds : List D} (h : SqT K B a xs) (r : Reps K B xs ds) : ItD K B (Itt K a) ds := it_at walk_tup (fun _ e => seqT e h) r
/-- lo, lo + 1, .. -/
def rngD (lo : Int) (n : Nat) : List D := (List.range n).map fun i => .int (lo + (i : Nat))
theorem it_range (lo : Int) (n : Nat) : ItD K B (Itr lo n) (rngD lo n) :=
  ⟨fun i H hi e => by simpa [rngD, Itr] using hi, fun H e => by simp [rngD, Itr], fun i H x H' hi e y => by
    obtain ⟨h1, rfl⟩ := y
    have hi : i < n := by simpa [rngD] using hi
    exact ⟨.int (lo + (i : Nat)), by simp [rngD, hi], .inl ⟨h1, .int _⟩⟩⟩
/-- the signs of a text -/
def signsD (z : Str) : List D := z.cps.toList.map fun c => .str ⟨#[c]⟩
theorem it_str (z : Str) : ItD K B (Its z) (signsD z) :=
  ⟨fun i H hi e => by simpa [signsD, Its] using hi, fun H e => by simp [signsD, Its], fun i H x H' hi e y => by
    obtain ⟨h1, c, h2, rfl⟩ := y
    exact ⟨.str ⟨#[c]⟩, by simp [signsD, h2], .inl ⟨h1, .str _⟩⟩⟩
/-- pairs -/
def zipD (ds es : List D) : List D := (ds.zip es).map fun p => .tup [p.1, p.2]
theorem zipD_length (ds es : List D) : (zipD ds es).length = min ds.length es.length := by simp [zipD]
theorem it_pair {J : It} {G : Hp → Prop} {ds es : List D} {fx fy : Nat → Option V} (w : Walk J (zipD ds es).length G (YPair fx fy)) (hG : ∀ H, Same B H → G H)
    (hx : ∀ i x, fx i = some x → i < ds.length → ∃ d, ds[i]? = some d ∧ Rep K B x d) (hy : ∀ i x, fy i = some x → i < es.length → ∃ d, es[i]? = some d ∧ Rep K B x d) : ItD K B J (zipD ds es) :=
  ⟨fun i H hi e => w.goes i H hi (hG H e), fun H e => w.stops H (hG H e), fun i H x H' hi e y => by
    obtain ⟨T, u, v, h1, h2, h3, h4, h5⟩ := w.yields i H x H' hi (hG H e) y
    rw [zipD_length] at hi
    obtain ⟨d, e1, r1⟩ := hx i u h4 (by omega)
    obtain ⟨d2, e2, r2⟩ := hy i v h5 (by omega)
    refine ⟨.tup [d, d2], ?_, .inr ⟨T, [u, v], [d, d2], h1, h2, h3, .cons r1 (.cons r2 .nil), rfl⟩⟩
    simp [zipD, List.getElem?_zip_eq_some, e1, e2]⟩
theorem it_zip {a b : Addr} {xs ys : List V} {ds es : List D} (h1 : SqL K B a xs) (r1 : Reps K B xs ds) (h2 : SqL K B b ys) (r2 : Reps K B ys es) : ItD K B (Itz K a b) (zipD ds es) :=
  it_pair (walk_zip (by rw [zipD_length, r1.length, r2.length])) (fun H e => ⟨e.seq h1, e.seq h2⟩) (fun i x q _ => r1.getV q) (fun i x q _ => r2.getV q)
theorem walk_zipT {a b : Addr} {xs ys : List V} {n : Nat} (hn : n = min xs.length ys.length) : Walk (RZ.ItzT K a b) n (fun H => SqT K H a xs ∧ SqT K H b ys) (YPair (fun i => xs[i]?) (fun i => ys[i]?)) := by
  subst hn
  refine ⟨fun i _ hi q => ⟨xs, ys, xs[i]'(by omega), ys[i]'(by omega), q.1, q.2, by simp [show i < xs.length by omega], by simp [show i < ys.length by omega]⟩, fun _ q => ⟨xs, ys, q.1, q.2, by omega⟩, fun i H v H' _ q y => ?_⟩
  obtain ⟨T, x, z, g1, g2, g3, g4, g5⟩ := y
  exact ⟨T, x, z, g1, g2, g3, g4 xs q.1, g5 ys q.2⟩
theorem it_zipT {a b : Addr} {xs ys : List V} {ds es : List D} (h1 : SqT K B a xs) (r1 : Reps K B xs ds) (h2 : SqT K B b ys) (r2 : Reps K B ys es) : ItD K B (RZ.ItzT K a b) (zipD ds es) :=
  it_pair (walk_zipT (by rw [zipD_length, r1.length, r2.length])) (fun H e => ⟨seqT e h1, seqT e h2⟩) (fun i x q _ => r1.getV q) (fun i x q _ => r2.getV q)
/-- (0, x), (1, y), .. -/
def enumD (ds : List D) : List D := zipD (rngD 0 ds.length) ds
end
abbrev DIT := Rho → (List D → Rho → Prop) → Prop
def LI (Γ : Fx) (K : PySem.W.Frag) (ti : DIT) : TI := fun σ H Q => ∃ H0 ρ R, Fit Γ K H0 σ ρ H ∧ ti ρ R ∧ ∀ items ρ1 J H1 H', R items ρ1 → Fit Γ K H1 σ ρ1 H' → Same H0 H1 → ItD K H1 J items → Q J H'
structure DI (X : Cx) (Γ : Fx) (tg iter : Expr) (ti : DIT) : Prop where
  run : ∀ tm, PI X tg iter (LI (Γ.at tm) X.K ti)
theorem piLe {X : Cx} {tg iter : Expr} {t t' : TI} (h : PI X tg iter t) (w : ∀ σ H Q, t' σ H Q → t σ H Q) : PI X tg iter t' := ⟨fun pins s σ H R I q => h.run pins s σ H R I (w σ H R q)⟩
/-- a list, a tuple, a text -/
def iSeq (K : PySem.W.Frag) (tl : TE) : TI := fun σ H R => tl σ H fun x H1 => (∃ a xs, x = .ref a ∧ SqL K H1 a xs ∧ R (Itl K a) H1) ∨ (∃ a xs, x = .ref a ∧ SqT K H1 a xs ∧ R (Itt K a) H1) ∨ ∃ z, x = .str z ∧ R (Its z) H1
section
variable {X : Cx} {Γ : Fx} {tg e : Expr} {p pos tpos : Pos} {ta : DAT}
theorem pi_seq {tl : TE} (hl : PE X e tl) : PI X tg e (iSeq X.K tl) := ⟨fun pins s σ H R I h => thn (hl.run pins s σ H _ I h) fun v s1 ⟨x, H1, I1, r1, q1⟩ => by
  rcases q1 with ⟨a, xs, rfl, hq, q⟩ | ⟨a, xs, rfl, hq, q⟩ | ⟨z, rfl, q⟩
  · cases r1
    obtain ⟨its, _, pl, _⟩ := I1.list hq
    exact wpAny_pyIter_list pl.isList (pi_one (tk := s1.toks) I1 _ (turn_list a _) ⟨_, Heap.get?_push_size _ rfl, rfl, rfl⟩ q)
  · cases r1
    obtain ⟨its, _, pl, _⟩ := I1.tuple hq
    exact wpAny_pyIter_tuple (show s1.heap.IsTuple a its.toArray from pl) (pi_one (tk := s1.toks) I1 _ (turn_tuple a _) ⟨_, Heap.get?_push_size _ rfl, rfl, rfl⟩ q)
  · obtain ⟨t, rfl⟩ := r1
    cases ha : z.cps.all (· < 128) with
    | false => exact wpAny_pyIter_wide ha (pi_one (tk := s1.toks) I1 _ (turn_str _ z t _ (.inr rfl)) ⟨_, Heap.get?_push_size _ rfl, rfl, rfl⟩ q)
    | true => exact wpAny_pyIter_ascii ha (pi_one (tk := s1.toks) I1 _ (turn_str _ z t _ (.inl rfl)) ⟨_, Heap.get?_push_size _ rfl, rfl, rfl⟩ q)⟩
def seqOf : D → Option (List D)
  | .lst ds => some ds
  | .rol ds => some ds
  | .tup ds => some ds
  | .str z => some (signsD z)
  | _ => none
def diSeq (t : DT) : DIT := fun ρ R => t ρ fun r ρ1 => match seqOf r.d with
  | some ds => R ds ρ1
  | none => False
theorem di_seq {t : DT} (h : DE X Γ e t) : DI X Γ tg e (diSeq t) := ⟨fun tm => piLe (pi_seq (h.run tm)) fun σ H Q ⟨H0, ρ, R, F, t, k⟩ => ⟨H0, ρ, _, F, t, fun r ρ1 v H1 H' q F1 e1 rr => by
  obtain ⟨H2, F2, e2, r2⟩ := F1.freeze rr
  generalize r.d = d at q r2
  cases r2 with
  | lst h1 r1 => exact .inl ⟨_, _, rfl, SqL.of (F2.sub _ _ h1), k _ ρ1 _ H2 H' q F2 (e1.trans e2) (it_list (SqL.of h1) r1)⟩
  | rol h1 r1 => exact .inl ⟨_, _, rfl, F2.sub.seq h1, k _ ρ1 _ H2 H' q F2 (e1.trans e2) (it_list h1 r1)⟩
  | tup h1 r1 => exact .inr (.inl ⟨_, _, rfl, seqT F2.sub h1, k _ ρ1 _ H2 H' q F2 (e1.trans e2) (it_tup h1 r1)⟩)
  | str z => exact .inr (.inr ⟨_, rfl, k _ ρ1 _ H2 H' q F2 (e1.trans e2) (it_str z)⟩)
  | _ => exact q.elim⟩⟩
theorem Tops.length {K : PySem.W.Frag} {H0 H : Hp} : ∀ {vs : List V} {ds : List D}, Tops K H0 H vs ds → vs.length = ds.length
  | _, _, .nil => rfl
  | _, _, .cons _ t => by rw [List.length_cons, List.length_cons, t.length]
theorem HReps.length {K : PySem.W.Frag} {H0 : Hp} {σ : St} : ∀ {vs : List V} {ds : List Hd}, HReps K H0 σ vs ds → vs.length = ds.length
  | _, _, .nil => rfl
  | _, _, .cons _ t => by rw [List.length_cons, List.length_cons, t.length]
/-- range(n), range(a, b) -/
def diRng1 (ta : DAT) : DIT := fun ρ R => ta ρ fun hs ρ1 => match gets ρ1 hs with
  | some [.int j] => (-(2 ^ 62) ≤ j ∧ j < 2 ^ 62) ∧ R (rngD 0 j.toNat) ρ1
  | _ => False
def diRng2 (ta : DAT) : DIT := fun ρ R => ta ρ fun hs ρ1 => match gets ρ1 hs with
  | some [.int i, .int j] => (-(2 ^ 62) ≤ i ∧ i < 2 ^ 62 ∧ -(2 ^ 62) ≤ j ∧ j < 2 ^ 62) ∧ R (rngD i (j - i).toNat) ρ1
  | _ => False
theorem di_rng1 {a : Expr} (hm : X.mg "range" = none) (ha : DA X Γ [a] ta) (hg : Gl X "range" := by rfl) (hs : starEach [a] X.env = [(false, eval a X.env)] := by rfl) : DI X Γ tg (.Call (.Name "range" p) [a] [] pos) (diRng1 ta) :=
  ⟨fun tm => piLe (pi_range1 hg hm (ha.run tm) hs) fun σ H Q ⟨H0, ρ, R, F, t, k⟩ => ⟨H0, ρ, _, F, t, fun hs ρ1 vs H1 H' q F1 e1 rr => by
    split at q
    · rename_i j g
      obtain ⟨v, rfl, t1⟩ := (F1.tops rr g).one
      cases t1.int
      exact ⟨j, rfl, q.1.1, q.1.2, k _ ρ1 _ H1 H' q.2 F1 e1 (it_range 0 _)⟩
    · exact q.elim⟩⟩
/-- zip of two lists or two tuples; enumerate of a list: what is walked stays -/
def diZip (ta : DAT) : DIT := fun ρ R => ta ρ fun hs ρ1 => match vals ρ1 hs with
  | some [.lst ds, .lst es] => R (zipD ds es) ρ1
  | some [.tup ds, .tup es] => R (zipD ds es) ρ1
  | _ => False
theorem di_zip {e e2 : Expr} {elts : List Expr} {kk : Nat} (hm : X.mg "zip" = none) (ha : DA X Γ [e, e2] ta) (hg : Gl X "zip" := by rfl) (hs : starEach [e, e2] X.env = (false, eval e X.env) :: starEach [e2] X.env := by rfl) (hpl : (backTo pos (starEach [e2] X.env)).any (·.1) = false := by rfl) :
    DI X Γ (.Tuple elts kk tpos) (.Call (.Name "zip" p) [e, e2] [] pos) (diZip ta) :=
  ⟨fun tm => piLe (RZ.pi_zipA hg hm (ha.run tm) hs hpl) fun σ H Q ⟨H0, ρ, R, F, t, k⟩ => ⟨H0, ρ, _, F, t, fun hs ρ1 vs H1 H' q F1 e1 rr => by
    split at q
    · rename_i ds es g
      obtain ⟨v, u, rfl, r1, r2⟩ := (F1.vals rr g).two
      cases r1 with
      | lst h1 r1 => cases r2 with
        | lst h2 r2 => exact ⟨_, _, _, _, rfl, .inl ⟨SqL.of (F1.sub _ _ h1), SqL.of (F1.sub _ _ h2), k _ ρ1 _ H1 H' q F1 e1 (it_zip (SqL.of h1) r1 (SqL.of h2) r2)⟩⟩
    · rename_i ds es g
      obtain ⟨v, u, rfl, r1, r2⟩ := (F1.vals rr g).two
      cases r1 with
      | tup h1 r1 => cases r2 with
        | tup h2 r2 => exact ⟨_, _, _, _, rfl, .inr ⟨seqT F1.sub h1, seqT F1.sub h2, k _ ρ1 _ H1 H' q F1 e1 (it_zipT h1 r1 h2 r2)⟩⟩
    · exact q.elim⟩⟩
def diEnum (ta : DAT) : DIT := fun ρ R => ta ρ fun hs ρ1 => match vals ρ1 hs with
  | some [.lst ds] => R (enumD ds) ρ1
  | _ => False
end
/-! ### for -/
def forL (g : DGT) (tb : DST) (De : DEnds) : List D → Rho → Prop
  | [], ρ => De.nx ρ
  | x :: xs, ρ => g (.v x) ρ fun ρ2 => tb { De with nx := forL g tb De xs, ct := forL g tb De xs, bk := De.nx } ρ2
def dFor (ti : DIT) (g : DGT) (tb : DST) : DST := fun De ρ => ti ρ fun items ρ1 => forL g tb De items ρ1
theorem drop_cons {α : Type} {l : List α} {i : Nat} {x : α} (h : l[i]? = some x) : l.drop i = x :: l.drop (i + 1) := by
  obtain ⟨hi, rfl⟩ := List.getElem?_eq_some_iff.mp h
  exact List.drop_eq_getElem_cons hi
/-- a turn's item -/
theorem ItD.take {Γ : Fx} {K : PySem.W.Frag} {B H1 : Hp} {J : It} {items : List D} {σ : St} {ρ : Rho} {H H' : Hp} {i : Nat} {x : V} (A : ItD K B J items) (F : Fit Γ K H1 σ ρ H) (e : Same B H1) (hi : i < items.length) (y : J.yld i H x H') :
    ∃ d H2, items[i]? = some d ∧ Fit Γ K H2 σ ρ H' ∧ Same H1 H2 ∧ Rep K H2 x d := by
  obtain ⟨d, h1, h2⟩ := A.yields i H x H' hi (e.trans F.sub) y
  rcases h2 with ⟨rfl, r⟩ | ⟨T, zs, es, rfl, hT, rfl, r, rfl⟩
  · exact ⟨d, H1, h1, F, Same.refl _, r.mono e⟩
  · obtain ⟨F2, e2, r2⟩ := F.allocT hT (r.mono e)
    exact ⟨_, _, h1, F2, e2, r2⟩
end DL

/-! DL6: list comprehensions. -/
namespace DL
open PySem L2

def wipeR (ρ : Rho) : List Nat → Rho
  | [] => ρ
  | v :: vs => (wipeR ρ vs).set v none
/-- the slots vs as they were ahead -/
def oldV (ρ0 : Rho) (v : Nat) : Option S := match ρ0[v]? with
  | some (some (.v d)) => some (.v d)
  | _ => none
def restR (ρ0 : Rho) : List Nat → Rho → Rho
  | [], ρ => ρ
  | v :: vs, ρ => restR ρ0 vs (ρ.set v (oldV ρ0 v))
section
variable {Γ : Fx} {K : PySem.W.Frag} {H0 : Hp} {σ σ' : St} {ρ ρ' : Rho} {H : Hp} {v : Nat}
/-- one slot otherwise: forgotten, or data -/
theorem Fit.patch (F : Fit Γ K H0 σ ρ H) (hm : ∀ a, (v, a) ∉ Γ.mp) (hl : ρ'.length = σ'.length) (hσ : ∀ j : Nat, j ≠ v → σ'[j]? = σ[j]?) (hρ : ∀ j : Nat, j ≠ v → ρ'[j]? = ρ[j]?)
    (hv : ∀ s, ρ'[v]? = some (some s) → ∃ d x, s = .v d ∧ σ'[v]? = some (some x) ∧ Rep K H0 x d) : Fit Γ K H0 σ' ρ' H := by
  have ow : ∀ (j : Nat) s es, ρ'[j]? = some (some s) → s.own = some es → j ≠ v := fun j s es h1 h2 z => by
    subst z
    obtain ⟨d, _, rfl, _⟩ := hv s h1
    cases h2
  refine ⟨F.sub, F.s0, F.keep, F.new, hl, fun j s h => ?_, fun j ds p h1 h2 => ?_, fun j ds p h1 h2 => ?_, fun j k s t ds es p h1 h2 h3 h4 h5 h6 => ?_, fun j a h => ?_, fun q ys h => ?_, fun j x G hj a ha => ?_⟩
  · by_cases e : j = v
    · subst e
      obtain ⟨d, x, rfl, h1, h2⟩ := hv s h
      exact ⟨x, h1, h2⟩
    · rw [hρ j e] at h
      rw [hσ j e]
      exact F.slots j s h
  · have e := ow j _ ds h1 rfl
    rw [hρ j e] at h1
    rw [hσ j e] at h2
    exact F.loc j ds p h1 h2
  · have e := ow j _ ds h1 rfl
    rw [hρ j e] at h1
    rw [hσ j e] at h2
    exact F.par j ds p h1 h2
  · have e1 := ow j _ ds h1 h3
    have e2 := ow k _ es h2 h4
    rw [hρ j e1] at h1
    rw [hρ k e2] at h2
    rw [hσ j e1] at h5
    rw [hσ k e2] at h6
    exact F.dist j k s t ds es p h1 h2 h3 h4 h5 h6
  · have e : j ≠ v := fun z => by subst z; exact hm a h
    rw [hρ j e, hσ j e]
    exact F.mps j a h
  · obtain ⟨q1, q2, q3⟩ := F.tmp q ys h
    refine ⟨q1, q2, fun j s es h1 h2 => ?_⟩
    have e := ow j s es h1 h2
    rw [hρ j e] at h1
    rw [hσ j e]
    exact q3 j s es h1 h2
  · have gx : ∀ (j : Nat) y G, ρ'[j]? = some (some (.x y G)) → ρ[j]? = some (some (.x y G)) := fun j y G z => by
      have e : j ≠ v := fun z' => by
        subst z'
        obtain ⟨d, _, q, _⟩ := hv _ z
        cases q
      rw [hρ j e] at z
      exact z
    have X1 := F.ex j x G (gx j x G hj) a ha
    exact X1.tr X1.hs X1.tm (fun k s es q1 q2 => by
      have e := ow k s es q1 q2
      rw [hρ k e] at q1
      exact ⟨s, es, q1, q2, hσ k e⟩) fun k y G q => ⟨y, gx k y G q⟩
theorem set_other {α : Type} {l : List α} {i : Nat} {a : α} (j : Nat) (h : j ≠ i) : (l.set i a)[j]? = l[j]? := List.getElem?_set_ne (Ne.symm h)
theorem Fit.wipe (F : Fit Γ K H0 σ ρ H) : ∀ {vs : List Nat}, (∀ v ∈ vs, ∀ a, (v, a) ∉ Γ.mp) → Fit Γ K H0 (L2.wipe σ vs) (wipeR ρ vs) H
  | [], _ => F
  | v :: vs, h => by
    have F1 := F.wipe (vs := vs) fun u hu => h u (List.mem_cons_of_mem _ hu)
    refine F1.patch (v := v) (h v List.mem_cons_self) ?_ (fun j e => ?_) (fun j e => ?_) (fun s e => ?_)
    · simp only [L2.wipe, wipeR]
      rw [List.length_set, List.length_set]
      exact F1.len
    · simp only [L2.wipe]
      exact set_other j e
    · simp only [wipeR]
      exact set_other j e
    · simp only [wipeR] at e
      rw [List.getElem?_set] at e
      split at e
      · split at e <;> cases e
      · rename_i z
        exact absurd rfl z
theorem Fit.rest {B Hb : Hp} {ρ0 : Rho} (F0 : Fit Γ K B σ ρ0 Hb) (e : Same B H0) : ∀ {vs : List Nat} {ρ : Rho}, vs.Nodup → (∀ v ∈ vs, ∀ a, (v, a) ∉ Γ.mp) → Fit Γ K H0 (L2.wipe σ vs) ρ H → Fit Γ K H0 σ (restR ρ0 vs ρ) H
  | [], _, _, _, F => F
  | v :: vs, ρ, hn, h, F => by
    obtain ⟨n1, n2⟩ := List.nodup_cons.mp hn
    refine F0.rest e (vs := vs) n2 (fun u hu => h u (List.mem_cons_of_mem _ hu)) ?_
    have hlen : ρ.length = (L2.wipe σ vs).length := by
      have := F.len
      simp only [L2.wipe] at this
      rw [List.length_set] at this
      exact this
    refine F.patch (v := v) (h v List.mem_cons_self) ?_ (fun j z => ?_) (fun j z => set_other j z) (fun s z => ?_)
    · rw [List.length_set]
      exact hlen
    · simp only [L2.wipe]
      exact (set_other j z).symm
    · rw [List.getElem?_set] at z
      split at z
      · split at z
        · have z : oldV ρ0 v = some s := Option.some.inj z
          unfold oldV at z
          split at z
          · rename_i d q
            cases z
            obtain ⟨x, h1, h2⟩ := F0.slots v _ q
            exact ⟨d, x, rfl, by rw [L2.wipe_out n1]; exact h1, Rep.mono e h2⟩
          · cases z
        · cases z
      · rename_i zz
        exact absurd rfl zz
/-- the list that is being made grows -/
theorem Fit.tmSet {tm : List (Addr × List V)} {p : Addr} {xs ys : List V} (F : Fit (Γ.at ((p, xs) :: tm)) K H0 σ ρ H) (hs : Γ.Hs p = none) (hn : ∀ zs, (p, zs) ∉ tm) : Fit (Γ.at ((p, ys) :: tm)) K H0 σ ρ (upd H p (.lst ys)) := by
  obtain ⟨t1, t2, t3⟩ := F.tmp p xs List.mem_cons_self
  refine ⟨fun b u e => ?_, F.s0, fun a o e hm => ?_, F.new, F.len, fun i s h => ?_, F.loc, F.par, F.dist, F.mps, fun q zs h => ?_, fun j x G hj a ha => ?_⟩
  · have hne : b ≠ p := fun z => by subst z; rw [t2] at e; cases e
    rw [upd_ne hne]; exact F.sub _ _ e
  · have hne : a ≠ p := fun z => by subst z; rw [show Γ.Hs a = none from hs] at e; cases e
    rw [upd_ne hne]; exact F.keep a o e hm
  · obtain ⟨v, h1, h2⟩ := F.slots i s h
    refine ⟨v, h1, h2.stay (Same.refl _) (fun q ds ev es => ?_) fun x G ex a ha => ?_⟩
    · subst ev
      have hne : q ≠ p := fun z => by subst z; exact t3 i s ds h es h1
      exact ⟨(F.ownNone h es h1).1, upd_ne hne⟩
    · subst ex
      have hne : a ≠ p := fun z => by subst z; exact (F.ex i x G h a ha).tm xs List.mem_cons_self
      exact ⟨(F.xSome h ha).1, upd_ne hne⟩
  · rcases List.mem_cons.mp h with z | z
    · cases z
      exact ⟨upd_same, t2, t3⟩
    · obtain ⟨q1, q2, q3⟩ := F.tmp q zs (List.mem_cons_of_mem _ z)
      have hne : q ≠ p := fun w => by subst w; exact hn zs z
      exact ⟨by rw [upd_ne hne]; exact q1, q2, q3⟩
  · have X1 := F.ex j x G hj a ha
    refine X1.tr X1.hs (fun zs z => ?_) (fun k s es q1 q2 => ⟨s, es, q1, q2, rfl⟩) fun k y G q => ⟨y, q⟩
    rcases List.mem_cons.mp z with w | w
    · cases w; exact X1.tm xs List.mem_cons_self
    · exact X1.tm zs (List.mem_cons_of_mem _ w)
theorem Fit.tmNew {tm : List (Addr × List V)} {p : Addr} {xs : List V} (F : Fit (Γ.at tm) K H0 σ ρ H) (h : H p = none) : Fit (Γ.at ((p, xs) :: tm)) K H0 σ ρ (upd H p (.lst xs)) := by
  have F1 := (F.allocO (xs := xs) (ds := []) h)
  refine ⟨F.sub.trans (same_upd h), F.s0, fun a o e hm => same_upd h _ _ (F.keep a o e hm), F.new, F.len, fun i s q => ?_, F.loc, F.par, F.dist, F.mps, fun q zs hq => ?_, fun j x G hj a ha => ?_⟩
  · obtain ⟨v, h1, h2⟩ := F.slots i s q
    refine ⟨v, h1, h2.stay (Same.refl _) (fun q' ds ev es => ?_) fun x G ex a ha => ?_⟩
    · subst ev
      obtain ⟨g1, ys, g2, _⟩ := F.ownNone q es h1
      exact ⟨g1, upd_ne (ne_of_none g2 h)⟩
    · subst ex
      obtain ⟨g1, o, g2⟩ := F.xSome q ha
      exact ⟨g1, upd_ne (ne_of_none g2 h)⟩
  · rcases List.mem_cons.mp hq with z | z
    · cases z
      exact ⟨upd_same, F.none0 h, F.noSlot h⟩
    · obtain ⟨q1, q2, q3⟩ := F.tmp q zs z
      exact ⟨by rw [upd_ne (ne_of_none q1 h)]; exact q1, q2, q3⟩
  · have X1 := F.ex j x G hj a ha
    refine X1.tr X1.hs (fun zs z => ?_) (fun k s es q1 q2 => ⟨s, es, q1, q2, rfl⟩) fun k y G q => ⟨y, q⟩
    rcases List.mem_cons.mp z with w | w
    · cases w
      obtain ⟨_, o, g⟩ := F.xSome hj ha
      rw [h] at g; cases g
    · exact X1.tm zs w
theorem Fit.tmEnd {tm : List (Addr × List V)} {p : Addr} {xs : List V} (F : Fit (Γ.at ((p, xs) :: tm)) K H0 σ ρ H) : Fit (Γ.at tm) K H0 σ ρ H :=
  ⟨F.sub, F.s0, F.keep, F.new, F.len, F.slots, F.loc, F.par, F.dist, F.mps, fun q zs h => F.tmp q zs (List.mem_cons_of_mem _ h), fun j x G hj a ha => by
    have X1 := F.ex j x G hj a ha
    exact X1.tr X1.hs (fun zs z => X1.tm zs (List.mem_cons_of_mem _ z)) (fun k s es q1 q2 => ⟨s, es, q1, q2, rfl⟩) fun k y G q => ⟨y, q⟩⟩
end
theorem restX {ρ0 : Rho} {j : Nat} {y : OwnT} {G : List Addr} : ∀ {vs : List Nat} {ρ : Rho}, (restR ρ0 vs ρ)[j]? = some (some (.x y G)) → ρ[j]? = some (some (.x y G))
  | [], _, h => h
  | v :: vs, ρ, h => by
    have h := restX (vs := vs) h
    rw [List.getElem?_set] at h
    split at h
    · split at h
      · have z : oldV ρ0 v = some (.x y G) := Option.some.inj h
        unfold oldV at z
        split at z <;> cases z
      · cases h
    · exact h
/-- the tests of a comprehension -/
structure DIf (X : Cx) (Γ : Fx) (ifs : List Expr) (t : DTT) : Prop where
  run : ∀ tm, PTs X ifs (LT (Γ.at tm) X.K t)
def dYes : DTT := fun ρ R => R true ρ
section
variable {X : Cx} {Γ : Fx} {c e tg : Expr} {ifs : List Expr}
theorem dif_nil : DIf X Γ [] dYes := ⟨fun tm => ⟨fun pins s σ H Q I ⟨H0, ρ, R, F, t, k⟩ => pts_nil.run pins s σ H Q I (k true ρ H0 H t F (Same.refl _))⟩⟩
theorem peEx {t : DT} (h : DE X Γ e t) : PE X e (fun σ H Q => ∃ tm, LE (Γ.at tm) X.K t σ H Q) := ⟨fun pins s σ H Q I ⟨tm, q⟩ => (h.run tm).run pins s σ H Q I q⟩
theorem pgEx {g : DGT} {js : List Nat} (h : DGd X Γ tg js g) : PG X tg (fun v σ H Q => ∃ tm, LGd (Γ.at tm) X.K js g v σ H Q) := ⟨fun pins s σ H v u Q I r ⟨tm, q⟩ => (h.run tm).run pins s σ H v u Q I r q⟩
theorem ptsEx {t : DTT} (h : DIf X Γ ifs t) : PTs X ifs (fun σ H Q => ∃ tm, LT (Γ.at tm) X.K t σ H Q) := ⟨fun pins s σ H Q I ⟨tm, q⟩ => (h.run tm).run pins s σ H Q I q⟩
end
def compL (g : DGT) (tt : DTT) (te : DT) (vs : List Nat) : List D → List D → Rho → (List D → Rho → Prop) → Prop
  | [], acc, ρ, R => R acc ρ
  | x :: xs, acc, ρ, R => g (.v x) ρ fun ρ2 => tt ρ2 fun b ρ3 => IfB b (te ρ3 fun r ρ4 => acc.length < sizeLine ∧ compL g tt te vs xs (acc ++ [r.d]) (wipeR ρ4 vs) R) (compL g tt te vs xs acc (wipeR ρ3 vs) R)
/-- no slot of these is a parameter that may be changed -/
def noM (vs : List Nat) (ρ : Rho) : Bool := vs.all fun v => match ρ[v]? with
  | some (some (.m _)) => false
  | _ => true
def dLc (ti : DIT) (g : DGT) (tt : DTT) (te : DT) (vs : List Nat) : DT := fun ρ R => ti ρ fun items ρ1 => noM vs ρ1 = true ∧ compL g tt te vs items [] (wipeR ρ1 vs) fun acc ρn => R (.o acc) (restR ρ1 vs ρn)
theorem wipe_wipe {σ : St} : ∀ {js : List Nat}, L2.wipe (L2.wipe σ js) js = L2.wipe σ js := by
  intro js
  have key : ∀ (ks : List Nat), (∀ k ∈ ks, k ∈ js) → L2.wipe (L2.wipe σ ks) js = L2.wipe σ js := by
    intro ks
    induction ks with
    | nil => intro _; rfl
    | cons k ks ih =>
      intro h
      simp only [L2.wipe]
      rw [wipe_set (h k List.mem_cons_self)]
      exact ih fun u hu => h u (List.mem_cons_of_mem _ hu)
  exact key js fun _ h => h
section
variable {X : Cx} {Γ : Fx} {tg iter elt : Expr} {ifs : List Expr} {scope : Scope} {own : List (Str × Nat)} {pos : Pos} {ti : DIT} {g : DGT} {tt : DTT} {te : DT}
theorem lc_le {tm : List (Addr × List V)} {vs : List Nat} (hn : vs.Nodup) {σ : St} {H : Hp} {Q : VK} (h : LE (Γ.at tm) X.K (dLc ti g tt te vs) σ H Q) :
    tLc (LI (Γ.at tm) X.K ti) (fun v σ H Q => ∃ tm, LGd (Γ.at tm) X.K vs g v σ H Q) (fun σ H Q => ∃ tm, LT (Γ.at tm) X.K tt σ H Q) (fun σ H Q => ∃ tm, LE (Γ.at tm) X.K te σ H Q) vs σ H Q := by
  obtain ⟨H0, ρ, R, F, t, k⟩ := h
  refine ⟨H0, ρ, _, F, t, fun items ρ1 J B H1 q F1 e1 A => ?_⟩
  obtain ⟨qm, q⟩ := q
  have hmp : ∀ v ∈ vs, ∀ a, (v, a) ∉ Γ.mp := fun v hv a hm => by
    obtain ⟨_, ds, z⟩ := F1.mps v a hm
    have := List.all_eq_true.mp qm v hv
    rw [z] at this
    cases this
  intro L hL
  have hLs : Γ.Hs L = none := F1.noneS hL
  have hLt : ∀ zs, (L, zs) ∉ tm := F1.noTmp hL
  let St1 : Nat → Hp → Prop := fun i H => ∃ (H0 : Hp) (ρ : Rho) (xs : List V) (acc : List D), Fit (Γ.at ((L, xs) :: tm)) X.K H0 (L2.wipe σ vs) ρ H ∧ Reps X.K H0 xs acc ∧ Same B H0 ∧ compL g tt te vs (items.drop i) acc ρ fun acc ρn => R (.o acc) (restR ρ1 vs ρn)
  refine ⟨fun i m H => m = items.length - i ∧ i ≤ items.length ∧ St1 i H, ⟨items.length, rfl, Nat.zero_le _, B, wipeR ρ1 vs, [], [], (F1.wipe hmp).tmNew hL, .nil, Same.refl _, q⟩, ?_⟩
  rintro i m H2 ⟨rfl, hi, H3, ρ3, xs, acc, F3, r3, e3, q3⟩
  by_cases hlt : i < items.length
  · refine .inr ⟨A.goes i H2 hlt (e3.trans F3.sub), St1 (i + 1), fun H' z => ⟨items.length - (i + 1), by omega, rfl, hlt, z⟩, fun x H4 y => ?_⟩
    obtain ⟨d, H5, h1, F5, e5, r5⟩ := A.take F3 e3 hlt y
    rw [drop_cons h1] at q3
    refine ⟨(L, xs) :: tm, H5, ρ3, d, _, F5, r5, q3, fun ρ6 H6 σ6 H7 q6 F6 e6 w6 => ?_⟩
    have w6 : L2.wipe σ6 vs = L2.wipe σ vs := w6.trans wipe_wipe
    refine ⟨w6, (L, xs) :: tm, H6, ρ6, _, F6, q6, fun b ρ7 H8 H9 q7 F7 e7 => ?_⟩
    have e37 : Same H3 H8 := (e5.trans e6).trans e7
    cases b with
    | false =>
      replace q7 := q7.ff rfl
      show if false = true then _ else _
      rw [if_neg Bool.false_ne_true]
      have F8 := F7.wipe hmp
      rw [w6] at F8
      exact ⟨H8, _, xs, acc, F8, r3.mono e37, e3.trans e37, q7⟩
    | true =>
      replace q7 := q7.tt rfl
      show if true = true then _ else _
      rw [if_pos rfl]
      refine ⟨(L, xs) :: tm, H8, ρ7, _, F7, q7, fun r ρ9 v HA HB q9 F9 e9 r9 => ?_⟩
      obtain ⟨HC, FC, eC, rC⟩ := F9.freeze r9
      refine ⟨xs, (FC.tmp L xs List.mem_cons_self).1, by rw [r3.length]; exact q9.1, ?_⟩
      have F8 := (FC.tmSet (ys := xs ++ [v]) hLs hLt).wipe hmp
      rw [w6] at F8
      have eU := (e37.trans e9).trans eC
      exact ⟨HC, _, xs ++ [v], acc ++ [r.d], F8, (r3.mono eU).append (.cons rC .nil), e3.trans eU, q9.2⟩
  · have ei : i = items.length := by omega
    subst ei
    rw [List.drop_of_length_le (Nat.le_refl _)] at q3
    obtain ⟨g1, g2, g3⟩ := F3.tmp L xs List.mem_cons_self
    have FE := F1.rest e3 hn hmp F3.tmEnd
    refine .inl ⟨A.stops H2 (e3.trans F3.sub), k _ _ _ H3 H2 q3 FE (e1.trans e3) ⟨L, rfl, ⟨g2, xs, g1, r3⟩, hLs, hLt, fun j s es h1 h2 h3 => ?_, fun j y G h1 h2 => (F3.ex j y G (restX h1) L h2).tm xs List.mem_cons_self⟩⟩
    obtain ⟨_, ys, g4, _⟩ := FE.ownNone h1 h2 h3
    -- an own slot is one of the block's, or data
    have hj : j ∉ vs := fun hj => by
      have key : ∀ (ws : List Nat) (ρ' : Rho), (∃ o, ρ'[j]? = some o ∧ (o = none ∨ ∃ d, o = some (.v d))) → ∃ o, (restR ρ1 ws ρ')[j]? = some o ∧ (o = none ∨ ∃ d, o = some (.v d)) := by
        intro ws
        induction ws with
        | nil => intro ρ' z; exact z
        | cons w ws ih =>
          intro ρ' z
          refine ih _ ?_
          obtain ⟨o, z1, z2⟩ := z
          have hjl := (List.getElem?_eq_some_iff.mp z1).1
          rw [List.getElem?_set]
          split
          · rename_i ew
            rw [if_pos (by rw [ew]; exact hjl)]
            refine ⟨_, rfl, ?_⟩
            unfold oldV
            split
            · exact .inr ⟨_, rfl⟩
            · exact .inl rfl
          · exact ⟨o, z1, z2⟩
      have key2 : ∀ (ws : List Nat), j ∈ ws → ∀ (ρ' : Rho), j < ρ'.length → ∃ o, (restR ρ1 ws ρ')[j]? = some o ∧ (o = none ∨ ∃ d, o = some (.v d)) := by
        intro ws
        induction ws with
        | nil => intro z; cases z
        | cons w ws ih =>
          intro z ρ' hjl
          by_cases ew : w = j
          · subst ew
            refine key ws _ ⟨oldV ρ1 w, by rw [List.getElem?_set_self hjl], ?_⟩
            unfold oldV
            split
            · exact .inr ⟨_, rfl⟩
            · exact .inl rfl
          · refine ih ?_ _ (by rw [List.length_set]; exact hjl)
            rcases List.mem_cons.mp z with z | z
            · exact absurd z.symm ew
            · exact z
      have hl : j < ρ3.length := by
        have h0 := (List.getElem?_eq_some_iff.mp h3).1
        have h4 := F3.len
        rw [L2.wipe_length] at h4
        omega
      obtain ⟨o, z1, z2⟩ := key2 vs hj ρ3 hl
      rw [h1] at z1
      cases z1
      rcases z2 with z2 | ⟨d, z2⟩
      · cases z2
      · cases z2
        cases h2
    have hρ : (restR ρ1 vs ρ3)[j]? = ρ3[j]? := by
      have key : ∀ (ws : List Nat), j ∉ ws → ∀ ρ' : Rho, (restR ρ1 ws ρ')[j]? = ρ'[j]? := by
        intro ws
        induction ws with
        | nil => intro _ _; rfl
        | cons w ws ih =>
          intro z ρ'
          simp only [List.mem_cons, not_or] at z
          show (restR ρ1 ws (ρ'.set w (oldV ρ1 w)))[j]? = ρ'[j]?
          rw [ih z.2]
          exact set_other j z.1
      exact key vs hj ρ3
    rw [hρ] at h1
    exact g3 j s es h1 h2 (by rw [L2.wipe_out hj]; exact h3)
theorem de_lc (hc : X.calm = true) (hN : X.N.Nodup) (hi : DI X Γ tg iter ti) (ok : BlkOk X.N X.env.scope scope own)
    (hg : ∀ (s : Shared) (H : Hp) (C : Addr) (cl : List (Str × Addr)) (fp : List Addr), DGd (X.blk s H scope (compEnvC scope cl C X.env) fp) Γ tg (own.map (·.2)) g) (ht : ∀ (s : Shared) (H : Hp) (C : Addr) (cl : List (Str × Addr)) (fp : List Addr), DIf (X.blk s H scope (compEnvC scope cl C X.env) fp) Γ ifs tt)
    (he : ∀ (s : Shared) (H : Hp) (C : Addr) (cl : List (Str × Addr)) (fp : List Addr), DE (X.blk s H scope (compEnvC scope cl C X.env) fp) Γ elt te) (hn : (own.map (·.2)).Nodup := by decide) (hs : ∀ x, foldedSetIterable iter X.env x = pure x := by intro _; rfl) :
    DE X Γ (.ListComp elt [⟨tg, iter, ifs, 0⟩] scope pos) (dLc ti g tt te (own.map (·.2))) :=
  ⟨fun tm => peLe (pe_lc hc hN (hi.run tm) ok (fun s H C cl fp => pgEx (hg s H C cl fp)) (fun s H C cl fp => ptsEx (ht s H C cl fp)) (fun s H C cl fp => peEx (he s H C cl fp)) hs) fun σ H Q h => lc_le hn h⟩
end
end DL

/-! DL7: calls of the text's defs, a def's promise over data. -/
namespace DL
open PySem L2

/-! ### data without lists: it stands whatever becomes of lists -/
mutual
def D.imm : D → Bool
  | .lst _ => false
  | .rol _ => false
  | .tup ds => immL ds
  | .ins _ fs => immF fs
  | .exc _ _ d => d.imm
  | .non => true
  | .bl _ => true
  | .int _ => true
  | .str _ => true
  | .ty _ => true
  | .cls _ => true
  | .adr _ => true
def immL : List D → Bool
  | [] => true
  | d :: ds => d.imm && immL ds
def immF : List (Str × D) → Bool
  | [] => true
  | (_, d) :: ds => d.imm && immF ds
end
def immK : List (Key × D) → Bool
  | [] => true
  | (_, d) :: ds => d.imm && immK ds
def immI : List (D ⊕ List D) → Bool
  | [] => true
  | .inl d :: ds => d.imm && immI ds
  | .inr es :: ds => immL es && immI ds
mutual
def Fld.imm : Fld → Bool
  | .dat d => d.imm
  | .lst ds => immL ds
  | .obj _ fs => immFs fs
def immFs : List (Str × Fld) → Bool
  | [] => true
  | (_, x) :: fs => x.imm && immFs fs
end
def OwnT.imm : OwnT → Bool
  | .obj _ fs => immFs fs
  | .dic kvs => immK kvs
  | .box _ its => immI its
def S.imm : S → Bool
  | .v d => d.imm
  | .o ds => immL ds
  | .m _ => false
  | .x y _ => y.imm
/-- B taken away -/
def offB (H : Hp) (B : List Addr) : Hp := fun a => if a ∈ B then none else H a
section
variable {K : PySem.W.Frag} {H : Hp} {B : List Addr}
theorem offB_ne {a : Addr} (h : a ∉ B) : offB H B a = H a := by unfold offB; rw [if_neg h]
theorem offB_in {a : Addr} (h : a ∈ B) : offB H B a = none := by unfold offB; rw [if_pos h]
theorem offB_sub : Same (offB H B) H := fun a o e => by
  by_cases h : a ∈ B
  · rw [offB_in h] at e; cases e
  · rw [offB_ne h] at e; exact e
theorem offB_nil : offB H [] = H := by funext a; unfold offB; rw [if_neg (by simp)]
theorem seqT_off (hB : ∀ b ∈ B, ∃ xs, H b = some (.lst xs)) {a : Addr} {xs : List V} (h : SqT K H a xs) : SqT K (offB H B) a xs := by
  have ne : ∀ o, H a = some o → (∀ xs, o ≠ .lst xs) → offB H B a = some o := fun o e n => by
    rw [offB_ne fun hb => ?_]
    · exact e
    · obtain ⟨xs, q⟩ := hB a hb
      rw [q] at e; cases e
      exact n xs rfl
  rcases h with (h | ⟨o, h⟩) | h
  · exact .inl (.inl (ne _ h (by simp)))
  · exact .inl (.inr ⟨o, ne _ h (by simp)⟩)
  · exact .inr h
mutual
theorem Rep.off (hB : ∀ b ∈ B, ∃ xs, H b = some (.lst xs)) : ∀ {v : V} {d : D}, Rep K H v d → d.imm = true → Rep K (offB H B) v d
  | _, _, .non, _ => .non
  | _, _, .bl b, _ => .bl b
  | _, _, .int i, _ => .int i
  | _, _, .str x, _ => .str x
  | _, _, .ty n e, _ => .ty n e
  | _, _, .cls C, _ => .cls C
  | _, _, .adr, _ => .adr
  | _, _, .lst h r, e => by rw [D.imm] at e; cases e
  | _, _, .rol h r, e => by rw [D.imm] at e; cases e
  | _, _, .tup h r, e => .tup (seqT_off hB h) (Reps.off hB r (by rw [D.imm] at e; exact e))
  | _, _, .exc (a := a) (dx := dx) (C := C) (f := f) h1 h2 r, e => .exc (by
      rw [offB_ne fun hb => ?_]
      · exact h1
      · obtain ⟨xs, q⟩ := hB a hb
        rw [q] at h1; cases h1) (by
      rw [offB_ne fun hb => ?_]
      · exact h2
      · obtain ⟨xs, q⟩ := hB dx hb
        rw [q] at h2; cases h2) (Rep.off hB r (by rw [D.imm] at e; exact e))
  | _, _, .ins (a := a) (C := C) (dx := dx) (fs := fs) h r, e => .ins (by
      rw [offB_ne fun hb => ?_]
      · exact h
      · obtain ⟨xs, q⟩ := hB a hb
        rw [q] at h; cases h) (RepF.off hB r (by rw [D.imm] at e; exact e))
theorem Reps.off (hB : ∀ b ∈ B, ∃ xs, H b = some (.lst xs)) : ∀ {vs : List V} {ds : List D}, Reps K H vs ds → immL ds = true → Reps K (offB H B) vs ds
  | _, _, .nil, _ => .nil
  | _, _, .cons r t, e => by
    rw [immL, Bool.and_eq_true] at e
    exact .cons (Rep.off hB r e.1) (Reps.off hB t e.2)
theorem RepF.off (hB : ∀ b ∈ B, ∃ xs, H b = some (.lst xs)) : ∀ {vs : List (Str × V)} {ds : List (Str × D)}, RepF K H vs ds → immF ds = true → RepF K (offB H B) vs ds
  | _, _, .nil, _ => .nil
  | _, _, .cons r t, e => by
    rw [immF, Bool.and_eq_true] at e
    exact .cons (Rep.off hB r e.1) (RepF.off hB t e.2)
end
theorem KReps.off (hB : ∀ b ∈ B, ∃ xs, H b = some (HO.lst xs)) : ∀ {vs : List (Key × V)} {ds : List (Key × D)}, KReps K H vs ds → immK ds = true → KReps K (offB H B) vs ds
  | _, _, .nil, _ => .nil
  | _, _, .cons r t, e => by
    rw [immK, Bool.and_eq_true] at e
    exact .cons (r.off hB e.1) (t.off hB e.2)
theorem IReps.off {H' : Hp} (hB : ∀ b ∈ B, ∃ xs, H b = some (HO.lst xs)) : ∀ {vs : List V} {ds : List (D ⊕ List D)} {F : List Addr}, IReps K H H' vs ds F → immI ds = true → IReps K (offB H B) H' vs ds F
  | _, _, _, .nil, _ => .nil
  | _, _, _, .dat r t, e => by
    rw [immI, Bool.and_eq_true] at e
    exact .dat (r.off hB e.1) (t.off hB e.2)
  | _, _, _, .own h r t, e => by
    rw [immI, Bool.and_eq_true] at e
    exact .own h (r.off hB e.1) (t.off hB e.2)
mutual
theorem FRep.off {H' : Hp} (hB : ∀ b ∈ B, ∃ xs, H b = some (HO.lst xs)) : ∀ {v : V} {x : Fld} {F : List Addr}, FRep K H H' v x F → x.imm = true → FRep K (offB H B) H' v x F
  | _, _, _, .dat r, e => .dat (r.off hB (by rw [Fld.imm] at e; exact e))
  | _, _, _, .lst h r, e => .lst h (r.off hB (by rw [Fld.imm] at e; exact e))
  | _, _, _, .obj h1 h2 r, e => .obj h1 h2 (FReps.off hB r (by rw [Fld.imm] at e; exact e))
theorem FReps.off {H' : Hp} (hB : ∀ b ∈ B, ∃ xs, H b = some (HO.lst xs)) : ∀ {vs : List (Str × V)} {fs : List (Str × Fld)} {F : List Addr}, FReps K H H' vs fs F → immFs fs = true → FReps K (offB H B) H' vs fs F
  | _, _, _, .nil, _ => .nil
  | _, _, _, .cons r t, e => by
    rw [immFs, Bool.and_eq_true] at e
    exact .cons (FRep.off hB r e.1) (FReps.off hB t e.2)
end
theorem XAt.off {H' : Hp} {v : V} {x : OwnT} {F : List Addr} (hB : ∀ b ∈ B, ∃ xs, H b = some (HO.lst xs)) (h : XAt K H H' v x F) (e : x.imm = true) : XAt K (offB H B) H' v x F := by
  obtain ⟨h1, h2⟩ := h
  refine ⟨fun a ha => offB_sub.free (h1 a ha), ?_⟩
  cases x with
  | obj C fs => exact ⟨FRep.off hB h2.1 (by rw [Fld.imm]; exact e), h2.2⟩
  | dic kvs =>
    obtain ⟨p, ws, rfl, rfl, q1, q2⟩ := h2
    exact ⟨p, ws, rfl, rfl, q1, q2.off hB e⟩
  | box t its =>
    cases t with
    | true =>
      obtain ⟨p, ys, rfl, q1, q2, q3⟩ := h2
      refine ⟨p, ys, rfl, ?_, q2.off hB e, q3⟩
      rw [offB_ne fun hb => ?_]
      · exact q1
      · obtain ⟨xs, q⟩ := hB p hb
        rw [q] at q1; cases q1
    | false =>
      obtain ⟨p, ys, G, rfl, rfl, q1, q2, q3⟩ := h2
      exact ⟨p, ys, G, rfl, rfl, q1, q2.off hB e, q3⟩
end

/-! ### a def's promise -/
/-- an exception: its class, its field's name, the field, the changed list -/
abbrev DXP := Str → Str → D → List D → Prop
/-- arguments (at most one of them a list that may be changed); the answer and the changed list; the exception -/
abbrev DSp := List S → (S → List D → Prop) → DXP → Prop
def ARep (K : PySem.W.Frag) (H0 H : Hp) (v : V) : S → Prop
  | .v d => Rep K H0 v d
  | .m ds => ∃ p, v = .ref p ∧ OwnAt K H0 H p ds
  | .o _ => False
  | .x _ _ => False
inductive AReps (K : PySem.W.Frag) (H0 H : Hp) : List V → List S → Prop
  | nil : AReps K H0 H [] []
  | cons {v : V} {s : S} {vs : List V} {as : List S} : ARep K H0 H v s → AReps K H0 H vs as → AReps K H0 H (v :: vs) (s :: as)
theorem AReps.length {K : PySem.W.Frag} {H0 H : Hp} : ∀ {vs : List V} {as : List S}, AReps K H0 H vs as → vs.length = as.length
  | _, _, .nil => rfl
  | _, _, .cons _ t => by rw [List.length_cons, List.length_cons, t.length]
theorem AReps.get {K : PySem.W.Frag} {H0 H : Hp} : ∀ {vs : List V} {as : List S} {i : Nat} {s : S}, AReps K H0 H vs as → as[i]? = some s → ∃ v, vs[i]? = some v ∧ ARep K H0 H v s
  | _, _, _, _, .nil, e => by simp at e
  | _, _, 0, _, .cons r _, e => by simp at e; subst e; exact ⟨_, rfl, r⟩
  | _, _, i + 1, d, .cons _ t, e => by
    obtain ⟨u, h1, h2⟩ := AReps.get (i := i) (s := d) t (by simpa using e)
    exact ⟨u, by simpa using h1, h2⟩
theorem AReps.append {K : PySem.W.Frag} {H0 H : Hp} : ∀ {vs ws : List V} {as bs : List S}, AReps K H0 H vs as → AReps K H0 H ws bs → AReps K H0 H (vs ++ ws) (as ++ bs)
  | _, _, _, _, .nil, s => s
  | _, _, _, _, .cons r t, s => .cons r (t.append s)
theorem Reps.areps {K : PySem.W.Frag} {H0 H : Hp} : ∀ {vs : List V} {ds : List D}, Reps K H0 vs ds → AReps K H0 H vs (ds.map S.v)
  | _, _, .nil => .nil
  | _, _, .cons r t => .cons r t.areps
/-- the lists that may be changed, by place -/
def mpOf : Nat → List V → List S → List (Nat × Addr)
  | i, .ref p :: vs, .m _ :: as => (i, p) :: mpOf (i + 1) vs as
  | i, _ :: vs, _ :: as => mpOf (i + 1) vs as
  | _, _, _ => []
def cntM : List S → Nat
  | [] => 0
  | .m _ :: as => cntM as + 1
  | .v _ :: as => cntM as
  | .o _ :: as => cntM as
  | .x _ _ :: as => cntM as
/-- nothing that stood is changed but M; what is frozen grows by new things -/
structure Stp (M : List Addr) (H0 H H0' H' : Hp) : Prop where
  sub : Same H0 H0'
  top : Same H0' H'
  keep : ∀ a o, H a = some o → a ∉ M → H' a = some o
  new : ∀ a o, H0' a = some o → H0 a = none → H a = none
def RRes (K : PySem.W.Frag) (H H0' H' : Hp) (v : V) : S → Prop
  | .v d => Rep K H0' v d
  | .o ds => ∃ p, v = .ref p ∧ OwnAt K H0' H' p ds ∧ H p = none
  | .m _ => False
  | .x x F => XAt K H0' H' v x F ∧ ∀ a ∈ F, H a = none
def LSp (K : PySem.W.Frag) (sp : DSp) : Sp := fun vs H Q E => ∃ H0 as R RX, Same H0 H ∧ AReps K H0 H vs as ∧ cntM as ≤ 1 ∧ sp as R RX ∧
  (∀ r es v H0' H', R r es → Stp ((mpOf 0 vs as).map (·.2)) H0 H H0' H' → (∀ p ∈ (mpOf 0 vs as).map (·.2), OwnAt K H0' H' p es) → RRes K H H0' H' v r → Q v H') ∧
  (∀ C f d es e v H0' H', RX C f d es → Stp ((mpOf 0 vs as).map (·.2)) H0 H H0' H' → (∀ p ∈ (mpOf 0 vs as).map (·.2), OwnAt K H0' H' p es) → H e = none → H0' e = none → H' e = some (.xd [(f, v)]) → Rep K H0' v d → E (.ref (He.ga K C)) (some e) H')
theorem mem_mpOf {K : PySem.W.Frag} {H0 H : Hp} : ∀ {vs : List V} {as : List S} {n i : Nat} {a : Addr}, AReps K H0 H vs as → (i, a) ∈ mpOf n vs as → n ≤ i ∧ vs[i - n]? = some (.ref a) ∧ ∃ ds, as[i - n]? = some (.m ds)
  | _, _, n, i, a, .nil, h => by unfold mpOf at h; cases h
  | v :: vs, s :: as, n, i, a, .cons r t, h => by
    have tail : (i, a) ∈ mpOf (n + 1) vs as → n ≤ i ∧ (v :: vs)[i - n]? = some (.ref a) ∧ ∃ ds, (s :: as)[i - n]? = some (.m ds) := fun z => by
      obtain ⟨h1, h2, h3⟩ := mem_mpOf t z
      have e : i - n = (i - (n + 1)) + 1 := by omega
      rw [e, List.getElem?_cons_succ, List.getElem?_cons_succ]
      exact ⟨by omega, h2, h3⟩
    cases s with
    | v d => cases v <;> (unfold mpOf at h; exact tail h)
    | o d => exact r.elim
    | x x F => exact r.elim
    | m ds =>
      obtain ⟨p, rfl, _⟩ := r
      unfold mpOf at h
      rcases List.mem_cons.mp h with z | z
      · cases z
        exact ⟨Nat.le_refl _, by simp, ds, by simp⟩
      · exact tail z
theorem mpOf_mem {K : PySem.W.Frag} {H0 H : Hp} : ∀ {vs : List V} {as : List S} {n i : Nat} {a : Addr} {ds : List D}, AReps K H0 H vs as → as[i]? = some (.m ds) → vs[i]? = some (.ref a) → (n + i, a) ∈ mpOf n vs as
  | _, _, n, i, a, ds, .nil, h, _ => by simp at h
  | v :: vs, s :: as, n, 0, a, ds, .cons r t, h, h2 => by
    simp only [List.getElem?_cons_zero, Option.some.injEq] at h h2
    subst h h2
    unfold mpOf
    exact List.mem_cons_self
  | v :: vs, s :: as, n, i + 1, a, ds, .cons r t, h, h2 => by
    rw [List.getElem?_cons_succ] at h h2
    have ih := mpOf_mem (n := n + 1) t h h2
    have e : n + (i + 1) = n + 1 + i := by omega
    rw [e]
    cases s with
    | v d => cases v <;> (unfold mpOf; exact ih)
    | o d => exact r.elim
    | x x F => exact r.elim
    | m es =>
      obtain ⟨p, rfl, _⟩ := r
      unfold mpOf
      exact List.mem_cons_of_mem _ ih
theorem cntM_get : ∀ {as : List S} {i : Nat} {ds : List D}, as[i]? = some (.m ds) → 1 ≤ cntM as
  | [], _, _, h => by simp at h
  | s :: as, 0, ds, h => by
    simp only [List.getElem?_cons_zero, Option.some.injEq] at h
    subst h
    rw [cntM]; omega
  | s :: as, i + 1, ds, h => by
    rw [List.getElem?_cons_succ] at h
    have := cntM_get h
    cases s <;> (rw [cntM]; omega)
theorem cntM_one : ∀ {as : List S} {i j : Nat} {ds es : List D}, cntM as ≤ 1 → as[i]? = some (.m ds) → as[j]? = some (.m es) → i = j
  | [], _, _, _, _, _, h, _ => by simp at h
  | s :: as, 0, 0, _, _, _, _, _ => rfl
  | s :: as, 0, j + 1, ds, es, hc, h1, h2 => by
    simp only [List.getElem?_cons_zero, Option.some.injEq] at h1
    subst h1
    rw [List.getElem?_cons_succ] at h2
    have := cntM_get h2
    rw [cntM] at hc
    omega
  | s :: as, i + 1, 0, ds, es, hc, h1, h2 => by
    simp only [List.getElem?_cons_zero, Option.some.injEq] at h2
    subst h2
    rw [List.getElem?_cons_succ] at h1
    have := cntM_get h1
    rw [cntM] at hc
    omega
  | s :: as, i + 1, j + 1, ds, es, hc, h1, h2 => by
    rw [List.getElem?_cons_succ] at h1 h2
    have hc' : cntM as ≤ 1 := by cases s <;> (rw [cntM] at hc; omega)
    rw [cntM_one hc' h1 h2]
/-- the slots at a def's start -/
def startR (n : Nat) (as : List S) : Rho := as.map some ++ List.replicate (n - as.length) none
/-- the changed list behind the body -/
def outM : List S → Rho → List D
  | [], _ => []
  | .m _ :: _, some (.m es) :: _ => es
  | _ :: as, _ :: ρ => outM as ρ
  | _, _ => []
theorem outM_get : ∀ {as : List S} {ρ : Rho} {i : Nat} {ds es : List D}, cntM as ≤ 1 → as[i]? = some (.m ds) → ρ[i]? = some (some (.m es)) → outM as ρ = es
  | [], _, _, _, _, _, h, _ => by simp at h
  | _ :: _, [], _, _, _, _, _, h => by simp at h
  | s :: as, o :: ρ, 0, ds, es, hc, h1, h2 => by
    simp only [List.getElem?_cons_zero, Option.some.injEq] at h1 h2
    subst h1 h2
    rfl
  | s :: as, o :: ρ, i + 1, ds, es, hc, h1, h2 => by
    rw [List.getElem?_cons_succ] at h1 h2
    have hc' : cntM as ≤ 1 := by cases s <;> (rw [cntM] at hc; omega)
    have ih := outM_get hc' h1 h2
    cases s with
    | v d => simp only [outM]; exact ih
    | o d => simp only [outM]; exact ih
    | x x F => simp only [outM]; exact ih
    | m d =>
      have := cntM_get h1
      rw [cntM] at hc
      omega
section
variable {K : PySem.W.Frag} {H0 H : Hp} {vs : List V} {as : List S} {n : Nat}
abbrev fx0 (H0 H : Hp) (vs : List V) (as : List S) : Fx := ⟨mpOf 0 vs as, H0, H, []⟩
theorem get_pad {α : Type} {l : List α} {m i : Nat} {x : α} (h : (l.map some ++ List.replicate m none)[i]? = some (some x)) : l[i]? = some x := by
  by_cases hi : i < l.length
  · rw [List.getElem?_append_left (by rw [List.length_map]; exact hi), List.getElem?_map] at h
    cases q : l[i]? with
    | none => rw [q] at h; cases h
    | some y => rw [q] at h; cases h; rfl
  · rw [List.getElem?_append_right (by rw [List.length_map]; omega), List.getElem?_replicate] at h
    split at h <;> cases h
theorem pad_get {α : Type} {l : List α} {m i : Nat} {x : α} (h : l[i]? = some x) : (l.map some ++ List.replicate m none)[i]? = some (some x) := by
  have hi := (List.getElem?_eq_some_iff.mp h).1
  rw [List.getElem?_append_left (by rw [List.length_map]; exact hi), List.getElem?_map, h]
  rfl
theorem fit_start {N : List Str} (e : Same H0 H) (r : AReps K H0 H vs as) (hc : cntM as ≤ 1) (hl : vs.length ≤ N.length) : Fit (fx0 H0 H vs as) K H0 (L2.start N vs) (startR N.length as) H := by
  have hlen := r.length
  have own : ∀ (i : Nat) s ds, (startR N.length as)[i]? = some (some s) → s.own = some ds → as[i]? = some (.m ds) := fun i s ds h1 h2 => by
    have h3 := get_pad h1
    obtain ⟨v, _, h4⟩ := r.get h3
    cases s with
    | v d => cases h2
    | o d => exact h4.elim
    | m d => cases h2; exact h3
    | x x F => cases h2
  refine ⟨e, Same.refl _, fun a o h _ => h, fun a o h1 h2 => ?_, ?_, fun i s h => ?_, fun i ds p h1 h2 => ?_, fun i ds p h1 h2 => ?_, fun i j s t ds es p h1 h2 h3 h4 h5 h6 => ?_, fun i a h => ?_, (fun p xs h => by cases h), fun i x F h a ha => ?_⟩
  · have h2 : H0 a = none := h2
    rw [h2] at h1; cases h1
  · unfold startR L2.start
    rw [List.length_append, List.length_append, List.length_map, List.length_map, List.length_replicate, List.length_replicate]
    omega
  · have h3 := get_pad h
    obtain ⟨v, h4, h5⟩ := r.get h3
    refine ⟨v, pad_get h4, ?_⟩
    cases s with
    | v d => exact h5
    | o d => exact h5.elim
    | m d => exact h5
    | x x F => exact h5.elim
  · have h3 := own i _ ds h1 rfl
    have h4 := get_pad h1
    rw [h4] at h3; cases h3
  · have h3 := own i _ ds h1 rfl
    have := mpOf_mem (n := 0) r h3 (get_pad h2)
    rw [Nat.zero_add] at this
    exact this
  · exact cntM_one hc (own i s ds h1 h3) (own j t es h2 h4)
  · obtain ⟨h1, h2, ds, h3⟩ := mem_mpOf r h
    rw [Nat.sub_zero] at h2 h3
    exact ⟨pad_get h2, ds, pad_get h3⟩
  · obtain ⟨v, _, h5⟩ := r.get (get_pad h)
    exact h5.elim
/-- the ends of a def's body -/
def defEnds (as : List S) (R : S → List D → Prop) : DEnds where
  nx := fun ρ => R (.v .non) (outM as ρ)
  rt := fun r ρ => R r (outM as ρ)
theorem fit_end {σ : St} {ρ : Rho} {H0' H' : Hp} (r : AReps K H0 H vs as) (hc : cntM as ≤ 1) (F : Fit (fx0 H0 H vs as) K H0' σ ρ H') :
    Stp ((mpOf 0 vs as).map (·.2)) H0 H H0' H' ∧ ∀ p ∈ (mpOf 0 vs as).map (·.2), OwnAt K H0' H' p (outM as ρ) := by
  refine ⟨⟨F.s0, F.sub, F.keep, F.new⟩, fun p hp => ?_⟩
  obtain ⟨⟨i, a⟩, hm, rfl⟩ := List.mem_map.mp hp
  obtain ⟨h1, es, h2⟩ := F.mps i a hm
  obtain ⟨_, _, ds, h3⟩ := mem_mpOf r hm
  rw [Nat.sub_zero] at h3
  rw [outM_get hc h3 h2]
  exact F.ownNone h2 rfl h1
end
/-- a def that lets nothing out keeps its promise -/
theorem fn_ok0 {P : Program} {w : World} {K : PySem.W.Frag} {mg : Str → Option Value} {base : Heap} {x qual : Str} {params : Arguments} {body : List Stmt} {scope : Scope} {dvs : List V} {kws : List (Str × V)} {f : Addr} {fd : FuncData} {N ps : List Str} {k : Nat} {sp : DSp} {t : DST}
    (F : FunD K x qual params body scope dvs kws f fd) (Sc : FnScope N ps scope) (hN : ps.length ≤ N.length) (len : ∀ as R RX, sp as R RX → as.length = ps.length)
    (hd : ∀ (cdv : Value) (A : Around) (outer : List Env) (s : Shared) (H : Hp) (E : XK) (Γ : Fx), Room k (A.deeper (PyProof.Rows.envOfC qual scope s.heap.objs.size f cdv)) → DSs (cxOf CX0 P w K mg base N qual scope f cdv A outer s H E).nox Γ body t)
    (hp : ∀ as R RX, sp as R RX → cntM as ≤ 1 → t (defEnds as R) (startR N.length as)) : FnOk P w K mg base CX0 (k + 1) f fd ps (LSp K sp) := by
  refine F.ok Sc (fun vs H Q E h => ?_) (fun cdv A outer s H vs Q E hr h => ?_)
  · obtain ⟨H0, as, R, RX, _, r, _, q, _⟩ := h
    rw [r.length]
    exact len as R RX q
  · obtain ⟨H0, as, R, RX, e, r, hc, q, k1, _⟩ := h
    have hl : vs.length ≤ N.length := by rw [r.length, len as R RX q]; exact hN
    refine ⟨_, PSs.nox ((hd cdv A outer s H E (fx0 H0 H vs as) hr).run []), H0, _, defEnds as R, fit_start e r hc hl, hp as R RX q hc, ?_⟩
    refine ⟨fun H0' σ ρ H' q F' _ => ?_, fun H0' σ ρ H' v r' q F' _ rr => ?_, fun _ _ _ _ q => q.elim, fun _ _ _ _ q => q.elim⟩
    · obtain ⟨h1, h2⟩ := fit_end r hc F'
      exact k1 _ _ _ H0' H' q h1 h2 Rep.non
    · obtain ⟨h1, h2⟩ := fit_end r hc F'
      refine k1 _ _ v H0' H' q h1 h2 ?_
      cases r' with
      | v d => exact rr
      | o ds => exact rr
      | m ds => exact rr
      | x x F => exact rr
/-! ### calls -/
def isOwnB (ρ : Rho) (j : Nat) : Bool := match ρ[j]? with
  | some (some (.o _)) => true
  | some (some (.m _)) => true
  | _ => false
/-- some argument is an own list of the caller's, lent -/
def bor (ρ : Rho) (hs : List Hd) : Bool := hs.any fun h => match h with
  | .slot j => isOwnB ρ j
  | .val _ => false
/-- f(..) of a def that changes none of its arguments -/
def dCall (sp : DSp) (dd : List D) (ta : DAT) : DT := fun ρ R => ta ρ fun hs ρ1 => match gets ρ1 hs with
  | some ds => sp ((ds ++ dd).map S.v) (fun r _ => (bor ρ1 hs = true → r.imm = true) ∧ R r ρ1) fun _ _ _ _ => False
  | none => False
/-- f(..) whose k-th argument is a slot's own list that may be changed -/
def dCallM (k : Nat) (sp : DSp) (dd : List D) (ta : DAT) : DT := fun ρ R => ta ρ fun hs ρ1 => match hs[k]? with
  | some (.slot j) => (∀ l, l ≠ k → hs[l]? ≠ some (.slot j)) ∧ (match ρ1[j]?, gets ρ1 hs with
    | some (some s), some ds => (match s.own with
      | some cs => sp (((ds ++ dd).map S.v).set k (.m cs)) (fun r es => (bor ρ1 (hs.eraseIdx k) = true → r.imm = true) ∧ R r (ρ1.set j (some (s.wth es)))) fun _ _ _ _ => False
      | none => False)
    | _, _ => False)
  | _ => False
/-- f(e), e a new list that may be changed -/
def dCallT (sp : DSp) (te : DT) : DT := fun ρ R => te ρ fun r ρ1 => match r with
  | .o ds => sp [.m ds] (fun r _ => R r ρ1) fun _ _ _ _ => False
  | _ => False
section
variable {Γ : Fx} {K : PySem.W.Frag} {H0 H : Hp} {σ : St} {ρ : Rho} {B : List Addr}
/-- lent: B stands frozen meanwhile -/
def lendB (H0 H : Hp) (B : List Addr) : Hp := fun a => if a ∈ B then H a else H0 a
theorem lend_in {a : Addr} (h : a ∈ B) : lendB H0 H B a = H a := by unfold lendB; rw [if_pos h]
theorem lend_ne {a : Addr} (h : a ∉ B) : lendB H0 H B a = H0 a := by unfold lendB; rw [if_neg h]
/-- B: own lists of slots -/
def Lent (σ : St) (ρ : Rho) (B : List Addr) : Prop := ∀ b ∈ B, ∃ (i : Nat) (s : S) (ds : List D), ρ[i]? = some (some s) ∧ s.own = some ds ∧ σ[i]? = some (some (.ref b))
theorem Fit.lent (F : Fit Γ K H0 σ ρ H) (hB : Lent σ ρ B) {b : Addr} (h : b ∈ B) : H0 b = none ∧ ∃ xs ds, H b = some (.lst xs) ∧ Reps K H0 xs ds := by
  obtain ⟨i, s, ds, h1, h2, h3⟩ := hB b h
  obtain ⟨g1, xs, g2, g3⟩ := F.ownNone h1 h2 h3
  exact ⟨g1, xs, ds, g2, g3⟩
theorem Fit.lendSub (F : Fit Γ K H0 σ ρ H) (hB : Lent σ ρ B) : Same H0 (lendB H0 H B) ∧ Same (lendB H0 H B) H := by
  refine ⟨fun a o e => ?_, fun a o e => ?_⟩
  · have h : a ∉ B := fun hb => by
      rw [(F.lent hB hb).1] at e; cases e
    rw [lend_ne h]; exact e
  · by_cases h : a ∈ B
    · rw [lend_in h] at e; exact e
    · rw [lend_ne h] at e; exact F.sub _ _ e
/-- behind a call that changed nothing -/
theorem Fit.behind {H1 H' : Hp} (F : Fit Γ K H0 σ ρ H) (hB : Lent σ ρ B) (e1 : Same (lendB H0 H B) H1) (e2 : Same H1 H') (kp : ∀ a o, H a = some o → H' a = some o) (nw : ∀ a o, H1 a = some o → lendB H0 H B a = none → H a = none) :
    Fit Γ K (offB H1 B) σ ρ H' ∧ Same H0 (offB H1 B) ∧ ∀ b ∈ B, ∃ xs, H1 b = some (.lst xs) := by
  have s0 : Same H0 (offB H1 B) := fun a o e => by
    have h : a ∉ B := fun hb => by
      rw [(F.lent hB hb).1] at e; cases e
    rw [offB_ne h]
    exact e1 _ _ (by rw [lend_ne h]; exact e)
  have none1 : ∀ a, H0 a = none → H a ≠ none → offB H1 B a = none := fun a h0 h => by
    by_cases hb : a ∈ B
    · exact offB_in hb
    · rw [offB_ne hb]
      cases q : H1 a with
      | none => rfl
      | some o => exact absurd (nw a o q (by rw [lend_ne hb]; exact h0)) h
  refine ⟨F.step s0 (offB_sub.trans e2) kp (fun a o h1 h2 => ?_) (fun i s ds p h1 h2 h3 => ?_) (fun p xs h => ?_) (fun i x G a h1 h2 => ?_), s0, fun b hb => ?_⟩
  · by_cases hb : a ∈ B
    · rw [offB_in hb] at h1; cases h1
    · rw [offB_ne hb] at h1
      exact F.noneS (nw a o h1 (by rw [lend_ne hb]; exact h2))
  · obtain ⟨g1, xs, g2, _⟩ := F.ownNone h1 h2 h3
    exact none1 p g1 (by rw [g2]; simp)
  · obtain ⟨g1, g2, _⟩ := F.tmp p xs h
    exact none1 p g2 (by rw [g1]; simp)
  · obtain ⟨g1, o, g2⟩ := F.xSome h1 h2
    exact none1 a g1 (by rw [g2]; simp)
  · obtain ⟨_, xs, ds, g, _⟩ := F.lent hB hb
    exact ⟨xs, e1 _ _ (by rw [lend_in hb]; exact g)⟩
/-- the lent lists of handles -/
def lentOf (σ : St) (ρ : Rho) : List Hd → List Addr
  | [] => []
  | .val _ :: hs => lentOf σ ρ hs
  | .slot j :: hs => if isOwnB ρ j = true then (match σ[j]? with
    | some (some (.ref p)) => p :: lentOf σ ρ hs
    | _ => lentOf σ ρ hs) else lentOf σ ρ hs
theorem isOwnB_ok {j : Nat} (h : isOwnB ρ j = true) : ∃ s ds, ρ[j]? = some (some s) ∧ s.own = some ds := by
  unfold isOwnB at h
  split at h
  · rename_i ds q; exact ⟨_, ds, q, rfl⟩
  · rename_i ds q; exact ⟨_, ds, q, rfl⟩
  · cases h
theorem isOwnB_of {j : Nat} {s : S} {ds : List D} (h : ρ[j]? = some (some s)) (hs : s.own = some ds) : isOwnB ρ j = true := by
  unfold isOwnB
  rw [h]
  cases s with
  | v d => cases hs
  | o d => rfl
  | m d => rfl
  | x x F => cases hs
theorem lentOf_lent : ∀ hs : List Hd, Lent σ ρ (lentOf σ ρ hs)
  | [] => fun b h => by cases h
  | .val _ :: hs => lentOf_lent hs
  | .slot j :: hs => fun b h => by
    unfold lentOf at h
    split at h
    · rename_i q
      obtain ⟨s, ds, q1, q2⟩ := isOwnB_ok q
      split at h
      · rename_i p z
        rcases List.mem_cons.mp h with rfl | h
        · exact ⟨j, s, ds, q1, q2, z⟩
        · exact lentOf_lent hs b h
      · exact lentOf_lent hs b h
    · exact lentOf_lent hs b h
theorem lentOf_mem : ∀ {hs : List Hd} {j : Nat} {p : Addr}, Hd.slot j ∈ hs → isOwnB ρ j = true → σ[j]? = some (some (.ref p)) → p ∈ lentOf σ ρ hs
  | h :: hs, j, p, hm, h1, h2 => by
    rcases List.mem_cons.mp hm with z | z
    · subst z
      unfold lentOf
      rw [if_pos h1, h2]
      exact List.mem_cons_self
    · have ih := lentOf_mem z h1 h2
      cases h with
      | val d => exact ih
      | slot i =>
        unfold lentOf
        split
        · split
          · exact List.mem_cons_of_mem _ ih
          · exact ih
        · exact ih
theorem lentOf_slot : ∀ {hs : List Hd} {p : Addr}, p ∈ lentOf σ ρ hs → ∃ j, Hd.slot j ∈ hs ∧ isOwnB ρ j = true ∧ σ[j]? = some (some (.ref p))
  | .val _ :: hs, p, h => by
    obtain ⟨j, h1, h2⟩ := lentOf_slot (hs := hs) h
    exact ⟨j, List.mem_cons_of_mem _ h1, h2⟩
  | .slot i :: hs, p, h => by
    have tail : p ∈ lentOf σ ρ hs → ∃ j, Hd.slot j ∈ Hd.slot i :: hs ∧ isOwnB ρ j = true ∧ σ[j]? = some (some (.ref p)) := fun z => by
      obtain ⟨j, h1, h2⟩ := lentOf_slot (hs := hs) z
      exact ⟨j, List.mem_cons_of_mem _ h1, h2⟩
    unfold lentOf at h
    split at h
    · rename_i q
      split at h
      · rename_i r z
        rcases List.mem_cons.mp h with e | h
        · subst e
          exact ⟨i, List.mem_cons_self, q, z⟩
        · exact tail h
      · exact tail h
    · exact tail h
theorem bor_of {hs : List Hd} {p : Addr} (h : p ∈ lentOf σ ρ hs) : bor ρ hs = true := by
  obtain ⟨j, h1, h2, _⟩ := lentOf_slot h
  exact List.any_eq_true.mpr ⟨_, h1, h2⟩
/-- the data of handles, as the callee sees it -/
theorem Fit.lendReps (F : Fit Γ K H0 σ ρ H) (hB : Lent σ ρ B) : ∀ {vs : List V} {hs : List Hd} {ds : List D}, HReps K H0 σ vs hs → gets ρ hs = some ds → (∀ p ∈ lentOf σ ρ hs, p ∈ B) → Reps K (lendB H0 H B) vs ds
  | _, _, _, .nil, g, _ => by cases g; exact .nil
  | v :: vs, h :: hs, _, .cons r t, g, hm => by
    simp only [gets] at g
    split at g
    · rename_i d ds g1 g2
      cases g
      have e := (F.lendSub hB).1
      have sub : ∀ p ∈ lentOf σ ρ hs, p ∈ B := fun p hp => hm p (by
        cases h with
        | val d => exact hp
        | slot i =>
          unfold lentOf
          split
          · split
            · exact List.mem_cons_of_mem _ hp
            · exact hp
          · exact hp)
      refine .cons ?_ (F.lendReps hB t g2 sub)
      cases h with
      | val d' => cases g1; exact Rep.mono e r
      | slot j =>
        have r : σ[j]? = some (some v) := r
        cases q : ρ[j]? with
        | none => simp only [Hd.get, q] at g1; cases g1
        | some o =>
          cases o with
          | none => simp only [Hd.get, q] at g1; cases g1
          | some s =>
            simp only [Hd.get, q] at g1
            obtain ⟨u, h1, h2⟩ := F.slots j s q
            rw [r] at h1
            cases h1
            have own : ∀ ds, s.own = some ds → Rep K (lendB H0 H B) v (.lst ds) := fun ds es => by
              obtain ⟨p, rfl, _, xs, hx, rx⟩ := h2.ownAt es
              have hp : p ∈ B := hm p (lentOf_mem List.mem_cons_self (isOwnB_of q es) r)
              exact .lst (by rw [lend_in hp]; exact hx) (rx.mono e)
            cases s with
            | v d' => cases g1; exact Rep.mono e h2
            | o ds' => cases g1; exact own ds' rfl
            | m ds' => cases g1; exact own ds' rfl
            | x x F => cases g1
    · cases g
end
section
variable {Γ : Fx} {K : PySem.W.Frag} {H0 H : Hp} {σ : St} {ρ : Rho} {B : List Addr}
/-- an own thing that a call hands back -/
theorem Fit.resX (F : Fit Γ K H0 σ ρ H) {H1 H3 : Hp} {v : V} {x : OwnT} {G : List Addr} (hl : ∀ b ∈ B, ∃ xs, H1 b = some (.lst xs)) (im : B ≠ [] → x.imm = true) (rs : XAt K H1 H3 v x G ∧ ∀ a ∈ G, H a = none) :
    RRep Γ K (offB H1 B) σ ρ H3 v (.x x G) := by
  refine ⟨?_, fun a ha => ⟨F.noneS (rs.2 a ha), F.noTmp (rs.2 a ha), F.noSlot (rs.2 a ha), F.noX (rs.2 a ha)⟩⟩
  cases B with
  | nil => rw [offB_nil]; exact rs.1
  | cons b bs => exact rs.1.off hl (im (by simp))
theorem bor_ne {hs : List Hd} (h : lentOf σ ρ hs ≠ []) : bor ρ hs = true := by
  cases q : lentOf σ ρ hs with
  | nil => exact absurd q h
  | cons p ps => exact bor_of (σ := σ) (by rw [q]; exact List.mem_cons_self)
end
theorem mpOf_v : ∀ (n : Nat) (vs : List V) (ds : List D), mpOf n vs (ds.map S.v) = []
  | n, [], ds => by cases ds <;> rfl
  | n, v :: vs, [] => by cases v <;> rfl
  | n, v :: vs, d :: ds => by
    rw [List.map_cons]
    cases v <;> (unfold mpOf; exact mpOf_v (n + 1) vs ds)
theorem cntM_v : ∀ ds : List D, cntM (ds.map S.v) = 0
  | [] => rfl
  | d :: ds => by rw [List.map_cons, cntM]; exact cntM_v ds
section
variable {X : Cx} {Γ : Fx} {sp : DSp} {dvs : List V} {dd : List D} {ta : DAT} {E : XK}
theorem call_le {tm : List (Addr × List V)} (hdd : ∀ H, Reps X.K H dvs dd) {σ : St} {H : Hp} {Q : VK} (h : LE (Γ.at tm) X.K (dCall sp dd ta) σ H Q) : tCall (LSp X.K sp) dvs E (LA (Γ.at tm) X.K ta) σ H Q := by
  obtain ⟨H0, ρ, R, F, t, k⟩ := h
  refine ⟨H0, ρ, _, F, t, fun hs ρ1 vs H1 H' q F1 e1 rr => ?_⟩
  split at q
  · rename_i ds g
    have hB : Lent σ ρ1 (lentOf σ ρ1 hs) := lentOf_lent hs
    obtain ⟨s1, s2⟩ := F1.lendSub hB
    have ar := ((F1.lendReps hB rr g fun _ z => z).append (hdd _)).areps (H := H')
    refine ⟨lendB H1 H' (lentOf σ ρ1 hs), _, _, _, s2, ar, by rw [cntM_v]; exact Nat.zero_le _, q, fun r es v H2 H3 q2 st _ rs => ?_, fun C f d es e v H2 H3 q2 => q2.elim⟩
    rw [mpOf_v] at st
    obtain ⟨F3, e3, hl⟩ := F1.behind hB st.sub st.top (fun a o z => st.keep a o z (by simp)) st.new
    refine k r ρ1 v _ H3 q2.2 F3 (e1.trans e3) ?_
    have off : ∀ {v : V} {d : D}, Rep X.K H2 v d → (bor ρ1 hs = true → d.imm = true) → Rep X.K (offB H2 (lentOf σ ρ1 hs)) v d := fun {v d} r0 im => by
      cases q0 : lentOf σ ρ1 hs with
      | nil => rw [offB_nil]; exact r0
      | cons p ps =>
        rw [← q0]
        exact r0.off hl (im (bor_of (by rw [q0]; exact List.mem_cons_self)))
    have offs : ∀ {v : List V} {d : List D}, Reps X.K H2 v d → (bor ρ1 hs = true → immL d = true) → Reps X.K (offB H2 (lentOf σ ρ1 hs)) v d := fun {v d} r0 im => by
      cases q0 : lentOf σ ρ1 hs with
      | nil => rw [offB_nil]; exact r0
      | cons p ps =>
        rw [← q0]
        exact r0.off hl (im (bor_of (by rw [q0]; exact List.mem_cons_self)))
    cases r with
    | v d => exact off rs fun z => q2.1 z
    | m ds => exact rs
    | o ds =>
      obtain ⟨p, rfl, ⟨g1, xs, g2, g3⟩, g4⟩ := rs
      exact ⟨p, rfl, ⟨offB_sub.free g1, xs, g2, offs g3 fun z => q2.1 z⟩, F1.noneS g4, F1.noTmp g4, F1.noSlot g4, F1.noX g4⟩
    | x x G => exact F1.resX hl (fun z => q2.1 (bor_ne z)) rs
  · exact q.elim
end
end DL

/-! DL8: calls, continued. -/
namespace DL
open PySem L2
section
variable {Γ : Fx} {K : PySem.W.Frag} {H0 H : Hp} {σ : St} {ρ : Rho} {B : List Addr}
/-- a list that nobody here knows is changed -/
theorem Fit.free {p : Addr} {xs : List V} (F : Fit Γ K H0 σ ρ H) (h0 : H0 p = none) (hs : Γ.Hs p = none) (ht : ∀ xs, (p, xs) ∉ Γ.tm) (hn : ∀ (i : Nat) s es, ρ[i]? = some (some s) → s.own = some es → σ[i]? ≠ some (some (.ref p))) (hx : NoX ρ p) : Fit Γ K H0 σ ρ (upd H p (.lst xs)) := by
  refine ⟨fun b u e => ?_, F.s0, fun a o e hm => ?_, F.new, F.len, fun i s h => ?_, F.loc, F.par, F.dist, F.mps, fun q zs h => ?_, F.ex⟩
  · have hne : b ≠ p := fun z => by subst z; rw [h0] at e; cases e
    rw [upd_ne hne]; exact F.sub _ _ e
  · have hne : a ≠ p := fun z => by subst z; rw [hs] at e; cases e
    rw [upd_ne hne]; exact F.keep a o e hm
  · obtain ⟨v, h1, h2⟩ := F.slots i s h
    refine ⟨v, h1, h2.stay (Same.refl _) (fun q ds ev es => ?_) fun x G ex a ha => ?_⟩
    · subst ev
      have hne : q ≠ p := fun z => by subst z; exact hn i s ds h es h1
      exact ⟨(F.ownNone h es h1).1, upd_ne hne⟩
    · subst ex
      have hne : a ≠ p := fun z => by subst z; exact hx i x G h ha
      exact ⟨(F.xSome h ha).1, upd_ne hne⟩
  · obtain ⟨q1, q2, q3⟩ := F.tmp q zs h
    have hne : q ≠ p := fun z => by subst z; exact ht zs h
    exact ⟨by rw [upd_ne hne]; exact q1, q2, q3⟩
theorem upd_eq {H : Hp} {p : Addr} {o : HO} (h : H p = some o) : upd H p o = H := by
  funext a
  by_cases e : a = p
  · subst e; rw [upd_same, h]
  · rw [upd_ne e]
theorem Fit.areps (F : Fit Γ K H0 σ ρ H) (hB : Lent σ ρ B) {j : Nat} {p : Addr} {s : S} {cs : List D} (hj : ρ[j]? = some (some s)) (hs : s.own = some cs) (hp : σ[j]? = some (some (.ref p))) (hpB : p ∉ B) :
    ∀ {vs : List V} {hs : List Hd} {ds : List D} {k n : Nat}, HReps K H0 σ vs hs → gets ρ hs = some ds → hs[k]? = some (.slot j) → (∀ q ∈ lentOf σ ρ (hs.eraseIdx k), q ∈ B) →
      AReps K (lendB H0 H B) H vs ((ds.map S.v).set k (.m cs)) ∧ mpOf n vs ((ds.map S.v).set k (.m cs)) = [(n + k, p)] ∧ cntM ((ds.map S.v).set k (.m cs)) = 1
  | _, _, _, k, n, .nil, g, hk, _ => by simp at hk
  | v :: vs, h :: hs', _, 0, n, .cons r t, g, hk, hm => by
    simp only [List.getElem?_cons_zero, Option.some.injEq] at hk
    subst hk
    have r : σ[j]? = some (some v) := r
    rw [hp] at r
    cases r
    simp only [gets] at g
    split at g
    · rename_i d ds g1 g2
      cases g
      obtain ⟨h0, xs, hx, rx⟩ := F.ownNone hj hs hp
      rw [List.map_cons, List.set_cons_zero]
      refine ⟨.cons ⟨p, rfl, by rw [lend_ne hpB]; exact h0, xs, hx, rx.mono (F.lendSub hB).1⟩ (F.lendReps hB t g2 hm).areps, ?_, ?_⟩
      · unfold mpOf
        rw [mpOf_v, Nat.add_zero]
      · rw [cntM, cntM_v]
    · cases g
  | v :: vs, h :: hs', _, k + 1, n, .cons r t, g, hk, hm => by
    rw [List.getElem?_cons_succ] at hk
    simp only [gets] at g
    split at g
    · rename_i d ds g1 g2
      cases g
      rw [List.eraseIdx_cons_succ] at hm
      have sub1 : ∀ q ∈ lentOf σ ρ (hs'.eraseIdx k), q ∈ B := fun q hq => hm q (by
        cases h with
        | val d => exact hq
        | slot i =>
          unfold lentOf
          split
          · split
            · exact List.mem_cons_of_mem _ hq
            · exact hq
          · exact hq)
      have sub2 : ∀ q ∈ lentOf σ ρ [h], q ∈ B := fun q hq => hm q (by
        obtain ⟨i, z1, z2, z3⟩ := lentOf_slot hq
        exact lentOf_mem (by rcases List.mem_cons.mp z1 with z | z; subst z; exact List.mem_cons_self; cases z) z2 z3)
      have hd := F.lendReps hB (vs := [v]) (hs := [h]) (ds := [d]) (.cons r .nil) (by simp only [gets, g1]) sub2
      obtain ⟨a1, a2, a3⟩ := F.areps hB hj hs hp hpB (n := n + 1) t g2 hk sub1
      rw [List.map_cons, List.set_cons_succ]
      refine ⟨?_, ?_, ?_⟩
      · cases hd with
        | cons r0 t0 => exact .cons r0 a1
      · have e : n + (k + 1) = n + 1 + k := by omega
        rw [e]
        cases v <;> (unfold mpOf; exact a2)
      · rw [cntM]; exact a3
    · cases g
end
theorem mpOf_append {K : PySem.W.Frag} {H0 H : Hp} : ∀ {vs ws : List V} {as : List S} {ds : List D} {n : Nat}, AReps K H0 H vs as → mpOf n (vs ++ ws) (as ++ ds.map S.v) = mpOf n vs as
  | _, ws, _, ds, n, .nil => by
    rw [List.nil_append, List.nil_append, mpOf_v]
    rfl
  | v :: vs, ws, s :: as, ds, n, .cons r t => by
    have ih := mpOf_append (ws := ws) (ds := ds) (n := n + 1) t
    rw [List.cons_append, List.cons_append]
    cases s with
    | v d => cases v <;> (unfold mpOf; exact ih)
    | o d => exact r.elim
    | x x F => exact r.elim
    | m es =>
      obtain ⟨p, rfl, _⟩ := r
      unfold mpOf
      rw [ih]
theorem cntM_append : ∀ {as : List S} {ds : List D}, cntM (as ++ ds.map S.v) = cntM as
  | [], ds => by rw [List.nil_append, cntM_v]; rfl
  | s :: as, ds => by
    rw [List.cons_append]
    cases s <;> (simp only [cntM]; rw [cntM_append])
def slotFree (j : Nat) (hs : List Hd) : Bool := hs.all fun h => match h with
  | .slot i => i != j
  | .val _ => true
/-- f(..) whose k-th argument is a slot's own list that may be changed -/
def dCallN (k : Nat) (sp : DSp) (dd : List D) (ta : DAT) : DT := fun ρ R => ta ρ fun hs ρ1 => match hs[k]? with
  | some (.slot j) => slotFree j (hs.eraseIdx k) = true ∧ (match ρ1[j]?, gets ρ1 hs with
    | some (some s), some ds => (match s.own with
      | some cs => sp ((ds.map S.v).set k (.m cs) ++ dd.map S.v) (fun r es => (bor ρ1 (hs.eraseIdx k) = true → r.imm = true ∧ immL es = true) ∧ R r (ρ1.set j (some (s.wth es)))) fun _ _ _ _ => False
      | none => False)
    | _, _ => False)
  | _ => False
section
variable {X : Cx} {Γ : Fx} {sp : DSp} {dvs : List V} {dd : List D} {ta : DAT} {E : XK} {k : Nat}
theorem slot_of {hs : List Hd} {i j : Nat} (hne : slotFree j hs = true) (h : Hd.slot i ∈ hs) : i ≠ j := by
  have := List.all_eq_true.mp hne _ h
  exact bne_iff_ne.mp this
theorem setX {ρ : Rho} {j i : Nat} {s : S} {es : List D} {y : OwnT} {G : List Addr} (hs : s.own ≠ none) (h : (ρ.set j (some (s.wth es)))[i]? = some (some (.x y G))) : ρ[i]? = some (some (.x y G)) := by
  rw [List.getElem?_set] at h
  split at h
  · split at h
    · cases s with
      | v d => exact absurd rfl hs
      | o ds => cases h
      | m ds => cases h
      | x x F => exact absurd rfl hs
    · cases h
  · exact h
/-- an own thing that a call hands back, beside a changed list -/
theorem Fit.resXs {Γ : Fx} {K : PySem.W.Frag} {H0 H H1 H3 : Hp} {σ : St} {ρ : Rho} {B : List Addr} (F : Fit Γ K H0 σ ρ H) {j : Nat} {s : S} {cs es : List D} (hj : ρ[j]? = some (some s)) (hs : s.own = some cs) {v : V} {x : OwnT} {G : List Addr}
    (hl : ∀ b ∈ B, ∃ xs, H1 b = some (.lst xs)) (im : B ≠ [] → x.imm = true) (rs : XAt K H1 H3 v x G ∧ ∀ a ∈ G, H a = none) : RRep Γ K (offB H1 B) σ (ρ.set j (some (s.wth es))) H3 v (.x x G) := by
  obtain ⟨r1, r2⟩ := F.resX hl im rs
  refine ⟨r1, fun a ha => ?_⟩
  obtain ⟨k1, k2, k3, k4⟩ := r2 a ha
  refine ⟨k1, k2, fun i t fs h1 h2 => ?_, fun i y G' h1 => k4 i y G' (setX (by rw [hs]; simp) h1)⟩
  by_cases q : j = i
  · subst q
    exact k3 j s cs hj hs
  · rw [List.getElem?_set_ne q] at h1
    exact k3 i t fs h1 h2
theorem callN_le {tm : List (Addr × List V)} (hdd : ∀ H, Reps X.K H dvs dd) {σ : St} {H : Hp} {Q : VK} (h : LE (Γ.at tm) X.K (dCallN k sp dd ta) σ H Q) : tCall (LSp X.K sp) dvs E (LA (Γ.at tm) X.K ta) σ H Q := by
  obtain ⟨H0, ρ, R, F, t, kk⟩ := h
  refine ⟨H0, ρ, _, F, t, fun hs ρ1 vs H1 H' q F1 e1 rr => ?_⟩
  split at q
  · rename_i j hk
    obtain ⟨hne, q⟩ := q
    split at q
    · rename_i s ds hj g
      split at q
      · rename_i cs hcs
        obtain ⟨v0, hv0, hr0⟩ := F1.slots j s hj
        obtain ⟨p, rfl, hp0, xs, hx, rx⟩ := hr0.ownAt hcs
        have hB : Lent σ ρ1 (lentOf σ ρ1 (hs.eraseIdx k)) := lentOf_lent _
        have hpB : p ∉ lentOf σ ρ1 (hs.eraseIdx k) := fun hm => by
          obtain ⟨i, z1, z2, z3⟩ := lentOf_slot hm
          obtain ⟨s', ds', y1, y2⟩ := isOwnB_ok z2
          exact slot_of hne z1 (F1.dist i j s' s ds' cs p y1 hj y2 hcs z3 hv0)
        obtain ⟨s1, s2⟩ := F1.lendSub hB
        obtain ⟨ar, mp, cn⟩ := F1.areps hB hj hcs hv0 hpB (n := 0) rr g hk fun _ z => z
        have mp2 : mpOf 0 (vs ++ dvs) ((ds.map S.v).set k (.m cs) ++ dd.map S.v) = [(0 + k, p)] := by rw [mpOf_append ar, mp]
        refine ⟨lendB H1 H' (lentOf σ ρ1 (hs.eraseIdx k)), _, _, _, s2, ar.append (hdd _).areps, by rw [cntM_append, cn]; exact Nat.le_refl _, q, fun r es v H2 H3 q2 st ow rs => ?_, fun C f d es e v H2 H3 q2 => q2.elim⟩
        rw [mp2] at st ow
        obtain ⟨o1, ys, o2, o3⟩ := ow p (by simp)
        -- p put back for a moment
        have e2 : Same H2 (upd H3 p (.lst xs)) := fun a o z => by
          have hne : a ≠ p := fun w => by subst w; rw [o1] at z; cases z
          rw [upd_ne hne]; exact st.top _ _ z
        have kp : ∀ a o, H' a = some o → upd H3 p (.lst xs) a = some o := fun a o z => by
          by_cases w : a = p
          · subst w; rw [upd_same, ← z, hx]
          · rw [upd_ne w]; exact st.keep a o z (by simpa using w)
        obtain ⟨F3, e3, hl⟩ := F1.behind hB st.sub e2 kp st.new
        have off : ∀ {v : V} {d : D}, Rep X.K H2 v d → (bor ρ1 (hs.eraseIdx k) = true → d.imm = true) → Rep X.K (offB H2 (lentOf σ ρ1 (hs.eraseIdx k))) v d := fun {v d} r0 im => by
          cases q0 : lentOf σ ρ1 (hs.eraseIdx k) with
          | nil => rw [offB_nil]; exact r0
          | cons p ps =>
            rw [← q0]
            exact r0.off hl (im (bor_of (by rw [q0]; exact List.mem_cons_self)))
        have offs : ∀ {v : List V} {d : List D}, Reps X.K H2 v d → (bor ρ1 (hs.eraseIdx k) = true → immL d = true) → Reps X.K (offB H2 (lentOf σ ρ1 (hs.eraseIdx k))) v d := fun {v d} r0 im => by
          cases q0 : lentOf σ ρ1 (hs.eraseIdx k) with
          | nil => rw [offB_nil]; exact r0
          | cons p ps =>
            rw [← q0]
            exact r0.off hl (im (bor_of (by rw [q0]; exact List.mem_cons_self)))
        have F4 := F3.chg hj hcs hv0 (offs o3 fun z => (q2.1 z).2)
        rw [upd_upd, upd_eq o2] at F4
        refine kk r _ v _ H3 q2.2 F4 (e1.trans e3) ?_
        cases r with
        | v d => exact off rs fun z => (q2.1 z).1
        | m ds => exact rs
        | o ds =>
          obtain ⟨q', rfl, ⟨g1, zs, g2, g3⟩, g4⟩ := rs
          refine ⟨q', rfl, ⟨offB_sub.free g1, zs, g2, offs g3 fun z => (q2.1 z).1⟩, F1.noneS g4, F1.noTmp g4, fun i s'' es'' h1 h2 h3 => ?_, fun i y G h1 h2 => F1.noX g4 i y G (setX (by rw [hcs]; simp) h1) h2⟩
          obtain ⟨_, ws, w1, _⟩ := F4.ownNone h1 h2 h3
          -- an own slot's list stood ahead of the call
          by_cases hij : j = i
          · subst hij
            rw [hv0] at h3
            cases h3
            rw [g4] at hx; cases hx
          · rw [List.getElem?_set_ne hij] at h1
            obtain ⟨_, us, u1, _⟩ := F1.ownNone h1 h2 h3
            rw [g4] at u1; cases u1
        | x x G =>
          exact F1.resXs hj hcs hl (fun z => (q2.1 (bor_ne z)).1) rs
      · exact q.elim
    · exact q.elim
  · exact q.elim
end
/-! ### the rules -/
/-- all that a call of a def by its name wants -/
structure Fn (X : Cx) (x : Str) (k : Nat) (ps : List Str) (sp : DSp) (f : Addr) (fd : FuncData) : Prop where
  ok : FnOk X.prog X.w X.K X.mg X.base CX0 k f fd ps (LSp X.K sp)
  mg : X.mg x = some (.ref f)
  kp : PySem.W.keepIn X.K (.ref f) = true
section
variable {X : Cx} {Γ : Fx} {x : Str} {k : Nat} {ps : List Str} {sp : DSp} {f : Addr} {fd : FuncData} {p pos : Pos} {e : Expr} {es : List Expr} {ta : DAT} {dvs : List V} {ds : List Value} {dd : List D}
theorem de_call (G : Fn X x k ps sp f fd) (hr : Room k X.A) (hb : Binds X.K fd ps ds) (hd : Vals dvs ds) (hdd : ∀ H, Reps X.K H dvs dd) (ha : DA X Γ (e :: es) ta) (hg : Gl X x := by rfl) (hdb : (x == ("__debug__" : Str)) = false := by decide)
    (he : starEach (e :: es) X.env = (false, eval e X.env) :: starEach es X.env := by rfl) (hpl : (backTo pos (starEach es X.env)).any (·.1) = false := by rfl) : DE X Γ (.Call (.Name x p) (e :: es) [] pos) (dCall sp dd ta) :=
  ⟨fun tm => peLe (pe_call G.ok hr hg G.mg G.kp hb hd pass0 (ha.run tm) hdb he hpl) fun σ H Q h => call_le hdd h⟩
theorem de_callN {j : Nat} (G : Fn X x k ps sp f fd) (hr : Room k X.A) (hb : Binds X.K fd ps ds) (hd : Vals dvs ds) (hdd : ∀ H, Reps X.K H dvs dd) (ha : DA X Γ (e :: es) ta) (hg : Gl X x := by rfl) (hdb : (x == ("__debug__" : Str)) = false := by decide)
    (he : starEach (e :: es) X.env = (false, eval e X.env) :: starEach es X.env := by rfl) (hpl : (backTo pos (starEach es X.env)).any (·.1) = false := by rfl) : DE X Γ (.Call (.Name x p) (e :: es) [] pos) (dCallN j sp dd ta) :=
  ⟨fun tm => peLe (pe_call G.ok hr hg G.mg G.kp hb hd pass0 (ha.run tm) hdb he hpl) fun σ H Q h => callN_le hdd h⟩
/-- f(..) by keywords: pm puts the written values in the parameters' order -/
def dCallK (n m : Nat) (sp : DSp) (pm : List D → List D → List D) (ta tk : DAT) : DT := fun ρ R => ta ρ fun hs ρ1 => tk ρ1 fun gs ρ2 => hs.length = n ∧ gs.length = m ∧ match gets ρ2 hs, gets ρ2 gs with
  | some ds, some es => sp ((pm ds es).map S.v) (fun r _ => (bor ρ2 (hs ++ gs) = true → r.imm = true) ∧ R r ρ2) fun _ _ _ _ => False
  | _, _ => False
theorem lentOf_app {σ : St} {ρ : Rho} : ∀ {hs gs : List Hd} {p : Addr}, p ∈ lentOf σ ρ hs ∨ p ∈ lentOf σ ρ gs → p ∈ lentOf σ ρ (hs ++ gs) := by
  intro hs gs p h
  rcases h with h | h
  · obtain ⟨j, h1, h2, h3⟩ := lentOf_slot h
    exact lentOf_mem (List.mem_append_left _ h1) h2 h3
  · obtain ⟨j, h1, h2, h3⟩ := lentOf_slot h
    exact lentOf_mem (List.mem_append_right _ h1) h2 h3
theorem callK_le {tm : List (Addr × List V)} {n m : Nat} {pm : List D → List D → List D} {gV : List V → List V → List V} {E : XK} {tk : DAT} (hrel : ∀ {H : Hp} {vs zs : List V} {ds es : List D}, vs.length = n → zs.length = m → Reps X.K H vs ds → Reps X.K H zs es → Reps X.K H (gV vs zs) (pm ds es))
    {σ : St} {H : Hp} {Q : VK} (h : LE (Γ.at tm) X.K (dCallK n m sp pm ta tk) σ H Q) : tCallN n m (LSp X.K sp) gV E (LA (Γ.at tm) X.K ta) (LA (Γ.at tm) X.K tk) σ H Q := by
  obtain ⟨H0, ρ, R, F, t, k⟩ := h
  refine ⟨H0, ρ, _, F, t, fun hs ρ1 vs Ha Hb q F1 e1 r1 => ⟨Ha, ρ1, _, F1, q, fun gs ρ2 zs H1 H' q F2 e2 r2 => ?_⟩⟩
  obtain ⟨l1, l2, q⟩ := q
  have r1 := r1.mono e2
  refine ⟨by rw [r1.length]; exact l1, by rw [r2.length]; exact l2, ?_⟩
  split at q
  · rename_i ds es g1 g2
    have hB : Lent σ ρ2 (lentOf σ ρ2 (hs ++ gs)) := lentOf_lent _
    obtain ⟨s1, s2⟩ := F2.lendSub hB
    have a1 := F2.lendReps hB r1 g1 fun p z => lentOf_app (.inl z)
    have a2 := F2.lendReps hB r2 g2 fun p z => lentOf_app (.inr z)
    have ar := (hrel (by rw [r1.length]; exact l1) (by rw [r2.length]; exact l2) a1 a2).areps (H := H')
    refine ⟨lendB H1 H' (lentOf σ ρ2 (hs ++ gs)), _, _, _, s2, ar, by rw [cntM_v]; exact Nat.zero_le _, q, fun r es v H2 H3 q2 st _ rs => ?_, fun C f d es e v H2 H3 q2 => q2.elim⟩
    rw [mpOf_v] at st
    obtain ⟨F3, e3, hl⟩ := F2.behind hB st.sub st.top (fun a o z => st.keep a o z (by simp)) st.new
    refine k r ρ2 v _ H3 q2.2 F3 ((e1.trans e2).trans e3) ?_
    have off : ∀ {v : V} {d : D}, Rep X.K H2 v d → (bor ρ2 (hs ++ gs) = true → d.imm = true) → Rep X.K (offB H2 (lentOf σ ρ2 (hs ++ gs))) v d := fun {v d} r0 im => by
      cases q0 : lentOf σ ρ2 (hs ++ gs) with
      | nil => rw [offB_nil]; exact r0
      | cons p ps =>
        rw [← q0]
        exact r0.off hl (im (bor_of (by rw [q0]; exact List.mem_cons_self)))
    have offs : ∀ {v : List V} {d : List D}, Reps X.K H2 v d → (bor ρ2 (hs ++ gs) = true → immL d = true) → Reps X.K (offB H2 (lentOf σ ρ2 (hs ++ gs))) v d := fun {v d} r0 im => by
      cases q0 : lentOf σ ρ2 (hs ++ gs) with
      | nil => rw [offB_nil]; exact r0
      | cons p ps =>
        rw [← q0]
        exact r0.off hl (im (bor_of (by rw [q0]; exact List.mem_cons_self)))
    cases r with
    | v d => exact off rs fun z => q2.1 z
    | m ds => exact rs
    | o ds =>
      obtain ⟨p, rfl, ⟨g1, xs, g2, g3⟩, g4⟩ := rs
      exact ⟨p, rfl, ⟨offB_sub.free g1, xs, g2, offs g3 fun z => q2.1 z⟩, F2.noneS g4, F2.noTmp g4, F2.noSlot g4, F2.noX g4⟩
    | x x G => exact F2.resX hl (fun z => q2.1 (bor_ne z)) rs
  · exact q.elim
/-- how a call by keywords binds, over data too -/
structure KwB (K : PySem.W.Frag) (fd : FuncData) (ps : List Str) (n : Nat) (ks : List Str) (pm : List D → List D → List D) : Prop where
  ex : ∃ g gV, KBn K fd ps n ks g gV ∧ ∀ {H : Hp} {vs zs : List V} {ds es : List D}, vs.length = n → zs.length = ks.length → Reps K H vs ds → Reps K H zs es → Reps K H (gV vs zs) (pm ds es)
theorem de_callK {kws : List Keyword} {tk : DAT} {n : Nat} {ks : List Str} {pm : List D → List D → List D} (G : Fn X x k ps sp f fd) (hr : Room k X.A) (hb : KwB X.K fd ps n ks pm) (ha : DA X Γ (e :: es) ta) (hkw : DK X Γ kws tk)
    (hall : (backToKw pos (keywordEach kws X.env)).all (·.1.isSome) = true := by rfl) (hks : (backToKw pos (keywordEach kws X.env)).filterMap (·.1) = ks := by rfl) (hg : Gl X x := by rfl)
    (hdb : (x == ("__debug__" : Str)) = false := by decide) (he : starEach (e :: es) X.env = (false, eval e X.env) :: starEach es X.env := by rfl)
    (hpl : ((backTo pos (starEach (e :: es) X.env)).any (·.1) || (backToKw pos (keywordEach kws X.env)).any (·.1.isNone)) = false := by rfl) :
    DE X Γ (.Call (.Name x p) (e :: es) kws pos) (dCallK n ks.length sp pm ta tk) := by
  obtain ⟨g, gV, b, hrel⟩ := hb.ex
  exact ⟨fun tm => peLe (pe_callN G.ok hr hg G.mg G.kp b pass0 (ha.run tm) (hkw.run tm) hall hks hdb he hpl) fun σ H Q h => callK_le hrel h⟩
/-- the written values (left: by place; right: by name) in the parameters' order -/
def pick {α : Type} (z : α) (ix : List (Nat ⊕ Nat)) (ds es : List α) : List α := ix.map fun i => Sum.elim (fun i => ds.getD i z) (fun i => es.getD i z) i
def pickOk (n m : Nat) (ix : List (Nat ⊕ Nat)) : Bool := ix.all fun i => Sum.elim (fun i => decide (i < n)) (fun i => decide (i < m)) i
end
end DL

/-! DL9: in-place operators, the end of a law. -/
namespace DL
open PySem L2
def addI : D → D → (S → Prop) → Prop
  | .int i, .int j, R => R (.v (.int (i + j)))
  | _, _, _ => False
def mulI : D → D → (S → Prop) → Prop
  | .int i, .int j, R => CMul i j ∧ R (.v (.int (i * j)))
  | _, _, _ => False
section
variable {X : Cx}
end
theorem fd_eq {K : PySem.W.Frag} {x qual : Str} {params : Arguments} {body : List Stmt} {scope : Scope} {dvs : List V} {kws : List (Str × V)} {f : Addr} {fd fd' : FuncData} (F : FunD K x qual params body scope dvs kws f fd) (G : FunD K x qual params body scope dvs kws f fd') : fd = fd' := by
  obtain ⟨oc, od, dV, kV, doc, pm, an, cdv, ct, osl, e1, l1, _⟩ := F.ex
  obtain ⟨oc', od', dV', kV', doc', pm', an', cdv', ct', osl', e2, l2, _⟩ := G.ex
  rw [l1] at l2
  cases l2
  rfl
/-- a law's promise, from the script -/
theorem law_start {K : PySem.W.Frag} {sp : DSp} {H : Hp} {a : Addr} {ns : List Int} {n : Nat} (ok : ∀ ns : List Int, ns.length ≤ n → sp [.v (.rol (ns.map D.int))] (fun r _ => r = .v (.bl true)) fun _ _ _ _ => False) (hl : ns.length ≤ n) (hS : SqL K H a (ns.map V.int)) :
    LSp K sp [.ref a] H (fun v _ => v = .bl true) fun _ _ _ => False := by
  refine ⟨H, _, _, _, Same.refl _, .cons (show ARep K H H (.ref a) (.v (.rol (ns.map D.int))) from .rol hS (reps_ints ns)) .nil, Nat.zero_le _, ok ns hl, fun r es v H0' H' q _ _ rr => ?_, fun C f d es e v H0' H' q => q.elim⟩
  subst q
  have rr : Rep K H0' v (.bl true) := rr
  cases rr
  rfl
end DL

/-! DL10: slices, range with a step, zip and enumerate of what may be either. -/
namespace DL
open PySem L2
/-! ### slices -/
def cutD {α : Type} (ds : List α) (lo hi : Option Int) : List α := (ds.drop (HT.sIx ds.length 0 lo)).take (HT.sIx ds.length ds.length hi - HT.sIx ds.length 0 lo)
theorem Reps.cut {K : PySem.W.Frag} {H : Hp} {vs : List V} {ds : List D} (r : Reps K H vs ds) (lo hi : Option Int) : Reps K H (cutV vs lo hi) (cutD ds lo hi) := by
  unfold cutV cutD
  rw [r.length]
  exact (r.drop _).take _
theorem cut_whole {ds : List D} {lo hi : Option Int} (h : HT.sIx ds.length 0 lo = 0 ∧ HT.sIx ds.length ds.length hi = ds.length) : cutD ds lo hi = ds := by
  unfold cutD
  rw [h.1, h.2]
  simp
def slD : D → Option Int → Option Int → (S → Prop) → Prop
  | .lst ds, lo, hi, R => R (.o (cutD ds lo hi))
  | .rol ds, lo, hi, R => R (.o (cutD ds lo hi))
  | .tup ds, lo, hi, R => R (.v (.tup (cutD ds lo hi)))
  | .str z, lo, hi, R => z.length ≤ sizeLine ∧ R (.v (.str (cutS z lo hi)))
  | _, _, _, _ => False
abbrev rSlX (K : PySem.W.Frag) : V → Option Int → Option Int → Hp → VK → Prop := fun x lo hi H Q => rSlL K x lo hi H Q ∨ rSlA K x lo hi H Q ∨ rSlS x lo hi H Q
abbrev DPT := Rho → (Option Int → Rho → Prop) → Prop
def LP (Γ : Fx) (K : PySem.W.Frag) (t : DPT) : TO := fun σ H Q => ∃ H0 ρ R, Fit Γ K H0 σ ρ H ∧ t ρ R ∧ ∀ b ρ' H0' H', R b ρ' → Fit Γ K H0' σ ρ' H' → Same H0 H0' → Q b H'
structure DP (X : Cx) (Γ : Fx) (e : Option Expr) (t : DPT) : Prop where
  run : ∀ tm, PO X e (LP (Γ.at tm) X.K t)
theorem poLe {X : Cx} {e : Option Expr} {t t' : TO} (h : PO X e t) (w : ∀ σ H Q, t' σ H Q → t σ H Q) : PO X e t' := ⟨fun pins s σ H Q I q => h.run pins s σ H Q I (w σ H Q q)⟩
def dpN : DPT := fun ρ R => R none ρ
def dpE (t : DHT) : DPT := fun ρ R => t ρ fun h ρ' => match h.get ρ' with
  | some (.int i) => R (some i) ρ'
  | _ => False
def dSl (te : DHT) (tl th : DPT) : DT := fun ρ R => te ρ fun a ρ1 => tl ρ1 fun lo ρ2 => th ρ2 fun hi ρ3 => match a.get ρ3 with
  | some x => slD x lo hi fun r => R r ρ3
  | none => False
section
variable {X : Cx} {Γ : Fx} {e : Expr} {te : DHT} {lo hi : Option Expr} {tl th : DPT} {pos p2 : Pos}
theorem dp_none : DP X Γ none dpN := ⟨fun tm => poLe po_none fun σ H Q ⟨H0, ρ, R, F, t, k⟩ => k none ρ H0 H t F (Same.refl _)⟩
theorem dp_some (h : DH X Γ e te) : DP X Γ (some e) (dpE te) := ⟨fun tm => poLe (po_some (h.run tm)) fun σ H Q ⟨H0, ρ, R, F, t, k⟩ => ⟨H0, ρ, _, F, t, fun h ρ' v H1 H' q F1 e1 r1 => by
  split at q
  · rename_i i g
    exact ⟨i, (F1.top r1 g).int, k _ ρ' H1 H' q F1 e1⟩
  · exact q.elim⟩⟩
theorem sl_any : SlR X (rSlX X.K) := SlR.or sl_list (SlR.or sl_tupA sl_str)
theorem de_sl (he : DH X Γ e te) (hl : DP X Γ lo tl) (hu : DP X Γ hi th) : DE X Γ (.Subscript e (.Slice lo hi none p2) pos) (dSl te tl th) :=
  ⟨fun tm => peLe (pe_slice sl_any (he.run tm) (hl.run tm) (hu.run tm)) fun σ H Q ⟨H0, ρ, R, F, t, k⟩ => ⟨H0, ρ, _, F, t, fun a ρ1 v H1 H' q1 F1 e1 r1 => ⟨H1, ρ1, _, F1, q1, fun l ρ2 H2 H'' q2 F2 e2 => ⟨H2, ρ2, _, F2, q2, fun u ρ3 H3 H4 q3 F3 e3 => by
    have ee := (e1.trans e2).trans e3
    split at q3
    · rename_i x g
      have tp := F3.top (r1.mono (e2.trans e3)) g
      unfold slD at q3
      split at q3
      · obtain ⟨p, xs, rfl, hx, rx⟩ := tp.lst F3.sub
        refine .inl ⟨p, xs, rfl, SqL.of hx, fun p' hp => ?_⟩
        obtain ⟨F5, r5⟩ := F3.allocO hp (rx.cut _ _)
        exact k _ ρ3 _ H3 _ q3 F5 ee r5
      · obtain ⟨p, xs, rfl, hx, rx⟩ := tp.rol
        refine .inl ⟨p, xs, rfl, F3.sub.seq hx, fun p' hp => ?_⟩
        obtain ⟨F5, r5⟩ := F3.allocO hp (rx.cut _ _)
        exact k _ ρ3 _ H3 _ q3 F5 ee r5
      · obtain ⟨p, xs, rfl, hx, rx⟩ := tp.tup
        refine .inr (.inl ⟨p, xs, rfl, seqT F3.sub hx, fun w => ?_, fun _ p' hp => ?_⟩)
        · rw [rx.length] at w
          rw [cut_whole w] at q3
          exact k _ ρ3 _ H3 _ q3 F3 ee (Rep.tup hx rx)
        · obtain ⟨F5, e5, r5⟩ := F3.allocT hp (rx.cut _ _)
          exact k _ ρ3 _ _ _ q3 F5 (ee.trans e5) r5
      · exact .inr (.inr ⟨_, tp.str, q3.1, k _ ρ3 _ H3 _ q3.2 F3 ee (Rep.str _)⟩)
      · exact q3.elim
    · exact q3.elim⟩⟩⟩⟩
/-! ### range with a step -/
def rngC (lo c : Int) (n : Nat) : List D := (List.range n).map fun i => .int (lo + (i : Nat) * c)
theorem RgC.up {i j c : Int} (hc : 0 < c) (hc2 : c < 1073741824) (ha : -(2 ^ 61) ≤ i) (ha' : i < 2 ^ 61) (hb : -(2 ^ 61) ≤ j) (hb' : j < 2 ^ 61) : RgC i j c ((j - i + c - 1) / c).toNat := by
  have e : Builtin.Range.rangeSize i j c = (((j - i + c - 1) / c).toNat : Int) := by
    unfold Builtin.Range.rangeSize
    rw [if_pos (by omega)]
    split
    · have e1 : j - i + c - 1 = (j - i - 1) + c := by omega
      rw [e1, Int.add_ediv_of_dvd_right (Int.dvd_refl c), Int.ediv_self (by omega)]
      have := Int.ediv_nonneg (a := j - i - 1) (b := c) (by omega) (by omega)
      omega
    · have h1 : (j - i + c - 1) / c < 1 := Int.ediv_lt_of_lt_mul (by omega) (by omega)
      omega
  have h0 : (0 : Int) ≤ (((j - i + c - 1) / c).toNat : Int) := by omega
  have h1 : (((j - i + c - 1) / c).toNat : Int) < 2 ^ 63 := by
    have h2 : (j - i + c - 1) / c < 2 ^ 63 := Int.ediv_lt_of_lt_mul hc (by
      have : (2 : Int) ^ 63 * 1 ≤ 2 ^ 63 * c := Int.mul_le_mul_of_nonneg_left (by omega) (by omega)
      omega)
    omega
  refine ⟨by omega, by omega, ?_, e⟩
  unfold Builtin.Range.small
  rw [e]
  simp only [Builtin.Range.rangeFitsLong, Bool.and_eq_true, Bool.or_eq_true, decide_eq_true_eq, beq_iff_eq, if_pos (show c > 0 from hc)]
  omega
def diRng3 (ta : DAT) : DIT := fun ρ R => ta ρ fun hs ρ1 => match gets ρ1 hs with
  | some [.int i, .int j, .int c] => ∃ n : Nat, RgC i j c n ∧ R (rngC i c n) ρ1
  | _ => False
theorem Tops.three {K : PySem.W.Frag} {H0 H : Hp} {vs : List V} {a b c : D} (t : Tops K H0 H vs [a, b, c]) : ∃ x y z, vs = [x, y, z] ∧ Top K H0 H x a ∧ Top K H0 H y b ∧ Top K H0 H z c := by
  cases t with
  | cons h1 t =>
    cases t with
    | cons h2 t =>
      cases t with
      | cons h3 t => cases t; exact ⟨_, _, _, rfl, h1, h2, h3⟩
end
end DL

/-! DL11: several names set at once, their values kept as they are (own lists stay own). -/
namespace DL
open PySem L2
inductive OReps (K : PySem.W.Frag) (H0 : Hp) : List V → List S → List (Addr × List V) → Prop where
  | nil : OReps K H0 [] [] []
  | v {v : V} {d : D} {vs : List V} {ss : List S} {tm : List (Addr × List V)} : Rep K H0 v d → OReps K H0 vs ss tm → OReps K H0 (v :: vs) (.v d :: ss) tm
  | o {p : Addr} {xs : List V} {ds : List D} {vs : List V} {ss : List S} {tm : List (Addr × List V)} : Reps K H0 xs ds → (∀ ys, (p, ys) ∉ tm) → OReps K H0 vs ss tm → OReps K H0 (.ref p :: vs) (.o ds :: ss) (tm ++ [(p, xs)])
abbrev DOT := Rho → (List S → Rho → Prop) → Prop
def LO (Γ : Fx) (K : PySem.W.Frag) (t : DOT) : TA := fun σ H Q => ∃ H0 ρ R, Fit Γ K H0 σ ρ H ∧ t ρ R ∧ ∀ ss ρ' vs H0' H' tmn, R ss ρ' → Fit (Γ.at (tmn ++ Γ.tm)) K H0' σ ρ' H' → Same H0 H0' → OReps K H0' vs ss tmn →
  (∀ p xs, (p, xs) ∈ tmn → Γ.Hs p = none ∧ ∀ ys, (p, ys) ∉ Γ.tm) → Q vs H'
structure DO (X : Cx) (Γ : Fx) (es : List Expr) (t : DOT) : Prop where
  run : ∀ tm, PA X es (LO (Γ.at tm) X.K t)
def doNil : DOT := fun ρ R => R [] ρ
def doCons (t : DT) (u : DOT) : DOT := fun ρ R => t ρ fun r ρ1 => notX r (u ρ1 fun rs ρ2 => R (r :: rs) ρ2)
theorem paEx {X : Cx} {es : List Expr} {α : Type} {T : α → TA} (h : ∀ a, PA X es (T a)) : PA X es (fun σ H Q => ∃ a, T a σ H Q) := ⟨fun pos pins s σ H Q I ⟨a, q⟩ => (h a).run pos pins s σ H Q I q⟩
theorem Fit.tmSub {Γ : Fx} {K : PySem.W.Frag} {H0 : Hp} {σ : St} {ρ : Rho} {H : Hp} {tm tm' : List (Addr × List V)} (F : Fit (Γ.at tm) K H0 σ ρ H) (h : ∀ q, q ∈ tm' → q ∈ tm) : Fit (Γ.at tm') K H0 σ ρ H :=
  ⟨F.sub, F.s0, F.keep, F.new, F.len, F.slots, F.loc, F.par, F.dist, F.mps, fun p xs q => F.tmp p xs (h _ q), fun j x G hj a ha => by
    have X1 := F.ex j x G hj a ha
    exact X1.tr X1.hs (fun xs z => X1.tm xs (h _ z)) (fun k s es q1 q2 => ⟨s, es, q1, q2, rfl⟩) fun k y G q => ⟨y, q⟩⟩
section
variable {X : Cx} {Γ : Fx} {e : Expr} {es : List Expr} {t : DT} {u : DOT}
theorem do_nil : DO X Γ [] doNil := ⟨fun tm => paLe pa_nil fun σ H Q ⟨H0, ρ, R, F, t, k⟩ => k [] ρ [] H0 H [] t F (Same.refl _) .nil fun _ _ z => (nomatch z)⟩
theorem do_cons (ha : DE X Γ e t) (hr : DO X Γ es u) (hs : starEach (e :: es) X.env = (false, eval e X.env) :: starEach es X.env := by rfl) : DO X Γ (e :: es) (doCons t u) :=
  ⟨fun tm => paLe (pa_cons (ha.run tm) (paEx hr.run) hs) fun σ H Q ⟨H0, ρ, R, F, t, k⟩ => ⟨H0, ρ, _, F, t, fun r ρ1 v H1 H' q F1 e1 rr => by
    cases r with
    | m ds => exact rr.elim
    | x x G => exact q.elim
    | v d => exact ⟨tm, H1, ρ1, _, F1, q, fun ss ρ2 vs H2 H'' tmn q2 F2 e2 o2 s2 => k _ ρ2 _ H2 H'' tmn q2 F2 (e1.trans e2) (.v (Rep.mono e2 rr) o2) s2⟩
    | o ds =>
      obtain ⟨p, rfl, ⟨h0, xs, hx, rx⟩, hs, ht, hn, hnx⟩ := rr
      have F1' : Fit (Γ.at ((p, xs) :: tm)) X.K H1 σ ρ1 H' := ⟨F1.sub, F1.s0, F1.keep, F1.new, F1.len, F1.slots, F1.loc, F1.par, F1.dist, F1.mps, fun p' ys hm => by
        rcases List.mem_cons.mp hm with z | z
        · cases z; exact ⟨hx, h0, hn⟩
        · exact F1.tmp p' ys z, fun j x G hj a ha => by
        have X1 := F1.ex j x G hj a ha
        refine X1.tr X1.hs (fun zs z => ?_) (fun k s es q1 q2 => ⟨s, es, q1, q2, rfl⟩) fun k y G q => ⟨y, q⟩
        rcases List.mem_cons.mp z with w | w
        · cases w; exact hnx j x G hj ha
        · exact X1.tm zs w⟩
      refine ⟨(p, xs) :: tm, H1, ρ1, _, F1', q, fun ss ρ2 vs H2 H'' tmn q2 F2 e2 o2 s2 => ?_⟩
      refine k _ ρ2 _ H2 H'' (tmn ++ [(p, xs)]) q2 ?_ (e1.trans e2) (.o (rx.mono e2) (fun ys hm => (s2 p ys hm).2 xs List.mem_cons_self) o2) fun p' ys hm => ?_
      · have e3 : (tmn ++ [(p, xs)]) ++ (Γ.at tm).tm = tmn ++ ((p, xs) :: tm) := by simp
        rw [e3]
        exact F2
      · rcases List.mem_append.mp hm with z | z
        · exact ⟨(s2 p' ys z).1, fun zs hz => (s2 p' ys z).2 zs (List.mem_cons_of_mem _ hz)⟩
        · cases List.mem_singleton.mp z
          exact ⟨hs, ht⟩⟩⟩
end
def asgO : List Nat → List S → Rho → (Rho → Prop) → Prop
  | [], [], ρ, k => k ρ
  | j :: js, s :: ss, ρ, k => setR j s ρ fun ρ1 => asgO js ss ρ1 k
  | _, _, _, _ => False
def setAll : List Nat → List V → St → St
  | j :: js, v :: vs, σ => setAll js vs (σ.set j (some v))
  | _, _, σ => σ
theorem fit_asgO {Γ : Fx} {K : PySem.W.Frag} {H0 : Hp} {H : Hp} {tm : List (Addr × List V)} {vs : List V} {ss : List S} {tmn : List (Addr × List V)} (o : OReps K H0 vs ss tmn) : ∀ {js : List Nat} {σ : St} {ρ : Rho} {k : Rho → Prop}, Fit (Γ.at (tmn ++ tm)) K H0 σ ρ H →
    (∀ p xs, (p, xs) ∈ tmn → Γ.Hs p = none ∧ ∀ ys, (p, ys) ∉ tm) → asgO js ss ρ k → ∃ ρ', k ρ' ∧ Fit (Γ.at tm) K H0 (setAll js vs σ) ρ' H := by
  induction o with
  | nil =>
    intro js σ ρ k F s h
    cases js with
    | nil => exact ⟨ρ, h, F⟩
    | cons j js => exact h.elim
  | v r o ih =>
    intro js σ ρ k F s h
    cases js with
    | nil => exact h.elim
    | cons j js =>
      obtain ⟨h1, h2, h3⟩ := setR_ok h
      exact ih (F.set (r := .v _) r h1 h2) s h3
  | @o p xs ds vs ss tm1 rx hp o ih =>
    intro js σ ρ k F s h
    cases js with
    | nil => exact h.elim
    | cons j js =>
      obtain ⟨h1, h2, h3⟩ := setR_ok h
      have hm : (p, xs) ∈ (tm1 ++ [(p, xs)]) ++ tm := List.mem_append_left _ (List.mem_append_right _ List.mem_cons_self)
      obtain ⟨t1, t2, t3⟩ := F.tmp p xs hm
      obtain ⟨s1, s2⟩ := s p xs (List.mem_append_right _ List.mem_cons_self)
      have F1 : Fit (Γ.at (tm1 ++ tm)) K H0 σ ρ H := F.tmSub fun q hq => by
        rcases List.mem_append.mp hq with z | z
        · exact List.mem_append_left _ (List.mem_append_left _ z)
        · exact List.mem_append_right _ z
      have rr : RRep (Γ.at (tm1 ++ tm)) K H0 σ ρ H (.ref p) (.o ds) := ⟨p, rfl, ⟨t2, xs, t1, rx⟩, s1, fun ys hy => by
        rcases List.mem_append.mp hy with z | z
        · exact hp ys z
        · exact s2 ys z, t3, F.tmX hm⟩
      exact ih (F1.set rr h1 h2) (fun p' xs' hm' => s p' xs' (List.mem_append_left _ hm')) h3
def dParO (js : List Nat) (ta : DOT) : DST := fun De ρ => ta ρ fun ss ρ1 => asgO js ss ρ1 De.nx
theorem asgO_len : ∀ {js : List Nat} {ss : List S} {ρ : Rho} {k : Rho → Prop}, asgO js ss ρ k → ss.length = js.length
  | [], [], _, _, _ => rfl
  | [], _ :: _, _, _, h => h.elim
  | _ :: _, [], _, _, h => h.elim
  | j :: js, s :: ss, ρ, k, h => by
    obtain ⟨_, _, h3⟩ := setR_ok h
    rw [List.length_cons, List.length_cons, asgO_len h3]
theorem OReps.length {K : PySem.W.Frag} {H0 : Hp} {vs : List V} {ss : List S} {tm : List (Addr × List V)} (o : OReps K H0 vs ss tm) : vs.length = ss.length := by
  induction o with
  | nil => rfl
  | v r o ih => rw [List.length_cons, List.length_cons, ih]
  | o r p o ih => rw [List.length_cons, List.length_cons, ih]
section
variable {X : Cx} {Γ : Fx}
theorem ds_parO2 {i j : Nat} {x y : Str} {a b : Expr} {ta : DOT} {px py pt pos : Pos} {kt k2 pt2} (hc : X.calm = true) (hN : X.N.Nodup) (hi : X.N[i]? = some x) (hj : X.N[j]? = some y) (hij : i ≠ j)
    (hx : X.env.scope.names.lookup x = some .local) (hy : X.env.scope.names.lookup y = some .local) (ha : DO X Γ [a, b] ta)
    (hw : swappedStores [.Tuple [.Name x px, .Name y py] kt pt] (.Tuple [a, b] k2 pt2) X.env = pure (some [x, y]) := by rfl)
    (hs : swapsWithSole [.Tuple [.Name x px, .Name y py] kt pt] (.Tuple [a, b] k2 pt2) pos.line X.env = pure false := by rfl) : DS X Γ (.Assign [.Tuple [.Name x px, .Name y py] kt pt] (.Tuple [a, b] k2 pt2) pos) (dParO [i, j] ta) :=
  ⟨fun tm => psLe (ps_par (i := i) (j := j) hc hN hi hj hij hx hy (ha.run []) hw hs) fun D σ H ⟨H0, ρ, De, F, t, E⟩ => ⟨H0, ρ, _, F, t, fun ss ρ1 vs H1 H' tmn q F1 e1 oo s1 => by
    have hl := oo.length.trans (asgO_len q)
    obtain ⟨ρ', h1, h2⟩ := fit_asgO oo F1 s1 q
    match vs, hl with
    | [v, w], _ => exact ⟨v, w, rfl, E.nx H1 _ _ H' h1 h2 e1⟩⟩⟩
theorem ds_parO3 {i j l : Nat} {x y z : Str} {a b c : Expr} {ta : DOT} {px py pz pt pos : Pos} {kt k2 pt2} (hc : X.calm = true) (hN : X.N.Nodup) (hi : X.N[i]? = some x) (hj : X.N[j]? = some y) (hl : X.N[l]? = some z) (hij : i ≠ j) (hil : i ≠ l) (hjl : j ≠ l)
    (hx : X.env.scope.names.lookup x = some .local) (hy : X.env.scope.names.lookup y = some .local) (hz : X.env.scope.names.lookup z = some .local) (ha : DO X Γ [a, b, c] ta)
    (hw : swappedStores [.Tuple [.Name x px, .Name y py, .Name z pz] kt pt] (.Tuple [a, b, c] k2 pt2) X.env = pure (some [x, y, z]) := by rfl)
    (hs : swapsWithSole [.Tuple [.Name x px, .Name y py, .Name z pz] kt pt] (.Tuple [a, b, c] k2 pt2) pos.line X.env = pure false := by rfl) : DS X Γ (.Assign [.Tuple [.Name x px, .Name y py, .Name z pz] kt pt] (.Tuple [a, b, c] k2 pt2) pos) (dParO [i, j, l] ta) :=
  ⟨fun tm => psLe (ps_par3 (i := i) (j := j) (l := l) hc hN hi hj hl hij hil hjl hx hy hz (ha.run []) hw hs) fun D σ H ⟨H0, ρ, De, F, t, E⟩ => ⟨H0, ρ, _, F, t, fun ss ρ1 vs H1 H' tmn q F1 e1 oo s1 => by
    have hl := oo.length.trans (asgO_len q)
    obtain ⟨ρ', h1, h2⟩ := fit_asgO oo F1 s1 q
    match vs, hl with
    | [v, w, z], _ => exact ⟨v, w, z, rfl, E.nx H1 _ _ H' h1 h2 e1⟩⟩⟩
end
end DL

/-! DL12: loops that forget, turn by turn, what the turn before has left in some slots. -/
namespace DL
open PySem L2
def fgt1 (v : Nat) (ρ : Rho) : Rho := match ρ[v]? with
  | some (some (.m _)) => ρ
  | _ => ρ.set v none
def forgetO : List Nat → Rho → Rho
  | [], ρ => ρ
  | v :: vs, ρ => forgetO vs (fgt1 v ρ)
def keepM : Option S → Option S
  | some (.m d) => some (.m d)
  | _ => none
def memN (i : Nat) : List Nat → Bool
  | [] => false
  | v :: vs => cond (Nat.beq i v) true (memN i vs)
/-- the same, slot by slot -/
def forgetA (ws : List Nat) : Nat → Rho → Rho
  | _, [] => []
  | i, x :: ρ => cond (memN i ws) (keepM x) x :: forgetA ws (i + 1) ρ
def forget (ws : List Nat) (ρ : Rho) : Rho := forgetA ws 0 ρ
theorem keepM_keepM (x : Option S) : keepM (keepM x) = keepM x := by
  match x with
  | none => rfl
  | some (.v _) => rfl
  | some (.o _) => rfl
  | some (.m _) => rfl
  | some (.x _ _) => rfl
theorem forgetA_get (ws : List Nat) : ∀ (ρ : Rho) (k i : Nat), (forgetA ws k ρ)[i]? = (ρ[i]?).map fun x => cond (memN (k + i) ws) (keepM x) x
  | [], k, i => by rw [forgetA]; rfl
  | x :: ρ, k, 0 => by rw [forgetA]; rfl
  | x :: ρ, k, i + 1 => by
    rw [forgetA, List.getElem?_cons_succ, List.getElem?_cons_succ, forgetA_get ws ρ (k + 1) i, show k + 1 + i = k + (i + 1) by omega]
theorem fgt1_get (v : Nat) (ρ : Rho) (i : Nat) : (fgt1 v ρ)[i]? = (ρ[i]?).map fun x => cond (Nat.beq i v) (keepM x) x := by
  by_cases e : i = v
  · subst e
    rw [show Nat.beq i i = true from Nat.beq_refl i]
    unfold fgt1
    split
    · rename_i d h
      rw [h]
      rfl
    · rename_i hne
      rw [List.getElem?_set]
      simp only [if_true]
      cases q : ρ[i]? with
      | none =>
        rw [if_neg]
        · rfl
        · intro z
          rw [List.getElem?_eq_getElem z] at q
          cases q
      | some x =>
        rw [if_pos (List.getElem?_eq_some_iff.mp q).1]
        match x with
        | none => rfl
        | some (.v _) => rfl
        | some (.o _) => rfl
        | some (.x _ _) => rfl
        | some (.m d) => exact absurd q (hne d)
  · rw [show Nat.beq i v = false from by cases h : Nat.beq i v with
      | false => rfl
      | true => exact absurd (Nat.eq_of_beq_eq_true h) e]
    unfold fgt1
    split
    · simp
    · rw [List.getElem?_set_ne (fun z => e z.symm)]
      simp
theorem forgetO_get : ∀ (ws : List Nat) (ρ : Rho) (i : Nat), (forgetO ws ρ)[i]? = (ρ[i]?).map fun x => cond (memN i ws) (keepM x) x
  | [], ρ, i => by
    rw [forgetO]
    cases ρ[i]? <;> rfl
  | v :: vs, ρ, i => by
    rw [forgetO, forgetO_get vs (fgt1 v ρ) i, fgt1_get v ρ i, Option.map_map]
    congr 1
    funext x
    show cond (memN i vs) (keepM (cond (Nat.beq i v) (keepM x) x)) (cond (Nat.beq i v) (keepM x) x) = cond (cond (Nat.beq i v) true (memN i vs)) (keepM x) x
    cases Nat.beq i v <;> cases memN i vs <;> simp [keepM_keepM]
theorem forget_eq (ws : List Nat) (ρ : Rho) : forget ws ρ = forgetO ws ρ := List.ext_getElem? fun i => by
  rw [forgetO_get, forget, forgetA_get, Nat.zero_add]
theorem Fit.fgt1 {Γ : Fx} {K : PySem.W.Frag} {H0 : Hp} {σ : St} {ρ : Rho} {H : Hp} (F : Fit Γ K H0 σ ρ H) (v : Nat) : Fit Γ K H0 σ (DL.fgt1 v ρ) H := by
  unfold DL.fgt1
  split
  · exact F
  · rename_i hne
    have get : ∀ (j : Nat) s, (ρ.set v none)[j]? = some (some s) → ρ[j]? = some (some s) := fun j s h => by
      by_cases q : v = j
      · subst q
        rw [List.getElem?_set] at h
        split at h
        · split at h <;> cases h
        · exact h
      · rwa [List.getElem?_set_ne q] at h
    refine ⟨F.sub, F.s0, F.keep, F.new, by rw [List.length_set]; exact F.len, fun i s h => F.slots i s (get i s h), fun i ds p h => F.loc i ds p (get i _ h), fun i ds p h => F.par i ds p (get i _ h),
      fun i j s t ds es p h1 h2 => F.dist i j s t ds es p (get i _ h1) (get j _ h2), fun i a h => ?_, fun p xs h => ?_, fun j x G hj a ha => ?_⟩
    · obtain ⟨h1, ds, h2⟩ := F.mps i a h
      refine ⟨h1, ds, ?_⟩
      rw [List.getElem?_set_ne]
      · exact h2
      · intro z
        subst z
        exact hne ds h2
    · obtain ⟨h1, h2, h3⟩ := F.tmp p xs h
      exact ⟨h1, h2, fun i s es q => h3 i s es (get i s q)⟩
    · have X1 := F.ex j x G (get j _ hj) a ha
      exact X1.tr X1.hs X1.tm (fun k s es q1 q2 => ⟨s, es, get k _ q1, q2, rfl⟩) fun k y G q => ⟨y, get k _ q⟩
theorem Fit.forgetO {Γ : Fx} {K : PySem.W.Frag} {H0 : Hp} {σ : St} {H : Hp} : ∀ (vs : List Nat) {ρ : Rho}, Fit Γ K H0 σ ρ H → Fit Γ K H0 σ (DL.forgetO vs ρ) H
  | [], _, F => F
  | v :: vs, _, F => Fit.forgetO vs (F.fgt1 v)
theorem Fit.forget {Γ : Fx} {K : PySem.W.Frag} {H0 : Hp} {σ : St} {H : Hp} (vs : List Nat) {ρ : Rho} (F : Fit Γ K H0 σ ρ H) : Fit Γ K H0 σ (DL.forget vs ρ) H := by
  rw [forget_eq]
  exact Fit.forgetO vs F
def forW (ws : List Nat) (g : DGT) (tb : DST) (De : DEnds) : List D → Rho → Prop
  | [], ρ => De.nx ρ
  | x :: xs, ρ => g (.v x) ρ fun ρ2 => tb { De with nx := fun ρ' => forW ws g tb De xs (forget ws ρ'), ct := fun ρ' => forW ws g tb De xs (forget ws ρ'), bk := De.nx } ρ2
def dForW (ws : List Nat) (ti : DIT) (g : DGT) (tb : DST) : DST := fun De ρ => ti ρ fun items ρ1 => forW ws g tb De items (forget ws ρ1)
theorem ds_forW {X : Cx} {Γ : Fx} {tg iter : Expr} {body : List Stmt} {ti : DIT} {g : DGT} {tb : DST} {js : List Nat} {pos : Pos} {ws : List Nat} (hp : PassesOwn (model X.prog X.w) X.A X.env X.xe) (hc : X.calm = true) (hi : DI X Γ tg iter ti) (hg : DGd X Γ tg js g) (hb : DSs X Γ body tb)
    (hs : ∀ x, foldedSetIterable iter X.env x = pure x := by intro _; rfl) : DS X Γ (.For tg iter body [] pos) (dForW ws ti g tb) :=
  ⟨fun tm => psLe (ps_for hp hc (hi.run []) (hg.run []) (hb.run []) hs) fun D σ H ⟨H0, ρ, De, F, t, E⟩ => ⟨H0, ρ, _, F, t, fun items ρ1 J B H' q F1 e1 A => by
    refine ⟨fun i m σ H => m = items.length - i ∧ i ≤ items.length ∧ ∃ H1 ρ, Fit (Γ.at []) X.K H1 σ ρ H ∧ Same B H1 ∧ forW ws g tb De (items.drop i) ρ, ⟨items.length, rfl, Nat.zero_le _, B, _, F1.forget ws, Same.refl _, q⟩, ?_⟩
    rintro i m σ2 H2 ⟨rfl, hi, H3, ρ3, F3, e3, q3⟩
    by_cases hlt : i < items.length
    · have nx : ∀ H0' σ' ρ' H', forW ws g tb De (items.drop (i + 1)) (forget ws ρ') → Fit (Γ.at []) X.K H0' σ' ρ' H' → Same H3 H0' → items.length - (i + 1) = items.length - (i + 1) ∧ i + 1 ≤ items.length ∧ ∃ H1 ρ, Fit (Γ.at []) X.K H1 σ' ρ H' ∧ Same B H1 ∧ forW ws g tb De (items.drop (i + 1)) ρ :=
        fun H0' σ' ρ' H' w F' e' => ⟨rfl, hlt, H0', _, F'.forget ws, e3.trans e', w⟩
      refine .inr ⟨A.goes i H2 hlt (e3.trans F3.sub), fun σ H => items.length - (i + 1) = items.length - (i + 1) ∧ i + 1 ≤ items.length ∧ ∃ H1 ρ, Fit (Γ.at []) X.K H1 σ ρ H ∧ Same B H1 ∧ forW ws g tb De (items.drop (i + 1)) ρ, fun σ' H' z => ⟨items.length - (i + 1), by omega, z⟩, fun x H4 y => ?_⟩
      obtain ⟨d, H5, h1, F5, e5, r5⟩ := A.take F3 e3 hlt y
      rw [drop_cons h1] at q3
      refine ⟨H5, ρ3, d, _, F5, r5, q3, fun ρ6 H6 σ6 H7 q6 F6 e6 _ => ⟨H6, ρ6, _, F6, q6, ?_⟩⟩
      have E2 := E.up ((e1.trans e3).trans (e5.trans e6))
      have up := e5.trans e6
      exact ⟨fun H0' σ' ρ' H' w F' e' => nx H0' σ' ρ' H' w F' (up.trans e'), E2.rt, E2.nx, fun H0' σ' ρ' H' w F' e' => nx H0' σ' ρ' H' w F' (up.trans e')⟩
    · have ei : i = items.length := by omega
      subst ei
      rw [List.drop_of_length_le (Nat.le_refl _)] at q3
      exact .inl ⟨A.stops H2 (e3.trans F3.sub), E.nx H3 σ2 ρ3 H2 q3 F3 (e1.trans e3)⟩⟩⟩
def dWhileW (ws : List Nat) (c : DTT) (tb : DST) : DST := fun De ρ => ∃ W : Nat → Rho → Prop, (∃ m, W m (forget ws ρ)) ∧ ∀ m ρ, W m ρ → c ρ fun b ρ1 =>
  IfB b (tb { De with nx := fun ρ' => ∃ m', m' < m ∧ W m' (forget ws ρ'), ct := fun ρ' => ∃ m', m' < m ∧ W m' (forget ws ρ'), bk := De.nx } ρ1) (De.nx ρ1)
end DL

/-! DL13: a try whose clause keeps the error: behind it the error stands in the heap as a thing of its own. -/
namespace DL
open PySem PySem.Spec PyProof.Rows L2
theorem exk_ok {P : Program} {w : World} {H : Hp} {h : Heap} {a : Addr} {cls : Value} {d : Option Addr} {oe : Obj} {vs : Array Value} (e : h.get? a = some oe) (z : Zc cls d oe) (q : oe.data = .fields vs) : ObjOk P w H h a (exk a cls d) :=
  ⟨⟨oe, vs, e, z, q⟩, ⟨oe, e⟩, fun _ _ ⟨o, v, g, r⟩ k => ⟨o, v, k o g, r⟩⟩
theorem Inv_keepExc {X : Cx} {pins : List (Addr × Obj)} {σ : L2.St} {H : Hp} {s : Shared} {a : Addr} {cls : Value} {d : Option Addr} {oe : Obj} {vs : Array Value} (I : Inv X pins σ H s) (na : H a = none) (he : s.heap.get? a = some oe) (hz : Zc cls d oe) (hd : oe.data = .fields vs)
    (new : ∀ o, X.s_0.heap.get? a = some o → a ∈ X.ex) (nL : a ≠ X.env.locals) (np : ∀ p ∈ X.pn ++ pins, p.1 ≠ a) : Inv X pins σ (upd H a (exk a cls d)) s := by
  have nC : ∀ x c, X.env.cells.lookup x = some c → c ≠ a := fun x c q z => by
    obtain ⟨v, o, h1, h2⟩ := I.cell x c q
    rw [z, he] at h1
    cases h1
    rw [hd] at h2
    cases h2
  refine ⟨I.ok, I.os, I.bare, ⟨I.base.keep, I.base.slot, fun b u q1 q2 q3 => ?_, I.base.there, fun b xs q => ?_, fun b o u q => ?_, fun b ps q => ?_⟩, I.loc, I.cell, ?_, fun x c q => ?_, fun p hp => ?_, ?_, I.len⟩
  · rw [upd_ne fun z => q3 (by rw [z]; exact new u (by rw [← z]; exact q1))]
    exact I.base.free b u q1 q2 q3
  · have t := I.base.tups b xs q
    rw [upd_ne (ne_of_none t na)]
    exact t
  · have t := I.base.frzs b o u q
    rw [upd_ne (ne_of_none t na)]
    exact t
  · obtain ⟨more, t⟩ := I.base.tbls b ps q
    exact ⟨more, by rw [upd_ne (ne_of_none t na)]; exact t⟩
  · rw [upd_ne fun z => nL z.symm]
    exact I.free
  · rw [upd_ne (nC x c q)]
    exact I.freeC x c q
  · obtain ⟨p1, p2, p3⟩ := I.pin p hp
    exact ⟨p1, by rw [upd_ne (np p hp)]; exact p2, p3⟩
  · exact I.hok.laidN (fun _ _ q => q) na (exk_ok he hz hd)
/-- the ends of the clause's suite -/
def endsK (a : Addr) (cls : Value) (d : Option Addr) (i : Nat) (D : Ends) : Ends := { nx := fun σ' H' => D.nx (σ'.set i none) (upd H' a (exk a cls d)), rt := fun _ _ => False, bk := fun _ _ => False, ct := fun _ _ => False }
/-- what the clause wishes of an error of the body -/
def wKeep (K : PySem.W.Frag) (c : Value) (i : Nat) (ts : Addr → Value → Option Addr → TS) (D : Ends) : WX := fun cls d σ H =>
  PySem.W.exmOne K cls c = some true ∧ ∀ a, H a = none → ts a cls d (endsK a cls d i D) (σ.set i (some (.ref a))) H
section
variable {X : Cx} {x n : Str} {c : Value} {i : Nat} {body suite : List Stmt} {b₀ : Stmt} {np pos pos' : Pos} {tb : WX → TS} {ts : Addr → Value → Option Addr → TS}
theorem ps_tryK (stk : X.stack = X.env :: X.outer) (fr : X.env.frame = some X.env.locals) (nod : X.N.Nodup) (at_i : X.N[i]? = some n) (loc : X.env.kindOf n = some .local) (nm : Names X x c)
    (bd : ∀ (W : WX) (pn : List (Addr × Obj)) (xe : Value → Shared → Prop), Takes (X.tr pn xe) W → PassesOwn (model X.prog X.w) X.A X.env xe → PSs (X.tr pn xe) body (tb W))
    (su : ∀ (a : Addr) (oe : Obj) (cls : Value) (d : Option Addr) (pn : List (Addr × Obj)), PSs (X.suite a ((a, oe) :: pn)) (b₀ :: suite) (ts a cls d)) :
    PS X (.Try body [.ExceptHandler (some (.Name x np)) (some n) (b₀ :: suite) pos'] [] [] pos) (fun D σ H => tb (wKeep X.K c i ts D) D σ H) := by
  constructor
  intro pins s σ H D I rd
  have frames : X.A.frames = some (X.env :: X.outer) := by rw [I.ok.frames, stk]
  apply wpAny_Try_except
  generalize hE : (fun e s₁ => wpAny (model X.prog X.w) X.A (noteFrame e X.env) (fun _ s₂ => wpAny (model X.prog X.w) X.A (setFlight e none) (fun _ s₃ => wpAny (model X.prog X.w) X.A (handleBy e X.env [.ExceptHandler (some (.Name x np)) (some n) (b₀ :: suite) pos']) (SP X pins D) X.xe s₃) X.xe s₂) X.xe s₁ : Value → Shared → Prop) = xE
  have caught : Takes (X.tr (X.pn ++ pins) xE) (wKeep X.K c i ts D) := by
    rintro u s' ⟨a, B, sI, ps', σ', H', cls, d, rfl, JT, ground, up, sky, na, hos, bare, isb, yes⟩
    have J : Inv X pins σ' H' sI := JT.ofTry I.ok
    show xE (.ref a) s'
    rw [← hE]
    rw [show (X.tr (X.pn ++ pins) xE).stack = X.env :: X.outer from stk] at sky
    refine Sky.land Zc.steady frames fr sky ?_
    intro h1 fly up1
    have J1 : Inv X pins σ' H' { s' with heap := h1 } := J.landed ground fly.1 (up.trans up1) hos bare
    obtain ⟨o1, v1, g1, z1, dd1⟩ := fly.there
    have notF : a ∉ frs (X.env :: X.outer) := fun hm => by
      obtain ⟨_, o', e', q⟩ := fly.2.2.1.mem hm
      rw [g1] at e'
      cases e'
      exact q _ dd1
    have nL : a ≠ X.env.locals := fun z => notF (by rw [z]; exact List.mem_filterMap.mpr ⟨X.env, List.mem_cons_self, fr⟩)
    have nF : a ∉ X.fs := fun hm => notF (by
      obtain ⟨e, he, q⟩ := List.mem_filterMap.mp hm
      exact List.mem_filterMap.mpr ⟨e, List.mem_cons_of_mem _ he, q⟩)
    have fresh : sI.heap.get? a = none := by
      cases q : sI.heap.get? a with
      | none => rfl
      | some o =>
        have := ground a o q (by rw [show (X.tr (X.pn ++ pins) xE).stack = X.env :: X.outer from stk]; exact notF)
        rw [fly.2.1] at this
        cases this
    have newA : ∀ o, X.s_0.heap.get? a = some o → a ∈ X.ex := fun o q => Classical.byContradiction fun z => by
      obtain ⟨o', h⟩ := J.base.there a o q z
      rw [fresh] at h
      cases h
    have offP : ∀ p ∈ X.pn ++ pins, p.1 ≠ a := fun p hp z => by
      have := (J.pin p hp).1
      rw [z, fresh] at this
      cases this
    have JS := J1.suite g1 dd1 na nL nF
    apply wpAny_handleBy_cons
    · apply codeAny_handlers_test
      have ty : PySem.W.Looks (model X.prog X.w) h1 (typeOf (.ref a)) cls := fun A Q E s k q => wpAny_typeOf_ref (k _ _ g1) (by rw [z1.1]; exact q)
      have look := PySem.W.exm_one (M := model X.prog X.w) J1.kIn ty isb
      have read : ∀ {Q : Value → Shared → Prop} {E : Value → Shared → Prop}, Q c { s' with heap := h1 } → wpAny (model X.prog X.w) (X.A.mark (some (.ref a))) (eval (.Name x np) X.env) Q E { s' with heap := h1 } := fun {Q E} q => by
        obtain ⟨w1, w2, w3⟩ := nm
        rcases w3 with w3 | ⟨w3, w4, w5⟩
        · exact ld_glob (X := X.suite a _) JS w1 w3 q w2
        · exact ld_blt (X := X.suite a _) JS w1 w3 w4 q w5 w2
      refine read (look.here ?_)
      apply codeAny_handlers_suite_as
      refine HandSPX.lands_againZ fly ?_
      intro h2 fly2 up2
      have J2 : Inv X pins σ' H' { s' with heap := h2 } := J.landed ground fly2.1 ((up.trans up1).trans up2) hos bare
      obtain ⟨o2, v2, g2, z2, dd2⟩ := fly2.there
      have JS2 := J2.suite g2 dd2 na nL nF
      refine store_ok (X := X.suite a ((a, o2) :: (X.pn ++ pins))) (v := .ref a) JS2 nod at_i (.inl loc) rfl ?_ (.inr loc)
      intro s3 JS3
      have run := (su a o2 cls d (X.pn ++ pins)).run [] s3 _ H' _ JS3 (yes a na)
      refine wpAny_mono run (fun f s4 q => ?_) fun _ _ z => z.elim
      cases f with
      | next =>
        obtain ⟨σ4, H4, JS4, q4⟩ := q
        have pa := JS4.pin (a, o2) (List.mem_append_left _ List.mem_cons_self)
        have J4 := Inv_keepExc (JS4.unsuite I.ok) pa.2.1 pa.1 z2 dd2 newA nL offP
        exact gone_ok J4 nod at_i loc fun s5 J5 => ⟨_, _, J5, q4⟩
      | brk => obtain ⟨_, _, _, q4⟩ := q; exact q4.elim
      | cont => obtain ⟨_, _, _, q4⟩ := q; exact q4.elim
      | ret u => obtain ⟨_, _, _, _, _, q4⟩ := q; exact q4.elim
    · intro z
      cases z
  have own : PassesOwn (model X.prog X.w) X.A X.env xE := by rw [← hE]; exact PassesOwn.looking
  have go := (bd _ (X.pn ++ pins) xE caught own).run [] s σ H D (I.toTry _) rd
  refine wpAny_mono go (fun f s1 q => ?_) fun _ _ z => z
  cases f with
  | next => obtain ⟨σ1, H1, J1, q1⟩ := q; exact wpAny_execs_nil ⟨σ1, H1, J1.ofTry I.ok, q1⟩
  | brk => obtain ⟨σ1, H1, J1, q1⟩ := q; exact ⟨σ1, H1, J1.ofTry I.ok, q1⟩
  | cont => obtain ⟨σ1, H1, J1, q1⟩ := q; exact ⟨σ1, H1, J1.ofTry I.ok, q1⟩
  | ret u => obtain ⟨v1, σ1, H1, J1, r1, q1⟩ := q; exact ⟨v1, σ1, H1, J1.ofTry I.ok, r1, q1⟩
end
end DL

/-! DLX: errors of the text over any of Python's own classes of errors. -/
namespace DL
open PySem PySem.Spec PyProof.Rows L2
/-- a class of Python's own over which an error's class stands -/
structure XBase where
  B : String
  newId : String
  initId : String
  bm : List Value
structure XBase.Ok (b : XBase) : Prop where
  base : ExcBaseFacts b.B b.newId b.initId b.bm
  store : StoreFacts b.B b.bm "object.__setattr__" "object"
def bValue : XBase := ⟨"ValueError", "ValueError.__new__", "ValueError.__init__", [.type "ValueError", .type "Exception", .type "BaseException", .type "object"]⟩
def bOverflow : XBase := ⟨"OverflowError", "OverflowError.__new__", "OverflowError.__init__", [.type "OverflowError", .type "ArithmeticError", .type "Exception", .type "BaseException", .type "object"]⟩
def bIndex : XBase := ⟨"IndexError", "IndexError.__new__", "IndexError.__init__", [.type "IndexError", .type "LookupError", .type "Exception", .type "BaseException", .type "object"]⟩
def bLookup : XBase := ⟨"LookupError", "LookupError.__new__", "LookupError.__init__", [.type "LookupError", .type "Exception", .type "BaseException", .type "object"]⟩
theorem bValue_ok : bValue.Ok := ⟨PySem.F.excBase_ValueError, PySem.F.store_ValueError⟩
/-- what the written part says of the class at C, straight over b -/
structure OexB (K : PySem.W.Frag) (C : Addr) (b : XBase) : Prop where
  cls : ∃ nm q N bs sn sub ab col dd k0 k1 k2 k3 k5, K.lookup C = some (excClassObj nm q C N bs b.bm true sn sub ab col dd k0 k1 k2 k3 k5 b.newId)
  sa : PySem.W.findIn K (.ref C) "__setattr__" = some (some (.builtin "object.__setattr__"))
  exC : PySem.W.subIn K (.ref C) (.type "BaseException") = some true
  tyC : PySem.W.typeIn K (.ref C) = some (.type "type")
  kC : PySem.W.keepIn K (.ref C) = true
  ok : b.Ok
end DL
namespace DLX
open PySem PySem.W PySem.Calls PyProof.Rows PySem.HandSPX
open Builtin Builtin.ObjectAttr
section
variable {prog : Program} {w : World} {A : Around} {E : Value → Shared → Prop} {R : Result → Shared → Prop} {hp : Heap} {g : Array GenState} {d : Drawn} {t : Nat} {os : OsState}
/-- object.__setattr__ of an exception that has no dict as yet, its class straight over b -/
theorem setB {K : W.Frag} {name : Str} {tk : Tok} {v : Value} {x C : Addr} {fv : Array Value} {cd : ClassData} {b : DL.XBase} (ok : b.Ok)
    (X : K.In hp) (hx : hp.get? x = some { cls := .ref C, data := .fields fv }) (hcd : W.clsIn K C = some cd) (hm : cd.mro = .ref C :: b.bm) (hh : cd.hasDict = true) (ha : W.findIn K (.ref C) name = some none)
    (hq : ∀ h' tk' dx, (∀ b o, b ≠ x → hp.get? b = some o → h'.get? b = some o) → hp.objs.size ≤ dx → dx ≠ x → h'.get? x = some { cls := .ref C, dict := some dx, data := .fields fv } →
      h'.Ns1 dx (fun y => if y = name then some v else none) → R (.ok (.ret .none)) ⟨h', g, d, tk', os⟩) :
    codeAny (model prog w) A (.call (.builtin "object.__setattr__") ⟨[.ref x, .str name tk, v], []⟩) R ⟨hp, g, d, t, os⟩ := by
  have I : W.InstAt hp x { cls := .ref C, data := .fields fv } C none := ⟨hx, rfl, rfl, trivial⟩
  have SF := F.store_object
  have ne : cd.mro.isEmpty = false := by rw [hm]; rfl
  have hob : cd.mro.contains (.type "object") = true := by rw [hm, List.contains_cons, ok.store.hasOwner, Bool.or_true]
  have hps : refuseLoop (.ref x) "__setattr__" cd.mro = pure () := by rw [hm, refuseLoop_ref]; exact ok.store.passes _
  have hxs : x ≠ hp.objs.size := Nat.ne_of_lt (Heap.lt_size hx)
  have sub : W.Looks (model prog w) hp (isInstance (.ref x) (.type "object")) true := I.type.andThen (W.looks_mroIn X (by unfold W.mroIn; rw [hcd, Option.bind_some, if_neg (by rw [ne]; decide), hob]))
  have hmr : W.Looks (model prog w) hp (mroOf (.ref C)) cd.mro := (W.looks_clsIn X hcd).andThen .now
  have L3 : W.Looks (model prog w) hp (storeTaker? none) none := .now
  have hcls : W.Looks (model prog w) hp (classData C) cd := W.looks_clsIn X hcd
  refine codeAny_call_builtin SF.slot.plain SF.entry (@W.check_slot (model prog w) _ _ ⟨hp, g, d, t, os⟩ "object.__setattr__" "object" "__setattr__" (.ref x) [.str name tk, v] [] _ SF.kind SF.split sub (SF.args (.ref x) (.str name tk) v) ?_)
  rw [W.osa_eq, refuse_eq]
  refine wpAny_bind (wpAny_bind (I.type.at (wpAny_bind (hmr.at ?_))))
  rw [hps]
  refine wpAny_pure (wpAny_bind (I.type.at (wpAny_bind ((W.looks_findIn X ha).at (wpAny_bind (L3.at ?_))))))
  show wpAny _ _ (storeInOwnDict (.ref x) (.ref C) (.str name tk) name v false) _ _ _
  obtain ⟨nm, bs, mro, ns, qn, hd, sn, sb, ab, col, del⟩ := cd
  dsimp only at hh
  subst hh
  unfold storeInOwnDict ownDictForStores
  repeat (first | with_reducible refine store_in_new ?_ ?_ | with_reducible refine wpAny_loadPart_at hx ?_ | with_reducible refine hcls.at ?_ | wp_step)
  · exact ⟨_, #[], _, (Heap.get?_update_ne _ _ _ _ hxs.symm).trans (Heap.get?_push_at rfl rfl), rfl, fun e he => absurd he (by simp), fun _ => rfl⟩
  · intro h' tk' hn' hs
    have hx1 : (hp.push { cls := .type "dict", data := .dict #[] }).get? x = some { cls := .ref C, data := .fields fv } := Heap.get?_push_of_some _ hx
    refine hq h' tk' hp.objs.size (fun b o hb ho => ?_) (Nat.le_refl _) hxs.symm ?_ hn'
    · exact (hs.2 b (Nat.ne_of_lt (Heap.lt_size ho))).trans ((Heap.get?_update_ne _ _ _ _ hb).trans (Heap.get?_push_of_some _ ho))
    · exact (hs.2 x hxs).trans (Heap.get?_update_self _ hx1 rfl)
end
end DLX
namespace DL
open PySem PySem.Spec PyProof.Rows L2
section
variable {X : Cx} {pins : List (Addr × Obj)} {σ : L2.St} {H : Hp} {s : Shared} {a C dx : Addr} {f : Str} {y : V} {u : Value} {fs : List (Str × V)} {E : Value → Shared → Prop} {A : Around} {b : XBase}
/-- self.f = y of an error that is being made -/
theorem putB {Q : Unit → Shared → Prop} (T : OexB X.K C b) (I : Inv X pins σ H s) (e : H a = some (exo a C none)) (hno : PySem.W.findIn X.K (.ref C) f = some none) (ry : RelV y u)
    (h : ∀ dx s', H dx = none → dx ≠ a → Inv X pins σ (upd (upd H dx (exd dx [(f, y)])) a (exo a C (some dx))) s' → Q () s') : wpAny (model X.prog X.w) A (setAttr (.ref a) f u) Q E s := by
  obtain ⟨nm, q, N, bs, sn, sub, ab, col, dd, k0, k1, k2, k3, k5, hC⟩ := T.cls
  have hcl : PySem.W.clsIn X.K C = some { name := nm, bases := bs, mro := .ref C :: b.bm, ns := N, qualname := q, hasDict := true, slotNames := sn, subclasses := sub, abstract := ab, collection := col, hasDel := false } := by unfold PySem.W.clsIn; rw [hC] <;> rfl
  obtain ⟨t1, ho⟩ := exo_at I.hok e
  obtain ⟨hp, g, d, t, os⟩ := s
  refine PySem.W.set_plain I.kIn (ox := { cls := .ref C, dict := none, data := .fields #[.ref t1, .none, .none, .none, .bool false, .none] }) (od := none) ⟨ho, rfl, rfl, trivial⟩ T.sa ?_
  refine DLX.setB T.ok I.kIn ho hcl rfl rfl hno (fun h' tk' dx k dn dne hx hn => ?_)
  have hnd : H dx = none := I.hok.fresh dn
  have ltd : ∀ {c : Addr} {o : Obj}, hp.get? c = some o → c ≠ dx := fun {c o} q => Nat.ne_of_lt (Nat.lt_of_lt_of_le (Heap.lt_size q) dn)
  have nea : ∀ {c : Addr}, H c = none → c ≠ a := fun {c} n z => by rw [z, e] at n; cases n
  have U : Un X.fs [] H (upd (upd H dx (exd dx [(f, y)])) a (exo a C (some dx))) hp h' := {
    keep := fun c o q n _ _ => k c o (nea n) q
    slot := fun c o q n _ _ => ⟨o.slots, k c o (nea n) q⟩
    free := fun c o q n _ => by rw [upd_ne (nea n), upd_ne (ltd q)]; exact n
    there := fun c o q _ => by
      by_cases hc : c = a
      · exact ⟨_, by rw [hc]; exact hx⟩
      · exact ⟨o, k c o hc q⟩
    tups := fun c xs q => by rw [upd_ne (at_ne e q exo_tup), upd_ne (ne_of_none q hnd)]; exact q
    frzs := fun c o v q => by rw [upd_ne (at_ne e q exo_frz), upd_ne (ne_of_none q hnd)]; exact q
    tbls := fun c ps q => ⟨#[], by rw [upd_ne (at_ne e q exo_tbl), upd_ne (ne_of_none q hnd), q]; simp⟩ }
  refine h dx _ hnd dne (I.un (t' := tk') U fun c o q => ?_)
  by_cases hc : c = a
  · subst hc
    rw [upd_same] at q
    cases q
    exact exo_ok hx
  · rw [upd_ne hc] at q
    by_cases hd : c = dx
    · subst hd
      rw [upd_same] at q
      cases q
      exact exd_ok hn (relO_put (fs := []) ry fun g => True.intro)
    · rw [upd_ne hd] at q
      refine (I.hok c o q).stay (fun c' v hc' z => k c' v ?_ z) (fun c' hc' => by rw [upd_ne (at_ne e hc' exo_own), upd_ne (ne_of_none hc' hnd)]; exact hc') (fun c' xs hc' => by rw [upd_ne (at_ne e hc' exo_tup), upd_ne (ne_of_none hc' hnd)]; exact hc')
      rcases hc' with z | z
      · rw [z]; exact hc
      · exact at_ne e z exo_own
/-- the base's own __init__: nothing of it is told -/
theorem initB {us : List Value} {Q : Value → Shared → Prop} (T : OexB X.K C b) (I : Inv X pins σ H s) (e : H a = some (exo a C none)) (hl : us.length ≤ sizeLine) (h : ∀ s', Inv X pins σ H s' → Q .none s') :
    wpAny (model X.prog X.w) A (call (.builtin b.initId) (.ref a :: us)) Q E s := by
  obtain ⟨nm, q, N, bs, sn, sub, ab, col, dd, k0, k1, k2, k3, k5, hC⟩ := T.cls
  obtain ⟨t1, ho⟩ := exo_at I.hok e
  obtain ⟨hp, g, d, t, os⟩ := s
  refine wpAny_call (PySem.HandSPX.init_base T.ok.base (fun Y => rfl) (I.kIn _ _ hC) ho hl fun h' t2 k hx => ?_)
  have J := I.write (t' := t) (x := a) (e := a) (o := exo a C none) (by rw [e]; exact True.intro) (.inl rfl) k ⟨_, hx⟩ (exo_ok hx)
  have eu : upd H a (exo a C none) = H := by
    funext c
    by_cases hc : c = a
    · rw [hc, upd_same, e]
    · rw [upd_ne hc]
  rw [eu] at J
  exact h _ J
end
/-- B.__init__(self, ..) -/
def tBI (K : PySem.W.Frag) (b : XBase) (ta : TA) : TE := fun σ H Q => ta σ H fun vs H1 => ∃ (a C : Addr) (ws : List V), vs = .ref a :: ws ∧ ws.length ≤ 1000 ∧ OexB K C b ∧ H1 a = some (exo a C none) ∧ Q .non H1
/-- self.f = e, the first one -/
def tOstB (K : PySem.W.Frag) (f : Str) (to te : TE) : TS := fun D σ H => te σ H fun y H1 => to σ H1 fun x H2 => ∃ (a C : Addr) (b : XBase), x = .ref a ∧ OexB K C b ∧ PySem.W.findIn K (.ref C) f = some none ∧
  (H2 a = some (exo a C none) ∧ ∀ dx, H2 dx = none → dx ≠ a → D.nx σ (upd (upd H2 dx (exd dx [(f, y)])) a (exo a C (some dx))))
section
variable {X : Cx} {o e : Expr} {es : List Expr} {to te : TE} {ta : TA} {f : Str} {p p' p1 p2 pos : Pos}
theorem pe_binit {pl : Sem Bool} {b : XBase} {n : Str} (hg : Gl X n) (hm : X.mg n = none) (hB : bootBuiltins n = some (.type b.B)) (ht : typeOf (.type b.B) = pure (.type "type")) (vV : PySem.W.findCls X.K (.type b.B) (.type "type") "__init__" = some (.val (.builtin b.initId)))
    (n1 : n ≠ "__name__") (n2 : (n == ("__debug__" : Str)) = false) (n3 : Manifest.isStub b.B = false) (n4 : PySem.W.handedIn (Value.builtin b.initId) = true) (ha : PA X (e :: es) ta)
    (hc : eval (.Call (.Attribute (.Name n p1) "__init__" p2) (e :: es) [] pos) X.env = (do
      let ov ← eval (.Name n p1) X.env
      standAt p2.atName
      let (f, first) ← holding [ov] (getMethod ov "__init__" pl)
      callWith pos f first (backTo pos (starEach (e :: es) X.env)) (backToKw pos (keywordEach [] X.env))) := by rfl)
    (he : starEach (e :: es) X.env = (false, eval e X.env) :: starEach es X.env := by rfl) (hpl : (backTo pos (starEach es X.env)).any (·.1) = false := by rfl) :
    PE X (.Call (.Attribute (.Name n p1) "__init__" p2) (e :: es) [] pos) (tBI X.K b ta) := by
  refine ⟨fun pins s σ H Q I h => ?_⟩
  refine PySem.W.methodCall_KW (ld_blt I hg hm hB ?_ n1 n2) hc
  obtain ⟨m, fr⟩ := I.fr
  refine PySem.W.method_type fr I.ok.mod.kin ht n3 vV n4 ?_
  show wpAny _ _ (callWith pos (Value.builtin b.initId) [] (backTo pos (starEach (e :: es) X.env)) []) _ _ _
  refine PyProof.Rows.callWith_method1 (thn (ha.run pos pins _ σ H _ (I.tok _) h) fun us s1 ⟨vs, H1, I1, r1, a, C, ws, ev, hl, T, ea, q⟩ => ?_) he hpl
  subst ev
  cases r1 with
  | @cons _ u0 _ ur ra rw' =>
    obtain rfl : u0 = Value.ref a := ra
    have hlen : ur.length ≤ sizeLine := by
      rw [← Paired.length rw', sizeLine_eq]
      omega
    exact initB T I1 ea hlen fun s' J => ⟨.non, H1, J, rfl, q⟩
theorem ps_ostB (ho : PE X o to) (he : PE X e te) (hs : swapsWith e (some (.Attribute o f p')) pos.line X.env = pure false := by rfl) : PS X (.Assign [.Attribute o f p'] e pos) (tOstB X.K f to te) := by
  refine ⟨fun pins s σ H D I h => ?_⟩
  refine plainObj_wpAny_Assign_Attribute (thn (he.run pins s σ H _ I h) fun v s1 ⟨y, H1, I1, r1, q1⟩ => thn (ho.run pins s1 σ H1 _ I1 q1) fun u s2 ⟨x, H2, I2, r2, a, C, b, ex, T, hno, ea, q⟩ => ?_) hs
  subst ex
  obtain rfl : u = Value.ref a := r2
  exact putB T I2 ea hno r1 fun dx s' n ne J => ⟨σ, _, J, q dx n ne⟩
theorem pmk_oexB {CX : CXT} {b : XBase} {x : Str} {C fI : Addr} {k : Nat} {fd : FuncData} {ps : List Str} {sp : Sp} {ds : List Value} {dvs : List V} (T : OexB X.K C b) (iC : PySem.W.findIn X.K (.ref C) "__init__" = some (some (.ref fI))) (tI : PySem.W.typeIn X.K (.ref fI) = some (.type "function"))
    (F1 : FnOk X.prog X.w X.K X.mg X.base CX k fI fd ps sp) (hr : Room (k + 1) X.A) (hb : Binds X.K fd ps ds) (hd : Vals dvs ds) (hx : Passes CX X (fun _ _ _ => False)) (hg : Gl X x) (hm : X.mg x = some (.ref C)) (ha : PA X (e :: es) ta)
    (hdb : (x == ("__debug__" : Str)) = false := by decide) (he : starEach (e :: es) X.env = (false, eval e X.env) :: starEach es X.env := by rfl) (hpl : (backTo pos (starEach es X.env)).any (·.1) = false := by rfl) :
    PMk X (.Call (.Name x p) (e :: es) [] pos) (tMkO C sp dvs ta) := by
  intro pins s σ H Q I h
  obtain ⟨nm, q, N, bs, sn, sub, ab, col, dd, k0, k1, k2, k3, k5, hC⟩ := T.cls
  refine wpAny_Call_Name_kw (ld_glob I hg hm ?_ hdb)
  refine PySem.W.callWith_K (h₀ := X.base) I.ok.mod.kin T.kC (thn (ha.run pos pins s σ H _ I h) fun us s1 ⟨vs, H1, I1, r1, hz, q1⟩ => ⟨I1.kIn, ?_⟩) he hpl
  show wpAny _ _ (call (.ref C) us) _ _ _
  obtain ⟨hp, g, dr, tk, os⟩ := s1
  have hsz : hp.objs.size ≤ hp.objs.size + 1 := Nat.le_succ _
  have hn : H1 (hp.objs.size + 1) = none := I1.hok.fresh hsz
  have hq := q1 (hp.objs.size + 1) hn
  have kk : ∀ c o, hp.get? c = some o → ((hp.push (PySem.W.kdv_tup us)).push (PySem.HandSPX.excO C hp.objs.size)).get? c = some o := fun c o e => Heap.get?_push_of_some _ (Heap.get?_push_of_some _ e)
  have hget : ((hp.push (PySem.W.kdv_tup us)).push (PySem.HandSPX.excO C hp.objs.size)).get? (hp.objs.size + 1) = some (PySem.HandSPX.excO C hp.objs.size) := by heap_get
  have I2 : Inv X pins σ (upd H1 (hp.objs.size + 1) (exo (hp.objs.size + 1) C none)) ⟨(hp.push (PySem.W.kdv_tup us)).push (PySem.HandSPX.excO C hp.objs.size), g, dr, tk, os⟩ :=
    I1.laid (t' := tk) (a := hp.objs.size + 1) (o := exo (hp.objs.size + 1) C none) (h' := (hp.push (PySem.W.kdv_tup us)).push (PySem.HandSPX.excO C hp.objs.size)) kk hsz (exo_ok hget)
  have r2 : Vals (V.ref (hp.objs.size + 1) :: (vs ++ dvs)) (Value.ref (hp.objs.size + 1) :: (us ++ ds)) := .cons rfl (r1.append hd)
  have hl : (Value.ref (hp.objs.size + 1) :: us ++ ds).length = ps.length := by
    have e := r2.length
    rw [F1.len _ _ _ _ hq] at e
    exact e.symm
  have hus : us.length ≤ sizeLine := by
    rw [← Paired.length r1, sizeLine_eq]
    omega
  refine wpAny_call (PySem.HandSPX.call_own T.ok.base (fun Y => rfl) (I1.kIn _ _ hC) (PySem.W.looks_findIn I1.kIn iC) (fun self => PySem.W.bind_fn I1.kIn self tI) hus
    (codeAny_mono (F1.run _ X.stack _ _ ⟨Value.ref (hp.objs.size + 1) :: us, []⟩ (Value.ref (hp.objs.size + 1) :: (us ++ ds)) _ _ (fun _ _ _ => False) (hr.make C us []) (I2.env0.make C us []) (hb _ (Value.ref (hp.objs.size + 1) :: us) I2.kIn hl) r2 hq) fun r s' hq' => ?_))
  cases r with
  | error er => exact hx pins σ _ _ er s' I2 hq'
  | ok fl =>
    cases fl with
    | ret u =>
      obtain ⟨v, H2, os2, bare2, un2, hok2, rv, ev, d, fs, ea, ed, hd1, q2⟩ := hq'
      subst ev
      obtain ⟨h2, g2, d2, t2, os'⟩ := s'
      exact ⟨rv, mk_end (raises_own T.exC T.tyC) I1 hsz kk un2 hok2 os2 bare2 ea ed hd1 q2⟩
    | next => exact False.elim hq'
    | brk => exact False.elim hq'
    | cont => exact False.elim hq'
end
end DL

/-! DL14: errors over data: calls that may raise, defs that let errors out. -/
namespace DL
open PySem L2
/-- what is wished of an error: its class, its field's name, the field, the slots -/
abbrev DXC := Str → Str → D → Rho → Prop
def wX (Γ : Fx) (K : PySem.W.Frag) (xc : DXC) : WX := fun cls d σ H => ∃ H0 ρ C f dd e v, cls = .ref (He.ga K C) ∧ d = some e ∧ Fit (Γ.at []) K H0 σ ρ H ∧ H e = some (.xd [(f, v)]) ∧ H0 e = none ∧ Γ.Hs e = none ∧ Rep K H0 v dd ∧ xc C f dd ρ
/-- f(..) of a def that may raise and changes none of its arguments -/
def dCallX (xc : DXC) (sp : DSp) (dd : List D) (ta : DAT) : DT := fun ρ R => ta ρ fun hs ρ1 => match gets ρ1 hs with
  | some ds => sp ((ds ++ dd).map S.v) (fun r _ => (bor ρ1 hs = true → r.imm = true) ∧ R r ρ1) fun C f d _ => (bor ρ1 hs = true → d.imm = true) ∧ xc C f d ρ1
  | none => False
section
variable {X : Cx} {Γ : Fx} {sp : DSp} {dvs : List V} {dd : List D} {ta : DAT} {xc : DXC}
theorem callX_le {tm : List (Addr × List V)} (hdd : ∀ H, Reps X.K H dvs dd) {σ : St} {H : Hp} {Q : VK} (h : LE (Γ.at tm) X.K (dCallX xc sp dd ta) σ H Q) : tCallSD (LSp X.K sp) dvs (WE (wX Γ X.K xc)) (LA (Γ.at tm) X.K ta) σ H Q := by
  obtain ⟨H0, ρ, R, F, t, k⟩ := h
  refine ⟨H0, ρ, _, F, t, fun hs ρ1 vs H1 H' q F1 e1 rr => ?_⟩
  split at q
  · rename_i ds g
    have hB : Lent σ ρ1 (lentOf σ ρ1 hs) := lentOf_lent hs
    obtain ⟨s1, s2⟩ := F1.lendSub hB
    have ar := ((F1.lendReps hB rr g fun _ z => z).append (hdd _)).areps (H := H')
    refine ⟨lendB H1 H' (lentOf σ ρ1 hs), _, _, _, s2, ar, by rw [cntM_v]; exact Nat.zero_le _, q, fun r es v H2 H3 q2 st _ rs => ?_, fun C f d es e v H2 H3 q2 st _ he h2e h3e rd => ?_⟩
    · rw [mpOf_v] at st
      obtain ⟨F3, e3, hl⟩ := F1.behind hB st.sub st.top (fun a o z => st.keep a o z (by simp)) st.new
      refine k r ρ1 v _ H3 q2.2 F3 (e1.trans e3) ?_
      have off : ∀ {v : V} {d : D}, Rep X.K H2 v d → (bor ρ1 hs = true → d.imm = true) → Rep X.K (offB H2 (lentOf σ ρ1 hs)) v d := fun {v d} r0 im => by
        cases q0 : lentOf σ ρ1 hs with
        | nil => rw [offB_nil]; exact r0
        | cons p ps =>
          rw [← q0]
          exact r0.off hl (im (bor_of (by rw [q0]; exact List.mem_cons_self)))
      have offs : ∀ {v : List V} {d : List D}, Reps X.K H2 v d → (bor ρ1 hs = true → immL d = true) → Reps X.K (offB H2 (lentOf σ ρ1 hs)) v d := fun {v d} r0 im => by
        cases q0 : lentOf σ ρ1 hs with
        | nil => rw [offB_nil]; exact r0
        | cons p ps =>
          rw [← q0]
          exact r0.off hl (im (bor_of (by rw [q0]; exact List.mem_cons_self)))
      cases r with
      | v d => exact off rs fun z => q2.1 z
      | m ds => exact rs
      | o ds =>
        obtain ⟨p, rfl, ⟨g1, xs, g2, g3⟩, g4⟩ := rs
        exact ⟨p, rfl, ⟨offB_sub.free g1, xs, g2, offs g3 fun z => q2.1 z⟩, F1.noneS g4, F1.noTmp g4, F1.noSlot g4, F1.noX g4⟩
      | x x G => exact F1.resX hl (fun z => q2.1 (bor_ne z)) rs
    · rw [mpOf_v] at st
      obtain ⟨F3, e3, hl⟩ := F1.behind hB st.sub st.top (fun a o z => st.keep a o z (by simp)) st.new
      refine ⟨offB H2 (lentOf σ ρ1 hs), ρ1, C, f, d, e, v, rfl, rfl, F3.tmSub (fun q z => by cases z), h3e, offB_sub.free h2e, F1.noneS he, ?_, q2.2⟩
      cases q0 : lentOf σ ρ1 hs with
      | nil => rw [offB_nil]; exact rd
      | cons p ps =>
        rw [← q0]
        exact rd.off hl (q2.1 (bor_of (by rw [q0]; exact List.mem_cons_self)))
  · exact q.elim
/-- all that a call of a def that may raise wants -/
structure FnX (X : Cx) (x : Str) (k : Nat) (ps : List Str) (sp : DSp) (f : Addr) (fd : FuncData) : Prop where
  ok : FnOk X.prog X.w X.K X.mg X.base (L2.CX X.prog X.w) k f fd ps (LSp X.K sp)
  mg : X.mg x = some (.ref f)
  kp : PySem.W.keepIn X.K (.ref f) = true
theorem de_callX {x : Str} {k : Nat} {ps : List Str} {f : Addr} {fd : FuncData} {p pos : Pos} {e : Expr} {es : List Expr} {ds : List Value} (G : FnX X x k ps sp f fd) (hr : Room k X.A) (tk : Takes X (wX Γ X.K xc)) (hb : Binds X.K fd ps ds) (hd : Vals dvs ds) (hdd : ∀ H, Reps X.K H dvs dd) (ha : DA X Γ (e :: es) ta) (hg : Gl X x := by rfl) (hdb : (x == ("__debug__" : Str)) = false := by decide)
    (he : starEach (e :: es) X.env = (false, eval e X.env) :: starEach es X.env := by rfl) (hpl : (backTo pos (starEach es X.env)).any (·.1) = false := by rfl) : DE X Γ (.Call (.Name x p) (e :: es) [] pos) (dCallX xc sp dd ta) :=
  ⟨fun tm => peLe (pe_callSD G.ok hr hg G.mg G.kp hb hd (fun σ => passAt tk σ) (ha.run tm) hdb he hpl) fun σ H Q h => callX_le hdd h⟩
end
/-- what a def lets out -/
def defX (as : List S) (RX : DXP) : DXC := fun C f d ρ => RX C f d (outM as ρ)
/-- a def that may let errors out keeps its promise -/
theorem fn_okX {P : Program} {w : World} {K : PySem.W.Frag} {mg : Str → Option Value} {base : Heap} {x qual : Str} {params : Arguments} {body : List Stmt} {scope : Scope} {dvs : List V} {kws : List (Str × V)} {f : Addr} {fd : FuncData} {N ps : List Str} {k : Nat} {sp : DSp} {t : DXC → DST}
    (F : FunD K x qual params body scope dvs kws f fd) (Sc : FnScope N ps scope) (hN : ps.length ≤ N.length) (len : ∀ as R RX, sp as R RX → as.length = ps.length)
    (hd : ∀ (cdv : Value) (A : Around) (outer : List Env) (s : Shared) (H : Hp) (E : XK) (Γ : Fx) (xc : DXC), Room k (A.deeper (PyProof.Rows.envOfC qual scope s.heap.objs.size f cdv)) → Takes (cxOf (L2.CX P w) P w K mg base N qual scope f cdv A outer s H E) (wX Γ K xc) → DSs (cxOf (L2.CX P w) P w K mg base N qual scope f cdv A outer s H E) Γ body (t xc))
    (hp : ∀ as R RX, sp as R RX → cntM as ≤ 1 → t (defX as RX) (defEnds as R) (startR N.length as)) : FnOk P w K mg base (L2.CX P w) (k + 1) f fd ps (LSp K sp) := by
  refine F.ok Sc (fun vs H Q E h => ?_) (fun cdv A outer s H vs Q E hr h => ?_)
  · obtain ⟨H0, as, R, RX, _, r, _, q, _⟩ := h
    rw [r.length]
    exact len as R RX q
  · obtain ⟨H0, as, R, RX, e, r, hc, q, k1, k2⟩ := h
    have hl : vs.length ≤ N.length := by rw [r.length, len as R RX q]; exact hN
    have tk : Takes (cxOf (L2.CX P w) P w K mg base N qual scope f cdv A outer s H E) (wX (fx0 H0 H vs as) K (defX as RX)) := (takes_of rfl rfl rfl rfl).imp fun c d σ H' wx => by
      obtain ⟨H1, ρ, C, fl, dd, e1, v, rfl, rfl, F1, h1, h2, h3, h4, h5⟩ := wx
      obtain ⟨g1, g2⟩ := fit_end r hc F1
      exact k2 C fl dd _ e1 v H1 H' h5 g1 g2 h3 h2 h1 h4
    refine ⟨_, (hd cdv A outer s H E (fx0 H0 H vs as) _ hr tk).run [], H0, _, defEnds as R, fit_start e r hc hl, hp as R RX q hc, ?_⟩
    refine ⟨fun H0' σ ρ H' q F' _ => ?_, fun H0' σ ρ H' v r' q F' _ rr => ?_, fun _ _ _ _ q => q.elim, fun _ _ _ _ q => q.elim⟩
    · obtain ⟨h1, h2⟩ := fit_end r hc F'
      exact k1 _ _ _ H0' H' q h1 h2 Rep.non
    · obtain ⟨h1, h2⟩ := fit_end r hc F'
      refine k1 _ _ v H0' H' q h1 h2 ?_
      cases r' with
      | v d => exact rr
      | o ds => exact rr
      | m ds => exact rr
      | x x G => exact rr
/-! ### raise C(e): the class's __init__ takes one thing, calls its base's, stores it -/
/-- what the written part says of an error's class, its field f -/
structure ErrC (K : PySem.W.Frag) (C f : Str) : Prop where
  oex : ∃ b, OexB K (He.ga K C) b
  no : PySem.W.findIn K (.ref (He.ga K C)) f = some none
  ini : PySem.W.findIn K (.ref (He.ga K C)) "__init__" = some (some (.ref (He.ma K (He.ga K C) "__init__")))
  tI : PySem.W.typeIn K (.ref (He.ma K (He.ga K C) "__init__")) = some (.type "function")
  exC : PySem.W.subIn K (.ref (He.ga K C)) (.type "BaseException") = some true
  cl : (PySem.W.clsIn K (He.ga K C)).isSome = true
  hd : PySem.W.hasDictIn K (He.ga K C) = true
  at_ : PySem.W.findIn K (.ref (He.ga K C)) "__getattribute__" = some (some (.builtin "BaseException.__getattribute__"))
  gt : PySem.W.findIn K (.ref (He.ga K C)) "__getattr__" = some none
  ca : PySem.W.findIn K (.ref (He.ga K C)) "__class__" = some (some (.builtin "object.__class__"))
  cn : PySem.W.specialIn K (.builtin "object.__class__") "__get__" = some (some (.builtin "getset_descriptor.__get__"))
  ct : PySem.W.takesIn K (.builtin "object.__class__") = some true
  cm : PySem.W.mroIn K (He.ga K C) (.type "object") = some true
def spInit (K : PySem.W.Frag) (C f : Str) : Sp := fun vs H Q _ => ∃ a v, vs = [.ref a, v] ∧ H a = some (exo a (He.ga K C) none) ∧ ∀ dx, H dx = none → dx ≠ a → Q .non (upd (upd H dx (exd dx [(f, v)])) a (exo a (He.ga K C) (some dx)))
theorem Fit.allocX {Γ : Fx} {K : PySem.W.Frag} {H0 : Hp} {σ : St} {ρ : Rho} {H : Hp} {p : Addr} {o : HO} (F : Fit Γ K H0 σ ρ H) (h : H p = none) : Fit Γ K H0 σ ρ (upd H p o) :=
  F.step (Same.refl _) (F.sub.trans (same_upd h)) (same_upd h) (fun a o h1 h2 => by rw [h2] at h1; cases h1) (fun i s ds p h1 h2 h3 => (F.ownNone h1 h2 h3).1) (fun p xs h => (F.tmp p xs h).2.1) (fun i x G a h1 h2 => (F.xSome h1 h2).1)
def dRaise (xc : DXC) (C f : Str) (t : DT) : DST := fun _ ρ => t ρ fun r ρ1 => xc C f r.d ρ1
theorem ds_raise {X : Cx} {Γ : Fx} {xc : DXC} {C f : Str} {t : DT} {k : Nat} {fd : FuncData} {ps : List Str} {e : Expr} {p pos pos' : Pos} (tk : Takes X (wX Γ X.K xc)) (Er : ErrC X.K C f) (G : FnOk X.prog X.w X.K X.mg X.base CX0 k (He.ma X.K (He.ga X.K C) "__init__") fd ps (spInit X.K C f))
    (hr : Room (k + 1) X.A) (hb : Binds X.K fd ps []) (hm : X.mg C = some (.ref (He.ga X.K C))) (ha : DE X Γ e t) (hc : X.calm = true := by rfl) (hg : Gl X C := by rfl) (hdb : (C == ("__debug__" : Str)) = false := by decide)
    (he : starEach [e] X.env = (false, eval e X.env) :: starEach [] X.env := by rfl) (hpl : (backTo pos (starEach [] X.env)).any (·.1) = false := by rfl) : DS X Γ (.Raise (some (.Call (.Name C p) [e] [] pos)) none pos') (dRaise xc C f t) :=
  ⟨fun tm => psLe (ps_raise hc tk (pmk_oexB Er.oex.choose_spec Er.ini Er.tI G hr hb .nil pass0 hg hm (pa_cons (ha.run []) pa_nil he) hdb he hpl)) fun D σ H ⟨H0, ρ, De, F, t, E⟩ => ⟨H0, ρ, _, F, t, fun r ρ1 v H1 H' q F1 e1 rr => by
    obtain ⟨H2, F2, e2, r2⟩ := F1.freeze rr
    refine ⟨by simp, fun a hna => ⟨a, v, rfl, upd_same, fun dx hdx hne => ?_⟩⟩
    rw [upd_ne hne] at hdx
    refine ⟨rfl, dx, [(f, v)], upd_same, by rw [upd_ne hne, upd_same], hdx, ?_⟩
    have eH : upd (del (upd (upd (upd H' a (exo a (He.ga X.K C) none)) dx (exd dx [(f, v)])) a (exo a (He.ga X.K C) (some dx))) a) dx (.xd [(f, v)]) = upd H' dx (.xd [(f, v)]) := by
      funext b
      by_cases hb : b = dx
      · subst hb; rw [upd_same, upd_same]
      · rw [upd_ne hb, upd_ne hb]
        by_cases hba : b = a
        · subst hba; rw [del_same, hna]
        · rw [del_ne hba, upd_ne hba, upd_ne hb, upd_ne hba]
    rw [eH]
    exact ⟨H2, ρ1, C, f, r.d, dx, v, rfl, rfl, (F2.tmSub (tm' := []) (fun q z => by cases z)).allocX hdx, upd_same, F2.none0 hdx, F2.noneS hdx, r2, q⟩⟩⟩
end DL

/-! DL15: an error kept: its field, isinstance, the try that keeps it. -/
namespace DL
open PySem L2
section
variable {X : Cx} {Γ : Fx}
/-- the object of a kept error -/
theorem exk_inst {pins : List (Addr × Obj)} {σ : St} {H : Hp} {s : Shared} {a dd C : Addr} {fs : List (Str × V)} (I : Inv X pins σ H s) (ha : H a = some (exk a (.ref C) (some dd))) (hd : H dd = some (.xd fs)) :
    ∃ (oe od : Obj) (mA : Str → Option Value), PySem.W.InstAt s.heap a oe C (some od) ∧ (∀ name, PySem.W.lookIn name od = some (mA name)) ∧ ∀ g, RelO (fs.lookup g) (mA g) := by
  obtain ⟨⟨oe, vs, g1, g2, g3⟩, _⟩ := (show ObjOk X.prog X.w H s.heap a (exk a (.ref C) (some dd)) from I.hok a _ ha)
  obtain ⟨mA, hns, hr⟩ := (show ObjOk X.prog X.w H s.heap dd (.xd fs) from I.hok dd _ hd)
  obtain ⟨od, ho, hl⟩ := lookIn_ns hns
  exact ⟨oe, od, mA, ⟨g1, g2.1, by unfold PySem.W.notCls; rw [g3] <;> rfl, by rw [g2.2]; exact ho⟩, hl, hr⟩
def tXk (C f : Str) (te : TE) : TE := fun σ H Q => te σ H fun x H1 => ∃ a dd v, x = .ref a ∧ H1 a = some (exk a (.ref (He.ga X.K C)) (some dd)) ∧ H1 dd = some (.xd [(f, v)]) ∧ Q v H1
theorem pe_xk {C f : Str} {e : Expr} {te : TE} {pos : Pos} (T : ErrC X.K C f) (he : PE X e te) (hb : attributeBase e f X.env (eval e X.env) = eval e X.env := by rfl) : PE X (.Attribute e f pos) (tXk (X := X) C f te) := by
  constructor
  intro pins s σ H Q I h
  refine attr_of hb (thn (he.run pins s σ H _ I h) ?_)
  rintro u s1 ⟨x, H1, I1, rx, a, dd, v, rfl, ha, hd, q⟩
  obtain rfl : u = Value.ref a := rx
  obtain ⟨oe, od, mA, J, hl, hr⟩ := exk_inst I1 ha hd
  have lk : ([(f, v)] : List (Str × V)).lookup f = some v := by simp [List.lookup]
  obtain ⟨w, hw, rw_⟩ := RelO.some_of (v := v) (o := mA f) (by rw [← lk]; exact hr f)
  exact HandSPX.exc_get I1.kIn J T.at_ T.gt T.exC (PySem.W.findObj_own T.hd T.no rfl (by rw [hl, hw])) (handed_of rw_) ⟨v, H1, I1.tok _, rw_, q⟩
def dXf (C f : Str) (t : DHT) : DT := fun ρ R => t ρ fun h ρ1 => match h.get ρ1 with
  | some (.exc C' f' d) => C' = C ∧ f' = f ∧ R (.v d) ρ1
  | _ => False
theorem de_xf {C f : Str} {e : Expr} {t : DHT} {pos : Pos} (T : ErrC X.K C f) (he : DH X Γ e t) (hb : attributeBase e f X.env (eval e X.env) = eval e X.env := by rfl) : DE X Γ (.Attribute e f pos) (dXf C f t) :=
  ⟨fun tm => peLe (pe_xk T (he.run tm) hb) fun σ H Q ⟨H0, ρ, R, F, t, k⟩ => ⟨H0, ρ, _, F, t, fun h ρ1 v H1 H' q F1 e1 r1 => by
    split at q
    · rename_i C' f' d g
      obtain ⟨rfl, rfl, q⟩ := q
      obtain ⟨p, dx, u, rfl, h1, h2, h3⟩ := (F1.top r1 g).exc
      exact ⟨p, dx, u, rfl, F1.sub _ _ h1, F1.sub _ _ h2, k _ ρ1 u H1 H' q F1 e1 h3⟩
    · exact q.elim⟩⟩
/-! ### isinstance -/
theorem kit_exk {C f : Str} (T : ErrC X.K C f) {x : Addr} {ox : Obj} {od : Option Obj} : PySem.W.KitX X.K (.ref x) (.ref (He.ga X.K C)) (fun h => PySem.W.InstAt h x ox (He.ga X.K C) od) := PySem.W.kitx_exc T.cl T.at_ T.gt T.exC T.ca T.cn T.ct T.cm
def rIsK (K : PySem.W.Frag) (C f : Str) : List V → Hp → VK → Prop := fun xs H Q => ∃ (a dd : Addr) (c v : V) (u : Value) (b : Bool), xs = [.ref a, c] ∧ ClsV c u ∧ H a = some (exk a (.ref (He.ga K C)) (some dd)) ∧ H dd = some (.xd [(f, v)]) ∧ PySem.W.kitOne K (.ref (He.ga K C)) u = some b ∧ Q (.bl b) H
theorem call_isK {C f : Str} (T : ErrC X.K C f) : CallR X (.builtin "isinstance") (rIsK X.K C f) := by
  rintro pins s σ H xs us Q I r ⟨a, dd, c, v, u, b, rfl, k, ha, hd, e, q⟩
  obtain ⟨u1, u2, rfl, r1, r2⟩ := vals2 r
  have e2 := k.eq r2
  subst e2
  cases (show u1 = Value.ref a from r1)
  obtain ⟨oe, od, mA, J, _, _⟩ := exk_inst I ha hd
  exact PySem.W.kia_one (kit_exk T) I.kIn J e (fun z => nomatch z) fun tk => ⟨.bl b, H, I.tok tk, rfl, q⟩
def rIsKT (K : PySem.W.Frag) (C f : Str) : List V → Hp → VK → Prop := fun xs H Q => ∃ (a dd tp : Addr) (v : V) (cs : List V) (us : List Value) (b : Bool), xs = [.ref a, .ref tp] ∧ H tp = some (.tup cs) ∧ Paired ClsV cs us ∧ H a = some (exk a (.ref (He.ga K C)) (some dd)) ∧ H dd = some (.xd [(f, v)]) ∧ PySem.W.kitAny K (.ref (He.ga K C)) us = some b ∧ Q (.bl b) H
/-- of a kept error of the class C the answer is b -/
def isxD (C f : Str) (b : Bool) : D → (S → Prop) → Prop
  | .exc C' f' _, R => C' = C ∧ f' = f ∧ R (.v (.bl b))
  | _, _ => False
/-- isinstance(x, c), x a kept error -/
theorem de_isx {C f : Str} {b : Bool} {a c : Expr} {ta : DHT} {tc : TE} {cv : V} {u : Value} {p pos : Pos} (T : ErrC X.K C f) (hm : X.mg "isinstance" = none) (ha : DH X Γ a ta) (hc : PE X c tc) (htc : ∀ σ H Q, Q cv H → tc σ H Q) (hu : ClsV cv u) (hk : PySem.W.kitOne X.K (.ref (He.ga X.K C)) u = some b)
    (hg : Gl X "isinstance" := by rfl) (he : starEach [a, c] X.env = (false, eval a X.env) :: starEach [c] X.env := by rfl) (he2 : starEach [c] X.env = (false, eval c X.env) :: starEach [] X.env := by rfl) (hpl : (backTo pos (starEach [c] X.env)).any (·.1) = false := by rfl) :
    DE X Γ (.Call (.Name "isinstance" p) [a, c] [] pos) (dUn (isxD C f b) ta) :=
  ⟨fun tm => peLe (pe_callB (call_isK T) hg hm (by decide +kernel) (pa_cons (ha.run tm) (pa_cons hc pa_nil he2) he) (by decide) (by decide) he hpl) fun σ H Q ⟨H0, ρ, R, F, t, k⟩ => ⟨H0, ρ, _, F, t, fun h ρ1 v H1 H' q F1 e1 r1 => by
    refine htc _ _ _ ?_
    split at q
    · rename_i x g
      unfold isxD at q
      split at q
      · obtain ⟨rfl, rfl, q⟩ := q
        obtain ⟨pa, dx, w, rfl, h1, h2, h3⟩ := (F1.top r1 g).exc
        exact ⟨pa, dx, cv, w, u, b, rfl, hu, F1.sub _ _ h1, F1.sub _ _ h2, hk, k _ ρ1 _ H1 H' q F1 e1 (Rep.bl _)⟩
      · exact q.elim
    · exact q.elim⟩⟩
end
/-! ### try: .. except C as n: y = n -/
/-- i: the slot of n, j: of y -/
def dTry (i j : Nat) (C f : Str) (tb : DXC → DST) : DST := fun De ρ => tb (fun C' f' d ρ' => C' = C ∧ f' = f ∧ noM [i] ρ' = true ∧ i < ρ'.length ∧ setR j (.v (.exc C f d)) ρ' fun ρ2 => De.nx (ρ2.set i none)) De ρ
/-- frozen: the error and its dict -/
theorem Fit.keepX {Γ : Fx} {K : PySem.W.Frag} {H0 : Hp} {σ : St} {ρ : Rho} {H : Hp} {e a : Addr} {o oa : HO} (F : Fit Γ K H0 σ ρ H) (he : H e = some o) (h0 : H0 e = none) (hs : Γ.Hs e = none) (hol : ∀ xs, o ≠ .lst xs) (hox : NoX ρ e) (ha : H a = none) :
    Fit Γ K (upd (upd H0 e o) a oa) σ ρ (upd H a oa) ∧ Same H0 (upd (upd H0 e o) a oa) := by
  have hae : a ≠ e := fun z => by rw [z, he] at ha; cases ha
  have h0a : H0 a = none := F.none0 ha
  have sm : Same H0 (upd (upd H0 e o) a oa) := (same_upd h0).trans (same_upd (by rw [upd_ne hae]; exact h0a))
  refine ⟨F.step sm (fun b u q => ?_) (same_upd ha) (fun b u q n => ?_) (fun i s ds p h1 h2 h3 => ?_) (fun p xs h => ?_) (fun i x G b h1 h2 => ?_), sm⟩
  · by_cases hb : b = a
    · subst hb; rw [upd_same] at q ⊢; exact q
    · rw [upd_ne hb] at q ⊢
      by_cases hb2 : b = e
      · subst hb2; rw [upd_same] at q; cases q; exact he
      · rw [upd_ne hb2] at q; exact F.sub _ _ q
  · by_cases hb : b = a
    · subst hb; exact F.noneS ha
    · rw [upd_ne hb] at q
      by_cases hb2 : b = e
      · subst hb2; exact hs
      · rw [upd_ne hb2] at q; rw [n] at q; cases q
  · obtain ⟨g1, xs, g2, _⟩ := F.ownNone h1 h2 h3
    have hpa : p ≠ a := fun z => by rw [z, ha] at g2; cases g2
    have hpe : p ≠ e := fun z => by rw [z, he] at g2; exact hol xs (Option.some.inj g2)
    rw [upd_ne hpa, upd_ne hpe]; exact g1
  · obtain ⟨g1, g2, _⟩ := F.tmp p xs h
    have hpa : p ≠ a := fun z => by rw [z, ha] at g1; cases g1
    have hpe : p ≠ e := fun z => by rw [z, he] at g1; exact hol xs (Option.some.inj g1)
    rw [upd_ne hpa, upd_ne hpe]; exact g2
  · obtain ⟨g1, o', g2⟩ := F.xSome h1 h2
    have hpa : b ≠ a := fun z => by rw [z, ha] at g2; cases g2
    have hpe : b ≠ e := fun z => by subst z; exact hox i x G h1 h2
    rw [upd_ne hpa, upd_ne hpe]; exact g1
/-- the entry's frozen heap anew -/
abbrev Fx.re (Γ : Fx) (H0 : Hp) : Fx := { Γ with H0 := H0 }
theorem Fit.re {Γ : Fx} {K : PySem.W.Frag} {H0 : Hp} {σ : St} {ρ : Rho} {H : Hp} (F : Fit Γ K H0 σ ρ H) : Fit (Γ.re H0) K H0 σ ρ H :=
  ⟨F.sub, Same.refl _, F.keep, fun a o h n => (by rw [show H0 a = none from n] at h; cases h), F.len, F.slots, F.loc, F.par, F.dist, F.mps, F.tmp, fun j x G hj a ha => let X1 := F.ex j x G hj a ha; ⟨X1.hs, X1.tm, X1.sl, X1.xs⟩⟩
theorem Fit.un {Γ : Fx} {K : PySem.W.Frag} {H0 H1 : Hp} {σ σ0 : St} {ρ ρ0 : Rho} {H Hh : Hp} (F0 : Fit Γ K H0 σ0 ρ0 Hh) (F : Fit (Γ.re H0) K H1 σ ρ H) : Fit Γ K H1 σ ρ H :=
  ⟨F.sub, F0.s0.trans F.s0, F.keep, fun a o h n => (by
    cases q : H0 a with
    | none => exact F.new a o h q
    | some u => exact F0.new a u q n), F.len, F.slots, F.loc, F.par, F.dist, F.mps, F.tmp, fun j x G hj a ha => let X1 := F.ex j x G hj a ha; ⟨X1.hs, X1.tm, X1.sl, X1.xs⟩⟩
theorem RRep.un {Γ : Fx} {K : PySem.W.Frag} {H0 H1 : Hp} {σ : St} {ρ : Rho} {H : Hp} {v : V} {r : S} (h : RRep (Γ.re H0) K H1 σ ρ H v r) : RRep Γ K H1 σ ρ H v r := by
  cases r with
  | v d => exact h
  | o ds => exact h
  | m ds => exact h
  | x x G => exact h
section
variable {X : Cx} {Γ : Fx} {n y C f : Str} {i j : Nat} {body : List Stmt} {np py pn1 pa pos pos' : Pos} {tb : DXC → DST}
theorem ds_try (nod : X.N.Nodup) (ex : PySem.W.exmOne X.K (.ref (He.ga X.K C)) (.ref (He.ga X.K C)) = some true) (hm : X.mg C = some (.ref (He.ga X.K C)))
    (bd : ∀ (Γ : Fx) (pn : List (Addr × Obj)) (xe : Value → Shared → Prop) (xc : DXC), Takes (X.tr pn xe) (wX Γ X.K xc) → PassesOwn (model X.prog X.w) X.A X.env xe → DSs (X.tr pn xe) Γ body (tb xc))
    (rd : ∀ (a : Addr) (pn : List (Addr × Obj)), PE (X.suite a pn) (.Name n pn1) (tVar i)) (hij : i ≠ j) (at_i : X.N[i]? = some n := by rfl) (at_j : X.N[j]? = some y := by rfl) (loc : X.env.kindOf n = some .local := by rfl) (locy : Loc X.env.scope y := by first | exact Or.inl rfl | exact Or.inr rfl)
    (fn : X.fn y = true ∨ X.env.scope.names.lookup y = some .local := by first | exact .inl rfl | exact .inr rfl) (sw : swapsWith (.Name n pn1) (some (.Name y py)) pa.line X.env = pure false := by rfl) (hg : Gl X C := by rfl) (hdb : (C == ("__debug__" : Str)) = false := by decide)
    (stk : X.stack = X.env :: X.outer := by rfl) (fr : X.env.frame = some X.env.locals := by rfl) :
    DS X Γ (.Try body [.ExceptHandler (some (.Name C np)) (some n) [.Assign [.Name y py] (.Name n pn1) pa] pos'] [] [] pos) (dTry i j C f tb) := by
  refine ⟨fun _ => psLe (ps_tryK stk fr nod at_i loc ⟨hg, hdb, .inl hm⟩ (tb := fun W D σ H => ∃ Γ' xc, (∀ c d σ H, wX Γ' X.K xc c d σ H → W c d σ H) ∧ LS (Γ'.at []) X.K (tb xc) D σ H) (ts := fun _ _ _ => tAsg (tVar i) (gName j)) (fun W pn xe tk po => ⟨fun pins s σ H D I h => ?_⟩)
    (fun a oe cls d pn => pss_one (ps_set (i := j) nod at_j locy (rd a _) sw fn))) fun D σ H h => ?_⟩
  · obtain ⟨Γ', xc, hw, l⟩ := h
    exact ((bd Γ' pn xe xc (tk.imp hw) po).run []).run pins s σ H D I l
  · obtain ⟨H0, ρ, De, F, t, E⟩ := h
    refine ⟨Γ.re H0, _, fun c d σ1 Hx wx => ?_, H0, ρ, De, F.re, t, ?_⟩
    · obtain ⟨H1, ρ1, C', f', dd, e, v, rfl, rfl, F1, he, h1e, hse, rv, rfl, rfl, hno, hil, q⟩ := wx
      refine ⟨ex, fun a ha => ?_⟩
      have F2 : Fit (Γ.at []) X.K H1 σ1 ρ1 Hx := Fit.un F F1
      obtain ⟨F3, e3⟩ := F2.keepX (oa := exk a (.ref (He.ga X.K C')) (some e)) he h1e hse (fun xs z => by cases z) (F2.noXd he) ha
      have hae : a ≠ e := fun z => by rw [z, he] at ha; cases ha
      have rx : Rep X.K (upd (upd H1 e (.xd [(f', v)])) a (exk a (.ref (He.ga X.K C')) (some e))) (.ref a) (.exc C' f' dd) := .exc upd_same (by rw [upd_ne (Ne.symm hae), upd_same]) (rv.mono e3)
      obtain ⟨g1, g2, g3⟩ := setR_ok q
      have F4 := F3.set (v := .ref a) (r := .v (.exc C' f' dd)) rx g1 g2
      have nmp : ∀ v ∈ [i], ∀ b, (v, b) ∉ (Γ.at []).mp := fun v hv b hb => by
        cases List.mem_singleton.mp hv
        obtain ⟨_, ds, z⟩ := F1.mps i b hb
        have hno : ([i].all fun k => match ρ1[k]? with | some (some (S.m _)) => false | _ => true) = true := hno
        rw [List.all_cons, z] at hno
        cases hno
      have F5 := F4.wipe nmp
      have hi : i < σ1.length := by rw [← F1.len]; exact hil
      refine ⟨.ref a, List.getElem?_set_self hi, ?_⟩
      have es : ((σ1.set i (some (.ref a))).set j (some (.ref a))).set i none = L2.wipe (σ1.set j (some (.ref a))) [i] := by
        rw [List.set_comm _ _ hij, List.set_set]
        rfl
      show D.nx (((σ1.set i (some (.ref a))).set j (some (.ref a))).set i none) _
      rw [es]
      exact E.nx _ _ _ _ g3 F5 (F1.s0.trans e3)
    · refine ⟨fun H1 σ1 ρ1 Hx q F1 e1 => E.nx H1 σ1 ρ1 Hx q (Fit.un F F1) e1, fun H1 σ1 ρ1 Hx v r q F1 e1 rr => E.rt H1 σ1 ρ1 Hx v r q (Fit.un F F1) e1 ?_, fun H1 σ1 ρ1 Hx q F1 e1 => E.bk H1 σ1 ρ1 Hx q (Fit.un F F1) e1, fun H1 σ1 ρ1 Hx q F1 e1 => E.ct H1 σ1 ρ1 Hx q (Fit.un F F1) e1⟩
      cases r with
      | v d => exact rr
      | o ds => exact rr
      | m ds => exact rr
      | x x G => exact rr
end
end DL

/-! DL16: what the written part says, asked by further questions of one's own; the questions about an error's class. -/
namespace DL
open PySem L2
def obX (n : Nat) (fa : List He.Fa) (fn : List He.DefD) (ex : List (PySem.W.Frag → Bool)) (g : Addr → Option Obj) : Bool × He.AlD := (ex.all fun f => f (He.frG g (He.asD g n)), He.obsDG n fa fn g)
def hookX (n : Nat) (fa : List He.Fa) (fn : List He.DefD) (ex : List (PySem.W.Frag → Bool)) : PySem.W.Hook where
  α := Bool × He.AlD
  obs := fun s => obX n fa fn ex s.heap.get?
  val := fun _ => (true, He.valD fn)
  says := fun _ h => ∃ K : PySem.W.Frag, K.In h ∧ He.SaysD fa fn K ∧ ∀ f ∈ ex, f K = true
  of := fun _ _ e => ⟨_, He.frG_in, congrArg Prod.snd e, fun f hf => List.all_eq_true.mp (congrArg Prod.fst e) f hf⟩
  keeps := fun _ _ _ ⟨K, hK, c⟩ k => ⟨K, PySem.W.Frag.In.keeps hK k, c⟩
theorem obX_eq {n : Nat} {fa : List He.Fa} {fn : List He.DefD} {ex : List (PySem.W.Frag → Bool)} {g : Addr → Option Obj} {s : Shared} (h : ∀ a, g a = s.heap.get? a) : obX n fa fn ex g = (hookX n fa fn ex).obs s := by
  have e : g = s.heap.get? := funext h
  rw [e]
  rfl
/-- an error's class straight over b -/
def oexB (b : XBase) (K : PySem.W.Frag) (C : Addr) : Bool := match K.lookup C with
  | some ⟨.type t, _, .cls cd, sl⟩ => (match cd.mro, sl.toList with
    | .ref C' :: bm, [_, _, _, _, some (.builtin n), _] => decide (t = "type") && (decide (C' = C) && (decide (n = b.newId) && (!cd.hasDel && (cd.hasDict && (bm == b.bm)))))
    | _, _ => false)
  | _ => false
theorem oexB_ok {b : XBase} {K : PySem.W.Frag} {C : Addr} (h : oexB b K C = true) : ∃ nm q N bs sn sub ab col dd k0 k1 k2 k3 k5, K.lookup C = some (excClassObj nm q C N bs b.bm true sn sub ab col dd k0 k1 k2 k3 k5 b.newId) := by
  unfold oexB at h
  split at h
  · rename_i t dd cd sl ho
    split at h
    · rename_i C' bm k0 k1 k2 k3 n k5 hm hs
      simp only [Bool.and_eq_true, decide_eq_true_eq, Bool.not_eq_true', beq_iff_eq] at h
      obtain ⟨rfl, rfl, rfl, h4, h5, rfl⟩ := h
      obtain ⟨nm, bs, mro, ns, qn, hd, sn, sub, ab, col, del⟩ := cd
      dsimp only at hm h4 h5
      subst hm h4 h5
      have e : sl = #[k0, k1, k2, k3, some (.builtin b.newId), k5] := by
        obtain ⟨l⟩ := sl
        simp only at hs
        rw [hs]
      subst e
      exact ⟨nm, qn, ns, bs, sn, sub, ab, col, dd, k0, k1, k2, k3, k5, ho⟩
    · cases h
  · cases h
def errB (b : XBase) (C f : Str) (K : PySem.W.Frag) : Bool :=
  oexB b K (He.ga K C) && (decide (PySem.W.findIn K (.ref (He.ga K C)) "__setattr__" = some (some (.builtin "object.__setattr__"))) && (decide (PySem.W.subIn K (.ref (He.ga K C)) (.type "BaseException") = some true) && (decide (PySem.W.typeIn K (.ref (He.ga K C)) = some (.type "type")) && (PySem.W.keepIn K (.ref (He.ga K C)) &&
  (decide (PySem.W.findIn K (.ref (He.ga K C)) f = some none) && (decide (PySem.W.findIn K (.ref (He.ga K C)) "__init__" = some (some (.ref (He.ma K (He.ga K C) "__init__")))) && (decide (PySem.W.typeIn K (.ref (He.ma K (He.ga K C) "__init__")) = some (.type "function")) &&
  ((PySem.W.clsIn K (He.ga K C)).isSome && (PySem.W.hasDictIn K (He.ga K C) && (decide (PySem.W.findIn K (.ref (He.ga K C)) "__getattribute__" = some (some (.builtin "BaseException.__getattribute__"))) && (decide (PySem.W.findIn K (.ref (He.ga K C)) "__getattr__" = some none) &&
  (decide (PySem.W.findIn K (.ref (He.ga K C)) "__class__" = some (some (.builtin "object.__class__"))) && (decide (PySem.W.mroIn K (He.ga K C) (.type "object") = some true) && decide (PySem.W.exmOne K (.ref (He.ga K C)) (.ref (He.ga K C)) = some true))))))))))))))
theorem iValue (K : PySem.W.Frag) : PySem.W.findCls K (.type bValue.B) (.type "type") "__init__" = some (.val (.builtin bValue.initId)) := by kernel_rfl
theorem yValue : typeOf (.type bValue.B) = pure (.type "type") := by kernel_rfl
theorem clsGet (K : PySem.W.Frag) : PySem.W.specialIn K (.builtin "object.__class__") "__get__" = some (some (.builtin "getset_descriptor.__get__")) := by kernel_rfl
theorem clsTakes (K : PySem.W.Frag) : PySem.W.takesIn K (.builtin "object.__class__") = some true := by kernel_rfl
theorem errB_ok {b : XBase} (ok : b.Ok) {C f : Str} {K : PySem.W.Frag} (h : errB b C f K = true) : ErrC K C f ∧ PySem.W.exmOne K (.ref (He.ga K C)) (.ref (He.ga K C)) = some true ∧ OexB K (He.ga K C) b := by
  unfold errB at h
  simp only [Bool.and_eq_true, decide_eq_true_eq] at h
  obtain ⟨h1, h2, h3, h4, h5, h6, h7, h8, h9, h10, h11, h12, h13, h14, h15⟩ := h
  have o : OexB K (He.ga K C) b := ⟨oexB_ok h1, h2, h3, h4, h5, ok⟩
  exact ⟨⟨⟨b, o⟩, h6, h7, h8, h3, h9, h10, h11, h12, h13, clsGet K, clsTakes K, h14⟩, h15, o⟩
/-- a class's body -/
def inCls : Stmt → List Stmt
  | .ClassDef _ _ _ body _ _ _ _ _ _ _ => body
  | _ => []
end DL

/-! DL17: own lists lent through a display: f([xs, ..], ..), f((xs, ..), ..). -/
namespace DL
open PySem L2
inductive Hc where
  | h (h : Hd) | d (tup : Bool) (hs : List Hd)
def flatC : List Hc → List Hd
  | [] => []
  | .h h :: r => h :: flatC r
  | .d _ hs :: r => hs ++ flatC r
def dispD (tup : Bool) (ds : List D) : D := if tup then .tup ds else .lst ds
def getC (ρ : Rho) : Hc → Option D
  | .h h => h.get ρ
  | .d b hs => match gets ρ hs with
    | some ds => some (dispD b ds)
    | none => none
def getsC (ρ : Rho) : List Hc → Option (List D)
  | [] => some []
  | c :: cs => match getC ρ c, getsC ρ cs with
    | some d, some ds => some (d :: ds)
    | _, _ => none
def HcRep (K : PySem.W.Frag) (H0 : Hp) (σ : St) (v : V) : Hc → Prop
  | .h h => HRep K H0 σ v h
  | .d b hs => ∃ l vs, v = .ref l ∧ H0 l = some (if b then .tup vs else .lst vs) ∧ HReps K H0 σ vs hs
inductive HcReps (K : PySem.W.Frag) (H0 : Hp) (σ : St) : List V → List Hc → Prop
  | nil : HcReps K H0 σ [] []
  | cons {v : V} {c : Hc} {vs : List V} {cs : List Hc} : HcRep K H0 σ v c → HcReps K H0 σ vs cs → HcReps K H0 σ (v :: vs) (c :: cs)
theorem HcRep.mono {K : PySem.W.Frag} {H0 H1 : Hp} {σ : St} {v : V} {c : Hc} (e : Same H0 H1) (r : HcRep K H0 σ v c) : HcRep K H1 σ v c := by
  cases c with
  | h h => exact HRep.mono e r
  | d b hs =>
    obtain ⟨l, vs, h1, h2, h3⟩ := r
    exact ⟨l, vs, h1, e _ _ h2, h3.mono e⟩
section
variable {Γ : Fx} {K : PySem.W.Frag} {H0 H : Hp} {σ : St} {ρ : Rho} {B : List Addr}
end
abbrev DCT := Rho → (List Hc → Rho → Prop) → Prop
def LC (Γ : Fx) (K : PySem.W.Frag) (t : DCT) : TA := fun σ H Q => ∃ H0 ρ R, Fit Γ K H0 σ ρ H ∧ t ρ R ∧ ∀ cs ρ' vs H0' H', R cs ρ' → Fit Γ K H0' σ ρ' H' → Same H0 H0' → HcReps K H0' σ vs cs → Q vs H'
structure DC (X : Cx) (Γ : Fx) (es : List Expr) (t : DCT) : Prop where
  run : ∀ tm, PA X es (LC (Γ.at tm) X.K t)
def dcNil : DCT := fun ρ R => R [] ρ
def dcH (t : DHT) (u : DCT) : DCT := fun ρ R => t ρ fun h ρ1 => u ρ1 fun cs ρ2 => R (.h h :: cs) ρ2
def dcD (b : Bool) (t : DAT) (u : DCT) : DCT := fun ρ R => t ρ fun hs ρ1 => hs.length ≤ sizeLine ∧ u ρ1 fun cs ρ2 => R (.d b hs :: cs) ρ2
section
variable {X : Cx} {Γ : Fx} {e : Expr} {es : List Expr} {u : DCT} {pos : Pos}
end
/-- f(..), own lists lent, within displays too -/
def dCallC (sp : DSp) (ta : DCT) : DT := fun ρ R => ta ρ fun cs ρ1 => match getsC ρ1 cs with
  | some ds => sp (ds.map S.v) (fun r _ => (bor ρ1 (flatC cs) = true → r.imm = true) ∧ R r ρ1) fun _ _ _ _ => False
  | none => False
section
variable {X : Cx} {Γ : Fx} {sp : DSp} {ta : DCT} {E : XK}
end
end DL

/-! DL18: a list taken apart by a tuple of targets. -/
namespace DL
open PySem PySem.Spec PyProof.Rows L2
section
variable {prog : Program} {w : World} {A : Around} {E : Value → Shared → Prop}
theorem draw_lst {it l : Addr} {items : Array Value} (ne : l ≠ it) : ∀ (n i : Nat) (s : Shared) (Q : List Value → Shared → Prop), s.heap.IsListIter it l i → s.heap.IsList l items → i + n ≤ items.size →
    (∀ h', h'.IsListIter it l (i + n) → Heap.SameBut it s.heap h' → Q ((items.toList.drop i).take n) { s with heap := h' }) → wpAny (model prog w) A (draw (.ref it) n) Q E s
  | 0, i, s, Q, st, _, _, k => by
    have := k s.heap st (Heap.SameBut.refl ..)
    rw [List.take_zero] at this
    exact wpAny_pure this
  | n + 1, i, s, Q, st, il, hle, k => by
    have lt : i < items.size := by omega
    change wpAny _ _ (pyNext (.ref it) >>= _) Q E s
    refine wpAny_bind (wpAny_pyNext_list_item st il (x := items[i]) (by simp [lt]) fun h1 st1 sb1 => ?_)
    have il1 : h1.IsList l items := by
      obtain ⟨o, g, q⟩ := il
      exact ⟨o, (sb1.2 l ne).trans g, q⟩
    refine wpAny_bind (wpAny_holding (draw_lst ne n (i + 1) { s with heap := h1 } _ st1 il1 (by omega) fun h2 st2 sb2 => wpAny_pure ?_))
    have t := k h2 (by rw [show i + (n + 1) = i + 1 + n by omega]; exact st2) (sb1.trans sb2)
    rw [show items.toList.drop i = items[i] :: items.toList.drop (i + 1) by simp [List.drop_eq_getElem_cons, lt], List.take_succ_cons] at t
    exact t
theorem unpack_lst {s : Shared} {l : Addr} {items : Array Value} {targets : List (Bool × (Value → Sem Unit))} {Q : Unit → Shared → Prop} (hh : A.handled = none) (il : s.heap.IsList l items) (hn : targets.length = items.size) (star : targets.findIdx? (·.1) = none)
    (k : ∀ h', Heap.ExtBut s.heap.objs.size s.heap h' → wpAny (model prog w) A (assignInOrder (targets.map (·.2)) items.toList) Q E { s with heap := h' }) : wpAny (model prog w) A (unpack (.ref l) targets) Q E s := by
  have ne : l ≠ s.heap.objs.size := by
    obtain ⟨o, g, _⟩ := il
    exact Nat.ne_of_lt (Heap.lt_size g)
  unfold unpack
  rw [hn, star]
  refine wpAny_bind (wpAny_holding ?_)
  unfold unpackItems
  refine wpAny_bind ?_
  unfold notIterableAtAll
  refine wpAny_bind (wpAny_specialOf il.typeIs slot_list_iter.lookup (wpAny_pure ?_))
  simp only [Bool.false_eq_true, if_false]
  refine wpAny_bind (wpAny_holding (wpAny_pyIter_list il ?_))
  have ilp : (s.heap.push { cls := .type "list_iterator", data := .fields #[.ref l, .int 0 0] }).IsList l items := by
    obtain ⟨o, g, q⟩ := il
    exact ⟨o, Heap.get?_push_of_some _ g, q⟩
  refine wpAny_bind (wpAny_holding (draw_lst ne items.size 0 _ _ ⟨_, Heap.get?_push_size _ rfl, rfl, rfl⟩ ilp (by omega) fun h1 st1 sb1 => ?_))
  rw [show List.take items.size (List.drop 0 items.toList) = items.toList by rw [List.drop_zero]; exact List.take_of_length_le (by simp)]
  rw [if_neg (by simp)]
  have il1 : h1.IsList l items := by
    obtain ⟨o, g, q⟩ := ilp
    exact ⟨o, (sb1.2 l ne).trans g, q⟩
  refine wpAny_bind (wpAny_holding (wpAny_pyNext_list_end hh st1 il1 (by simp) fun h2 eb => ?_))
  simp only [Option.isSome_none, Bool.false_eq_true, if_false]
  exact wpAny_pure (k h2 fun b o hb e => eb b o hb ((sb1.2 b hb).trans (Heap.get?_push_of_some _ e)))
end
section
variable {X : Cx} {pos : Pos}
def gLst (K : PySem.W.Frag) (n : Nat) (t : TGs) : TG := fun v σ H Q => ∃ a xs, v = .ref a ∧ SqL K H a xs ∧ xs.length = n ∧ t xs σ H Q
theorem pg_lst {es : List Expr} {k : Nat} {t : TGs} {n : Nat} (hc : X.calm = true) (h : PGs X es t) (hn : (assignEach es X.env).length = n := by rfl) (hst : (assignEach es X.env).findIdx? (·.1) = none := by rfl) : PG X (.Tuple es k pos) (gLst X.K n t) := by
  constructor
  intro pins s σ H v u Q I r hw
  obtain ⟨a, xs, rfl, hq, hl, hw⟩ := hw
  cases r
  obtain ⟨its, rv, pl, hz⟩ := I.list hq
  rw [assign_Tuple]
  refine wpAny_bind (wpAny_standAt (unpack_lst (I.ok.hd hc) pl.isList (by simp [hn, ← hl, rv.length]) hst fun h' hx => ?_))
  have I1 : Inv X pins σ H { s with heap := h' } := I.kept (t' := s.toks) fun b o e => hx b o (Nat.ne_of_lt (Heap.lt_size e)) e
  exact h.run pins _ σ H xs _ Q I1 (by simpa using rv) hw
/-- (a, b, ..) = a tuple or a list -/
def gU (u : DGTs) : DGT := fun r ρ R => match r with
  | .v (.tup ds) => u ds ρ R
  | .v (.lst ds) => u ds ρ R
  | .v (.rol ds) => u ds ρ R
  | .o ds => u ds ρ R
  | _ => False
theorem pg_or {e : Expr} {t u : TG} (h1 : PG X e t) (h2 : PG X e u) : PG X e (fun v σ H Q => t v σ H Q ∨ u v σ H Q) := ⟨fun pins s σ H v w Q I r q => q.elim (h1.run pins s σ H v w Q I r) (h2.run pins s σ H v w Q I r)⟩
variable {Γ : Fx}
theorem dgd_u {es : List Expr} {k n : Nat} {u : DGTs} {js : List Nat} (hc : X.calm = true) (h : DGs X Γ es js u) (hl : ∀ ds ρ R, u ds ρ R → ds.length = n) (hn : (assignEach es X.env).length = n := by rfl) (hst : (assignEach es X.env).findIdx? (·.1) = none := by rfl) : DGd X Γ (.Tuple es k pos) js (gU u) :=
  ⟨fun tm => pgLe (pg_or (pg_tup hc (h.run tm) hn hst) (pg_lst hc (h.run tm) hn hst)) fun v σ H Q ⟨H0, ρ, d, R, F, rr, g, kk⟩ => by
    cases rr with
    | tup h1 r1 => exact .inl ⟨_, _, rfl, seqT F.sub h1, by rw [r1.length]; exact hl _ _ _ g, H0, ρ, _, R, F, r1, g, kk⟩
    | lst h1 r1 => exact .inr ⟨_, _, rfl, SqL.of (F.sub _ _ h1), by rw [r1.length]; exact hl _ _ _ g, H0, ρ, _, R, F, r1, g, kk⟩
    | rol h1 r1 => exact .inr ⟨_, _, rfl, F.sub.seq h1, by rw [r1.length]; exact hl _ _ _ g, H0, ρ, _, R, F, r1, g, kk⟩
    | _ => exact g.elim⟩
theorem dg_u {es : List Expr} {k n : Nat} {u : DGTs} {js : List Nat} (hc : X.calm = true) (h : DGs X Γ es js u) (hl : ∀ ds ρ R, u ds ρ R → ds.length = n) (hn : (assignEach es X.env).length = n := by rfl) (hst : (assignEach es X.env).findIdx? (·.1) = none := by rfl) : DG X Γ (.Tuple es k pos) (gU u) :=
  ⟨fun tm => pgLe ((dgd_u hc h hl hn hst).run tm) fun v σ H Q ⟨H0, ρ, r, R, F, rr, g, kk⟩ => by
    cases r with
    | v d => exact ⟨H0, ρ, d, R, F, rr, g, fun ρ' H0' σ' H' q F' e' _ => kk ρ' H0' σ' H' q F' e'⟩
    | o ds =>
      obtain ⟨H1, F1, e1, r1⟩ := F.freeze rr
      exact ⟨H1, ρ, .lst ds, R, F1, r1, g, fun ρ' H0' σ' H' q F' e' _ => kk ρ' H0' σ' H' q F' (e1.trans e')⟩
    | m ds => exact g.elim
    | x x G => exact g.elim⟩
end
end DL

/-! DL19: a def whose errors never come -/
namespace DL
open PySem L2
theorem fn_calm {P : Program} {w : World} {K : PySem.W.Frag} {mg : Str → Option Value} {base : Heap} {k : Nat} {f : Addr} {fd : FuncData} {ps : List Str} {sp : DSp} (F : FnOk P w K mg base (L2.CX P w) k f fd ps (LSp K sp)) (h : ∀ as R RX, sp as R RX → sp as R fun _ _ _ _ => False) :
    FnOk P w K mg base CX0 k f fd ps (LSp K sp) :=
  ⟨F.len, fun A outer s H args us vs Q E hr he hb hv hs => codeAny_mono (F.run A outer s H args us vs Q (fun _ _ _ => False) hr he hb hv (by
      obtain ⟨H0, as, R, RX, h1, h2, h3, h4, h5, _⟩ := hs
      exact ⟨H0, as, R, _, h1, h2, h3, h _ _ _ h4, h5, fun _ _ _ _ _ _ _ _ z => z.elim⟩)) fun r s' hq => by
    match r, hq with
    | .ok (.ret u), hq => exact hq
    | .error e, hq =>
      obtain ⟨a, B, H', cls, d, _, _, _, _, _, _, _, z⟩ := hq
      exact z.elim⟩
end DL

/-! DL20: sorted, ints -/
namespace DL
open PySem L2
def sortedD : List D → (S → Prop) → Prop
  | [.lst ds], R => ∃ ns : List Int, ds = ns.map D.int ∧ ∀ ms : List Int, ms.Perm ns → ms.Pairwise (· ≤ ·) → R (.o (ms.map D.int))
  | _, _ => False
example {X : Cx} : CallR X (.builtin "sorted") (rSortedI X.K) := cr_sortedI
end DL

/-! DL21: things of own classes: made -/
namespace DL
open PySem L2
theorem Fit.setIns {Γ : Fx} {K : PySem.W.Frag} {H0 : Hp} {σ : St} {ρ : Rho} {H : Hp} {x : Addr} {o o' : HO} (F : Fit Γ K H0 σ ρ H) (hx : Γ.Hs x = some o) (hm : x ∉ Γ.ma) (h0 : H0 x = none) (hol : ∀ xs, o ≠ .lst xs) :
    Fit { Γ with Hs := upd Γ.Hs x o' } K H0 σ ρ (upd H x o') := by
  have hH : H x = some o := F.keep x o hx hm
  have own : ∀ {p ds}, OwnAt K H0 H p ds → p ≠ x := fun {p ds} ⟨_, xs, h, _⟩ z => by
    subst z
    rw [hH] at h
    injection h with h
    exact hol _ h
  have ownU : ∀ {p ds}, OwnAt K H0 H p ds → OwnAt K H0 (upd H x o') p ds := fun {p ds} h => by
    have hp := own h
    obtain ⟨h1, xs, h2, h3⟩ := h
    exact ⟨h1, xs, by rw [upd_ne hp]; exact h2, h3⟩
  have notx : ∀ {i : Nat} {y : OwnT} {G : List Addr} {a : Addr}, ρ[i]? = some (some (.x y G)) → a ∈ G → a ≠ x := fun q ha z => by
    subst z
    have := (F.ex _ _ _ q _ ha).hs
    rw [hx] at this; cases this
  refine ⟨fun a u q => ?_, F.s0, fun a u q n => ?_, fun a u q1 q2 => ?_, F.len, fun i s q => ?_, fun i ds p q1 q2 => ?_, F.par, F.dist, F.mps, fun p xs q => ?_, fun j y G hj a ha => ?_⟩
  · have ha : a ≠ x := fun z => by subst z; rw [h0] at q; cases q
    rw [upd_ne ha]
    exact F.sub a u q
  · by_cases ha : a = x
    · subst ha
      have q : upd Γ.Hs a o' a = some u := q
      rw [upd_same] at q ⊢
      exact q
    · have q : upd Γ.Hs x o' a = some u := q
      rw [upd_ne ha] at q ⊢
      exact F.keep a u q n
  · have ha : a ≠ x := fun z => by subst z; rw [h0] at q1; cases q1
    show upd Γ.Hs x o' a = none
    rw [upd_ne ha]
    exact F.new a u q1 q2
  · obtain ⟨v, h1, h2⟩ := F.slots i s q
    refine ⟨v, h1, ?_⟩
    cases s with
    | v d => exact h2
    | o ds => obtain ⟨p, e, h⟩ := h2; exact ⟨p, e, ownU h⟩
    | m ds => obtain ⟨p, e, h⟩ := h2; exact ⟨p, e, ownU h⟩
    | x y G => exact XAt.stay h2 (Same.refl _) fun a ha => ⟨(F.xSome q ha).1, upd_ne (notx q ha)⟩
  · obtain ⟨v, h1, p', e, h⟩ := F.slots i _ q1
    rw [q2] at h1
    injection h1 with h1
    injection h1 with h1
    rw [← h1] at e
    injection e with e
    subst e
    show upd Γ.Hs x o' p = none
    rw [upd_ne (own h)]
    exact F.loc i ds p q1 q2
  · obtain ⟨h1, h2, h3⟩ := F.tmp p xs q
    have hp : p ≠ x := fun z => by
      subst z
      rw [hH] at h1
      injection h1 with h1
      exact hol _ h1
    exact ⟨by rw [upd_ne hp]; exact h1, h2, h3⟩
  · have X1 := F.ex j y G hj a ha
    refine X1.tr ?_ X1.tm (fun k s es q1 q2 => ⟨s, es, q1, q2, rfl⟩) fun k y G q => ⟨y, q⟩
    show upd Γ.Hs x o' a = none
    rw [upd_ne (notx hj ha)]
    exact X1.hs
def putFD (f : Str) (d : D) : List (Str × D) → List (Str × D)
  | [] => [(f, d)]
  | (g, x) :: r => if g = f then (g, d) :: r else (g, x) :: putFD f d r
theorem RepF.put {K : PySem.W.Frag} {H : Hp} {f : Str} {v : V} {d : D} (r : Rep K H v d) : ∀ {fs : List (Str × V)} {gs : List (Str × D)}, RepF K H fs gs → RepF K H (putF f v fs) (putFD f d gs)
  | _, _, .nil => .cons r .nil
  | _, _, .cons (f := g) r1 t => by
    rw [putF, putFD]
    by_cases e : g = f
    · rw [if_pos e, if_pos e]
      exact .cons r t
    · rw [if_neg e, if_neg e]
      exact .cons r1 (RepF.put r t)
theorem RepF.length {K : PySem.W.Frag} {H : Hp} : ∀ {fs : List (Str × V)} {gs : List (Str × D)}, RepF K H fs gs → fs.length = gs.length
  | _, _, .nil => rfl
  | _, _, .cons _ t => congrArg Nat.succ (RepF.length t)
/-- the reading of self.f = e, .. : x the thing, gs its fields so far -/
abbrev DIK := List (Str × D) → Rho → Prop
def dSetF (x : Addr) (f : Str) (te : DT) (k : DIK) : DIK := fun gs ρ => te ρ fun r ρ1 => ρ1[0]? = some (some (.v (.adr x))) ∧ gs.length < 900 ∧ k (putFD f r.d gs) ρ1
/-- the frame of a thing being made -/
abbrev Fx.ins (Γ : Fx) (K : PySem.W.Frag) (C : Str) (x dx : Addr) (fs : List (Str × V)) : Fx := { Γ with Hs := upd Γ.Hs x (.ins (He.ga K C) dx fs), tm := [] }
def LTi (Γ : Fx) (K : PySem.W.Frag) (C : Str) (x dx : Addr) (t : DIK → DIK) : TS := fun De σ H => ∃ H0 ρ fs gs kk, Fit (Γ.ins K C x dx fs) K H0 σ ρ H ∧ H0 x = none ∧ x ∉ Γ.ma ∧ RepF K H0 fs gs ∧ t kk gs ρ ∧
  ∀ H0' σ' ρ' H' fs' gs', kk gs' ρ' → Fit (Γ.ins K C x dx fs') K H0' σ' ρ' H' → Same H0 H0' → H0' x = none → RepF K H0' fs' gs' → De.nx σ' H'
theorem upd_upd {H : Hp} {x : Addr} {o o' : HO} : upd (upd H x o) x o' = upd H x o' := by
  funext a
  by_cases h : a = x
  · subst h
    rw [upd_same, upd_same]
  · rw [upd_ne h, upd_ne h, upd_ne h]
theorem pe_any {X : Cx} {e : Expr} {α : Type} {t : α → TE} (h : ∀ a, PE X e (t a)) : PE X e (fun σ H Q => ∃ a, t a σ H Q) := ⟨fun pins s σ H Q I ⟨a, q⟩ => (h a).run pins s σ H Q I q⟩
/-- self.f = e -/
theorem ps_setF {X : Cx} {Γ : Fx} {C f : Str} {x dx : Addr} {o value : Expr} {te : DT} {pos pos' : Pos} (ho : ∀ Γ', DE X Γ' o (dV 0)) (hv : ∀ Γ', DE X Γ' value te) (hc : Cls X.K (He.ga X.K C)) (hn : NoAttr X.K (He.ga X.K C) f)
    (hs : swapsWith value (some (.Attribute o f pos')) pos.line X.env = pure false := by rfl) : PS X (.Assign [.Attribute o f pos'] value pos) (LTi Γ X.K C x dx (dSetF x f te)) :=
  psLe (ps_fld (pe_any fun fs => (ho (Γ.ins X.K C x dx fs)).run []) (pe_any fun fs => (hv (Γ.ins X.K C x dx fs)).run []) hs) fun De σ H ⟨H0, ρ, fs, gs, kk, F, h0, hm, rf, t, k⟩ => by
    have g0 : Γ.H0 x = none := by
      cases q : Γ.H0 x with
      | none => rfl
      | some u => rw [F.s0 x u q] at h0; cases h0
    have none0 : ∀ {H1 σ1 ρ1 H2}, Fit (Γ.ins X.K C x dx fs) X.K H1 σ1 ρ1 H2 → H1 x = none := fun {H1 σ1 ρ1 H2} F1 => by
      cases q : H1 x with
      | none => rfl
      | some u =>
        have := F1.new x u q g0
        have this : upd Γ.Hs x (.ins (He.ga X.K C) dx fs) x = none := this
        rw [upd_same] at this
        cases this
    refine ⟨fs, H0, ρ, _, F, t, fun r ρ1 v H1 H' ⟨q1, q2, q3⟩ F1 e1 rr => ?_⟩
    obtain ⟨H2, F2, e2, r2⟩ := F1.freeze rr
    refine ⟨fs, H2, ρ1, fun s ρ' => s = .v (.adr x) ∧ ρ' = ρ1, F2, ?_, fun s ρ2 w H3 H'' ⟨z1, z2⟩ F3 e3 r3 => ?_⟩
    · unfold dV
      rw [q1]
      exact ⟨rfl, rfl⟩
    · subst z1
      rw [z2] at F3
      have r3 : Rep X.K H3 w (.adr x) := r3
      cases r3
      refine ⟨x, He.ga X.K C, dx, fs, rfl, F3.keep x _ upd_same hm, hc, hn, by rw [rf.length]; omega, ?_⟩
      have F4 := F3.setIns (o' := .ins (He.ga X.K C) dx (putF f v fs)) upd_same hm (none0 F3) (fun xs z => by cases z)
      have F5 : Fit (Γ.ins X.K C x dx (putF f v fs)) X.K H3 σ ρ1 (upd H'' x (.ins (He.ga X.K C) dx (putF f v fs))) := by
        have e : ({ (Γ.ins X.K C x dx fs) with Hs := upd (Γ.ins X.K C x dx fs).Hs x (.ins (He.ga X.K C) dx (putF f v fs)) } : Fx) = Γ.ins X.K C x dx (putF f v fs) := by
          show ({ mp := Γ.mp, H0 := Γ.H0, Hs := upd (upd Γ.Hs x _) x _, tm := [] } : Fx) = { mp := Γ.mp, H0 := Γ.H0, Hs := upd Γ.Hs x _, tm := [] }
          rw [upd_upd]
        rw [← e]
        exact F4
      exact k H3 σ ρ1 _ _ _ q3 F5 ((e1.trans e2).trans e3) (none0 F3) (RepF.put (r2.mono e3) (rf.mono ((e1.trans e2).trans e3)))
theorem pss_setNil {X : Cx} {Γ : Fx} {C : Str} {x dx : Addr} : PSs X [] (LTi Γ X.K C x dx (fun k => k)) :=
  pssLe pss_nil fun De σ H ⟨H0, ρ, fs, gs, kk, F, h0, hm, rf, t, k⟩ => k H0 σ ρ H fs gs t F (Same.refl _) h0 rf
theorem pss_setCons {X : Cx} {Γ : Fx} {C : Str} {x dx : Addr} {st : Stmt} {rest : List Stmt} {t1 t2 : DIK → DIK} (h1 : PS X st (LTi Γ X.K C x dx t1)) (h2 : PSs X rest (LTi Γ X.K C x dx t2)) : PSs X (st :: rest) (LTi Γ X.K C x dx (fun k => t1 (t2 k))) :=
  pssLe (pss_cons h1 h2) fun De σ H ⟨H0, ρ, fs, gs, kk, F, h0, hm, rf, t, k⟩ => ⟨H0, ρ, fs, gs, t2 kk, F, h0, hm, rf, t, fun H0' σ' ρ' H' fs' gs' q F' e' h0' rf' =>
    ⟨H0', ρ', fs', gs', kk, F', h0', hm, rf', q, fun H0'' σ'' ρ'' H'' fs'' gs'' q2 F'' e'' h2 rf'' => k H0'' σ'' ρ'' H'' fs'' gs'' q2 F'' (e'.trans e'') h2 rf''⟩⟩
/-- ahead of the first field -/
abbrev DJK := DIK → Rho → Prop
def LJ (Γ : Fx) (K : PySem.W.Frag) (C : Str) (x dx : Addr) (t : DJK) : TS := fun De σ H => ∃ H0 ρ kk, Fit (Γ.ins K C x dx []) K H0 σ ρ H ∧ H0 x = none ∧ x ∉ Γ.ma ∧ t kk ρ ∧
  ∀ H0' σ' ρ' H' fs' gs', kk gs' ρ' → Fit (Γ.ins K C x dx fs') K H0' σ' ρ' H' → Same H0 H0' → H0' x = none → RepF K H0' fs' gs' → De.nx σ' H'
def dSets (t : DIK → DIK) : DJK := fun kk ρ => t kk [] ρ
def dPre (t : DST) (u : DJK) : DJK := fun kk ρ => t { nx := fun ρ' => u kk ρ', rt := fun _ _ => False } ρ
theorem pss_sets {X : Cx} {Γ : Fx} {C : Str} {x dx : Addr} {st : List Stmt} {t : DIK → DIK} (h : PSs X st (LTi Γ X.K C x dx t)) : PSs X st (LJ Γ X.K C x dx (dSets t)) :=
  pssLe h fun De σ H ⟨H0, ρ, kk, F, h0, hm, t, k⟩ => ⟨H0, ρ, [], [], kk, F, h0, hm, .nil, t, k⟩
theorem pss_pre {X : Cx} {Γ : Fx} {C : Str} {x dx : Addr} {st : Stmt} {rest : List Stmt} {t : DST} {u : DJK} (h1 : DS X (Γ.ins X.K C x dx []) st t) (h2 : PSs X rest (LJ Γ X.K C x dx u)) : PSs X (st :: rest) (LJ Γ X.K C x dx (dPre t u)) :=
  pssLe (pss_cons (h1.run []) h2) fun De σ H ⟨H0, ρ, kk, F, h0, hm, t, k⟩ => by
    have g0 : Γ.H0 x = none := by
      cases q : Γ.H0 x with
      | none => rfl
      | some u => rw [F.s0 x u q] at h0; cases h0
    refine ⟨H0, ρ, _, F, t, ⟨fun H0' σ' ρ' H' q F' e' => ⟨H0', ρ', kk, F', ?_, hm, q, fun H0'' σ'' ρ'' H'' fs'' gs'' q2 F'' e'' h2 rf'' => k H0'' σ'' ρ'' H'' fs'' gs'' q2 F'' (e'.trans e'') h2 rf''⟩, fun _ _ _ _ _ _ q => q.elim, fun _ _ _ _ q => q.elim, fun _ _ _ _ q => q.elim⟩⟩
    cases q : H0' x with
    | none => rfl
    | some u =>
      have := F'.new x u q g0
      have this : upd Γ.Hs x (.ins (He.ga X.K C) dx []) x = none := this
      rw [upd_same] at this
      cases this
/-- a new thing of the class C: what __init__ is handed, what it leaves -/
def spNew (K : PySem.W.Frag) (C : Str) (sp : DSp) : Sp := fun vs H Q E => ∃ x dx ws H0 ds R RX, vs = .ref x :: ws ∧ H x = some (.ins (He.ga K C) dx []) ∧ H0 x = none ∧ Same H0 H ∧ Reps K H0 ws ds ∧ sp (ds.map S.v) R RX ∧
  (∀ gs fs H0' H', R (.v (.ins C gs)) [] → Same H0 H0' → Same H0' H' → (∀ a o, H a = some o → a ≠ x → H' a = some o) → (∀ a o, H0' a = some o → H0 a = none → H a = none) → H0' x = none → RepF K H0' fs gs → H' x = some (.ins (He.ga K C) dx fs) → Q .non H') ∧
  (∀ Cx f d e v H0' H', RX Cx f d [] → Same H0 H0' → Same H0' H' → (∀ a o, H a = some o → H' a = some o) → (∀ a o, H0' a = some o → H0 a = none → H a = none) → H e = none → H0' e = none → H' e = some (.xd [(f, v)]) → Rep K H0' v d → E (.ref (He.ga K Cx)) (some e) H')
theorem upd_id {H : Hp} {x : Addr} {o : HO} (h : H x = some o) : upd H x o = H := by
  funext a
  by_cases q : a = x
  · subst q
    rw [upd_same, h]
  · rw [upd_ne q]
/-! ### C(..): a thing is made -/
section
variable {X : Cx} {C f : Addr} {fd : FuncData} {ps : List Str} {sp : Sp} {dvs : List V} {ds : List Value} {E : St → XK} {k : Nat}
theorem run_mkS {CX : CXT} {pins : List (Addr × Obj)} {σ : St} {H : Hp} {s : Shared} {Q : VK} {us : List Value} {vs : List V} (M : Mk X.K C f) (G : FnOk X.prog X.w X.K X.mg X.base CX k f fd ps sp) (room : Room (k + 1) X.A) (bd : Binds X.K fd ps ds) (vd : Vals dvs ds) (pa : PassesAt CX X σ (E σ))
    (inv : Inv X pins σ H s) (rv : Vals vs us) (hyp : ∀ y dy, H y = none → H dy = none → dy ≠ y → sp (.ref y :: (vs ++ dvs)) (upd (upd H dy (.own y)) y (.ins C dy [])) (fun v H2 => v = .non ∧ Q (.ref y) H2) (E σ)) :
    wpAny (model X.prog X.w) X.A (call (.ref C) us) (EP X pins σ Q) X.xe s := by
  obtain ⟨y, hy⟩ : ∃ y, y = s.heap.objs.size + 1 := ⟨_, rfl⟩
  have h1 := hyp y s.heap.objs.size (by rw [hy]; exact inv.hok.fresh (Nat.le_succ _)) (inv.hok.fresh (Nat.le_refl _)) (by rw [hy]; exact Nat.ne_of_lt (Nat.lt_succ_self _))
  have inv2 := Inv.made (C := C) inv
  have rv2 : Vals (V.ref y :: (vs ++ dvs)) (Value.ref y :: (us ++ ds)) := .cons rfl (rv.append vd)
  have len2 : (Value.ref y :: us ++ ds).length = ps.length := (rv2.length.symm.trans (G.len _ _ _ _ h1) :)
  subst hy
  refine wpAny_call (make_map (f := f) inv.kIn M.makes M.init (beq_iff_eq.mp M.fn) (codeAny_mono (G.run _ X.stack _ _ ⟨Value.ref _ :: us, []⟩ (Value.ref _ :: (us ++ ds)) _ _ (E σ) (room.make C us []) (inv2.env0.make C us []) (bd _ (Value.ref _ :: us) inv2.kIn len2) rv2 h1) fun r s' z => ?_))
  match r, z with
  | .error e, z => exact pa pins _ _ e s' inv2 z
  | .ok (.ret u), z =>
    obtain ⟨v, H', inv3, rr, rfl, q⟩ := inv2.after z
    exact ⟨rr, ⟨.ref (s.heap.objs.size + 1), H', inv3, rfl, q⟩⟩
end
def tMkS (C : Addr) (sp : Sp) (dvs : List V) (E : St → XK) (t : TA) : TE := fun σ H Q => t σ H fun vs H1 => ∀ y dy, H1 y = none → H1 dy = none → dy ≠ y → sp (.ref y :: (vs ++ dvs)) (upd (upd H1 dy (.own y)) y (.ins C dy [])) (fun v H2 => v = .non ∧ Q (.ref y) H2) (E σ)
section
variable {X : Cx} {Γ : Fx} {sp : DSp} {dvs : List V} {dd : List D} {ta : DAT} {xc : DXC} {C : Str}
theorem mk_core {tm : List (Addr × List V)} {σ : St} {ρ1 : Rho} {H1 H' : Hp} {hs : List Hd} {ws : List V} {dw : List D} {R : S → Rho → Prop} {Q : VK} (F1 : Fit (Γ.at tm) X.K H1 σ ρ1 H') (rp : Reps X.K (lendB H1 H' (lentOf σ ρ1 hs)) ws dw)
    (q : sp (dw.map S.v) (fun r _ => (bor ρ1 hs = true → r.imm = true) ∧ R r ρ1) fun C f d _ => (bor ρ1 hs = true → d.imm = true) ∧ xc C f d ρ1) (k : ∀ r v H2 H3, R r ρ1 → Fit (Γ.at tm) X.K H2 σ ρ1 H3 → Same H1 H2 → RRep (Γ.at tm) X.K H2 σ ρ1 H3 v r → Q v H3) {y dy : Addr} (ny : H' y = none) (ndy : H' dy = none) (hne : dy ≠ y) :
    spNew X.K C sp (.ref y :: ws) (upd (upd H' dy (.own y)) y (.ins (He.ga X.K C) dy [])) (fun v H2 => v = .non ∧ Q (.ref y) H2) (WE (wX Γ X.K xc) σ) := by
  have hB : Lent σ ρ1 (lentOf σ ρ1 hs) := lentOf_lent hs
  obtain ⟨s1, s2⟩ := F1.lendSub hB
  have l0 : ∀ {a}, H' a = none → lendB H1 H' (lentOf σ ρ1 hs) a = none := fun {a} z => by
    cases q : lendB H1 H' (lentOf σ ρ1 hs) a with
    | none => rfl
    | some o => rw [s2 a o q] at z; cases z
  have up : ∀ {a o}, H' a = some o → upd (upd H' dy (.own y)) y (.ins (He.ga X.K C) dy []) a = some o := fun {a o} z => by
    have h1 : a ≠ y := fun w => by subst w; rw [ny] at z; cases z
    have h2 : a ≠ dy := fun w => by subst w; rw [ndy] at z; cases z
    rw [upd_ne h1, upd_ne h2]
    exact z
  have dn : ∀ {a}, upd (upd H' dy (.own y)) y (.ins (He.ga X.K C) dy []) a = none → H' a = none ∧ a ≠ y ∧ a ≠ dy := fun {a} z => by
    have h1 : a ≠ y := fun w => by subst w; rw [upd_same] at z; cases z
    rw [upd_ne h1] at z
    have h2 : a ≠ dy := fun w => by subst w; rw [upd_same] at z; cases z
    rw [upd_ne h2] at z
    exact ⟨z, h1, h2⟩
  refine ⟨y, dy, ws, lendB H1 H' (lentOf σ ρ1 hs), dw, _, _, rfl, upd_same, l0 ny, fun a o z => up (s2 a o z), rp, q, fun gs fs H2 H3 q2 st1 st2 kp nw h2y rf h3y => ?_, fun Cx fl d e v H2 H3 q2 st1 st2 kp nw he h2e h3e rd => ?_⟩
  · have h2d : H2 dy = none := by
      cases z : H2 dy with
      | none => rfl
      | some o => exact absurd rfl (dn (nw dy o z (l0 ndy))).2.2
    have hyd : y ≠ dy := fun z => hne z.symm
    have sH : Same H2 (upd (upd H2 dy (.own y)) y (.ins (He.ga X.K C) dy fs)) := (same_upd h2d).trans (same_upd (by rw [upd_ne hyd]; exact h2y))
    have top : Same (upd (upd H2 dy (.own y)) y (.ins (He.ga X.K C) dy fs)) H3 := fun a o z => by
      by_cases ha : a = y
      · subst ha
        rw [upd_same] at z
        cases z
        exact h3y
      · rw [upd_ne ha] at z
        by_cases hb : a = dy
        · subst hb
          rw [upd_same] at z
          cases z
          exact kp a _ (by rw [upd_ne ha, upd_same]) ha
        · rw [upd_ne hb] at z
          exact st2 a o z
    obtain ⟨F3, e3, hl⟩ := F1.behind hB (st1.trans sH) top (fun a o z => kp a o (up z) (fun w => by subst w; rw [ny] at z; cases z)) (fun a o z1 z2 => by
      by_cases ha : a = y
      · rw [ha]; exact ny
      · rw [upd_ne ha] at z1
        by_cases hb : a = dy
        · rw [hb]; exact ndy
        · rw [upd_ne hb] at z1
          exact (dn (nw a o z1 z2)).1)
    refine ⟨rfl, k _ _ _ H3 q2.2 F3 e3 ?_⟩
    have r0 : Rep X.K (upd (upd H2 dy (.own y)) y (.ins (He.ga X.K C) dy fs)) (.ref y) (.ins C gs) := .ins upd_same (rf.mono sH)
    show Rep X.K (offB _ (lentOf σ ρ1 hs)) (.ref y) (.ins C gs)
    cases q0 : lentOf σ ρ1 hs with
    | nil => rw [offB_nil]; exact r0
    | cons p ps =>
      rw [← q0]
      exact r0.off hl (q2.1 (bor_of (by rw [q0]; exact List.mem_cons_self)))
  · obtain ⟨F3, e3, hl⟩ := F1.behind hB st1 st2 (fun a o z => kp a o (up z)) (fun a o z1 z2 => (dn (nw a o z1 z2)).1)
    refine ⟨offB H2 (lentOf σ ρ1 hs), ρ1, Cx, fl, d, e, v, rfl, rfl, F3.tmSub (fun q z => by cases z), h3e, offB_sub.free h2e, F1.noneS (dn he).1, ?_, q2.2⟩
    cases q0 : lentOf σ ρ1 hs with
    | nil => rw [offB_nil]; exact rd
    | cons p ps =>
      rw [← q0]
      exact rd.off hl (q2.1 (bor_of (by rw [q0]; exact List.mem_cons_self)))
theorem mkX_le {tm : List (Addr × List V)} (hdd : ∀ H, Reps X.K H dvs dd) {σ : St} {H : Hp} {Q : VK} (h : LE (Γ.at tm) X.K (dCallX xc sp dd ta) σ H Q) : tMkS (He.ga X.K C) (spNew X.K C sp) dvs (WE (wX Γ X.K xc)) (LA (Γ.at tm) X.K ta) σ H Q := by
  obtain ⟨H0, ρ, R, F, t, k⟩ := h
  refine ⟨H0, ρ, _, F, t, fun hs ρ1 vs H1 H' q F1 e1 rr => ?_⟩
  split at q
  · rename_i ds g
    intro y dy ny ndy hne
    exact mk_core F1 ((F1.lendReps (lentOf_lent hs) rr g fun _ z => z).append (hdd _)) q (fun r v H2 H3 q F e z => k r ρ1 v H2 H3 q F (e1.trans e) z) ny ndy hne
  · exact q.elim
/-- C(.., k = v, ..): pm puts the written values in the parameters' order -/
def dCallKX (xc : DXC) (n m : Nat) (sp : DSp) (pm : List D → List D → List D) (ta tk : DAT) : DT := fun ρ R => ta ρ fun hs ρ1 => tk ρ1 fun gs ρ2 => hs.length = n ∧ gs.length = m ∧ match gets ρ2 hs, gets ρ2 gs with
  | some ds, some es => sp ((pm ds es).map S.v) (fun r _ => (bor ρ2 (hs ++ gs) = true → r.imm = true) ∧ R r ρ2) fun C f d _ => (bor ρ2 (hs ++ gs) = true → d.imm = true) ∧ xc C f d ρ2
  | _, _ => False
def tMkK (C : Addr) (n m : Nat) (sp : Sp) (gV : List V → List V → List V) (E : St → XK) (t tk : TA) : TE := fun σ H Q => t σ H fun vs H1 => tk σ H1 fun zs H2 => vs.length = n ∧ zs.length = m ∧
  ∀ y dy, H2 y = none → H2 dy = none → dy ≠ y → ∃ ws, gV (.ref y :: vs) zs = .ref y :: ws ∧ sp (.ref y :: ws) (upd (upd H2 dy (.own y)) y (.ins C dy [])) (fun v H3 => v = .non ∧ Q (.ref y) H3) (E σ)
theorem mkK_le {tm : List (Addr × List V)} {n m : Nat} {pm : List D → List D → List D} {gW : List V → List V → List V} {gV : List V → List V → List V} {tk : DAT} (hg : ∀ y vs zs, gV (.ref y :: vs) zs = .ref y :: gW vs zs) (hrel : ∀ {H : Hp} {vs zs : List V} {ds es : List D}, vs.length = n → zs.length = m → Reps X.K H vs ds → Reps X.K H zs es → Reps X.K H (gW vs zs) (pm ds es))
    {σ : St} {H : Hp} {Q : VK} (h : LE (Γ.at tm) X.K (dCallKX xc n m sp pm ta tk) σ H Q) : tMkK (He.ga X.K C) n m (spNew X.K C sp) gV (WE (wX Γ X.K xc)) (LA (Γ.at tm) X.K ta) (LA (Γ.at tm) X.K tk) σ H Q := by
  obtain ⟨H0, ρ, R, F, t, k⟩ := h
  refine ⟨H0, ρ, _, F, t, fun hs ρ1 vs Ha Hb q F1 e1 r1 => ⟨Ha, ρ1, _, F1, q, fun gs ρ2 zs H1 H' q F2 e2 r2 => ?_⟩⟩
  obtain ⟨l1, l2, q⟩ := q
  have r1 := r1.mono e2
  refine ⟨by rw [r1.length]; exact l1, by rw [r2.length]; exact l2, ?_⟩
  split at q
  · rename_i ds es g1 g2
    intro y dy ny ndy hne
    have hB : Lent σ ρ2 (lentOf σ ρ2 (hs ++ gs)) := lentOf_lent _
    have a1 := F2.lendReps hB r1 g1 fun p z => lentOf_app (.inl z)
    have a2 := F2.lendReps hB r2 g2 fun p z => lentOf_app (.inr z)
    exact ⟨gW vs zs, hg y vs zs, mk_core F2 (hrel (by rw [r1.length]; exact l1) (by rw [r2.length]; exact l2) a1 a2) q (fun r v H2 H3 q F e z => k r ρ2 v H2 H3 q F ((e1.trans e2).trans e) z) ny ndy hne⟩
  · exact q.elim
end
section
variable {X : Cx} {C f : Addr} {fd : FuncData} {ps : List Str} {sp : Sp} {dvs : List V} {ds : List Value} {E : St → XK} {k : Nat} {CX : CXT} {x : Str} {p pos : Pos} {e : Expr} {es : List Expr} {t : TA}
theorem pe_mkS0 (M : Mk X.K C f) (G : FnOk X.prog X.w X.K X.mg X.base CX k f fd ps sp) (room : Room (k + 1) X.A) (hm : X.mg x = some (.ref C)) (bd : Binds X.K fd ps ds) (vd : Vals dvs ds) (pa : ∀ σ, PassesAt CX X σ (E σ)) (hg : Gl X x) (hdb : (x == ("__debug__" : Str)) = false) : PE X (.Call (.Name x p) [] [] pos) (tMkS C sp dvs E tNil) :=
  ⟨fun pins s σ H Q inv h => wpAny_Call_Name_kw (ld_glob inv hg hm (PySem.W.callWith_K0 inv.kIn M.kp (run_mkS (us := []) M G room bd vd (pa σ) inv .nil h)) hdb)⟩
end
/-- all that the making of a thing wants -/
structure FnM (X : Cx) (x : Str) (k : Nat) (ps : List Str) (sp : DSp) (f : Addr) (fd : FuncData) : Prop where
  ok : FnOk X.prog X.w X.K X.mg X.base (L2.CX X.prog X.w) k f fd ps (spNew X.K x sp)
  mg : X.mg x = some (.ref (He.ga X.K x))
  mak : Mk X.K (He.ga X.K x) f
section
variable {X : Cx} {Γ : Fx} {sp : DSp} {dvs : List V} {dd : List D} {ta : DAT} {xc : DXC} {x : Str} {k : Nat} {ps : List Str} {f : Addr} {fd : FuncData} {p pos : Pos} {e : Expr} {es : List Expr} {ds : List Value}
theorem de_mkX0 (G : FnM X x k ps sp f fd) (hr : Room (k + 1) X.A) (tk : Takes X (wX Γ X.K xc)) (hb : Binds X.K fd ps ds) (hd : Vals dvs ds) (hdd : ∀ H, Reps X.K H dvs dd) (hg : Gl X x := by rfl) (hdb : (x == ("__debug__" : Str)) = false := by decide) : DE X Γ (.Call (.Name x p) [] [] pos) (dCallX xc sp dd daNil) :=
  ⟨fun tm => peLe (pe_mkS0 G.mak G.ok hr G.mg hb hd (fun σ => passAt tk σ) hg hdb) fun σ H Q h => by
    obtain ⟨H0, ρ, R, F, t, k2⟩ := h
    have h2 : LE (Γ.at tm) X.K (dCallX xc sp dd daNil) σ H Q := ⟨H0, ρ, R, F, t, k2⟩
    have := mkX_le (C := x) hdd h2
    obtain ⟨H1, ρ1, R1, F1, t1, k1⟩ := this
    exact k1 [] ρ1 [] H1 H t1 F1 (Same.refl _) .nil⟩
end
/-! ### by keywords -/
section
variable {X : Cx} {C f : Addr} {fd : FuncData} {ps ks : List Str} {sp : Sp} {E : St → XK} {k n : Nat} {CX : CXT} {x : Str} {p pos : Pos} {e : Expr} {es : List Expr} {kws : List Keyword} {t tk : TA} {g : List Value → List Value → List Value} {gV : List V → List V → List V}
theorem run_mkK {pins : List (Addr × Obj)} {σ : St} {H : Hp} {s : Shared} {Q : VK} {us ws : List Value} {vs zs : List V} (M : Mk X.K C f) (G : FnOk X.prog X.w X.K X.mg X.base CX k f fd ps sp) (room : Room (k + 1) X.A) (kb : KBn X.K fd ps (n + 1) ks g gV) (pa : PassesAt CX X σ (E σ))
    (inv : Inv X pins σ H s) (rv : Vals vs us) (rz : Vals zs ws) (l1 : vs.length = n) (l2 : zs.length = ks.length) (hyp : ∀ y dy, H y = none → H dy = none → dy ≠ y → ∃ vw, gV (.ref y :: vs) zs = .ref y :: vw ∧ sp (.ref y :: vw) (upd (upd H dy (.own y)) y (.ins C dy [])) (fun v H2 => v = .non ∧ Q (.ref y) H2) (E σ)) :
    wpAny (model X.prog X.w) X.A (call (.ref C) us (ks.zip ws)) (EP X pins σ Q) X.xe s := by
  obtain ⟨y, hy⟩ : ∃ y, y = s.heap.objs.size + 1 := ⟨_, rfl⟩
  obtain ⟨vw, ew, h1⟩ := hyp y s.heap.objs.size (by rw [hy]; exact inv.hok.fresh (Nat.le_succ _)) (inv.hok.fresh (Nat.le_refl _)) (by rw [hy]; exact Nat.ne_of_lt (Nat.lt_succ_self _))
  rw [← ew] at h1
  have inv2 := Inv.made (C := C) inv
  have rv1 : Vals (V.ref y :: vs) (Value.ref y :: us) := .cons rfl rv
  have rv2 := kb.rel rv1 rz
  have len2 : (Value.ref y :: us).length = n + 1 := by rw [← rv1.length, List.length_cons, l1]
  subst hy
  refine wpAny_call (make_map (f := f) inv.kIn M.makes M.init (beq_iff_eq.mp M.fn) (codeAny_mono (G.run _ X.stack _ _ ⟨Value.ref _ :: us, ks.zip ws⟩ (g (Value.ref _ :: us) ws) _ _ (E σ) (room.make C us (ks.zip ws)) (inv2.env0.make C us (ks.zip ws)) (kb.to _ (Value.ref _ :: us) ws inv2.kIn len2 (rz.length.symm.trans l2)) rv2 h1) fun r s' z => ?_))
  match r, z with
  | .error e, z => exact pa pins _ _ e s' inv2 z
  | .ok (.ret u), z =>
    obtain ⟨v, H', inv3, rr, rfl, q⟩ := inv2.after z
    exact ⟨rr, ⟨.ref (s.heap.objs.size + 1), H', inv3, rfl, q⟩⟩
theorem pe_mkK (M : Mk X.K C f) (G : FnOk X.prog X.w X.K X.mg X.base CX k f fd ps sp) (room : Room (k + 1) X.A) (hm : X.mg x = some (.ref C)) (kb : KBn X.K fd ps (n + 1) ks g gV) (pa : ∀ σ, PassesAt CX X σ (E σ)) (ha : PA X (e :: es) t) (hkw : PK X kws tk) (hg : Gl X x) (hdb : (x == ("__debug__" : Str)) = false)
    (hall : (backToKw pos (keywordEach kws X.env)).all (·.1.isSome) = true) (hks : (backToKw pos (keywordEach kws X.env)).filterMap (·.1) = ks) (he : starEach (e :: es) X.env = (false, eval e X.env) :: starEach es X.env) (hpl : ((backTo pos (starEach (e :: es) X.env)).any (·.1) || (backToKw pos (keywordEach kws X.env)).any (·.1.isNone)) = false) :
    PE X (.Call (.Name x p) (e :: es) kws pos) (tMkK C n ks.length sp gV E t tk) :=
  ⟨fun pins s σ H Q inv h => wpAny_Call_Name_kw (ld_glob inv hg hm (PySem.W.callWith_KW (h₀ := X.base) inv.ok.mod.kin M.kp hall (thn (ha.run pos pins s σ H _ inv h) fun us s1 ⟨vs, H1, inv1, r, q⟩ =>
    thn (hkw.run pos pins s1 σ H1 _ inv1 q) fun ws s2 ⟨zs, H2, inv2, rz, l1, l2, q2⟩ => ⟨inv2.kIn, by rw [hks]; exact run_mkK M G room kb (pa σ) inv2 r rz l1 l2 q2⟩) hpl he) hdb)⟩
end
/-- how the making by keywords binds, over data too -/
structure KwM (K : PySem.W.Frag) (fd : FuncData) (ps : List Str) (n : Nat) (ks : List Str) (pm : List D → List D → List D) : Prop where
  ex : ∃ (g : List Value → List Value → List Value) (gV gW : List V → List V → List V), KBn K fd ps (n + 1) ks g gV ∧ (∀ y vs zs, gV (.ref y :: vs) zs = .ref y :: gW vs zs) ∧ ∀ {H : Hp} {vs zs : List V} {ds es : List D}, vs.length = n → zs.length = ks.length → Reps K H vs ds → Reps K H zs es → Reps K H (gW vs zs) (pm ds es)
section
variable {X : Cx} {Γ : Fx} {sp : DSp} {ta tk : DAT} {xc : DXC} {x : Str} {k n : Nat} {ps ks : List Str} {f : Addr} {fd : FuncData} {p pos : Pos} {e : Expr} {es : List Expr} {kws : List Keyword} {pm : List D → List D → List D}
end
/-! ### e.f -/
theorem RepF.look {K : PySem.W.Frag} {H : Hp} {f : Str} {d : D} : ∀ {fs : List (Str × V)} {gs : List (Str × D)}, RepF K H fs gs → gs.lookup f = some d → ∃ v, fs.lookup f = some v ∧ Rep K H v d
  | _, _, .nil, h => by cases h
  | _, _, .cons (f := g) r t, h => by
    rw [List.lookup_cons] at h
    cases q : f == g with
    | true =>
      rw [q] at h
      cases h
      exact ⟨_, by rw [List.lookup_cons, q], r⟩
    | false =>
      rw [q] at h
      obtain ⟨v, h1, h2⟩ := RepF.look t h
      exact ⟨v, by rw [List.lookup_cons, q]; exact h1, h2⟩
def dFld (C f : Str) (t : DHT) : DT := fun ρ R => t ρ fun h ρ1 => match h.get ρ1 with
  | some (.ins C' gs) => C' = C ∧ (match gs.lookup f with
    | some d => R (.v d) ρ1
    | none => False)
  | _ => False
theorem de_fld {X : Cx} {Γ : Fx} {C f : Str} {e : Expr} {t : DHT} {pos : Pos} (hc : Cls X.K (He.ga X.K C)) (hn : NoAttr X.K (He.ga X.K C) f) (he : DH X Γ e t) (hb : attributeBase e f X.env (eval e X.env) = eval e X.env := by rfl) : DE X Γ (.Attribute e f pos) (dFld C f t) :=
  ⟨fun tm => peLe (pe_fld (he.run tm) hb) fun σ H Q ⟨H0, ρ, R, F, t, k⟩ => ⟨H0, ρ, _, F, t, fun h ρ1 v H1 H' q F1 e1 r1 => by
    split at q
    · rename_i C' gs g
      obtain ⟨rfl, q⟩ := q
      split at q
      · rename_i d hd
        have r2 := (F1.top r1 g).other (by simp)
        cases r2 with
        | ins h1 rf =>
          obtain ⟨w, l1, l2⟩ := rf.look hd
          exact ⟨_, _, _, _, w, rfl, F1.sub _ _ h1, hc, hn, l1, k _ ρ1 w H1 H' q F1 e1 l2⟩
      · exact q.elim
    · exact q.elim⟩⟩
end DL

/-! DL22: own classes' facts, isinstance of them, in, star targets, slices with a step, calls with defaults, methods. -/
namespace DL
open PySem PySem.Spec PyProof.Rows L2
/-! ### a class -/
structure ClsC (K : PySem.W.Frag) (C : Str) : Prop where
  cls : Cls K (He.ga K C)
  mak : Mk K (He.ga K C) (He.ma K (He.ga K C) "__init__")
  ca : PySem.W.findIn K (.ref (He.ga K C)) "__class__" = some (some (.builtin "object.__class__"))
  mro : PySem.W.mroIn K (He.ga K C) (.type "object") = some true
  own : PySem.W.kitOne K (.ref (He.ga K C)) (.ref (He.ga K C)) = some true
  oth : ∀ c : TyC, PySem.W.kitOne K (.type c.nm) (.ref (He.ga K C)) = some false
  bas : ∀ c : TyC, c.cl = true → PySem.W.kitOne K (.ref (He.ga K C)) (.type c.nm) = some false
def allTy : List TyC := [.none, .bool, .int, .str, .list, .tuple]
theorem TyC.mem (c : TyC) : c ∈ allTy := by
  unfold allTy
  cases c <;> simp
def clsB (C : Str) (K : PySem.W.Frag) : Bool :=
  PySem.W.plainGet K (He.ga K C) Str.empty && (PySem.W.hasDictIn K (He.ga K C) && (PySem.W.plainOver K (He.ga K C) && (decide (PySem.W.findIn K (.ref (He.ga K C)) "__setattr__" = some (some (.builtin "object.__setattr__"))) &&
  (PySem.W.makesIn K (He.ga K C) && (decide (PySem.W.findIn K (.ref (He.ga K C)) "__init__" = some (some (.ref (He.ma K (He.ga K C) "__init__")))) && (PySem.W.isFn K (.ref (He.ma K (He.ga K C) "__init__")) && (PySem.W.keepIn K (.ref (He.ga K C)) &&
  (decide (PySem.W.findIn K (.ref (He.ga K C)) "__class__" = some (some (.builtin "object.__class__"))) && (decide (PySem.W.mroIn K (He.ga K C) (.type "object") = some true) && (decide (PySem.W.kitOne K (.ref (He.ga K C)) (.ref (He.ga K C)) = some true) &&
  ((allTy.all fun c => decide (PySem.W.kitOne K (.type c.nm) (.ref (He.ga K C)) = some false)) && (allTy.all fun c => !c.cl || decide (PySem.W.kitOne K (.ref (He.ga K C)) (.type c.nm) = some false)))))))))))))
theorem clsB_ok {C : Str} {K : PySem.W.Frag} (h : clsB C K = true) : ClsC K C := by
  unfold clsB at h
  simp only [Bool.and_eq_true, decide_eq_true_eq, List.all_eq_true] at h
  obtain ⟨h1, h2, h3, h4, h5, h6, h7, h8, h9, h10, h11, h12, h13⟩ := h
  refine ⟨⟨h1, h2, h3, h4⟩, ⟨h5, h6, h7, h8⟩, h9, h10, h11, fun c => h12 c c.mem, fun c hc => ?_⟩
  have := h13 c c.mem
  rw [hc] at this
  simpa using this
def fldB (C f : Str) (K : PySem.W.Frag) : Bool := decide (PySem.W.findIn K (.ref (He.ga K C)) f = some none)
theorem fldB_ok {C f : Str} {K : PySem.W.Frag} (h : fldB C f K = true) : NoAttr K (He.ga K C) f := by
  unfold fldB at h
  exact of_decide_eq_true (p := PySem.W.findIn K (.ref (He.ga K C)) f = some none) h
def metB (C m : Str) (K : PySem.W.Frag) : Bool := decide (PySem.W.findIn K (.ref (He.ga K C)) m = some (some (.ref (He.ma K (He.ga K C) m)))) && (PySem.W.isFn K (.ref (He.ma K (He.ga K C) m)) && PySem.W.keepIn K (.ref (He.ma K (He.ga K C) m)))
theorem metB_ok {C m : Str} {K : PySem.W.Frag} (h : metB C m K = true) : Meth K (He.ga K C) m (He.ma K (He.ga K C) m) := by
  unfold metB at h
  simp only [Bool.and_eq_true, decide_eq_true_eq] at h
  exact ⟨h.1, h.2.1, h.2.2⟩
/-! ### isinstance(x, C) -/
section
variable {X : Cx} {Γ : Fx}
def isoD (C : Str) (x : D) (R : S → Prop) : Prop := match x with
  | .ins C' _ => C' = C ∧ R (.v (.bl true))
  | x => match tyC x with
    | some _ => R (.v (.bl false))
    | none => False
def isoCD (C : Str) : List D → (S → Prop) → Prop
  | [x, .cls C'], R => C' = C ∧ isoD C x R
  | _, _ => False
theorem tyX_ins {K : PySem.W.Frag} {H0 H : Hp} {v : V} {C : Str} {gs : List (Str × D)} (T : ClsC K C) (e : Same H0 H) (t : Top K H0 H v (.ins C gs)) : TyX K H v (.ref (He.ga K C)) := by
  cases t with
  | rep r =>
    cases r with
    | ins hp _ => exact .base (.ins (e _ _ hp) T.cls T.ca (clsGet K) (clsTakes K) T.mro)
theorem o_iso {C : Str} (T : ClsC X.K C) : OpN X (rIsi X.K) (isoCD C) := by
  intro Γ H0 σ ρ H xs as R Q F t h k
  unfold isoCD at h
  split at h
  · obtain ⟨v, u, rfl, t1, t2⟩ := t.two
    cases t2.cls
    obtain ⟨rfl, h⟩ := h
    unfold isoD at h
    split at h
    · obtain ⟨rfl, h⟩ := h
      exact ⟨_, _, _, _, _, rfl, .own _, tyX_ins T F.sub t1, T.own, k _ _ H0 H h F (Same.refl _) (Rep.bl _)⟩
    · split at h
      · rename_i c q
        exact ⟨_, _, _, _, _, rfl, .own _, tyX_of F.sub t1 q, T.oth c, k _ _ H0 H h F (Same.refl _) (Rep.bl _)⟩
      · exact h.elim
  · exact h.elim
/-- isinstance(x, T) of a thing that may be an instance of C -/
def isiO (C : Str) : List D → (S → Prop) → Prop
  | [.ins C' _, .ty b], R => C' = C ∧ b.cl = true ∧ R (.v (.bl false))
  | as, R => isiD as R
/-! ### in -/
def flatD : D → Bool
  | .non => true
  | .bl _ => true
  | .int _ => true
  | .str _ => true
  | _ => false
def eqF : D → D → Bool
  | .non, .non => true
  | .bl a, .bl b => a == b
  | .bl a, .int b => (if a then 1 else 0) == b
  | .int a, .bl b => a == (if b then 1 else 0)
  | .int a, .int b => a == b
  | .str a, .str b => a == b
  | _, _ => false
def inF (x : D) : List D → Bool
  | [] => false
  | y :: r => eqF y x || inF x r
def allFlat : List D → Bool
  | [] => true
  | d :: r => flatD d && allFlat r
def inD (neg : Bool) (x y : D) (R : S → Prop) : Prop := flatD x = true ∧ match y with
  | .tup ds => allFlat ds = true ∧ R (.v (.bl (if neg then !inF x ds else inF x ds)))
  | .lst ds => allFlat ds = true ∧ R (.v (.bl (if neg then !inF x ds else inF x ds)))
  | .rol ds => allFlat ds = true ∧ R (.v (.bl (if neg then !inF x ds else inF x ds)))
  | _ => False
end
/-! ### a, b, *c = a tuple -/
section
variable {X : Cx} {pos : Pos} {Γ : Fx}
def gStarT (K : PySem.W.Frag) (i : Nat) (t : TGs) : TG := fun v σ H Q => ∃ a xs, v = .ref a ∧ SqT K H a xs ∧ i ≤ xs.length ∧ xs.length ≤ 16384 ∧ ∀ p, H p = none → t (xs.take i ++ [.ref p]) σ (upd H p (.lst (xs.drop i))) Q
/-- a, b, *c = a tuple -/
def gS (i : Nat) (u : DGTs) : DGT := fun r ρ R => match r with
  | .v (.tup ds) => i ≤ ds.length ∧ ds.length ≤ 16384 ∧ u (ds.take i ++ [.lst (ds.drop i)]) ρ R
  | _ => False
end
/-! ### slices with a step -/
section
variable {X : Cx} {Γ : Fx}
def pickS {α : Type} (ds : List α) (lo hi st : Option Int) : List α := (sliceRange (sliceBounds lo hi st ds.length).1 (sliceBounds lo hi st ds.length).2.1 (sliceBounds lo hi st ds.length).2.2).filterMap (ds[·]?)
def rSlC (K : PySem.W.Frag) : V → Option Int → Option Int → Option Int → Hp → VK → Prop := fun x lo hi st H Q => ∃ a xs, x = .ref a ∧ SqL K H a xs ∧ st ≠ some 0 ∧ ∀ p, H p = none → Q (.ref p) (upd H p (.lst (pickS xs lo hi st)))
def tSlC (K : PySem.W.Frag) (te : TE) (tl th ts : TO) : TE := fun σ H Q => te σ H fun x H1 => tl σ H1 fun lo H2 => th σ H2 fun hi H3 => ts σ H3 fun st H4 => rSlC K x lo hi st H4 Q
/-- xs[a:b:c] of a list -/
def dSlC (te : DHT) (tl th ts : DPT) : DT := fun ρ R => te ρ fun a ρ1 => tl ρ1 fun lo ρ2 => th ρ2 fun hi ρ3 => ts ρ3 fun st ρ4 => st ≠ some 0 ∧ match a.get ρ4 with
  | some (.lst ds) => R (.o (pickS ds lo hi st)) ρ4
  | some (.rol ds) => R (.o (pickS ds lo hi st)) ρ4
  | _ => False
end
end DL

/-! DL23: calls with defaults and keywords of defs that may raise; methods. -/
namespace DL
open PySem L2
/-! ### binding -/
/-- the values by place (left; behind them the defaults) and by name (right) in the parameters' order -/
def pickP {α : Type} : List (Nat ⊕ Nat) → List α → List α → List α
  | [], _, _ => []
  | .inl i :: r, l, m => match l[i]? with
    | some x => x :: pickP r l m
    | none => pickP r l m
  | .inr i :: r, l, m => match m[i]? with
    | some x => x :: pickP r l m
    | none => pickP r l m
theorem pickP_vals {vs zs : List V} {us ws : List Value} (r1 : Vals vs us) (r2 : Vals zs ws) : ∀ ix : List (Nat ⊕ Nat), Vals (pickP ix vs zs) (pickP ix us ws)
  | [] => .nil
  | .inl i :: r => by
    have ih := pickP_vals r1 r2 r
    unfold pickP
    cases q : vs[i]? with
    | none => rw [r1.none_of q]; exact ih
    | some v =>
      obtain ⟨u, h1, h2⟩ := r1.get q
      rw [h1]
      exact .cons h2 ih
  | .inr i :: r => by
    have ih := pickP_vals r1 r2 r
    unfold pickP
    cases q : zs[i]? with
    | none => rw [r2.none_of q]; exact ih
    | some v =>
      obtain ⟨u, h1, h2⟩ := r2.get q
      rw [h1]
      exact .cons h2 ih
theorem Reps.none_of {K : PySem.W.Frag} {H : Hp} {vs : List V} {ds : List D} {i : Nat} (r : Reps K H vs ds) (q : vs[i]? = none) : ds[i]? = none := by
  rw [List.getElem?_eq_none_iff] at q ⊢
  rw [← r.length]; exact q
theorem pickP_reps {K : PySem.W.Frag} {H : Hp} {vs zs : List V} {us ws : List D} (r1 : Reps K H vs us) (r2 : Reps K H zs ws) : ∀ ix : List (Nat ⊕ Nat), Reps K H (pickP ix vs zs) (pickP ix us ws)
  | [] => .nil
  | .inl i :: r => by
    have ih := pickP_reps r1 r2 r
    unfold pickP
    cases q : vs[i]? with
    | none => rw [r1.none_of q]; exact ih
    | some v =>
      obtain ⟨u, h1, h2⟩ := r1.getV q
      rw [h1]
      exact .cons h2 ih
  | .inr i :: r => by
    have ih := pickP_reps r1 r2 r
    unfold pickP
    cases q : zs[i]? with
    | none => rw [r2.none_of q]; exact ih
    | some v =>
      obtain ⟨u, h1, h2⟩ := r2.getV q
      rw [h1]
      exact .cons h2 ih
section
variable {K : PySem.W.Frag} {nm qual : Str} {params : Arguments} {body : List Stmt} {scope : Scope} {dvs : List V} {kws : List (Str × V)} {f : Addr} {fd : FuncData} {ps : List Str}
/-- constants -/
inductive CD : V → D → Prop
  | non : CD .non .non
  | bl (b : Bool) : CD (.bl b) (.bl b)
  | int (i : Int) : CD (.int i) (.int i)
  | str (x : Str) : CD (.str x) (.str x)
inductive CDs : List V → List D → Prop
  | nil : CDs [] []
  | cons {v : V} {d : D} {vs : List V} {ds : List D} : CD v d → CDs vs ds → CDs (v :: vs) (d :: ds)
theorem CDs.reps {vs : List V} {ds : List D} (h : CDs vs ds) (H : Hp) : Reps K H vs ds := by
  induction h with
  | nil => exact .nil
  | cons c _ ih =>
    refine .cons ?_ ih
    cases c with
    | non => exact .non
    | bl b => exact .bl b
    | int i => exact .int i
    | str x => exact .str x
/-- keyword-only defaults alone -/
theorem kwD0 (F : FunD K nm qual params body scope [] kws f fd) (n : Nat) (ks : List Str) (ms : List (Str × V)) (ix : List (Nat ⊕ Nat)) {dd : List D} (hdd : CDs (ms.map (·.2)) dd) (hk : kws ≠ []) (hms : ∀ q ∈ ms, q ∈ kws)
    (h : ∀ (D : Addr) (doc pm : Value) (an : Option Addr) (cdv ct : Value) (us mv ws : List Value), us.length = n → mv.length = ms.length → ws.length = ks.length →
      KwChain D ((ms.map (·.1)).zip mv) (bindArgs (PySem.W.fnOf nm qual params body scope .none (.ref D) doc pm an cdv ct) ⟨us, ks.zip ws⟩) (ps.zip (pickP ix (us ++ mv) ws))) : KwB K fd ps n ks (fun ds es => pickP ix (ds ++ dd) es) := by
  obtain ⟨mv, kb⟩ := F.kbinds0 n ks ms (fun us mv ws => pickP ix (us ++ mv) ws) hk hms (fun r1 r2 r3 => pickP_vals (r1.append r2) r3 ix) h
  exact ⟨_, _, kb, fun {H vs zs ds es} _ _ r1 r2 => pickP_reps (r1.append (hdd.reps H)) r2 ix⟩
/-- no defaults -/
theorem kwDN (F : FunD K nm qual params body scope [] kws f fd) (n : Nat) (ks : List Str) (ix : List (Nat ⊕ Nat))
    (h : ∀ (kV doc pm : Value) (an : Option Addr) (cdv ct : Value) (us ws : List Value), us.length = n → ws.length = ks.length → bindArgs (PySem.W.fnOf nm qual params body scope .none kV doc pm an cdv ct) ⟨us, ks.zip ws⟩ = pure (ps.zip (pickP ix us ws))) : KwB K fd ps n ks (fun ds es => pickP ix ds es) := by
  obtain ⟨oc, od, dV, kV, doc, pm, an, cdv, ct, osl, rfl, lk, hcd, hD, hK⟩ := F.ex
  rcases hD with ⟨_, rfl⟩ | ⟨e, _⟩
  · exact ⟨_, _, ⟨fun s us ws X l1 l2 => .of_eq (h kV doc pm an cdv ct us ws l1 l2), fun r1 r2 => pickP_vals r1 r2 ix⟩, fun {H vs zs ds es} _ _ r1 r2 => pickP_reps r1 r2 ix⟩
  · exact absurd rfl e
/-- from a def's binding to a thing's making: self is the first by place -/
theorem KwB.mkM {n : Nat} {ks : List Str} {ix : List (Nat ⊕ Nat)} {dd : List D} (b : ∃ g gV, KBn K fd ps (n + 1) ks g gV ∧ ∃ dv : List V, CDs dv dd ∧ ∀ vs zs, gV vs zs = pickP (.inl 0 :: ix.map (Sum.map (· + 1) id)) (vs ++ dv) zs) : KwM K fd ps n ks (fun ds es => pickP ix (ds ++ dd) es) := by
  obtain ⟨g, gV, kb, dv, hd, e⟩ := b
  have sh : ∀ (y : V) (l zs : List V) (ix : List (Nat ⊕ Nat)), pickP (ix.map (Sum.map (· + 1) id)) (y :: l) zs = pickP ix l zs := by
    intro y l zs ix
    induction ix with
    | nil => rfl
    | cons i r ih =>
      cases i with
      | inl i =>
        simp only [List.map_cons, Sum.map_inl, pickP, List.getElem?_cons_succ, ih]
      | inr i =>
        simp only [List.map_cons, Sum.map_inr, pickP, id, ih]
  refine ⟨g, gV, fun vs zs => pickP ix (vs ++ dv) zs, kb, fun y vs zs => ?_, fun {H vs zs ds es} _ _ r1 r2 => pickP_reps (r1.append (hd.reps H)) r2 ix⟩
  rw [e]
  show pickP _ (V.ref y :: (vs ++ dv)) zs = _
  rw [pickP]
  simp only [List.getElem?_cons_zero]
  rw [sh]
theorem kwM (F : FunD K nm qual params body scope dvs kws f fd) (n : Nat) (ks : List Str) (ms : List (Str × V)) (ix : List (Nat ⊕ Nat)) {dd : List D} (hdd : CDs (dvs ++ ms.map (·.2)) dd) (hd : dvs ≠ []) (hk : kws ≠ []) (hms : ∀ q ∈ ms, q ∈ kws)
    (h : ∀ (T D : Addr) (doc pm : Value) (an : Option Addr) (cdv ct : Value) (us its mv ws : List Value), us.length = n + 1 → its.length = dvs.length → mv.length = ms.length → ws.length = ks.length →
      ∃ k, bindArgs (PySem.W.fnOf nm qual params body scope (.ref T) (.ref D) doc pm an cdv ct) ⟨us, ks.zip ws⟩ = seqItems? (.ref T) >>= k ∧ KwChain D ((ms.map (·.1)).zip mv) (k (some its.toArray)) (ps.zip (pickP (.inl 0 :: ix.map (Sum.map (· + 1) id)) (us ++ (its ++ mv)) ws))) : KwM K fd ps n ks (fun ds es => pickP ix (ds ++ dd) es) := by
  obtain ⟨its, mv, kb⟩ := F.kbinds (n + 1) ks ms (fun us its mv ws => pickP (.inl 0 :: ix.map (Sum.map (· + 1) id)) (us ++ (its ++ mv)) ws) hd hk hms (fun r1 r2 r3 r4 => pickP_vals (r1.append (r2.append r3)) r4 _) h
  exact KwB.mkM ⟨_, _, kb, _, hdd, fun _ _ => rfl⟩
end
/-! ### f(.., k = v) of a def that may raise -/
section
variable {X : Cx} {Γ : Fx} {sp : DSp} {ta tk : DAT} {xc : DXC}
/-- the call itself, over data -/
theorem callX_core {tm : List (Addr × List V)} {σ : St} {ρ1 : Rho} {H1 H' : Hp} {hs : List Hd} {ws : List V} {dw : List D} {R : S → Rho → Prop} {Q : VK} (F1 : Fit (Γ.at tm) X.K H1 σ ρ1 H') (rp : Reps X.K (lendB H1 H' (lentOf σ ρ1 hs)) ws dw)
    (q : sp (dw.map S.v) (fun r _ => (bor ρ1 hs = true → r.imm = true) ∧ R r ρ1) fun C f d _ => (bor ρ1 hs = true → d.imm = true) ∧ xc C f d ρ1) (k : ∀ r v H2 H3, R r ρ1 → Fit (Γ.at tm) X.K H2 σ ρ1 H3 → Same H1 H2 → RRep (Γ.at tm) X.K H2 σ ρ1 H3 v r → Q v H3) :
    LSp X.K sp ws H' Q (WE (wX Γ X.K xc) σ) := by
  have hB : Lent σ ρ1 (lentOf σ ρ1 hs) := lentOf_lent hs
  obtain ⟨s1, s2⟩ := F1.lendSub hB
  refine ⟨lendB H1 H' (lentOf σ ρ1 hs), _, _, _, s2, rp.areps (H := H'), by rw [cntM_v]; exact Nat.zero_le _, q, fun r es v H2 H3 q2 st _ rs => ?_, fun C f d es e v H2 H3 q2 st _ he h2e h3e rd => ?_⟩
  · rw [mpOf_v] at st
    obtain ⟨F3, e3, hl⟩ := F1.behind hB st.sub st.top (fun a o z => st.keep a o z (by simp)) st.new
    refine k r v _ H3 q2.2 F3 e3 ?_
    have off : ∀ {v : V} {d : D}, Rep X.K H2 v d → (bor ρ1 hs = true → d.imm = true) → Rep X.K (offB H2 (lentOf σ ρ1 hs)) v d := fun {v d} r0 im => by
      cases q0 : lentOf σ ρ1 hs with
      | nil => rw [offB_nil]; exact r0
      | cons p ps =>
        rw [← q0]
        exact r0.off hl (im (bor_of (by rw [q0]; exact List.mem_cons_self)))
    have offs : ∀ {v : List V} {d : List D}, Reps X.K H2 v d → (bor ρ1 hs = true → immL d = true) → Reps X.K (offB H2 (lentOf σ ρ1 hs)) v d := fun {v d} r0 im => by
      cases q0 : lentOf σ ρ1 hs with
      | nil => rw [offB_nil]; exact r0
      | cons p ps =>
        rw [← q0]
        exact r0.off hl (im (bor_of (by rw [q0]; exact List.mem_cons_self)))
    cases r with
    | v d => exact off rs fun z => q2.1 z
    | m ds => exact rs
    | o ds =>
      obtain ⟨p, rfl, ⟨g1, xs, g2, g3⟩, g4⟩ := rs
      exact ⟨p, rfl, ⟨offB_sub.free g1, xs, g2, offs g3 fun z => q2.1 z⟩, F1.noneS g4, F1.noTmp g4, F1.noSlot g4, F1.noX g4⟩
    | x x G => exact F1.resX hl (fun z => q2.1 (bor_ne z)) rs
  · rw [mpOf_v] at st
    obtain ⟨F3, e3, hl⟩ := F1.behind hB st.sub st.top (fun a o z => st.keep a o z (by simp)) st.new
    refine ⟨offB H2 (lentOf σ ρ1 hs), ρ1, C, f, d, e, v, rfl, rfl, F3.tmSub (fun q z => by cases z), h3e, offB_sub.free h2e, F1.noneS he, ?_, q2.2⟩
    cases q0 : lentOf σ ρ1 hs with
    | nil => rw [offB_nil]; exact rd
    | cons p ps =>
      rw [← q0]
      exact rd.off hl (q2.1 (bor_of (by rw [q0]; exact List.mem_cons_self)))
def tCallKS (n m : Nat) (sp : Sp) (gV : List V → List V → List V) (E : St → XK) (t tk : TA) : TE := fun σ H Q => t σ H fun vs H1 => tk σ H1 fun zs H2 => vs.length = n ∧ zs.length = m ∧ sp (gV vs zs) H2 Q (E σ)
theorem run_fnKS {CX : CXT} {k n : Nat} {f : Addr} {fd : FuncData} {ps ks : List Str} {sp : Sp} {E : St → XK} {g : List Value → List Value → List Value} {gV : List V → List V → List V} {pins : List (Addr × Obj)} {σ : St} {H : Hp} {s : Shared} {Q : VK} {us ws : List Value} {vs zs : List V} (F : FnOk X.prog X.w X.K X.mg X.base CX k f fd ps sp) (hr : Room k X.A) (hb : KBn X.K fd ps n ks g gV) (hx : PassesAt CX X σ (E σ))
    (I : Inv X pins σ H s) (r : Vals vs us) (rz : Vals zs ws) (l1 : vs.length = n) (l2 : zs.length = ks.length) (h : sp (gV vs zs) H Q (E σ)) : wpAny (model X.prog X.w) X.A (call (.ref f) us (ks.zip ws)) (EP X pins σ Q) X.xe s := by
  have r2 := hb.rel r rz
  refine wpAny_call (codeAny_mono (F.run X.A X.stack s H ⟨us, ks.zip ws⟩ (g us ws) (gV vs zs) Q (E σ) hr I.env0 (hb.to s us ws I.kIn (r.length.symm.trans l1) (rz.length.symm.trans l2)) r2 h) fun r s' hq => ?_)
  cases r with
  | error e => exact hx pins H s e s' I hq
  | ok fl =>
    cases fl with
    | ret u => exact I.after hq
    | next => exact False.elim hq
    | brk => exact False.elim hq
    | cont => exact False.elim hq
section
variable {CX : CXT} {k n : Nat} {f : Addr} {fd : FuncData} {ps ks : List Str} {s0 : Sp} {E : St → XK} {x : Str} {p pos : Pos} {e : Expr} {es : List Expr} {kws : List Keyword} {t u : TA} {g : List Value → List Value → List Value} {gV : List V → List V → List V}
theorem pe_callKS0 (F : FnOk X.prog X.w X.K X.mg X.base CX k f fd ps s0) (hr : Room k X.A) (hg : Gl X x) (hm : X.mg x = some (.ref f)) (hk : PySem.W.keepIn X.K (.ref f) = true) (hb : KBn X.K fd ps 0 ks g gV) (hx : ∀ σ, PassesAt CX X σ (E σ))
    (hkw : PK X kws u) (hall : (backToKw pos (keywordEach kws X.env)).all (·.1.isSome) = true) (hks : (backToKw pos (keywordEach kws X.env)).filterMap (·.1) = ks)
    (hdb : (x == ("__debug__" : Str)) = false) (hpl : ((backTo pos (starEach [] X.env)).any (·.1) || (backToKw pos (keywordEach kws X.env)).any (·.1.isNone)) = false) :
    PE X (.Call (.Name x p) [] kws pos) (tCallKS 0 ks.length s0 gV E tNil u) :=
  ⟨fun pins s σ H Q inv h => wpAny_Call_Name_kw (ld_glob inv hg hm (PySem.W.callWith_KW0 (h₀ := X.base) inv.ok.mod.kin hk hall (thn (hkw.run pos pins s σ H _ inv h) fun ws s2 ⟨zs, H2, inv2, rz, l1, l2, q2⟩ => ⟨inv2.kIn, by rw [hks]; exact run_fnKS (us := []) (vs := []) F hr hb (hx σ) inv2 .nil rz rfl l2 q2⟩) hpl) hdb)⟩
end
theorem callKX_le {tm : List (Addr × List V)} {n m : Nat} {pm : List D → List D → List D} {gV : List V → List V → List V} (hrel : ∀ {H : Hp} {vs zs : List V} {ds es : List D}, vs.length = n → zs.length = m → Reps X.K H vs ds → Reps X.K H zs es → Reps X.K H (gV vs zs) (pm ds es))
    {σ : St} {H : Hp} {Q : VK} (h : LE (Γ.at tm) X.K (dCallKX xc n m sp pm ta tk) σ H Q) : tCallKS n m (LSp X.K sp) gV (WE (wX Γ X.K xc)) (LA (Γ.at tm) X.K ta) (LA (Γ.at tm) X.K tk) σ H Q := by
  obtain ⟨H0, ρ, R, F, t, k⟩ := h
  refine ⟨H0, ρ, _, F, t, fun hs ρ1 vs Ha Hb q F1 e1 r1 => ⟨Ha, ρ1, _, F1, q, fun gs ρ2 zs H1 H' q F2 e2 r2 => ?_⟩⟩
  obtain ⟨l1, l2, q⟩ := q
  have r1 := r1.mono e2
  refine ⟨by rw [r1.length]; exact l1, by rw [r2.length]; exact l2, ?_⟩
  split at q
  · rename_i ds es g1 g2
    have hB : Lent σ ρ2 (lentOf σ ρ2 (hs ++ gs)) := lentOf_lent _
    have a1 := F2.lendReps hB r1 g1 fun p z => lentOf_app (.inl z)
    have a2 := F2.lendReps hB r2 g2 fun p z => lentOf_app (.inr z)
    exact callX_core F2 (hrel (by rw [r1.length]; exact l1) (by rw [r2.length]; exact l2) a1 a2) q (fun r v H2 H3 q F e z => k r ρ2 v H2 H3 q F ((e1.trans e2).trans e) z)
  · exact q.elim
section
variable {x : Str} {k n : Nat} {ps ks : List Str} {f : Addr} {fd : FuncData} {p pos : Pos} {e : Expr} {es : List Expr} {kws : List Keyword} {pm : List D → List D → List D}
theorem de_callKX0 (G : FnX X x k ps sp f fd) (hr : Room k X.A) (tx : Takes X (wX Γ X.K xc)) (hb : KwB X.K fd ps 0 ks pm) (hkw : DK X Γ kws tk) (hall : (backToKw pos (keywordEach kws X.env)).all (·.1.isSome) = true := by rfl)
    (hks : (backToKw pos (keywordEach kws X.env)).filterMap (·.1) = ks := by rfl) (hg : Gl X x := by rfl) (hdb : (x == ("__debug__" : Str)) = false := by decide)
    (hpl : ((backTo pos (starEach [] X.env)).any (·.1) || (backToKw pos (keywordEach kws X.env)).any (·.1.isNone)) = false := by rfl) : DE X Γ (.Call (.Name x p) [] kws pos) (dCallKX xc 0 ks.length sp pm daNil tk) := by
  obtain ⟨g, gV, b, hrel⟩ := hb.ex
  refine ⟨fun tm => peLe (pe_callKS0 G.ok hr hg G.mg G.kp b (fun σ => passAt tx σ) (hkw.run tm) hall hks hdb hpl) fun σ H Q h => ?_⟩
  obtain ⟨Ha, ρa, Ra, Fa, ta', ka⟩ := callKX_le hrel h
  exact ka [] ρa [] Ha H ta' Fa (Same.refl _) .nil
end
/-! ### o.m(..) -/
def tMethSD (C : Addr) (m : Str) (sp : Sp) (dvs : List V) (E : St → XK) (ta : TE) (t : TA) : TE := fun σ H Q => ta σ H fun x H1 => ∃ a dx fs, x = .ref a ∧ H1 a = some (.ins C dx fs) ∧ fs.lookup m = none ∧ t σ H1 fun vs H2 => sp (x :: vs ++ dvs) H2 Q (E σ)
section
variable {CX : CXT} {k : Nat} {f C : Addr} {fd : FuncData} {ps : List Str} {s0 : Sp} {dvs : List V} {ds : List Value} {E : St → XK} {m : Str} {pos apos : Pos} {e o : Expr} {es : List Expr} {to : TE} {t : TA}
end
/-- o is an instance of C that has no field m -/
def insOk (C m : Str) : Option D → Prop
  | some (.ins C' gs) => C' = C ∧ gs.lookup m = none
  | _ => False
def dMeth (xc : DXC) (C m : Str) (sp : DSp) (dd : List D) (to : DHT) (ta : DAT) : DT := fun ρ R => to ρ fun h ρ1 => insOk C m (h.get ρ1) ∧ ta ρ1 fun hs ρ2 => match gets ρ2 (h :: hs) with
  | some ds => sp ((ds ++ dd).map S.v) (fun r _ => (bor ρ2 (h :: hs) = true → r.imm = true) ∧ R r ρ2) fun C f d _ => (bor ρ2 (h :: hs) = true → d.imm = true) ∧ xc C f d ρ2
  | none => False
/-- all that a method's call wants -/
structure MtD (X : Cx) (CX : CXT) (C m : Str) (k : Nat) (ps : List Str) (sp : DSp) (fd : FuncData) : Prop where
  ok : FnOk X.prog X.w X.K X.mg X.base CX k (He.ma X.K (He.ga X.K C) m) fd ps (LSp X.K sp)
  cls : Cls X.K (He.ga X.K C)
  met : Meth X.K (He.ga X.K C) m (He.ma X.K (He.ga X.K C) m)
section
variable {CX : CXT} {k : Nat} {C m : Str} {fd : FuncData} {ps : List Str} {dvs : List V} {dd : List D} {ds : List Value} {pos apos : Pos} {e o : Expr} {es : List Expr} {to : DHT} {pl : Sem Bool}
end
end
end DL

/-! DL24: promises narrowed so that no error comes; things made there. -/
namespace DL
open PySem L2
abbrev noX : DXC := fun _ _ _ _ => False
section
variable {P : Program} {w : World} {K : PySem.W.Frag} {mg : Str → Option Value} {base : Heap} {k : Nat} {f : Addr} {fd : FuncData} {ps : List Str} {sp sp' : DSp}
end
/-- all that a calm making wants -/
structure FnC (X : Cx) (x : Str) (k : Nat) (ps : List Str) (sp : DSp) (f : Addr) (fd : FuncData) : Prop where
  ok : FnOk X.prog X.w X.K X.mg X.base CX0 k f fd ps (spNew X.K x sp)
  mg : X.mg x = some (.ref (He.ga X.K x))
  mak : Mk X.K (He.ga X.K x) f
section
variable {X : Cx} {Γ : Fx} {sp : DSp} {dvs : List V} {dd : List D} {ta tk : DAT} {x : Str} {k n : Nat} {ps ks : List Str} {f : Addr} {fd : FuncData} {p pos : Pos} {e : Expr} {es : List Expr} {ds : List Value} {kws : List Keyword} {pm : List D → List D → List D}
end
end DL

/-! DL25: enumerate of a tuple. -/
namespace DL
open PySem L2
/-- the tuple at a, each item in a new pair -/
def IteT (K : PySem.W.Frag) (a : Addr) : It :=
  ⟨fun i H => ∃ (xs : List V) (x : V), SqT K H a xs ∧ xs[i]? = some x, fun i H v H' => ∃ T x, v = .ref T ∧ H T = none ∧ H' = upd H T (.tup [.int (i : Nat), x]) ∧ ∀ xs, SqT K H a xs → xs[i]? = some x, fun i H => ∃ xs : List V, SqT K H a xs ∧ xs.length ≤ i⟩
def iEnumA (K : PySem.W.Frag) (ta : TA) : TI := fun σ H R => ta σ H fun vs H1 => ∃ a xs, vs = [.ref a] ∧ (SqL K H1 a xs ∧ R (Ite K a) H1 ∨ SqT K H1 a xs ∧ R (IteT K a) H1)
def diEnumA (ta : DAT) : DIT := fun ρ R => ta ρ fun hs ρ1 => match vals ρ1 hs with
  | some [.lst ds] => R (enumD ds) ρ1
  | some [.tup ds] => R (enumD ds) ρ1
  | _ => False
end DL

/-! DL26: return a if c else b, an own list going out as it is. -/
namespace DL
open PySem L2
section
variable {X : Cx} {Γ : Fx} {e a b c : Expr} {pos : Pos}
/-- what goes out -/
def LR (Γ : Fx) (K : PySem.W.Frag) (t : DT) : TE := fun σ H Q => ∃ H0 ρ R, Fit Γ K H0 σ ρ H ∧ t ρ R ∧ ∀ r ρ' v H0' H', R r ρ' → Fit Γ K H0' σ ρ' H' → Same H0 H0' → RRet Γ K H0' H' v r → Q v H'
structure DR (X : Cx) (Γ : Fx) (e : Expr) (t : DT) : Prop where
  run : PE X e (LR (Γ.at []) X.K t)
def dVR (i : Nat) : DT := fun ρ R => match ρ[i]? with
  | some (some (.v d)) => R (.v d) ρ
  | some (some (.o ds)) => R (.o ds) ρ
  | _ => False
/-- a value that is frozen at once -/
def dFz (t : DT) : DT := fun ρ R => t ρ fun r ρ1 => R (.v r.d) ρ1
theorem de_fz {t : DT} (h : DE X Γ e t) : DE X Γ e (dFz t) := ⟨fun tm => peLe (h.run tm) fun σ H Q ⟨H0, ρ, R, F, t, k⟩ => ⟨H0, ρ, _, F, t, fun r ρ1 v H1 H' q F1 e1 rr => by
  obtain ⟨H2, F2, e2, r2⟩ := F1.freeze rr
  exact k _ ρ1 v H2 H' q F2 (e1.trans e2) r2⟩⟩
end
section
variable {X : Cx} {Γ : Fx} {tg iter elt : Expr} {ifs : List Expr} {scope : Scope} {own : List (Str × Nat)} {pos : Pos} {ti : DIT} {g : DGT} {tt : DTT} {te : DT}
end
end DL

/-! DL27: constants of the module that are tuples, dicts of the module with text keys; the Hook that asks for both. -/
namespace DL
open PySem L2
mutual
/-- a written value stands for data -/
def wrB (K : PySem.W.Frag) : D → Value → Bool
  | .int i, u => (match u with
    | .int j _ => decide (j = i)
    | _ => false)
  | .str x, u => (match u with
    | .str y _ => decide (y = x)
    | _ => false)
  | .non, u => (match u with
    | .none => true
    | _ => false)
  | .tup ds, u => (match u with
    | .ref a => (match K.lookup a with
      | some ⟨.type c, none, .seq its _, _⟩ => decide (c = "tuple") && (decide (its.size ≤ sizeLine) && wrBs K ds its.toList)
      | _ => false)
    | _ => false)
  | _, _ => false
def wrBs (K : PySem.W.Frag) : List D → List Value → Bool
  | [], us => us.isEmpty
  | d :: ds, us => (match us with
    | u :: r => wrB K d u && wrBs K ds r
    | [] => false)
end
mutual
theorem wrB_ok {K : PySem.W.Frag} : ∀ {d : D} {u : Value}, wrB K d u = true → ∃ v, RelV v u ∧ ∀ H, Rep K H v d
  | .int i, u, h => by
    simp only [wrB] at h
    split at h
    · exact ⟨.int i, ⟨_, by rw [of_decide_eq_true h]⟩, fun _ => .int i⟩
    · cases h
  | .str i, u, h => by
    simp only [wrB] at h
    split at h
    · exact ⟨.str i, ⟨_, by rw [of_decide_eq_true h]⟩, fun _ => .str i⟩
    · cases h
  | .non, u, h => by
    simp only [wrB] at h
    split at h
    · exact ⟨.non, rfl, fun _ => .non⟩
    · cases h
  | .tup ds, u, h => by
    simp only [wrB] at h
    split at h
    · rename_i a
      split at h
      · rename_i c its n sl ho
        simp only [Bool.and_eq_true, decide_eq_true_eq] at h
        obtain ⟨rfl, h2, h3⟩ := h
        obtain ⟨vs, rv, rp⟩ := wrBs_ok h3
        exact ⟨.ref a, rfl, fun H => .tup (.inr ⟨_, its, n, ho, rfl, rfl, h2, rv⟩) (rp H)⟩
      · cases h
    · cases h
  | .bl _, u, h => by simp [wrB] at h
  | .lst _, u, h => by simp [wrB] at h
  | .rol _, u, h => by simp [wrB] at h
  | .ins _ _, u, h => by simp [wrB] at h
  | .exc _ _ _, u, h => by simp [wrB] at h
  | .ty _, u, h => by simp [wrB] at h
  | .cls _, u, h => by simp [wrB] at h
  | .adr _, u, h => by simp [wrB] at h
theorem wrBs_ok {K : PySem.W.Frag} : ∀ {ds : List D} {us : List Value}, wrBs K ds us = true → ∃ vs, Vals vs us ∧ ∀ H, Reps K H vs ds
  | [], us, h => by
    simp only [wrBs] at h
    cases us with
    | nil => exact ⟨[], .nil, fun _ => .nil⟩
    | cons _ _ => cases h
  | d :: ds, us, h => by
    simp only [wrBs] at h
    split at h
    · rename_i u r
      rw [Bool.and_eq_true] at h
      obtain ⟨v, rv, rp⟩ := wrB_ok h.1
      obtain ⟨vs, rvs, rps⟩ := wrBs_ok h.2
      exact ⟨v :: vs, .cons rv rvs, fun H => .cons (rp H) (rps H)⟩
    · cases h
end
/-- a constant of the module -/
def cstB (x : Str) (d : D) (K : PySem.W.Frag) : Bool := match PySem.W.nsIn K mainGlobals x with
  | some (some u) => wrB K d u
  | _ => false
def CstC (K : PySem.W.Frag) (mg : Str → Option Value) (x : Str) (d : D) : Prop := ∃ u v, mg x = some u ∧ RelV v u ∧ ∀ H, Rep K H v d
/-- a dict of the module -/
def tabB (C : Str) (tbl : List (Str × D)) (K : PySem.W.Frag) : Bool := tbl.all fun q => match PySem.W.nsIn K (He.ga K C) q.1 with
  | some (some u) => wrB K q.2 u
  | _ => false
def TabC (K : PySem.W.Frag) (w : World) (C : Str) (tbl : List (Str × D)) : Prop := ∀ q ∈ tbl, ∃ v, KDct K w (He.ga K C) q.1 v ∧ ∀ H, Rep K H v q.2
def tabAt : List (Str × D) → Str → Option D
  | [], _ => none
  | (k, d) :: r, z => if k = z then some d else tabAt r z
def tblD (C : Str) (tbl : List (Str × D)) : D → D → (S → Prop) → Prop
  | .cls c, .str z, R => c = C ∧ ∃ d, tabAt tbl z = some d ∧ R (.v d)
  | _, _, _ => False
/-! ### x.index(y), texts -/
def idxS (ys : List Str) : List D → (S → Prop) → Prop
  | [.str z], R => ∃ j : Nat, ys[j]? = some z ∧ (∀ m, m < j → ys[m]? ≠ some z) ∧ R (.v (.int j))
  | _, _ => False
/-- a written tuple of texts -/
def CstT (K : PySem.W.Frag) (mg : Str → Option Value) (x : Str) (ys : List Str) : Prop := ∃ (a : Addr) (o : Obj), mg x = some (.ref a) ∧ K.lookup a = some o ∧ o.cls = .type "tuple" ∧ o.dict = none ∧ ∀ H, SqT K H a (ys.map V.str)
def dIdxL (to : DHT) (ta : DAT) : DT := fun ρ R => to ρ fun a ρ1 => (∃ ds, a.get ρ1 = some (.lst ds)) ∧ ta ρ1 fun hs ρ2 => match a.get ρ2, gets ρ2 hs with
  | some (.lst ds), some ds' => ∃ ys : List Str, ds = ys.map D.str ∧ idxS ys ds' fun r => R r ρ2
  | _, _ => False
/-! ### the Hook -/
def obXT (n : Nat) (fa : List He.Fa) (fn : List He.DefD) (ts : List He.Tab) (ex : List (PySem.W.Frag → Bool)) (g : Addr → Option Obj) : Bool × He.AlT := (ex.all fun f => f (He.frG g (He.asD g n)), He.obsTG n fa fn ts g)
def hookXT (n : Nat) (fa : List He.Fa) (fn : List He.DefD) (ts : List He.Tab) (ex : List (PySem.W.Frag → Bool)) : PySem.W.Hook where
  α := Bool × He.AlT
  obs := fun s => obXT n fa fn ts ex s.heap.get?
  val := fun w => (true, He.valT fn ts w)
  says := fun w h => ∃ K : PySem.W.Frag, K.In h ∧ He.SaysT fa fn ts w K ∧ ∀ f ∈ ex, f K = true
  of := fun _ _ e => ⟨_, He.frG_in, congrArg Prod.snd e, fun f hf => List.all_eq_true.mp (congrArg Prod.fst e) f hf⟩
  keeps := fun _ _ _ ⟨K, hK, c⟩ k => ⟨K, PySem.W.Frag.In.keeps hK k, c⟩
end DL

/-! DL28: x[n], y = a, b -/
namespace DL
open PySem L2
def dSetPar (i : Nat) (n : Int) (j : Nat) (ta : DOT) : DST := fun De ρ => ta ρ fun ss ρ1 => match ss with
  | [.v d, s] => chg i (setF (.int n) d) ρ1 fun ρ3 => asgO [j] [s] ρ3 De.nx
  | _ => False
theorem OReps.mono {K : PySem.W.Frag} {H0 H1 : Hp} (e : Same H0 H1) {vs : List V} {ss : List S} {tm : List (Addr × List V)} (o : OReps K H0 vs ss tm) : OReps K H1 vs ss tm := by
  induction o with
  | nil => exact .nil
  | v r o ih => exact .v (r.mono e) ih
  | o r p o ih => exact .o (r.mono e) p ih
end DL

/-! DL29: zip of a list and a tuple. -/
namespace DL
open PySem L2 PyProof.Rows
/-- the list at a and the tuple at b, the items in new pairs -/
def ItzM (K : PySem.W.Frag) (a b : Addr) : It :=
  ⟨fun i H => ∃ (xs ys : List V) (x y : V), SqL K H a xs ∧ SqT K H b ys ∧ xs[i]? = some x ∧ ys[i]? = some y,
    fun i H v H' => ∃ T x y, v = .ref T ∧ H T = none ∧ H' = upd H T (.tup [x, y]) ∧ (∀ xs, SqL K H a xs → xs[i]? = some x) ∧ ∀ ys, SqT K H b ys → ys[i]? = some y,
    fun i H => ∃ xs ys : List V, SqL K H a xs ∧ SqT K H b ys ∧ i ≤ xs.length ∧ i ≤ ys.length ∧ (i = xs.length ∨ i = ys.length)⟩
def iZipM (K : PySem.W.Frag) (ta : TA) : TI := fun σ H R => ta σ H fun vs H1 => ∃ a b xs ys, vs = [.ref a, .ref b] ∧ SqL K H1 a xs ∧ SqT K H1 b ys ∧ R (ItzM K a b) H1
def diZipM (ta : DAT) : DIT := fun ρ R => ta ρ fun hs ρ1 => match vals ρ1 hs with
  | some [.lst ds, .tup es] => R (zipD ds es) ρ1
  | _ => False
end DL

/-! DL30: targets within targets; {k: v, ..}.get(x, y) with text keys. -/
namespace DL
open PySem L2
def LiveG (g : DGT) : Prop := ∀ d ρ Q, g (.v d) ρ Q → ∃ ρ1, Q ρ1
def LiveGs (u : DGTs) : Prop := ∀ ds ρ Q, u ds ρ Q → ∃ ρ1, Q ρ1
/-! ### a dict that is made -/
theorem ne_dk {H : Hp} {p a : Addr} {l : List (Key × V)} {o : HO} (h : H p = some (.dK l)) (e : H a = some o) (ho : ∀ l, o ≠ .dK l) : a ≠ p := fun z => by
  subst z
  rw [h] at e
  cases e
  exact ho _ rfl
section
variable {K : PySem.W.Frag} {H : Hp} {p : Addr} {l l' : List (Key × V)}
mutual
theorem Rep.dk (h : H p = some (.dK l)) : ∀ {v : V} {d : D}, Rep K H v d → Rep K (upd H p (.dK l')) v d
  | _, _, .non => .non
  | _, _, .bl b => .bl b
  | _, _, .int i => .int i
  | _, _, .str x => .str x
  | _, _, .ty n e => .ty n e
  | _, _, .cls C => .cls C
  | _, _, .adr => .adr
  | _, _, .lst h1 r => .lst (by rw [upd_ne (ne_dk h h1 (by intro l z; cases z))]; exact h1) (Reps.dk h r)
  | _, _, .rol h1 r => .rol (by
      rcases h1 with (h1 | ⟨o, h1⟩) | h1
      · exact .inl (.inl (by rw [upd_ne (ne_dk h h1 (by intro l z; cases z))]; exact h1))
      · exact .inl (.inr ⟨o, by rw [upd_ne (ne_dk h h1 (by intro l z; cases z))]; exact h1⟩)
      · exact .inr h1) (Reps.dk h r)
  | _, _, .tup h1 r => .tup (by
      rcases h1 with (h1 | ⟨o, h1⟩) | h1
      · exact .inl (.inl (by rw [upd_ne (ne_dk h h1 (by intro l z; cases z))]; exact h1))
      · exact .inl (.inr ⟨o, by rw [upd_ne (ne_dk h h1 (by intro l z; cases z))]; exact h1⟩)
      · exact .inr h1) (Reps.dk h r)
  | _, _, .ins h1 r => .ins (by rw [upd_ne (ne_dk h h1 (by intro l z; cases z))]; exact h1) (RepF.dk h r)
  | _, _, .exc h1 h2 r => .exc (by rw [upd_ne (ne_dk h h1 (by intro l z; cases z))]; exact h1) (by rw [upd_ne (ne_dk h h2 (by intro l z; cases z))]; exact h2) (Rep.dk h r)
theorem Reps.dk (h : H p = some (.dK l)) : ∀ {vs : List V} {ds : List D}, Reps K H vs ds → Reps K (upd H p (.dK l')) vs ds
  | _, _, .nil => .nil
  | _, _, .cons r t => .cons (Rep.dk h r) (Reps.dk h t)
theorem RepF.dk (h : H p = some (.dK l)) : ∀ {vs : List (Str × V)} {ds : List (Str × D)}, RepF K H vs ds → RepF K (upd H p (.dK l')) vs ds
  | _, _, .nil => .nil
  | _, _, .cons r t => .cons (Rep.dk h r) (RepF.dk h t)
end
end
section
variable {Γ : Fx} {K : PySem.W.Frag} {H0 : Hp} {σ : St} {ρ : Rho} {H : Hp} {p : Addr}
theorem KReps.dk {l l' : List (Key × V)} (h : H0 p = some (.dK l)) : ∀ {vs : List (Key × V)} {ds : List (Key × D)}, KReps K H0 vs ds → KReps K (upd H0 p (.dK l')) vs ds
  | _, _, .nil => .nil
  | _, _, .cons r t => .cons (Rep.dk h r) (t.dk h)
theorem IReps.dk {l l' : List (Key × V)} (h : H0 p = some (.dK l)) : ∀ {vs : List V} {ds : List (D ⊕ List D)} {G : List Addr}, IReps K H0 H vs ds G → p ∉ G → IReps K (upd H0 p (.dK l')) (upd H p (.dK l')) vs ds G
  | _, _, _, .nil, _ => .nil
  | _, _, _, .dat r t, n => .dat (Rep.dk h r) (t.dk h n)
  | _, _, _, .own q r t, n => .own (by rw [upd_ne fun z => n (by rw [z]; exact List.mem_cons_self)]; exact q) (r.dk h) (t.dk h fun z => n (List.mem_cons_of_mem _ z))
mutual
theorem FRep.dk {l l' : List (Key × V)} (h : H0 p = some (.dK l)) : ∀ {v : V} {x : Fld} {G : List Addr}, FRep K H0 H v x G → p ∉ G → FRep K (upd H0 p (.dK l')) (upd H p (.dK l')) v x G
  | _, _, _, .dat r, n => .dat (Rep.dk h r)
  | _, _, _, .lst q r, n => .lst (by rw [upd_ne fun z => n (by rw [z]; exact List.mem_cons_self)]; exact q) (r.dk h)
  | _, _, _, .obj q1 q2 r, n => .obj (by rw [upd_ne fun z => n (by rw [z]; exact List.mem_cons_self)]; exact q1) (by rw [upd_ne fun z => n (by rw [z]; exact List.mem_cons_of_mem _ List.mem_cons_self)]; exact q2) (FReps.dk h r fun z => n (List.mem_cons_of_mem _ (List.mem_cons_of_mem _ z)))
theorem FReps.dk {l l' : List (Key × V)} (h : H0 p = some (.dK l)) : ∀ {vs : List (Str × V)} {fs : List (Str × Fld)} {G : List Addr}, FReps K H0 H vs fs G → p ∉ G → FReps K (upd H0 p (.dK l')) (upd H p (.dK l')) vs fs G
  | _, _, _, .nil, _ => .nil
  | _, _, _, .cons r t, n => .cons (FRep.dk h r fun z => n (List.mem_append_left _ z)) (FReps.dk h t fun z => n (List.mem_append_right _ z))
end
theorem XAt.dk {l l' : List (Key × V)} {v : V} {x : OwnT} {G : List Addr} (h : H0 p = some (.dK l)) (n : p ∉ G) (r : XAt K H0 H v x G) : XAt K (upd H0 p (.dK l')) (upd H p (.dK l')) v x G := by
  obtain ⟨r1, r2⟩ := r
  refine ⟨fun a ha => by rw [upd_ne fun z => n (by rw [← z]; exact ha)]; exact r1 a ha, ?_⟩
  cases x with
  | obj C fs => exact ⟨FRep.dk h r2.1 n, r2.2⟩
  | dic kvs =>
    obtain ⟨q, ws, rfl, rfl, q1, q2⟩ := r2
    exact ⟨q, ws, rfl, rfl, by rw [upd_ne fun z => n (by rw [z]; exact List.mem_cons_self)]; exact q1, q2.dk h⟩
  | box t its =>
    cases t with
    | true =>
      obtain ⟨q, ys, rfl, q1, q2, q3⟩ := r2
      exact ⟨q, ys, rfl, by rw [upd_ne fun z => by subst z; rw [h] at q1; cases q1]; exact q1, q2.dk h n, q3⟩
    | false =>
      obtain ⟨q, ys, G, rfl, rfl, q1, q2, q3⟩ := r2
      exact ⟨q, ys, G, rfl, rfl, by rw [upd_ne fun z => n (by rw [z]; exact List.mem_cons_self)]; exact q1, q2.dk h fun z => n (List.mem_cons_of_mem _ z), q3⟩
end
/-- the pairs of a display -/
def dPairs : List (Str × DT) → Rho → (List (Str × D) → Rho → Prop) → Prop
  | [], ρ, R => R [] ρ
  | (k, t) :: r, ρ, R => t ρ fun s ρ1 => dPairs r ρ1 fun ps ρ2 => R ((k, s.d) :: ps) ρ2
def getKd (ps : List (Str × D)) (k : Str) : Option D := (ps.find? fun p => decide (p.1 = k)).map (·.2)
structure DPs (X : Cx) (Γ : Fx) (pos : Pos) (keys : List (Option Expr)) (values : List Expr) (ps : List (Str × DT)) : Prop where
  run : ∀ tm, PPs X pos keys values (ps.map fun q => (LE (Γ.at tm) X.K (dC (.str q.1)), LE (Γ.at tm) X.K q.2))
section
variable {X : Cx} {Γ : Fx} {pos : Pos}
end
theorem RepF.keys {K : PySem.W.Frag} {H : Hp} : ∀ {fs : List (Str × V)} {gs : List (Str × D)}, RepF K H fs gs → fs.map (·.1) = gs.map (·.1)
  | _, _, .nil => rfl
  | _, _, .cons _ t => by rw [List.map_cons, List.map_cons, RepF.keys t]
theorem RepF.val {K : PySem.W.Frag} {H : Hp} (k : Str) : ∀ {fs : List (Str × V)} {gs : List (Str × D)}, RepF K H fs gs → (getKd gs k = none ∧ valV (fs.map fun f => ((Sum.inr f.1 : Key), f.2)) (.inr k) = none) ∨ ∃ d v, getKd gs k = some d ∧ valV (fs.map fun f => ((Sum.inr f.1 : Key), f.2)) (.inr k) = some v ∧ Rep K H v d
  | _, _, .nil => .inl ⟨rfl, rfl⟩
  | _, _, .cons (f := f) (v := v) (d := d) (vs := fs) (ds := gs) r t => by
    by_cases e : f = k
    · subst e
      exact .inr ⟨d, v, by simp [getKd, List.find?_cons], valV_pos rfl, r⟩
    · have e1 : getKd ((f, d) :: gs) k = getKd gs k := by simp [getKd, List.find?_cons, e]
      have e2 : valV (((f, v) :: fs).map fun f => ((Sum.inr f.1 : Key), f.2)) (.inr k) = valV (fs.map fun f => ((Sum.inr f.1 : Key), f.2)) (.inr k) := by
        rw [List.map_cons]
        exact valV_neg (fun z => e (Sum.inr.inj z))
      rw [e1, e2]
      exact RepF.val k t
/-- {k: v, ..}.get(x, y) -/
def dDGet (ps : List (Str × DT)) (ty tx : DT) : DT := fun ρ R => dPairs ps ρ fun kvs ρ1 => ty ρ1 fun y ρ2 => match y with
  | .v (.str k) => tx ρ2 fun x ρ3 => R (.v ((getKd kvs k).getD x.d)) ρ3
  | _ => False
end DL

/-! DL31: a < b < c < d; tries whose clause reads the error, or names none. -/
namespace DL
open PySem PySem.Spec PyProof.Rows L2
/-! ### a chain of three -/
section
variable {X : Cx} {Γ : Fx} {a b c d : Expr} {pos : Pos}
def tChain3 (r r' r2 : R2) (ta tb tc td : TE) : TE := fun σ H Q => ta σ H fun x H1 => tb σ H1 fun y H2 => r x y H2 fun z H3 => ∃ k, z = .bl k ∧
  (if k = true then tc σ H3 fun w' H4 => r' y w' H4 fun z' H5 => ∃ k', z' = .bl k' ∧ (if k' = true then td σ H5 fun u H6 => r2 w' u H6 Q else Q (.bl false) H5) else Q (.bl false) H3)
/-- a op b op' c op2 d -/
def dChain3 (f f' f2 : D → D → (S → Prop) → Prop) (ta tb tc td : DHT) : DT := fun ρ R => ta ρ fun a ρ1 => tb ρ1 fun b ρ2 => match a.get ρ2, b.get ρ2 with
  | some x, some y => f x y fun r => match r with
    | .v (.bl k) => IfB k (tc ρ2 fun c ρ3 => (match b.get ρ3, c.get ρ3 with
      | some y, some z => f' y z fun r => match r with
        | .v (.bl k') => IfB k' (td ρ3 fun d ρ4 => (match c.get ρ4, d.get ρ4 with
          | some z, some u => f2 z u fun r => R r ρ4
          | _, _ => False)) (R (.v (.bl false)) ρ3)
        | _ => False
      | _, _ => False)) (R (.v (.bl false)) ρ2)
    | _ => False
  | _, _ => False
end
/-! ### except C as n: the error stands in the heap from the suite's begin on -/
def wLay (K : PySem.W.Frag) (c : Value) (i : Nat) (ts : TS) (D : Ends) : WX := fun cls d σ H =>
  PySem.W.exmOne K cls c = some true ∧ ∀ a, H a = none → ts { nx := fun σ' H' => D.nx (σ'.set i none) H', rt := D.rt, bk := fun σ' H' => D.bk (σ'.set i none) H', ct := fun σ' H' => D.ct (σ'.set i none) H' } (σ.set i (some (.ref a))) (upd H a (exk a cls d))
section
variable {X : Cx} {x n : Str} {c : Value} {i : Nat} {body suite : List Stmt} {b₀ : Stmt} {np pos pos' : Pos} {tb : WX → TS} {ts : TS}
end
/-- i: the slot of n -/
def dTryL (i : Nat) (C f : Str) (tb : DXC → DST) (th : DST) : DST := fun De ρ => tb (fun C' f' d ρ' => C' = C ∧ f' = f ∧ noM [i] ρ' = true ∧ setR i (.v (.exc C f d)) ρ' fun ρ2 => th { nx := fun ρ3 => De.nx (ρ3.set i none), rt := De.rt, bk := fun ρ3 => De.bk (ρ3.set i none), ct := fun ρ3 => De.ct (ρ3.set i none) } ρ2) De ρ
def dTryO (C : Str) (tb : DXC → DST) (th : DST) : DST := fun De ρ => tb (fun C' _ _ ρ' => C' = C ∧ th De ρ') De ρ
section
variable {X : Cx} {Γ : Fx} {n C f : Str} {i : Nat} {body suite : List Stmt} {b₀ : Stmt} {np pos pos' : Pos} {tb : DXC → DST} {th : DST}
theorem RRet.un {Γ : Fx} {K : PySem.W.Frag} {H0 H1 : Hp} {H : Hp} {v : V} {r : S} (h : RRet (Γ.re H0) K H1 H v r) : RRet Γ K H1 H v r := by
  cases r with
  | v d => exact h
  | o ds => exact h
  | m ds => exact h
  | x x G => exact h
end
end DL

/-! DL32: the top's run, looked at in parts. -/
namespace DL
open PySem PySem.W PySem.Calls PyProof.Rows HandSHeadRun
def RunL (r : OpenRow) (q : Program) (M : Nat) (loose : List PySem.Str) (w : World) : Prop :=
  ∀ os : OsState, (endF (stepQ (denQ tabQ) r.prog w) M r.prog w os).map (fun s => (looksF r.prog (boot_heap w.params) s.abs, seenQ q loose (importedModules r.prog.main.body) (fun s => xlAt q [] s && recOk r.toRowW.records s) s.abs)) = some (true, openGood q loose)
def RunO {α : Type} (r : OpenRow) (M : Nat) (w : World) (f : SharedT → α) (a : α) : Prop := ∀ os : OsState, (endF (stepQ (denQ tabQ) r.prog w) M r.prog w os).map f = some a
end DL

/-! DL33: list(range(n)). -/
namespace DL
open PySem L2
section
variable {X : Cx} {Γ : Fx} {a : Expr} {p p2 pos pos2 : Pos}
def dLstRg (ta : DT) : DT := fun ρ R => ta ρ fun r ρ1 => match r with
  | .v (.int n) => RgOk 0 n ∧ R (.o (rngD 0 n.toNat)) ρ1
  | _ => False
end
end DL

/-! DL34: a == b of things of one own class, by its own __eq__. -/
namespace DL
open PySem PySem.Spec PyProof.Rows L2
section
variable {X : Cx}
def rEqI (C : Addr) (s0 : Sp) : R2 := fun x y H Q => ∃ a b dx dy fs gs, x = .ref a ∧ y = .ref b ∧ H a = some (.ins C dx fs) ∧ H b = some (.ins C dy gs) ∧ s0 [.ref a, .ref b] H (fun v H' => (∃ k, v = .bl k) ∧ Q v H') (fun _ _ _ => False)
/-- a == b, both of the class C -/
def eqID (C : Str) (sp : DSp) (a b : D) (R : S → Prop) : Prop := ∃ fs gs, a = .ins C fs ∧ b = .ins C gs ∧ sp [.v a, .v b] (fun r _ => (∃ k, r = .v (.bl k)) ∧ R r) (fun _ _ _ _ => False)
end
end DL

/-! DL35: x.insert(i, y); == of things or of data. -/
namespace DL
open PySem PySem.Spec PyProof.Rows L2
section
variable {X : Cx}
def rInsert : V → List V → Hp → VK → Prop := fun x vs H Q => ∃ (l : Addr) (xs : List V) (i : Int) (y : V), x = .ref l ∧ vs = [.int i, y] ∧ H l = some (.lst xs) ∧ xs.length < sizeLine ∧ 0 ≤ i ∧ i < 2 ^ 63 ∧
    Q .non (upd H l (.lst (xs.take i.toNat ++ [y] ++ xs.drop i.toNat)))
def insertF : MtF := fun ds as R => match as with
  | [.int i, y] => ds.length < sizeLine ∧ 0 ≤ i ∧ i < 2 ^ 63 ∧ R .non (ds.take i.toNat ++ [y] ++ ds.drop i.toNat)
  | _ => False
/-- a == b: by the class's own __eq__ where a is of it, else of data -/
@[irreducible] def eqAD (C : Str) (sp : DSp) (a b : D) (R : S → Prop) : Prop := match a with
  | .ins _ _ => eqID C sp a b R
  | _ => eqD a b R
def rEqA (K : PySem.W.Frag) (C : Addr) (s0 : Sp) : R2 := fun x y H Q => rEqD K x y H Q ∨ rEqI C s0 x y H Q
end
end DL

/-! DL36: o.m(k = v). -/
namespace DL
open PySem L2
def tMethK (C : Addr) (m : Str) (nk : Nat) (sp : Sp) (gV : List V → List V → List V) (E : St → XK) (ta : TE) (u : TA) : TE := fun σ H Q => ta σ H fun x H1 => ∃ a dx fs, x = .ref a ∧ H1 a = some (.ins C dx fs) ∧ fs.lookup m = none ∧ u σ H1 fun zs H2 => zs.length = nk ∧ sp (gV [x] zs) H2 Q (E σ)
section
variable {X : Cx} {CX : CXT} {k : Nat} {f C : Addr} {fd : FuncData} {ps ks : List Str} {s0 : Sp} {E : St → XK} {m : Str} {pos apos : Pos} {o : Expr} {kws : List Keyword} {to : TE} {u : TA} {g : List Value → List Value → List Value} {gV : List V → List V → List V}
end
def dMethK (xc : DXC) (C m : Str) (nk : Nat) (sp : DSp) (pm : List D → List D → List D) (to : DHT) (tk : DAT) : DT := fun ρ R => to ρ fun h ρ1 => insOk C m (h.get ρ1) ∧ tk ρ1 fun gs ρ2 => gs.length = nk ∧ match gets ρ2 [h], gets ρ2 gs with
  | some ds, some es => sp ((pm ds es).map S.v) (fun r _ => (bor ρ2 ([h] ++ gs) = true → r.imm = true) ∧ R r ρ2) fun C f d _ => (bor ρ2 ([h] ++ gs) = true → d.imm = true) ∧ xc C f d ρ2
  | _, _ => False
section
variable {X : Cx} {Γ : Fx} {sp : DSp} {ta tk : DAT} {xc : DXC}
variable {CX : CXT} {k : Nat} {C m : Str} {fd : FuncData} {ps ks : List Str} {pos apos : Pos} {o : Expr} {to : DHT} {pl : Sem Bool} {kws : List Keyword} {pm : List D → List D → List D}
end
end DL

/-! DL37: a != b of things of one own class that has an own __eq__ and no __ne__. -/
namespace DLN
open PySem PySem.W Builtin
section
variable {prog : Program} {w : World} {A : Around} {E : Value → Shared → Prop} {s : Shared} {K : Frag} {x C f y : Addr} {ox : Obj} {od : Option Obj} {name : Str}
end
end DLN
namespace DL
open PySem PySem.Spec PyProof.Rows L2
section
variable {X : Cx}
def rNeI (C : Addr) (s0 : Sp) : R2 := fun x y H Q => ∃ a b dx dy fs gs, x = .ref a ∧ y = .ref b ∧ H a = some (.ins C dx fs) ∧ H b = some (.ins C dy gs) ∧ s0 [.ref a, .ref b] H (fun v H' => ∃ k, v = .bl k ∧ Q (.bl (!k)) H') (fun _ _ _ => False)
def neID (C : Str) (sp : DSp) (a b : D) (R : S → Prop) : Prop := ∃ fs gs, a = .ins C fs ∧ b = .ins C gs ∧ sp [.v a, .v b] (fun r _ => ∃ k, r = .v (.bl k) ∧ R (.v (.bl (!k)))) (fun _ _ _ _ => False)
/-- a != b: by the class's own __eq__ where a is of it, else of data -/
@[irreducible] def neAD (C : Str) (sp : DSp) (a b : D) (R : S → Prop) : Prop := match a with
  | .ins _ _ => neID C sp a b R
  | _ => neD a b R
def neB (C : Str) (K : PySem.W.Frag) : Bool := decide (PySem.W.findIn K (.ref (He.ga K C)) "__ne__" = some (some (.builtin "object.__ne__")))
def rNeA (K : PySem.W.Frag) (C : Addr) (s0 : Sp) : R2 := fun x y H Q => rNeD K x y H Q ∨ rNeI C s0 x y H Q
end
end DL

/-! DL38: [e for x in xs for y in ys]. -/
namespace DL
open PySem L2
def compL2 (g : DGT) (tt : DTT) (ti1 : DIT) (g1 : DGT) (tt1 : DTT) (te : DT) (vs vs1 : List Nat) : List D → List D → Rho → (List D → Rho → Prop) → Prop
  | [], acc, ρ, R => R acc ρ
  | x :: xs, acc, ρ, R => g (.v x) ρ fun ρ2 => tt ρ2 fun b ρ3 => IfB b (ti1 ρ3 fun items1 ρ4 => compL g1 tt1 te vs1 items1 acc (wipeR ρ4 vs1) fun acc' ρ5 => compL2 g tt ti1 g1 tt1 te vs vs1 xs acc' (wipeR ρ5 vs) R) (compL2 g tt ti1 g1 tt1 te vs vs1 xs acc (wipeR ρ3 vs) R)
def dLc2 (ti : DIT) (g : DGT) (tt : DTT) (ti1 : DIT) (g1 : DGT) (tt1 : DTT) (te : DT) (vs vs1 : List Nat) : DT := fun ρ R => ti ρ fun items ρ1 => noM vs ρ1 = true ∧ compL2 g tt ti1 g1 tt1 te vs vs1 items [] (wipeR ρ1 vs) fun acc ρn => R (.o acc) (restR ρ1 vs ρn)
section
variable {X : Cx} {Γ : Fx} {tg iter elt tg1 iter1 : Expr} {ifs ifs1 : List Expr} {scope : Scope} {own : List (Str × Nat)} {pos : Pos} {ti ti1 : DIT} {g g1 : DGT} {tt tt1 : DTT} {te : DT}
end
end DL

/-! DL39: min(list of ints), len(thing) by an own __len__. -/
namespace DL
open PySem PySem.Spec PyProof.Rows L2
section
variable {X : Cx}
def minD : List D → (S → Prop) → Prop
  | [.lst ds], R => (match intsOf ds with
    | some ns => 0 < ns.length ∧ ∀ m, m ∈ ns → (∀ y, y ∈ ns → m ≤ y) → R (.v (.int m))
    | none => False)
  | _, _ => False
def rLenI (C : Addr) (s0 : Sp) : List V → Hp → VK → Prop := fun xs H Q => ∃ a dx fs, xs = [.ref a] ∧ H a = some (.ins C dx fs) ∧ s0 [.ref a] H (fun v H' => ∃ n : Int, v = .int n ∧ 0 ≤ n ∧ n < 2 ^ 63 ∧ Q (.int n) H') (fun _ _ _ => False)
/-- len of a thing of the class C -/
def lenID (C : Str) (sp : DSp) (a : D) (R : S → Prop) : Prop := ∃ fs, a = .ins C fs ∧ sp [.v a] (fun r _ => ∃ n : Int, r = .v (.int n) ∧ 0 ≤ n ∧ n < 2 ^ 63 ∧ R (.v (.int n))) (fun _ _ _ _ => False)
@[irreducible] def lenAD (C : Str) (sp : DSp) : List D → (S → Prop) → Prop := fun as R => match as with
  | [.ins C' fs] => lenID C sp (.ins C' fs) R
  | as => lenD as R
def rLenA (K : PySem.W.Frag) (C : Addr) (s0 : Sp) : List V → Hp → VK → Prop := fun xs H Q => (∃ x n, xs = [x] ∧ LenV K x H n ∧ Q (.int n) H) ∨ rLenI C s0 xs H Q
end
end DL

/-! DL40: len(range(a, b)), list(range(a, b)). -/
namespace DL
open PySem PySem.Spec PyProof.Rows L2
section
variable {X : Cx} {e : Expr} {te : L2.St → Hp → (Int → Int → Hp → Prop) → Prop}
def tLenRg (te : L2.St → Hp → (Int → Int → Hp → Prop) → Prop) : TE := fun σ H Q => te σ H fun a b H1 => (b - a).toNat < 2 ^ 63 ∧ Q (.int ((b - a).toNat : Int)) H1
end
section
variable {X : Cx} {Γ : Fx} {a b : Expr} {p p2 pos pos2 : Pos}
def dLenRg (ta tb : DT) : DT := fun ρ R => ta ρ fun r ρ1 => tb ρ1 fun r2 ρ2 => match r, r2 with
  | .v (.int i), .v (.int j) => (j - i).toNat < 2 ^ 63 ∧ R (.v (.int ((j - i).toNat : Int))) ρ2
  | _, _ => False
def dLstRg2 (ta tb : DT) : DT := fun ρ R => ta ρ fun r ρ1 => tb ρ1 fun r2 ρ2 => match r, r2 with
  | .v (.int i), .v (.int j) => RgOk i j ∧ R (.o (rngD i (j - i).toNat)) ρ2
  | _, _ => False
end
end DL

/-! DL41: enumerate(list, k). -/
namespace DL
open PySem L2
/-- the list at a, each item in a new pair, counted from k -/
def IteK (K : PySem.W.Frag) (a : Addr) (k : Int) : It :=
  ⟨fun i H => ∃ (xs : List V) (x : V), SqL K H a xs ∧ xs[i]? = some x, fun i H v H' => ∃ T x, v = .ref T ∧ H T = none ∧ H' = upd H T (.tup [.int (k + (i : Nat)), x]) ∧ ∀ xs, SqL K H a xs → xs[i]? = some x, fun i H => ∃ xs : List V, SqL K H a xs ∧ xs.length ≤ i⟩
def iEnumK (K : PySem.W.Frag) (ta : TA) : TI := fun σ H R => ta σ H fun vs H1 => ∃ a xs k, vs = [.ref a, .int k] ∧ -(2 ^ 63) ≤ k ∧ k < 2 ^ 63 ∧ SqL K H1 a xs ∧ R (IteK K a k) H1
def diEnumK (ta : DAT) : DIT := fun ρ R => ta ρ fun hs ρ1 => match vals ρ1 hs with
  | some [.lst ds, .int k] => -(2 ^ 63) ≤ k ∧ k < 2 ^ 63 ∧ R (zipD (rngD k ds.length) ds) ρ1
  | _ => False
end DL

/-! DL42: min(list, key=def) where the def tells the second thing of a pair, a list of ints. -/
namespace DL
open PySem PySem.Spec PyProof.Rows L2
/-- the second thing of a pair -/
def rSnd (K : PySem.W.Frag) : Sp := fun vs H Q _ => ∃ a x y, vs = [.ref a] ∧ SqT K H a [x, y] ∧ Q y H
def pdI (ns : List Int) : PyData := .list (ns.map .int)
def btI (ks : List (List Int)) : Nat → Nat → Bool := fun i j => PySem.W.dataLt ((ks.map pdI).getD i .none) ((ks.map pdI).getD j .none)
def rMinK (K : PySem.W.Frag) (f : Addr) : List V → List V → Hp → VK → Prop := fun xs zs H Q => ∃ (a : Addr) (ys : List V) (ks : List (List Int)), xs = [.ref a] ∧ zs = [.ref f] ∧ SqL K H a ys ∧ 0 < ys.length ∧ ks.length = ys.length ∧
  (∀ (i : Nat) (y : V), ys[i]? = some y → ∃ (t : Addr) (e : V) (p : Addr) (ns : List Int), y = V.ref t ∧ ks[i]? = some ns ∧ SqT K H t [e, V.ref p] ∧ SqL K H p (ns.map V.int)) ∧ ∀ y : V, ys[argBest (btI ks) (ys.length - 1)]? = some y → Q y H
section
variable {X : Cx}
def sndK : D → Option (List Int)
  | .tup [_, .lst es] => intsOf es
  | _ => none
def sndKs : List D → Option (List (List Int))
  | [] => some []
  | d :: ds => match sndK d, sndKs ds with
    | some k, some ks => some (k :: ks)
    | _, _ => none
/-- min(x, key=second): the first of the pairs whose list is the least -/
@[irreducible] def minKD : List D → (S → Prop) → Prop := fun as R => match as with
  | [.lst ds] => (match sndKs ds with
    | some ks => 0 < ds.length ∧ ∀ d, ds[argBest (btI ks) (ds.length - 1)]? = some d → R (.v d)
    | none => False)
  | _ => False
end
end DL

/-! DL43: min(list of pairs of a number and a list of numbers). -/
namespace DL
open PySem PySem.Spec PyProof.Rows L2
def pdP (k : Int × List Int) : PyData := .tuple [.int k.1, pdI k.2]
def btP (ks : List (Int × List Int)) : Nat → Nat → Bool := fun i j => PySem.W.dataLt ((ks.map pdP).getD i .none) ((ks.map pdP).getD j .none)
def rMinT (K : PySem.W.Frag) : List V → Hp → VK → Prop := fun xs H Q => ∃ (a : Addr) (ys : List V) (ks : List (Int × List Int)), xs = [.ref a] ∧ SqL K H a ys ∧ 0 < ys.length ∧ ks.length = ys.length ∧
  (∀ (i : Nat) (y : V), ys[i]? = some y → ∃ (t : Addr) (p : Addr) (n : Int) (ns : List Int), y = V.ref t ∧ ks[i]? = some (n, ns) ∧ SqT K H t [V.int n, V.ref p] ∧ SqL K H p (ns.map V.int)) ∧ ∀ y : V, ys[argBest (btP ks) (ys.length - 1)]? = some y → Q y H
section
variable {X : Cx}
def prK : D → Option (Int × List Int)
  | .tup [.int n, .lst es] => (intsOf es).map fun ns => (n, ns)
  | _ => none
def prKs : List D → Option (List (Int × List Int))
  | [] => some []
  | d :: ds => match prK d, prKs ds with
    | some k, some ks => some (k :: ks)
    | _, _ => none
/-- min(x) of pairs of a number and a list -/
@[irreducible] def minTD : List D → (S → Prop) → Prop := fun as R => match as with
  | [.lst ds] => (match prKs ds with
    | some ks => 0 < ds.length ∧ ∀ d, ds[argBest (btP ks) (ds.length - 1)]? = some d → R (.v d)
    | none => False)
  | _ => False
end
end DL

/-! DL44: the top's run, looked at at told addresses. -/
namespace DL
open PySem PySem.W PySem.Calls PyProof.Rows HandSHeadRun
def obXL (as : List Addr) (fa : List He.Fa) (fn : List He.DefD) (ts : List He.Tab) (ex : List (PySem.W.Frag → Bool)) (g : Addr → Option Obj) : Bool × He.AlT := (ex.all fun f => f (He.frG g as), He.obsT fa fn ts (He.frG g as))
def hookXL (as : List Addr) (fa : List He.Fa) (fn : List He.DefD) (ts : List He.Tab) (ex : List (PySem.W.Frag → Bool)) : PySem.W.Hook where
  α := Bool × He.AlT
  obs := fun s => obXL as fa fn ts ex s.heap.get?
  val := fun w => (true, He.valT fn ts w)
  says := fun w h => ∃ K : PySem.W.Frag, K.In h ∧ He.SaysT fa fn ts w K ∧ ∀ f ∈ ex, f K = true
  of := fun _ _ e => ⟨_, He.frG_in, congrArg Prod.snd e, fun f hf => List.all_eq_true.mp (congrArg Prod.fst e) f hf⟩
  keeps := fun _ _ _ ⟨K, hK, c⟩ k => ⟨K, PySem.W.Frag.In.keeps hK k, c⟩
end DL

/-! DL45: an own list looked through without being frozen, where what comes of it is flat. -/
namespace DL
open PySem L2
/-- data that needs no heap -/
def fltD : D → Bool
  | .non => true
  | .bl _ => true
  | .int _ => true
  | .str _ => true
  | .ty _ => true
  | .cls _ => true
  | _ => false
def fltS : S → Bool
  | .v d => fltD d
  | _ => false
theorem Rep.flat {K : PySem.W.Frag} {H H' : Hp} {v : V} {d : D} (r : Rep K H v d) (e : fltD d = true) : Rep K H' v d := by
  cases r with
  | non => exact .non
  | bl b => exact .bl b
  | int i => exact .int i
  | str x => exact .str x
  | ty n e1 => exact .ty n e1
  | cls C => exact .cls C
  | _ => cases e
theorem Reps.flat {K : PySem.W.Frag} {H H' : Hp} : ∀ {vs : List V} {ds : List D}, Reps K H vs ds → ds.all fltD = true → Reps K H' vs ds
  | _, _, .nil, _ => .nil
  | _, _, .cons r t, e => by
    rw [List.all_cons, Bool.and_eq_true] at e
    exact .cons (r.flat e.1) (Reps.flat t e.2)
/-- the own lists but that of the slot i hold flat data -/
def othersFlat (i : Nat) (ρ : Rho) : Prop := ∀ (j : Nat) s es, j ≠ i → ρ[j]? = some (some s) → s.own = some es → es.all fltD = true
def othersFlatB : Nat → Nat → Rho → Bool
  | _, _, [] => true
  | i, j, o :: r => (decide (j = i) || match o with
    | some (.o es) => es.all fltD
    | some (.m es) => es.all fltD
    | some (.x _ _) => false
    | _ => true) && othersFlatB i (j + 1) r
def dKeep (i : Nat) (t : DT) : DT := fun ρ R => match ρ[i]? with
  | some (some (.o ds)) => othersFlatB i 0 ρ = true ∧ t (ρ.set i (some (.v (.lst ds)))) fun r ρ' => ρ' = ρ.set i (some (.v (.lst ds))) ∧ fltS r = true ∧ R r ρ
  | _ => False
section
variable {X : Cx} {Γ : Fx} {e : Expr}
end
end DL

/-! DL46: enumerate(list or tuple, k). -/
namespace DL
open PySem L2
/-- the list at a, each item in a new pair, counted from k -/
def IteKT (K : PySem.W.Frag) (a : Addr) (k : Int) : It :=
  ⟨fun i H => ∃ (xs : List V) (x : V), SqT K H a xs ∧ xs[i]? = some x, fun i H v H' => ∃ T x, v = .ref T ∧ H T = none ∧ H' = upd H T (.tup [.int (k + (i : Nat)), x]) ∧ ∀ xs, SqT K H a xs → xs[i]? = some x, fun i H => ∃ xs : List V, SqT K H a xs ∧ xs.length ≤ i⟩
def iEnumKA (K : PySem.W.Frag) (ta : TA) : TI := fun σ H R => ta σ H fun vs H1 => ∃ a xs k, vs = [.ref a, .int k] ∧ -(2 ^ 63) ≤ k ∧ k < 2 ^ 63 ∧ (SqL K H1 a xs ∧ R (IteK K a k) H1 ∨ SqT K H1 a xs ∧ R (IteKT K a k) H1)
def diEnumKA (ta : DAT) : DIT := fun ρ R => ta ρ fun hs ρ1 => match vals ρ1 hs with
  | some [.lst ds, .int k] => -(2 ^ 63) ≤ k ∧ k < 2 ^ 63 ∧ R (zipD (rngD k ds.length) ds) ρ1
  | some [.tup ds, .int k] => -(2 ^ 63) ≤ k ∧ k < 2 ^ 63 ∧ R (zipD (rngD k ds.length) ds) ρ1
  | _ => False
end DL

/-! DL47: == and != of lists of things with an own __eq__, where they are alike. -/
namespace DL
open PySem PySem.SeqAt PySem.Spec PyProof.Rows L2 GQ
open AutoSeq1 (wpAny_loadPart')
open MeetsSeq MeetsSeq2 MeetsSeq3 SeqRoads2
section
variable {prog : Program} {w : World} {A : Around} {R : Result → Shared → Prop}
end
section
variable {prog : Program} {w : World} {A : Around} {E : Value → Shared → Prop} {s : Shared}
end
section
variable {X : Cx} {n m : Nat} {D0 : Eqv}
def RcNG (X : Cx) (n : Nat) (D : Eqv) : Prop :=
  ∀ (A : Around) (pins : List (Addr × Obj)) (s : Shared) (σ : L2.St) (H : Hp) (x y : V) (u v : Value), Sub X n A → Inv X pins σ H s → RelV x u → RelV y v → D x y H →
    wpAny (model X.prog X.w) A (richCompare .NotEq u v) (fun r s' => r = .bool false ∧ ∃ H', Inv X pins σ H' s' ∧ Ext H H') X.xe s
def rNeG (D : Eqv) : R2 := fun x y H Q => D x y H ∧ ∀ H', Ext H H' → Q (.bl false) H'
/-! ### as data -/
/-- the own == of two things tells True -/
def eqPair (C : Str) (sp : DSp) (a b : D) : Prop := ∃ fs gs, a = .ins C fs ∧ b = .ins C gs ∧ sp [.v a, .v b] (fun r _ => r = .v (.bl true)) (fun _ _ _ _ => False)
def Req (K : PySem.W.Frag) (C : Str) (sp : DSp) : Addr → Addr → Hp → Prop := fun a b H => ∃ H0 fs gs, Same H0 H ∧ Rep K H0 (.ref a) (.ins C fs) ∧ Rep K H0 (.ref b) (.ins C gs) ∧ sp [.v (.ins C fs), .v (.ins C gs)] (fun r _ => r = .v (.bl true)) (fun _ _ _ _ => False)
abbrev DLs (K : PySem.W.Frag) (C : Str) (sp : DSp) : Eqv := DList (DIns (He.ga K C) (Req K C sp))
/-- lists whose things are alike -/
def eqPairs (C : Str) (sp : DSp) (ds es : List D) : Prop := ds.length = es.length ∧ ∀ (i : Nat) x y, ds[i]? = some x → es[i]? = some y → eqPair C sp x y
@[irreducible] def eqLD (C : Str) (sp : DSp) (a b : D) (R : S → Prop) : Prop := ∃ ds es, a = .lst ds ∧ b = .lst es ∧ eqPairs C sp ds es ∧ R (.v (.bl true))
@[irreducible] def neLD (C : Str) (sp : DSp) (a b : D) (R : S → Prop) : Prop := ∃ ds es, a = .lst ds ∧ b = .lst es ∧ eqPairs C sp ds es ∧ R (.v (.bl false))
end
end DL

/-! DL48: x is True, x is not True. -/
namespace DL
open PySem L2
section
variable {X : Cx}
def isBD (a b : D) (R : S → Prop) : Prop := match a, b with
  | .bl a, .bl b => R (.v (.bl (decide (a = b))))
  | _, _ => False
def notBD (a b : D) (R : S → Prop) : Prop := match a, b with
  | .bl a, .bl b => R (.v (.bl (!decide (a = b))))
  | _, _ => False
end
end DL

/-! DL49: i ^ j of ints; x in a list of data of any depth. -/
namespace DL
open PySem L2
section
variable {X : Cx}
def xorD : D → D → (S → Prop) → Prop
  | .int i, .int j, R => R (.v (.int (Builtin.bitXor i j)))
  | _, _, _ => False
end
end DL
namespace DL
open PySem L2
section
variable {X : Cx}
/-- x in a list, where items are data of any depth -/
def inP (x : D) (ds : List D) : Bool := (toPs ds).any fun z => PyData.eqv z (toP x)
def inPD (neg : Bool) (a b : D) (R : S → Prop) : Prop := okD a = true ∧ okD b = true ∧ match b with
  | .lst ds => R (.v (.bl (if neg then !inP a ds else inP a ds)))
  | _ => False
end
end DL

/-! DL50: own dicts in slots: {}, setdefault, get, x[k], sorted. -/
namespace DL
open PySem L2

/-! ### what a dict holds -/
def valD (kvs : List (Key × D)) (k : Key) : Option D := match kvs with
  | [] => none
  | (q, d) :: r => if q = k then some d else valD r k
/-- setdefault -/
def setdD (kvs : List (Key × D)) (k : Key) (d : D) : List (Key × D) := match valD kvs k with
  | some _ => kvs
  | none => kvs ++ [(k, d)]
theorem KReps.val {K : PySem.W.Frag} {H : Hp} {k : Key} : ∀ {ws : List (Key × V)} {kvs : List (Key × D)}, KReps K H ws kvs → (valV ws k = none ∧ valD kvs k = none) ∨ ∃ v d, valV ws k = some v ∧ valD kvs k = some d ∧ Rep K H v d
  | _, _, .nil => .inl ⟨rfl, rfl⟩
  | _, _, .cons (k := q) r t => by
    by_cases e : q = k
    · exact .inr ⟨_, _, valV_pos e, by rw [valD, if_pos e], r⟩
    · rw [valV_neg e, valD, if_neg e]
      exact t.val
theorem KReps.length {K : PySem.W.Frag} {H : Hp} : ∀ {ws : List (Key × V)} {kvs : List (Key × D)}, KReps K H ws kvs → ws.length = kvs.length
  | _, _, .nil => rfl
  | _, _, .cons r t => by rw [List.length_cons, List.length_cons, t.length]
theorem KReps.keys {K : PySem.W.Frag} {H : Hp} : ∀ {ws : List (Key × V)} {kvs : List (Key × D)}, KReps K H ws kvs → ws.map (·.1) = kvs.map (·.1)
  | _, _, .nil => rfl
  | _, _, .cons r t => by rw [List.map_cons, List.map_cons, t.keys]
theorem Fit.dicAt {Γ : Fx} {K : PySem.W.Frag} {H0 : Hp} {σ : St} {ρ : Rho} {H : Hp} (F : Fit Γ K H0 σ ρ H) {i : Nat} {kvs : List (Key × D)} {G : List Addr} (h : ρ[i]? = some (some (.x (.dic kvs) G))) :
    ∃ p ws, σ[i]? = some (some (.ref p)) ∧ G = [p] ∧ H p = some (.dK ws) ∧ KReps K H0 ws kvs ∧ H0 p = none := by
  obtain ⟨v, h1, h2, p, ws, rfl, rfl, h3, h4⟩ := F.xAt h
  exact ⟨p, ws, h1, rfl, h3, h4, h2 p List.mem_cons_self⟩
/-- the dict's own address stays -/
def keyD : D → Option Key
  | .int i => some (.inl i)
  | .str x => some (.inr x)
  | _ => none
theorem Rep.key {K : PySem.W.Frag} {H : Hp} {v : V} {d : D} {k : Key} (r : Rep K H v d) (e : keyD d = some k) : v = kV k := by
  cases r <;> cases e <;> rfl
def isDic (i : Nat) (ρ : Rho) : Prop := match ρ[i]? with
  | some (some (.x (.dic _) _)) => True
  | _ => False
/-- with the dict of the slot i -/
def withD (i : Nat) (ρ : Rho) (k : List (Key × D) → List Addr → Prop) : Prop := match ρ[i]? with
  | some (some (.x (.dic kvs) G)) => k kvs G
  | _ => False
/-- with the key that d is -/
def withK (d : D) (k : Key → Prop) : Prop := match d with
  | .int i => k (.inl i)
  | .str x => k (.inr x)
  | _ => False
def dNewD : DT := fun ρ R => ∀ p, R (.x (.dic []) [p]) ρ
/-- x.setdefault(k, e) -/
def dSetd (i : Nat) (tk te : DT) : DT := fun ρ R => isDic i ρ ∧ tk ρ fun rk ρ1 => te ρ1 fun re ρ2 => withK rk.d fun k => withD i ρ2 fun kvs G => kvs.length < sizeLine ∧ R (.v ((valD kvs k).getD re.d)) (ρ2.set i (some (.x (.dic (setdD kvs k re.d)) G)))
/-- x.get(k, e) -/
def dGet2 (i : Nat) (tk te : DT) : DT := fun ρ R => isDic i ρ ∧ tk ρ fun rk ρ1 => te ρ1 fun re ρ2 => withK rk.d fun k => withD i ρ2 fun kvs G => R (.v ((valD kvs k).getD re.d)) ρ2
/-- x[k] -/
def dIxK (i : Nat) (tk : DT) : DT := fun ρ R => isDic i ρ ∧ tk ρ fun rk ρ1 => withK rk.d fun k => withD i ρ1 fun kvs G => ∃ d, valD kvs k = some d ∧ R (.v d) ρ1
/-- sorted(x) -/
def dSortK (i : Nat) : DT := fun ρ R => withD i ρ fun kvs G => ∃ ns : List Int, kvs.map (·.1) = ns.map Sum.inl ∧ ∀ ms : List Int, ms.Perm ns → ms.Pairwise (· ≤ ·) → R (.o (ms.map D.int)) ρ
section
variable {X : Cx} {Γ : Fx} {o e k : Expr} {i : Nat} {tk te : DT} {pos apos cpos : Pos}
end
section
open PyProof.Rows
variable {X : Cx}
/-- sorted(d) of a dict whose keys are ints, any number of them -/
def rSortedDK : List V → Hp → VK → Prop := fun xs H Q => ∃ (a : Addr) (kvs : List (Key × V)) (ks : List Int), xs = [.ref a] ∧ Rd H a (.dK kvs) ∧ kvs.map (·.1) = ks.map Sum.inl ∧
    ∀ (ys : List Int) (p : Addr), ys.Perm ks → ys.Pairwise (· ≤ ·) → H p = none → Q (.ref p) (upd H p (.lst (ys.map V.int)))
end
section
variable {X : Cx} {Γ : Fx} {x : Str} {p pos : Pos} {e : Expr} {i : Nat}
end
end DL

/-! DL51: own lists within a list or a tuple of the frame's own: made, handed back, changed, lent. -/
namespace DL
open PySem L2

def boxD : Bool → List (D ⊕ List D) → D
  | true, its => .tup (its.map itD)
  | false, its => .lst (its.map itD)
/-- with the box of the slot i -/
def withB (i : Nat) (ρ : Rho) (k : Bool → List (D ⊕ List D) → List Addr → Prop) : Prop := match ρ[i]? with
  | some (some (.x (.box b its) F)) => k b its F
  | _ => False
/-- with the own list at k -/
def withI (its : List (D ⊕ List D)) (k : Nat) (f : List D → Prop) : Prop := match its[k]? with
  | some (.inr es) => f es
  | _ => False
theorem IReps.length {K : PySem.W.Frag} {H0 H : Hp} : ∀ {vs : List V} {its : List (D ⊕ List D)} {F : List Addr}, IReps K H0 H vs its F → vs.length = its.length
  | _, _, _, .nil => rfl
  | _, _, _, .dat _ t => by rw [List.length_cons, List.length_cons, t.length]
  | _, _, _, .own _ _ t => by rw [List.length_cons, List.length_cons, t.length]
/-- the own list at k, and it changed -/
theorem IReps.at {K : PySem.W.Frag} {H0 H : Hp} {es : List D} : ∀ {vs : List V} {its : List (D ⊕ List D)} {F : List Addr} {k : Nat}, IReps K H0 H vs its F → F.Nodup → its[k]? = some (.inr es) →
    ∃ q xs, vs[k]? = some (.ref q) ∧ H q = some (.lst xs) ∧ Reps K H0 xs es ∧ q ∈ F ∧ ∀ zs es', Reps K H0 zs es' → IReps K H0 (upd H q (.lst zs)) vs (its.set k (.inr es')) F
  | _, _, _, k, .nil, _, e => by simp at e
  | _, _, _, 0, .dat _ t, _, e => by simp at e
  | _, _, _, k + 1, .dat r t, nd, e => by
    obtain ⟨q, xs, h1, h2, h3, h4, h5⟩ := t.at nd (by simpa using e)
    exact ⟨q, xs, by simpa using h1, h2, h3, h4, fun zs es' r' => .dat r (h5 zs es' r')⟩
  | _, _, _, 0, .own (q := q) (xs := xs) h r t, nd, e => by
    simp at e
    subst e
    refine ⟨q, xs, rfl, h, r, List.mem_cons_self, fun zs es' r' => .own upd_same r' (t.stay (Same.refl _) fun a ha => upd_ne fun z => ?_)⟩
    subst z
    exact (List.nodup_cons.mp nd).1 ha
  | _, _, _, k + 1, .own (q := q0) h r t, nd, e => by
    obtain ⟨q, xs, h1, h2, h3, h4, h5⟩ := t.at (List.nodup_cons.mp nd).2 (by simpa using e)
    have hne : q0 ≠ q := fun z => by subst z; exact (List.nodup_cons.mp nd).1 h4
    exact ⟨q, xs, by simpa using h1, h2, h3, List.mem_cons_of_mem _ h4, fun zs es' r' => .own (by rw [upd_ne hne]; exact h) r (h5 zs es' r')⟩
/-! ### x[k].m(..) -/
def dBoxM0 (i k : Nat) (f : MtF) : DT := fun ρ R => withB i ρ fun b its F => withI its k fun es => f es [] fun d es' => R (.v d) (ρ.set i (some (.x (.box b (its.set k (.inr es'))) F)))
/-- x[k].m(c), c a constant -/
def dBoxM (i k : Nat) (f : MtF) (c : D) : DT := fun ρ R => withB i ρ fun b its F => withI its k fun es => f es [c] fun d es' => R (.v d) (ρ.set i (some (.x (.box b (its.set k (.inr es'))) F)))
/-- e[k].m() of a new box that nobody keeps -/
def dTmpM0 (te : DT) (k : Nat) (f : MtF) : DT := fun ρ R => te ρ fun r ρ1 => match r with
  | .x (.box _ its) _ => withI its k fun es => f es [] fun d _ => R (.v d) ρ1
  | _ => False
section
variable {X : Cx} {Γ : Fx} {e o ix : Expr} {es : List Expr} {i k : Nat} {ta : DAT} {te : DT} {f : MtF} {name : Str} {apos cpos spos : Pos} {id : String} {r : V → List V → Hp → VK → Prop}
end
/-! ### a list display of new lists -/
def itS : S → D ⊕ List D
  | .o ds => .inr ds
  | s => .inl s.d
def dBox (ta : DOT) : DT := fun ρ R => ta ρ fun ss ρ1 => ss.length ≤ sizeLine ∧ ∀ F, R (.x (.box false (ss.map itS)) F) ρ1
theorem OReps.its {K : PySem.W.Frag} {H0 H : Hp} {vs : List V} {ss : List S} {tm : List (Addr × List V)} (o : OReps K H0 vs ss tm) : (∀ p xs, (p, xs) ∈ tm → H p = some (.lst xs)) →
    ∃ F, IReps K H0 H vs (ss.map itS) F ∧ F.Nodup ∧ ∀ a, a ∈ F → ∃ xs, (a, xs) ∈ tm := by
  induction o with
  | nil => exact fun _ => ⟨[], .nil, List.nodup_nil, fun a h => by cases h⟩
  | v r o ih =>
    intro h
    obtain ⟨F, h1, h2, h3⟩ := ih h
    exact ⟨F, .dat r h1, h2, h3⟩
  | @o p xs ds vs ss tm1 rx hp o ih =>
    intro h
    obtain ⟨F, h1, h2, h3⟩ := ih fun p' ys hm => h p' ys (List.mem_append_left _ hm)
    refine ⟨p :: F, .own (h p xs (List.mem_append_right _ List.mem_cons_self)) rx h1, List.nodup_cons.mpr ⟨fun z => ?_, h2⟩, fun a ha => ?_⟩
    · obtain ⟨ys, hm⟩ := h3 p z
      exact hp ys hm
    · rcases List.mem_cons.mp ha with rfl | ha
      · exact ⟨xs, List.mem_append_right _ List.mem_cons_self⟩
      · obtain ⟨ys, hm⟩ := h3 a ha
        exact ⟨ys, List.mem_append_left _ hm⟩
section
variable {X : Cx} {Γ : Fx} {es : List Expr} {ta : DOT} {pos : Pos}
end
/-! ### return (.., x, ..): own lists go out in a tuple -/
def boxIt (ρ : Rho) : Hd → Option (D ⊕ List D)
  | .val d => some (.inl d)
  | .slot i => match ρ[i]? with
    | some (some (.v d)) => some (.inl d)
    | some (some (.o ds)) => some (.inr ds)
    | _ => none
def boxIts (ρ : Rho) : List Hd → Option (List (D ⊕ List D))
  | [] => some []
  | h :: hs => match boxIt ρ h, boxIts ρ hs with
    | some x, some xs => some (x :: xs)
    | _, _ => none
/-- no slot twice -/
def onceH : List Hd → Bool
  | [] => true
  | .val _ :: hs => onceH hs
  | .slot i :: hs => slotFree i hs && onceH hs
def dRetBox (ta : DAT) : DST := fun De ρ => ta ρ fun hs ρ1 => onceH hs = true ∧ hs.length ≤ sizeLine ∧ match boxIts ρ1 hs with
  | some its => ∀ F, De.rt (.x (.box true its) F) ρ1
  | none => False
section
variable {X : Cx} {Γ : Fx} {es : List Expr} {ta : DAT} {pos pos' : Pos}
end
/-! ### a box lent as data while an expression is told -/
def okO : Option S → Bool
  | some (.o es) => immL es
  | some (.m es) => immL es
  | some (.x x _) => x.imm
  | _ => true
def keepB : Rho → Bool
  | [] => true
  | o :: r => okO o && keepB r
def vsO : Option S → Option D
  | some (.v d) => some d
  | _ => none
def vsR : Rho → List (Option D)
  | [] => []
  | o :: r => vsO o :: vsR r
def dKeepX (i : Nat) (t : DT) : DT := fun ρ R => withB i ρ fun b its F => t (ρ.set i (some (.v (boxD b its)))) fun r ρ' => vsR ρ' = vsR (ρ.set i (some (.v (boxD b its)))) ∧ keepB ρ' = true ∧ r.imm = true ∧ R r (ρ'.set i (some (.x (.box b its) F)))
theorem IReps.cells {K : PySem.W.Frag} {H0 H H1 : Hp} : ∀ {vs : List V} {its : List (D ⊕ List D)} {F : List Addr}, IReps K H0 H vs its F → Reps K H1 vs (its.map itD) → ∀ a ∈ F, ∃ xs, H1 a = some (.lst xs)
  | _, _, _, .nil, _, a, z => by cases z
  | _, _, _, .dat r t, .cons _ t', a, z => t.cells t' a z
  | _, _, _, .own h r t, .cons r' t', a, z => by
    rcases List.mem_cons.mp z with rfl | z
    · have r' : Rep K H1 (.ref a) (.lst _) := r'
      cases r' with
      | lst h1 _ => exact ⟨_, h1⟩
    · exact t.cells t' a z
section
variable {X : Cx} {Γ : Fx} {e : Expr} {i : Nat} {t : DT}
def dtKeepX (i : Nat) (t : DTT) : DTT := fun ρ R => withB i ρ fun b its F => t (ρ.set i (some (.v (boxD b its)))) fun r ρ' => vsR ρ' = vsR (ρ.set i (some (.v (boxD b its)))) ∧ keepB ρ' = true ∧ R r (ρ'.set i (some (.x (.box b its) F)))
end
end DL

/-! DL52: min of three ints. -/
namespace DL
open PySem L2
def min3D : List D → (S → Prop) → Prop
  | [.int i, .int j, .int k], R => R (.v (.int (if j < i then (if k < j then k else j) else (if k < i then k else i))))
  | _, _ => False
end DL

/-! DL53: x.count(b), x.index(b) of lists of truths. -/
namespace DL
open PySem PySem.Spec PyProof.Rows L2
section
variable {X : Cx}
theorem count_eqU {x : V} : ∀ {xs : List V} {us : List Value}, Vals xs us → xs.all flatV = true → us.countP (eqU x) = xs.countP fun y => eqV y x
  | _, _, .nil, _ => rfl
  | y :: xs, u :: us, .cons r t, f => by
    rw [List.all_cons, Bool.and_eq_true] at f
    rw [List.countP_cons, List.countP_cons, count_eqU t f.2, eqU_of r f.1]
def rCntF (K : PySem.W.Frag) : V → List V → Hp → VK → Prop := fun x xs H Q => ∃ (p : Addr) (ys : List V) (y : V), x = .ref p ∧ xs = [y] ∧ SqL K H p ys ∧ flatV y = true ∧ ys.all flatV = true ∧ Q (.int ((ys.countP fun z => eqV z y : Nat) : Int)) H
theorem mt_cntF : MtR X "list.count" (rCntF X.K) := by
  intro pins s σ H x xs v us Q I rx rxs h
  obtain ⟨p, ys, y, rfl, rfl, hs, fy, fys, q⟩ := h
  cases rx
  obtain ⟨u, rfl, ru⟩ := rxs.one
  obtain ⟨its, rv, ⟨⟨cls, dd, data, sl⟩, n, ho, hc, hdn, hd⟩, hlen⟩ := I.list hs
  simp only at hc hd
  subst hc hd
  refine call_meets PySem.F.slot_list_count ⟨_, ho, rfl⟩ PySem.F.entry_list_count (PySem.F.args_list_count_2 _ _)
    (SeqAt.list_countAt p its.toArray n dd sl u (eqU y)) ⟨ho, fun u' hu' => mem_eqAt ru fy rv fys u' (by simpa using hu'), ?_⟩
  have ec : its.toArray.toList.countP (eqU y) = ys.countP fun z => eqV z y := count_eqU rv fys
  refine ⟨.int ((ys.countP fun z => eqV z y : Nat) : Int), H, I.tok _, ⟨s.toks, ?_⟩, q⟩
  show Value.int ((its.toArray.toList.countP (eqU y) : Nat) : Int) s.toks = _
  rw [ec]
theorem upd_self {H : Hp} {p : Addr} {o : HO} (h : H p = some o) : upd H p o = H := by
  funext b
  by_cases e : b = p
  · rw [e, upd_same, h]
  · rw [upd_ne e]
theorem lt_idxOf_ne0 {b : Bool} : ∀ {bs : List Bool} {j : Nat}, j < bs.idxOf b → ∀ (h : j < bs.length), bs[j] ≠ b
  | a :: r, 0, h, _ => fun e => by
    have e : a = b := e
    subst e
    simp at h
  | a :: r, j + 1, h, h2 => by
    by_cases e : a = b
    · subst e; simp at h
    · have hb : (a == b) = false := by simpa using e
      have h' : j < r.idxOf b := by
        rw [List.idxOf_cons, hb] at h
        exact Nat.lt_of_succ_lt_succ h
      exact lt_idxOf_ne0 h' (Nat.lt_of_succ_lt_succ h2)
/-- the truths of a list -/
theorem reps_bls {K : PySem.W.Frag} {H : Hp} : ∀ {ds : List D} {bs : List Bool} {xs : List V}, blsOf ds = some bs → Reps K H xs ds → xs = bs.map V.bl
  | [], bs, _, h, r => by
    cases r
    injection h with h
    rw [← h]; rfl
  | .bl b :: ds, bs, _, h, r => by
    rw [blsOf] at h
    split at h
    · rename_i bs' q
      injection h with h
      cases r with
      | cons r0 rt =>
        cases r0
        rw [← h, reps_bls q rt]; rfl
    · cases h
theorem flat_bls (bs : List Bool) : (bs.map V.bl).all flatV = true := by
  induction bs with
  | nil => rfl
  | cons b r ih => rw [List.map_cons, List.all_cons, ih]; rfl
theorem count_bls (b : Bool) : ∀ bs : List Bool, ((bs.map V.bl).countP fun z => eqV z (.bl b)) = bs.count b
  | [] => rfl
  | a :: r => by
    rw [List.map_cons, List.countP_cons, List.count_cons, count_bls b r]
    rfl
def countF : MtF := fun ds as R => match as with
  | [.bl b] => (match blsOf ds with
    | some bs => R (.int (bs.count b : Nat)) ds
    | none => False)
  | _ => False
def indexF : MtF := fun ds as R => match as with
  | [.bl b] => (match blsOf ds with
    | some bs => b ∈ bs ∧ R (.int (bs.idxOf b : Nat)) ds
    | none => False)
  | _ => False
theorem m_count : OpM X (rCntF X.K) countF := by
  intro H0 H p xs ys ds as R Q e hx rx ry h k
  unfold countF at h
  split at h
  · rename_i b
    split at h
    · rename_i bs q
      have ex := reps_bls q rx
      cases ry with
      | cons r t =>
        cases r
        cases t
        refine ⟨p, xs, _, rfl, rfl, .inl (.inl hx), rfl, by rw [ex]; exact flat_bls bs, ?_⟩
        have := k _ _ (.int (bs.count b : Nat)) _ h (Rep.int _) rx
        rw [upd_self hx] at this
        rw [ex, count_bls]
        exact this
    · exact h.elim
  · exact h.elim
theorem m_index : OpM X (rIndex X.K) indexF := by
  intro H0 H p xs ys ds as R Q e hx rx ry h k
  unfold indexF at h
  split at h
  · rename_i b
    split at h
    · rename_i bs q
      obtain ⟨hm, h⟩ := h
      have ex := reps_bls q rx
      have hj : bs.idxOf b < bs.length := List.idxOf_lt_length_iff.mpr hm
      cases ry with
      | cons r t =>
        cases r
        cases t
        refine ⟨p, xs, _, bs.idxOf b, .bl b, rfl, rfl, .inl (.inl hx), rfl, by rw [ex]; exact flat_bls bs, ?_, ?_, ?_, ?_⟩
        · rw [ex, List.getElem?_map, List.getElem?_eq_getElem hj, List.getElem_idxOf hj]; rfl
        · show (b == b) = true
          simp
        · intro m z' hlt hz
          rw [ex, List.getElem?_map] at hz
          have hm' : m < bs.length := by omega
          rw [List.getElem?_eq_getElem hm'] at hz
          injection hz with hz
          rw [← hz]
          show (bs[m] == b) = false
          simpa using lt_idxOf_ne0 hlt hm'
        · have := k _ _ (.int (bs.idxOf b : Nat)) _ h (Rep.int _) rx
          rw [upd_self hx] at this
          exact this
    · exact h.elim
  · exact h.elim
end
end DL

/-! DL54: str(n). -/
namespace DL
open PySem PySem.Spec PyProof.Rows L2
section
variable {X : Cx}
def txtI (i : Int) : Str := toString i
def strD : List D → (S → Prop) → Prop
  | [.int i], R => i.natAbs.log2 < 1920 ∧ R (.v (.str (txtI i)))
  | _, _ => False
theorem o_str : OpN X (fun xs H Q => ∃ i, xs = [.int i] ∧ i.natAbs.log2 < 1920 ∧ Q (.str (toString i)) H) strD := by
  intro Γ H0 σ ρ H xs as R Q F t h k
  unfold strD at h
  split at h
  · rename_i i
    cases t with
    | cons t0 t =>
      cases t
      cases t0.int
      exact ⟨i, rfl, h.1, k _ _ H0 H h.2 F (Same.refl _) (Rep.str _)⟩
  · exact h.elim
theorem log_small {i : Int} (h1 : -(2 : Int) ^ 64 < i) (h2 : i < 2 ^ 64) : i.natAbs.log2 < 1920 := by
  by_cases h : i.natAbs = 0
  · rw [h]; decide
  · exact Nat.lt_of_lt_of_le ((Nat.log2_lt h).mpr (show i.natAbs < 2 ^ 64 by omega)) (by decide)
end
end DL

/-! DL55: str(thing), repr(thing) by an own __str__, __repr__; f-strings of texts, numbers and things. -/
namespace DL
open PySem PySem.Spec PyProof.Rows L2
section
variable {X : Cx}
/-- a text that the class's own method tells of x -/
def rTxI (C : Addr) (s0 : Sp) (x : V) (H : Hp) (Q : VK) : Prop := ∃ a dx fs, x = .ref a ∧ H a = some (.ins C dx fs) ∧ s0 [.ref a] H (fun v H' => ∃ y : Str, v = .str y ∧ Q (.str y) H') (fun _ _ _ => False)
theorem tx_run {pins : List (Addr × Obj)} {σ : L2.St} {H : Hp} {s : Shared} {A1 : Around} {f : Addr} {fd : FuncData} {ps : List PySem.Str} {s0 : Sp} {n : Nat} {a : Addr} {Q : VK}
    (F : FnOk X.prog X.w X.K X.mg X.base CX0 n f fd ps s0) (hr : Room n A1) (hb : Binds X.K fd ps []) (I : Inv X pins σ H s) (e0 : Env0 X.prog X.w X.K X.mg X.base A1 X.stack s H)
    (hsp : s0 [.ref a] H (fun v H' => ∃ y : Str, v = .str y ∧ Q (.str y) H') (fun _ _ _ => False)) :
    wpAny (model X.prog X.w) A1 (call (.ref f) [.ref a]) (PySem.W.StrBack (EP X pins σ Q)) X.xe s := by
  have hl := F.len _ _ _ _ hsp
  have r2 : Vals [V.ref a] [Value.ref a] := .cons rfl .nil
  refine wpAny_call (codeAny_mono (F.run A1 X.stack s H ⟨[.ref a], []⟩ [.ref a] [.ref a] _ _ hr e0 (by
    have := hb s [.ref a] I.kIn (by simpa using hl)
    simpa using this) r2 hsp) fun r s' hq => ?_)
  cases r with
  | error e => exact pass0 pins σ H s e s' I hq
  | ok fl =>
    cases fl with
    | ret w =>
      obtain ⟨z, H', I', rz, y, rfl, q⟩ := I.after hq
      obtain ⟨t, rfl⟩ := rz
      exact ⟨.str y, H', I', ⟨_, rfl⟩, q⟩
    | next => exact False.elim hq
    | brk => exact False.elim hq
    | cont => exact False.elim hq
theorem call_strI {C f : Addr} {fd : FuncData} {ps : List PySem.Str} {s0 : Sp} {n : Nat} (F : FnOk X.prog X.w X.K X.mg X.base CX0 n f fd ps s0) (hr : Room (n + 2) X.A) (hs : PySem.W.findIn X.K (.ref C) "__str__" = some (some (.ref f))) (hf : PySem.W.isFn X.K (.ref f) = true) (hb : Binds X.K fd ps []) :
    CallR X (.type "str") (fun xs H Q => ∃ x, xs = [x] ∧ rTxI C s0 x H Q) := by
  intro pins s σ H xs us Q I rs d
  obtain ⟨x, rfl, a, dx, fs, rfl, ha, hsp⟩ := d
  rw [Vals.ref1 rs]
  obtain ⟨mA, J, _⟩ := ins_get I.hok ha
  obtain ⟨od, J, _⟩ := J.look
  exact PySem.W.kso_call hr.in1.in1.units0 I.kIn J hs hf (tx_run F hr.in1.in1 hb I I.env0.in1.in1 hsp)
/-- {x}: a number, a text, a thing of the class C -/
def rFmtD (x : V) (H1 : Hp) (Q : VK) : Prop := (∃ y : Str, x = .str y ∧ y.length ≤ sizeLine ∧ Q (.str y) H1) ∨ ∃ i : Int, x = .int i ∧ i.natAbs.log2 < 1920 ∧ Q (.str (toString i)) H1
/-! over data -/
def txD (C : Str) (sp : DSp) (a : D) (R : S → Prop) : Prop := ∃ fs, a = .ins C fs ∧ sp [.v a] (fun r _ => ∃ y : Str, r = .v (.str y) ∧ R (.v (.str y))) (fun _ _ _ _ => False)
theorem o_tx {C : Str} {sp : DSp} {Γ : Fx} {H0 : Hp} {σ : L2.St} {ρ : Rho} {H : Hp} {x : V} {a : D} {R : S → Prop} {Q : VK} (F : Fit Γ X.K H0 σ ρ H) (ta : Top X.K H0 H x a) (h : txD C sp a R)
    (k : ∀ r v H0' H', R r → Fit Γ X.K H0' σ ρ H' → Same H0 H0' → RRep Γ X.K H0' σ ρ H' v r → Q v H') : rTxI (He.ga X.K C) (LSp X.K sp) x H Q := by
  obtain ⟨fs, rfl, hsp⟩ := h
  obtain ⟨p, dx, vs, rfl, hp, rp⟩ := ta.ins
  refine ⟨p, dx, vs, rfl, F.sub _ _ hp, H0, [.v (.ins C fs)], _, _, F.sub, .cons (s := .v (.ins C fs)) (Rep.ins hp rp) .nil, by simp [cntM], hsp, fun r es v H0' H' hR st _ rr => ?_, fun C f d es e v H0' H' z => z.elim⟩
  obtain ⟨y, rfl, hR⟩ := hR
  have ev : v = .str y := by
    cases (show Rep X.K H0' v (.str y) from rr)
    rfl
  subst ev
  refine ⟨y, rfl, k _ _ H0' H' hR ?_ st.sub (Rep.str y)⟩
  have st : Stp [] H0 H H0' H' := st
  exact F.step st.sub st.top (fun a o z => st.keep a o z (by simp)) (fun a o h1 h2 => F.noneS (st.new a o h1 h2)) (fun i s ds p h1 h2 h3 => by
    obtain ⟨g1, xs, g2, _⟩ := F.ownNone h1 h2 h3
    cases z : H0' p with
    | none => rfl
    | some o =>
      have := st.new p o z g1
      rw [g2] at this
      cases this) (fun p xs h => by
    obtain ⟨g1, g2, _⟩ := F.tmp p xs h
    cases z : H0' p with
    | none => rfl
    | some o =>
      have := st.new p o z g2
      rw [g1] at this
      cases this) (fun i x G a h1 h2 => by
    obtain ⟨g1, o', g2⟩ := F.xSome h1 h2
    cases z : H0' a with
    | none => rfl
    | some o =>
      have := st.new a o z g1
      rw [g2] at this
      cases this)
/-- str(x): of a thing by its own __str__, of a number -/
@[irreducible] def strAD (C : Str) (sp : DSp) : List D → (S → Prop) → Prop := fun as R => match as with
  | [.ins C' fs] => txD C sp (.ins C' fs) R
  | as => strD as R
/-- repr(x), by an own __repr__ -/
@[irreducible] def reprAD (C : Str) (sp : DSp) : List D → (S → Prop) → Prop := fun as R => match as with
  | [.ins C' fs] => txD C sp (.ins C' fs) R
  | _ => False
theorem call_strA {C : Str} {fd : FuncData} {ps : List PySem.Str} {sp : DSp} {n : Nat} (G : MtD X CX0 C "__str__" n ps sp fd) (hr : Room (n + 2) X.A) (hb : Binds X.K fd ps []) :
    CallR X (.type "str") (fun xs H Q => (∃ i, xs = [.int i] ∧ i.natAbs.log2 < 1920 ∧ Q (.str (toString i)) H) ∨ ∃ x, xs = [x] ∧ rTxI (He.ga X.K C) (LSp X.K sp) x H Q) :=
  CallR.or call_str_int (call_strI G.ok hr G.met.at_ G.met.fn hb)
theorem o_strA {C : Str} {sp : DSp} : OpN X (fun xs H Q => (∃ i, xs = [.int i] ∧ i.natAbs.log2 < 1920 ∧ Q (.str (toString i)) H) ∨ ∃ x, xs = [x] ∧ rTxI (He.ga X.K C) (LSp X.K sp) x H Q) (strAD C sp) := by
  intro Γ H0 σ ρ H xs as R Q F t h k
  unfold strAD at h
  split at h
  · obtain ⟨v, rfl, t1⟩ := t.one
    exact .inr ⟨v, rfl, o_tx F t1 h k⟩
  · exact .inl (o_str Γ H0 σ ρ H xs _ R Q F t h k)
/-- {x} of a number or a text -/
def dFmt (ta : DHT) : DT := fun ρ R => ta ρ fun a ρ1 => match a.get ρ1 with
  | some (.int i) => i.natAbs.log2 < 1920 ∧ R (.v (.str (txtI i))) ρ1
  | some (.str y) => y.length ≤ sizeLine ∧ R (.v (.str y)) ρ1
  | _ => False
theorem de_fmt {Γ : Fx} {e : Expr} {pos : Pos} {ta : DHT} (ha : DH X Γ e ta) : DE X Γ (.FormattedValue e (-1) none pos) (dFmt ta) :=
  ⟨fun tm => peLe (pe_fmt (ha.run tm)) fun σ H Q ⟨H0, ρ, R, F, t, k⟩ => ⟨H0, ρ, _, F, t, fun h ρ1 v H1 H' q F' e' rr => by
    split at q
    · rename_i i g
      have r2 := (F'.top rr g).other (by simp)
      cases r2
      exact .inr ⟨i, rfl, q.1, k _ ρ1 _ H1 H' q.2 F' e' (Rep.str _)⟩
    · rename_i y g
      have r2 := (F'.top rr g).other (by simp)
      cases r2
      exact .inl ⟨y, rfl, q.1, k _ ρ1 _ H1 H' q.2 F' e' (Rep.str _)⟩
    · exact q.elim⟩⟩
/-- {x} of a thing -/
def dFmtI (C : Str) (sp : DSp) (ta : DHT) : DT := fun ρ R => ta ρ fun a ρ1 => match a.get ρ1 with
  | some x => txD C sp x fun r => R r ρ1
  | none => False
def fmB (C : Str) (K : PySem.W.Frag) : Bool := decide (PySem.W.findIn K (.ref (He.ga K C)) "__format__" = some (some (.builtin "object.__format__")))
/-- the parts of an f-string -/
def dJs : List DT → Str → Rho → (Str → Rho → Prop) → Prop
  | [], acc, ρ, R => R acc ρ
  | t :: ts, acc, ρ, R => t ρ fun r ρ1 => match r with
    | .v (.str y) => (acc ++ y).length ≤ sizeLine ∧ dJs ts (acc ++ y) ρ1 R
    | _ => False
inductive DJ (X : Cx) (Γ : Fx) : List Expr → List DT → Prop where
  | nil : DJ X Γ [] []
  | cons {e : Expr} {t : DT} {es : List Expr} {ts : List DT} (h : DE X Γ e t) (r : DJ X Γ es ts) : DJ X Γ (e :: es) (t :: ts)
theorem DJ.run {Γ : Fx} {es : List Expr} {ts : List DT} (h : DJ X Γ es ts) (tm : List (Addr × List V)) : PJ X es (ts.map fun t => LE (Γ.at tm) X.K t) := by
  induction h with
  | nil => exact .nil
  | cons h _ ih => exact .cons (h.run tm) ih
theorem js_le {Γ : Fx} : ∀ (ts : List DT) (acc : Str) {σ : L2.St} {H H0 : Hp} {ρ : Rho} {R : Str → Rho → Prop} {Q : Str → Hp → Prop}, Fit Γ X.K H0 σ ρ H → dJs ts acc ρ R → (∀ y ρ' H0' H', R y ρ' → Fit Γ X.K H0' σ ρ' H' → Same H0 H0' → Q y H') → tJs (ts.map fun t => LE Γ X.K t) acc σ H Q
  | [], acc, σ, H, H0, ρ, R, Q, F, h, k => k acc ρ H0 H h F (Same.refl _)
  | t :: ts, acc, σ, H, H0, ρ, R, Q, F, h, k => by
    refine ⟨H0, ρ, _, F, h, fun r ρ' v H0' H' q F' e' rr => ?_⟩
    split at q
    · rename_i y
      cases (show Rep X.K H0' v (.str y) from rr)
      exact ⟨y, rfl, q.1, js_le ts (acc ++ y) F' q.2 fun y2 ρ2 H2 H3 q2 F2 e2 => k y2 ρ2 H2 H3 q2 F2 (e'.trans e2)⟩
    · exact q.elim
def dJoin (ts : List DT) : DT := fun ρ R => dJs ts Str.empty ρ fun y ρ1 => R (.v (.str y)) ρ1
theorem de_joined {Γ : Fx} {v1 v2 : Expr} {rest : List Expr} {ts : List DT} {pos : Pos} (h : DJ X Γ (v1 :: v2 :: rest) ts) : DE X Γ (.JoinedStr (v1 :: v2 :: rest) pos) (dJoin ts) :=
  ⟨fun tm => peLe (pe_joined (h.run tm)) fun σ H Q ⟨H0, ρ, R, F, t, k⟩ => js_le ts Str.empty F t fun y ρ' H0' H' q F' e' => k _ ρ' _ H0' H' q F' e' (Rep.str _)⟩
end
end DL

/-! DL56: repr of lists and tuples. It asks that no repr is under way (guards = some []): the promise FnG of a def says so of its callers, from the law down. -/
namespace DL
open PySem PySem.Spec PyProof.Rows L2
/-- a def's promise, where no guard is on the stack -/
structure FnG (P : Program) (w : World) (K : PySem.W.Frag) (mg : Str → Option Value) (base : Heap) (k : Nat) (f : Addr) (fd : FuncData) (ps : List Str) (sp : Sp) : Prop where
  len : ∀ vs H Q E, sp vs H Q E → vs.length = ps.length
  run : ∀ (A : Around) (outer : List Env) (s : Shared) (H : Hp) (args : Args) (us : List Value) (vs : List V) (Q : VK) (E : XK), A.guards = some [] → Room k A → Env0 P w K mg base A outer s H → BindsTo s fd args (ps.zip us) → Vals vs us → sp vs H Q E →
    codeAny (model P w) A (.call (.ref f) args) (CR CX0 outer P w H s Q E) s
/-- any def of the other sort is of this sort, too -/
theorem FnG.of {P : Program} {w : World} {K : PySem.W.Frag} {mg : Str → Option Value} {base : Heap} {k : Nat} {f : Addr} {fd : FuncData} {ps : List Str} {sp : Sp} (F : FnOk P w K mg base CX0 k f fd ps sp) : FnG P w K mg base k f fd ps sp :=
  ⟨F.len, fun A outer s H args us vs Q E _ => F.run A outer s H args us vs Q E⟩
section
variable {X : Cx} {k : Nat} {f : Addr} {fd : FuncData} {ps : List Str} {s0 : Sp} {x : Str} {e : Expr} {es : List Expr} {p pos : Pos} {dvs : List V} {ds : List Value} {t : TA}
end
structure FnGd (X : Cx) (x : Str) (k : Nat) (ps : List Str) (sp : DSp) (f : Addr) (fd : FuncData) : Prop where
  ok : FnG X.prog X.w X.K X.mg X.base k f fd ps (LSp X.K sp)
  mg : X.mg x = some (.ref f)
  kp : PySem.W.keepIn X.K (.ref f) = true
section
variable {X : Cx} {Γ : Fx} {x : Str} {k : Nat} {ps : List Str} {sp : DSp} {f : Addr} {fd : FuncData} {p pos : Pos} {e : Expr} {es : List Expr} {ta : DAT} {dvs : List V} {ds : List Value} {dd : List D}
end
/-! ### repr -/
def shownD (d : D) : Str := (toP d).shown
mutual
theorem noDict : ∀ d : D, (toP d).hasDict = false
  | .bl _ => by rw [toP, PyData.hasDict]
  | .int _ => by rw [toP, PyData.hasDict]
  | .str _ => by rw [toP, PyData.hasDict]
  | .lst ds => by rw [toP, PyData.hasDict]; exact noDicts ds
  | .rol ds => by rw [toP, PyData.hasDict]; exact noDicts ds
  | .tup ds => by rw [toP, PyData.hasDict]; exact noDicts ds
  | .non => by rw [toP, PyData.hasDict]
  | .ins _ _ => by rw [toP, PyData.hasDict]
  | .exc _ _ _ => by rw [toP, PyData.hasDict]
  | .ty _ => by rw [toP, PyData.hasDict]
  | .cls _ => by rw [toP, PyData.hasDict]
  | .adr _ => by rw [toP, PyData.hasDict]
theorem noDicts : ∀ ds : List D, PyData.hasDictAll (toPs ds) = false
  | [] => by rw [toPs, PyData.hasDictAll]
  | d :: ds => by rw [toPs, PyData.hasDictAll, noDict d, noDicts ds]; rfl
end
/-- of which repr may be asked -/
def repOk (d : D) : Prop := plainD d = true ∧ (toP d).showable = true ∧ (toP d).depth ≤ 60 ∧ (shownD d).length ≤ sizeLine
def reprLD : List D → (S → Prop) → Prop
  | [.lst ds], R => repOk (.lst ds) ∧ R (.v (.str (shownD (.lst ds))))
  | [.tup ds], R => repOk (.tup ds) ∧ R (.v (.str (shownD (.tup ds))))
  | _, _ => False
section
variable {X : Cx}
def rReprD (K : PySem.W.Frag) : List V → Hp → VK → Prop := fun xs H Q => ∃ a d, xs = [.ref a] ∧ Dp K H (.ref a) d ∧ d.showable = true ∧ d.depth ≤ 60 ∧ d.hasDict = false ∧ d.shown.length ≤ sizeLine ∧ Q (.str d.shown) H
end
/-! ### the head -/
end DL

/-! DL57: repr of a truth, too. -/
namespace DL
open PySem PySem.Spec PyProof.Rows L2
def reprXD : List D → (S → Prop) → Prop
  | [.bl b], R => R (.v (.str (shownD (.bl b))))
  | as, R => reprLD as R
section
variable {X : Cx}
end
end DL

/-! DL58: in, count, index of lists of things with an own __eq__, or of data; bool of a thing by its __len__; a thing == any data. -/
namespace GQ2
open PySem PySem.SeqAt GQ
open AutoSeq1 (wpAny_loadPart')
open MeetsSeq MeetsSeq2 MeetsSeq3 SeqRoads2
section
variable {prog : Program} {w : World} {A : Around} {R : Result → Shared → Prop}
/-- at each turn the list is read anew; its items told equal to u, or not, by bl -/
def SeqI (prog : Program) (w : World) (A : Around) (E : Value → Shared → Prop) (l : Addr) (u : Value) (bl : List Bool) (I : Shared → Prop) : Prop :=
  ∀ s, I s → ∃ (items : Array Value) (n : Nat) (dd : Option Addr) (sl : Array (Option Value)), s.heap.get? l = some { cls := .type "list", dict := dd, data := .seq items n, slots := sl } ∧ items.size = bl.length ∧
    ∀ i (h : i < items.size) (h2 : i < bl.length), wpAny (model prog w) A.in1 (eqBool items[i] u) (fun r s' => r = bl[i] ∧ I s') E s
end
end GQ2

/-! DL59: in, count, index of lists of things with an own __eq__, or of data; bool of a thing by its __len__; a thing == any data. -/
namespace DL
open PySem PySem.Spec PyProof.Rows L2 GQ GQ2
/-- whether two values are told equal -/
abbrev EqvB := V → V → Hp → Bool → Prop
def MonB (D : EqvB) : Prop := ∀ x y H H' b, Ext H H' → D x y H b → D x y H' b
def EqBG (X : Cx) (n : Nat) (D : EqvB) : Prop :=
  ∀ (A : Around) (pins : List (Addr × Obj)) (s : Shared) (σ : L2.St) (H : Hp) (x y : V) (u v : Value) (b : Bool), Sub X n A → Inv X pins σ H s → RelV x u → RelV y v → D x y H b →
    wpAny (model X.prog X.w) A (eqBool u v) (fun r s' => r = b ∧ ∃ H', Inv X pins σ H' s' ∧ Ext H H') X.xe s
def OwnB (K : PySem.W.Frag) (C : Str) (sp : DSp) : EqvB := fun x y H b => ∃ a c fs gs, x = .ref a ∧ y = .ref c ∧ Rep K H (.ref a) (.ins C fs) ∧ Rep K H (.ref c) (.ins C gs) ∧ (a = c → b = true) ∧
  sp [.v (.ins C fs), .v (.ins C gs)] (fun r _ => r = .v (.bl b)) (fun _ _ _ _ => False)
def DatB (K : PySem.W.Frag) : EqvB := fun x y H b => ∃ d e, Rep K H x d ∧ Rep K H y e ∧ okD d = true ∧ okD e = true ∧ b = deqv d e
section
variable {X : Cx} {n : Nat}
/-! ### the loops -/
def PrsB (D : EqvB) (xs : List V) (y : V) (bs : List Bool) (H : Hp) : Prop := xs.length = bs.length ∧ ∀ (i : Nat) x b, xs[i]? = some x → bs[i]? = some b → D x y H b
/-! ### in, count, index -/
def rInB (K : PySem.W.Frag) (D : EqvB) (neg : Bool) : R2 := fun y x H Q => ∃ p xs bs, x = .ref p ∧ SqL K H p xs ∧ PrsB D xs y bs H ∧ ∀ H', Ext H H' → Q (.bl (if neg then !bs.any id else bs.any id)) H'
def rCntB (K : PySem.W.Frag) (D : EqvB) : V → List V → Hp → VK → Prop := fun x ys H Q => ∃ p xs y bs, x = .ref p ∧ ys = [y] ∧ SqL K H p xs ∧ PrsB D xs y bs H ∧ ∀ H', Ext H H' → Q (.int ((bs.countP id : Nat) : Int)) H'
def rIdxB (K : PySem.W.Frag) (D : EqvB) : V → List V → Hp → VK → Prop := fun x ys H Q => ∃ p xs y bs, x = .ref p ∧ ys = [y] ∧ SqL K H p xs ∧ PrsB D xs y bs H ∧ ∃ j : Nat, bs[j]? = some true ∧ (∀ m, m < j → bs[m]? = some false) ∧ ∀ H', Ext H H' → Q (.int j) H'
/-! ### bool of a thing by its __len__ -/
def rBoolI (C : Addr) (s0 : Sp) : List V → Hp → VK → Prop := fun xs H Q => ∃ a dx fs, xs = [.ref a] ∧ H a = some (.ins C dx fs) ∧ s0 [.ref a] H (fun v H' => ∃ n : Int, v = .int n ∧ 0 ≤ n ∧ n < 2 ^ 63 ∧ Q (.bl (n != 0)) H') (fun _ _ _ => False)
end
end DL

/-! DL60: in, count, index, == with any data, bool of things with own __eq__, __len__: as data. -/
namespace DL
open PySem PySem.Spec PyProof.Rows L2 GQ GQ2
def flatFs : List (Str × D) → Bool
  | [] => true
  | p :: r => flatD p.2 && flatFs r
/-- the own == of each of ds with y tells e -/
def ownsB (C : Str) (sp : DSp) (e : D → Bool) (y : D) (ds : List D) : Prop := ∃ gs, y = .ins C gs ∧ flatFs gs = true ∧ ∀ x, x ∈ ds → ∃ fs, x = .ins C fs ∧ flatFs fs = true ∧ (x = y → e x = true) ∧ sp [.v x, .v y] (fun r _ => r = .v (.bl (e x))) (fun _ _ _ _ => False)
section
variable {X : Cx}
@[irreducible] def inOD (C : Str) (sp : DSp) (neg : Bool) (y x : D) (R : S → Prop) : Prop := ∃ ds e, x = .lst ds ∧ ownsB C sp e y ds ∧ R (.v (.bl (if neg then !ds.any e else ds.any e)))
/-- a method of a list that changes nothing -/
def OpL (X : Cx) (r : V → List V → Hp → VK → Prop) (f : D → List D → (S → Prop) → Prop) : Prop := ∀ (Γ : Fx) (H0 : Hp) (σ : L2.St) (ρ : Rho) (H : Hp) (x : V) (xs : List V) (a : D) (as : List D) (R : S → Prop) (Q : VK), Fit Γ X.K H0 σ ρ H → Top X.K H0 H x a → Tops X.K H0 H xs as → f a as R →
  (∀ s v H0' H', R s → Fit Γ X.K H0' σ ρ H' → Same H0 H0' → RRep Γ X.K H0' σ ρ H' v s → Q v H') → r x xs H Q
@[irreducible] def cntOD (C : Str) (sp : DSp) (x : D) (ys : List D) (R : S → Prop) : Prop := ∃ ds e y, x = .lst ds ∧ ys = [y] ∧ ownsB C sp e y ds ∧ R (.v (.int ((ds.countP e : Nat) : Int)))
@[irreducible] def idxOD (C : Str) (sp : DSp) (x : D) (ys : List D) (R : S → Prop) : Prop := ∃ ds e y, x = .lst ds ∧ ys = [y] ∧ ownsB C sp e y ds ∧ ∃ j : Nat, (ds.map e)[j]? = some true ∧ (∀ m, m < j → (ds.map e)[m]? = some false) ∧ R (.v (.int j))
@[irreducible] def cntDD (x : D) (ys : List D) (R : S → Prop) : Prop := ∃ ds y, x = .lst ds ∧ ys = [y] ∧ okD y = true ∧ (∀ d, d ∈ ds → okD d = true) ∧ R (.v (.int ((ds.countP (fun d => deqv d y) : Nat) : Int)))
@[irreducible] def idxDD (x : D) (ys : List D) (R : S → Prop) : Prop := ∃ ds y, x = .lst ds ∧ ys = [y] ∧ okD y = true ∧ (∀ d, d ∈ ds → okD d = true) ∧ ∃ j : Nat, (ds.map fun d => deqv d y)[j]? = some true ∧ (∀ m, m < j → (ds.map fun d => deqv d y)[m]? = some false) ∧ R (.v (.int j))
def dBm (f : D → List D → (S → Prop) → Prop) (to : DHT) (ta : DAT) : DT := fun ρ R => to ρ fun a ρ1 => (∃ ds, a.get ρ1 = some (.lst ds)) ∧ ta ρ1 fun hs ρ2 => match a.get ρ2, gets ρ2 hs with
  | some d, some as => f d as fun r => R r ρ2
  | _, _ => False
/-! ### a thing == any data -/
def plainV (K : PySem.W.Frag) (H : Hp) : V → Prop
  | .ref p => ∃ xs, SqL K H p xs ∨ SqT K H p xs
  | .non => True
  | .bl _ => True
  | .int _ => True
  | .str _ => True
  | _ => False
def rEqJ (K : PySem.W.Frag) (C : Addr) (s0 : Sp) : R2 := fun x y H Q => ∃ a dx fs, x = .ref a ∧ H a = some (.ins C dx fs) ∧ plainV K H y ∧ s0 [.ref a, y] H (fun v H' => ∃ k, v = .bl k ∧ Q (.bl k) H') (fun _ _ _ => False)
def plainK : D → Bool
  | .non => true
  | .bl _ => true
  | .int _ => true
  | .str _ => true
  | .lst _ => true
  | .rol _ => true
  | .tup _ => true
  | _ => false
@[irreducible] def eqJD (C : Str) (sp : DSp) (a b : D) (R : S → Prop) : Prop := ∃ fs, a = .ins C fs ∧ plainK b = true ∧ sp [.v a, .v b] (fun r _ => (∃ k, r = .v (.bl k)) ∧ R r) (fun _ _ _ _ => False)
/-! ### bool of a thing -/
@[irreducible] def boolOD (C : Str) (sp : DSp) : List D → (S → Prop) → Prop := fun as R => ∃ fs, as = [.ins C fs] ∧ sp [.v (.ins C fs)] (fun r _ => ∃ n : Int, r = .v (.int n) ∧ 0 ≤ n ∧ n < 2 ^ 63 ∧ R (.v (.bl (n != 0)))) (fun _ _ _ _ => False)
def nbB (C : Str) (K : PySem.W.Frag) : Bool := decide (PySem.W.findIn K (.ref (He.ga K C)) "__bool__" = some none)
end
end DL

/-! DL61: own dicts by a display {"k": v, ..}, d.update({..}), x in d. -/
namespace DL
open PySem PySem.Spec PyProof.Rows L2
/-- a dict that stood among the frozen things is taken out of them -/
def hid (p : Addr) (H : Hp) : Hp := fun b => if b = p then none else H b
theorem hid_ne {p b : Addr} {H : Hp} (h : b ≠ p) : hid p H b = H b := if_neg h
theorem hid_at {p : Addr} {H : Hp} : hid p H p = none := if_pos rfl
section
variable {K : PySem.W.Frag} {H : Hp} {p : Addr} {l : List (Key × V)}
mutual
theorem Rep.hid (h : H p = some (.dK l)) : ∀ {v : V} {d : D}, Rep K H v d → Rep K (hid p H) v d
  | _, _, .non => .non
  | _, _, .bl b => .bl b
  | _, _, .int i => .int i
  | _, _, .str x => .str x
  | _, _, .ty n e => .ty n e
  | _, _, .cls C => .cls C
  | _, _, .adr => .adr
  | _, _, .lst h1 r => .lst (by rw [hid_ne (ne_dk h h1 (by intro l z; cases z))]; exact h1) (Reps.hid h r)
  | _, _, .rol h1 r => .rol (by
      rcases h1 with (h1 | ⟨o, h1⟩) | h1
      · exact .inl (.inl (by rw [hid_ne (ne_dk h h1 (by intro l z; cases z))]; exact h1))
      · exact .inl (.inr ⟨o, by rw [hid_ne (ne_dk h h1 (by intro l z; cases z))]; exact h1⟩)
      · exact .inr h1) (Reps.hid h r)
  | _, _, .tup h1 r => .tup (by
      rcases h1 with (h1 | ⟨o, h1⟩) | h1
      · exact .inl (.inl (by rw [hid_ne (ne_dk h h1 (by intro l z; cases z))]; exact h1))
      · exact .inl (.inr ⟨o, by rw [hid_ne (ne_dk h h1 (by intro l z; cases z))]; exact h1⟩)
      · exact .inr h1) (Reps.hid h r)
  | _, _, .ins h1 r => .ins (by rw [hid_ne (ne_dk h h1 (by intro l z; cases z))]; exact h1) (RepF.hid h r)
  | _, _, .exc h1 h2 r => .exc (by rw [hid_ne (ne_dk h h1 (by intro l z; cases z))]; exact h1) (by rw [hid_ne (ne_dk h h2 (by intro l z; cases z))]; exact h2) (Rep.hid h r)
theorem Reps.hid (h : H p = some (.dK l)) : ∀ {vs : List V} {ds : List D}, Reps K H vs ds → Reps K (hid p H) vs ds
  | _, _, .nil => .nil
  | _, _, .cons r t => .cons (Rep.hid h r) (Reps.hid h t)
theorem RepF.hid (h : H p = some (.dK l)) : ∀ {vs : List (Str × V)} {ds : List (Str × D)}, RepF K H vs ds → RepF K (hid p H) vs ds
  | _, _, .nil => .nil
  | _, _, .cons r t => .cons (Rep.hid h r) (RepF.hid h t)
end
end
section
variable {Γ : Fx} {K : PySem.W.Frag} {H0 : Hp} {σ : L2.St} {ρ : Rho} {H : Hp} {p : Addr}
theorem KReps.hid {l : List (Key × V)} (h : H0 p = some (.dK l)) : ∀ {vs : List (Key × V)} {ds : List (Key × D)}, KReps K H0 vs ds → KReps K (hid p H0) vs ds
  | _, _, .nil => .nil
  | _, _, .cons r t => .cons (Rep.hid h r) (t.hid h)
theorem IReps.hid {l : List (Key × V)} (h : H0 p = some (.dK l)) : ∀ {vs : List V} {ds : List (D ⊕ List D)} {G : List Addr}, IReps K H0 H vs ds G → IReps K (hid p H0) H vs ds G
  | _, _, _, .nil => .nil
  | _, _, _, .dat r t => .dat (Rep.hid h r) (t.hid h)
  | _, _, _, .own q r t => .own q (r.hid h) (t.hid h)
mutual
theorem FRep.hid {l : List (Key × V)} (h : H0 p = some (.dK l)) : ∀ {v : V} {x : Fld} {G : List Addr}, FRep K H0 H v x G → FRep K (DL.hid p H0) H v x G
  | _, _, _, .dat r => .dat (Rep.hid h r)
  | _, _, _, .lst q r => .lst q (r.hid h)
  | _, _, _, .obj q1 q2 r => .obj q1 q2 (FReps.hid h r)
theorem FReps.hid {l : List (Key × V)} (h : H0 p = some (.dK l)) : ∀ {vs : List (Str × V)} {fs : List (Str × Fld)} {G : List Addr}, FReps K H0 H vs fs G → FReps K (DL.hid p H0) H vs fs G
  | _, _, _, .nil => .nil
  | _, _, _, .cons r t => .cons (FRep.hid h r) (FReps.hid h t)
end
theorem XAt.hid {l : List (Key × V)} {v : V} {x : OwnT} {G : List Addr} (h : H0 p = some (.dK l)) (r : XAt K H0 H v x G) : XAt K (hid p H0) H v x G := by
  obtain ⟨r1, r2⟩ := r
  have hn : ∀ a ∈ G, DL.hid p H0 a = none := fun a ha => by
    by_cases z : a = p
    · rw [z]; exact hid_at
    · rw [hid_ne z]; exact r1 a ha
  refine ⟨hn, ?_⟩
  cases x with
  | obj C fs => exact ⟨FRep.hid h r2.1, r2.2⟩
  | dic kvs =>
    obtain ⟨q, ws, rfl, rfl, q1, q2⟩ := r2
    exact ⟨q, ws, rfl, rfl, q1, q2.hid h⟩
  | box t its =>
    cases t with
    | true =>
      obtain ⟨q, ys, rfl, q1, q2, q3⟩ := r2
      exact ⟨q, ys, rfl, by rw [hid_ne fun z => by subst z; rw [h] at q1; cases q1]; exact q1, q2.hid h, q3⟩
    | false =>
      obtain ⟨q, ys, G, rfl, rfl, q1, q2, q3⟩ := r2
      exact ⟨q, ys, G, rfl, rfl, q1, q2.hid h, q3⟩
end
abbrev keyS (f : Str × V) : Key × V := (Sum.inr f.1, f.2)
abbrev keyT (f : Str × D) : Key × D := (Sum.inr f.1, f.2)
/-- {"k": v, ..} -/
def dDisp (ps : List (Str × DT)) : DT := fun ρ R => dPairs ps ρ fun kvs ρ1 => ∀ p, R (.x (.dic (kvs.map keyT)) [p]) ρ1
/-- x.update({"k": v, ..}), all keys new -/
def dUpd (i : Nat) (ps : List (Str × DT)) : DT := fun ρ R => isDic i ρ ∧ dPairs ps ρ fun more ρ1 => withD i ρ1 fun kvs G => (kvs.map (·.1) ++ more.map fun f => (Sum.inr f.1 : Key)).Nodup ∧ kvs.length + more.length ≤ 1000 ∧
  R (.v .non) (ρ1.set i (some (.x (.dic (kvs ++ more.map keyT)) G)))
/-- y in x -/
def dInK (neg : Bool) (i : Nat) (tk : DT) : DT := fun ρ R => isDic i ρ ∧ tk ρ fun rk ρ1 => withK rk.d fun k => withD i ρ1 fun kvs G => R (.v (.bl (if neg then !(valD kvs k).isSome else (valD kvs k).isSome))) ρ1
section
variable {X : Cx} {Γ : Fx} {o e k : Expr} {i : Nat} {tk te : DT} {pos apos cpos : Pos} {keys : List (Option Expr)} {values : List Expr} {ps : List (Str × DT)}
/-! ### d.update(d2) -/
def rUpdK : V → List V → Hp → VK → Prop := fun x xs H Q => ∃ a b kvs more, x = .ref a ∧ xs = [.ref b] ∧ a ≠ b ∧ H a = some (.dK kvs) ∧ H b = some (.dK more) ∧ kvs.length + more.length ≤ sizeLine ∧ Q .non (upd H a (.dK (mergeK kvs more)))
end
end DL

/-! DL62: for i, (x, y) in enumerate(zip(list, list)): the zip's first tuple is held by the enumeration's, so from the second turn on the zip makes tuples anew. -/
namespace DL
open PySem L2 PyProof.Rows
section
variable {prog : Program} {w : World} {A : Around} {E : Value → Shared → Prop} {s : Shared}
end
end DL

/-! DL63: the for statement over enumerate(zip(list, list)). -/
namespace DL
open PySem L2
/-- the first tuple of the zip, where there is one, is there -/
def HeldT (K : PySem.W.Frag) (γ : Option Addr) (H : Hp) : Prop := ∀ T0, γ = some T0 → ∃ zs, SqT K H T0 zs
structure ItG where
  go : Option Addr → Nat → Hp → Prop
  yld : Option Addr → Nat → Hp → V → Option Addr → Hp → Prop
  stop : Option Addr → Nat → Hp → Prop
structure TurnG (P : Program) (w : World) (K : PySem.W.Frag) (tg : Expr) (J : ItG) (fp : List Addr) (it : Addr) (tn : Option Addr → Nat → Heap → Prop) : Prop where
  obj : ∀ γ i h, tn γ i h → ∀ b ∈ fp, ∃ o, h.get? b = some o ∧ ∀ v, o.data ≠ .cell v
  keep : ∀ γ i h h', tn γ i h → (∀ b ∈ fp, ∀ o, h.get? b = some o → h'.get? b = some o) → tn γ i h'
  item : ∀ (X : Cx), X.prog = P → X.w = w → X.K = K → X.calm = true → ∀ (γ : Option Addr) (i : Nat) (pins : List (Addr × Obj)) (s : Shared) (σ : St) (H : Hp) (E : Value → Shared → Prop), Inv X pins σ H s → (∀ b ∈ fp, FpOk X pins H b) → tn γ i s.heap → J.go γ i H →
    wpAny (model P w) X.A (pyNext (.ref it)) (fun r s1 => ∃ u, r = some u ∧
      wpAny (model P w) X.A (letOwnedTupleGo tg (.ref it) u) (fun _ s2 => ∃ x γ' H', Inv X pins σ H' s2 ∧ RelV x u ∧ J.yld γ i H x γ' H' ∧ tn γ' (i + 1) s2.heap ∧ ∀ b ∈ fp, H' b = none) E s1) E s
  done : ∀ (X : Cx), X.prog = P → X.w = w → X.K = K → X.calm = true → ∀ (γ : Option Addr) (i : Nat) (pins : List (Addr × Obj)) (s : Shared) (σ : St) (H : Hp) (E : Value → Shared → Prop), Inv X pins σ H s → (∀ b ∈ fp, FpOk X pins H b) → tn γ i s.heap → J.stop γ i H →
    wpAny (model P w) X.A (pyNext (.ref it)) (fun r s1 => r = none ∧ Inv X pins σ H s1) E s
abbrev TIG := St → Hp → (ItG → Hp → Prop) → Prop
def PIEG (X : Cx) (pins : List (Addr × Obj)) (σ : St) (tg : Expr) (R : ItG → Hp → Prop) (itv : Value) (s2 : Shared) : Prop :=
  ∃ (it : Addr) (fp : List Addr) (tn : Option Addr → Nat → Heap → Prop) (J : ItG) (H' : Hp), itv = .ref it ∧ Inv X pins σ H' s2 ∧ TurnG X.prog X.w X.K tg J fp it tn ∧ tn none 0 s2.heap ∧ (∀ b ∈ fp, FpOk X pins H' b) ∧ R J H'
structure PIG (X : Cx) (tg iter : Expr) (wi : TIG) : Prop where
  run : ∀ (pins : List (Addr × Obj)) (s : Shared) (σ : St) (H : Hp) (R : ItG → Hp → Prop), Inv X pins σ H s → wi σ H R →
    wpAny (model X.prog X.w) X.A (eval iter X.env) (fun v s1 => wpAny (model X.prog X.w) X.A (pyIter v) (PIEG X pins σ tg R) X.xe s1) X.xe s
def tForG (wi : TIG) (g : TG) (tb : TS) : TS := fun D σ H => wi σ H fun J H1 => ∃ W : Option Addr → Nat → Nat → St → Hp → Prop, (∃ m, W none 0 m σ H1) ∧ ∀ γ i m σ H, W γ i m σ H →
  (J.stop γ i H ∧ D.nx σ H) ∨ (J.go γ i H ∧ ∃ N : Option Addr → St → Hp → Prop, (∀ γ' σ' H', N γ' σ' H' → ∃ m', m' < m ∧ W γ' (i + 1) m' σ' H') ∧ ∀ x γ' H', J.yld γ i H x γ' H' → g x σ H' fun σ2 H2 => tb { D with nx := N γ', ct := N γ', bk := D.nx } σ2 H2)
/-- the lists at a and b: i and the pair of their items, both tuples new -/
def ItEZ (K : PySem.W.Frag) (a b : Addr) : ItG :=
  ⟨fun γ i H => ∃ (xs ys : List V) (x y : V), SqL K H a xs ∧ SqL K H b ys ∧ xs[i]? = some x ∧ ys[i]? = some y ∧ HeldT K γ H,
    fun γ i H v γ' H' => ∃ P T x y, v = .ref T ∧ H P = none ∧ upd H P (.tup [x, y]) T = none ∧ H' = upd (upd H P (.tup [x, y])) T (.tup [.int (i : Nat), .ref P]) ∧ (∀ xs, SqL K H a xs → xs[i]? = some x) ∧ (∀ ys, SqL K H b ys → ys[i]? = some y) ∧ (γ' = some P ∨ γ' = γ),
    fun γ i H => ∃ xs ys : List V, SqL K H a xs ∧ SqL K H b ys ∧ i ≤ xs.length ∧ i ≤ ys.length ∧ (i = xs.length ∨ i = ys.length) ∧ HeldT K γ H⟩
/-- the zip, its tuple free or held -/
def ZipAt (h : Heap) (z TI TO : Addr) : Option Addr → Prop
  | none => IsZip h z TI TO .none
  | some T0 => ∃ f, IsZipHeld h z TI TO T0 f
theorem ZipAt.get {h : Heap} {z TI TO : Addr} : ∀ {γ : Option Addr}, ZipAt h z TI TO γ → ∃ o, h.get? z = some o ∧ ∀ v, o.data ≠ .cell v
  | none, q => ⟨_, q, fun v e => nomatch e⟩
  | some _, ⟨_, q⟩ => ⟨_, q, fun v e => nomatch e⟩
theorem ZipAt.kept {h h' : Heap} {z TI TO : Addr} (k : ∀ o, h.get? z = some o → h'.get? z = some o) : ∀ {γ : Option Addr}, ZipAt h z TI TO γ → ZipAt h' z TI TO γ
  | none, q => k _ q
  | some _, ⟨f, q⟩ => ⟨f, k _ q⟩
def iEZ (K : PySem.W.Frag) (ta : TA) : TIG := fun σ H R => ta σ H fun vs H1 => ∃ a b xs ys, vs = [.ref a, .ref b] ∧ SqL K H1 a xs ∧ SqL K H1 b ys ∧ R (ItEZ K a b) H1
def diEZ (ta : DAT) : DIT := fun ρ R => ta ρ fun hs ρ1 => match vals ρ1 hs with
  | some [.lst ds, .lst es] => R (enumD (zipD ds es)) ρ1
  | _ => False
end DL

/-! DL64: repr of lists and tuples that hold own things with an own __repr__ -/
namespace DL
open PySem PySem.Spec PyProof.Rows L2
open Builtin Builtin.List
/-! ### what is told, over V -/
mutual
inductive Sh (K : PySem.W.Frag) (Hs : Hp) (own : Addr → Str → Prop) (lf : V → Str → Prop) : V → Nat → Str → Prop
  | leaf {v : V} {t : Str} : lf v t → Sh K Hs own lf v 0 t
  | own {a : Addr} {t : Str} : own a t → Sh K Hs own lf (.ref a) 0 t
  | lst {a : Addr} {xs : List V} {n : Nat} {ts : List Str} : SqL K Hs a xs → Shs K Hs own lf xs n ts → Sh K Hs own lf (.ref a) (n + 1) (listText ts)
  | tup {a : Addr} {xs : List V} {n : Nat} {ts : List Str} : SqT K Hs a xs → Shs K Hs own lf xs n ts → Sh K Hs own lf (.ref a) (n + 1) (tupleText ts)
inductive Shs (K : PySem.W.Frag) (Hs : Hp) (own : Addr → Str → Prop) (lf : V → Str → Prop) : List V → Nat → List Str → Prop
  | nil : Shs K Hs own lf [] 0 []
  | cons {v : V} {vs : List V} {m n : Nat} {t : Str} {ts : List Str} : Sh K Hs own lf v m t → Shs K Hs own lf vs n ts → Shs K Hs own lf (v :: vs) (max m n) (t :: ts)
end
section
variable {X : Cx} {pins : List (Addr × Obj)} {σ : L2.St} {Hs : Hp} {s0 : Shared} {own : Addr → Str → Prop} {lf : V → Str → Prop}
/-- what a leaf, an own thing is not -/
structure ShOk (X : Cx) (Hs : Hp) (own : Addr → Str → Prop) (lf : V → Str → Prop) : Prop where
  lf : ∀ v t, lf v t → (∀ a, v ≠ .ref a) ∧ ∀ u, RelV v u → ReprIs X.prog X.w u t
  ownI : ∀ a t, own a t → ∃ C dx fs, Hs a = some (.ins C dx fs)
theorem Shs.length {K : PySem.W.Frag} : ∀ {xs : List V} {n : Nat} {ts : List Str}, Shs K Hs own lf xs n ts → ts.length = xs.length
  | _, _, _, .nil => rfl
  | _, _, _, .cons _ h => by simp [Shs.length h]
theorem ShOk.notL (O : ShOk X Hs own lf) (I : Inv X pins σ Hs s0) {a : Addr} {t : Str} {xs : List V} (h : own a t) : ¬ SqL X.K Hs a xs := by
  intro h2
  obtain ⟨C, dx, fs, hi⟩ := O.ownI a t h
  rcases h2 with (h2 | ⟨o, h2⟩) | ⟨o, its, n, hk, _⟩
  · rw [hi] at h2; cases h2
  · rw [hi] at h2; cases h2
  · have := (I.bs a o (I.mod.kin a o hk)).2
    rw [hi] at this; cases this
theorem ShOk.notT (O : ShOk X Hs own lf) (I : Inv X pins σ Hs s0) {a : Addr} {t : Str} {xs : List V} (h : own a t) : ¬ SqT X.K Hs a xs := by
  intro h2
  obtain ⟨C, dx, fs, hi⟩ := O.ownI a t h
  rcases h2 with (h2 | ⟨o, h2⟩) | ⟨o, its, n, hk, _⟩
  · rw [hi] at h2; cases h2
  · rw [hi] at h2; cases h2
  · have := (I.bs a o (I.mod.kin a o hk)).2
    rw [hi] at this; cases this
theorem lt_apart (I : Inv X pins σ Hs s0) {a : Addr} {xs ys : List V} (h : SqL X.K Hs a xs) (h2 : SqT X.K Hs a ys) : False := by
  obtain ⟨its, r, ⟨o, n, e, c, _, _⟩, _⟩ := I.list h
  obtain ⟨its', r', ⟨o', e', c', _⟩, _⟩ := I.tuple h2
  rw [e] at e'; cases e'
  rw [c] at c'
  exact absurd c' (by decide)
mutual
theorem Sh.uniq (O : ShOk X Hs own lf) (I : Inv X pins σ Hs s0) : ∀ {v : V} {n m : Nat} {t t' : Str}, Sh X.K Hs own lf v n t → Sh X.K Hs own lf v m t' → n = m
  | _, _, _, _, _, .leaf h, .leaf _ => rfl
  | _, _, _, _, _, .leaf h, .own _ => rfl
  | _, _, _, _, _, .leaf h, .lst _ _ => absurd rfl ((O.lf _ _ h).1 _)
  | _, _, _, _, _, .leaf h, .tup _ _ => absurd rfl ((O.lf _ _ h).1 _)
  | _, _, _, _, _, .own h, .leaf _ => rfl
  | _, _, _, _, _, .own h, .own _ => rfl
  | _, _, _, _, _, .own h, .lst h2 _ => absurd h2 (O.notL I h)
  | _, _, _, _, _, .own h, .tup h2 _ => absurd h2 (O.notT I h)
  | _, _, _, _, _, .lst _ _, .leaf h => absurd rfl ((O.lf _ _ h).1 _)
  | _, _, _, _, _, .lst h2 _, .own h => absurd h2 (O.notL I h)
  | _, _, _, _, _, .lst h1 r1, .lst h2 r2 => by
    have e := I.list_inj h1 h2
    subst e
    rw [Shs.uniq O I r1 r2]
  | _, _, _, _, _, .lst h1 _, .tup h2 _ => (lt_apart I h1 h2).elim
  | _, _, _, _, _, .tup _ _, .leaf h => absurd rfl ((O.lf _ _ h).1 _)
  | _, _, _, _, _, .tup h2 _, .own h => absurd h2 (O.notT I h)
  | _, _, _, _, _, .tup h1 _, .lst h2 _ => (lt_apart I h2 h1).elim
  | _, _, _, _, _, .tup h1 r1, .tup h2 r2 => by
    have e := I.tuple_inj h1 h2
    subst e
    rw [Shs.uniq O I r1 r2]
theorem Shs.uniq (O : ShOk X Hs own lf) (I : Inv X pins σ Hs s0) : ∀ {vs : List V} {n m : Nat} {ts ts' : List Str}, Shs X.K Hs own lf vs n ts → Shs X.K Hs own lf vs m ts' → n = m
  | _, _, _, _, _, .nil, .nil => rfl
  | _, _, _, _, _, .cons h r, .cons h' r' => by rw [Sh.uniq O I h h', Shs.uniq O I r r']
end
/-- the guards stand for bigger things -/
def Big (X : Cx) (Hs : Hp) (own : Addr → Str → Prop) (lf : V → Str → Prop) (g : List Code) (n : Nat) : Prop := ∀ id v rest kw, Code.builtin id ⟨v :: rest, kw⟩ ∈ g → ∃ b m t, v = .ref b ∧ Sh X.K Hs own lf (.ref b) m t ∧ n < m
theorem Big.mono {g : List Code} {m n : Nat} (h : Big X Hs own lf g n) (e : m ≤ n) : Big X Hs own lf g m := fun id v rest kw q => by
  obtain ⟨b, k, t, e1, e2, e3⟩ := h id v rest kw q
  exact ⟨b, k, t, e1, e2, by omega⟩
theorem Big.cons {g : List Code} {n m : Nat} {a : Addr} {t : Str} {id : String} {rest : List Value} {kw : List (Str × Value)} (h : Big X Hs own lf g n) (ha : Sh X.K Hs own lf (.ref a) n t) (e : m < n) : Big X Hs own lf (.builtin id ⟨.ref a :: rest, kw⟩ :: g) m := by
  intro id' v rest' kw' hm
  rcases List.mem_cons.mp hm with z | hm
  · cases z
    exact ⟨a, n, t, rfl, ha, e⟩
  · exact (h.mono (by omega)) _ _ _ _ hm
theorem Big.clear {g : List Code} {n : Nat} {a : Addr} {t : Str} (O : ShOk X Hs own lf) (I : Inv X pins σ Hs s0) (h : Big X Hs own lf g n) (ha : Sh X.K Hs own lf (.ref a) n t) : Clear g a := by
  intro id v rest kw hm z
  obtain ⟨b, m, t', e1, e2, e3⟩ := h id v rest kw hm
  rw [z] at e1
  cases e1
  have := Sh.uniq O I ha e2
  omega
/-! ### the readings -/
def Stay (X : Cx) (s : Shared) (H : Hp) (s' : Shared) (H' : Hp) : Prop := ∀ b o, H b = none → b ∉ frs X.stack → s.heap.get? b = some o → s'.heap.get? b = some o ∧ H' b = none
theorem Stay.trans {s s1 s2 : Shared} {H H1 H2 : Hp} (a : Stay X s H s1 H1) (b : Stay X s1 H1 s2 H2) : Stay X s H s2 H2 := fun c o h1 h2 h3 => by
  obtain ⟨e1, e2⟩ := a c o h1 h2 h3
  exact b c o e2 h2 e1
structure Tel (X : Cx) (pins : List (Addr × Obj)) (σ : L2.St) (Hs : Hp) (own : Addr → Str → Prop) (lf : V → Str → Prop) (J : Hp → Prop) (k : Nat) (v : V) (n : Nat) (t : Str) : Prop where
  run : ∀ (u : Value), RelV v u → ∀ base, base + t.length ≤ sizeLine → ∀ (A : Around) (g : List Code) (E : Value → Shared → Prop) (s : Shared) (H : Hp) (Q : Str → Shared → Prop), A.guards = some g → Big X Hs own lf g n → A.frames = some X.stack → Room (k + n) A → Inv X pins σ H s → J H →
    (∀ H' s', Inv X pins σ H' s' → J H' → Stay X s H s' H' → Q t s') → wpAny (model X.prog X.w) A (pyReprUnder base u) Q E s
inductive Tels (X : Cx) (pins : List (Addr × Obj)) (σ : L2.St) (Hs : Hp) (own : Addr → Str → Prop) (lf : V → Str → Prop) (J : Hp → Prop) (k : Nat) (n : Nat) : List V → List Str → Prop
  | nil : Tels X pins σ Hs own lf J k n [] []
  | cons {v : V} {m : Nat} {t : Str} {vs : List V} {ts : List Str} : m ≤ n → Tel X pins σ Hs own lf J k v m t → Tels X pins σ Hs own lf J k n vs ts → Tels X pins σ Hs own lf J k n (v :: vs) (t :: ts)
theorem Tels.mono {J : Hp → Prop} {k m n : Nat} (e : m ≤ n) : ∀ {vs : List V} {ts : List Str}, Tels X pins σ Hs own lf J k m vs ts → Tels X pins σ Hs own lf J k n vs ts
  | _, _, .nil => .nil
  | _, _, .cons h t r => .cons (Nat.le_trans h e) t (Tels.mono e r)
theorem Tels.get {J : Hp → Prop} {k n : Nat} : ∀ {vs : List V} {ts : List Str} {i : Nat} {v : V}, Tels X pins σ Hs own lf J k n vs ts → vs[i]? = some v → ∃ m t, ts[i]? = some t ∧ m ≤ n ∧ Tel X pins σ Hs own lf J k v m t
  | _, _, _, _, .nil, e => by simp at e
  | _, _, 0, _, .cons h t r, e => by
    simp at e
    subst e
    exact ⟨_, _, rfl, h, t⟩
  | _, _, i + 1, _, .cons h t r, e => by
    obtain ⟨m, t', q⟩ := Tels.get r (i := i) (by simpa using e)
    exact ⟨m, t', by simpa using q.1, q.2⟩
theorem Tels.length {J : Hp → Prop} {k n : Nat} : ∀ {vs : List V} {ts : List Str}, Tels X pins σ Hs own lf J k n vs ts → ts.length = vs.length
  | _, _, .nil => rfl
  | _, _, .cons _ _ r => by simp [Tels.length r]
theorem tel_leaf {J : Hp → Prop} {k : Nat} {v : V} {t : Str} (O : ShOk X Hs own lf) (h : lf v t) : Tel X pins σ Hs own lf J k v 0 t :=
  ⟨fun u r base hb A g E s H Q _ _ _ _ I hJ hQ => (O.lf v t h).2 u r base hb A E s Q fun tk => hQ H _ (I.tok tk) hJ fun b o h1 _ h3 => ⟨h3, h1⟩⟩
/-- an object of ours that nobody knows -/
structure Priv (X : Cx) (pins : List (Addr × Obj)) (H : Hp) (P : Addr) : Prop where
  h : H P = none
  l : P ≠ X.env.locals
  f : P ∉ frs X.stack
  z : X.s_0.heap.objs.size ≤ P
  c : ∀ x c, X.env.cells.lookup x = some c → c ≠ P
  p : ∀ p ∈ X.pn ++ pins, p.1 ≠ P
theorem priv_new {H : Hp} {s : Shared} (I : Inv X pins σ H s) : Priv X pins H s.heap.objs.size where
  h := I.hok.fresh (Nat.le_refl _)
  l := Ne.symm (Nat.ne_of_lt I.lt)
  f := fun z => by
    rcases List.mem_cons.mp (I.stkSub _ z) with e | e
    · exact absurd e.symm (Nat.ne_of_lt I.lt)
    · exact I.nofs (Nat.le_refl _) e
  z := I.sz
  c := fun x c e => by
    obtain ⟨v, o, ho, _⟩ := I.cell x c e
    exact Nat.ne_of_lt (Heap.lt_size ho)
  p := fun p hp => Nat.ne_of_lt (Heap.lt_size (I.pin p hp).1)
theorem room_under {k : Nat} {A : Around} {c : Code} (hd : (A.under c).depth = A.depth + 1) (hu : (A.under c).units = A.units + 1) (r : Room (k + 1) A) : Room k (A.under c) := by
  refine ⟨r.hd, ?_, by have := r.un; rw [hu]; omega⟩
  have := r.dp
  rw [hd]
  omega
theorem depth_list_loop (A : Around) (args : Args) : (A.under (.builtin "list.__repr__.loop" args)).depth = A.depth + 1 := by
  first | rfl | simp [Around.under, Code.weight, Code.isCreation, Code.isGuard, Code.isCaller, Code.frames, Code.isFrame, guardIds]
theorem depth_tuple_repr_under (A : Around) (args : Args) : (A.under (.builtin "tuple.__repr__.under" args)).depth = A.depth + 1 := by
  first | rfl | simp [Around.under, Code.weight, Code.isCreation, Code.isGuard, Code.isCaller, Code.frames, Code.isFrame, guardIds]
theorem codeAny_loopJ {J : Hp → Prop} {k n : Nat} {a : Addr} {xs : List V} {ts : List Str} {A : Around} {R : Result → Shared → Prop} {P : Addr} {base : Nat} {g : List Code} (O : ShOk X Hs own lf) (I0 : Inv X pins σ Hs s0) (hL : ∀ H, J H → SqL X.K H a xs) (hsh : Sh X.K Hs own lf (.ref a) (n + 1) (listText ts))
    (hg : A.guards = some g) (hbig : Big X Hs own lf g (n + 1)) (hf : A.frames = some X.stack) (hr : Room (k + (n + 1)) A) (hT : Tels X pins σ Hs own lf J k n xs ts) (hsz : base + (listText ts).length ≤ sizeLine) :
    ∀ (j i : Nat) (s : Shared) (H : Hp) (acc : Array Value) (c : Nat) (done : List (Str × Tok)), xs.length - i = j → i ≤ xs.length → Inv X pins σ H s → J H → Priv X pins H P →
    s.heap.get? P = some { cls := .type "list", dict := none, data := .seq acc c, slots := #[] } → acc.toList = strValues done → done.map (·.1) = ts.take i →
    (∀ H' s' u, Inv X pins σ H' s' → J H' → (∀ b o, b ≠ P → H b = none → b ∉ frs X.stack → s.heap.get? b = some o → s'.heap.get? b = some o ∧ H' b = none) → R (.ok (.ret (.str (listText ts) u))) s') →
    codeAny (model X.prog X.w) A (.builtin "list.__repr__.loop" ⟨[.ref a, rawInt i, .ref P, rawInt ((base + piled (ts.take i) : Nat) : Int)], []⟩) R s := by
  have hlen : ts.length = xs.length := hT.length
  have hX : (listText ts).length = (textFrom 0 "[" ts).length + 1 := by
    show (textFrom 0 "[" ts ++ "]").length = _
    rw [strLen_append]; rfl
  have hLn := textFrom_len ts 0 "["
  have hsz2 : ∀ t ∈ ts, t.length ≤ sizeLine := fun t ht => by
    have h2 := hLn.2.1 t ht
    omega
  have hsz3 : (listText ts).length ≤ sizeLine := by omega
  have hp3 := piled_le_listText ts
  intro j
  induction j with
  | zero =>
    intro i s H acc c done hk hi I hJ PP hP hacc hdone hR
    have hin : i = xs.length := by omega
    obtain ⟨its, rv, ⟨oa, na, ha, _, _, hda⟩, _⟩ := I.list (hL H hJ)
    have hil : its.length = xs.length := rv.length.symm
    refine codeAny_builtin F.entry_list_repr_loop ?_
    show wpAny _ _ («list.__repr__.loop» ⟨[.ref a, .int i 0, .ref P, .int ((base + piled (ts.take i) : Nat) : Int) 0], []⟩) _ _ s
    rw [repr_loop_tree]
    refine wpAny_bind (wpAny_listItems ha hda ?_)
    have hnone : its.toArray[(i : Int).toNat]? = none := by simp [hin, hil]
    simp only [hnone]
    unfold reprEnd
    refine wpAny_bind (wpAny_listItems hP rfl ?_)
    rw [hacc, repr_fold]
    refine wpAny_bind (wpAny_pure ?_)
    have hall : done.map (·.1) = ts := by rw [hdone, hin, ← hlen, List.take_length]
    rw [hall]
    refine wpAny_bind (wpAny_mkStr (wpAny_pure ?_) hsz3)
    exact hR H _ _ (I.tok _) hJ fun b o _ h1 _ h2 => ⟨h2, h1⟩
  | succ j ih =>
    intro i s H acc c done hk hi I hJ PP hP hacc hdone hR
    have hlt : i < xs.length := by omega
    obtain ⟨its, rv, ⟨oa, na, ha, _, _, hda⟩, _⟩ := I.list (hL H hJ)
    obtain ⟨m, t, ht, hm, hrep⟩ := hT.get (i := i) (List.getElem?_eq_getElem hlt)
    obtain ⟨u, hu, ru⟩ := rv.get (List.getElem?_eq_getElem hlt)
    have hp1 := piled_take_succ ht
    have hp2 := piled_take_le ts (i + 1)
    refine codeAny_builtin F.entry_list_repr_loop ?_
    show wpAny _ _ («list.__repr__.loop» ⟨[.ref a, .int i 0, .ref P, .int ((base + piled (ts.take i) : Nat) : Int) 0], []⟩) _ _ s
    rw [repr_loop_tree]
    refine wpAny_bind (wpAny_listItems ha hda ?_)
    have hsome : its.toArray[(i : Int).toNat]? = some u := by simpa using hu
    simp only [hsome]
    rw [Int.toNat_natCast]
    refine wpAny_bind (wpAny_holding (hrep.run u ru (base + piled (ts.take i) + 1) (by omega) _ _ _ _ H _ (guards_under_guard (isGuard_list_loop _) hg) ((hbig.mono (Nat.le_refl _)).cons hsh (by omega)) ?_ ?_ I hJ fun H1 s1 I1 J1 st => ?_))
    · exact hf
    · exact (room_under (k := k + n) (depth_list_loop _ _) (units_under_list_loop _ _) hr).mono (by omega)
    obtain ⟨hP1, nP1⟩ := st P _ PP.h PP.f hP
    refine wpAny_bind (wpAny_mkStr ?_ (hsz2 t (List.mem_of_getElem? ht)))
    refine wpAny_bind ?_
    show wpAny _ _ (updateSeq P _) _ _ _
    have hasz : acc.size ≤ sizeLine := by
      have e1 : acc.toList.length = acc.size := by simp
      have e2 : (strValues done).length = done.length := by simp [strValues]
      have e3 : done.length = (ts.take i).length := by rw [← hdone, List.length_map]
      have e4 : (ts.take i).length ≤ i := by rw [List.length_take]; omega
      have e5 := (I.list (hL H hJ)).choose_spec.2.2
      rw [hacc] at e1; omega
    refine wpAny_updateSeq hP1 rfl (wpAny_pure ⟨F.quiet_list_repr_loop _, ?_⟩) hasz
    have e1 : ((i : Int) + 1) = ((i + 1 : Nat) : Int) := by omega
    have e2 : base + piled (ts.take i) + (t.length + 2) = base + piled (ts.take (i + 1)) := by omega
    rw [e1, e2]
    have PP1 : Priv X pins H1 P := ⟨nP1, PP.l, PP.f, PP.z, PP.c, PP.p⟩
    have kp : ∀ b o, b ≠ P → s1.heap.get? b = some o → (s1.heap.update P (Obj.mapSeq fun x => x.push (.str t s1.toks))).get? b = some o := fun b o hb e => (Heap.get?_update_other _ _ (fun h : P = b => hb h.symm)).trans e
    have I2 := I1.turned (t' := s1.toks + 1) kp nP1 PP.l (.inr PP.z) PP.c PP.p
    refine ih (i + 1) _ H1 (acc.push (.str t s1.toks)) _ (done ++ [(t, s1.toks)]) (by omega) hlt I2 J1 PP1 (Heap.get?_update_self _ hP1 rfl) (by simp [hacc, strValues]) (by rw [List.map_append, hdone, List.take_add_one, ht]; rfl) fun H' s' u' I' J' st' => ?_
    refine hR H' s' u' I' J' fun b o hb h1 h2 h3 => ?_
    obtain ⟨q1, q2⟩ := st b o h1 h2 h3
    exact st' b o hb q2 h2 (kp b o hb q1)
theorem list_reprAtJ {J : Hp → Prop} {k n : Nat} {a : Addr} {xs : List V} {ts : List Str} {A : Around} {R : Result → Shared → Prop} {s : Shared} {H : Hp} {base : Nat} {g : List Code} (O : ShOk X Hs own lf) (I0 : Inv X pins σ Hs s0) (hL : ∀ H, J H → SqL X.K H a xs) (hsh : Sh X.K Hs own lf (.ref a) (n + 1) (listText ts))
    (hg : A.guards = some g) (hbig : Big X Hs own lf g (n + 1)) (hf : A.frames = some X.stack) (hr : Room (k + (n + 1)) A) (hT : Tels X pins σ Hs own lf J k n xs ts) (hsz : base + (listText ts).length ≤ sizeLine) (hne : xs ≠ [])
    (I : Inv X pins σ H s) (hJ : J H) (hR : ∀ H' s' u, Inv X pins σ H' s' → J H' → Stay X s H s' H' → R (.ok (.ret (.str (listText ts) u))) s') :
    wpAny (model X.prog X.w) A.in1 (Builtin.listReprAt base ⟨[.ref a], []⟩) (fun fin s' => match fin with | .done f => R (.ok f) s' | .again c' => c'.quiet = true ∧ codeAny (model X.prog X.w) A c' R s') (fun e s' => R (.error e) s') s := by
  obtain ⟨its, rv, ⟨oa, na, ha, _, _, hda⟩, _⟩ := I.list (hL H hJ)
  have hcl := Big.clear O I0 hbig hsh
  obtain ⟨x, l, rfl⟩ : ∃ x l, its = x :: l := by
    cases its with
    | nil =>
      cases rv
      exact (hne rfl).elim
    | cons x l => exact ⟨x, l, rfl⟩
  refine wpAny_list_repr_head (A := A.in1) hg (fun v rest kw hm => listSameRef_of_ne (hcl _ _ _ _ hm)) ha hda ?_
  refine wpAny_bind (m := newList []) (wpAny_newObj_type ?_)
  refine wpAny_pure ⟨F.quiet_list_repr_loop _, ?_⟩
  have I1 : Inv X pins σ H { s with heap := s.heap.push { cls := .type "list", dict := none, data := .seq #[] } } := I.kept fun b o e => Heap.get?_push_of_some _ e
  refine codeAny_loopJ (P := s.heap.objs.size) O I0 hL hsh hg hbig hf hr hT hsz _ 0 _ H #[] _ [] rfl (Nat.zero_le _) I1 hJ (priv_new I) (Heap.get?_push_size _ rfl) rfl (by simp) fun H' s' u I' J' st => ?_
  exact hR H' s' u I' J' fun b o h1 h2 h3 => st b o (Nat.ne_of_lt (Heap.lt_size h3)) h1 h2 (Heap.get?_push_of_some _ h3)
theorem tel_list {J : Hp → Prop} {k n : Nat} {a : Addr} {xs : List V} {ts : List Str} (O : ShOk X Hs own lf) (I0 : Inv X pins σ Hs s0) (hL : ∀ H, J H → SqL X.K H a xs) (hsh : Sh X.K Hs own lf (.ref a) (n + 1) (listText ts)) (hT : Tels X pins σ Hs own lf J k n xs ts) :
    Tel X pins σ Hs own lf J k (.ref a) (n + 1) (listText ts) := by
  refine ⟨fun u r base hb A g E s H Q hg hbig hf hr I hJ hQ => ?_⟩
  obtain rfl : u = Value.ref a := r
  obtain ⟨its, rv, ⟨oa, na, ha, hc, _, hda⟩, _⟩ := I.list (hL H hJ)
  have hTy : s.TypeIs (.ref a) "list" := ⟨oa, ha, hc⟩
  by_cases hne : xs = []
  · subst hne
    cases rv
    cases hT
    exact wpAny_pyReprUnder_ref (by omega) (wpAny_pyReprObjUnder_list_empty hTy hr.units0 ha hda ⟨_, _, rfl, hQ H _ (I.tok _) hJ fun b o h1 _ h3 => ⟨h3, h1⟩⟩)
  · exact wpAny_pyReprUnder_ref (by omega) (wpAny_pyReprObjUnder_twin (twin := "list.__repr__.under") hTy F.slot_list_repr.toG rfl hr.units0
      (call_twin_plain F.plain_list_repr_under F.entry_list_repr_under F.check_list_repr_under hTy F.slot_list_repr.toG (F.args_list_repr_1 _)
        (list_reprAtJ O I0 hL hsh hg hbig hf hr hT hb hne I hJ fun H' s' u I' J' st => ⟨⟨_, _, rfl⟩, _, _, rfl, hQ H' s' I' J' st⟩)))
theorem tupFoldJ {J : Hp → Prop} {k n : Nat} {A : Around} {E : Value → Shared → Prop} {g : List Code} (hg : A.guards = some g) (hbig : Big X Hs own lf g n) (hf : A.frames = some X.stack) (hr : Room (k + n) A) : ∀ (xs : List V) (ts : List Str) (l : List Value) (acc : Array Str) (m : Nat) (s : Shared) (H : Hp) (Q : (Array Str × Nat) → Shared → Prop), Tels X pins σ Hs own lf J k n xs ts → Vals xs l → m + piled ts ≤ sizeLine →
    Inv X pins σ H s → J H → (∀ H' s', Inv X pins σ H' s' → J H' → Stay X s H s' H' → Q ⟨acc ++ ts.toArray, m + piled ts⟩ s') →
    wpAny (model X.prog X.w) A (forIn l (⟨acc, m⟩ : (Array Str × Nat)) tupBody) Q E s
  | _, _, _, acc, m, s, H, Q, .nil, .nil, hm, I, hJ, h => by
    have h0 := h H s I hJ fun b o h1 _ h3 => ⟨h3, h1⟩
    simp only [List.forIn_nil]
    exact wpAny_pure (by simpa [piled] using h0)
  | _, _, _, acc, m, s, H, Q, .cons (m := m1) (t := t) (ts := ts') he ht hs, .cons r rs, hm, I, hJ, h => by
    rw [piled_cons] at hm
    rw [List.forIn_cons]
    refine wpAny_bind (wpAny_bind (ht.run _ r (m + 1) (by omega) A g _ s H _ hg (hbig.mono he) hf (hr.mono (by omega)) I hJ fun H1 s1 I1 J1 st => wpAny_pure ?_))
    refine tupFoldJ hg hbig hf hr _ ts' _ (acc.push t) (m + (t.length + 2)) s1 H1 Q hs rs (by omega) I1 J1 fun H2 s2 I2 J2 st2 => ?_
    have h1 := h H2 s2 I2 J2 (st.trans st2)
    have e : m + piled (t :: ts') = m + (t.length + 2) + piled ts' := by rw [piled_cons]; omega
    rw [e] at h1
    simpa using h1
theorem tuple_reprAtJ {J : Hp → Prop} {k n : Nat} {a : Addr} {xs : List V} {ts : List Str} {A : Around} {R : Result → Shared → Prop} {s : Shared} {H : Hp} {base : Nat} {g : List Code} {id : String} {rest : List Value} (O : ShOk X Hs own lf) (I0 : Inv X pins σ Hs s0) (hL : ∀ H, J H → SqT X.K H a xs) (hsh : Sh X.K Hs own lf (.ref a) (n + 1) (tupleText ts))
    (hcg : (Code.builtin id ⟨.ref a :: rest, []⟩).isGuard = true) (hcu : (A.under (.builtin id ⟨.ref a :: rest, []⟩)).units = A.units + 1) (hcd : (A.under (.builtin id ⟨.ref a :: rest, []⟩)).depth = A.depth + 1) (hfr : (A.under (.builtin id ⟨.ref a :: rest, []⟩)).frames = A.frames)
    (hg : A.guards = some g) (hbig : Big X Hs own lf g (n + 1)) (hf : A.frames = some X.stack) (hr : Room (k + (n + 1)) A) (hT : Tels X pins σ Hs own lf J k n xs ts) (hsz : base + (tupleText ts).length ≤ sizeLine)
    (I : Inv X pins σ H s) (hJ : J H) (hR : ∀ H' s' u, Inv X pins σ H' s' → J H' → Stay X s H s' H' → R (.ok (.ret (.str (tupleText ts) u))) s') :
    wpOwn (model X.prog X.w) A (.builtin id ⟨.ref a :: rest, []⟩) (Builtin.tupleReprAt base ⟨[.ref a], []⟩) (fun fin s' => match fin with | .done f => R (.ok f) s' | .again c' => c'.quiet = true ∧ codeAny (model X.prog X.w) A c' R s') (fun e s' => R (.error e) s') s := by
  obtain ⟨its, rv, ⟨oa, ha, _, na, hda⟩, _⟩ := I.tuple (hL H hJ)
  have hcl := Big.clear O I0 hbig hsh
  have hp := piled_le_tupleText ts
  have hsz0 : (tupleText ts).length ≤ sizeLine := by omega
  have hlen : ts.length = its.length := by rw [hT.length]; exact rv.length
  rw [tuple_repr_tree, tupleReprUnderWay_eq]
  refine wpOwn_bind (wpOwn_stackTailAny hg (tupGuardF_off _) (tupGuardF_pos _) ?_)
  have hn : (g.any fun c => tupGuardF (.ref a) (c, default)) = false := by
    rw [List.any_eq_false]
    intro c hcm
    rw [tupGuardF_of_clear hcl c hcm]
    exact Bool.false_ne_true
  rw [hn]
  refine wpOwn_of_wpAny ?_
  show wpAny _ _ (tupleReprRest base (.ref a)) _ _ s
  unfold tupleReprRest Builtin.Tuple.tupleItemsOf
  refine wpAny_bind (wpAny_bind (wpAny_seqItems ha hda (wpAny_pure ?_)))
  rw [← Array.forIn_toList]
  refine wpAny_bind (tupFoldJ (k := k) (n := n) (guards_under_guard hcg hg) (hbig.cons hsh (by omega)) (hfr.trans hf) ((room_under (k := k + n) hcd hcu hr).mono (by omega)) xs ts its _ _ s H _ hT rv (by omega) I hJ fun H1 s1 I1 J1 st => ?_)
  refine wpAny_bind (wpAny_mkStr (wpAny_pure ?_) (by simpa [tupleText, hlen] using hsz0))
  have h1 := hR H1 _ s1.toks (I1.tok (s1.toks + 1)) J1 st
  simpa [tupleText, hlen] using h1
theorem frames_tuple_repr_under (A : Around) (args : Args) : (A.under (.builtin "tuple.__repr__.under" args)).frames = A.frames := by
  first | rfl | simp [Around.under, Code.envs, pushEnvs]
theorem tel_tuple {J : Hp → Prop} {k n : Nat} {a : Addr} {xs : List V} {ts : List Str} (O : ShOk X Hs own lf) (I0 : Inv X pins σ Hs s0) (hL : ∀ H, J H → SqT X.K H a xs) (hsh : Sh X.K Hs own lf (.ref a) (n + 1) (tupleText ts)) (hT : Tels X pins σ Hs own lf J k n xs ts) :
    Tel X pins σ Hs own lf J k (.ref a) (n + 1) (tupleText ts) := by
  refine ⟨fun u r base hb A g E s H Q hg hbig hf hr I hJ hQ => ?_⟩
  obtain rfl : u = Value.ref a := r
  obtain ⟨its, rv, ⟨oa, ha, hc, na, hda⟩, _⟩ := I.tuple (hL H hJ)
  have hTy : s.TypeIs (.ref a) "tuple" := ⟨oa, ha, hc⟩
  exact wpAny_pyReprUnder_ref (by omega) (wpAny_pyReprObjUnder_twin (twin := "tuple.__repr__.under") hTy F.slot_tuple_repr rfl hr.units0
    (call_twin_own (F.quiet_tuple_repr_under _) F.entry_tuple_repr_under F.check_tuple_repr_under hTy F.slot_tuple_repr (F.args_tuple_repr_1 _)
      (tuple_reprAtJ O I0 hL hsh (isGuard_tuple_repr_under _) (units_under_tuple_repr_under _ _) (depth_tuple_repr_under _ _) (frames_tuple_repr_under _ _) hg hbig hf hr hT hb I hJ fun H' s' u I' J' st => ⟨⟨_, _, rfl⟩, _, _, rfl, hQ H' s' I' J' st⟩)))
/-! ### an own thing -/
section
open PySem.W
variable {prog : Program} {w : World} {A : Around} {E : Value → Shared → Prop} {s : Shared} {K : Frag} {x C L f : Addr} {h₀ : Heap} {m : Str → Option Value} {ox : Obj} {od : Option Obj}
end
mutual
theorem Sh.tel {J : Hp → Prop} {k : Nat} (O : ShOk X Hs own lf) (I0 : Inv X pins σ Hs s0) (hS : ∀ H, J H → Same Hs H) (hO : ∀ a t, own a t → Tel X pins σ Hs own lf J k (.ref a) 0 t) : ∀ {v : V} {n : Nat} {t : Str}, Sh X.K Hs own lf v n t → Tel X pins σ Hs own lf J k v n t
  | _, _, _, .leaf h => tel_leaf O h
  | _, _, _, .own h => hO _ _ h
  | _, _, _, .lst h r => tel_list O I0 (fun H hJ => (hS H hJ).seq h) (.lst h r) (Shs.tel O I0 hS hO r)
  | _, _, _, .tup h r => tel_tuple O I0 (fun H hJ => seqT (hS H hJ) h) (.tup h r) (Shs.tel O I0 hS hO r)
theorem Shs.tel {J : Hp → Prop} {k : Nat} (O : ShOk X Hs own lf) (I0 : Inv X pins σ Hs s0) (hS : ∀ H, J H → Same Hs H) (hO : ∀ a t, own a t → Tel X pins σ Hs own lf J k (.ref a) 0 t) : ∀ {vs : List V} {n : Nat} {ts : List Str}, Shs X.K Hs own lf vs n ts → Tels X pins σ Hs own lf J k n vs ts
  | _, _, _, .nil => .nil
  | _, _, _, .cons h r => .cons (Nat.le_max_left ..) (Sh.tel O I0 hS hO h) ((Shs.tel O I0 hS hO r).mono (Nat.le_max_right ..))
end
end
end DL

/-! DL65: repr(lists and tuples with own things), over data -/
namespace DL
open PySem PySem.Spec PyProof.Rows L2
mutual
def shX (tx : D → Str) : D → Str
  | .lst ds => listText (shXs tx ds)
  | .rol ds => listText (shXs tx ds)
  | .tup ds => tupleText (shXs tx ds)
  | .ins C fs => tx (.ins C fs)
  | .int i => Str.ofString (toString i)
  | .str x => reprText x
  | .bl b => (if b then Str.ofString "True" else Str.ofString "False")
  | .non => Str.ofString "None"
  | _ => Str.empty
def shXs (tx : D → Str) : List D → List Str
  | [] => []
  | d :: ds => shX tx d :: shXs tx ds
end
mutual
def dpX : D → Nat
  | .lst ds => dpXs ds + 1
  | .rol ds => dpXs ds + 1
  | .tup ds => dpXs ds + 1
  | _ => 0
def dpXs : List D → Nat
  | [] => 0
  | d :: ds => max (dpX d) (dpXs ds)
end
/-- the class's own method tells the thing's text -/
def tellsX (C : Str) (sp : DSp) (tx : D → Str) (C' : Str) (fs : List (Str × D)) : Prop := C' = C ∧ sp [.v (.ins C fs)] (fun r _ => r = .v (.str (tx (.ins C' fs)))) fun _ _ _ _ => False
mutual
def okX (C : Str) (sp : DSp) (tx : D → Str) : D → Prop
  | .lst ds => okXs C sp tx ds
  | .rol ds => okXs C sp tx ds
  | .tup ds => okXs C sp tx ds
  | .ins C' fs => tellsX C sp tx C' fs
  | .int i => i.natAbs.log2 < 1920
  | .str x => (reprText x).length ≤ sizeLine
  | .bl _ => True
  | .non => True
  | _ => False
def okXs (C : Str) (sp : DSp) (tx : D → Str) : List D → Prop
  | [] => True
  | d :: ds => okX C sp tx d ∧ okXs C sp tx ds
end
section
variable {X : Cx}
inductive lfX : V → Str → Prop
  | non : lfX .non (Str.ofString "None")
  | bl (b : Bool) : lfX (.bl b) ((if b then Str.ofString "True" else Str.ofString "False"))
  | int {i : Int} : i.natAbs.log2 < 1920 → lfX (.int i) (Str.ofString (toString i))
  | str {x : Str} : (reprText x).length ≤ sizeLine → lfX (.str x) (reprText x)
def ownX (K : PySem.W.Frag) (C : Str) (sp : DSp) (H0 : Hp) (a : Addr) (t : Str) : Prop := ∃ dx vs fs, H0 a = some (.ins (He.ga K C) dx vs) ∧ RepF K H0 vs fs ∧ sp [.v (.ins C fs)] (fun r _ => r = .v (.str t)) fun _ _ _ _ => False
mutual
theorem rep_sh {C : Str} {sp : DSp} {tx : D → Str} {H0 H : Hp} (e : Same H0 H) : ∀ {v : V} {d : D}, Rep X.K H0 v d → okX C sp tx d → Sh X.K H (ownX X.K C sp H0) lfX v (dpX d) (shX tx d)
  | _, _, .non, _ => by rw [dpX, shX]; exact .leaf .non; all_goals simp
  | _, _, .bl b, _ => by rw [dpX, shX]; exact .leaf (.bl b); all_goals simp
  | _, _, .int i, h => by rw [okX] at h; rw [dpX, shX]; exact .leaf (.int h); all_goals simp
  | _, _, .str x, h => by rw [okX] at h; rw [dpX, shX]; exact .leaf (.str h); all_goals simp
  | _, _, .ty n z, h => by rw [okX] at h; exact h.elim; all_goals simp
  | _, _, .cls _, h => by rw [okX] at h; exact h.elim; all_goals simp
  | _, _, .adr, h => by rw [okX] at h; exact h.elim; all_goals simp
  | _, _, .lst h r, q => by rw [okX] at q; rw [dpX, shX]; exact .lst (e.seq (SqL.of h)) (reps_sh e r q)
  | _, _, .rol h r, q => by rw [okX] at q; rw [dpX, shX]; exact .lst (e.seq h) (reps_sh e r q)
  | _, _, .tup h r, q => by rw [okX] at q; rw [dpX, shX]; exact .tup (seqT e h) (reps_sh e r q)
  | _, _, .ins (C := C') h r, q => by
    rw [okX] at q
    obtain ⟨rfl, q⟩ := q
    rw [dpX, shX]
    · exact .own ⟨_, _, _, h, r, q⟩
    all_goals simp
  | _, _, .exc _ _ _, q => by rw [okX] at q; exact q.elim; all_goals simp
theorem reps_sh {C : Str} {sp : DSp} {tx : D → Str} {H0 H : Hp} (e : Same H0 H) : ∀ {vs : List V} {ds : List D}, Reps X.K H0 vs ds → okXs C sp tx ds → Shs X.K H (ownX X.K C sp H0) lfX vs (dpXs ds) (shXs tx ds)
  | _, _, .nil, _ => by rw [dpXs, shXs]; exact .nil
  | _, _, .cons r rs, q => by
    rw [okXs] at q
    rw [dpXs, shXs]
    exact .cons (rep_sh e r q.1) (reps_sh e rs q.2)
end
/-- repr of a list, a tuple -/
def rReprJ (X : Cx) (C : Addr) (s0 : Sp) (xs : List V) (H : Hp) (Q : VK) : Prop := ∃ (a : Addr) (n : Nat) (t : Str) (own : Addr → Str → Prop) (J : Hp → Prop), xs = [.ref a] ∧ ShOk X H own lfX ∧ Sh X.K H own lfX (.ref a) (n + 1) t ∧ n ≤ 7 ∧ t.length ≤ sizeLine ∧ J H ∧ (∀ H', J H' → Same H H') ∧
  (∀ b t, own b t → ∀ H', J H' → (∃ dx fs, H' b = some (.ins C dx fs)) ∧ s0 [.ref b] H' (fun v H'' => v = .str t ∧ J H'') fun _ _ _ => False) ∧ ∀ H', J H' → Q (.str t) H'
/-- repr of a list, a tuple: of things of the class C by their own method -/
@[irreducible] def reprOD (C : Str) (sp : DSp) (tx : D → Str) : List D → (S → Prop) → Prop := fun as R => match as with
  | [.lst ds] => (okXs C sp tx ds ∧ dpXs ds ≤ 7 ∧ (listText (shXs tx ds)).length ≤ sizeLine) ∧ R (.v (.str (listText (shXs tx ds))))
  | [.tup ds] => (okXs C sp tx ds ∧ dpXs ds ≤ 7 ∧ (tupleText (shXs tx ds)).length ≤ sizeLine) ∧ R (.v (.str (tupleText (shXs tx ds))))
  | _ => False
end
end DL

/-! DL66: max(list of ints); except (A, B, ..) as n: y = n; isinstance of an error of one of several classes. -/
namespace DL
open PySem PySem.Spec PyProof.Rows L2
def maxLD : List D → (S → Prop) → Prop
  | [.lst ds], R => (match intsOf ds with
    | some ns => 0 < ns.length ∧ ∀ m, m ∈ ns → (∀ y, y ∈ ns → y ≤ m) → R (.v (.int m))
    | none => False)
  | _, _ => False
/-! ### the test of a clause with several classes -/
section
variable {M : Model} {A : Around} {E : Value → Shared → Prop}
end
theorem FlyingZ.push {base : Heap} {l : List Env} {e : Addr} {Z : Obj → Prop} {h : Heap} (F : PySem.HandSPX.FlyingZ base l e Z h) (o : Obj) : PySem.HandSPX.FlyingZ base l e Z (h.push o) := by
  obtain ⟨f1, f2, f3, oe, vs, T, oT, ts, he, hz, hd, h1, hnT, hTe, hT, hdT, h3⟩ := F
  exact ⟨fun b u q => Heap.get?_push_of_some _ (f1 b u q), f2, f3.of_keeps fun b u q _ => ⟨u, Heap.get?_push_of_some _ q, rfl⟩, oe, vs, T, oT, ts, Heap.get?_push_of_some _ he, hz, hd, h1, hnT, hTe, Heap.get?_push_of_some _ hT, hdT, h3⟩
/-- the names of a clause and their classes -/
inductive Nms (X : Cx) : List Expr → List Value → Prop
  | nil : Nms X [] []
  | cons {x : Str} {p : Pos} {c : Value} {es : List Expr} {cs : List Value} (h : Names X x c) (r : Nms X es cs) : Nms X (.Name x p :: es) (c :: cs)
theorem Nms.read {X : Cx} {a : Addr} {pn pins : List (Addr × Obj)} {σ : L2.St} {H : Hp} {s : Shared} {es : List Expr} {cs : List Value} {pos : Pos} {Q : List Value → Shared → Prop} {E : Value → Shared → Prop} (nm : Nms X es cs) (JS : Inv (X.suite a pn) pins σ H s) (q : Q cs s) :
    wpAny (model X.prog X.w) (X.A.mark (some (.ref a))) (spliced (backTo pos (starEach es X.env))) Q E s := by
  induction nm generalizing Q with
  | nil => exact Calls.spliced_nil q
  | @cons x p c es cs h r ih =>
    show wpAny _ _ (spliced ((false, eval (.Name x p) X.env) :: backTo pos (starEach es X.env))) _ _ s
    refine Calls.spliced_cons ?_
    obtain ⟨w1, w2, w3⟩ := h
    have go : wpAny (model X.prog X.w) (X.A.mark (some (.ref a))) (spliced (backTo pos (starEach es X.env))) (fun vs s' => Q (c :: vs) s') E s := ih q
    rcases w3 with w3 | ⟨w3, w4, w5⟩
    · exact ld_glob (X := X.suite a _) JS w1 w3 go w2
    · exact ld_blt (X := X.suite a _) JS w1 w3 w4 go w5 w2
/-- what the clause wishes of an error of the body -/
def wKeepT (K : PySem.W.Frag) (cs : List Value) (i : Nat) (ts : Addr → Value → Option Addr → TS) (D : Ends) : WX := fun cls d σ H =>
  PySem.W.exmAny K cls cs = some true ∧ ∀ a, H a = none → ts a cls d (endsK a cls d i D) (σ.set i (some (.ref a))) H
section
variable {X : Cx} {n : Str} {es : List Expr} {cs : List Value} {kk : Nat} {i : Nat} {body suite : List Stmt} {b₀ : Stmt} {np pos pos' : Pos} {tb : WX → TS} {ts : Addr → Value → Option Addr → TS}
end
/-! ### over data -/
/-- the error's class and field are of the list -/
def memC (C' f' : Str) : List (Str × Str) → Prop
  | [] => False
  | (C, f) :: r => (C' = C ∧ f' = f) ∨ memC C' f' r
/-- i: the slot of n, j: of y -/
def dTryT (i j : Nat) (Cs : List (Str × Str)) (tb : DXC → DST) : DST := fun De ρ => tb (fun C' f' d ρ' => memC C' f' Cs ∧ noM [i] ρ' = true ∧ i < ρ'.length ∧ setR j (.v (.exc C' f' d)) ρ' fun ρ2 => De.nx (ρ2.set i none)) De ρ
section
variable {X : Cx} {Γ : Fx} {n y : Str} {Cs : List (Str × Str)} {es : List Expr} {kk : Nat} {i j : Nat} {body : List Stmt} {np py pn1 pa pos pos' : Pos} {tb : DXC → DST}
end
/-! ### isinstance of an error of one of several classes -/
/-- rows: class, field, answer -/
def isxM : List (Str × Str × Bool) → D → (S → Prop) → Prop
  | [], _, _ => False
  | (C, f, b) :: r, d, R => isxD C f b d R ∨ isxM r d R
def rIsM (K : PySem.W.Frag) : List (Str × Str × Bool) → List V → Hp → VK → Prop
  | [], _, _, _ => False
  | (C, f, _) :: r, xs, H, Q => rIsK K C f xs H Q ∨ rIsM K r xs H Q
section
variable {X : Cx} {Γ : Fx}
end
end DL

/-! DL67: an error out of a list comprehension of a def (lc_coreX follows lc_core's steps). -/
namespace DL
open PySem PySem.Spec PyProof.Rows L2
/-- as Takes, the slots of the wish set free of those of the state -/
def TakesA (X : Cx) (W : WX) : Prop := ∀ u s', (∃ (a : Addr) (B : Heap) (sI : Shared) (pins : List (Addr × Obj)) (σ : L2.St) (H : Hp) (cls : Value) (d : Option Addr) (σ' : L2.St),
    u = .ref a ∧ Inv X pins σ H sI ∧ (∀ b o, sI.heap.get? b = some o → b ∉ frs X.stack → B.get? b = some o) ∧ sI.heap.UpToSlots s'.heap ∧
      Sky B X.stack a (Zc cls d) X.env.locals s'.heap ∧ H a = none ∧ s'.os = sI.os ∧ AllBare s'.gens ∧ W cls d σ' H) → X.xe u s'
theorem TakesA.takes {X : Cx} {W : WX} (t : TakesA X W) : Takes X W := fun u s' ⟨a, B, sI, pins, σ, H, cls, d, e, I, nb, up, sky, na, os, ag, w⟩ =>
  t u s' ⟨a, B, sI, pins, σ, H, cls, d, σ, e, I, nb, up, sky, na, os, ag, w⟩
theorem Takes.all {X : Cx} {W : WX} {E : Value → Option Addr → Hp → Prop} (t : Takes X fun cls d _ H => E cls d H) (h : ∀ c d σ H, W c d σ H → E c d H) : TakesA X W := fun u s' ⟨a, B, sI, pins, σ, H, cls, d, σ', e, I, nb, up, sky, na, os, ag, w⟩ =>
  t u s' ⟨a, B, sI, pins, σ, H, cls, d, e, I, nb, up, sky, na, os, ag, h _ _ _ _ w⟩
abbrev Cx.blkE (X : Cx) (s : Shared) (H : Hp) (scope : Scope) (cenv : Env) (fp : List Addr) (xe : Value → Shared → Prop) : Cx := { X.blk s H scope cenv fp with xe := xe }
theorem Inv.blkE {X : Cx} {s : Shared} {H : Hp} {scope : Scope} {ce : Env} {fp : List Addr} {xe : Value → Shared → Prop} {pins : List (Addr × Obj)} {σ : L2.St} {H' : Hp} {s' : Shared} (I : Inv (X.blk s H scope ce fp) pins σ H' s') : Inv (Cx.blkE X s H scope ce fp xe) pins σ H' s' :=
  ⟨⟨I.ok.mod, I.ok.kind, I.ok.glob, I.ok.blt, I.ok.above, I.ok.inj, I.ok.has, I.ok.cab, I.ok.hd, I.ok.frames, I.ok.stk, I.ok.exf, I.ok.bs, I.ok.bsz, I.ok.noex, I.ok.exfs, I.ok.funs, I.ok.frf⟩, I.os, I.bare, I.base, I.loc, I.cell, I.free, I.freeC, I.pin, I.hok, I.len⟩
section
variable {M : Model} {A : Around} {E : Value → Shared → Prop} {s : Shared} {base : Heap} {env : Env} {outer : List Env} {L e : Addr} {Z : Obj → Prop}
/-- the frame notes an error whose flight is not its own -/
theorem looks_anyZ {fl : Value} {Q : Unit → Shared → Prop} (hZ : HandSPX.Steady Z) (hfr : A.frames = some (env :: outer)) (hf : env.frame = some L) (hkb : base.StaysIn s.heap) (hen : base.get? e = none) (hl : s.heap.FunFrames base (env :: outer)) (ht : HandSPX.TracedZ s.heap base e Z fl) (hne : (fl == rawInt L) = false)
    (hQ : ∀ h', HandSPX.HeldZ base (env :: outer) e Z L h' → s.heap.UpToSlots h' → Q () { s with heap := h' }) : wpAny M A (noteFrame (.ref e) env) Q E s := by
  obtain ⟨oe, vs, T, oT, ts, he, hz, hd, h1, hnT, hTe, hT, hdT, h3⟩ := ht
  unfold noteFrame
  simp only [hf]
  refine wpAny_bind (wpAny_field he hd h1 ?_)
  rw [if_pos (show (Value.ref T != Value.none) = true from by simp)]
  refine wpAny_bind (wpAny_field hT hdT h3 ?_)
  rw [if_neg (by rw [hne]; decide)]
  refine wpAny_bind (wpAny_setField hT hdT (Array.getElem?_eq_some_iff.mp h3).1 ?_)
  have other : ∀ b, b ≠ T → (s.heap.update T (Obj.mapFields (·.setIfInBounds 3 Value.none))).get? b = s.heap.get? b := fun b hb => Heap.get?_update_other _ _ (Ne.symm hb)
  have noRecord : ∀ b o, s.heap.get? b = some o → (∀ vs, o.data ≠ .fields vs) → b ≠ T := fun b o hb hnf q => by
    rw [q, hT] at hb; injection hb with hb; subst hb; exact hnf ts hdT
  refine HandSPX.wpAny_entryZ hZ hfr (hl.of_keeps fun b o hb hnf => ⟨o, (other b (noRecord b o hb hnf)).trans hb, rfl⟩) hf ((other e (Ne.symm hTe)).trans he)
    (fun b o hbo => (other b fun q => by rw [q, hnT] at hbo; cases hbo).trans (hkb b o hbo)) hen hd (Array.getElem?_eq_some_iff.mp h1).1 hz fun h' hN => ?_
  obtain ⟨x1, x2, x3, x4⟩ := hN
  exact hQ h' ⟨x1, hen, x2, x3⟩ fun b o hb hnf => x4 b o ((other b (noRecord b o hb hnf)).trans hb) hnf
end
section
variable {X : Cx}
/-- an error of the block is one of the def's -/
theorem blk_takes {W₀ : WX} {pins : List (Addr × Obj)} {σ : L2.St} {H3 : Hp} {s3 : Shared} {scope : Scope} {ce : Env} {fp : List Addr} (stk : X.stack = X.env :: X.outer) (fr : X.env.frame = some X.env.locals) (tkA : TakesA X W₀) (I3 : Inv X pins σ H3 s3) (cL : ce.locals = s3.heap.objs.size) (cF : ce.frame = X.env.frame)
    (hch : ∀ b ∈ fp, (b ∈ X.ex ∨ X.s_0.heap.objs.size ≤ b) ∧ b ≠ X.env.locals ∧ (∀ x c, X.env.cells.lookup x = some c → c ≠ b) ∧ ∀ p ∈ X.pn ++ pins, p.1 ≠ b) :
    TakesA (Cx.blkE X s3 H3 scope ce fp (notedBy (model X.prog X.w) X.A ce fun e s' => CompFails (model X.prog X.w) X.A X.xe ce e s')) W₀ := by
  rintro u s' ⟨a, B, sI, ps, σI, H', cls, d, σ', rfl, IB, nb, up, sky, na, os, ag, w⟩
  show notedBy (model X.prog X.w) X.A ce (fun e s' => CompFails (model X.prog X.w) X.A X.xe ce e s') (.ref a) s'
  have hfr : X.A.frames = some (X.env :: X.outer) := by rw [I3.ok.frames, stk]
  have fC : ce.frame = some X.env.locals := cF.trans fr
  have hCL : s3.heap.objs.size ≠ X.env.locals := Nat.ne_of_gt I3.lt
  have nC : H' s3.heap.objs.size = none := by
    have z : H' ce.locals = none := IB.free
    rw [cL] at z
    exact z
  have nfC : s3.heap.objs.size ∉ frs X.stack := fun hm => by
    obtain ⟨_, o, e, _⟩ := I3.stack.mem hm
    exact Nat.lt_irrefl _ (Heap.lt_size e)
  obtain ⟨m, hn, _⟩ := IB.loc
  have hn : sI.heap.Ns s3.heap.objs.size m := by
    have z : sI.heap.Ns ce.locals m := hn
    rw [cL] at z
    exact z
  -- the frame's note
  have note : ∀ {Q : Unit → Shared → Prop} {E : Value → Shared → Prop}, (∀ h', HandSPX.HeldZ B (X.env :: X.outer) a (Zc cls d) X.env.locals h' → s'.heap.UpToSlots h' → Q () { s' with heap := h' }) → wpAny (model X.prog X.w) X.A (noteFrame (.ref a) ce) Q E s' := fun {Q E} hQ => by
    rw [PySem.noteFrame_env _ cF]
    have sky : Sky B X.stack a (Zc cls d) ce.locals s'.heap := sky
    rw [stk] at sky
    rcases sky with ⟨hB, hn, hl, oe, vs, he, hz, hd, h1⟩ | fl | ⟨k1, k2, k3, k4⟩
    · exact HandSPX.look_newZ Zc.steady hfr hl fr he hB hn hd h1 hz hQ
    · exact HandSPX.looks_onZ Zc.steady hfr fr fl hQ
    · refine looks_anyZ Zc.steady hfr fr k1 k2 k3 k4 ?_ hQ
      rw [cL]
      simp only [rawInt, beq_eq_false_iff_ne, ne_eq, Value.int.injEq, and_true]
      exact fun z => hCL (by exact_mod_cast z)
  refine note fun h1 hh up1 => ?_
  refine ⟨m, by rw [cL]; exact (up.trans up1).ns hn, fun h2 m2 hn2 hs2 => ?_⟩
  rw [cL] at hn2 hs2
  obtain ⟨b1, b0, f1, t1⟩ := hh
  have hn1 : h1.Ns s3.heap.objs.size m := (up.trans up1).ns hn
  have notC : ∀ b o vs, h1.get? b = some o → o.data = .fields vs → b ≠ s3.heap.objs.size := fun b o vs e dd z => by
    obtain ⟨o', es, ep, ho', hd', _⟩ := hn1
    rw [z, ho'] at e
    cases e
    rw [hd'] at dd
    cases dd
  obtain ⟨B', g1, g2⟩ := restrict B fun b => decide (b ≠ s3.heap.objs.size)
  obtain ⟨G, q1, q2⟩ := restrict sI.heap fun b => decide (b ≠ s3.heap.objs.size)
  have inB : ∀ b o, B'.get? b = some o → b ≠ s3.heap.objs.size ∧ B.get? b = some o := fun b o e => by
    by_cases hb : b = s3.heap.objs.size
    · rw [g2 b (by simp [hb])] at e; cases e
    · exact ⟨hb, by rw [← g1 b (by simp [hb])]; exact e⟩
  have inG : ∀ b o, G.get? b = some o → b ≠ s3.heap.objs.size ∧ sI.heap.get? b = some o := fun b o e => by
    by_cases hb : b = s3.heap.objs.size
    · rw [q2 b (by simp [hb])] at e; cases e
    · exact ⟨hb, by rw [← q1 b (by simp [hb])]; exact e⟩
  have toG : ∀ b o, b ≠ s3.heap.objs.size → sI.heap.get? b = some o → G.get? b = some o := fun b o hb e => by rw [q1 b (by simp [hb])]; exact e
  have old : ∀ b o, s3.heap.get? b = some o → b ≠ s3.heap.objs.size := fun b o e => Nat.ne_of_lt (Heap.lt_size e)
  have UB := IB.base
  have hokG : HOk X.prog X.w H' G := fun b o q => ((show HOk X.prog X.w H' sI.heap from IB.hok) b o q).stay (fun c u hc r => toG c u (fun z => by
    rcases hc with hc | hc
    · rw [hc] at z; rw [z, nC] at q; cases q
    · rw [z, nC] at hc; cases hc) r) (fun _ r => r) fun _ _ r => r
  have IG : Inv X pins σ H' { sI with heap := G } := I3.call' (ch := fp) IB.os
    ⟨fun b o e n x y => toG b o (old b o e) (UB.keep b o e n x y), fun b o e n x y => by
      obtain ⟨sl, z⟩ := UB.slot b o e n x y
      exact ⟨sl, toG b _ (old b o e) z⟩, fun b o e n y => UB.free b o e n y, fun b o e y => by
      obtain ⟨o', z⟩ := UB.there b o e y
      exact ⟨o', toG b _ (old b o e) z⟩, UB.tups, UB.frzs, UB.tbls⟩ hokG IB.bare hch
  have held : HandSPX.HeldZ B' (X.env :: X.outer) a (Zc cls d) X.env.locals h2 := by
    obtain ⟨oe, vs, T, oT, ts, he, hz, hd, hv, hnT, hTe, hT, hdT, h3⟩ := t1
    refine ⟨fun b o e => ?_, ?_, ?_, oe, vs, T, oT, ts, ?_, hz, hd, hv, ?_, hTe, ?_, hdT, h3⟩
    · obtain ⟨hb, e⟩ := inB b o e
      exact (hs2.2 b hb).trans (b1 b o e)
    · cases q : B'.get? a with
      | none => rfl
      | some o => have := (inB a o q).2; rw [b0] at this; cases this
    · refine funFrames_none (Heap.FunFrames.sameBut hs2 hn2 f1) fun b hb => ?_
      obtain ⟨hbn, _⟩ := f1.mem hb
      cases q : B'.get? b with
      | none => rfl
      | some o => have := (inB b o q).2; rw [hbn] at this; cases this
    · exact (hs2.2 a (notC a oe vs he hd)).trans he
    · cases q : B'.get? T with
      | none => rfl
      | some o => have := (inB T o q).2; rw [hnT] at this; cases this
    · exact (hs2.2 T (notC T oT ts hT hdT)).trans hT
  have upG : G.UpToSlots h2 := fun b o e hnf => by
    obtain ⟨hb, e⟩ := inG b o e
    obtain ⟨sl, z⟩ := (up.trans up1) b o e hnf
    exact ⟨sl, (hs2.2 b hb).trans z⟩
  obtain ⟨oe, vs, T, oT, ts, he, hz, hd, hv, _⟩ := held.2.2.2
  unfold PySem.passOn
  refine wpAny_bind (wpAny_field he hd hv ?_)
  rw [if_neg (show ¬ ((Value.ref T == Value.none) = true) from by simp), fC]
  refine wpAny_bind (HandSPX.setFlight_onZ held fun h3 held3 up3 => ?_)
  refine wpAny_throw ?_
  refine tkA (.ref a) _ ⟨a, B', { sI with heap := G }, pins, σ, H', cls, d, σ', rfl, IG, fun b o e hb => ?_, upG.trans up3, ?_, na, os, ag, w⟩
  · obtain ⟨hbC, e⟩ := inG b o e
    rw [g1 b (by simp [hbC])]
    exact nb b o e hb
  · rw [stk]
    exact .inr (.inr held3)
theorem lc_coreX {pins : List (Addr × Obj)} {s : Shared} {σ : L2.St} {H : Hp} {Q : VK} {elt tg iter : Expr} {ifs : List Expr} {scope : Scope} {own : List (Str × Nat)} {pos pos' : Pos} {wi : TI} {g : TG} {tt : TT} {te : TE} {Qf : Value → Shared → Prop} {W₀ : WX}
    (hc : X.calm = true) (stk : X.stack = X.env :: X.outer) (fr : X.env.frame = some X.env.locals) (tkA : TakesA X W₀) (hN : X.N.Nodup) (I : Inv X pins σ H s) (hi : PI X tg iter wi) (ok : BlkOk X.N X.env.scope scope own)
    (hg : ∀ (s : Shared) (H : Hp) (C : Addr) (cl : List (Str × Addr)) (fp : List Addr) (xe : Value → Shared → Prop), PG (Cx.blkE X s H scope (compEnvC scope cl C X.env) fp xe) tg g) (ht : ∀ (s : Shared) (H : Hp) (C : Addr) (cl : List (Str × Addr)) (fp : List Addr) (xe : Value → Shared → Prop), PTs (Cx.blkE X s H scope (compEnvC scope cl C X.env) fp xe) ifs tt)
    (he : ∀ (s : Shared) (H : Hp) (C : Addr) (cl : List (Str × Addr)) (fp : List Addr) (xe : Value → Shared → Prop), TakesA (Cx.blkE X s H scope (compEnvC scope cl C X.env) fp xe) W₀ → PE (Cx.blkE X s H scope (compEnvC scope cl C X.env) fp xe) elt te) (hs : ∀ x, foldedSetIterable iter X.env x = pure x)
    (h : tLc wi g tt te (own.map (·.2)) σ H Q)
    (hRR : ∀ D C s' m H', Inv X pins σ H' s' → Q (.ref D) H' → s'.heap.Ns C m → FpOk X pins H' C → ∃ m, s'.heap.Ns C m ∧ ∀ h', Heap.SameBut C s'.heap h' → Qf (.ref D) { s' with heap := h' }) :
    wpAny (model X.prog X.w) X.A (comprehension (.ListComp elt [⟨tg, iter, ifs, 0⟩] scope pos) scope X.env pos' (newList []) false (eval iter X.env) none) Qf X.xe s := by
  have hfree : ∀ y ∈ scope.names, y.2 = .free → ∃ c, X.env.cells.lookup y.1 = some c := fun y hy e => by
    rcases ok.free y hy e with k | k
    · exact I.ok.has _ (.inl k)
    · exact I.ok.has _ (.inr k)
  refine comprehension_at (use := none) rfl hs (closure_ok hfree) ok.kind (fun y hy e => by rw [ok.uniq y hy, e])
    (thn (hi.run pins s σ H _ I h) fun xv s1 hx => thn hx fun itv s2 h2 => ?_)
  obtain ⟨it, fp, tn, J, H2, e, I2, T, st2, f2, q⟩ := h2
  subst e
  refine wpAny_newObj_type (newEnv_comp ?_) (by show 0 ≤ sizeLine; decide)
  generalize hD : s2.heap.objs.size = D
  have hDn : H2 D = none := I2.hok.fresh (Nat.le_of_eq hD)
  obtain ⟨W, ⟨m0, w0⟩, turn⟩ := q D hDn
  -- the new list
  generalize hs3 : ({ s2 with heap := s2.heap.push { cls := .type "list", data := .seq ([] : List Value).toArray } } : Shared) = s3
  have I3 : Inv X pins σ (upd H2 D (.lst [])) s3 := by
    rw [← hs3]
    refine I2.laid (t' := s2.toks) (fun b o e => Heap.get?_push_of_some _ e) (Nat.le_of_eq hD) ⟨Nat.zero_le _, [], 0, .nil, ?_⟩
    rw [← hD]
    exact Heap.get?_push_size _ rfl
  have h3 : s3.heap = s2.heap.push { cls := .type "list", data := .seq ([] : List Value).toArray } := by rw [← hs3]
  have sz : ∀ b ∈ fp, b < s2.heap.objs.size := fun b hb => by
    obtain ⟨o, e, _⟩ := T.obj _ _ st2 b hb
    exact Heap.lt_size e
  have f3 : ∀ b ∈ fp, FpOk X pins (upd H2 D (.lst [])) b ∧ b < s3.heap.objs.size := fun b hb => by
    have hlt := sz b hb
    refine ⟨⟨?_, (f2 b hb).2⟩, by rw [h3, Heap.size_push]; exact Nat.lt_succ_of_lt hlt⟩
    rw [upd_ne (by rw [← hD]; exact Nat.ne_of_lt hlt)]
    exact (f2 b hb).1
  have st3 : tn 0 s3.heap := T.keep _ _ _ st2 fun b _ o e => by rw [h3]; exact Heap.get?_push_of_some _ e
  have I4b := block_start I3 ok hN f3
  generalize hce : compEnvC scope (cellsFrom (s3.heap.objs.size + 1) scope.names (cloFrom X.env.cells scope.names [])) s3.heap.objs.size X.env = ce at I4b
  have cL : ce.locals = s3.heap.objs.size := by subst hce; rfl
  have cF : ce.frame = X.env.frame := by subst hce; rfl
  have nfp : ∀ b ∈ fp, (upd H2 D (.lst [])) b = none := fun b hb => (f3 b hb).1.1
  have pg := hg s3 (upd H2 D (.lst [])) s3.heap.objs.size (cellsFrom (s3.heap.objs.size + 1) scope.names (cloFrom X.env.cells scope.names [])) fp (notedBy (model X.prog X.w) X.A ce fun e s' => CompFails (model X.prog X.w) X.A X.xe ce e s')
  have pt := ht s3 (upd H2 D (.lst [])) s3.heap.objs.size (cellsFrom (s3.heap.objs.size + 1) scope.names (cloFrom X.env.cells scope.names [])) fp (notedBy (model X.prog X.w) X.A ce fun e s' => CompFails (model X.prog X.w) X.A X.xe ce e s')
  have pe := he s3 (upd H2 D (.lst [])) s3.heap.objs.size (cellsFrom (s3.heap.objs.size + 1) scope.names (cloFrom X.env.cells scope.names [])) fp (notedBy (model X.prog X.w) X.A ce fun e s' => CompFails (model X.prog X.w) X.A X.xe ce e s')
  rw [hce] at pg pt pe
  generalize hH3 : upd H2 D (.lst []) = H3 at I3 I4b pg pt pe w0 nfp f3
  have I4 := Inv.blkE (xe := notedBy (model X.prog X.w) X.A ce fun e s' => CompFails (model X.prog X.w) X.A X.xe ce e s') I4b
  have pe := pe (blk_takes stk fr tkA I3 cL cF (fun b hb => ⟨(f3 b hb).1.2.2.2.1, (f3 b hb).1.2.1, (f3 b hb).1.2.2.2.2.1, (f3 b hb).1.2.2.2.2.2⟩))
  show codeAny _ _ (.compStart (.ListComp elt [⟨tg, iter, ifs, 0⟩] scope pos) 0 (.ref it) (.ref D) (compEnvC scope (cellsFrom (s3.heap.objs.size + 1) scope.names (cloFrom X.env.cells scope.names [])) s3.heap.objs.size X.env)) (compEnds (model X.prog X.w) X.A X.xe none Qf (.ref D) (compEnvC scope (cellsFrom (s3.heap.objs.size + 1) scope.names (cloFrom X.env.cells scope.names [])) s3.heap.objs.size X.env)) { s3 with heap := pushCells (s3.heap.push { cls := .type "dict", data := .dict #[] }) scope.names }
  rw [hce]
  generalize hs4 : ({ s3 with heap := pushCells (s3.heap.push { cls := .type "dict", data := .dict #[] }) scope.names } : Shared) = s4 at I4 ⊢
  have st4 : tn 0 s4.heap := T.keep _ _ _ st3 fun b _ o e => by rw [← hs4]; exact pushCells_keeps _ _ _ _ (Heap.get?_push_of_some _ e)
  have stat : ∀ {σ' : L2.St} {H' : Hp} {s' : Shared}, Inv (Cx.blkE X s3 H3 scope ce fp (notedBy (model X.prog X.w) X.A ce fun e s' => CompFails (model X.prog X.w) X.A X.xe ce e s')) [] σ' H' s' → (∀ b ∈ fp, H' b = none) → ∀ b ∈ fp, FpOk (Cx.blkE X s3 H3 scope ce fp (notedBy (model X.prog X.w) X.A ce fun e s' => CompFails (model X.prog X.w) X.A X.xe ce e s')) [] H' b := fun {σ' H' s'} I' hn b hb =>
    ⟨hn b hb, (I'.ok.exf b hb).1, I'.ok.exfs b hb, .inl hb, fun x c e => (I'.ok.exf b hb).2 x c e, fun p hp => absurd (show p ∈ ([] : List (Addr × Obj)) ++ [] from hp) (by simp)⟩
  have loop : codeAny (model X.prog X.w) X.A (.compLoop (.ListComp elt [⟨tg, iter, ifs, 0⟩] scope pos) 0 (.ref it) (.ref D) ce) (compEnds (model X.prog X.w) X.A X.xe none Qf (.ref D) ce) s4 := by
    refine compLoop_any (fun n s' => ∃ i H', Inv (Cx.blkE X s3 H3 scope ce fp (notedBy (model X.prog X.w) X.A ce fun e s' => CompFails (model X.prog X.w) X.A X.xe ce e s')) [] (wipe σ (own.map (·.2))) H' s' ∧ tn i s'.heap ∧ (∀ b ∈ fp, H' b = none) ∧ W i n H') ?_ m0 ⟨0, H3, I4, st4, nfp, w0⟩
    rintro n s5 ⟨i, H5, I5, st5, n5, w5⟩
    rcases turn i n H5 w5 with ⟨stop, qq⟩ | ⟨go, Nx, hNx, step⟩
    · have td := T.done (Cx.blkE X s3 H3 scope ce fp (notedBy (model X.prog X.w) X.A ce fun e s' => CompFails (model X.prog X.w) X.A X.xe ce e s')) rfl rfl rfl hc i [] s5 _ H5 (fun _ _ => False) I5 (stat I5 n5) st5 stop
      refine thnF td fun r s6 ⟨hr, I6⟩ => ?_
      subst hr
      -- back in the def's context
      have I7 : Inv X pins σ H5 s6 := I3.call' (ch := fp) I6.os I6.base I6.hok I6.bare fun b hb => ⟨(f3 b hb).1.2.2.2.1, (f3 b hb).1.2.1, (f3 b hb).1.2.2.2.2.1, (f3 b hb).1.2.2.2.2.2⟩
      have nC : H5 s3.heap.objs.size = none := by
        have z : H5 ce.locals = none := I6.free
        rw [cL] at z
        exact z
      obtain ⟨m, hn, _⟩ := I6.loc
      have hn : s6.heap.Ns ce.locals m := hn
      rw [cL] at hn
      show ∃ m, s6.heap.Ns ce.locals m ∧ ∀ h', Heap.SameBut ce.locals s6.heap h' → Qf (.ref D) { s6 with heap := h' }
      rw [cL]
      exact hRR D s3.heap.objs.size s6 m H5 I7 qq hn (I3.fpOk (Nat.le_refl _) nC)
    · have ti := T.item (Cx.blkE X s3 H3 scope ce fp (notedBy (model X.prog X.w) X.A ce fun e s' => CompFails (model X.prog X.w) X.A X.xe ce e s')) rfl rfl rfl hc i [] s5 _ H5 (fun _ _ => False) I5 (stat I5 n5) st5 go
      refine thnF ti fun r s6 ⟨u, hr, h6⟩ => ?_
      subst hr
      refine thnF h6 fun _ s7 ⟨x, H7, I7, r7, y7, st7, n7⟩ => ?_
      have I7' := I7.pinned (stat I7 n7) (T.obj _ _ st7)
      refine thn (pg.run _ s7 _ H7 x u _ I7' r7 (step x H7 y7)) fun _ s8 ⟨σ8, H8, I8, hw8, q8⟩ => ?_
      refine thn (pt.run _ s8 σ8 H8 _ I8 q8) fun b s9 ⟨H9, I9, q9⟩ => ?_
      -- the turn's end
      have fin : ∀ {s' : Shared} {H' : Hp}, Inv (Cx.blkE X s3 H3 scope ce fp (notedBy (model X.prog X.w) X.A ce fun e s' => CompFails (model X.prog X.w) X.A X.xe ce e s')) ([] ++ pinsAt fp s7.heap) σ8 H' s' → Nx H' → ∃ m, m < n ∧ ∃ i H', Inv (Cx.blkE X s3 H3 scope ce fp (notedBy (model X.prog X.w) X.A ce fun e s' => CompFails (model X.prog X.w) X.A X.xe ce e s')) [] (wipe σ (own.map (·.2))) H' s' ∧ tn i s'.heap ∧ (∀ b ∈ fp, H' b = none) ∧ W i m H' := fun {s' H'} I' nx => by
        obtain ⟨m', hm, w'⟩ := hNx H' nx
        have pin' : ∀ b ∈ fp, ∀ o, s7.heap.get? b = some o → s'.heap.get? b = some o ∧ H' b = none := fun b hb o e =>
          let z := I'.pin (b, o) (List.mem_append_right _ (List.mem_append_right _ (mem_pinsAt hb e)))
          ⟨z.1, z.2.1⟩
        have hl : (wipe σ (own.map (·.2))).length = σ8.length := by rw [← hw8, wipe_length]
        refine ⟨m', hm, i + 1, H', (I'.unpinned (pins := [])).weak hl (fun j v e => ?_), T.keep _ _ _ st7 fun b hb o e => (pin' b hb o e).1, fun b hb => ?_, w'⟩
        · rw [← hw8] at e
          exact (wipe_some e).1
        · obtain ⟨o, e, _⟩ := T.obj _ _ st7 b hb
          exact (pin' b hb o e).2
      cases b with
      | false =>
        simp only [Bool.false_eq_true, if_false] at q9 ⊢
        exact fin I9 q9
      | true =>
        simp only [if_true] at q9 ⊢
        refine thn (pe.run _ s9 σ8 H9 _ I9 q9) fun z s10 ⟨yv, H10, I10, r10, acc, hD10, hz10, nx⟩ => ?_
        exact app_ok (X := Cx.blkE X s3 H3 scope ce fp (notedBy (model X.prog X.w) X.A ce fun e s' => CompFails (model X.prog X.w) X.A X.xe ce e s')) I10 hD10 hz10 r10 fun s11 I11 => fin I11 nx
  exact codeAny_compStart_list loop (T.self X.A 0 _ _ _ st4 loop)
end
section
variable {X : Cx} {Γ : Fx} {tg iter elt : Expr} {ifs : List Expr} {scope : Scope} {own : List (Str × Nat)} {pos : Pos} {ti : DIT} {g : DGT} {tt : DTT} {te : DT} {xc : DXC}
end
end DL

/-! DL68: sorted(set(list of ints)). -/
namespace DL
open PySem PySem.Spec PyProof.Rows L2
def SetIO (w : World) (a : Addr) (S : Int → Bool) (n : Nat) : HO := .ext fun h => SetR w h a S n
section
variable {P : Program} {w : World} {A : Around} {E : Value → Shared → Prop} {s : Shared} {a : Addr}
end
section
variable {X : Cx}
/-- set(list of ints) -/
def rSetLI (w : World) (K : PySem.W.Frag) : List V → Hp → VK → Prop := fun xs H Q => ∃ (l : Addr) (ns : List Int), xs = [.ref l] ∧ SqL K H l (ns.map V.int) ∧ ns.length + 1 < scanBound ∧ ∀ (p : Addr) (c : Nat), H p = none → Q (.ref p) (upd H p (SetIO w p (fun j => decide (j ∈ ns)) c))
/-- sorted(set of ints) -/
def rSortS (w : World) : List V → Hp → VK → Prop := fun xs H Q => ∃ (a : Addr) (S : Int → Bool) (n : Nat), xs = [.ref a] ∧ H a = some (SetIO w a S n) ∧ ∀ (p : Addr) (ns : List Int), ns.Pairwise (· < ·) → (∀ k, k ∈ ns ↔ S k = true) → H p = none → Q (.ref p) (upd H p (.lst (ns.map V.int)))
end

section
variable {P : Program} {w : World} {A : Around} {E : Value → Shared → Prop} {s : Shared} {S l : Addr} {us : List Value} {ns : List Int}
/-- a set that has just been made -/
abbrev newSetO (w : World) : Obj := { cls := .type "set", dict := none, data := .set #[] 0 (.fresh 0 0 (!w.params.followText "set-order")) }
end

section
variable {P : Program} {w : World} {A : Around} {E : Value → Shared → Prop} {s : Shared} {l : Addr} {us : List Value} {ns : List Int}
end
section
variable {X : Cx}
end
/-- sorted(set(list)) -/
def rSortSet (w : World) (K : PySem.W.Frag) : List V → Hp → VK → Prop := fun xs H Q => rSetLI w K xs H fun v H1 => rSortS w [v] H1 Q
def sortSetD : List D → (S → Prop) → Prop
  | [.lst ds], R => ∃ ns : List Int, ds = ns.map D.int ∧ ns.length + 1 < scanBound ∧ ∀ ms : List Int, ms.Pairwise (· < ·) → (∀ k, k ∈ ms ↔ k ∈ ns) → R (.o (ms.map D.int))
  | _, _ => False
section
variable {X : Cx} {Γ : Fx} {e : Expr} {ta : DAT} {p p2 pos pos2 : Pos}
end
end DL

/-! DL69: sorted({e for x in xs for y in ys}), ints. -/
namespace DL
open PySem PySem.Spec PyProof.Rows L2
section
variable {prog : Program} {w : World} {A : Around} {R : Result → Shared → Prop} {s : Shared} {elt ta ia tb ib : Expr} {ca cb : List Expr} {sc : Scope} {pos : Pos} {it acc : Value} {env : Env}
abbrev setE (elt ta ia tb ib : Expr) (ca cb : List Expr) (sc : Scope) (pos : Pos) : Expr := .SetComp elt [⟨ta, ia, ca, 0⟩, ⟨tb, ib, cb, 0⟩] sc pos
/-- the tests behind a for -/
abbrev testsOf (cs : List Expr) (env : Env) : Sem Bool := forIn cs true fun q r => if r = true then do let ok ← isTrue q env (eval q env); pure (ForInStep.yield ok) else pure (ForInStep.yield r)
/-- what comes behind the next item's store and tests -/
def Turn (prog : Program) (w : World) (A : Around) (R : Result → Shared → Prop) (env : Env) (t : Expr) (cs : List Expr) (it : Value) (go no : Shared → Prop) (s : Shared) : Prop :=
  wpAny (model prog w) A (pyNext it) (fun r s1 => match r with
    | none => R (.ok .next) s1
    | some z => wpAny (model prog w) A (letOwnedTupleGo t it z) (fun _ s2 => wpAny (model prog w) A (assign t env z) (fun _ s3 => wpAny (model prog w) A (testsOf cs env) (fun b s4 => if b = true then go s4 else no s4)
      (notedBy (model prog w) A env fun e s' => R (.error e) s') s3) (notedBy (model prog w) A env fun e s' => R (.error e) s') s2) (notedBy (model prog w) A env fun e s' => R (.error e) s') s1) (notedBy (model prog w) A env fun e s' => R (.error e) s') s
end
section
variable {X : Cx}
/-- {elt for .. for ..} -/
def tSS (w : World) (wi : TI) (g : TG) (tt : TT) (wi1 : TI) (g1 : TG) (tt1 : TT) (te : TE) (vs vs1 : List Nat) : TE := fun σ H Q => wi σ H fun J H1 => ∀ D, H1 D = none → ∃ W : Nat → Nat → Hp → Prop, (∃ m, W 0 m (upd H1 D (SetIO w D (fun _ => false) 0))) ∧ ∀ i m H, W i m H →
  (J.stop i H ∧ Q (.ref D) H) ∨ (J.go i H ∧ ∃ Nx : Hp → Prop, (∀ H', Nx H' → ∃ m', m' < m ∧ W (i + 1) m' H') ∧ ∀ x H', J.yld i H x H' → g x (wipe σ vs) H' fun σ2 H2 => wipe σ2 vs = wipe σ vs ∧ tt σ2 H2 fun b H3 =>
    if b = true then wi1 σ2 H3 fun J1 H4 => ∃ W1 : Nat → Nat → Hp → Prop, (∃ m, W1 0 m H4) ∧ ∀ j k H, W1 j k H →
      (J1.stop j H ∧ Nx H) ∨ (J1.go j H ∧ ∃ Nx1 : Hp → Prop, (∀ H', Nx1 H' → ∃ k', k' < k ∧ W1 (j + 1) k' H') ∧ ∀ x H', J1.yld j H x H' → g1 x (wipe σ2 vs1) H' fun σ3 H5 => wipe σ3 vs1 = wipe σ2 vs1 ∧ tt1 σ3 H5 fun b H6 =>
        if b = true then te σ3 H6 fun y H7 => ∃ (k : Int) (S : Int → Bool) (n : Nat), y = .int k ∧ H7 D = some (SetIO w D S n) ∧ n + 1 < scanBound ∧ Nx1 (upd H7 D (SetIO w D (fun j => S j || decide (j = k)) (if S k = true then n else n + 1))) else Nx1 H6)
    else Nx H3)
end
/-! ### over data -/
abbrev Fx.hs (Γ : Fx) (L : Addr) (o : HO) : Fx := { Γ with Hs := upd Γ.Hs L o }
structure LOk (Γ : Fx) (L : Addr) : Prop where
  h0 : Γ.H0 L = none
  hs : Γ.Hs L = none
  ma : L ∉ Γ.ma
section
variable {Γ : Fx} {K : PySem.W.Frag} {H0 : Hp} {σ : L2.St} {ρ : Rho} {H : Hp} {L : Addr} {o o' : HO}
end
def insU (acc : List Int) (k : Int) : List Int := if k ∈ acc then acc else acc ++ [k]
def setL (g : DGT) (tt : DTT) (te : DT) (vs : List Nat) : List D → List Int → Rho → (List Int → Rho → Prop) → Prop
  | [], acc, ρ, R => R acc ρ
  | x :: xs, acc, ρ, R => g (.v x) ρ fun ρ2 => tt ρ2 fun b ρ3 => IfB b (te ρ3 fun r ρ4 => match r with
    | .v (.int k) => acc.length + 1 < scanBound ∧ setL g tt te vs xs (insU acc k) (wipeR ρ4 vs) R
    | _ => False) (setL g tt te vs xs acc (wipeR ρ3 vs) R)
def setL2 (g : DGT) (tt : DTT) (ti1 : DIT) (g1 : DGT) (tt1 : DTT) (te : DT) (vs vs1 : List Nat) : List D → List Int → Rho → (List Int → Rho → Prop) → Prop
  | [], acc, ρ, R => R acc ρ
  | x :: xs, acc, ρ, R => g (.v x) ρ fun ρ2 => tt ρ2 fun b ρ3 => IfB b (ti1 ρ3 fun items1 ρ4 => setL g1 tt1 te vs1 items1 acc (wipeR ρ4 vs1) fun acc' ρ5 => setL2 g tt ti1 g1 tt1 te vs vs1 xs acc' (wipeR ρ5 vs) R) (setL2 g tt ti1 g1 tt1 te vs vs1 xs acc (wipeR ρ3 vs) R)
/-- sorted({.. for .. for ..}) -/
def dSortSS (ti : DIT) (g : DGT) (tt : DTT) (ti1 : DIT) (g1 : DGT) (tt1 : DTT) (te : DT) (vs vs1 : List Nat) : DT := fun ρ R => ti ρ fun items ρ1 => noM vs ρ1 = true ∧ setL2 g tt ti1 g1 tt1 te vs vs1 items [] (wipeR ρ1 vs) fun acc ρn => ∀ ms : List Int, ms.Pairwise (· < ·) → (∀ k, k ∈ ms ↔ k ∈ acc) → R (.o (ms.map D.int)) (restR ρ1 vs ρn)
section
variable {X : Cx} {Γ : Fx} {tg iter elt tg1 iter1 : Expr} {ifs ifs1 : List Expr} {scope : Scope} {own : List (Str × Nat)} {pos pos0 p : Pos} {ti ti1 : DIT} {g g1 : DGT} {tt tt1 : DTT} {te : DT}
end
end DL

/-! DL70: z in C, z not in C: C a dict of the module with text keys that has z. -/
namespace DL
open PySem L2
def nsyB (C : Str) (K : PySem.W.Frag) : Bool := !(He.ga K C == sysModules)
def rKIn (K : PySem.W.Frag) (w : World) (neg : Bool) : R2 := fun x y H Q => ∃ p z v, x = .str z ∧ y = .ref p ∧ (p == sysModules) = false ∧ KDct K w p z v ∧ Q (.bl (!neg)) H
def inTD (neg : Bool) (C : Str) (tbl : List (Str × D)) : D → D → (S → Prop) → Prop
  | .str z, .cls c, R => c = C ∧ ∃ d, tabAt tbl z = some d ∧ R (.v (.bl (!neg)))
  | _, _, _ => False
section
variable {X : Cx}
end
end DL

/-! DL71: x.extend(a tuple); max(a tuple of ints). -/
namespace DL
open PySem PySem.Spec PyProof.Rows L2
def rExtT (K : PySem.W.Frag) : V → List V → Hp → VK → Prop := fun x vs H Q => ∃ l b xs zs, x = .ref l ∧ vs = [.ref b] ∧ H l = some (.lst xs) ∧ (H b = some (.lst zs) ∨ SqT K H b zs) ∧ xs.length + zs.length ≤ sizeLine ∧ Q .non (upd H l (.lst (xs ++ zs)))
def extendTF : MtF := fun ds as R => match as with
  | [.lst es] => ds.length + es.length ≤ sizeLine ∧ R .non (ds ++ es)
  | [.tup es] => ds.length + es.length ≤ sizeLine ∧ R .non (ds ++ es)
  | _ => False
/-! ### max(a tuple of ints) -/
section
variable {prog : Program} {w : World} {A : Around} {E : Value → Shared → Prop} {s : Shared} {l : Addr} {its : List Value} {ns : List Int} {Q : Value → Shared → Prop}
end
def rMaxT (K : PySem.W.Frag) : List V → Hp → VK → Prop := fun vs H Q => ∃ (a : Addr) (ns : List Int), vs = [V.ref a] ∧ (SqL K H a (ns.map V.int) ∨ SqT K H a (ns.map V.int)) ∧ 0 < ns.length ∧ ∀ m, m ∈ ns → (∀ y, y ∈ ns → y ≤ m) → Q (.int m) H
def maxTD : List D → (S → Prop) → Prop
  | [.lst ds], R => (match intsOf ds with
    | some ns => 0 < ns.length ∧ ∀ m, m ∈ ns → (∀ y, y ∈ ns → y ≤ m) → R (.v (.int m))
    | none => False)
  | [.tup ds], R => (match intsOf ds with
    | some ns => 0 < ns.length ∧ ∀ m, m ∈ ns → (∀ y, y ∈ ns → y ≤ m) → R (.v (.int m))
    | none => False)
  | _, _ => False
/-! ### `in` of a list of any plain data -/
@[irreducible] def inDD (neg : Bool) (y x : D) (R : S → Prop) : Prop := ∃ ds, x = .lst ds ∧ okD y = true ∧ (∀ d, d ∈ ds → okD d = true) ∧ R (.v (.bl (if neg then !ds.any (fun d => deqv d y) else ds.any fun d => deqv d y)))
/-! ### t + u of any tuples -/
def addTD : D → D → (S → Prop) → Prop
  | .tup a, .tup b, R => a.length + b.length ≤ sizeLine ∧ R (.v (.tup (a ++ b)))
  | _, _, _ => False
end DL

/-! DL72: for x in (e1, e2, ..): the values may be own lists, each is the slot's own in its turn. -/
namespace DL
open PySem L2
/-- with these objects, of which no slot knows -/
abbrev Fx.pn (Γ : Fx) (L : List (Addr × HO)) : Fx := { Γ with Hs := fun a => match L.lookup a with
  | some o => some o
  | none => Γ.Hs a }
section
variable {Γ : Fx} {K : PySem.W.Frag} {H0 : Hp} {σ : L2.St} {ρ : Rho} {H : Hp}
end
/-- these lists -/
def lsts (tm : List (Addr × List V)) : List (Addr × HO) := tm.map fun q => (q.1, .lst q.2)
/-- what is known of the pending lists -/
def Pend (Γ : Fx) (tm : List (Addr × List V)) : Prop := ∀ p xs, (p, xs) ∈ tm → Γ.Hs p = none ∧ Γ.H0 p = none ∧ p ∉ Γ.ma
section
variable {Γ : Fx} {K : PySem.W.Frag} {H0 : Hp} {σ : L2.St} {ρ : Rho} {H : Hp}
end
def forO (ws : List Nat) (g : DGT) (tb : DST) (De : DEnds) : List S → Rho → Prop
  | [], ρ => De.nx ρ
  | s :: ss, ρ => g s ρ fun ρ2 => tb { De with nx := fun ρ' => forO ws g tb De ss (forget ws ρ'), ct := fun ρ' => forO ws g tb De ss (forget ws ρ'), bk := De.nx } ρ2
/-- for x in (e1, e2, ..): own lists stay own -/
def dForO (ws : List Nat) (ta : DOT) (g : DGT) (tb : DST) : DST := fun De ρ => ta ρ fun ss ρ1 => ss.length ≤ 100 ∧ forO ws g tb De ss (forget ws ρ1)
end DL

/-! DL73: {k: True for ..}, the keys numbers. -/
namespace DL
open PySem L2
def kyV (k : Int) : Key × V := (Sum.inl k, .bl true)
def kyD (k : Int) : Key × D := (Sum.inl k, .bl true)
/-- {k: True for x in .. if ..} -/
def dDcT (ti : DIT) (g : DGT) (tt : DTT) (te : DT) (vs : List Nat) : DT := fun ρ R => ti ρ fun items ρ1 => noM vs ρ1 = true ∧ setL g tt te vs items [] (wipeR ρ1 vs) fun acc ρn => ∀ p, R (.x (.dic (acc.map kyD)) [p]) (restR ρ1 vs ρn)
section
variable {X : Cx} {Γ : Fx} {tg iter elt : Expr} {ifs : List Expr} {scope : Scope} {own : List (Str × Nat)} {pos pos0 p : Pos} {ti : DIT} {g : DGT} {tt : DTT} {te : DT}
end
end DL

/-! DL74: x.update(dict([(k, True) for ..])), the keys numbers. -/
namespace DL
open PySem L2
def insAll (acc ks : List Int) : List Int := ks.foldl insU acc
def kyP (k : Int) : D := .tup [.int k, .bl true]
/-- x.update(dict([(k, True), ..])) -/
def dUpdL (i : Nat) (te : DT) : DT := fun ρ R => isDic i ρ ∧ te ρ fun r ρ1 => ∃ ks : List Int, r.d = .lst (ks.map kyP) ∧ withD i ρ1 fun kvs G => ∃ acc : List Int, kvs = acc.map kyD ∧ acc.length + ks.length ≤ 1000000 ∧
  R (.v .non) (ρ1.set i (some (.x (.dic ((insAll acc (insAll [] ks)).map kyD)) G)))
section
variable {X : Cx} {Γ : Fx} {o e : Expr} {i : Nat} {te : DT} {np dpos apos cpos : Pos}
end
end DL

/-! DL75: name = {k: True for ..}. -/
namespace DL
open PySem PySem.Spec PyProof.Rows L2
section
variable {X : Cx}
end
section
variable {X : Cx} {Γ : Fx} {tg iter elt : Expr} {ifs : List Expr} {scope : Scope} {own : List (Str × Nat)} {pos : Pos} {ti : DIT} {g : DGT} {tt : DTT} {te : DT}
end
end DL

/-! DL76: x, y = {}, {}. -/
namespace DL
open PySem L2
def dParDD (i j : Nat) : DST := fun De ρ => ∀ p q, setR i (.x (.dic []) [p]) ρ fun ρ1 => setR j (.x (.dic []) [q]) ρ1 De.nx
end DL

/-! DL77: x, y = {}, {} by the general road (a cell among the names). -/
namespace DL
open PySem L2
end DL

/-! DL78: the keys of an own dict gone through (the dict is not asked again); a name for one of two own dicts, x.update(dict([(k, True) ..])) by that name. -/
namespace DL
open PySem L2
section
variable {Γ : Fx} {K : PySem.W.Frag} {H0 : Hp} {σ : L2.St} {ρ : Rho} {H : Hp}
/-- a cell that is nobody's laid over -/
theorem Fit.over {p : Addr} {o : HO} (F : Fit Γ K H0 σ ρ H) (h0 : H0 p = none) (hs : Γ.Hs p = none) (nt : ∀ xs, (p, xs) ∉ Γ.tm) (ns : ∀ (i : Nat) s es, ρ[i]? = some (some s) → s.own = some es → σ[i]? ≠ some (some (.ref p))) (nx : NoX ρ p) :
    Fit Γ K H0 σ ρ (upd H p o) where
  sub := fun b u e => by
    rw [upd_ne (fun z => by rw [z, h0] at e; cases e)]
    exact F.sub _ _ e
  s0 := F.s0
  keep := fun a u e hm => by
    rw [upd_ne (fun z => by rw [z, hs] at e; cases e)]
    exact F.keep a u e hm
  new := F.new
  len := F.len
  slots := fun i s h => by
    obtain ⟨v, h1, h2⟩ := F.slots i s h
    refine ⟨v, h1, h2.stay (Same.refl _) (fun q ds ev es => ?_) fun y G ex a ha => ?_⟩
    · subst ev
      have hn : q ≠ p := fun z => ns i s ds h es (by rw [← z]; exact h1)
      exact ⟨(F.ownNone h es h1).1, upd_ne hn⟩
    · subst ex
      have hn : a ≠ p := fun z => nx i y G h (by rw [← z]; exact ha)
      exact ⟨(F.xSome h ha).1, upd_ne hn⟩
  loc := F.loc
  par := F.par
  dist := F.dist
  mps := F.mps
  tmp := fun q xs h => by
    obtain ⟨q1, q2, q3⟩ := F.tmp q xs h
    exact ⟨by rw [upd_ne (fun z => nt xs (by rw [← z]; exact h))]; exact q1, q2, q3⟩
  ex := F.ex
theorem fgt1_x {i : Nat} {x : OwnT} {G : List Addr} (h : ρ[i]? = some (some (.x x G))) : fgt1 i ρ = ρ.set i none := by
  unfold fgt1
  rw [h]
/-- an own dict put away, locked -/
theorem Fit.away (F : Fit Γ K H0 σ ρ H) {i : Nat} {kvs : List (Key × D)} {G : List Addr} (h : ρ[i]? = some (some (.x (.dic kvs) G))) :
    ∃ p ws, σ[i]? = some (some (.ref p)) ∧ H p = some (.dK ws) ∧ KReps K H0 ws kvs ∧ H0 p = none ∧ ∀ o, Fit Γ K (upd H0 p o) σ (DL.fgt1 i ρ) (upd H p o) := by
  obtain ⟨p, ws, s0, rfl, hp, kr, hn⟩ := F.dicAt h
  have X1 := F.ex i _ _ h p List.mem_cons_self
  refine ⟨p, ws, s0, hp, kr, hn, fun o => ?_⟩
  have F1 := F.fgt1 i
  rw [fgt1_x h] at F1 ⊢
  have get : ∀ (j : Nat) s, (ρ.set i none)[j]? = some (some s) → i ≠ j ∧ ρ[j]? = some (some s) := fun j s e => by
    by_cases q : i = j
    · subst q
      rw [List.getElem?_set] at e
      split at e
      · split at e <;> cases e
      · rename_i z
        exact absurd rfl z
    · rw [List.getElem?_set_ne q] at e
      exact ⟨q, e⟩
  have ns : ∀ (j : Nat) s es, (ρ.set i none)[j]? = some (some s) → s.own = some es → σ[j]? ≠ some (some (.ref p)) := fun j s es h1 h2 => X1.sl j s es (get j s h1).2 h2
  have nx : NoX (ρ.set i none) p := fun j y G' hj => X1.xs j y G' (Ne.symm (get j _ hj).1) (get j _ hj).2
  exact (F1.over (o := o) hn X1.hs X1.tm ns nx).frz1 upd_same hn X1.hs X1.tm ns nx
end
/-- for k in d, d not asked again -/
def diKyF (i : Nat) : DIT := fun ρ R => withD i ρ fun kvs G => ∃ ks : List Int, kvs.map (·.1) = ks.map Sum.inl ∧ R (ks.map D.int) (fgt1 i ρ)
/-- one of two own dicts, by a name -/
def dVX (i : Nat) : DT := fun ρ R => match ρ[i]? with
  | some (some (.x (.dic _) (p :: _))) => R (.v (.adr p)) ρ
  | _ => False
/-- x.update(dict([(k, True), ..])), x a name for the dict of the slot i -/
def dUpdLA (j : Nat) (te : DT) : DT := fun ρ R => ∃ i a, ρ[j]? = some (some (.v (.adr a))) ∧ (∃ kvs, ρ[i]? = some (some (.x (.dic kvs) [a]))) ∧ dUpdL i te ρ R
section
variable {X : Cx} {Γ : Fx} {o e : Expr} {i : Nat} {te : DT} {np dpos apos cpos : Pos}
end
end DL

/-! DL79: isinstance(x, (T1, T2, ..)) of a thing that may be an instance of an own class. -/
namespace DL
open PySem L2
section
variable {X : Cx} {Γ : Fx}
def isiTO (C : Str) (ns : List TyC) (x : D) (R : S → Prop) : Prop := match x with
  | .ins C' _ => C' = C ∧ ns.all TyC.cl = true ∧ R (.v (.bl false))
  | x => isiTD ns x R
end
end DL

/-! DL80: texts: split, join, index, a sign in a text, times, turned about, taken apart. -/
namespace DL
open PySem PySem.Spec L2
/-! ### methods of one part -/
def OpTm (X : Cx) (r : V → List V → Hp → VK → Prop) (f : Str → D → (S → Prop) → Prop) : Prop := ∀ (Γ : Fx) (H0 : Hp) (σ : L2.St) (ρ : Rho) (H : Hp) (z : Str) (y : V) (b : D) (R : S → Prop) (Q : VK), Fit Γ X.K H0 σ ρ H → Rep X.K H0 y b → f z b R →
  (∀ s v H0' H', R s → Fit Γ X.K H0' σ ρ H' → Same H0 H0' → RRep Γ X.K H0' σ ρ H' v s → Q v H') → r (.str z) [y] H Q
def dTm (f : Str → D → (S → Prop) → Prop) (to te : DT) : DT := fun ρ R => to ρ fun r ρ1 => match r with
  | .v (.str z) => te ρ1 fun r2 ρ2 => f z r2.d fun s => R s ρ2
  | _ => False
def splitD : Str → D → (S → Prop) → Prop
  | z, .str b, R => (b.length == 0) = false ∧ z.length + 2 ≤ sizeLine ∧ R (.o ((Txt.split z b).map D.str))
  | _, _, _ => False
def joinOf : D → Option (List D)
  | .lst ds => some ds
  | .rol ds => some ds
  | .tup ds => some ds
  | _ => none
def joinD (z : Str) (b : D) (R : S → Prop) : Prop := match joinOf b with
  | some ds => ∃ ys : List Str, ds = ys.map D.str ∧ (ys.map (·.length)).sum + ys.length * z.length ≤ 16777216 ∧ R (.v (.str (Txt.join z ys)))
  | none => False
def indexSD : Str → D → (S → Prop) → Prop
  | z, .str b, R => ∃ (i : Nat) (rest : List Nat), Builtin.Str.occurrences z b 0 z.length 1 = i :: rest ∧ R (.v (.int i))
  | _, _, _ => False
section
variable {X : Cx} {Γ : Fx} {o e : Expr} {to te : DT} {apos pos : Pos}
theorem de_tm {id : String} {name : Str} {r : V → List V → Hp → VK → Prop} {f : Str → D → (S → Prop) → Prop} (slot : Slot "str" name id) (ty : typeOf (.builtin id) = pure (.type "method_descriptor")) (rule : MtR X id r) (hf : OpTm X r f) (ho : DE X Γ o to) (he : DE X Γ e te)
    (hs : starEach [e] X.env = [(false, eval e X.env)] := by rfl) (hbase : attributeBase o name X.env (eval o X.env) = eval o X.env := by rfl) (hline : (apos.endLine == pos.line) = true := by rfl) :
    DE X Γ (.Call (.Attribute o name apos) [e] [] pos) (dTm f to te) :=
  ⟨fun tm => peLe (pe_m1 slot ty rule (ho.run tm) (he.run tm) hs hbase hline) fun σ H Q ⟨H0, ρ, R, F, t, k⟩ => ⟨H0, ρ, _, F, t, fun r ρ1 v H1 H' q F1 e1 rr => by
    split at q
    · rename_i z
      cases rr
      exact ⟨⟨_, rfl⟩, H1, ρ1, _, F1, q, fun r2 ρ2 v2 H2 H'' q2 F2 e2 rr2 => by
        obtain ⟨H3, F3, e3, r3⟩ := F2.freeze rr2
        exact hf _ H3 σ ρ2 H'' _ v2 _ _ Q F3 r3 q2 fun s w H4 H5 q4 F4 e4 r4 => k s ρ2 w H4 H5 q4 F4 (((e1.trans e2).trans e3).trans e4) r4⟩
    · exact q.elim⟩⟩
/-! ### a sign in a text -/
def inSg (neg : Bool) : D → D → (S → Prop) → Prop
  | .str x, .str z, R => ∃ c : Nat, x = ⟨#[c]⟩ ∧ R (.v (.bl (if neg then !decide (c ∈ z.cps.toList) else decide (c ∈ z.cps.toList))))
  | _, _, _ => False
theorem Top.strV {K : PySem.W.Frag} {H0 H : Hp} {v : V} {z : Str} (t : Top K H0 H v (.str z)) : v = .str z := by
  cases t with
  | rep r => cases r; rfl
theorem o_inSg : Op2 X (fun x y H Q => ∃ (c : Nat) (z : Str), x = .str ⟨#[c]⟩ ∧ y = .str z ∧ Q (.bl (decide (c ∈ z.cps.toList))) H) (inSg false) := by
  intro Γ H0 σ ρ H x y a b R Q F ta tb h k
  unfold inSg at h
  split at h
  · obtain ⟨c, rfl, h⟩ := h
    have e1 := ta.strV
    have e2 := tb.strV
    subst e1 e2
    exact ⟨c, _, rfl, rfl, k _ _ H0 _ h F (Same.refl _) (Rep.bl _)⟩
  · exact h.elim
/-! ### a text some times -/
def mulSD : D → D → (S → Prop) → Prop
  | .str z, .int n, R => 1 ≤ n ∧ n ≤ 1000 ∧ z.length ≤ 10000 ∧ ∀ z' : Str, z'.length = z.length * n.toNat → (∀ c, c ∈ z'.cps.toList → c ∈ z.cps.toList) → R (.v (.str z'))
  | _, _, _ => False
theorem rep_size (a : Array Nat) : ∀ (k : Nat) (acc : Array Nat), ((List.replicate k a).foldl (· ++ ·) acc).size = acc.size + a.size * k
  | 0, acc => by simp
  | k + 1, acc => by
    rw [List.replicate_succ, List.foldl_cons, rep_size a k, Array.size_append, Nat.mul_succ]
    omega
theorem rep_mem (a : Array Nat) (c : Nat) : ∀ (k : Nat) (acc : Array Nat), c ∈ ((List.replicate k a).foldl (· ++ ·) acc).toList → c ∈ acc.toList ∨ c ∈ a.toList
  | 0, acc, h => .inl h
  | k + 1, acc, h => by
    rw [List.replicate_succ, List.foldl_cons] at h
    rcases rep_mem a c k _ h with h | h
    · rw [Array.toList_append] at h
      exact List.mem_append.mp h
    · exact .inr h
theorem op_mulS : OpR X (binaryOp .Mult) (fun x y H Q => ∃ (z : Str) (n : Int), x = .str z ∧ y = .int n ∧ 1 ≤ n ∧ n ≤ 1000 ∧ z.length ≤ 10000 ∧ ∀ z' : Str, z'.length = z.length * n.toNat → (∀ c, c ∈ z'.cps.toList → c ∈ z.cps.toList) → Q (.str z') H) := by
  intro pins s σ H x y v u Q I rx ry h
  obtain ⟨z, n, rfl, rfl, n1, n2, hz, q⟩ := h
  obtain ⟨t, rfl⟩ := rx
  obtain ⟨t', rfl⟩ := ry
  have len : (⟨(List.replicate n.toNat z.cps).foldl (· ++ ·) #[]⟩ : Str).length = z.length * n.toNat := by
    show ((List.replicate n.toNat z.cps).foldl (· ++ ·) #[]).size = _
    rw [rep_size]
    simp [Str.length]
  have hb : z.length * n.toNat ≤ 10000000 := by
    have : n.toNat ≤ 1000 := by omega
    exact Nat.le_trans (Nat.mul_le_mul hz this) (by decide)
  have big : ¬ ((z.length : Int) > (2 ^ 63 - 1) / n) := by
    have h1 : (10000 : Int) * n ≤ 2 ^ 63 - 1 := by omega
    have h2 : (10000 : Int) ≤ (2 ^ 63 - 1) / n := (Int.le_ediv_iff_mul_le (by omega)).mpr h1
    omega
  refine PySem.P.mul_str (by
    have h1 : ¬ n < -(2 ^ 63 : Int) := by omega
    have h2 : ¬ n ≥ 2 ^ 63 := by omega
    rw [decide_eq_false h1, decide_eq_false h2]; rfl) (fun _ _ => big) (fun _ _ => ?_) ?_
  · unfold Builtin.Str.tooLong
    rw [decide_eq_false_iff_not, sizeLine_eq]
    omega
  · rw [if_neg (by omega)]
    by_cases hc : (n == 1 || z.length == 0) = true
    · rw [if_pos hc]
      refine ⟨.str z, H, I.tok _, ⟨_, rfl⟩, q z ?_ fun _ h => h⟩
      rw [Bool.or_eq_true] at hc
      rcases hc with hc | hc
      · rw [show n = 1 by simpa using hc]; simp
      · rw [show z.length = 0 by simpa using hc]; simp
    · rw [if_neg hc]
      exact ⟨by rw [len, sizeLine_eq]; omega, .str _, H, I.tok _, ⟨_, rfl⟩, q _ len fun c h => (rep_mem _ c _ _ h).elim (fun h => by cases h) id⟩
theorem o_mulS : Op2 X (fun x y H Q => ∃ (z : Str) (n : Int), x = .str z ∧ y = .int n ∧ 1 ≤ n ∧ n ≤ 1000 ∧ z.length ≤ 10000 ∧ ∀ z' : Str, z'.length = z.length * n.toNat → (∀ c, c ∈ z'.cps.toList → c ∈ z.cps.toList) → Q (.str z') H) mulSD := by
  intro Γ H0 σ ρ H x y a b R Q F ta tb h k
  unfold mulSD at h
  split at h
  · have e1 := ta.strV
    have e2 := tb.int
    subst e1 e2
    obtain ⟨h1, h2, h3, h4⟩ := h
    exact ⟨_, _, rfl, rfl, h1, h2, h3, fun z' hz hm => k _ _ H0 _ (h4 z' hz hm) F (Same.refl _) (Rep.str _)⟩
  · exact h.elim
end
end DL

/-! DL81: a text turned about; a text taken apart by a tuple of targets. -/
namespace DL
open PySem PySem.Spec PyProof.Rows L2
section
variable {X : Cx} {Γ : Fx}
theorem sliceBy_mem (x : Str) (l u : Option (Int × Tok)) (st : Int × Tok) : ∀ c, c ∈ (Txt.sliceBy x l u st).cps.toList → c ∈ x.cps.toList := fun c h => by
  unfold Txt.sliceBy at h
  split at h
  · exact h
  · obtain ⟨i, _, e⟩ := List.mem_filterMap.mp h
    exact Array.mem_toList_iff.mpr (Array.mem_of_getElem? e)
theorem pe_revS {e : Expr} {te : TE} {k : Nat} {p1 p2 p3 pos : Pos} (he : PE X e te) : PE X (.Subscript e (.Slice none none (some (.UnaryOp .USub (.Constant (.int 1) k p1) p2)) p3) pos) (fun σ H Q => te σ H fun x H1 => ∃ z, x = .str z ∧ z.length ≤ sizeLine ∧ ∀ z' : Str, z'.length ≤ z.length → (∀ c, c ∈ z'.cps.toList → c ∈ z.cps.toList) → Q (.str z') H1) := by
  refine ⟨fun pins s σ H Q I h => ?_⟩
  refine Subscript_ (thn (he.run pins s σ H _ I h) fun v s1 ⟨x, H1, I1, r1, q1⟩ => ?_)
  obtain ⟨z, ex, hz, q⟩ := q1
  subst ex
  obtain ⟨t, rfl⟩ := r1
  have hst : PO X (some (.UnaryOp .USub (.Constant (.int 1) k p1) p2)) (tPart (tUn (rU fun i => .int (-i)) (tC (.int 1)))) := po_some (pe_un un_neg pe_int)
  refine wpAny_Slice (thn (po_none.run pins s1 σ H1 (fun o H2 => o = none ∧ H2 = H1) I1 ⟨rfl, rfl⟩) fun vl s2 ⟨l, H2, I2, pl, el, e2⟩ => ?_)
  subst el e2
  refine thn (po_none.run pins s2 σ H2 (fun o H3 => o = none ∧ H3 = H2) I2 ⟨rfl, rfl⟩) fun vu s3 ⟨u, H3, I3, pu, eu, e3⟩ => ?_
  subst eu e3
  refine thn (hst.run pins s3 σ H3 (fun o H4 => o = some (-1) ∧ H4 = H3) I3 ⟨1, rfl, -1, rfl, rfl, rfl⟩) fun vs s4 ⟨o, H4, I4, ps, eo, e4⟩ => ?_
  subst eo e4
  have I5 : Inv X pins σ H4 { s4 with heap := s4.heap.push { cls := .type "slice", data := .fields #[vl, vu, vs] } } := I4.kept (t' := s4.toks) fun b ob q => Heap.get?_push_of_some _ q
  cases pl
  cases pu
  cases ps with
  | int i ts =>
    show wpAny (model X.prog X.w) X.A (subscriptTail e (.Slice none none (some (.UnaryOp .USub (.Constant (.int 1) k p1) p2)) p3) (.str z t) (.ref s4.heap.objs.size)) (EP X pins σ Q) X.xe { s4 with heap := s4.heap.push { cls := .type "slice", data := .fields #[.none, .none, .int (-1) ts] } }
    refine tail_any (ops := [.ref s4.heap.objs.size, .str z t]) (typeIs_str _ _ _) (PySem.F.slot_str_getitem.lookup) ?_ (by with_unfolding_all rfl)
    refine wpAny_getItem_str_slice (l := none) (u := none) (st := some (-1, ts)) ⟨_, Heap.get?_push_size _ rfl, rfl, rfl⟩ rfl ?_
    have hl := Txt.sliceBy_le z none none ((-1 : Int), ts) (by show (-1 : Int) ≠ 0; omega)
    exact post_val_or_str ⟨Nat.le_trans hl hz, fun t' c => ⟨.str _, _, I5.tok _, ⟨_, rfl⟩, q _ hl (sliceBy_mem z _ _ _)⟩⟩
/-- x[::-1], a text -/
def dRevS (te : DT) : DT := fun ρ R => te ρ fun r ρ1 => match r with
  | .v (.str z) => z.length ≤ sizeLine ∧ ∀ z' : Str, z'.length ≤ z.length → (∀ c, c ∈ z'.cps.toList → c ∈ z.cps.toList) → R (.v (.str z')) ρ1
  | _ => False
theorem de_revS {e : Expr} {te : DT} {k : Nat} {p1 p2 p3 pos : Pos} (he : DE X Γ e te) : DE X Γ (.Subscript e (.Slice none none (some (.UnaryOp .USub (.Constant (.int 1) k p1) p2)) p3) pos) (dRevS te) :=
  ⟨fun tm => peLe (pe_revS (he.run tm)) fun σ H Q ⟨H0, ρ, R, F, t, kk⟩ => ⟨H0, ρ, _, F, t, fun r ρ1 v H1 H' q F1 e1 rr => by
    split at q
    · cases rr
      exact ⟨_, rfl, q.1, fun z' hz hm => kk _ ρ1 _ H1 H' (q.2 z' hz hm) F1 e1 (Rep.str _)⟩
    · exact q.elim⟩⟩
end
/-! ### a text taken apart -/
section
variable {prog : Program} {w : World} {A : Around} {E : Value → Shared → Prop}
end
section
variable {X : Cx} {pos : Pos}
def gTxt (n : Nat) (t : TGs) : TG := fun v σ H Q => ∃ z : Str, v = .str z ∧ z.cps.all (· < 128) = true ∧ z.cps.size = n ∧ t (z.cps.toList.map fun c => V.str ⟨#[c]⟩) σ H Q
/-- (a, b, ..) = a text, a tuple or a list -/
def gUx (u : DGTs) : DGT := fun r ρ R => match r with
  | .v (.str z) => z.cps.all (· < 128) = true ∧ u (signsD z) ρ R
  | r => gU u r ρ R
variable {Γ : Fx}
end
end DL

/-! DL82: two names set at once by the general road (a cell among the names), own lists stay own. -/
namespace DL
open PySem L2
end DL

/-! DL83: own things of a class whose fields may be set: a field read, set; what is handed such a thing; one that is made. -/
namespace DL
open PySem L2
/-! ### fields -/
/-- the field f is data, or there is none -/
def datAt (f : Str) (fs : List (Str × Fld)) : Bool := match fs.lookup f with
  | some (.dat _) => true
  | none => true
  | _ => false
def putFX (f : Str) (x : Fld) : List (Str × Fld) → List (Str × Fld)
  | [] => [(f, x)]
  | (g, y) :: r => if g = f then (g, x) :: r else (g, y) :: putFX f x r
section
variable {K : PySem.W.Frag} {H0 H : Hp}
theorem FReps.look {f : Str} {d : D} : ∀ {ws : List (Str × V)} {fs : List (Str × Fld)} {G : List Addr}, FReps K H0 H ws fs G → fs.lookup f = some (.dat d) → ∃ v, ws.lookup f = some v ∧ Rep K H0 v d
  | _, _, _, .nil, h => by cases h
  | _, _, _, .cons (f := g) r t, h => by
    rw [List.lookup_cons] at h ⊢
    cases q : f == g with
    | true =>
      rw [q] at h
      cases h
      cases r with
      | dat r => exact ⟨_, rfl, r⟩
    | false => rw [q] at h; exact FReps.look t h
theorem FReps.length : ∀ {ws : List (Str × V)} {fs : List (Str × Fld)} {G : List Addr}, FReps K H0 H ws fs G → ws.length = fs.length
  | _, _, _, .nil => rfl
  | _, _, _, .cons _ t => congrArg Nat.succ (FReps.length t)
theorem FReps.put {f : Str} {v : V} {d : D} (r : Rep K H0 v d) : ∀ {ws : List (Str × V)} {fs : List (Str × Fld)} {G : List Addr}, FReps K H0 H ws fs G → datAt f fs = true → FReps K H0 H (putF f v ws) (putFX f (.dat d) fs) G
  | _, _, _, .nil, _ => .cons (.dat r) .nil
  | _, _, _, .cons (f := g) r1 t, h => by
    rw [putF, putFX]
    by_cases q : g = f
    · subst q
      rw [if_pos rfl, if_pos rfl]
      unfold datAt at h
      rw [List.lookup_cons, beq_self_eq_true] at h
      cases r1 with
      | dat _ => exact .cons (.dat r) t
      | lst _ _ => cases h
      | obj _ _ _ => cases h
    · rw [if_neg q, if_neg q]
      refine .cons r1 (FReps.put r t ?_)
      unfold datAt at h ⊢
      rw [List.lookup_cons, beq_eq_false_iff_ne.mpr fun z => q z.symm] at h
      exact h
end
section
variable {Γ : Fx} {K : PySem.W.Frag} {H0 : Hp} {σ : L2.St} {ρ : Rho} {H : Hp}
/-- behind a call that was handed the own thing: what stood stands, but the thing's own cells -/
structure StX (F : List Addr) (H0 H H0' H' : Hp) : Prop where
  sub : Same H0 H0'
  top : Same H0' H'
  keep : ∀ a o, H a = some o → a ∉ F → H' a = some o
  new : ∀ a o, H0' a = some o → H0 a = none → H a = none ∨ a ∈ F
end
end DL

/-! DL84: defs that are handed an own thing of a class: their promise, their start and end, their calls; the thing's making. -/
namespace DL
open PySem L2
/-- the thing's fields, the other arguments; the answer and the fields behind; the exception -/
abbrev MSp := List (Str × Fld) → List D → (D → List (Str × Fld) → Prop) → (Str → Str → D → List (Str × Fld) → Prop) → Prop
def LMp (K : PySem.W.Frag) (C : Str) (msp : MSp) : Sp := fun vs H Q E => ∃ p F fs ws ds H0 R RX, vs = .ref p :: ws ∧ Same H0 H ∧ XAt K H0 H (.ref p) (.obj C fs) F ∧ Reps K H0 ws ds ∧ msp fs ds R RX ∧
  (∀ d fs' G v H0' H', R d fs' → StX F H0 H H0' H' → XAt K H0' H' (.ref p) (.obj C fs') G → (∀ a ∈ G, a ∈ F ∨ H a = none) → Rep K H0' v d → Q v H') ∧
  (∀ Cx f d fs' G e v H0' H', RX Cx f d fs' → StX F H0 H H0' H' → XAt K H0' H' (.ref p) (.obj C fs') G → (∀ a ∈ G, a ∈ F ∨ H a = none) → (e ∈ F ∨ H e = none) → H0' e = none → H' e = some (.xd [(f, v)]) → Rep K H0' v d → E (.ref (He.ga K Cx)) (some e) H')
/-- the thing as it stands in slot 0 at the end -/
def endM (p : Addr) (C : Str) (ρ : Rho) (k : List (Str × Fld) → Prop) : Prop := match ρ[(0 : Nat)]? with
  | some (some (.x (.obj C' fs) (q :: _))) => C' = C ∧ q = p ∧ k fs
  | _ => False
def retD : S → (D → Prop) → Prop
  | .v d, k => k d
  | _, _ => False
def defEndsM (p : Addr) (C : Str) (R : D → List (Str × Fld) → Prop) : DEnds where
  nx := fun ρ => endM p C ρ (R .non)
  rt := fun r ρ => endM p C ρ fun fs => retD r fun d => R d fs
def defXM (p : Addr) (C : Str) (RX : Str → Str → D → List (Str × Fld) → Prop) : DXC := fun Cx f d ρ => endM p C ρ (RX Cx f d)
section
variable {K : PySem.W.Frag} {H0 H : Hp} {ws : List V} {ds : List D} {p : Addr} {C : Str} {fs : List (Str × Fld)} {F : List Addr}
abbrev fxM (H0 H : Hp) (F : List Addr) : Fx := ⟨[], H0, offB H F, []⟩
end
/-! ### calls -/
/-- slot i holds an own thing of the class C -/
def withO (i : Nat) (C : Str) (ρ : Rho) (k : Addr → List Addr → List (Str × Fld) → Prop) : Prop := match ρ[i]? with
  | some (some (.x (.obj C' fs) (p :: G))) => C' = C ∧ k p G fs
  | _ => False
section
variable {X : Cx} {Γ : Fx} {msp : MSp} {ta tk : DAT} {xc : DXC} {C : Str}
/-- o.m(..) of the own thing in slot i -/
def dMethO (xc : DXC) (i : Nat) (C m : Str) (msp : MSp) (dd : List D) (ta : DAT) : DT := fun ρ R => withO i C ρ fun _ _ fs0 => fs0.lookup m = none ∧ ta ρ fun hs ρ1 => match vals ρ1 hs with
  | some ds => withO i C ρ1 fun p G fs => msp fs (ds ++ dd) (fun d fs' => ∀ G', R (.v d) (ρ1.set i (some (.x (.obj C fs') (p :: G'))))) fun Cx f d fs' => ∀ G', xc Cx f d (ρ1.set i (some (.x (.obj C fs') (p :: G'))))
  | none => False
/-- all that such a call wants -/
structure MtO (X : Cx) (CX : CXT) (C m : Str) (k : Nat) (ps : List Str) (msp : MSp) (fd : FuncData) : Prop where
  ok : FnOk X.prog X.w X.K X.mg X.base CX k (He.ma X.K (He.ga X.K C) m) fd ps (LMp X.K C msp)
  cls : Cls X.K (He.ga X.K C)
  met : Meth X.K (He.ga X.K C) m (He.ma X.K (He.ga X.K C) m)
section
variable {CX : CXT} {k i : Nat} {m : Str} {fd : FuncData} {ps : List Str} {dvs : List V} {dd : List D} {ds : List Value} {pos apos : Pos} {e o : Expr} {es : List Expr} {pl : Sem Bool}
end
/-- o.m(k = v, ..) of the own thing in slot i -/
def dMethOK (xc : DXC) (i : Nat) (C m : Str) (nk : Nat) (msp : MSp) (pm : List D → List D → List D) (tk : DAT) : DT := fun ρ R => withO i C ρ fun _ _ fs0 => fs0.lookup m = none ∧ tk ρ fun gs ρ1 => gs.length = nk ∧ match vals ρ1 gs with
  | some es => withO i C ρ1 fun p G fs => msp fs (pm [] es) (fun d fs' => ∀ G', R (.v d) (ρ1.set i (some (.x (.obj C fs') (p :: G'))))) fun Cx f d fs' => ∀ G', xc Cx f d (ρ1.set i (some (.x (.obj C fs') (p :: G'))))
  | none => False
section
variable {CX : CXT} {k i : Nat} {m : Str} {fd : FuncData} {ps ks : List Str} {pos apos : Pos} {o : Expr} {kws : List Keyword} {pm : List D → List D → List D} {pl : Sem Bool}
end
/-! ### C(..): made -/
def dMkO (xc : DXC) (C : Str) (msp : MSp) (dd : List D) (ta : DAT) : DT := fun ρ R => ta ρ fun hs ρ1 => match vals ρ1 hs with
  | some ds => msp [] (ds ++ dd) (fun d fs' => d = .non ∧ ∀ p G, R (.x (.obj C fs') (p :: G)) ρ1) fun Cx f d _ => xc Cx f d ρ1
  | none => False
structure FnO (X : Cx) (CX : CXT) (x : Str) (k : Nat) (ps : List Str) (msp : MSp) (f : Addr) (fd : FuncData) : Prop where
  ok : FnOk X.prog X.w X.K X.mg X.base CX k f fd ps (LMp X.K x msp)
  mg : X.mg x = some (.ref (He.ga X.K x))
  mak : Mk X.K (He.ga X.K x) f
section
variable {dvs : List V} {dd : List D} {x : Str} {k : Nat} {ps : List Str} {f : Addr} {fd : FuncData} {p pos : Pos} {e : Expr} {es : List Expr} {ds : List Value}
end
/-! ### f(o, ..), o the own thing in a slot -/
def dCallO (xc : DXC) (i : Nat) (C : Str) (msp : MSp) (dd : List D) (ta : DAT) : DT := fun ρ R => ta ρ fun hs ρ1 => match hs with
  | .slot j :: hs => j = i ∧ (match vals ρ1 hs with
    | some ds => withO i C ρ1 fun p G fs => msp fs (ds ++ dd) (fun d fs' => ∀ G', R (.v d) (ρ1.set i (some (.x (.obj C fs') (p :: G'))))) fun Cx f d fs' => ∀ G', xc Cx f d (ρ1.set i (some (.x (.obj C fs') (p :: G'))))
    | none => False)
  | _ => False
structure FnOO (X : Cx) (CX : CXT) (x : Str) (k : Nat) (ps : List Str) (C : Str) (msp : MSp) (f : Addr) (fd : FuncData) : Prop where
  ok : FnOk X.prog X.w X.K X.mg X.base CX k f fd ps (LMp X.K C msp)
  mg : X.mg x = some (.ref f)
  kp : PySem.W.keepIn X.K (.ref f) = true
section
variable {i : Nat} {dvs : List V} {dd : List D} {x : Str} {k : Nat} {ps : List Str} {f : Addr} {fd : FuncData} {p pos : Pos} {e : Expr} {es : List Expr} {ds : List Value}
end
/-! ### o.f, o.f = .. -/
def dFldX (i : Nat) (C f : Str) : DT := fun ρ R => withO i C ρ fun _ _ fs => match fs.lookup f with
  | some (.dat d) => R (.v d) ρ
  | _ => False
def gFX (i : Nat) (C f : Str) : DGT := fun r ρ R => withO i C ρ fun p G fs => fs.length < 900 ∧ datAt f fs = true ∧ R (ρ.set i (some (.x (.obj C (putFX f (.dat r.d) fs)) (p :: G))))
end
end DL

/-! DL85: a def that is handed an own thing, told that it never raises. -/
namespace DL
open PySem L2
section
variable {P : Program} {w : World} {K : PySem.W.Frag} {mg : Str → Option Value} {base : Heap} {k : Nat} {f : Addr} {fd : FuncData} {ps : List Str} {msp msp' : MSp} {C : Str}
end
/-! ### len of an own thing -/
theorem LMp.imp {K : PySem.W.Frag} {C : Str} {msp : MSp} {vs : List V} {H : Hp} {Q : VK} {E E' : XK} (h : LMp K C msp vs H Q E) (k : ∀ a b c, E a b c → E' a b c) : LMp K C msp vs H Q E' := by
  obtain ⟨p, G, fs, ws, ds, H0, R, RX, h0, h1, h2, h3, h4, h5, h6⟩ := h
  exact ⟨p, G, fs, ws, ds, H0, R, RX, h0, h1, h2, h3, h4, h5, fun Cx f d fs' G e v H0' H' a1 a2 a3 a4 a5 a6 a7 a8 => k _ _ _ (h6 Cx f d fs' G e v H0' H' a1 a2 a3 a4 a5 a6 a7 a8)⟩
def dLenO (i : Nat) (C : Str) (msp : MSp) : DT := fun ρ R => withO i C ρ fun p _ fs => msp fs [] (fun d fs' => ∀ G' : List Addr, ∃ n : Int, S.v d = .v (.int n) ∧ 0 ≤ n ∧ n < 2 ^ 63 ∧ R (.v (.int n)) (ρ.set i (some (.x (.obj C fs') (p :: G'))))) fun _ _ _ _ => ∀ _ : List Addr, False
/-! ### x, y = e, [] -/
def dParXL (i j : Nat) (t : DT) : DST := fun De ρ => t ρ fun r ρ1 => setR i r ρ1 fun ρ2 => setR j (.o []) ρ2 De.nx
end DL

/-! DL86: == and != of lists, == of tuples, of any depth, with things of one class that have an own __eq__ among them: told exactly. -/
namespace GQ3
open PySem PySem.SeqAt GQ
open AutoSeq1 (wpAny_loadPart')
open MeetsSeq MeetsSeq2 MeetsSeq3 SeqRoads2
section
variable {pg : Program} {wd : World} {U : Around} {R : Result → Shared → Prop}
/-- two lists, read anew at each turn: n and m items; the i-th ones are told equal, or not, by bs -/
def TwoL (pg : Program) (wd : World) (U : Around) (E : Value → Shared → Prop) (p q : Addr) (n m : Nat) (bs : List Bool) (J : Shared → Prop) : Prop :=
  ∀ t, J t → ∃ (us vs : Array Value) (k1 k2 : Nat) (d1 d2 : Option Addr) (s1 s2 : Array (Option Value)), t.heap.get? p = some { cls := .type "list", dict := d1, data := .seq us k1, slots := s1 } ∧ t.heap.get? q = some { cls := .type "list", dict := d2, data := .seq vs k2, slots := s2 } ∧ us.size = n ∧ vs.size = m ∧
    ∀ i (g1 : i < us.size) (g2 : i < vs.size) (g3 : i < bs.length), wpAny (model pg wd) U.in1 (eqBool us[i] vs[i]) (fun r t' => r = bs[i] ∧ J t') E t
end
section
variable {pg : Program} {wd : World} {U : Around} {E : Value → Shared → Prop} {t : Shared}
end
end GQ3
namespace DL
open PySem PySem.Spec PyProof.Rows L2 GQ GQ2 GQ3
def FlatB (K : PySem.W.Frag) : EqvB := fun x y H b => ∃ d e, Rep K H x d ∧ Rep K H y e ∧ flatD d = true ∧ flatD e = true ∧ okD d = true ∧ okD e = true ∧ b = deqv d e
def PrsZ (D : EqvB) (xs ys : List V) (bs : List Bool) (H : Hp) : Prop := bs.length = min xs.length ys.length ∧ ∀ (i : Nat) x y b, xs[i]? = some x → ys[i]? = some y → bs[i]? = some b → D x y H b
def LstB (D : EqvB) : EqvB := fun x y H b => ∃ p q xs ys bs, x = .ref p ∧ y = .ref q ∧ H p = some (.lst xs) ∧ H q = some (.lst ys) ∧ PrsZ D xs ys bs H ∧ b = (bs.all id && xs.length == ys.length)
def TupB (K : PySem.W.Frag) (D : EqvB) : EqvB := fun x y H b => ∃ p q xs ys bs, x = .ref p ∧ y = .ref q ∧ SqT K H p xs ∧ SqT K H q ys ∧ PrsZ D xs ys bs H ∧ b = (bs.all id && xs.length == ys.length)
section
variable {X : Cx} {n : Nat} {D0 : EqvB}
/-- a value and itself are told equal -/
def SamB (X : Cx) (D : EqvB) : Prop := ∀ pins σ H s x b, Inv X pins σ H s → D x x H b → b = true
/-- richCompare tells b -/
def RcBG (X : Cx) (n : Nat) (op : CmpOp) (neg : Bool) (D : EqvB) : Prop :=
  ∀ (A : Around) (pins : List (Addr × Obj)) (s : Shared) (σ : L2.St) (H : Hp) (x y : V) (u v : Value) (b : Bool), Sub X n A → Inv X pins σ H s → RelV x u → RelV y v → D x y H b →
    wpAny (model X.prog X.w) A (richCompare op u v) (fun r s' => r = .bool (if neg then !b else b) ∧ ∃ H', Inv X pins σ H' s' ∧ Ext H H') X.xe s
theorem RcBG.or {op : CmpOp} {neg : Bool} {D D' : EqvB} (h : RcBG X n op neg D) (h' : RcBG X n op neg D') : RcBG X n op neg (fun x y H b => D x y H b ∨ D' x y H b) := fun A pins s σ H x y u v b sb I rx ry d => by
  rcases d with d | d
  · exact h A pins s σ H x y u v b sb I rx ry d
  · exact h' A pins s σ H x y u v b sb I rx ry d
theorem EqBG.or {D D' : EqvB} (h : EqBG X n D) (h' : EqBG X n D') : EqBG X n (fun x y H b => D x y H b ∨ D' x y H b) := fun A pins s σ H x y u v b sb I rx ry d => by
  rcases d with d | d
  · exact h A pins s σ H x y u v b sb I rx ry d
  · exact h' A pins s σ H x y u v b sb I rx ry d
theorem EqBG.mono {m : Nat} {D : EqvB} (h : EqBG X n D) (hn : n ≤ m) : EqBG X m D := fun A pins s σ H x y u v b sb => h A pins s σ H x y u v b (sb.mono hn)
theorem MonB.or {D D' : EqvB} (h : MonB D) (h' : MonB D') : MonB (fun x y H b => D x y H b ∨ D' x y H b) := fun x y H H' b e d => d.elim (fun d => .inl (h x y H H' b e d)) fun d => .inr (h' x y H H' b e d)
theorem SamB.or {D D' : EqvB} (h : SamB X D) (h' : SamB X D') : SamB X (fun x y H b => D x y H b ∨ D' x y H b) := fun pins σ H s x b I d => d.elim (h pins σ H s x b I) (h' pins σ H s x b I)
def DeepB (K : PySem.W.Frag) (C : Str) (sp : DSp) : Nat → EqvB
  | 0 => fun x y H b => OwnB K C sp x y H b ∨ FlatB K x y H b
  | k + 1 => fun x y H b => (OwnB K C sp x y H b ∨ FlatB K x y H b) ∨ (LstB (DeepB K C sp k) x y H b ∨ TupB K (DeepB K C sp k) x y H b)
/-! ### as data -/
noncomputable def dEq (x y : D) : Bool := @decide (x = y) (Classical.propDecidable _)
mutual
noncomputable def deqO : D → D → Bool
  | .lst a, .lst b => deqOs a b
  | .tup a, .tup b => deqOs a b
  | .ins C fs, y => dEq (.ins C fs) y
  | x, y => deqv x y
noncomputable def deqOs : List D → List D → Bool
  | [], [] => true
  | x :: xs, y :: ys => deqO x y && deqOs xs ys
  | _, _ => false
end
/-- the own == of the class C tells whether two of P are the same -/
def OwnE (C : Str) (sp : DSp) (P : D → Prop) : Prop := ∀ x y, P x → P y → ∃ fs gs, x = .ins C fs ∧ y = .ins C gs ∧ flatFs fs = true ∧ flatFs gs = true ∧ sp [.v x, .v y] (fun r _ => r = .v (.bl (dEq x y))) (fun _ _ _ _ => False)
def leafO (P : D → Prop) (a b : D) : Prop := (P a ∧ P b) ∨ (flatD a = true ∧ flatD b = true ∧ okD a = true ∧ okD b = true)
def pairsO (Q : D → D → Prop) (as bs : List D) : Prop := ∀ (i : Nat) x y, as[i]? = some x → bs[i]? = some y → Q x y
def seqO (Q : D → D → Prop) (a b : D) : Prop := (∃ as bs, a = .lst as ∧ b = .lst bs ∧ pairsO Q as bs) ∨ ∃ as bs, a = .tup as ∧ b = .tup bs ∧ pairsO Q as bs
/-- what may be compared: things with things, leaves with leaves, rows with rows -/
def cmpO (P : D → Prop) : Nat → D → D → Prop
  | 0, a, b => leafO P a b
  | k + 1, a, b => leafO P a b ∨ seqO (cmpO P k) a b
section
variable {K : PySem.W.Frag} {H : Hp} {C : Str} {sp : DSp} {P : D → Prop}
end
def rB (D : EqvB) (neg : Bool) : R2 := fun x y H Q => ∃ b, D x y H b ∧ ∀ H', Ext H H' → Q (.bl (if neg then !b else b)) H'
def SqB (K : PySem.W.Frag) (C : Str) (sp : DSp) (k : Nat) : EqvB := fun x y H b => LstB (DeepB K C sp k) x y H b ∨ TupB K (DeepB K C sp k) x y H b
/-- a == b, rows of the same sort -/
@[irreducible] def eqOD (C : Str) (sp : DSp) (P : D → Prop) (k : Nat) (a b : D) (R : S → Prop) : Prop := OwnE C sp P ∧ seqO (cmpO P k) a b ∧ R (.v (.bl (deqO a b)))
@[irreducible] def neOD (C : Str) (sp : DSp) (P : D → Prop) (k : Nat) (a b : D) (R : S → Prop) : Prop := OwnE C sp P ∧ (∃ as bs, a = .lst as ∧ b = .lst bs ∧ pairsO (cmpO P k) as bs) ∧ R (.v (.bl (!deqO a b)))
end
end DL

/-! DL87: str, repr, bool of an own thing by its class's own methods. -/
namespace DL
open PySem PySem.Spec PyProof.Rows L2
section
variable {X : Cx} {Γ : Fx} {i n : Nat} {C : Str} {msp : MSp} {fd : FuncData} {ps : List PySem.Str} {o : Expr} {p pos : Pos}
def dTxO (i : Nat) (C : Str) (msp : MSp) : DT := fun ρ R => withO i C ρ fun p _ fs => msp fs [] (fun d fs' => ∀ G' : List Addr, ∃ y : Str, S.v d = .v (.str y) ∧ R (.v (.str y)) (ρ.set i (some (.x (.obj C fs') (p :: G'))))) fun _ _ _ _ => ∀ _ : List Addr, False
def dBoO (i : Nat) (C : Str) (msp : MSp) : DT := fun ρ R => withO i C ρ fun p _ fs => msp fs [] (fun d fs' => ∀ G' : List Addr, ∃ n : Int, S.v d = .v (.int n) ∧ 0 ≤ n ∧ n < 2 ^ 63 ∧ R (.v (.bl (n != 0))) (ρ.set i (some (.x (.obj C fs') (p :: G'))))) fun _ _ _ _ => ∀ _ : List Addr, False
end
end DL

/-! DL88: defs that are handed an own thing first and may be lent a list behind it: their promise, start and end; the making of such a thing; one of two, the first of them lent. -/
namespace DL
open PySem L2
/-- the thing's fields, the other arguments (one of them a lent list at most); the answer, the fields, the lent list behind; the exception -/
abbrev NSp := List (Str × Fld) → List S → (D → List (Str × Fld) → List D → Prop) → (Str → Str → D → List (Str × Fld) → List D → Prop) → Prop
/-- the lists that are lent -/
abbrev mA (ws : List V) (as : List S) : List Addr := (mpOf 1 ws as).map (·.2)
def LNp (K : PySem.W.Frag) (C : Str) (nsp : NSp) : Sp := fun vs H Q E => ∃ p F fs ws as H0 R RX, vs = .ref p :: ws ∧ Same H0 H ∧ XAt K H0 H (.ref p) (.obj C fs) F ∧ AReps K H0 H ws as ∧ cntM as ≤ 1 ∧ (∀ q ∈ mA ws as, q ∉ F) ∧ nsp fs as R RX ∧
  (∀ d fs' es G v H0' H', R d fs' es → StX (mA ws as ++ F) H0 H H0' H' → XAt K H0' H' (.ref p) (.obj C fs') G → (∀ a ∈ G, a ∈ F ∨ H a = none) → (∀ q ∈ mA ws as, OwnAt K H0' H' q es ∧ q ∉ G) → Rep K H0' v d → Q v H') ∧
  (∀ Cx f d fs' es G e v H0' H', RX Cx f d fs' es → StX (mA ws as ++ F) H0 H H0' H' → XAt K H0' H' (.ref p) (.obj C fs') G → (∀ a ∈ G, a ∈ F ∨ H a = none) → (∀ q ∈ mA ws as, OwnAt K H0' H' q es ∧ q ∉ G) → (e ∈ F ∨ H e = none) → H0' e = none → H' e = some (.xd [(f, v)]) → Rep K H0' v d → E (.ref (He.ga K Cx)) (some e) H')
def defEndsN (p : Addr) (C : Str) (as : List S) (R : D → List (Str × Fld) → List D → Prop) : DEnds where
  nx := fun ρ => endM p C ρ fun fs => R .non fs (outM (.v .non :: as) ρ)
  rt := fun r ρ => endM p C ρ fun fs => retD r fun d => R d fs (outM (.v .non :: as) ρ)
def defXN (p : Addr) (C : Str) (as : List S) (RX : Str → Str → D → List (Str × Fld) → List D → Prop) : DXC := fun Cx f d ρ => endM p C ρ fun fs => RX Cx f d fs (outM (.v .non :: as) ρ)
section
variable {K : PySem.W.Frag} {H0 H : Hp} {ws : List V} {as : List S} {p : Addr} {C : Str} {fs : List (Str × Fld)} {F : List Addr}
abbrev fxN (H0 H : Hp) (F : List Addr) (ws : List V) (as : List S) : Fx := ⟨mpOf 1 ws as, H0, offB H F, []⟩
end
end DL

/-! DL89: an own thing made, its first argument lent where that is an own list; [x, e][i] where x is an own list. -/
namespace DL
open PySem L2
/-! ### C(x, ..), x data or an own list that is lent -/
/-- the first argument as it is handed over, and the slot whose list it is -/
def firstS (ρ : Rho) : Hd → Option (S × Option Nat)
  | .val d => some (.v d, none)
  | .slot j => match ρ[j]? with
    | some (some (.v d)) => some (.v d, none)
    | some (some (.o cs)) => some (.m cs, some j)
    | some (some (.m cs)) => some (.m cs, some j)
    | _ => none
def putL (ρ : Rho) (o : Option Nat) (es : List D) : Rho := match o with
  | none => ρ
  | some j => match ρ[j]? with
    | some (some s) => ρ.set j (some (s.wth es))
    | _ => ρ
def dMkN (xc : DXC) (C : Str) (nsp : NSp) (dd : List D) (ta : DAT) : DT := fun ρ R => ta ρ fun hs ρ1 => match hs with
  | h :: hs => (match firstS ρ1 h, vals ρ1 hs with
    | some (a, o), some ds => nsp [] (a :: (ds ++ dd).map S.v) (fun d fs' es => d = .non ∧ ∀ p G, R (.x (.obj C fs') (p :: G)) (putL ρ1 o es)) fun Cx f d _ es => xc Cx f d (putL ρ1 o es)
    | _, _ => False)
  | _ => False
section
variable {X : Cx} {Γ : Fx} {nsp : NSp} {ta : DAT} {xc : DXC} {C : Str}
/-- beside a thing that is made a lent list is changed, or none -/
theorem Fit.putL {K : PySem.W.Frag} {H1 H' H2 H3 : Hp} {σ : L2.St} {ρ : Rho} (F : Fit Γ K H1 σ ρ H') {o : Option Nat} {M N : List Addr} {es : List D} (hN : ∀ a ∈ N, H' a = none) (st : StX (M ++ N) H1 H' H2 H3)
    (ho : (o = none ∧ M = []) ∨ ∃ j q s cs, o = some j ∧ M = [q] ∧ ρ[j]? = some (some s) ∧ s.own = some cs ∧ σ[j]? = some (some (.ref q))) (ow : ∀ q ∈ M, OwnAt K H2 H3 q es) :
    Fit Γ K H2 σ (putL ρ o es) H3 ∧ ∀ a, H' a = none → NoX (DL.putL ρ o es) a ∧ ∀ (i : Nat) s es', (DL.putL ρ o es)[i]? = some (some s) → s.own = some es' → σ[i]? ≠ some (some (.ref a)) := by
  have nw : ∀ a o, H2 a = some o → H1 a = none → H' a = none ∨ a ∈ M := fun a o z1 z2 => by
    rcases st.new a o z1 z2 with z | z
    · exact .inl z
    · rcases List.mem_append.mp z with z | z
      · exact .inr z
      · exact .inl (hN a z)
  rcases ho with ⟨rfl, rfl⟩ | ⟨j, q, s, cs, rfl, rfl, hj, hs, hv⟩
  · refine ⟨?_, fun a z => ⟨F.noX z, F.noSlot z⟩⟩
    have n1 : ∀ a, H1 a = none → H' a ≠ none → H2 a = none := fun a h0 h => by
      cases q : H2 a with
      | none => rfl
      | some o =>
        rcases nw a o q h0 with z | z
        · exact absurd z h
        · cases z
    refine F.step st.sub st.top (fun a o z => st.keep a o z fun w => by
        rcases List.mem_append.mp w with w | w
        · cases w
        · rw [hN a w] at z; cases z) (fun a o h1 h2 => ?_) (fun i s ds p h1 h2 h3 => ?_) (fun p xs h => ?_) (fun i x G a h1 h2 => ?_)
    · rcases nw a o h1 h2 with z | z
      · exact F.noneS z
      · cases z
    · obtain ⟨g1, xs, g2, _⟩ := F.ownNone h1 h2 h3
      exact n1 p g1 (by rw [g2]; simp)
    · obtain ⟨g1, g2, _⟩ := F.tmp p xs h
      exact n1 p g2 (by rw [g1]; simp)
    · obtain ⟨g1, o, g2⟩ := F.xSome h1 h2
      exact n1 a g1 (by rw [g2]; simp)
  · have e : DL.putL ρ (some j) es = ρ.set j (some (s.wth es)) := by unfold DL.putL; simp only [hj]
    rw [e]
    obtain ⟨hq0, xs, hx, rx⟩ := F.ownNone hj hs hv
    obtain ⟨o1, ys, o2, o3⟩ := ow q (by simp)
    have qN : q ∉ N := fun z => by rw [hN q z] at hx; cases hx
    have n1 : ∀ a, H1 a = none → H' a ≠ none → H2 a = none := fun a h0 h => by
      cases w : H2 a with
      | none => rfl
      | some o =>
        rcases nw a o w h0 with z | z
        · exact absurd z h
        · rw [List.mem_singleton.mp z] at w
          rw [o1] at w; cases w
    have F3 : Fit Γ K H2 σ ρ (upd H3 q (.lst xs)) := by
      refine F.step st.sub (fun a o z => ?_) (fun a o z => ?_) (fun a o h1 h2 => ?_) (fun i s ds p h1 h2 h3 => ?_) (fun p xs h => ?_) (fun i x G a h1 h2 => ?_)
      · have hne : a ≠ q := fun w => by subst w; rw [o1] at z; cases z
        rw [upd_ne hne]; exact st.top _ _ z
      · by_cases w : a = q
        · subst w; rw [upd_same, ← z, hx]
        · rw [upd_ne w]
          exact st.keep a o z fun v => by
            rcases List.mem_append.mp v with v | v
            · exact w (List.mem_singleton.mp v)
            · rw [hN a v] at z; cases z
      · rcases nw a o h1 h2 with z | z
        · exact F.noneS z
        · rw [List.mem_singleton.mp z] at h1
          rw [o1] at h1; cases h1
      · obtain ⟨g1, xs, g2, _⟩ := F.ownNone h1 h2 h3
        exact n1 p g1 (by rw [g2]; simp)
      · obtain ⟨g1, g2, _⟩ := F.tmp p xs h
        exact n1 p g2 (by rw [g1]; simp)
      · obtain ⟨g1, o, g2⟩ := F.xSome h1 h2
        exact n1 a g1 (by rw [g2]; simp)
    have F4 := F3.chg hj hs hv o3
    rw [upd_upd, upd_eq o2] at F4
    refine ⟨F4, fun a z => ⟨fun i y G h1 h2 => F.noX z i y G (setX (by rw [hs]; simp) h1) h2, fun i s'' es'' h1 h2 h3 => ?_⟩⟩
    by_cases hij : j = i
    · subst hij
      rw [hv] at h3
      cases h3
      rw [z] at hx; cases hx
    · rw [List.getElem?_set_ne hij] at h1
      exact F.noSlot z i s'' es'' h1 h2 h3
structure FnN (X : Cx) (CX : CXT) (x : Str) (k : Nat) (ps : List Str) (nsp : NSp) (f : Addr) (fd : FuncData) : Prop where
  ok : FnOk X.prog X.w X.K X.mg X.base CX k f fd ps (LNp X.K x nsp)
  mg : X.mg x = some (.ref (He.ga X.K x))
  mak : Mk X.K (He.ga X.K x) f
section
variable {dvs : List V} {dd : List D} {x : Str} {k : Nat} {ps : List Str} {f : Addr} {fd : FuncData} {p pos : Pos} {e : Expr} {es : List Expr} {ds : List Value}
end
end
/-! ### [x, e][i] -/
def isSl (ρ : Rho) (j : Nat) : Prop := match ρ[j]? with
  | some (some _) => True
  | _ => False
def dhPk (j : Nat) (t2 : DT) (ti : DHT) : DHT := fun ρ R => isSl ρ j ∧ t2 ρ fun r ρ1 => ti ρ1 fun h ρ2 => ∃ i : Int, h.get ρ2 = some (.int i) ∧ (i = 0 ∧ R (.slot j) ρ2 ∨ i = 1 ∧ R (.val r.d) ρ2)
end DL

/-! DL90: own things whose fields hold own lists and own things: a field opened, put back, set. -/
namespace DL
open PySem L2
/-! ### where a field's cells stand -/
mutual
def footN : Fld → Nat
  | .dat _ => 0
  | .lst _ => 1
  | .obj _ fs => footNs fs + 2
def footNs : List (Str × Fld) → Nat
  | [] => 0
  | (_, x) :: r => footN x + footNs r
end
def offF (f : Str) : List (Str × Fld) → Nat
  | [] => 0
  | (g, x) :: r => if f == g then 0 else footN x + offF f r
section
variable {K : PySem.W.Frag} {H0 H : Hp}
mutual
theorem FRep.foot : ∀ {v : V} {x : Fld} {F : List Addr}, FRep K H0 H v x F → F.length = footN x
  | _, _, _, .dat r => by rw [footN]; rfl
  | _, _, _, .lst h r => by rw [footN]; rfl
  | _, _, _, .obj h1 h2 r => by rw [footN, List.length_cons, List.length_cons, FReps.foot r]
theorem FReps.foot : ∀ {vs : List (Str × V)} {fs : List (Str × Fld)} {F : List Addr}, FReps K H0 H vs fs F → F.length = footNs fs
  | _, _, _, .nil => by rw [footNs]; rfl
  | _, _, _, .cons r t => by rw [footNs, List.length_append, FRep.foot r, FReps.foot t]
end
end
section
variable {Γ : Fx} {K : PySem.W.Frag} {H0 : Hp} {σ : L2.St} {ρ : Rho} {H : Hp}
/-- nothing else holds a -/
def FreeA (Γ : Fx) (σ : L2.St) (ρ : Rho) (a : Addr) : Prop := Γ.Hs a = none ∧ (∀ xs, (a, xs) ∉ Γ.tm) ∧ (∀ (i : Nat) s es, ρ[i]? = some (some s) → s.own = some es → σ[i]? ≠ some (some (.ref a))) ∧ NoX ρ a
end
end DL

/-! DL91: o.f a list: o.f.append(e), o.f.pop(), o.f[k], o.f[:k], len(o.f), list(o.f); o.f.m(..); o.f = .., o.f += k. -/
namespace DL
open PySem L2
def isLstF (f : Str) (fs : List (Str × Fld)) : Bool := match fs.lookup f with
  | some (.lst _) => true
  | _ => false
/-- the address of the field's value -/
def adF (p : Addr) (G : List Addr) (f : Str) (fs : List (Str × Fld)) : Option Addr := (p :: G)[offF f fs + 2]?
theorem StX.one {K : PySem.W.Frag} {H0 H : Hp} {q : Addr} {o : HO} (e : Same H0 H) (h : H0 q = none) : StX [q] H0 H H0 (upd H q o) :=
  ⟨Same.refl _, fun a u z => by rw [upd_ne (fun w => by rw [w, h] at z; cases z)]; exact e _ _ z, fun a u z w => by rw [upd_ne (fun y => w (by rw [y]; exact List.mem_cons_self))]; exact z, fun a u z w => by rw [w] at z; cases z⟩
section
variable {Γ : Fx} {K : PySem.W.Frag} {H0 : Hp} {σ : L2.St} {ρ : Rho} {H : Hp}
end
section
variable {X : Cx} {Γ : Fx} {e o : Expr} {es : List Expr} {i : Nat} {C f : Str} {ta : DAT} {mt : MtF} {name : Str} {fpos apos cpos : Pos} {id : String} {r : V → List V → Hp → VK → Prop}
/-- o.f.append(e) and the like -/
def dMeF (i : Nat) (C f : Str) (mt : MtF) (ta : DAT) : DT := fun ρ R => withO i C ρ fun p G fs => isLstF f fs = true ∧ ta ρ fun hs ρ1 => match vals ρ1 hs with
  | some as => withO i C ρ1 fun p1 G1 fs1 => p1 = p ∧ adF p1 G1 f fs1 = adF p G f fs ∧ match fs1.lookup f with
    | some (.lst ds) => mt ds as fun d es => R (.v d) (ρ1.set i (some (.x (.obj C (putFX f (.lst es) fs1)) (p1 :: G1))))
    | _ => False
  | none => False
def dMeF0 (i : Nat) (C f : Str) (mt : MtF) : DT := fun ρ R => withO i C ρ fun p G fs => match fs.lookup f with
  | some (.lst ds) => mt ds [] fun d es => R (.v d) (ρ.set i (some (.x (.obj C (putFX f (.lst es) fs)) (p :: G))))
  | _ => False
end
section
variable {X : Cx} {Γ : Fx} {o b : Expr} {i : Nat} {C f : Str} {pos fpos p2 p : Pos}
/-- o.f[k] -/
def dIxF (i : Nat) (C f : Str) (fop : D → D → (S → Prop) → Prop) (tb : DHT) : DT := fun ρ R => withO i C ρ fun p G fs => isLstF f fs = true ∧ tb ρ fun h ρ1 => withO i C ρ1 fun p1 G1 fs1 => p1 = p ∧ adF p1 G1 f fs1 = adF p G f fs ∧ match fs1.lookup f, h.get ρ1 with
  | some (.lst ds), some y => fop (.lst ds) y fun r => R r ρ1
  | _, _ => False
/-- o.f[lo:hi] -/
def dSlF (i : Nat) (C f : Str) (tl th : DPT) : DT := fun ρ R => withO i C ρ fun p G fs => isLstF f fs = true ∧ tl ρ fun lo ρ1 => th ρ1 fun hi ρ2 => withO i C ρ2 fun p1 G1 fs1 => p1 = p ∧ adF p1 G1 f fs1 = adF p G f fs ∧ match fs1.lookup f with
  | some (.lst ds) => R (.o (cutD ds lo hi)) ρ2
  | _ => False
/-- g(o.f), g a builtin -/
def dCbF (i : Nat) (C f : Str) (fn : List D → (S → Prop) → Prop) : DT := fun ρ R => withO i C ρ fun p G fs => match fs.lookup f with
  | some (.lst ds) => fn [.lst ds] fun r => R r ρ
  | _ => False
section
variable {r : List V → Hp → VK → Prop} {fn : List D → (S → Prop) → Prop} {x : Str} {id T : String}
end
end
/-! ### o.f = .. -/
def putS : S → Option Fld
  | .v d => some (.dat d)
  | .o ds => some (.lst ds)
  | .x (.obj C fs) _ => some (.obj C fs)
  | _ => none
def gFO (i : Nat) (C f : Str) : DGT := fun r ρ R => match putS r with
  | some x => withO i C ρ fun p _ fs => fs.length < 900 ∧ ∀ G', R (ρ.set i (some (.x (.obj C (putFX f x fs)) (p :: G'))))
  | none => False
/-! ### o.f += k, o.f -= k -/
def dAugF (i : Nat) (C f : Str) (g : Int → Int) : DST := fun De ρ => withO i C ρ fun p G fs => fs.length < 900 ∧ match fs.lookup f with
  | some (.dat (.int n)) => De.nx (ρ.set i (some (.x (.obj C (putFX f (.dat (.int (g n))) fs)) (p :: G))))
  | _ => False
section
variable {X : Cx} {Γ : Fx} {i : Nat} {C f : Str} {o : Expr} {k : Int} {tp pos cp : Pos} {j}
end
end DL

/-! DL92: o.f.m(..), o.f an own thing. -/
namespace DL
open PySem L2
def isObjF (f C2 m : Str) (fs : List (Str × Fld)) : Bool := match fs.lookup f with
  | some (.obj D2 fs2) => decide (D2 = C2) && (fs2.lookup m).isNone
  | _ => false
section
variable {Γ : Fx} {K : PySem.W.Frag} {H0 : Hp} {σ : L2.St} {ρ : Rho} {H : Hp}
end
section
variable {X : Cx} {Γ : Fx} {msp : MSp} {ta tk : DAT} {xc : DXC} {C C2 f : Str}
/-- behind a call that was handed the field's own thing -/
def putO (i : Nat) (C f C2 : Str) (p : Addr) (G : List Addr) (fs : List (Str × Fld)) (ρ : Rho) (fs' : List (Str × Fld)) (k : Rho → Prop) : Prop :=
  ∀ G', adF p G' f fs = adF p G f fs → k (ρ.set i (some (.x (.obj C (putFX f (.obj C2 fs') fs)) (p :: G'))))
/-- o.f.m(..) -/
def dMethF (xc : DXC) (i : Nat) (C f C2 m : Str) (msp : MSp) (dd : List D) (ta : DAT) : DT := fun ρ R => withO i C ρ fun p G fs => isObjF f C2 m fs = true ∧ ta ρ fun hs ρ1 => match vals ρ1 hs with
  | some ds => withO i C ρ1 fun p1 G1 fs1 => p1 = p ∧ adF p1 G1 f fs1 = adF p G f fs ∧ match fs1.lookup f with
    | some (.obj D2 fs2) => D2 = C2 ∧ msp fs2 (ds ++ dd) (fun d fs' => putO i C f C2 p1 G1 fs1 ρ1 fs' (R (.v d))) fun Cx g d fs' => putO i C f C2 p1 G1 fs1 ρ1 fs' (xc Cx g d)
    | _ => False
  | none => False
section
variable {CX : CXT} {k i : Nat} {m : Str} {fd : FuncData} {ps : List Str} {dvs : List V} {dd : List D} {ds : List Value} {pos apos fpos : Pos} {e o : Expr} {es : List Expr} {pl : Sem Bool}
end
end
end DL

/-! DL93: behind a call that was lent any number of own lists and own things: several slots change at once. -/
namespace DL
open PySem L2
def refA : V → List Addr
  | .ref p => [p]
  | _ => []
/-- the cells of a slot's value that nothing else holds -/
def footS (v : V) : S → List Addr
  | .v _ => []
  | .o _ => refA v
  | .m _ => refA v
  | .x _ G => G
def kindS : S → Nat
  | .v _ => 0
  | .o _ => 1
  | .m _ => 2
  | .x _ _ => 3
theorem kind_own {s t : S} (h : kindS s = kindS t) {ds : List D} (e : s.own = some ds) : ∃ es, t.own = some es := by
  cases s with
  | v d => cases e
  | x x G => cases e
  | o d => cases t <;> first | exact ⟨_, rfl⟩ | (exfalso; simp [kindS] at h)
  | m d => cases t <;> first | exact ⟨_, rfl⟩ | (exfalso; simp [kindS] at h)
theorem refA_mem {v : V} {a : Addr} (h : a ∈ refA v) : v = .ref a := by
  unfold refA at h
  split at h
  · rw [List.mem_singleton.mp h]
  · cases h
section
variable {Γ : Fx} {K : PySem.W.Frag} {H0 : Hp} {σ : L2.St} {ρ : Rho} {H : Hp}
/-- a cell of some slot: who holds it -/
theorem Fit.foot (F : Fit Γ K H0 σ ρ H) {j : Nat} {s : S} {v : V} {a : Addr} (h : ρ[j]? = some (some s)) (hv : σ[j]? = some (some v)) (ha : a ∈ footS v s) : H0 a = none ∧ (∃ o, H a = some o) ∧
    ((v = .ref a ∧ ∃ ds, s.own = some ds) ∨ ∃ x G, s = .x x G ∧ a ∈ G) := by
  cases s with
  | v d => cases ha
  | x x G =>
    obtain ⟨h1, o, h2⟩ := F.xSome h ha
    exact ⟨h1, ⟨o, h2⟩, .inr ⟨x, G, rfl, ha⟩⟩
  | o ds =>
    cases refA_mem ha
    obtain ⟨h1, xs, h2, _⟩ := F.ownNone h rfl hv
    exact ⟨h1, ⟨_, h2⟩, .inl ⟨rfl, _, rfl⟩⟩
  | m ds =>
    cases refA_mem ha
    obtain ⟨h1, xs, h2, _⟩ := F.ownNone h rfl hv
    exact ⟨h1, ⟨_, h2⟩, .inl ⟨rfl, _, rfl⟩⟩
theorem foot_own {s : S} {ds : List D} {p : Addr} (h : s.own = some ds) : p ∈ footS (.ref p) s := by
  cases s with
  | v d => cases h
  | o d => exact List.mem_singleton.mpr rfl
  | m d => exact List.mem_singleton.mpr rfl
  | x x F => cases h
theorem Fit.multi (F : Fit Γ K H0 σ ρ H) {ρ' : Rho} {B : List Addr} {H1 H' : Hp} (T : Nat → Prop) (hl : ρ'.length = ρ.length) (st : StX B H0 H H1 H')
    (al : ∀ (j : Nat) s, ρ[j]? = some (some s) → ∃ s', ρ'[j]? = some (some s'))
    (ch : ∀ (j : Nat) s', ρ'[j]? = some (some s') → (¬ T j ∧ ρ[j]? = some (some s') ∧ ∀ v, σ[j]? = some (some v) → ∀ a ∈ footS v s', a ∉ B) ∨
      (T j ∧ ∃ s v, ρ[j]? = some (some s) ∧ σ[j]? = some (some v) ∧ kindS s' = kindS s ∧ SRep K H1 H' v s' ∧ ∀ a ∈ footS v s', a ∈ B ∨ H a = none))
    (hB : ∀ a ∈ B, ∃ j s v, T j ∧ ρ[j]? = some (some s) ∧ σ[j]? = some (some v) ∧ a ∈ footS v s)
    (dj : ∀ (i j : Nat) s t v w a, i ≠ j → T i → T j → ρ'[i]? = some (some s) → ρ'[j]? = some (some t) → σ[i]? = some (some v) → σ[j]? = some (some w) → a ∈ footS v s → a ∉ footS w t) : Fit Γ K H1 σ ρ' H' := by
  have kd : ∀ (j : Nat) s', ρ'[j]? = some (some s') → ∃ s, ρ[j]? = some (some s) ∧ kindS s' = kindS s := fun j s' h => by
    rcases ch j s' h with ⟨_, h, _⟩ | ⟨_, s, v, h, _, k, _⟩
    · exact ⟨_, h, rfl⟩
    · exact ⟨_, h, k⟩
  have ow : ∀ (j : Nat) s' es, ρ'[j]? = some (some s') → s'.own = some es → ∃ s ds, ρ[j]? = some (some s) ∧ s.own = some ds := fun j s' es h1 h2 => by
    obtain ⟨s, g1, g2⟩ := kd j s' h1
    obtain ⟨ds, g3⟩ := kind_own g2 h2
    exact ⟨s, ds, g1, g3⟩
  have n1 : ∀ a, H0 a = none → H a ≠ none → a ∉ B → H1 a = none := fun a h0 hH hg => by
    cases q : H1 a with
    | none => rfl
    | some o =>
      rcases st.new a o q h0 with z | z
      · exact absurd z hH
      · exact absurd z hg
  -- who holds a cell of B
  have who : ∀ a ∈ B, (∃ j s v, T j ∧ ρ[j]? = some (some s) ∧ σ[j]? = some (some (.ref a)) ∧ v = V.ref a ∧ (∃ ds, s.own = some ds)) ∨ ∃ j x G, T j ∧ ρ[j]? = some (some (.x x G)) ∧ a ∈ G := fun a z => by
    obtain ⟨j, s, v, t, h1, h2, h3⟩ := hB a z
    obtain ⟨_, _, q⟩ := F.foot h1 h2 h3
    rcases q with ⟨rfl, q⟩ | ⟨x, G, rfl, q⟩
    · exact .inl ⟨j, s, _, t, h1, h2, rfl, q⟩
    · exact .inr ⟨j, x, G, t, h1, q⟩
  refine ⟨st.top, F.s0.trans st.sub, fun a o h1 h2 => st.keep a o (F.keep a o h1 h2) (fun z => ?_), fun a o h1 h2 => ?_, hl.trans F.len, fun j s hj => ?_, fun j ds p h1 h2 => ?_, fun j ds p h1 h2 => ?_, fun j k s t ds es p h1 h2 h3 h4 h5 h6 => ?_, fun j a hm => ?_, fun p xs hm => ?_, fun j y Gj hj a ha => ?_⟩
  · rcases who a z with ⟨j, s, v, _, g1, g2, _, ds, g3⟩ | ⟨j, x, G, _, g1, g2⟩
    · cases s with
      | v d => cases g3
      | x x G => cases g3
      | o d => rw [F.loc j _ a g1 g2] at h1; cases h1
      | m d => exact h2 (List.mem_map.mpr ⟨_, F.par j _ a g1 g2, rfl⟩)
    · rw [(F.ex j x G g1 a g2).hs] at h1; cases h1
  · cases q : H0 a with
    | some u => exact F.new a u q h2
    | none =>
      rcases st.new a o h1 q with z | z
      · exact F.noneS z
      · rcases who a z with ⟨j, s, v, tj, g1, g2, _, ds, g3⟩ | ⟨j, x, G, _, g1, g2⟩
        · obtain ⟨s', g4⟩ := al j s g1
          rcases ch j s' g4 with ⟨n, _⟩ | ⟨_, s2, v2, c1, c2, c3, c4, _⟩
          · exact absurd tj n
          · rw [g1] at c1
            cases c1
            rw [g2] at c2
            cases c2
            obtain ⟨es, c5⟩ := kind_own c3.symm g3
            obtain ⟨p, e, c6, _⟩ := c4.ownAt c5
            cases e
            rw [c6] at h1; cases h1
        · exact (F.ex j x G g1 a g2).hs
  · rcases ch j s hj with ⟨_, h1, h2⟩ | ⟨_, s0, v, h1, h2, h3, h4, _⟩
    · obtain ⟨w, s1, s2⟩ := F.slots j s h1
      refine ⟨w, s1, s2.stay st.sub (fun p ds ev es => ?_) fun y Gj ey a ha => ?_⟩
      · subst ev
        obtain ⟨q, eq, g1, xs, g2, _⟩ := s2.ownAt es
        cases eq
        have hg : p ∉ B := h2 _ s1 p (foot_own es)
        exact ⟨n1 p g1 (by rw [g2]; simp) hg, by rw [g2]; exact st.keep p _ g2 hg⟩
      · subst ey
        obtain ⟨g1, o, g2⟩ := F.xSome h1 ha
        have hg : a ∉ B := h2 _ s1 a ha
        exact ⟨n1 a g1 (by rw [g2]; simp) hg, by rw [g2]; exact st.keep a _ g2 hg⟩
    · exact ⟨v, h2, h4⟩
  · obtain ⟨s, g1, g2⟩ := kd j _ h1
    cases s <;> first | (cases g2; done) | skip
    exact F.loc j _ p g1 h2
  · obtain ⟨s, g1, g2⟩ := kd j _ h1
    cases s <;> first | (cases g2; done) | skip
    exact F.par j _ p g1 h2
  · obtain ⟨s1, d1, g1, g2⟩ := ow j s ds h1 h3
    obtain ⟨s2, d2, g3, g4⟩ := ow k t es h2 h4
    exact F.dist j k s1 s2 d1 d2 p g1 g3 g2 g4 h5 h6
  · obtain ⟨g1, ds, g2⟩ := F.mps j a hm
    obtain ⟨s', g3⟩ := al j _ g2
    refine ⟨g1, ?_⟩
    obtain ⟨s, g4, g5⟩ := kd j s' g3
    rw [g2] at g4
    cases g4
    cases s' <;> first | (cases g5; done) | skip
    exact ⟨_, g3⟩
  · obtain ⟨g1, g2, g3⟩ := F.tmp p xs hm
    have hg : p ∉ B := fun z => by
      rcases who p z with ⟨j, s, v, _, k1, k2, _, ds, k3⟩ | ⟨j, x, G, _, k1, k2⟩
      · exact g3 j s ds k1 k3 k2
      · exact (F.ex j x G k1 p k2).tm xs hm
    refine ⟨st.keep p _ g1 hg, n1 p g2 (by rw [g1]; simp) hg, fun j s es h1 h2 => ?_⟩
    obtain ⟨s1, d1, k1, k2⟩ := ow j s es h1 h2
    exact g3 j s1 d1 k1 k2
  · -- an own thing's cells stay its own
    have sl : ∀ {b : Addr}, (∀ (k : Nat) s es, ρ[k]? = some (some s) → s.own = some es → σ[k]? ≠ some (some (.ref b))) → ∀ (k : Nat) s es, ρ'[k]? = some (some s) → s.own = some es → σ[k]? ≠ some (some (.ref b)) := fun z k s es h1 h2 => by
      obtain ⟨s1, d1, k1, k2⟩ := ow k s es h1 h2
      exact z k s1 d1 k1 k2
    rcases ch j _ hj with ⟨nt, h1, h2⟩ | ⟨tj, s0, v, h1, h2, h3, h4, h5⟩
    · have xf := F.ex j y Gj h1 a ha
      obtain ⟨g1, o, g2⟩ := F.xSome h1 ha
      obtain ⟨w, s1, _⟩ := F.slots j _ h1
      refine ⟨xf.hs, xf.tm, sl xf.sl, fun k y' Gk hk q => ?_⟩
      rcases ch k _ q with ⟨_, q, _⟩ | ⟨_, s2, v2, _, _, _, _, z⟩
      · exact xf.xs k y' Gk hk q
      · intro m
        rcases z a m with z | z
        · exact h2 w s1 a ha z
        · rw [g2] at z; cases z
    · rcases h5 a ha with z | z
      · rcases who a z with ⟨j0, s, _, t0, k1, k2, _, ds, k3⟩ | ⟨j0, x, G, t0, k1, k2⟩
        · exfalso
          obtain ⟨s', g4⟩ := al j0 s k1
          obtain ⟨s2, g5, g6⟩ := kd j0 s' g4
          rw [k1] at g5
          cases g5
          obtain ⟨es, g7⟩ := kind_own g6.symm k3
          by_cases e : j = j0
          · subst e
            rw [hj] at g4
            cases g4
            cases g7
          · exact dj j j0 _ s' v _ a e tj t0 hj g4 h2 k2 ha (foot_own g7)
        · have xf := F.ex j0 x G k1 a k2
          refine ⟨xf.hs, xf.tm, sl xf.sl, fun k y' Gk hk q m => ?_⟩
          obtain ⟨sk, gk, _⟩ := kd k _ q
          obtain ⟨wk, s1, _⟩ := F.slots k _ gk
          rcases ch k _ q with ⟨nk, qk, _⟩ | ⟨tk, _⟩
          · exact xf.xs k y' Gk (fun e => nk (by rw [e]; exact t0)) qk m
          · exact dj j k _ _ v wk a (fun e => hk e.symm) tj tk hj q h2 s1 ha m
      · refine ⟨F.noneS z, F.noTmp z, sl (F.noSlot z), fun k y' Gk hk q m => ?_⟩
        obtain ⟨sk, gk, _⟩ := kd k _ q
        obtain ⟨wk, s1, _⟩ := F.slots k _ gk
        rcases ch k _ q with ⟨nk, qk, _⟩ | ⟨tk, _⟩
        · exact F.noX z k y' Gk qk m
        · exact dj j k _ _ v wk a (fun e => hk e.symm) tj tk hj q h2 s1 ha m
end
end DL

/-! DL94: defs that are lent any number of own lists and own things, at any places: their promise, start and end. -/
namespace DL
open PySem L2
/-! ### what is handed -/
structure GArgs (K : PySem.W.Frag) (H0 H : Hp) (vs : List V) (as : List S) : Prop where
  len : vs.length = as.length
  rep : ∀ (i : Nat) s v, as[i]? = some s → vs[i]? = some v → SRep K H0 H v s ∧ kindS s ≠ 1
  dj : ∀ (i j : Nat) s t v w a, i ≠ j → as[i]? = some s → as[j]? = some t → vs[i]? = some v → vs[j]? = some w → a ∈ footS v s → a ∉ footS w t
def feetG : List V → List S → List Addr
  | v :: vs, s :: ss => footS v s ++ feetG vs ss
  | _, _ => []
theorem mem_feetG {a : Addr} : ∀ {vs : List V} {ss : List S}, a ∈ feetG vs ss ↔ ∃ (i : Nat) (s : S) (v : V), ss[i]? = some s ∧ vs[i]? = some v ∧ a ∈ footS v s
  | [], ss => ⟨fun h => (by unfold feetG at h; cases h), fun ⟨i, s, v, _, h, _⟩ => (by cases h)⟩
  | v :: vs, [] => ⟨fun h => (by unfold feetG at h; cases h), fun ⟨i, s, v, h, _, _⟩ => (by cases h)⟩
  | v :: vs, s :: ss => by
    rw [feetG, List.mem_append, mem_feetG (vs := vs) (ss := ss)]
    constructor
    · rintro (h | ⟨i, t, w, h1, h2, h3⟩)
      · exact ⟨0, s, v, rfl, rfl, h⟩
      · exact ⟨i + 1, t, w, h1, h2, h3⟩
    · rintro ⟨i, t, w, h1, h2, h3⟩
      cases i with
      | zero => cases h1; cases h2; exact .inl h3
      | succ i => exact .inr ⟨i, t, w, h1, h2, h3⟩
def mpG : Nat → List V → List S → List (Nat × Addr)
  | n, .ref p :: vs, .m _ :: ss => (n, p) :: mpG (n + 1) vs ss
  | n, _ :: vs, _ :: ss => mpG (n + 1) vs ss
  | _, _, _ => []
/-! ### how it stands at the end -/
/-- its first cell is the thing itself -/
def headX : OwnT → Bool
  | .box true _ => false
  | _ => true
def outG : List S → Nat → Rho → (List S → Prop) → Prop
  | [], _, _, k => k []
  | .v d :: as, n, ρ, k => outG as (n + 1) ρ fun r => k (.v d :: r)
  | .m _ :: as, n, ρ, k => (match ρ[n]? with
    | some (some (.m ds)) => outG as (n + 1) ρ fun r => k (.m ds :: r)
    | _ => False)
  | .x x G :: as, n, ρ, k => (match ρ[n]? with
    | some (some (.x x' G')) => headX x = true ∧ headX x' = true ∧ G'.head? = G.head? ∧ outG as (n + 1) ρ fun r => k (.x x' G' :: r)
    | _ => False)
  | .o _ :: _, _, _, _ => False
abbrev GSp := List S → (D → List S → Prop) → (Str → Str → D → List S → Prop) → Prop
def LGp (K : PySem.W.Frag) (gsp : GSp) : Sp := fun vs H Q E => ∃ as H0 R RX, Same H0 H ∧ GArgs K H0 H vs as ∧ gsp as R RX ∧
  (∀ d as' v H0' H', R d as' → StX (feetG vs as) H0 H H0' H' → GArgs K H0' H' vs as' → as'.map kindS = as.map kindS → (∀ a ∈ feetG vs as', a ∈ feetG vs as ∨ H a = none) → Rep K H0' v d → Q v H') ∧
  (∀ Cx f d as' e v H0' H', RX Cx f d as' → StX (feetG vs as) H0 H H0' H' → GArgs K H0' H' vs as' → as'.map kindS = as.map kindS → (∀ a ∈ feetG vs as', a ∈ feetG vs as ∨ H a = none) → (e ∈ feetG vs as ∨ H e = none) → H0' e = none → H' e = some (.xd [(f, v)]) → Rep K H0' v d → E (.ref (He.ga K Cx)) (some e) H')
def defEndsG (as : List S) (R : D → List S → Prop) : DEnds where
  nx := fun ρ => outG as 0 ρ (R .non)
  rt := fun r ρ => retD r fun d => outG as 0 ρ (R d)
def defXG (as : List S) (RX : Str → Str → D → List S → Prop) : DXC := fun Cx f d ρ => outG as 0 ρ (RX Cx f d)
section
variable {K : PySem.W.Frag} {H0 H : Hp} {vs : List V} {as : List S}
abbrev fxG (H0 H : Hp) (vs : List V) (as : List S) : Fx := ⟨mpG 0 vs as, H0, offB H (feetG vs as), []⟩
theorem GArgs.val (r : GArgs K H0 H vs as) {i : Nat} {s : S} (h : as[i]? = some s) : ∃ v, vs[i]? = some v := by
  have := (List.getElem?_eq_some_iff.mp h).1
  rw [← r.len] at this
  exact ⟨_, List.getElem?_eq_getElem this⟩
end
end DL

/-! DL95: f(..), o.m(..) of defs that are lent any number of own lists and own things. -/
namespace DL
open PySem L2
/-! ### what a call lends, and how the slots stand behind it -/
def lendS (ρ : Rho) : Hd → Option S
  | .val d => some (.v d)
  | .slot j => match ρ[j]? with
    | some (some (.v d)) => some (.v d)
    | some (some (.o ds)) => some (.m ds)
    | some (some (.m ds)) => some (.m ds)
    | some (some (.x x G)) => some (.x x G)
    | _ => none
def lendG (ρ : Rho) : List Hd → Option (List S)
  | [] => some []
  | h :: hs => match lendS ρ h, lendG ρ hs with
    | some a, some as => some (a :: as)
    | _, _ => none
def ownJ (ρ : Rho) : List Hd → List Nat
  | [] => []
  | .val _ :: hs => ownJ ρ hs
  | .slot j :: hs => match ρ[j]? with
    | some (some (.v _)) => ownJ ρ hs
    | _ => j :: ownJ ρ hs
def backS : S → S → S
  | .m es, .o _ => .o es
  | .m es, .m _ => .m es
  | .x x G, .x _ _ => .x x G
  | _, s => s
def setBack (ρ : Rho) (j : Nat) (a : S) : Rho := match ρ[j]? with
  | some (some s) => ρ.set j (some (backS a s))
  | _ => ρ
def backG (ρ : Rho) : List Hd → List S → Rho
  | .slot j :: hs, a :: as => backG (setBack ρ j a) hs as
  | _ :: hs, _ :: as => backG ρ hs as
  | _, _ => ρ
theorem kind_backS {a s : S} : kindS (backS a s) = kindS s := by
  cases a <;> cases s <;> rfl
theorem backS_v {a s : S} (h : kindS s = 0) : backS a s = s := by
  cases s with
  | v d => cases a <;> rfl
  | o d => cases h
  | m d => cases h
  | x x G => cases h
theorem setBack_len {ρ : Rho} {j : Nat} {a : S} : (setBack ρ j a).length = ρ.length := by
  unfold setBack
  split
  · rw [List.length_set]
  · rfl
theorem setBack_ne {ρ : Rho} {j i : Nat} {a : S} (h : j ≠ i) : (setBack ρ j a)[i]? = ρ[i]? := by
  unfold setBack
  split
  · rw [List.getElem?_set_ne h]
  · rfl
theorem setBack_eq {ρ : Rho} {j : Nat} {a s : S} (h : ρ[j]? = some (some s)) : (setBack ρ j a)[j]? = some (some (backS a s)) := by
  unfold setBack
  rw [h]
  exact List.getElem?_set_self (List.getElem?_eq_some_iff.mp h).1
theorem setBack_none {ρ : Rho} {j i : Nat} {a : S} (h : ∀ s, ρ[i]? ≠ some (some s)) : (setBack ρ j a)[i]? = ρ[i]? := by
  by_cases e : j = i
  · subst e
    unfold setBack
    split
    · rename_i s q
      exact absurd q (h s)
    · rfl
  · exact setBack_ne e
theorem backG_len : ∀ {hs : List Hd} {as : List S} {ρ : Rho}, (backG ρ hs as).length = ρ.length
  | [], as, ρ => by unfold backG; rfl
  | h :: hs, [], ρ => by cases h <;> (unfold backG; rfl)
  | .val d :: hs, a :: as, ρ => by unfold backG; exact backG_len
  | .slot j :: hs, a :: as, ρ => by unfold backG; rw [backG_len, setBack_len]
theorem backG_none : ∀ {hs : List Hd} {as : List S} {ρ : Rho} {i : Nat}, (∀ s, ρ[i]? ≠ some (some s)) → (backG ρ hs as)[i]? = ρ[i]?
  | [], as, ρ, i, h => by unfold backG; rfl
  | h0 :: hs, [], ρ, i, h => by cases h0 <;> (unfold backG; rfl)
  | .val d :: hs, a :: as, ρ, i, h => by unfold backG; exact backG_none h
  | .slot j :: hs, a :: as, ρ, i, h => by
    unfold backG
    rw [backG_none (by rw [setBack_none h]; exact h), setBack_none h]
theorem mem_ownJ {ρ : Rho} {j : Nat} : ∀ {hs : List Hd}, j ∈ ownJ ρ hs ↔ (∃ i : Nat, hs[i]? = some (.slot j)) ∧ ∀ d, ρ[j]? ≠ some (some (.v d))
  | [] => ⟨fun h => (by cases h), fun ⟨⟨i, h⟩, _⟩ => (by cases h)⟩
  | .val d :: hs => by
    rw [ownJ, mem_ownJ (hs := hs)]
    constructor
    · rintro ⟨⟨i, h⟩, h2⟩; exact ⟨⟨i + 1, h⟩, h2⟩
    · rintro ⟨⟨i, h⟩, h2⟩
      cases i with
      | zero => cases h
      | succ i => exact ⟨⟨i, h⟩, h2⟩
  | .slot j0 :: hs => by
    unfold ownJ
    split
    · rename_i d q
      rw [mem_ownJ (hs := hs)]
      constructor
      · rintro ⟨⟨i, h⟩, h2⟩; exact ⟨⟨i + 1, h⟩, h2⟩
      · rintro ⟨⟨i, h⟩, h2⟩
        cases i with
        | zero => cases h; exact absurd q (h2 d)
        | succ i => exact ⟨⟨i, h⟩, h2⟩
    · rename_i q
      rw [List.mem_cons, mem_ownJ (hs := hs)]
      constructor
      · rintro (rfl | ⟨⟨i, h⟩, h2⟩)
        · exact ⟨⟨0, rfl⟩, fun d z => q d z⟩
        · exact ⟨⟨i + 1, h⟩, h2⟩
      · rintro ⟨⟨i, h⟩, h2⟩
        cases i with
        | zero => cases h; exact .inl rfl
        | succ i => exact .inr ⟨⟨i, h⟩, h2⟩
theorem ownJ_set {ρ : Rho} {j : Nat} {a : S} : ∀ {hs : List Hd}, ownJ (setBack ρ j a) hs = ownJ ρ hs
  | [] => rfl
  | .val d :: hs => by rw [ownJ, ownJ, ownJ_set]
  | .slot i :: hs => by
    rw [ownJ, ownJ, ownJ_set (hs := hs)]
    by_cases e : j = i
    · subst e
      cases q : ρ[j]? with
      | none => rw [setBack_none (by rw [q]; simp), q]
      | some o =>
        cases o with
        | none => rw [setBack_none (by rw [q]; simp), q]
        | some s =>
          rw [setBack_eq q]
          have := @kind_backS a s
          cases s <;> (cases hb : backS a _ <;> rw [hb] at this <;> first | rfl | (simp [kindS] at this))
    · rw [setBack_ne e]
/-- the own slots are lent but once: every position's slot is another -/
theorem ownJ_inj {ρ : Rho} {j : Nat} : ∀ {hs : List Hd}, (ownJ ρ hs).Nodup → (∀ d, ρ[j]? ≠ some (some (.v d))) → ∀ {i k : Nat}, hs[i]? = some (.slot j) → hs[k]? = some (.slot j) → i = k
  | [], _, _, i, k, h, _ => by cases h
  | .val d :: hs, n, q, i, k, h1, h2 => by
    cases i with
    | zero => cases h1
    | succ i =>
      cases k with
      | zero => cases h2
      | succ k => rw [ownJ_inj (hs := hs) n q h1 h2]
  | .slot j0 :: hs, n, q, i, k, h1, h2 => by
    have tl : (ownJ ρ hs).Nodup ∧ (j0 = j → j ∉ ownJ ρ hs) := by
      unfold ownJ at n
      split at n
      · rename_i d z
        exact ⟨n, fun e => by rw [e] at z; exact absurd z (q d)⟩
      · obtain ⟨n1, n2⟩ := List.nodup_cons.mp n
        exact ⟨n2, fun e => by rw [← e]; exact n1⟩
    cases i with
    | zero =>
      cases k with
      | zero => rfl
      | succ k =>
        cases h1
        exact absurd (mem_ownJ.mpr ⟨⟨k, h2⟩, q⟩) (tl.2 rfl)
    | succ i =>
      cases k with
      | zero =>
        cases h2
        exact absurd (mem_ownJ.mpr ⟨⟨i, h1⟩, q⟩) (tl.2 rfl)
      | succ k => rw [ownJ_inj (hs := hs) tl.1 q h1 h2]
theorem backG_get : ∀ {hs : List Hd} {as : List S} {ρ : Rho}, (ownJ ρ hs).Nodup → hs.length = as.length → ∀ (j : Nat) s, ρ[j]? = some (some s) →
    (∃ (i : Nat) (a : S), kindS s ≠ 0 ∧ hs[i]? = some (.slot j) ∧ as[i]? = some a ∧ (backG ρ hs as)[j]? = some (some (backS a s))) ∨ (j ∉ ownJ ρ hs ∧ (backG ρ hs as)[j]? = some (some s))
  | [], as, ρ, _, _, j, s, h => .inr ⟨(by intro z; cases z), by unfold backG; exact h⟩
  | .val d :: hs, [], ρ, _, l, j, s, h => by cases l
  | .slot d :: hs, [], ρ, _, l, j, s, h => by cases l
  | .val d :: hs, a :: as, ρ, n, l, j, s, h => by
    unfold backG
    rcases backG_get (hs := hs) (as := as) (ρ := ρ) n (Nat.succ.inj l) j s h with ⟨i, b, h1, h2, h3, h4⟩ | ⟨h1, h2⟩
    · exact .inl ⟨i + 1, b, h1, h2, h3, h4⟩
    · exact .inr ⟨h1, h2⟩
  | .slot j0 :: hs, a :: as, ρ, n, l, j, s, h => by
    have tl : (ownJ ρ hs).Nodup := by
      unfold ownJ at n
      split at n
      · exact n
      · exact (List.nodup_cons.mp n).2
    have ih := backG_get (hs := hs) (as := as) (ρ := setBack ρ j0 a) (by rw [ownJ_set]; exact tl) (Nat.succ.inj l) j
    rw [ownJ_set] at ih
    unfold backG
    by_cases e : j0 = j
    · subst e
      have ih := ih _ (setBack_eq h)
      by_cases kz : kindS s = 0
      · rw [backS_v kz] at ih
        rcases ih with ⟨i, b, h1, _⟩ | ⟨h1, h2⟩
        · exact absurd kz h1
        · refine .inr ⟨fun z => ?_, h2⟩
          have := (mem_ownJ.mp z).2
          cases s with
          | v d => exact this d h
          | o d => cases kz
          | m d => cases kz
          | x x G => cases kz
      · have nv : ∀ d, ρ[j0]? ≠ some (some (.v d)) := fun d z => by
          rw [h] at z
          cases z
          exact kz rfl
        rcases ih with ⟨i, b, h1, h2, h3, h4⟩ | ⟨h1, h2⟩
        · have := ownJ_inj (hs := .slot j0 :: hs) (i := 0) (k := i + 1) n nv rfl h2
          omega
        · exact .inl ⟨0, a, kz, rfl, rfl, h2⟩
    · rcases ih s (by rw [setBack_ne e]; exact h) with ⟨i, b, h1, h2, h3, h4⟩ | ⟨h1, h2⟩
      · exact .inl ⟨i + 1, b, h1, h2, h3, h4⟩
      · refine .inr ⟨fun z => h1 ?_, h2⟩
        obtain ⟨⟨i, z1⟩, z2⟩ := mem_ownJ.mp z
        cases i with
        | zero => cases z1; exact absurd rfl e
        | succ i => exact mem_ownJ.mpr ⟨⟨i, z1⟩, z2⟩
theorem lendG_len {ρ : Rho} : ∀ {hs : List Hd} {as : List S}, lendG ρ hs = some as → hs.length = as.length
  | [], as, h => by cases h; rfl
  | h0 :: hs, as, h => by
    unfold lendG at h
    split at h
    · rename_i a bs h1 h2
      cases h
      rw [List.length_cons, List.length_cons, lendG_len h2]
    · cases h
theorem lendG_get {ρ : Rho} : ∀ {hs : List Hd} {as : List S}, lendG ρ hs = some as → ∀ (i : Nat) a, as[i]? = some a → ∃ h, hs[i]? = some h ∧ lendS ρ h = some a
  | [], as, h, i, a, z => by cases h; cases z
  | h0 :: hs, as, h, i, a, z => by
    unfold lendG at h
    split at h
    · rename_i b bs h1 h2
      cases h
      cases i with
      | zero => cases z; exact ⟨h0, rfl, h1⟩
      | succ i => exact lendG_get h2 i a z
    · cases h
/-- of what is lent, an own one is a slot's -/
theorem lendS_own {ρ : Rho} {h : Hd} {a : S} (e : lendS ρ h = some a) (k : kindS a ≠ 0) : ∃ j s, h = .slot j ∧ ρ[j]? = some (some s) ∧ kindS s ≠ 0 ∧ (∀ v, footS v a = footS v s) ∧ kindS a ≠ 1 ∧ (kindS s = 3 ↔ kindS a = 3) := by
  cases h with
  | val d => cases e; exact absurd rfl k
  | slot j =>
    simp only [lendS] at e
    split at e
    · cases e; exact absurd rfl k
    · rename_i ds q; cases e; exact ⟨j, _, rfl, q, by simp [kindS], fun v => rfl, by simp [kindS], by simp [kindS]⟩
    · rename_i ds q; cases e; exact ⟨j, _, rfl, q, by simp [kindS], fun v => rfl, by simp [kindS], by simp [kindS]⟩
    · rename_i x G q; cases e; exact ⟨j, _, rfl, q, by simp [kindS], fun v => rfl, by simp [kindS], by simp [kindS]⟩
    · cases e
section
variable {Γ : Fx} {K : PySem.W.Frag} {H0 : Hp} {σ : L2.St} {ρ : Rho} {H : Hp}
theorem Fit.disj (F : Fit Γ K H0 σ ρ H) {i j : Nat} {s t : S} {v w : V} {a : Addr} (hij : i ≠ j) (z2 : ρ[i]? = some (some s)) (y2 : ρ[j]? = some (some t)) (z3 : σ[i]? = some (some v)) (y3 : σ[j]? = some (some w)) (h5 : a ∈ footS v s) : a ∉ footS w t := by
  intro h6
  obtain ⟨_, _, c1⟩ := F.foot z2 z3 h5
  obtain ⟨_, _, c2⟩ := F.foot y2 y3 h6
  rcases c1 with ⟨rfl, ds, o1⟩ | ⟨x, G, rfl, m1⟩
  · rcases c2 with ⟨rfl, es, o2⟩ | ⟨x2, G2, rfl, m2⟩
    · exact hij (F.dist i j s t ds es a z2 y2 o1 o2 z3 y3)
    · exact (F.ex j x2 G2 y2 a m2).sl i s ds z2 o1 z3
  · rcases c2 with ⟨rfl, es, o2⟩ | ⟨x2, G2, rfl, m2⟩
    · exact (F.ex i x G z2 a m1).sl j t es y2 o2 y3
    · exact (F.ex i x G z2 a m1).xs j x2 G2 (fun e => hij e.symm) y2 m2
theorem HReps.at {vs : List V} {hs : List Hd} (r : HReps K H0 σ vs hs) : ∀ {i : Nat} {h : Hd} {v : V}, hs[i]? = some h → vs[i]? = some v → HRep K H0 σ v h := by
  induction r with
  | nil => intro i h v z; cases z
  | cons r1 r2 ih =>
    intro i h v z1 z2
    cases i with
    | zero => cases z1; cases z2; exact r1
    | succ i => exact ih z1 z2
/-- behind the call -/
theorem Fit.back (F : Fit Γ K H0 σ ρ H) {vs : List V} {hs : List Hd} {as as' : List S} {H1 H' : Hp} (r : HReps K H0 σ vs hs) (e : lendG ρ hs = some as) (n : (ownJ ρ hs).Nodup) (st : StX (feetG vs as) H0 H H1 H') (ga : GArgs K H1 H' vs as') (hk : as'.map kindS = as.map kindS) (hf : ∀ a ∈ feetG vs as', a ∈ feetG vs as ∨ H a = none) :
    Fit Γ K H1 σ (backG ρ hs as') H' := by
  have ll : hs.length = as'.length := by
    rw [lendG_len e]
    have := congrArg List.length hk
    rw [List.length_map, List.length_map] at this
    exact this.symm
  have vl : ∀ {i : Nat} {a : S}, as'[i]? = some a → ∃ v, vs[i]? = some v := fun h => ga.val h
  have kk : ∀ {i : Nat} {a : S}, as'[i]? = some a → ∃ b, as[i]? = some b ∧ kindS b = kindS a := fun {i a} h => by
    have h1 : (as'.map kindS)[i]? = some (kindS a) := by rw [List.getElem?_map, h]; rfl
    rw [hk, List.getElem?_map] at h1
    cases q : as[i]? with
    | none => rw [q] at h1; cases h1
    | some b => rw [q] at h1; exact ⟨b, rfl, Option.some.inj h1⟩
  -- the slot of an own one that was lent
  have own : ∀ (i : Nat) a v, as[i]? = some a → vs[i]? = some v → kindS a ≠ 0 → ∃ j s, hs[i]? = some (.slot j) ∧ ρ[j]? = some (some s) ∧ kindS s ≠ 0 ∧ (∀ v, footS v a = footS v s) ∧ σ[j]? = some (some v) := fun i a v h1 h2 k => by
    obtain ⟨h, g1, g2⟩ := lendG_get e i a h1
    obtain ⟨j, s, rfl, g3, g4, g5, _⟩ := lendS_own g2 k
    exact ⟨j, s, g1, g3, g4, g5, r.at g1 h2⟩
  have nov : ∀ {j : Nat} {s : S}, ρ[j]? = some (some s) → kindS s ≠ 0 → ∀ d, ρ[j]? ≠ some (some (.v d)) := fun {j s} h k d z => by
    rw [h] at z; cases z; exact k rfl
  -- a touched slot's new state
  have tch : ∀ (j : Nat) s (i : Nat) a, kindS s ≠ 0 → ρ[j]? = some (some s) → hs[i]? = some (.slot j) → as'[i]? = some a → ∃ v, vs[i]? = some v ∧ σ[j]? = some (some v) ∧ SRep K H1 H' v (backS a s) ∧ ∀ w, footS w (backS a s) = footS w a := fun j s i a ks hj hi ha => by
    obtain ⟨v, hv⟩ := vl ha
    have hσ : σ[j]? = some (some v) := r.at hi hv
    obtain ⟨b, hb, kb⟩ := kk ha
    obtain ⟨h, g1, g2⟩ := lendG_get e i b hb
    rw [hi] at g1
    cases g1
    obtain ⟨sr, _⟩ := ga.rep i a v ha hv
    refine ⟨v, hv, hσ, ?_⟩
    simp only [lendS, hj] at g2
    cases s with
    | v d => exact absurd rfl ks
    | o d =>
      cases g2
      cases a <;> first | (simp [kindS] at kb; done) | exact ⟨sr, fun w => rfl⟩
    | m d =>
      cases g2
      cases a <;> first | (simp [kindS] at kb; done) | exact ⟨sr, fun w => rfl⟩
    | x x G =>
      cases g2
      cases a <;> first | (simp [kindS] at kb; done) | exact ⟨sr, fun w => rfl⟩
  have was : ∀ (j : Nat) s', (backG ρ hs as')[j]? = some (some s') → ∃ s, ρ[j]? = some (some s) := fun j s' h => by
    cases q : ρ[j]? with
    | none => rw [backG_none (by rw [q]; simp), q] at h; cases h
    | some o =>
      cases o with
      | none => rw [backG_none (by rw [q]; simp), q] at h; cases h
      | some s => exact ⟨s, rfl⟩
  refine F.multi (fun j => j ∈ ownJ ρ hs) backG_len st (fun j s h => ?_) (fun j s' h => ?_) (fun a ha => ?_) (fun i j s t v w a hij ti tj h1 h2 h3 h4 h5 h6 => ?_)
  · rcases backG_get n ll j s h with ⟨i, a, _, _, _, z⟩ | ⟨_, z⟩
    · exact ⟨_, z⟩
    · exact ⟨_, z⟩
  · obtain ⟨s, hs0⟩ := was j s' h
    rcases backG_get n ll j s hs0 with ⟨i, a, ks, hi, ha, z⟩ | ⟨nj, z⟩
    · rw [z] at h
      cases h
      obtain ⟨v, hv, hσ, sr, ff⟩ := tch j s i a ks hs0 hi ha
      refine .inr ⟨mem_ownJ.mpr ⟨⟨i, hi⟩, nov hs0 ks⟩, s, v, hs0, hσ, kind_backS, sr, fun b hb => ?_⟩
      rw [ff] at hb
      exact hf b (mem_feetG.mpr ⟨i, a, v, ha, hv, hb⟩)
    · rw [z] at h
      cases h
      refine .inl ⟨nj, hs0, fun v hv b hb hB => ?_⟩
      obtain ⟨i, a, u, c1, c2, c3⟩ := mem_feetG.mp hB
      have ka : kindS a ≠ 0 := fun z => by
        cases a <;> first | (cases c3; done) | (simp [kindS] at z)
      obtain ⟨j1, s1, d1, d2, d3, d4, d5⟩ := own i a u c1 c2 ka
      rw [d4] at c3
      exact F.disj (fun ee => nj (by rw [ee]; exact mem_ownJ.mpr ⟨⟨i, d1⟩, nov d2 d3⟩)) hs0 d2 hv d5 hb c3
  · obtain ⟨i, b, u, c1, c2, c3⟩ := mem_feetG.mp ha
    have kb : kindS b ≠ 0 := fun z => by
      cases b <;> first | (cases c3; done) | (simp [kindS] at z)
    obtain ⟨j1, s1, d1, d2, d3, d4, d5⟩ := own i b u c1 c2 kb
    rw [d4] at c3
    exact ⟨j1, s1, u, mem_ownJ.mpr ⟨⟨i, d1⟩, nov d2 d3⟩, d2, d5, c3⟩
  · obtain ⟨s0, z1⟩ := was i s h1
    obtain ⟨t0, z2⟩ := was j t h2
    rcases backG_get n ll i s0 z1 with ⟨k1, a1, ks1, hi1, ha1, y1⟩ | ⟨nj, _⟩
    · rcases backG_get n ll j t0 z2 with ⟨k2, a2, ks2, hi2, ha2, y2⟩ | ⟨nj, _⟩
      · rw [y1] at h1
        rw [y2] at h2
        cases h1
        cases h2
        obtain ⟨v1, hv1, hσ1, _, ff1⟩ := tch i s0 k1 a1 ks1 z1 hi1 ha1
        obtain ⟨v2, hv2, hσ2, _, ff2⟩ := tch j t0 k2 a2 ks2 z2 hi2 ha2
        rw [h3] at hσ1
        cases hσ1
        rw [h4] at hσ2
        cases hσ2
        rw [ff1] at h5
        rw [ff2] at h6
        refine ga.dj k1 k2 a1 a2 v w a (fun ee => hij ?_) ha1 ha2 hv1 hv2 h5 h6
        subst ee
        rw [hi1] at hi2
        cases hi2
        rfl
      · exact nj tj
    · exact nj ti
end
/-! ### f(..) -/
def dCallG (xc : DXC) (gsp : GSp) (dd : List D) (ta : DAT) : DT := fun ρ R => ta ρ fun hs ρ1 => match lendG ρ1 (hs ++ dd.map Hd.val) with
  | some as => (ownJ ρ1 (hs ++ dd.map Hd.val)).Nodup ∧ gsp as (fun d as' => R (.v d) (backG ρ1 (hs ++ dd.map Hd.val) as')) fun Cx f d as' => xc Cx f d (backG ρ1 (hs ++ dd.map Hd.val) as')
  | none => False
section
variable {X : Cx} {Γ : Fx} {gsp : GSp} {ta : DAT} {xc : DXC}
structure FnGG (X : Cx) (CX : CXT) (x : Str) (k : Nat) (ps : List Str) (gsp : GSp) (f : Addr) (fd : FuncData) : Prop where
  ok : FnOk X.prog X.w X.K X.mg X.base CX k f fd ps (LGp X.K gsp)
  mg : X.mg x = some (.ref f)
  kp : PySem.W.keepIn X.K (.ref f) = true
section
variable {dvs : List V} {dd : List D} {x : Str} {k : Nat} {ps : List Str} {f : Addr} {fd : FuncData} {p pos : Pos} {e : Expr} {es : List Expr} {ds : List Value}
end
end
end DL

/-! DL96: try: .. finally: .., the suite calm; try: return e finally: .. -/
namespace DL
open PySem L2
/-! ### an error pinned while the suite runs -/
section
variable {Γ : Fx} {K : PySem.W.Frag} {H0 : Hp} {σ : L2.St} {ρ : Rho} {H : Hp}
abbrev Fx.pin (Γ : Fx) (e : Addr) (o : HO) : Fx := { Γ with Hs := upd Γ.Hs e o }
end
/-! ### try: return e finally: suite -/
def dRetFin (t : DT) (tf : DST) : DST := fun De ρ => t ρ fun r ρ1 => tf { nx := fun ρ2 => De.rt (.v r.d) ρ2, rt := fun _ _ => False } ρ1
section
variable {X : Cx} {Γ : Fx} {e : Expr} {g₀ : Stmt} {gs body : List Stmt} {rp pos : Pos} {t : DT} {tf tfs : DST}
end
/-! ### try: body finally: suite; body may raise -/
/-- the reading of such a statement -/
def sFin (tb : WX → TS) (tn tx : TS) (Wo : WX) : TS := fun D σ H =>
  tb (wFin tx Wo) { nx := fun σ' H' => tn D σ' H', rt := fun _ _ => False } σ H
section
variable {X : Cx} {body gs : List Stmt} {g₀ : Stmt} {pos : Pos} {tb : WX → TS} {tn tx : TS} {Wo : WX}
end
def dFin (tb : DXC → DST) (tf tfs : DST) (xc : DXC) : DST := fun De ρ => tb (fun C f d ρ1 => tfs { nx := fun ρ2 => xc C f d ρ2, rt := fun _ _ => False } ρ1) { nx := fun ρ1 => tf De ρ1, rt := fun _ _ => False } ρ
section
variable {X : Cx} {Γ : Fx} {g₀ : Stmt} {gs body : List Stmt} {pos : Pos} {tb : DXC → DST} {tf tfs : DST} {xc : DXC}
end
end DL

/-! DL97: o.f.m(..) as the printed proofs ask for it. -/
namespace DL
open PySem L2
section
variable {X : Cx} {Γ : Fx} {msp : MSp} {ta : DAT} {xc : DXC} {C C2 f : Str} {k i : Nat} {m : Str} {fd : FuncData} {ps : List Str} {dvs : List V} {dd : List D} {ds : List Value} {pos apos fpos : Pos} {e o : Expr} {es : List Expr} {pl : Sem Bool}
end
end DL

/-! DL98: defs whose errors are raised where nothing is handled (their context is None): as DL14, DL21, DL23. -/
namespace DL
open PySem L2
/-- such a def is one that may raise -/
theorem FnOk.ofN {P : Program} {w : World} {K : PySem.W.Frag} {mg : Str → Option Value} {base : Heap} {k : Nat} {f : Addr} {fd : FuncData} {ps : List Str} {sp : Sp} (F : FnOk P w K mg base (L2N.CX P w) k f fd ps sp) : FnOk P w K mg base (L2.CX P w) k f fd ps sp :=
  ⟨F.len, fun A outer s H args us vs Q E hr he hb hv hs => codeAny_mono (F.run A outer s H args us vs Q E hr he hb hv hs) fun r s' hq => by
    match r, hq with
    | .ok (.ret u), hq => exact hq
    | .error e, hq =>
      obtain ⟨a, B, H', cls, d, q1, q2, q3, q4, q5, q6, q7, q8⟩ := hq
      exact ⟨a, B, H', cls, d, q1, L2H.flyingZ_imp (fun o z => z.zc) q2, q3, q4, q5, q6, q7, q8⟩⟩
section
variable {X : Cx} {e : Expr} {es : List Expr} {ta : TA} {p pos : Pos}
theorem pmk_oexBN {CX : CXT} {b : XBase} {x : Str} {C fI : Addr} {k : Nat} {fd : FuncData} {ps : List Str} {sp : Sp} {ds : List Value} {dvs : List V} (T : OexB X.K C b) (iC : PySem.W.findIn X.K (.ref C) "__init__" = some (some (.ref fI))) (tI : PySem.W.typeIn X.K (.ref fI) = some (.type "function"))
    (F1 : FnOk X.prog X.w X.K X.mg X.base CX k fI fd ps sp) (hr : Room (k + 1) X.A) (hb : Binds X.K fd ps ds) (hd : Vals dvs ds) (hx : Passes CX X (fun _ _ _ => False)) (hg : Gl X x) (hm : X.mg x = some (.ref C)) (ha : PA X (e :: es) ta)
    (hdb : (x == ("__debug__" : Str)) = false := by decide) (he : starEach (e :: es) X.env = (false, eval e X.env) :: starEach es X.env := by rfl) (hpl : (backTo pos (starEach es X.env)).any (·.1) = false := by rfl) :
    L2N.PMk X (.Call (.Name x p) (e :: es) [] pos) (tMkO C sp dvs ta) := by
  intro pins s σ H Q I h
  obtain ⟨nm, q, N, bs, sn, sub, ab, col, dd, k0, k1, k2, k3, k5, hC⟩ := T.cls
  refine wpAny_Call_Name_kw (ld_glob I hg hm ?_ hdb)
  refine PySem.W.callWith_K (h₀ := X.base) I.ok.mod.kin T.kC (thn (ha.run pos pins s σ H _ I h) fun us s1 ⟨vs, H1, I1, r1, hz, q1⟩ => ⟨I1.kIn, ?_⟩) he hpl
  show wpAny _ _ (call (.ref C) us) _ _ _
  obtain ⟨hp, g, dr, tk, os⟩ := s1
  have hsz : hp.objs.size ≤ hp.objs.size + 1 := Nat.le_succ _
  have hn : H1 (hp.objs.size + 1) = none := I1.hok.fresh hsz
  have hq := q1 (hp.objs.size + 1) hn
  have kk : ∀ c o, hp.get? c = some o → ((hp.push (PySem.W.kdv_tup us)).push (PySem.HandSPX.excO C hp.objs.size)).get? c = some o := fun c o e => Heap.get?_push_of_some _ (Heap.get?_push_of_some _ e)
  have hget : ((hp.push (PySem.W.kdv_tup us)).push (PySem.HandSPX.excO C hp.objs.size)).get? (hp.objs.size + 1) = some (PySem.HandSPX.excO C hp.objs.size) := by heap_get
  have I2 : Inv X pins σ (upd H1 (hp.objs.size + 1) (exo (hp.objs.size + 1) C none)) ⟨(hp.push (PySem.W.kdv_tup us)).push (PySem.HandSPX.excO C hp.objs.size), g, dr, tk, os⟩ :=
    I1.laid (t' := tk) (a := hp.objs.size + 1) (o := exo (hp.objs.size + 1) C none) (h' := (hp.push (PySem.W.kdv_tup us)).push (PySem.HandSPX.excO C hp.objs.size)) kk hsz (exo_ok hget)
  have r2 : Vals (V.ref (hp.objs.size + 1) :: (vs ++ dvs)) (Value.ref (hp.objs.size + 1) :: (us ++ ds)) := .cons rfl (r1.append hd)
  have hl : (Value.ref (hp.objs.size + 1) :: us ++ ds).length = ps.length := by
    have e := r2.length
    rw [F1.len _ _ _ _ hq] at e
    exact e.symm
  have hus : us.length ≤ sizeLine := by
    rw [← Paired.length r1, sizeLine_eq]
    omega
  refine wpAny_call (PySem.HandSPX.call_own T.ok.base (fun Y => rfl) (I1.kIn _ _ hC) (PySem.W.looks_findIn I1.kIn iC) (fun self => PySem.W.bind_fn I1.kIn self tI) hus
    (codeAny_mono (F1.run _ X.stack _ _ ⟨Value.ref (hp.objs.size + 1) :: us, []⟩ (Value.ref (hp.objs.size + 1) :: (us ++ ds)) _ _ (fun _ _ _ => False) (hr.make C us []) (I2.env0.make C us []) (hb _ (Value.ref (hp.objs.size + 1) :: us) I2.kIn hl) r2 hq) fun r s' hq' => ?_))
  cases r with
  | error er => exact hx pins σ _ _ er s' I2 hq'
  | ok fl =>
    cases fl with
    | ret u =>
      obtain ⟨v, H2, os2, bare2, un2, hok2, rv, ev, d, fs, ea, ed, hd1, q2⟩ := hq'
      subst ev
      obtain ⟨h2, g2, d2, t2, os'⟩ := s'
      obtain ⟨t0, G, J, kG, ge, hoe, na⟩ := mk_end0 (d2 := d2) (t2 := t2) I1 hsz kk un2 hok2 os2 bare2 ea ed hd1
      exact ⟨rv, hp.objs.size + 1, _, _, ⟨G, g2, d2, t2, os'⟩, _, .ref C, some d, rfl, J, kG, ge, hoe, ⟨rfl, rfl, fun vs hv => by cases hv; rfl⟩, rfl, rfl, na, rfl, bare2, raises_own T.exC T.tyC, q2⟩
    | next => exact False.elim hq'
    | brk => exact False.elim hq'
    | cont => exact False.elim hq'
end
structure FnXN (X : Cx) (x : Str) (k : Nat) (ps : List Str) (sp : DSp) (f : Addr) (fd : FuncData) : Prop where
  ok : FnOk X.prog X.w X.K X.mg X.base (L2N.CX X.prog X.w) k f fd ps (LSp X.K sp)
  mg : X.mg x = some (.ref f)
  kp : PySem.W.keepIn X.K (.ref f) = true
section
variable {X : Cx} {Γ : Fx} {sp : DSp} {dvs : List V} {dd : List D} {ta : DAT} {xc : DXC}
end
/-! ### raise C(e): the class's __init__ takes one thing, calls its base's, stores it -/
/-- what the written part says of an error's class, its field f -/
theorem ds_raiseN {X : Cx} {Γ : Fx} {xc : DXC} {C f : Str} {t : DT} {k : Nat} {fd : FuncData} {ps : List Str} {e : Expr} {p pos pos' : Pos} (tk : L2N.Takes X (wX Γ X.K xc)) (Er : ErrC X.K C f) (G : FnOk X.prog X.w X.K X.mg X.base CX0 k (He.ma X.K (He.ga X.K C) "__init__") fd ps (spInit X.K C f))
    (hr : Room (k + 1) X.A) (hb : Binds X.K fd ps []) (hm : X.mg C = some (.ref (He.ga X.K C))) (ha : DE X Γ e t) (hc : X.calm = true := by rfl) (hg : Gl X C := by rfl) (hdb : (C == ("__debug__" : Str)) = false := by decide)
    (he : starEach [e] X.env = (false, eval e X.env) :: starEach [] X.env := by rfl) (hpl : (backTo pos (starEach [] X.env)).any (·.1) = false := by rfl) : DS X Γ (.Raise (some (.Call (.Name C p) [e] [] pos)) none pos') (dRaise xc C f t) :=
  ⟨fun tm => psLe (L2N.ps_raise hc tk (pmk_oexBN Er.oex.choose_spec Er.ini Er.tI G hr hb .nil pass0 hg hm (pa_cons (ha.run []) pa_nil he) hdb he hpl)) fun D σ H ⟨H0, ρ, De, F, t, E⟩ => ⟨H0, ρ, _, F, t, fun r ρ1 v H1 H' q F1 e1 rr => by
    obtain ⟨H2, F2, e2, r2⟩ := F1.freeze rr
    refine ⟨by simp, fun a hna => ⟨a, v, rfl, upd_same, fun dx hdx hne => ?_⟩⟩
    rw [upd_ne hne] at hdx
    refine ⟨rfl, dx, [(f, v)], upd_same, by rw [upd_ne hne, upd_same], hdx, ?_⟩
    have eH : upd (del (upd (upd (upd H' a (exo a (He.ga X.K C) none)) dx (exd dx [(f, v)])) a (exo a (He.ga X.K C) (some dx))) a) dx (.xd [(f, v)]) = upd H' dx (.xd [(f, v)]) := by
      funext b
      by_cases hb : b = dx
      · subst hb; rw [upd_same, upd_same]
      · rw [upd_ne hb, upd_ne hb]
        by_cases hba : b = a
        · subst hba; rw [del_same, hna]
        · rw [del_ne hba, upd_ne hba, upd_ne hb, upd_ne hba]
    rw [eH]
    exact ⟨H2, ρ1, C, f, r.d, dx, v, rfl, rfl, (F2.tmSub (tm' := []) (fun q z => by cases z)).allocX hdx, upd_same, F2.none0 hdx, F2.noneS hdx, r2, q⟩⟩⟩
theorem fn_newXN {P : Program} {w : World} {K : PySem.W.Frag} {mg : Str → Option Value} {base : Heap} {x qual : Str} {params : Arguments} {body : List Stmt} {scope : Scope} {dvs : List V} {kws : List (Str × V)} {f : Addr} {fd : FuncData} {N ps : List Str} {k : Nat} {sp : DSp} {C : Str} {t : Addr → DXC → DJK}
    (F : FunD K x qual params body scope dvs kws f fd) (Sc : FnScope N ps scope) (hN : ps.length ≤ N.length) (len : ∀ as R RX, sp as R RX → as.length + 1 = ps.length)
    (hd : ∀ (cdv : Value) (A : Around) (outer : List Env) (s : Shared) (H : Hp) (E : XK) (Γ : Fx) (xc : DXC) (y dy : Addr), Room k (A.deeper (PyProof.Rows.envOfC qual scope s.heap.objs.size f cdv)) → L2N.Takes (cxOf (L2N.CX P w) P w K mg base N qual scope f cdv A outer s H E) (wX (Γ.ins K C y dy []) K xc) → PSs (cxOf (L2N.CX P w) P w K mg base N qual scope f cdv A outer s H E) body (LJ Γ K C y dy (t y xc)))
    (hp : ∀ (ds : List D) R RX (y : Addr), sp (ds.map S.v) R RX → t y (fun C f d _ => RX C f d []) (fun gs _ => R (.v (.ins C gs)) []) (startR N.length (.v (.adr y) :: ds.map S.v))) : FnOk P w K mg base (L2N.CX P w) (k + 1) f fd ps (spNew K C sp) := by
  refine F.ok Sc (fun vs H Q E h => ?_) (fun cdv A outer s H vs Q E hr h => ?_)
  · obtain ⟨x, dx, ws, H0, ds, R, RX, rfl, _, _, _, r, q, _⟩ := h
    have := len _ _ _ q
    rw [List.length_map] at this
    rw [List.length_cons, r.length]
    exact this
  · obtain ⟨y, dy, ws, H0, ds, R, RX, rfl, hy, h0, e, r, q, k1, k2⟩ := h
    have hlen := len _ _ _ q
    rw [List.length_map] at hlen
    have hl : (V.ref y :: ws).length ≤ N.length := by rw [List.length_cons, r.length]; omega
    have ar : AReps K H0 H (V.ref y :: ws) (.v (.adr y) :: ds.map S.v) := .cons Rep.adr r.areps
    have hc : cntM (S.v (.adr y) :: ds.map S.v) ≤ 1 := by
      have : cntM ((D.adr y :: ds).map S.v) = 0 := cntM_v _
      rw [List.map_cons] at this
      omega
    have hmp : mpOf 0 (V.ref y :: ws) (.v (.adr y) :: ds.map S.v) = [] := by
      cases q : mpOf 0 (V.ref y :: ws) (S.v (.adr y) :: ds.map S.v) with
      | nil => rfl
      | cons p l =>
        obtain ⟨i, a⟩ := p
        have hm : (i, a) ∈ mpOf 0 (V.ref y :: ws) (S.v (.adr y) :: ds.map S.v) := by rw [q]; exact List.mem_cons_self
        obtain ⟨_, _, es, h3⟩ := mem_mpOf ar hm
        have : S.v (.adr y) :: ds.map S.v = (D.adr y :: ds).map S.v := rfl
        rw [this, List.getElem?_map] at h3
        cases z : (D.adr y :: ds)[i - 0]? with
        | none => rw [z] at h3; cases h3
        | some d => rw [z] at h3; cases h3
    have eG : (fx0 H0 H (V.ref y :: ws) (.v (.adr y) :: ds.map S.v)).ins K C y dy [] = fx0 H0 H (V.ref y :: ws) (.v (.adr y) :: ds.map S.v) := by
      unfold Fx.ins fx0
      show ({ mp := _, H0 := H0, Hs := upd H y _, tm := [] } : Fx) = _
      rw [upd_id hy]
    have none0 : ∀ {H1 fs σ1 ρ1 H2}, Fit ((fx0 H0 H (V.ref y :: ws) (.v (.adr y) :: ds.map S.v)).ins K C y dy fs) K H1 σ1 ρ1 H2 → (∀ a o, H1 a = some o → H0 a = none → H a = none) ∧ ∀ a o, H a = some o → a ≠ y → H2 a = some o := fun {H1 fs σ1 ρ1 H2} F1 => by
      refine ⟨fun a o q1 q2 => ?_, fun a o q1 hne => ?_⟩
      · have := F1.new a o q1 q2
        have this : upd H y (.ins (He.ga K C) dy fs) a = none := this
        by_cases ha : a = y
        · subst ha
          rw [upd_same] at this
          cases this
        · rw [upd_ne ha] at this
          exact this
      · refine F1.keep a o ?_ (by rw [show (Fx.ma _) = (mpOf 0 (V.ref y :: ws) (.v (.adr y) :: ds.map S.v)).map (·.2) from rfl, hmp]; simp)
        show upd H y _ a = some o
        rw [upd_ne hne]
        exact q1
    have tk : L2N.Takes (cxOf (L2N.CX P w) P w K mg base N qual scope f cdv A outer s H E) (wX ((fx0 H0 H (V.ref y :: ws) (.v (.adr y) :: ds.map S.v)).ins K C y dy []) K (fun C f d _ => RX C f d [])) := (L2N.takes_of rfl rfl rfl rfl).imp fun c d σ H' wx => by
      obtain ⟨H1, ρ, C', fl, dd, e1, v, rfl, rfl, F1, h1, h2, h3, h4, h5⟩ := wx
      obtain ⟨n1, n2⟩ := none0 F1
      have h3 : upd H y (.ins (He.ga K C) dy []) e1 = none := h3
      rw [upd_id hy] at h3
      refine k2 C' fl dd e1 v H1 H' h5 F1.s0 F1.sub (fun a o q => ?_) n1 h3 h2 h1 h4
      by_cases ha : a = y
      · subst ha
        rw [hy] at q
        cases q
        exact F1.keep a _ upd_same (by rw [show (Fx.ma _) = (mpOf 0 (V.ref a :: ws) (.v (.adr a) :: ds.map S.v)).map (·.2) from rfl, hmp]; simp)
      · exact n2 a o q ha
    refine ⟨_, hd cdv A outer s H E (fx0 H0 H (V.ref y :: ws) (.v (.adr y) :: ds.map S.v)) _ y dy hr tk, H0, _, _, by rw [eG]; exact fit_start e ar hc hl, h0, by rw [show (Fx.ma _) = (mpOf 0 (V.ref y :: ws) (.v (.adr y) :: ds.map S.v)).map (·.2) from rfl, hmp]; simp, hp ds R RX y q, fun H0' σ' ρ' H' fs' gs' q' F' e' h0' rf' => ?_⟩
    obtain ⟨n1, n2⟩ := none0 F'
    exact k1 gs' fs' H0' H' q' F'.s0 F'.sub n2 n1 h0' rf' (F'.keep y _ upd_same (by rw [show (Fx.ma _) = (mpOf 0 (V.ref y :: ws) (.v (.adr y) :: ds.map S.v)).map (·.2) from rfl, hmp]; simp))
/-! ### C(..): a thing is made -/
structure FnMN (X : Cx) (x : Str) (k : Nat) (ps : List Str) (sp : DSp) (f : Addr) (fd : FuncData) : Prop where
  ok : FnOk X.prog X.w X.K X.mg X.base (L2N.CX X.prog X.w) k f fd ps (spNew X.K x sp)
  mg : X.mg x = some (.ref (He.ga X.K x))
  mak : Mk X.K (He.ga X.K x) f
section
variable {X : Cx} {Γ : Fx} {sp : DSp} {dvs : List V} {dd : List D} {ta : DAT} {xc : DXC} {x : Str} {k : Nat} {ps : List Str} {f : Addr} {fd : FuncData} {p pos : Pos} {e : Expr} {es : List Expr} {ds : List Value}
end
section
variable {X : Cx} {Γ : Fx} {sp : DSp} {ta tk : DAT} {xc : DXC} {x : Str} {k n : Nat} {ps ks : List Str} {f : Addr} {fd : FuncData} {p pos : Pos} {e : Expr} {es : List Expr} {kws : List Keyword} {pm : List D → List D → List D}
theorem de_mkKN (G : FnMN X x k ps sp f fd) (hr : Room (k + 1) X.A) (tx : L2N.Takes X (wX Γ X.K xc)) (hb : KwM X.K fd ps n ks pm) (ha : DA X Γ (e :: es) ta) (hkw : DK X Γ kws tk) (hall : (backToKw pos (keywordEach kws X.env)).all (·.1.isSome) = true := by rfl)
    (hks : (backToKw pos (keywordEach kws X.env)).filterMap (·.1) = ks := by rfl) (hg : Gl X x := by rfl) (hdb : (x == ("__debug__" : Str)) = false := by decide) (he : starEach (e :: es) X.env = (false, eval e X.env) :: starEach es X.env := by rfl)
    (hpl : ((backTo pos (starEach (e :: es) X.env)).any (·.1) || (backToKw pos (keywordEach kws X.env)).any (·.1.isNone)) = false := by rfl) : DE X Γ (.Call (.Name x p) (e :: es) kws pos) (dCallKX xc n ks.length sp pm ta tk) := by
  obtain ⟨g, gV, gW, b, h1, h2⟩ := hb.ex
  exact ⟨fun tm => peLe (pe_mkK G.mak G.ok hr G.mg b (fun σ => L2N.passAt tx σ) (ha.run tm) (hkw.run tm) hg hdb hall hks he hpl) fun σ H Q h => mkK_le h1 h2 h⟩
end
section
variable {X : Cx} {Γ : Fx} {sp : DSp} {dvs : List V} {dd : List D} {ta : DAT} {xc : DXC} {k : Nat} {C m : Str} {fd : FuncData} {ps : List Str} {ds : List Value} {pos apos : Pos} {e o : Expr} {es : List Expr} {to : DHT} {pl : Sem Bool}
end
end DL

/-! DL99: try: .. except C: raise C2(e) from None. -/
namespace DL
open PySem L2
section
variable {X : Cx} {e : Expr} {es : List Expr} {ta : TA} {p pos : Pos}
theorem pmk5_oexBH {CX : CXT} {b : XBase} {x : Str} {C fI : Addr} {k : Nat} {fd : FuncData} {ps : List Str} {sp : Sp} {ds : List Value} {dvs : List V} (T : OexB X.K C b) (iC : PySem.W.findIn X.K (.ref C) "__init__" = some (some (.ref fI))) (tI : PySem.W.typeIn X.K (.ref fI) = some (.type "function"))
    (F1 : L2H.FnH X.prog X.w X.K X.mg X.base CX k fI fd ps sp) (hr : L2H.RoomH (k + 1) X.A) (hot : L2H.HotC X) (hb : Binds X.K fd ps ds) (hd : Vals dvs ds) (hx : Passes CX X (fun _ _ _ => False)) (hg : Gl X x) (hm : X.mg x = some (.ref C)) (ha : PA X (e :: es) ta)
    (hdb : (x == ("__debug__" : Str)) = false := by decide) (he : starEach (e :: es) X.env = (false, eval e X.env) :: starEach es X.env := by rfl) (hpl : (backTo pos (starEach es X.env)).any (·.1) = false := by rfl) :
    L2H.PMk5 X (.Call (.Name x p) (e :: es) [] pos) (tMkO C sp dvs ta) := by
  intro pins s σ H Q I h
  obtain ⟨nm, q, N, bs, sn, sub, ab, col, dd, k0, k1, k2, k3, k5, hC⟩ := T.cls
  obtain ⟨pn, h1p, hpn⟩ := hot
  refine wpAny_Call_Name_kw (ld_glob I hg hm ?_ hdb)
  refine PySem.W.callWith_K (h₀ := X.base) I.ok.mod.kin T.kC (thn (ha.run pos pins s σ H _ I h) fun us s1 ⟨vs, H1, I1, r1, hz, q1⟩ => ⟨I1.kIn, ?_⟩) he hpl
  show wpAny _ _ (call (.ref C) us) _ _ _
  obtain ⟨hp, g, dr, tk, os⟩ := s1
  have hsz : hp.objs.size ≤ hp.objs.size + 1 := Nat.le_succ _
  have hn : H1 (hp.objs.size + 1) = none := I1.hok.fresh hsz
  have hq := q1 (hp.objs.size + 1) hn
  have kk : ∀ c o, hp.get? c = some o → ((hp.push (PySem.W.kdv_tup us)).push (PySem.HandSPX.excO C hp.objs.size)).get? c = some o := fun c o e => Heap.get?_push_of_some _ (Heap.get?_push_of_some _ e)
  have hget : ((hp.push (PySem.W.kdv_tup us)).push (PySem.HandSPX.excO C hp.objs.size)).get? (hp.objs.size + 1) = some (PySem.HandSPX.excO C hp.objs.size) := by heap_get
  have I2 : Inv X pins σ (upd H1 (hp.objs.size + 1) (exo (hp.objs.size + 1) C none)) ⟨(hp.push (PySem.W.kdv_tup us)).push (PySem.HandSPX.excO C hp.objs.size), g, dr, tk, os⟩ :=
    I1.laid (t' := tk) (a := hp.objs.size + 1) (o := exo (hp.objs.size + 1) C none) (h' := (hp.push (PySem.W.kdv_tup us)).push (PySem.HandSPX.excO C hp.objs.size)) kk hsz (exo_ok hget)
  have r2 : Vals (V.ref (hp.objs.size + 1) :: (vs ++ dvs)) (Value.ref (hp.objs.size + 1) :: (us ++ ds)) := .cons rfl (r1.append hd)
  have hl : (Value.ref (hp.objs.size + 1) :: us ++ ds).length = ps.length := by
    have e := r2.length
    rw [F1.len _ _ _ _ hq] at e
    exact e.symm
  have hus : us.length ≤ sizeLine := by
    rw [← Paired.length r1, sizeLine_eq]
    omega
  have P1 := I2.pin pn (List.mem_append_left _ hpn)
  have hpin : L2H.PinOk X.stack (upd H1 (hp.objs.size + 1) (exo (hp.objs.size + 1) C none)) ⟨(hp.push (PySem.W.kdv_tup us)).push (PySem.HandSPX.excO C hp.objs.size), g, dr, tk, os⟩ pn :=
    ⟨P1.1, P1.2.1, fun hmm => (List.mem_cons.mp (I2.stkSub pn.1 hmm)).elim P1.2.2.1 P1.2.2.2.1, P1.2.2.2.2⟩
  refine wpAny_call (PySem.HandSPX.call_own T.ok.base (fun Y => rfl) (I1.kIn _ _ hC) (PySem.W.looks_findIn I1.kIn iC) (fun self => PySem.W.bind_fn I1.kIn self tI) hus
    (codeAny_mono (F1.run _ X.stack _ _ ⟨Value.ref (hp.objs.size + 1) :: us, []⟩ (Value.ref (hp.objs.size + 1) :: (us ++ ds)) _ _ (fun _ _ _ => False) pn (L2H.RoomH.make hr C us []) ⟨h1p.1, h1p.2⟩ hpin (I2.env0.make C us []) (hb _ (Value.ref (hp.objs.size + 1) :: us) I2.kIn hl) r2 hq) fun r s' hq' => ?_))
  cases r with
  | error er => exact hx pins σ _ _ er s' I2 hq'
  | ok fl =>
    cases fl with
    | ret u =>
      obtain ⟨v, H2, os2, bare2, un2, hok2, rv, ev, d, fs, ea, ed, hd1, q2⟩ := hq'
      subst ev
      obtain ⟨h2, g2, d2, t2, os'⟩ := s'
      obtain ⟨t0, G, J, kG, ge, hoe, na⟩ := mk_end0 (d2 := d2) (t2 := t2) I1 hsz kk un2 hok2 os2 bare2 ea ed hd1
      refine ⟨rv, ⟨hp.objs.size + 1, _, _, ⟨G, g2, d2, t2, os'⟩, _, .ref C, some d, rfl, J, kG, ge, hoe, ⟨rfl, rfl, fun vs hv => by cases hv; rfl⟩, rfl, rfl, na, rfl, bare2, raises_own T.exC T.tyC, q2⟩, fun a oe vs ea2 hg2 hd2 => ?_⟩
      cases ea2
      have hg3 : h2.get? (hp.objs.size + 1) = some oe := hg2
      rw [hoe] at hg3
      cases hg3
      cases hd2
      show (4 : Nat) < 6
      decide
    | next => exact False.elim hq'
    | brk => exact False.elim hq'
    | cont => exact False.elim hq'
end
/-- an error's __init__, run while another is handled -/
theorem FunD.okH {P : Program} {w : World} {K : PySem.W.Frag} {mg : Str → Option Value} {base : Heap} {CX : CXT} {x qual : Str} {params : Arguments} {body : List Stmt} {scope : Scope} {dvs : List V} {kws : List (Str × V)} {f : Addr} {fd : FuncData} {N ps : List Str} {k : Nat} {sp : Sp}
    (F : FunD K x qual params body scope dvs kws f fd) (Sc : FnScope N ps scope) (len : ∀ vs H Q E, sp vs H Q E → vs.length = ps.length)
    (hb : ∀ (cdv : Value) (A : Around) (outer : List Env) (s : Shared) (H : Hp) (vs : List V) (Q : VK) (E : XK) (q : Addr × Obj), L2H.Hot1 A q → L2H.RoomH k (A.deeper (PyProof.Rows.envOfC qual scope s.heap.objs.size f cdv)) → sp vs H Q E →
      ∃ t, PSs (L2H.cxH CX P w K mg base N qual scope f cdv A outer s H E q) body t ∧ t { nx := fun _ H' => Q .non H', rt := Q } (L2.start N vs) H) : L2H.FnH P w K mg base CX (k + 1) f fd ps sp := by
  obtain ⟨c0, d0, v1, v2, v3, v4, v5, v6, v7, sl, rfl, look, code, _, _⟩ := F.ex
  exact L2H.fn_ofH look code Sc len fun A outer s H vs Q E q h1 h2 h3 => hb v6 A outer s H vs Q E q h1 h2 h3
section
variable {X : Cx} {Γ : Fx}
/-- raise C(e) from None, where an error is handled -/
theorem ds_raiseNone {xc : DXC} {C f : Str} {t : DT} {k : Nat} {fd : FuncData} {ps : List Str} {e : Expr} {j : Nat} {p pos pos' cp : Pos} (hot : L2H.HotC X) (tk : Takes X (wX Γ X.K xc)) (Er : ErrC X.K C f) (G : L2H.FnH X.prog X.w X.K X.mg X.base CX0 k (He.ma X.K (He.ga X.K C) "__init__") fd ps (spInit X.K C f))
    (hr : L2H.RoomH (k + 1) X.A) (hb : Binds X.K fd ps []) (hm : X.mg C = some (.ref (He.ga X.K C))) (ha : DE X Γ e t) (hg : Gl X C := by rfl) (hdb : (C == ("__debug__" : Str)) = false := by decide)
    (he : starEach [e] X.env = (false, eval e X.env) :: starEach [] X.env := by rfl) (hpl : (backTo pos (starEach [] X.env)).any (·.1) = false := by rfl) : DS X Γ (.Raise (some (.Call (.Name C p) [e] [] pos)) (some (.Constant .none j cp)) pos') (dRaise xc C f t) :=
  ⟨fun tm => psLe (L2H.ps_raiseHN hot tk (pmk5_oexBH Er.oex.choose_spec Er.ini Er.tI G hr hot hb .nil pass0 hg hm (pa_cons (ha.run []) pa_nil he) hdb he hpl)) fun D σ H ⟨H0, ρ, De, F, t, E⟩ => ⟨H0, ρ, _, F, t, fun r ρ1 v H1 H' q F1 e1 rr => by
    obtain ⟨H2, F2, e2, r2⟩ := F1.freeze rr
    refine ⟨by simp, fun a hna => ⟨a, v, rfl, upd_same, fun dx hdx hne => ?_⟩⟩
    rw [upd_ne hne] at hdx
    refine ⟨rfl, dx, [(f, v)], upd_same, by rw [upd_ne hne, upd_same], hdx, ?_⟩
    have eH : upd (del (upd (upd (upd H' a (exo a (He.ga X.K C) none)) dx (exd dx [(f, v)])) a (exo a (He.ga X.K C) (some dx))) a) dx (.xd [(f, v)]) = upd H' dx (.xd [(f, v)]) := by
      funext b
      by_cases hb : b = dx
      · subst hb; rw [upd_same, upd_same]
      · rw [upd_ne hb, upd_ne hb]
        by_cases hba : b = a
        · subst hba; rw [del_same, hna]
        · rw [del_ne hba, upd_ne hba, upd_ne hb, upd_ne hba]
    rw [eH]
    exact ⟨H2, ρ1, C, f, r.d, dx, v, rfl, rfl, (F2.tmSub (tm' := []) (fun q z => by cases z)).allocX hdx, upd_same, F2.none0 hdx, F2.noneS hdx, r2, q⟩⟩⟩
/-- try: body except C: suite, the suite lets errors out -/
def dTryR (C : Str) (tb : DXC → DST) (th : DST) : DST := fun De ρ => tb (fun C' _ _ ρ' => C' = C ∧ th De ρ') De ρ
theorem ds_tryR {C : Str} {body suite : List Stmt} {b₀ : Stmt} {np pos pos' : Pos} {tb : DXC → DST} {th : DST} {xc : DXC} (ex : PySem.W.exmOne X.K (.ref (He.ga X.K C)) (.ref (He.ga X.K C)) = some true) (hm : X.mg C = some (.ref (He.ga X.K C))) (tk : Takes X (wX Γ X.K xc))
    (hpa : ∀ hd : Option Value, PassesOwnAt (model X.prog X.w) (X.A.mark hd) X.A X.env X.xe)
    (bd : ∀ (Γ : Fx) (pn : List (Addr × Obj)) (xe : Value → Shared → Prop) (xc : DXC), L2N.Takes (X.tr pn xe) (wX Γ X.K xc) → PassesOwn (model X.prog X.w) X.A X.env xe → DSs (X.tr pn xe) Γ body (tb xc))
    (hh : ∀ (a : Addr) (pn : List (Addr × Obj)), Takes (L2H.suiteX X a pn) (wX Γ X.K xc) → L2H.HotC (L2H.suiteX X a pn) → DSs (L2H.suiteX X a pn) Γ (b₀ :: suite) th) (hg : Gl X C := by rfl) (hdb : (C == ("__debug__" : Str)) = false := by decide)
    (stk : X.stack = X.env :: X.outer := by rfl) (fr : X.env.frame = some X.env.locals := by rfl) :
    DS X Γ (.Try body [.ExceptHandler (some (.Name C np)) none (b₀ :: suite) pos'] [] [] pos) (dTryR C tb th) := by
  refine ⟨fun _ => psLe (L2H.ps_try_onlyX stk fr ⟨hg, hdb, .inl hm⟩ hpa tk (tb := fun W D σ H => ∃ Γ' xc, (∀ c d σ H, wX Γ' X.K xc c d σ H → W c d σ H) ∧ LS (Γ'.at []) X.K (tb xc) D σ H) (ts := fun _ _ _ => LS (Γ.at []) X.K th) (fun W pn xe tn _ po => ⟨fun pins s σ H D I h => ?_⟩)
    (fun a oe cls d pn _ _ t2 hot => (hh a _ t2 hot).run [])) fun D σ H h => ?_⟩
  · obtain ⟨Γ', xc', hw, l⟩ := h
    exact ((bd Γ' pn xe xc' (L2N.Takes.imp tn hw) po).run []).run pins s σ H D I l
  · obtain ⟨H0, ρ, De, F, t, E⟩ := h
    refine ⟨Γ.re H0, _, fun c d σ1 Hx wx => ?_, H0, ρ, De, F.re, t, ?_⟩
    · obtain ⟨H1, ρ1, C', f', dd, e, v, rfl, rfl, F1, he, h1e, hse, rv, rfl, q⟩ := wx
      refine ⟨true, ex, fun _ a ha => ?_, fun z => by cases z⟩
      have F2 : Fit (Γ.at []) X.K H1 σ1 ρ1 Hx := Fit.un F F1
      exact ⟨H1, ρ1, De, F2, q, E.up F1.s0⟩
    · exact ⟨fun H1 σ1 ρ1 Hx q F1 e1 => E.nx H1 σ1 ρ1 Hx q (Fit.un F F1) e1, fun H1 σ1 ρ1 Hx v r q F1 e1 rr => E.rt H1 σ1 ρ1 Hx v r q (Fit.un F F1) e1 (RRet.un (Γ := Γ.at []) (H0 := H0) rr), fun H1 σ1 ρ1 Hx q F1 e1 => E.bk H1 σ1 ρ1 Hx q (Fit.un F F1) e1, fun H1 σ1 ρ1 Hx q F1 e1 => E.ct H1 σ1 ρ1 Hx q (Fit.un F F1) e1⟩
end
end DL

/-! DL100: an own thing made by keywords: C(e, k = v, ..). -/
namespace DL
open PySem L2
section
variable {X : Cx} {Γ : Fx} {msp : MSp} {ta tk : DAT} {xc : DXC} {C : Str}
def dMkOK (xc : DXC) (C : Str) (n m : Nat) (msp : MSp) (pm : List D → List D → List D) (ta tk : DAT) : DT := fun ρ R => ta ρ fun hs ρ1 => tk ρ1 fun gs ρ2 => hs.length = n ∧ gs.length = m ∧ match vals ρ2 hs, vals ρ2 gs with
  | some ds, some es => msp [] (pm ds es) (fun d fs' => d = .non ∧ ∀ p G, R (.x (.obj C fs') (p :: G)) ρ2) fun Cx f d _ => xc Cx f d ρ2
  | _, _ => False
end
section
variable {X : Cx} {Γ : Fx} {CX : CXT} {msp : MSp} {ta tk : DAT} {xc : DXC} {x : Str} {k n : Nat} {ps ks : List Str} {f : Addr} {fd : FuncData} {p pos : Pos} {e : Expr} {es : List Expr} {kws : List Keyword} {pm : List D → List D → List D}
end
end DL

/-! DL101: x[k].m(e), x a list of the frame's own that holds own lists, e of any sort. -/
namespace DL
open PySem L2
def cntO : List (D ⊕ List D) → Nat → Nat
  | _, 0 => 0
  | [], _ + 1 => 0
  | .inl _ :: r, k + 1 => cntO r k
  | .inr _ :: r, k + 1 => cntO r k + 1
/-- where the k-th one's cell stands -/
def posB (b : Bool) (F : List Addr) (its : List (D ⊕ List D)) (k : Nat) : Option Addr := match b with
  | true => F[cntO its k]?
  | false => F[cntO its k + 1]?
theorem IReps.pos {K : PySem.W.Frag} {H0 H : Hp} {es : List D} {q : Addr} : ∀ {vs : List V} {its : List (D ⊕ List D)} {F : List Addr} {k : Nat}, IReps K H0 H vs its F → its[k]? = some (.inr es) → vs[k]? = some (.ref q) → F[cntO its k]? = some q
  | _, _, _, k, .nil, h, _ => by cases h
  | _, _, _, 0, .dat r t, h, _ => by cases h
  | _, _, _, k + 1, .dat r t, h1, h2 => by
    rw [cntO]
    exact IReps.pos t (by simpa using h1) (by simpa using h2)
  | _, _, _, 0, .own h r t, h1, h2 => by cases h2; rfl
  | _, _, _, k + 1, .own h r t, h1, h2 => by
    rw [cntO, List.getElem?_cons_succ]
    exact IReps.pos t (by simpa using h1) (by simpa using h2)
def dBoxMG (i k : Nat) (f : MtF) (ta : DAT) : DT := fun ρ R => withB i ρ fun b its F => withI its k fun _ => ta ρ fun hs ρ1 => match vals ρ1 hs with
  | some as => withB i ρ1 fun b1 its1 F1 => posB b1 F1 its1 k = posB b F its k ∧ withI its1 k fun es => f es as fun d es' => R (.v d) (ρ1.set i (some (.x (.box b1 (its1.set k (.inr es'))) F1)))
  | none => False
section
variable {X : Cx} {Γ : Fx} {e o ix : Expr} {es : List Expr} {i k : Nat} {ta : DAT} {f : MtF} {name : Str} {apos cpos spos : Pos} {id : String} {r : V → List V → Hp → VK → Prop}
/-- x[k][j] -/
def dBoxIx (i k : Nat) (fop : D → D → (S → Prop) → Prop) (tb : DHT) : DT := fun ρ R => withB i ρ fun b its F => withI its k fun _ => tb ρ fun h ρ1 => withB i ρ1 fun b1 its1 F1 => posB b1 F1 its1 k = posB b F its k ∧ withI its1 k fun es => match h.get ρ1 with
  | some y => fop (.lst es) y fun r => R r ρ1
  | none => False
end
end DL

/-! DL102: a text in capitals, a tuple turned about, a displayed dict asked at once, a tuple == (), repr of any data. -/
namespace DL
open PySem PySem.Spec PyProof.Rows L2 GQ GQ2 GQ3 HT
section
variable {prog : Program} {w : World} {A : Around} {E : Value → Shared → Prop} {s : Shared}
end
section
variable {X : Cx} {Γ : Fx} {o e : Expr} {to : DT} {apos pos : Pos}
/-! ### t[::-1] of a tuple -/
def tRevT (K : PySem.W.Frag) (te : TE) : TE := fun σ H Q => te σ H fun x H1 => ∃ a xs, x = .ref a ∧ SqT K H1 a xs ∧ ∀ p, H1 p = none → Q (.ref p) (upd H1 p (.tup xs.reverse))
def dRevT (ta : DHT) : DT := fun ρ R => ta ρ fun a ρ1 => match a.get ρ1 with
  | some (.tup ds) => R (.v (.tup ds.reverse)) ρ1
  | _ => False
/-! ### a text's method without parts -/
def OpTm0 (X : Cx) (r : V → List V → Hp → VK → Prop) (f : Str → (S → Prop) → Prop) : Prop := ∀ (Γ : Fx) (H0 : Hp) (σ : L2.St) (ρ : Rho) (H : Hp) (z : Str) (R : S → Prop) (Q : VK), Fit Γ X.K H0 σ ρ H → f z R →
  (∀ s v H0' H', R s → Fit Γ X.K H0' σ ρ H' → Same H0 H0' → RRep Γ X.K H0' σ ρ H' v s → Q v H') → r (.str z) [] H Q
def dTm0 (f : Str → (S → Prop) → Prop) (to : DT) : DT := fun ρ R => to ρ fun r ρ1 => match r with
  | .v (.str z) => f z fun s => R s ρ1
  | _ => False
def upperD (z : Str) (R : S → Prop) : Prop := z.length ≤ 5592405 ∧ R (.v (.str (Txt.upper z)))
/-! ### {k: v, ..}[x] -/
def dDIx (ps : List (Str × DT)) (ty : DT) : DT := fun ρ R => dPairs ps ρ fun kvs ρ1 => ty ρ1 fun y ρ2 => match y with
  | .v (.str k) => (match getKd kvs k with
    | some d => R (.v d) ρ2
    | none => False)
  | _ => False
/-! ### t == () -/
def NoB : EqvB := fun _ _ _ _ => False
/-- a tuple is () -/
def eqED (a b : D) (R : S → Prop) : Prop := match a, b with
  | .tup as, .tup [] => R (.v (.bl as.isEmpty))
  | _, _ => False
/-! ### repr of any data -/
/-- repr(x), any x: of things of the class C by their own method -/
@[irreducible] def reprZD (C : Str) (sp : DSp) (tx : D → Str) : List D → (S → Prop) → Prop := fun as R => match as with
  | [.lst ds] => okX C sp tx (.lst ds) ∧ dpX (.lst ds) ≤ 8 ∧ (shX tx (.lst ds)).length ≤ sizeLine ∧ R (.v (.str (shX tx (.lst ds))))
  | [.tup ds] => okX C sp tx (.tup ds) ∧ dpX (.tup ds) ≤ 8 ∧ (shX tx (.tup ds)).length ≤ sizeLine ∧ R (.v (.str (shX tx (.tup ds))))
  | [.ins C' fs] => txD C sp (.ins C' fs) R
  | [.int i] => okX C sp tx (.int i) ∧ (shX tx (.int i)).length ≤ sizeLine ∧ R (.v (.str (shX tx (.int i))))
  | [.str x] => okX C sp tx (.str x) ∧ R (.v (.str (shX tx (.str x))))
  | [.bl b] => R (.v (.str (shX tx (.bl b))))
  | [.non] => R (.v (.str (shX tx .non)))
  | _ => False
def rReprZ (X : Cx) (C : Str) (sp : DSp) : List V → Hp → VK → Prop := fun xs H Q => (∃ v t, xs = [v] ∧ lfX v t ∧ t.length ≤ sizeLine ∧ Q (.str t) H) ∨ (∃ x, xs = [x] ∧ rTxI (He.ga X.K C) (LSp X.K sp) x H Q) ∨ rReprJ X (He.ga X.K C) (LSp X.K sp) xs H Q
/-! ### a truth added to, taken from; its text -/
def b01 (b : Bool) : Int := if b = true then 1 else 0
def rAddBI : R2 := fun x y H Q => ∃ (b : Bool) (j : Int), x = .bl b ∧ y = .int j ∧ Q (.int (b01 b + j)) H
def rSubBI : R2 := fun x y H Q => ∃ (b : Bool) (j : Int), x = .bl b ∧ y = .int j ∧ Q (.int (b01 b - j)) H
def rSubIB : R2 := fun x y H Q => ∃ (i : Int) (b : Bool), x = .int i ∧ y = .bl b ∧ Q (.int (i - b01 b)) H
def addBD : D → D → (S → Prop) → Prop
  | .bl b, .int j, R => R (.v (.int (b01 b + j)))
  | a, b, R => addD a b R
def subBD : D → D → (S → Prop) → Prop
  | .bl b, .int j, R => R (.v (.int (b01 b - j)))
  | .int i, .bl b, R => R (.v (.int (i - b01 b)))
  | a, b, R => subD a b R
def blT (b : Bool) : Str := if b = true then "True" else "False"
def rStrB : List V → Hp → VK → Prop := fun xs H Q => (∃ b : Bool, xs = [.bl b] ∧ Q (.str (blT b)) H) ∨ ∃ i, xs = [.int i] ∧ i.natAbs.log2 < 1920 ∧ Q (.str (toString i)) H
def strBD : List D → (S → Prop) → Prop
  | [.bl b], R => R (.v (.str (blT b)))
  | as, R => strD as R
/-! ### z in C, z not in C: C a dict of the module with text keys, z any text -/
def keysB (C : Str) (ks : List Str) (K : PySem.W.Frag) : Bool := match K.lookup (He.ga K C) with
  | some ⟨_, _, .dict es _, _⟩ => es.toList.all fun e => match e.key with
    | .str x _ => ks.contains x
    | _ => false
  | _ => false
def rKAny (K : PySem.W.Frag) (w : World) (neg : Bool) : R2 := fun x y H Q => ∃ p z r es n, x = .str z ∧ y = .ref p ∧ KDict K w p es n ∧ PySem.W.nsIn K p z = some r ∧ Q (.bl (if neg then !r.isSome else r.isSome)) H
def inTA (neg : Bool) (C : Str) (tbl : List (Str × D)) : D → D → (S → Prop) → Prop
  | .str z, .cls c, R => c = C ∧ R (.v (.bl (if neg then !(tabAt tbl z).isSome else (tabAt tbl z).isSome)))
  | _, _, _ => False
end
end DL

/-! DL103: zip of a tuple and a list. -/
namespace DL
open PySem L2 PyProof.Rows
/-- the tuple at a and the list at b, the items in new pairs -/
def ItzN (K : PySem.W.Frag) (a b : Addr) : It :=
  ⟨fun i H => ∃ (xs ys : List V) (x y : V), SqT K H a xs ∧ SqL K H b ys ∧ xs[i]? = some x ∧ ys[i]? = some y,
    fun i H v H' => ∃ T x y, v = .ref T ∧ H T = none ∧ H' = upd H T (.tup [x, y]) ∧ (∀ xs, SqT K H a xs → xs[i]? = some x) ∧ ∀ ys, SqL K H b ys → ys[i]? = some y,
    fun i H => ∃ xs ys : List V, SqT K H a xs ∧ SqL K H b ys ∧ i ≤ xs.length ∧ i ≤ ys.length ∧ (i = xs.length ∨ i = ys.length)⟩
def iZipN (K : PySem.W.Frag) (ta : TA) : TI := fun σ H R => ta σ H fun vs H1 => ∃ a b xs ys, vs = [.ref a, .ref b] ∧ SqT K H1 a xs ∧ SqL K H1 b ys ∧ R (ItzN K a b) H1
def diZipN (ta : DAT) : DIT := fun ρ R => ta ρ fun hs ρ1 => match vals ρ1 hs with
  | some [.tup ds, .lst es] => R (zipD ds es) ρ1
  | _ => False
end DL

/-! DL104: x(..), x a local that holds a function of the module. -/
namespace DL
open PySem PySem.Spec PyProof.Rows L2
section
variable {X : Cx} {Γ : Fx}
/-- a function that a local may hold -/
def FnV (X : Cx) (x : Str) (sp : DSp) : Prop := PySem.W.keepIn X.K (.ref (He.ga X.K x)) = true ∧ ∃ k ps fd, FnOk X.prog X.w X.K X.mg X.base (L2.CX X.prog X.w) k (He.ga X.K x) fd ps (LSp X.K sp) ∧ Room k X.A ∧ Binds X.K fd ps []
def spAt : List (Str × DSp) → Str → Option DSp
  | [], _ => none
  | (k, d) :: r, z => if k = z then some d else spAt r z
def tCallV (K : PySem.W.Frag) (tab : List (Str × DSp)) (i : Nat) (E : L2.St → XK) (t : TA) : TE := fun σ H Q => ∃ x sp, (x, sp) ∈ tab ∧ σ[i]? = some (some (.ref (He.ga K x))) ∧ tCallSD (LSp K sp) [] E t σ H Q
def dCallXV (xc : DXC) (tab : List (Str × DSp)) (i : Nat) (ta : DAT) : DT := fun ρ R => match ρ[i]? with
  | some (some (.v (.cls x))) => (match spAt tab x with
    | some sp => dCallX xc sp [] ta ρ R
    | none => False)
  | _ => False
end
end DL

/-! DL105: a tuple so many times. -/
namespace DL
open PySem PySem.Spec PyProof.Rows L2
def rRep1T (K : PySem.W.Frag) : R2 := fun x y H Q => ∃ l xs, x = .ref l ∧ y = .int 1 ∧ SqT K H l xs ∧ Q (.ref l) H
section
variable {X : Cx}
def mulTD : D → D → (S → Prop) → Prop
  | .tup ds, .int k, R => ds ≠ [] ∧ 1 ≤ k ∧ k ≤ 1000 ∧ ds.length ≤ 1000 ∧ R (.v (.tup (List.replicate k.toNat ds).flatten))
  | _, _, _ => False
end
end DL

/-! DL106: texts: find, partition, int(text). -/
namespace DL
open PySem PySem.Spec PyProof.Rows L2
def findD : Str → D → (S → Prop) → Prop
  | z, .str b, R => R (.v (.int (Txt.find z b)))
  | _, _, _ => False
def partD : Str → D → (S → Prop) → Prop
  | z, .str b, R => (b.length == 0) = false ∧ z.length ≤ sizeLine ∧ R (.v (.tup [.str (Txt.partition z b).1, .str (Txt.partition z b).2.1, .str (Txt.partition z b).2.2]))
  | _, _, _ => False
def intTD : List D → (S → Prop) → Prop
  | [.str z], R => z.length ≤ 640 ∧ ∃ n, PySem.intText? z = some n ∧ R (.v (.int n))
  | as, R => intD as R
section
variable {X : Cx}
theorem o_find : OpTm X (fun x xs H Q => ∃ a b, x = .str a ∧ xs = [.str b] ∧ Q (.int (Txt.find a b)) H) findD := by
  intro Γ H0 σ ρ H z y b R Q F r h k
  unfold findD at h
  split at h
  · cases r
    exact ⟨_, _, rfl, rfl, k _ _ H0 _ h F (Same.refl _) (Rep.int _)⟩
  · exact h.elim
theorem o_part : OpTm X (fun x xs H Q => ∃ a b, x = .str a ∧ xs = [.str b] ∧ (b.length == 0) = false ∧ a.length ≤ sizeLine ∧
    ∀ p, H p = none → Q (.ref p) (upd H p (.tup [.str (Txt.partition a b).1, .str (Txt.partition a b).2.1, .str (Txt.partition a b).2.2]))) partD := by
  intro Γ H0 σ ρ H z y b R Q F r h k
  unfold partD at h
  split at h
  · cases r
    obtain ⟨h1, h2, h3⟩ := h
    refine ⟨_, _, rfl, rfl, h1, h2, fun p hp => ?_⟩
    obtain ⟨F1, e1, r1⟩ := F.allocT hp (.cons (.str _) (.cons (.str _) (.cons (.str _) .nil)))
    exact k _ _ _ _ h3 F1 e1 r1
  · exact h.elim
theorem call_intA : CallR X (.type "int") (fun xs H Q => (∃ a n, xs = [.str a] ∧ PySem.intText? a = some n ∧ a.length ≤ 640 ∧ Q (.int n) H) ∨ ((∃ i, xs = [.int i] ∧ Q (.int i) H) ∨ ∃ k, xs = [.bl k] ∧ Q (.int (if k then 1 else 0)) H)) := by
  intro pins s σ H xs us Q I rs h
  rcases h with h | h
  · exact call_int_str pins s σ H xs us Q I rs h
  · exact call_int1 pins s σ H xs us Q I rs h
theorem o_intT : OpN X (fun xs H Q => (∃ a n, xs = [.str a] ∧ PySem.intText? a = some n ∧ a.length ≤ 640 ∧ Q (.int n) H) ∨ ((∃ i, xs = [.int i] ∧ Q (.int i) H) ∨ ∃ k, xs = [.bl k] ∧ Q (.int (if k then 1 else 0)) H)) intTD := by
  intro Γ H0 σ ρ H xs as R Q F t h k
  unfold intTD at h
  split at h
  · obtain ⟨v, rfl, t1⟩ := t.one
    have e := t1.strV
    subst e
    obtain ⟨h1, n, h2, h3⟩ := h
    exact .inl ⟨_, n, rfl, h2, h1, k _ _ H0 H h3 F (Same.refl _) (Rep.int _)⟩
  · exact .inr (o_int1 Γ H0 σ ρ H xs _ R Q F t h k)
end
end DL

/-! LB: what the laws share: the box, == of data, lists of ints. -/
namespace DL
open PySem L2
/-! ### the box -/
def BoxOk (n : Int) (ds : List D) : Prop := ∃ x y c : Int, ds = [.int x, .int y, .int c] ∧ 0 ≤ x ∧ 0 ≤ y ∧ y < 2 ^ 62 ∧ 0 ≤ c ∧ c ≤ n
theorem BoxOk.le {n m : Int} {ds : List D} (h : BoxOk n ds) (hl : n ≤ m) : BoxOk m ds := by
  obtain ⟨x, y, c, h1, h2, h3, h4, h5, h6⟩ := h
  exact ⟨x, y, c, h1, h2, h3, h4, h5, by omega⟩
def spTake : DSp := fun as R _ => ∃ (ds : List D) (many n : Int), as = [.m ds, .v (.int many)] ∧ BoxOk n ds ∧ n < 2 ^ 40 ∧ 0 < many ∧ many < 2 ^ 30 ∧ ∀ (r : Int) (ds' : List D), 0 ≤ r → r < many → BoxOk (n + 1) ds' → R (.v (.int r)) ds'
def spBox : DSp := fun as R _ => ∃ (ns : List Int) (k : Int), as = [.v (.rol (ns.map D.int)), .v (.int k)] ∧ 0 ≤ k ∧ k < 1000 ∧ ∀ ds, BoxOk 0 ds → R (.o ds) []
def spCellAt : DSp := fun as R _ => ∃ (ns : List Int) (k : Int), as = [.v (.rol (ns.map D.int)), .v (.int k)] ∧ 0 ≤ k ∧ k < 1000 ∧ ∀ c : Int, R (.v (.int c)) []
theorem box_ok (cell : Int) (i : Nat) (b : Bool) (hi : (i : Int) < 1000) : BoxOk 0 [.int ((if cell < 0 then -cell else cell) * (if b = true then 1 else 0)), .int (cell % 2305843009213693951 + 39373 * (i : Int) + 17), .int 0] := by
  have h1 := Int.emod_nonneg cell (show (2305843009213693951 : Int) ≠ 0 by decide)
  have h2 := Int.emod_lt_of_pos cell (show (0 : Int) < 2305843009213693951 by decide)
  refine ⟨_, _, _, rfl, ?_, by omega, by omega, by omega, by omega⟩
  refine Int.mul_nonneg ?_ ?_
  · split <;> omega
  · split <;> omega
/-! ### lists and tuples -/
def seqDs (b : Bool) (ds : List D) : D := if b then .lst ds else .tup ds
theorem atI_get {α : Type} {cs : List α} {i : Nat} {c : α} (h : cs[i]? = some c) : atI cs (i : Int) = some c := by
  have hi := (List.getElem?_eq_some_iff.mp h).1
  unfold atI ixN
  rw [if_pos (by omega), if_pos (by omega)]
  simpa using h
theorem atI_map {α β : Type} {f : α → β} {cs : List α} {i : Nat} {c : α} (h : cs[i]? = some c) : atI (cs.map f) (i : Int) = some (f c) := atI_get (by rw [List.getElem?_map, h]; rfl)
/-- (k, x), (k + 1, y), .. -/
def enD : Int → List D → List D
  | _, [] => []
  | k, d :: r => .tup [.int k, d] :: enD (k + 1) r
theorem ifb_f {b : Bool} {P Q : Prop} (h : b = false) (k : Q) : IfB b P Q := by
  subst h
  exact IfB.f k
theorem ifb_t {b : Bool} {P Q : Prop} (h : b = true) (k : P) : IfB b P Q := by
  subst h
  exact IfB.t k
/-! ### == -/
mutual
/-- data for which == is =: no truth values, no things of classes -/
def exD : D → Bool
  | .int _ => true
  | .str _ => true
  | .lst ds => exDs ds
  | .tup ds => exDs ds
  | .non => true
  | .bl _ => false
  | .rol _ => false
  | .ins _ _ => false
  | .exc _ _ _ => false
  | .ty _ => false
  | .cls _ => false
  | .adr _ => false
def exDs : List D → Bool
  | [] => true
  | d :: ds => exD d && exDs ds
end
mutual
theorem eqv_iff : ∀ (a b : D), exD a = true → exD b = true → (PyData.eqv (toP a) (toP b) = true ↔ a = b)
  | .int i, .int j, _, _ => by rw [toP, toP, PyData.eqv]; simp
  | .int i, .str j, _, _ => by rw [toP, toP, PyData.eqv]; simp
  | .int i, .lst j, _, _ => by rw [toP, toP, PyData.eqv]; simp
  | .int i, .tup j, _, _ => by rw [toP, toP, PyData.eqv]; simp
  | .int i, .non, _, _ => by rw [toP, toP, PyData.eqv]; simp
  | .str i, .int j, _, _ => by rw [toP, toP, PyData.eqv]; simp
  | .str i, .str j, _, _ => by rw [toP, toP, PyData.eqv]; simp
  | .str i, .lst j, _, _ => by rw [toP, toP, PyData.eqv]; simp
  | .str i, .tup j, _, _ => by rw [toP, toP, PyData.eqv]; simp
  | .str i, .non, _, _ => by rw [toP, toP, PyData.eqv]; simp
  | .lst i, .int j, _, _ => by rw [toP, toP, PyData.eqv]; simp
  | .lst i, .str j, _, _ => by rw [toP, toP, PyData.eqv]; simp
  | .lst i, .lst j, h1, h2 => by rw [toP, toP, PyData.eqv, eqvs_iff i j (by rw [exD] at h1; exact h1) (by rw [exD] at h2; exact h2)]; simp
  | .lst i, .tup j, _, _ => by rw [toP, toP, PyData.eqv]; simp
  | .lst i, .non, _, _ => by rw [toP, toP, PyData.eqv]; simp
  | .tup i, .int j, _, _ => by rw [toP, toP, PyData.eqv]; simp
  | .tup i, .str j, _, _ => by rw [toP, toP, PyData.eqv]; simp
  | .tup i, .lst j, _, _ => by rw [toP, toP, PyData.eqv]; simp
  | .tup i, .tup j, h1, h2 => by rw [toP, toP, PyData.eqv, eqvs_iff i j (by rw [exD] at h1; exact h1) (by rw [exD] at h2; exact h2)]; simp
  | .tup i, .non, _, _ => by rw [toP, toP, PyData.eqv]; simp
  | .non, .int j, _, _ => by rw [toP, toP, PyData.eqv]; simp
  | .non, .str j, _, _ => by rw [toP, toP, PyData.eqv]; simp
  | .non, .lst j, _, _ => by rw [toP, toP, PyData.eqv]; simp
  | .non, .tup j, _, _ => by rw [toP, toP, PyData.eqv]; simp
  | .non, .non, _, _ => by rw [toP, PyData.eqv]; simp
  | .bl _, _, h, _ => by rw [exD] at h; cases h
  | .rol _, _, h, _ => by rw [exD] at h; cases h
  | .ins _ _, _, h, _ => by rw [exD] at h; cases h
  | .exc _ _ _, _, h, _ => by rw [exD] at h; cases h
  | .ty _, _, h, _ => by rw [exD] at h; cases h
  | .cls _, _, h, _ => by rw [exD] at h; cases h
  | .adr _, _, h, _ => by rw [exD] at h; cases h
  | _, .bl _, _, h => by rw [exD] at h; cases h
  | _, .rol _, _, h => by rw [exD] at h; cases h
  | _, .ins _ _, _, h => by rw [exD] at h; cases h
  | _, .exc _ _ _, _, h => by rw [exD] at h; cases h
  | _, .ty _, _, h => by rw [exD] at h; cases h
  | _, .cls _, _, h => by rw [exD] at h; cases h
  | _, .adr _, _, h => by rw [exD] at h; cases h
theorem eqvs_iff : ∀ (a b : List D), exDs a = true → exDs b = true → (PyData.eqvAll (toPs a) (toPs b) = true ↔ a = b)
  | [], [], _, _ => by rw [toPs, PyData.eqvAll]; simp
  | [], _ :: _, _, _ => by rw [toPs, toPs, PyData.eqvAll]; simp
  | _ :: _, [], _, _ => by rw [toPs, toPs, PyData.eqvAll]; simp
  | x :: xs, y :: ys, h1, h2 => by
    rw [exDs, Bool.and_eq_true] at h1 h2
    rw [toPs, toPs, PyData.eqvAll, Bool.and_eq_true, eqv_iff x y h1.1 h2.1, eqvs_iff xs ys h1.2 h2.2]
    simp
end
theorem deqv_same {a : D} (ha : exD a = true) : deqv a a = true := (eqv_iff a a ha ha).mpr rfl
theorem deqv_int (i j : Int) : deqv (.int i) (.int j) = decide (i = j) := by
  show (i == j) = decide (i = j)
  rw [Bool.beq_eq_decide_eq]
theorem deqv_refl (i : Int) : deqv (.int i) (.int i) = true := by rw [deqv_int]; simp
mutual
/-- how deep lists and tuples lie; none where == may not be asked -/
def okN : Nat → D → Bool
  | _, .int _ => true
  | _, .bl _ => true
  | _, .non => true
  | _, .str x => PyData.canLay0 (.str x)
  | n + 1, .lst ds => okNs n ds
  | n + 1, .tup ds => okNs n ds
  | n + 1, .rol ds => okNs n ds
  | _, _ => false
def okNs : Nat → List D → Bool
  | _, [] => true
  | n, d :: ds => okN n d && okNs n ds
end
mutual
theorem okN_ok : ∀ (n : Nat) (d : D), okN n d = true → plainD d = true ∧ PyData.canLay0 (toP d) = true ∧ PyData.depth (toP d) ≤ n
  | n, .int _, _ => by rw [plainD, toP, PyData.canLay0, PyData.depth]; simp
  | n, .bl _, _ => by rw [plainD, toP, PyData.canLay0, PyData.depth]; simp
  | n, .non, _ => by rw [plainD, toP, PyData.canLay0, PyData.depth]; simp
  | n, .str x, h => by rw [okN] at h; rw [plainD, toP, PyData.depth]; exact ⟨rfl, h, by omega⟩
  | n + 1, .lst ds, h => by
    rw [okN] at h
    obtain ⟨h1, h2, h3⟩ := okNs_ok n ds h
    rw [plainD, toP, PyData.canLay0, PyData.depth]
    exact ⟨h1, h2, by omega⟩
  | n + 1, .tup ds, h => by
    rw [okN] at h
    obtain ⟨h1, h2, h3⟩ := okNs_ok n ds h
    rw [plainD, toP, PyData.canLay0, PyData.depth]
    exact ⟨h1, h2, by omega⟩
  | n + 1, .rol ds, h => by
    rw [okN] at h
    obtain ⟨h1, h2, h3⟩ := okNs_ok n ds h
    rw [plainD, toP, PyData.canLay0, PyData.depth]
    exact ⟨h1, h2, by omega⟩
  | 0, .lst ds, h => by rw [okN] at h <;> first | cases h | simp
  | 0, .tup ds, h => by rw [okN] at h <;> first | cases h | simp
  | 0, .rol ds, h => by rw [okN] at h <;> first | cases h | simp
  | n, .ins _ _, h => by cases n <;> simp [okN] at h
  | n, .exc _ _ _, h => by cases n <;> simp [okN] at h
  | n, .ty _, h => by cases n <;> simp [okN] at h
  | n, .cls _, h => by cases n <;> simp [okN] at h
  | n, .adr _, h => by cases n <;> simp [okN] at h
theorem okNs_ok : ∀ (n : Nat) (ds : List D), okNs n ds = true → plainDs ds = true ∧ PyData.canLayAll0 (toPs ds) = true ∧ PyData.depthAll (toPs ds) ≤ n
  | n, [], _ => by rw [plainDs, toPs, PyData.canLayAll0, PyData.depthAll]; simp
  | n, d :: ds, h => by
    rw [okNs, Bool.and_eq_true] at h
    obtain ⟨h1, h2, h3⟩ := okN_ok n d h.1
    obtain ⟨g1, g2, g3⟩ := okNs_ok n ds h.2
    rw [plainDs, toPs, PyData.canLayAll0, PyData.depthAll, h1, h2, g1, g2]
    exact ⟨rfl, rfl, by omega⟩
end
theorem okD_of {n : Nat} {d : D} (h : okN n d = true) (hn : n ≤ 64) : okD d = true := by
  obtain ⟨h1, h2, h3⟩ := okN_ok n d h
  unfold okD SeqAt.shaped
  rw [h1, h2, decide_eq_true (by omega)]
  rfl
theorem okNs_map {α : Type} {n : Nat} {f : α → D} (h : ∀ a, okN n (f a) = true) : ∀ l : List α, okNs n (l.map f) = true
  | [] => by rw [List.map_nil, okNs]
  | a :: l => by rw [List.map_cons, okNs, h a, okNs_map h l]; rfl
theorem ok_int (n : Nat) (i : Int) : okN n (.int i) = true := by cases n <;> rfl
theorem ok_ints (n : Nat) (ns : List Int) : okNs n (ns.map D.int) = true := okNs_map (ok_int n) ns
theorem okD_ints (ns : List Int) : okD (.lst (ns.map D.int)) = true := okD_of (n := 1) (by rw [okN]; exact ok_ints 0 ns) (by decide)
theorem imm_ints (ns : List Int) : immL (ns.map D.int) = true := by
  induction ns with
  | nil => rfl
  | cons n r ih => rw [List.map_cons, immL, ih]; rfl
theorem bls_rep : ∀ n : Nat, blsOf (List.replicate n (.bl true)) = some (List.replicate n true)
  | 0 => rfl
  | n + 1 => by rw [List.replicate_succ, List.replicate_succ, blsOf, bls_rep n]
theorem all_rep (n : Nat) : (List.replicate n true).all id = true := by simp
/-! ### alike -/
/-- ints and None, lists and tuples of such, to this depth -/
def leafI (d : D) : Prop := (∃ i, d = .int i) ∨ d = .non
def goodI : Nat → D → Prop
  | 0, d => leafI d
  | n + 1, d => leafI d ∨ ∃ ds, (d = .lst ds ∨ d = .tup ds) ∧ ds.length ≤ 100000 ∧ ∀ x ∈ ds, goodI n x
def spSame (n : Nat) : DSp := fun as R _ => ∃ d, as = [.v d, .v d] ∧ goodI n d ∧ R (.v (.bl true)) []
def spSameR : Nat → DSp
  | 0 => fun _ _ _ => False
  | n + 1 => spSame n
end DL

/-! PL: places as data: fields, what is refused, promises of the program's defs about places. -/
namespace PL
open PySem L2 DL
def oi : Option Int → D
  | none => .non
  | some i => .int i
def plD (l la b e : D) : D := .ins "Place" [("line", l), ("last", la), ("begin", b), ("end", e)]
/-- a place without columns -/
def lnD : Option Int → D
  | none => plD .non .non .non .non
  | some i => plD (.int i) (.int i) .non .non
def lastB : Option Int → Option Int → Bool
  | _, none => true
  | none, some _ => false
  | some l, some la => decide (l ≤ la) && decide (la ≤ if l + 99 < 1000000 then l + 99 else 1000000)
def oneB : Option Int → Option Int → Bool
  | _, none => true
  | none, some _ => false
  | some l, some la => decide (la = l)
def beginB (l la : Option Int) : Option Int → Bool
  | none => oneB l la
  | some c => l.isSome && (decide (0 ≤ c) && decide (c ≤ 10000))
def endB (l la : Option Int) : Option Int → Option Int → Bool
  | none, none => true
  | some c, some f => decide ((if oneB l la then c else 0) ≤ f) && decide (f ≤ 10000)
  | _, _ => false
def lineB : Option Int → Bool
  | none => true
  | some l => decide (1 ≤ l) && decide (l ≤ 1000000)
/-- the part that is refused -/
def badP (l la b e : Option Int) : Option Str :=
  if lineB l = false then some "line" else if lastB l la = false then some "last" else if beginB l la b = false then some "begin" else if endB l la b e = false then some "end" else none
def lstD (l la : Option Int) : Option Int := match la with
  | none => l
  | some x => some x
def spIsNumber : DSp := fun as R _ => ∃ i : Int, as = [.v (.int i)] ∧ R (.v (.bl true)) []
def spIsBetween : DSp := fun as R _ => ∃ i lo hi : Int, as = [.v (.int i), .v (.int lo), .v (.int hi)] ∧ R (.v (.bl (decide (lo ≤ i) && decide (i ≤ hi)))) []
def spIsColumn : DSp := fun as R _ => ∃ i lo : Int, as = [.v (.int i), .v (.int lo)] ∧ R (.v (.bl (decide (lo ≤ i) && decide (i ≤ 10000)))) []
def spIsLast : DSp := fun as R _ => ∃ l la : Option Int, as = [.v (oi l), .v (oi la)] ∧ R (.v (.bl (lastB l la))) []
def spIsBegin : DSp := fun as R _ => ∃ l la b : Option Int, as = [.v (oi l), .v (oi la), .v (oi b)] ∧ R (.v (.bl (beginB l la b))) []
def spIsEnd : DSp := fun as R _ => ∃ l la b e : Option Int, as = [.v (oi l), .v (oi la), .v (oi b), .v (oi e)] ∧ R (.v (.bl (endB l la b e))) []
def spPlace : DSp := fun as R RX => ∃ l la b e : Option Int, as = [.v (oi l), .v (oi la), .v (oi b), .v (oi e)] ∧ (badP l la b e = none → R (.v (plD (oi l) (oi (lstD l la)) (oi b) (oi e))) []) ∧ ∀ p, badP l la b e = some p → RX "BadPlace" "part" (.str p) []
theorem outM_v : ∀ (ds : List D) (ρ : Rho), outM (ds.map S.v) ρ = []
  | [], ρ => by cases ρ <;> rfl
  | d :: r, [] => rfl
  | d :: r, _ :: ρ => outM_v r ρ
theorem cut_from {α : Type} (xs : List α) {r : Int} (h : 0 ≤ r) : cutD xs (some r) none = xs.drop r.toNat := by
  unfold cutD
  simp only [HT.sIx]
  rw [if_neg (by omega)]
  by_cases h : r.toNat ≤ xs.length
  · rw [show min r.toNat xs.length = r.toNat by omega, List.take_of_length_le (by rw [List.length_drop]; omega)]
  · rw [show min r.toNat xs.length = xs.length by omega, List.drop_length, List.drop_of_length_le (by omega)]
    simp
theorem _root_.DL.BoxOk.imm {n : Int} {ds : List D} (h : BoxOk n ds) : immL ds = true := by
  obtain ⟨x, y, c, rfl, _⟩ := h
  rfl
end PL

/-! TX: texts: how long, which signs. -/
namespace DL
open PySem L2
/-- how long a number's text is -/
theorem txtI_len {i : Int} {k : Nat} (hk : 0 < k) (h : i.natAbs < 10 ^ k) : (txtI i).length ≤ k + 1 := by
  have := int_text_length_le10 hk h
  show (Str.ofString _).length ≤ _
  rw [ofString_length]
  exact this
theorem str_len (a b : Str) : (a ++ b).length = a.length + b.length := strLen_append a b
theorem str_e (a : Str) : Str.empty ++ a = a := by
  show Str.append Str.empty a = a
  simp [Str.append, Str.empty]
theorem strok_of (s : String) : PyData.strOk (Str.ofString s) = true := by
  unfold PyData.strOk
  rw [Str.ofString_eq_toList]
  rw [Array.all_eq_true]
  intro i hi
  simp only [List.getElem_toArray, List.getElem_map, decide_eq_true_eq]
  have := (s.toList[i]'(by simpa using hi)).valid
  show (s.toList[i]'(by simpa using hi)).val.toNat < _
  rcases this with h | h
  · have h : (s.toList[i]'(by simpa using hi)).val.toNat < _ := h
    omega
  · have h2 : (s.toList[i]'(by simpa using hi)).val.toNat < _ := h.2
    omega
theorem strok_app {a b : Str} (h1 : PyData.strOk a = true) (h2 : PyData.strOk b = true) : PyData.strOk (a ++ b) = true := by
  unfold PyData.strOk at *
  show (Array.all (a.cps ++ b.cps) _) = true
  rw [Array.all_append, h1, h2]; rfl
theorem okN_str {x : Str} (n : Nat) (h : PyData.strOk x = true) : okN n (.str x) = true := by
  cases n <;> (rw [okN]; exact h)
theorem strok_txt (i : Int) : PyData.strOk (txtI i) = true := strok_of _
end DL

/-! EN: entries, spots, what a row of entries leads to. -/
namespace EN
open PySem L2 DL PL
inductive Spot where
  | no | at (l la : Int) (c : Option (Int × Int))
deriving DecidableEq
namespace Spot
def d : Spot → D
  | no => .tup [.non, .non, .non, .non]
  | .at l la none => .tup [.int l, .int la, .non, .non]
  | .at l la (some (b, e)) => .tup [.int l, .int la, .int b, .int e]
def p : Spot → D
  | no => plD .non .non .non .non
  | .at l la none => plD (.int l) (.int la) .non .non
  | .at l la (some (b, e)) => plD (.int l) (.int la) (.int b) (.int e)
def mv (s : Spot) (k : Int) : Spot := match s with
  | no => no
  | .at l la c => .at (l + k) (la + k) c
def fits : Spot → Bool
  | no => true
  | .at l la _ => decide (1 ≤ l) && decide (la ≤ 1000000)
def ok : Spot → Prop
  | no => True
  | .at l la none => 1 ≤ l ∧ l ≤ 1000000 ∧ la = l
  | .at l la (some (b, e)) => 1 ≤ l ∧ l ≤ la ∧ la ≤ l + 99 ∧ la ≤ 1000000 ∧ 0 ≤ b ∧ b ≤ 10000 ∧ 0 ≤ e ∧ e ≤ 10000 ∧ (la = l → b ≤ e)
def isAt : Spot → Bool
  | no => false
  | _ => true
end Spot
inductive En where
  | none (m : Nat) | same (m : Nat) | next (m : Nat) | line (m : Nat) (s : Int) | part (m : Nat) (s b w : Int) | long (m : Nat) (s x b e : Int) | copy (m back : Nat) (k : Int)
namespace En
def d : En → D
  | none m => .tup [.str "none", .int m]
  | same m => .tup [.str "same", .int m]
  | next m => .tup [.str "next", .int m]
  | line m s => .tup [.str "line", .int m, .int s]
  | part m s b w => .tup [.str "part", .int m, .int s, .int b, .int w]
  | long m s x b e => .tup [.str "long", .int m, .int s, .int x, .int b, .int e]
  | copy m back k => .tup [.str "copy", .int m, .int back, .int k]
def m : En → Nat
  | none m => m
  | same m => m
  | next m => m
  | line m _ => m
  | part m _ _ _ => m
  | long m _ _ _ _ => m
  | copy m _ _ => m
def ok : En → Prop
  | none m => 1 ≤ m ∧ m ≤ 16
  | same m => 1 ≤ m ∧ m ≤ 16
  | next m => 1 ≤ m ∧ m ≤ 16
  | line m _ => 1 ≤ m ∧ m ≤ 16
  | part m _ b w => (1 ≤ m ∧ m ≤ 16) ∧ 0 ≤ b ∧ b ≤ 10000 ∧ 0 ≤ w
  | long m _ x b e => (1 ≤ m ∧ m ≤ 16) ∧ 1 ≤ x ∧ x ≤ 99 ∧ 0 ≤ b ∧ b ≤ 10000 ∧ 0 ≤ e ∧ e ≤ 10000
  | copy m back _ => (1 ≤ m ∧ m ≤ 16) ∧ 1 ≤ back
end En
/-- the line ahead behind some spots -/
def aheadF : List Spot → Int → Int
  | [], a => a
  | .no :: r, a => aheadF r a
  | .at l _ _ :: r, _ => aheadF r l
def lineOk (l la : Int) : Bool := decide (1 ≤ l) && decide (la ≤ 1000000)
def spotE (a : Int) : En → Option Spot
  | .next _ => if lineOk (a + 1) (a + 1) then some (.at (a + 1) (a + 1) none) else none
  | .line _ s => if lineOk (a + s) (a + s) then some (.at (a + s) (a + s) none) else none
  | .part _ s b w => if lineOk (a + s) (a + s) && decide (b + w ≤ 10000) then some (.at (a + s) (a + s) (some (b, b + w))) else none
  | .long _ s x b e => if lineOk (a + s) (a + s + x) then some (.at (a + s) (a + s + x) (some (b, e))) else none
  | _ => none
def cpGo (back : Nat) (k : Int) : Nat → List Spot → List Spot
  | 0, row => row
  | n + 1, row => cpGo back k n (row ++ [((row[row.length - back]?).getD .no).mv k])
def stepE (found : List Spot) (a : Int) : En → Option (List Spot)
  | .none m => some (List.replicate m .no)
  | .same m => match found.getLast? with
    | some s => some (List.replicate m s)
    | none => none
  | .copy m back k => if found.length < back then none else if ((cpGo back k m found).drop found.length).all Spot.fits then some ((cpGo back k m found).drop found.length) else none
  | e => match spotE a e with
    | some s => some (List.replicate e.m s)
    | none => none
def walkN (start : Int) : List Spot → Nat → List En → Nat ⊕ List Spot
  | found, _, [] => .inr found
  | found, n, e :: r => match stepE found (aheadF found start) e with
    | none => .inl n
    | some t => walkN start (found ++ t) (n + 1) r
/-- a list, or None -/
def resP : Option (List Spot) → S
  | none => .v .non
  | some t => .o (t.map Spot.p)
def Spot.opt : Option Spot → D
  | none => .non
  | some s => s.p
/-! ### lemmas -/
def allOk (fs : List Spot) : Prop := ∀ s ∈ fs, s.ok
end EN

/-! LB2: alike, with texts and truths. -/
namespace DL
open PySem L2
def leafV (d : D) : Prop := (∃ i, d = .int i) ∨ d = .non ∨ (∃ b, d = .bl b) ∨ ∃ x, d = .str x ∧ okN 0 (.str x) = true
def goodV : Nat → D → Prop
  | 0, d => leafV d
  | n + 1, d => leafV d ∨ ∃ ds, (d = .lst ds ∨ d = .tup ds) ∧ ds.length ≤ 100000 ∧ ∀ x ∈ ds, goodV n x
def spSameV (n : Nat) : DSp := fun as R _ => ∃ d, as = [.v d, .v d] ∧ goodV n d ∧ R (.v (.bl true)) []
def spSameVR : Nat → DSp
  | 0 => fun _ _ _ => False
  | n + 1 => spSameV n
theorem goodV_leaf (n : Nat) {d : D} (h : leafV d) : goodV n d := by
  cases n with
  | zero => exact h
  | succ n => exact .inl h
theorem deqv_str (x : Str) : deqv (.str x) (.str x) = true := deqv_same (by rw [exD])
theorem deqv_bl (b : Bool) : deqv (.bl b) (.bl b) = true := by cases b <;> rfl
end DL

/-! promises: texts of places -/
namespace K05
open PySem L2 DL PL EN TL
def sp_l_cell_at : DSp := spCellAt
def sp_l_box : DSp := spBox
def sp_l_take : DSp := spTake
abbrev sp_is_number : DSp := spIsNumber
abbrev sp_is_between : DSp := spIsBetween
abbrev sp_is_line : DSp := spIsBetween
abbrev sp_is_column : DSp := spIsColumn
abbrev sp_is_last : DSp := spIsLast
abbrev sp_is_begin : DSp := spIsBegin
abbrev sp_is_end : DSp := spIsEnd
abbrev sp_Place_init : DSp := spPlace
/-- a place's text -/
def strS : Spot → Str
  | .no => "-"
  | .at l _ none => txtI l
  | .at l la (some (b, e)) => if la = l then txtI l ++ "." ++ txtI b ++ "-" ++ txtI e else txtI l ++ "." ++ txtI b ++ "-" ++ txtI la ++ "." ++ txtI e
def sp_Place_str : DSp := fun as R _ => ∃ s : Spot, as = [.v s.p] ∧ s.ok ∧ R (.v (.str (strS s))) []
def txtOk (z : Str) : Prop := z.length ≤ 600 ∧ ∀ c ∈ z.cps.toList, c < 1114112
/-- a text taken apart at its first sign of a sort -/
def cutC (c : Nat) : List Nat → Option (List Nat × List Nat)
  | [] => none
  | a :: l => if a = c then some ([], l) else (cutC c l).map fun x => (a :: x.1, x.2)
/-- the number that plain figures write, so many at most -/
def numI (m : Nat) (l : List Nat) : Option Int := if l.length ≤ m ∧ l ≠ [] ∧ (∀ c ∈ l, 48 ≤ c ∧ c ≤ 57) ∧ (l.head? ≠ some 48 ∨ l = [48]) then some ((NumText.digitsVal l : Nat) : Int) else none
/-- the four numbers as the program finds them -/
def numsO (l : List Nat) : Option (Option Int × Option Int × Option Int × Option Int) := match cutC 46 l with
  | none => some (numI 7 l, none, none, none)
  | some (lo, rest) => match cutC 45 rest with
    | none => none
    | some (le, back) => if (numI 7 le).isNone = true then none else match cutC 46 back with
      | none => some (numI 7 lo, none, numI 7 le, numI 7 back)
      | some (hi, ri) => if (numI 7 hi).isNone = true then none else some (numI 7 lo, numI 7 hi, numI 7 le, numI 7 ri)
def numsD : Option (Option Int × Option Int × Option Int × Option Int) → D
  | none => .non
  | some (a, b, c, d) => .tup [oi a, oi b, oi c, oi d]
/-- the place that a text writes -/
def rd (l : List Nat) : Option Spot :=
  if l = [45] then some .no else
  match cutC 46 l with
  | none => (numI 8 l).bind fun n => if 1 ≤ n ∧ n ≤ 1000000 then some (.at n n none) else none
  | some (lo, rest) => match cutC 45 rest with
    | none => none
    | some (le, back) => (numI 8 lo).bind fun a => (numI 8 le).bind fun b => if 1 ≤ a ∧ a ≤ 1000000 ∧ 0 ≤ b ∧ b ≤ 10000 then (match cutC 46 back with
       | none => (numI 8 back).bind fun e => if b ≤ e ∧ e ≤ 10000 then some (.at a a (some (b, e))) else none
       | some (hi, ri) => (numI 8 hi).bind fun h => (numI 8 ri).bind fun e => if a + 1 ≤ h ∧ h ≤ a + 99 ∧ h ≤ 1000000 ∧ 0 ≤ e ∧ e ≤ 10000 then some (.at a h (some (b, e))) else none) else none
def spoO : Option Spot → D
  | none => .non
  | some s => s.d
def fsS : Spot → List D
  | .no => [.non, .non, .non, .non]
  | .at l la none => [.int l, .int la, .non, .non]
  | .at l la (some (b, e)) => [.int l, .int la, .int b, .int e]
def dueO (z : Str) : Option Spot → D
  | none => .str "refused"
  | some s => .tup (fsS s ++ [.str z])
def sp_figures_in : DSp := fun as R _ => ∃ z : Str, as = [.v (.str z), .v (.int 7)] ∧ txtOk z ∧ R (.v (oi (numI 7 (tl z)))) []
def sp_number_in : DSp := fun as R _ => ∃ z : Str, as = [.v (.str z)] ∧ txtOk z ∧ R (.v (oi (numI 7 (tl z)))) []
def sp_l_number : DSp := fun as R _ => ∃ z : Str, as = [.v (.str z)] ∧ txtOk z ∧ R (.v (oi (numI 8 (tl z)))) []
def winO : Option Int → Int → Int → Bool
  | none, _, _ => false
  | some n, lo, hi => decide (lo ≤ n) && decide (n ≤ hi)
def sp_l_within : DSp := fun as R _ => ∃ (o : Option Int) (lo hi : Int), as = [.v (oi o), .v (.int lo), .v (.int hi)] ∧ R (.v (.bl (winO o lo hi))) []
def sp_numbers_in : DSp := fun as R _ => ∃ z : Str, as = [.v (.str z)] ∧ txtOk z ∧ R (.v (numsD (numsO (tl z)))) []
def sp_place_in : DSp := fun as R RX => ∃ z : Str, as = [.v (.str z)] ∧ txtOk z ∧ (∀ s, rd (tl z) = some s → R (.v s.p) []) ∧ (rd (tl z) = none → RX "BadText" "text" (.str z) [])
def sp_l_read : DSp := fun as R _ => ∃ z : Str, as = [.v (.str z)] ∧ txtOk z ∧ R (.v (spoO (rd (tl z)))) []
def sp_l_text : DSp := fun as R _ => ∃ s : Spot, as = [.v s.d] ∧ s.ok ∧ R (.v (.str (strS s))) []
def sp_l_seen : DSp := fun as R _ => ∃ s : Spot, as = [.v s.p] ∧ R (.v (.tup (fsS s))) []
def sp_l_alone : DSp := fun as R _ => ∃ d : D, as = [.v (.exc "BadText" "text" d), .v (.int 1)] ∧ R (.v (.bl true)) []
def sp_l_spot : DSp := fun as R _ => ∃ (ds : List D) (n w : Int), as = [.m ds, .v (.int w)] ∧ BoxOk n ds ∧ n < 2 ^ 30 ∧ 1 ≤ w ∧ w ≤ 1000000 ∧ ∀ (s : Spot) ds', s.ok → BoxOk (n + 10) ds' → R (.v s.d) ds'
def sp_l_bent : DSp := fun as R _ => ∃ (ds : List D) (n : Int) (z : Str), as = [.m ds, .v (.str z)] ∧ BoxOk n ds ∧ n < 2 ^ 30 ∧ txtOk z ∧ z.length ≤ 500 ∧ ∀ (z' : Str) ds', z'.length ≤ z.length + 3 → txtOk z' → BoxOk (n + 3) ds' → R (.v (.str z')) ds'
def sp_l_told : DSp := fun as R _ => ∃ (ds : List D) (n : Int) (z : Str), as = [.m ds, .v (.str z)] ∧ BoxOk n ds ∧ n < 2 ^ 30 ∧ txtOk z ∧ ∀ ds', BoxOk (n + 1) ds' → R (.v (dueO z (rd (tl z)))) ds'
abbrev spR_l_same := spSameVR
abbrev sp_l_same : DSp := spSameV 3
def sp_law : DSp := fun as R _ => ∃ ns : List Int, as = [.v (.rol (ns.map D.int))] ∧ ns.length ≤ 63 ∧ R (.v (.bl true)) []
theorem sp_law_ok : ∀ ns : List Int, ns.length ≤ 63 → sp_law [.v (.rol (ns.map D.int))] (fun r _ => r = .v (.bl true)) fun _ _ _ _ => False := fun ns hl => ⟨ns, rfl, hl, rfl⟩
end K05

/-! the text by places, the readings: printed by gen.py -/
namespace K05
open PySem L2 DL
def topS (i : Nat) : Stmt := PySem.Challenge.pw_cardlines_k05_texts_of_places_spoilt.main.body.getD i (.Pass ⟨0, 0, 0, 0⟩)
abbrev s_l_cell_at : Stmt := topS 34
abbrev N_l_cell_at : List Str := ["_law_script", "_law_k"]
theorem sc_l_cell_at : FnScope N_l_cell_at ["_law_script", "_law_k"] (defScope s_l_cell_at) := ⟨rfl, rfl, rfl, by decide +kernel, rfl, by decide +kernel, by decide +kernel⟩
abbrev s_l_box : Stmt := topS 35
abbrev N_l_box : List Str := ["_law_script", "_law_k", "_law_cell"]
theorem sc_l_box : FnScope N_l_box ["_law_script", "_law_k"] (defScope s_l_box) := ⟨rfl, rfl, rfl, by decide +kernel, rfl, by decide +kernel, by decide +kernel⟩
abbrev s_l_text : Stmt := topS 41
abbrev N_l_text : List Str := ["_law_spot_here", "_law_low", "_law_high", "_law_left", "_law_right"]
theorem sc_l_text : FnScope N_l_text ["_law_spot_here"] (defScope s_l_text) := ⟨rfl, rfl, rfl, by decide +kernel, rfl, by decide +kernel, by decide +kernel⟩
abbrev s_l_number : Stmt := topS 42
abbrev N_l_number : List Str := ["_law_words", "_law_sign"]
theorem sc_l_number : FnScope N_l_number ["_law_words"] (defScope s_l_number) := ⟨rfl, rfl, rfl, by decide +kernel, rfl, by decide +kernel, by decide +kernel⟩
abbrev s_l_within : Stmt := topS 43
abbrev N_l_within : List Str := ["_law_number_here", "_law_low", "_law_high"]
theorem sc_l_within : FnScope N_l_within ["_law_number_here", "_law_low", "_law_high"] (defScope s_l_within) := ⟨rfl, rfl, rfl, by decide +kernel, rfl, by decide +kernel, by decide +kernel⟩
abbrev s_l_read : Stmt := topS 44
abbrev N_l_read : List Str := ["_law_words", "_law_point", "_law_stroke", "_law_number_here", "_law_low", "_law_back", "_law_left", "_law_behind", "_law_right", "_law_high"]
theorem sc_l_read : FnScope N_l_read ["_law_words"] (defScope s_l_read) := ⟨rfl, rfl, rfl, by decide +kernel, rfl, by decide +kernel, by decide +kernel⟩
abbrev s_l_take : Stmt := topS 36
abbrev N_l_take : List Str := ["_law_box_here", "_law_many", "_law_found", "_law_once", "_law_twice"]
theorem sc_l_take : FnScope N_l_take ["_law_box_here", "_law_many"] (defScope s_l_take) := ⟨rfl, rfl, rfl, by decide +kernel, rfl, by decide +kernel, by decide +kernel⟩
abbrev s_l_spot : Stmt := topS 37
abbrev N_l_spot : List Str := ["_law_box_here", "_law_wide", "_law_way", "_law_first", "_law_left", "_law_below"]
theorem sc_l_spot : FnScope N_l_spot ["_law_box_here", "_law_wide"] (defScope s_l_spot) := ⟨rfl, rfl, rfl, by decide +kernel, rfl, by decide +kernel, by decide +kernel⟩
abbrev s_l_bent : Stmt := topS 45
abbrev N_l_bent : List Str := ["_law_box_here", "_law_words", "_law_some", "_law_at", "_law_way", "_law_sign"]
theorem sc_l_bent : FnScope N_l_bent ["_law_box_here", "_law_words"] (defScope s_l_bent) := ⟨rfl, rfl, rfl, by decide +kernel, rfl, by decide +kernel, by decide +kernel⟩
abbrev s_l_same : Stmt := topS 38
abbrev N_l_same : List Str := ["_law_found", "_law_due", "_law_one", "_law_two"]
theorem sc_l_same : FnScope N_l_same ["_law_found", "_law_due"] (defScope s_l_same) := ⟨rfl, rfl, rfl, by decide +kernel, rfl, by decide +kernel, by decide +kernel⟩
abbrev s_Place_str : Stmt := (inCls (topS 26)).getD 3 (.Pass ⟨0, 0, 0, 0⟩)
abbrev N_Place_str : List Str := ["self"]
theorem sc_Place_str : FnScope N_Place_str ["self"] (defScope s_Place_str) := ⟨rfl, rfl, rfl, by decide +kernel, rfl, by decide +kernel, by decide +kernel⟩
abbrev s_figures_in : Stmt := topS 16
abbrev N_figures_in : List Str := ["text", "most", "sign"]
theorem sc_figures_in : FnScope N_figures_in ["text", "most"] (defScope s_figures_in) := ⟨rfl, rfl, rfl, by decide +kernel, rfl, by decide +kernel, by decide +kernel⟩
abbrev s_number_in : Stmt := topS 30
abbrev N_number_in : List Str := ["text"]
theorem sc_number_in : FnScope N_number_in ["text"] (defScope s_number_in) := ⟨rfl, rfl, rfl, by decide +kernel, rfl, by decide +kernel, by decide +kernel⟩
abbrev s_numbers_in : Stmt := topS 31
abbrev N_numbers_in : List Str := ["text", "head", "dot", "rest", "left", "minus", "right", "below", "point", "end"]
theorem sc_numbers_in : FnScope N_numbers_in ["text"] (defScope s_numbers_in) := ⟨rfl, rfl, rfl, by decide +kernel, rfl, by decide +kernel, by decide +kernel⟩
abbrev s_is_number : Stmt := topS 14
abbrev N_is_number : List Str := ["thing"]
theorem sc_is_number : FnScope N_is_number ["thing"] (defScope s_is_number) := ⟨rfl, rfl, rfl, by decide +kernel, rfl, by decide +kernel, by decide +kernel⟩
abbrev s_is_between : Stmt := topS 15
abbrev N_is_between : List Str := ["thing", "low", "high"]
theorem sc_is_between : FnScope N_is_between ["thing", "low", "high"] (defScope s_is_between) := ⟨rfl, rfl, rfl, by decide +kernel, rfl, by decide +kernel, by decide +kernel⟩
abbrev s_is_line : Stmt := topS 21
abbrev N_is_line : List Str := ["thing", "least", "most"]
theorem sc_is_line : FnScope N_is_line ["thing", "least", "most"] (defScope s_is_line) := ⟨rfl, rfl, rfl, by decide +kernel, rfl, by decide +kernel, by decide +kernel⟩
abbrev s_is_last : Stmt := topS 23
abbrev N_is_last : List Str := ["line", "last"]
theorem sc_is_last : FnScope N_is_last ["line", "last"] (defScope s_is_last) := ⟨rfl, rfl, rfl, by decide +kernel, rfl, by decide +kernel, by decide +kernel⟩
abbrev s_is_column : Stmt := topS 22
abbrev N_is_column : List Str := ["thing", "least"]
theorem sc_is_column : FnScope N_is_column ["thing", "least"] (defScope s_is_column) := ⟨rfl, rfl, rfl, by decide +kernel, rfl, by decide +kernel, by decide +kernel⟩
abbrev s_is_begin : Stmt := topS 24
abbrev N_is_begin : List Str := ["line", "last", "begin"]
theorem sc_is_begin : FnScope N_is_begin ["line", "last", "begin"] (defScope s_is_begin) := ⟨rfl, rfl, rfl, by decide +kernel, rfl, by decide +kernel, by decide +kernel⟩
abbrev s_is_end : Stmt := topS 25
abbrev N_is_end : List Str := ["line", "last", "begin", "end", "one"]
theorem sc_is_end : FnScope N_is_end ["line", "last", "begin", "end"] (defScope s_is_end) := ⟨rfl, rfl, rfl, by decide +kernel, rfl, by decide +kernel, by decide +kernel⟩
abbrev s_Place_init : Stmt := (inCls (topS 26)).getD 0 (.Pass ⟨0, 0, 0, 0⟩)
abbrev N_Place_init : List Str := ["self", "line", "last", "begin", "end"]
theorem sc_Place_init : FnScope N_Place_init ["self", "line", "last", "begin", "end"] (defScope s_Place_init) := ⟨rfl, rfl, rfl, by decide +kernel, rfl, by decide +kernel, by decide +kernel⟩
abbrev s_place_in : Stmt := topS 32
abbrev N_place_in : List Str := ["text", "numbers", "place"]
theorem sc_place_in : FnScope N_place_in ["text"] (defScope s_place_in) := ⟨rfl, rfl, rfl, by decide +kernel, rfl, by decide +kernel, by decide +kernel⟩
abbrev s_l_seen : Stmt := topS 39
abbrev N_l_seen : List Str := ["_law_place"]
theorem sc_l_seen : FnScope N_l_seen ["_law_place"] (defScope s_l_seen) := ⟨rfl, rfl, rfl, by decide +kernel, rfl, by decide +kernel, by decide +kernel⟩
abbrev s_l_alone : Stmt := topS 40
abbrev N_l_alone : List Str := ["_law_error", "_law_own", "_law_some"]
theorem sc_l_alone : FnScope N_l_alone ["_law_error", "_law_own"] (defScope s_l_alone) := ⟨rfl, rfl, rfl, by decide +kernel, rfl, by decide +kernel, by decide +kernel⟩
abbrev s_l_told : Stmt := topS 46
abbrev N_l_told : List Str := ["_law_box_here", "_law_words", "_law_caught", "_law_found", "_law_error"]
theorem sc_l_told : FnScope N_l_told ["_law_box_here", "_law_words"] (defScope s_l_told) := ⟨rfl, rfl, rfl, by decide +kernel, rfl, by decide +kernel, by decide +kernel⟩
abbrev s_law : Stmt := topS 47
abbrev N_law : List Str := ["_law_script", "_law_k", "_law_box_here", "_law_turn", "_law_words", "_law_step", "_law_spot_here"]
theorem sc_law : FnScope N_law ["_law_script"] (defScope s_law) := ⟨rfl, rfl, rfl, by decide +kernel, rfl, by decide +kernel, by decide +kernel⟩
-- no tables
def t_l_cell_at : DST := (dSeq (dIfS (dTest (dBin ltD (dhV 1) (dhE (dCB lenD (daCons (dhV 0) daNil))))) (dRet (dBin ixD (dhV 0) (dhV 1))) dNext)
    (dRet (dC (.int 0))))
def t_l_box : DST := (dSeq (dAsg (dFz (dCall sp_l_cell_at [] (daCons (dhV 0) (daCons (dhV 1) daNil)))) (gN 2))
    (dRet (dLst (daCons (dhE (dBin mulD (dhE (dCB absD (daCons (dhV 2) daNil))) (dhE (dCB intD (daCons (dhE (dBin geD (dhE (dCB absD (daCons (dhV 2) daNil))) (dhE (dBin powD (dhE (dC (.int 10))) (dhE (dC (.int 18))))))) daNil))))) (daCons (dhE (dBin addD (dhE (dBin addD (dhE (dBin modD (dhV 2) (dhE (dC (.int 2305843009213693951))))) (dhE (dBin mulD (dhE (dC (.int 39373))) (dhV 1))))) (dhE (dC (.int 17))))) (daCons (dhE (dC (.int 0))) daNil))))))
def t_l_text : DST := (dSeq (dAsg (dV 0) (gU (gsCons (gN 1) (gsCons (gN 2) (gsCons (gN 3) (gsCons (gN 4) gsNil))))))
    (dSeq (dIfS (dTest (dBin isND (dhV 1) (dhE (dC .non)))) (dRet (dC (.str "-"))) dNext)
    (dSeq (dIfS (dTest (dBin isND (dhV 3) (dhE (dC .non)))) (dRet (dCB strD (daCons (dhV 1) daNil))) dNext)
    (dSeq (dIfS (dTest (dBin eqD (dhV 1) (dhV 2))) (dRet (dBin addD (dhE (dBin addD (dhE (dBin addD (dhE (dBin addD (dhE (dCB strD (daCons (dhV 1) daNil))) (dhE (dC (.str "."))))) (dhE (dCB strD (daCons (dhV 3) daNil))))) (dhE (dC (.str "-"))))) (dhE (dCB strD (daCons (dhV 4) daNil))))) dNext)
    (dRet (dBin addD (dhE (dBin addD (dhE (dBin addD (dhE (dBin addD (dhE (dBin addD (dhE (dBin addD (dhE (dCB strD (daCons (dhV 1) daNil))) (dhE (dC (.str "."))))) (dhE (dCB strD (daCons (dhV 3) daNil))))) (dhE (dC (.str "-"))))) (dhE (dCB strD (daCons (dhV 2) daNil))))) (dhE (dC (.str "."))))) (dhE (dCB strD (daCons (dhV 4) daNil)))))))))
def t_l_number_E1 : DT := (dBin (inSg false) (dhV 1) (dhE (dC (.str "0123456789"))))
def t_l_number : DST := (dSeq (dIfS (dtOr (dtNot (dTest (dChain ltD ltD (dhE (dC (.int 0))) (dhE (dCB lenD (daCons (dhV 0) daNil))) (dhE (dC (.int 9)))))) (dtNot (dTru (dhE (dCB allD (daCons (dhE (dLc (diSeq (dV 0)) (gN 1) dYes t_l_number_E1 [1])) daNil)))))) (dRet (dC .non)) dNext)
    (dRet (dIf (dtOr (dTest (dBin eqD (dhV 0) (dhE (dC (.str "0"))))) (dTest (dBin neD (dhE (dBin ixD (dhV 0) (dhE (dC (.int 0))))) (dhE (dC (.str "0")))))) (dCB intTD (daCons (dhV 0) daNil)) (dC .non))))
def t_l_within : DST := (dRet (dAnd (dBin notND (dhV 0) (dhE (dC .non))) (dChain leD leD (dhV 1) (dhV 0) (dhV 2))))
def t_l_read : DST := (dSeq (dParO [1, 2] (doCons (dFz (dTm findD (dV 0) (dC (.str ".")))) (doCons (dFz (dTm findD (dV 0) (dC (.str "-")))) doNil)))
    (dSeq (dIfS (dTest (dBin eqD (dhV 0) (dhE (dC (.str "-"))))) (dRet (dFz (dTup (daCons (dhE (dC .non)) (daCons (dhE (dC .non)) (daCons (dhE (dC .non)) (daCons (dhE (dC .non)) daNil))))))) dNext)
    (dSeq (dIfS (dTest (dBin ltD (dhV 1) (dhE (dC (.int 0))))) (dSeq (dAsg (dFz (dCall sp_l_number [] (daCons (dhV 0) daNil))) (gN 3))
    (dRet (dFz (dIf (dTru (dhE (dCall sp_l_within [] (daCons (dhV 3) (daCons (dhE (dC (.int 1))) (daCons (dhE (dBin powD (dhE (dC (.int 10))) (dhE (dC (.int 6))))) daNil)))))) (dTup (daCons (dhE (dV 3)) (daCons (dhE (dV 3)) (daCons (dhE (dC .non)) (daCons (dhE (dC .non)) daNil))))) (dC .non))))) dNext)
    (dSeq (dParO [4, 5] (doCons (dFz (dCall sp_l_number [] (daCons (dhE (dSl (dhV 0) dpN (dpE (dhV 1)))) daNil))) (doCons (dFz (dSl (dhV 0) (dpE (dhE (dBin addD (dhV 2) (dhE (dC (.int 1)))))) dpN)) doNil)))
    (dSeq (dAsg (dFz (dCall sp_l_number [] (daCons (dhE (dSl (dhV 0) (dpE (dhE (dBin addD (dhV 1) (dhE (dC (.int 1)))))) (dpE (dhE (dCB max2D (daCons (dhE (dC (.int 0))) (daCons (dhV 2) daNil))))))) daNil))) (gN 6))
    (dSeq (dIfS (dtOr (dTest (dBin ltD (dhV 2) (dhV 1))) (dtOr (dtNot (dTru (dhE (dCall sp_l_within [] (daCons (dhV 4) (daCons (dhE (dC (.int 1))) (daCons (dhE (dBin powD (dhE (dC (.int 10))) (dhE (dC (.int 6))))) daNil))))))) (dtNot (dTru (dhE (dCall sp_l_within [] (daCons (dhV 6) (daCons (dhE (dC (.int 0))) (daCons (dhE (dBin powD (dhE (dC (.int 10))) (dhE (dC (.int 4))))) daNil))))))))) (dRet (dFz (dC .non))) dNext)
    (dSeq (dAsg (dFz (dTm findD (dV 5) (dC (.str ".")))) (gN 7))
    (dSeq (dIfS (dTest (dBin ltD (dhV 7) (dhE (dC (.int 0))))) (dSeq (dAsg (dFz (dCall sp_l_number [] (daCons (dhV 5) daNil))) (gN 8))
    (dRet (dFz (dIf (dTru (dhE (dCall sp_l_within [] (daCons (dhV 8) (daCons (dhV 6) (daCons (dhE (dBin powD (dhE (dC (.int 10))) (dhE (dC (.int 4))))) daNil)))))) (dTup (daCons (dhE (dV 4)) (daCons (dhE (dV 4)) (daCons (dhE (dV 6)) (daCons (dhE (dV 8)) daNil))))) (dC .non))))) dNext)
    (dSeq (dParO [9, 8] (doCons (dFz (dCall sp_l_number [] (daCons (dhE (dSl (dhV 5) dpN (dpE (dhV 7)))) daNil))) (doCons (dFz (dCall sp_l_number [] (daCons (dhE (dSl (dhV 5) (dpE (dhE (dBin addD (dhV 7) (dhE (dC (.int 1)))))) dpN)) daNil))) doNil)))
    (dSeq (dIfS (dtOr (dtNot (dTru (dhE (dCall sp_l_within [] (daCons (dhV 9) (daCons (dhE (dBin addD (dhV 4) (dhE (dC (.int 1))))) (daCons (dhE (dCB min2D (daCons (dhE (dBin powD (dhE (dC (.int 10))) (dhE (dC (.int 6))))) (daCons (dhE (dBin addD (dhV 4) (dhE (dC (.int 99))))) daNil)))) daNil))))))) (dtNot (dTru (dhE (dCall sp_l_within [] (daCons (dhV 8) (daCons (dhE (dC (.int 0))) (daCons (dhE (dBin powD (dhE (dC (.int 10))) (dhE (dC (.int 4))))) daNil)))))))) (dRet (dFz (dC .non))) dNext)
    (dRet (dFz (dTup (daCons (dhE (dV 4)) (daCons (dhE (dV 9)) (daCons (dhE (dV 6)) (daCons (dhE (dV 8)) daNil)))))))))))))))))
def t_l_take : DST := (dSeq (dIfS (dTest (dBin gtD (dhE (dBin ixD (dhV 0) (dhE (dC (.int 0))))) (dhE (dC (.int 0))))) (dSeq (dAsg (dFz (dBin modD (dhE (dBin ixD (dhV 0) (dhE (dC (.int 0))))) (dhV 1))) (gN 2))
    (dSeq (dSetI 0 (dhE (dC (.int 0))) (dBin fdivD (dhE (dBin ixD (dhV 0) (dhE (dC (.int 0))))) (dhV 1)))
    (dRetV 2))) dNext)
    (dSeq (dSetI 0 (dhE (dC (.int 2))) (dBin addD (dhE (dBin ixD (dhV 0) (dhE (dC (.int 2))))) (dhE (dC (.int 1)))))
    (dSeq (dAsg (dFz (dBin modD (dhE (dBin mulD (dhE (dBin addD (dhE (dBin ixD (dhV 0) (dhE (dC (.int 1))))) (dhE (dBin mulD (dhE (dC (.int 48271))) (dhE (dBin ixD (dhV 0) (dhE (dC (.int 2))))))))) (dhE (dBin addD (dhE (dC (.int 39373))) (dhE (dBin ixD (dhV 0) (dhE (dC (.int 2))))))))) (dhE (dC (.int 2147483647))))) (gN 3))
    (dSeq (dAsg (dFz (dBin modD (dhE (dBin mulD (dhE (dBin addD (dhE (dBin addD (dhV 3) (dhE (dBin ixD (dhV 0) (dhE (dC (.int 2))))))) (dhE (dBin fdivD (dhE (dBin ixD (dhV 0) (dhE (dC (.int 1))))) (dhE (dC (.int 1000003))))))) (dhE (dBin addD (dhE (dBin modD (dhV 3) (dhE (dC (.int 40009))))) (dhE (dC (.int 7))))))) (dhE (dC (.int 2147483629))))) (gN 4))
    (dRet (dBin modD (dhE (dBin fdivD (dhE (dBin modD (dhE (dBin addD (dhE (dBin mulD (dhV 4) (dhE (dC (.int 48271))))) (dhV 3))) (dhE (dC (.int 2147483587))))) (dhE (dC (.int 64))))) (dhV 1)))))))
def t_l_spot : DST := (dSeq (dParO [2, 3] (doCons (dFz (dCallN 0 sp_l_take [] (daCons (dhV 0) (daCons (dhE (dC (.int 6))) daNil)))) (doCons (dFz (dBin addD (dhE (dC (.int 1))) (dhE (dCallN 0 sp_l_take [] (daCons (dhV 0) (daCons (dhV 1) daNil)))))) doNil)))
    (dSeq (dIfS (dTest (dBin eqD (dhV 2) (dhE (dC (.int 0))))) (dRet (dTup (daCons (dhE (dC .non)) (daCons (dhE (dC .non)) (daCons (dhE (dC .non)) (daCons (dhE (dC .non)) daNil)))))) dNext)
    (dSeq (dIfS (dTest (dBin ltD (dhV 2) (dhE (dC (.int 3))))) (dRet (dTup (daCons (dhE (dV 3)) (daCons (dhE (dV 3)) (daCons (dhE (dC .non)) (daCons (dhE (dC .non)) daNil)))))) dNext)
    (dSeq (dAsg (dFz (dCallN 0 sp_l_take [] (daCons (dhV 0) (daCons (dhE (dBin ixD (dhE (dLst (daCons (dhE (dC (.int 4))) (daCons (dhE (dC (.int 60))) (daCons (dhE (dBin addD (dhE (dBin powD (dhE (dC (.int 10))) (dhE (dC (.int 4))))) (dhE (dC (.int 1))))) daNil))))) (dhE (dCallN 0 sp_l_take [] (daCons (dhV 0) (daCons (dhE (dC (.int 3))) daNil)))))) daNil)))) (gN 4))
    (dSeq (dIfS (dTest (dBin ltD (dhV 2) (dhE (dC (.int 5))))) (dRet (dTup (daCons (dhE (dV 3)) (daCons (dhE (dV 3)) (daCons (dhE (dV 4)) (daCons (dhE (dCB min2D (daCons (dhE (dBin powD (dhE (dC (.int 10))) (dhE (dC (.int 4))))) (daCons (dhE (dBin addD (dhV 4) (dhE (dCallN 0 sp_l_take [] (daCons (dhV 0) (daCons (dhE (dBin ixD (dhE (dLst (daCons (dhE (dC (.int 3))) (daCons (dhE (dC (.int 80))) (daCons (dhE (dBin powD (dhE (dC (.int 10))) (dhE (dC (.int 4))))) daNil))))) (dhE (dCallN 0 sp_l_take [] (daCons (dhV 0) (daCons (dhE (dC (.int 3))) daNil)))))) daNil)))))) daNil)))) daNil)))))) dNext)
    (dSeq (dAsg (dFz (dCB min2D (daCons (dhE (dBin powD (dhE (dC (.int 10))) (dhE (dC (.int 6))))) (daCons (dhE (dBin addD (dhE (dBin addD (dhV 3) (dhE (dC (.int 1))))) (dhE (dCallN 0 sp_l_take [] (daCons (dhV 0) (daCons (dhE (dBin ixD (dhE (dLst (daCons (dhE (dC (.int 2))) (daCons (dhE (dC (.int 99))) daNil)))) (dhE (dCallN 0 sp_l_take [] (daCons (dhV 0) (daCons (dhE (dC (.int 2))) daNil)))))) daNil)))))) daNil)))) (gN 5))
    (dSeq (dIfS (dTest (dBin eqD (dhV 5) (dhV 3))) (dRet (dTup (daCons (dhE (dV 3)) (daCons (dhE (dV 3)) (daCons (dhE (dC .non)) (daCons (dhE (dC .non)) daNil)))))) dNext)
    (dRet (dTup (daCons (dhE (dV 3)) (daCons (dhE (dV 5)) (daCons (dhE (dV 4)) (daCons (dhE (dCallN 0 sp_l_take [] (daCons (dhV 0) (daCons (dhE (dBin ixD (dhE (dLst (daCons (dhE (dC (.int 4))) (daCons (dhE (dC (.int 60))) (daCons (dhE (dBin addD (dhE (dBin powD (dhE (dC (.int 10))) (dhE (dC (.int 4))))) (dhE (dC (.int 1))))) daNil))))) (dhE (dCallN 0 sp_l_take [] (daCons (dhV 0) (daCons (dhE (dC (.int 3))) daNil)))))) daNil)))) daNil)))))))))))))
def t_l_bent : DST := (dSeq (dAsg (dFz (dC (.str "0123456789....----01290123456789.-abcXYZ \n!\"#$&'()*+,/:;<=>?\x40[\\]^_`{|}~dW"))) (gN 2))
    (dSeq (dParO [3, 4, 5] (doCons (dFz (dCallN 0 sp_l_take [] (daCons (dhV 0) (daCons (dhE (dBin addD (dhE (dCB lenD (daCons (dhV 1) daNil))) (dhE (dC (.int 1))))) daNil)))) (doCons (dFz (dCallN 0 sp_l_take [] (daCons (dhV 0) (daCons (dhE (dC (.int 8))) daNil)))) (doCons (dFz (dBin ixD (dhV 2) (dhE (dCallN 0 sp_l_take [] (daCons (dhV 0) (daCons (dhE (dCB lenD (daCons (dhV 2) daNil))) daNil)))))) doNil))))
    (dSeq (dIfS (dTest (dBin ltD (dhV 4) (dhE (dC (.int 4))))) (dRet (dFz (dBin addD (dhE (dSl (dhV 1) dpN (dpE (dhV 3)))) (dhE (dBin ixD (dhE (dLst (daCons (dhE (dBin addD (dhV 5) (dhE (dSl (dhV 1) (dpE (dhV 3)) dpN)))) (daCons (dhE (dSl (dhV 1) (dpE (dhE (dBin addD (dhV 3) (dhE (dC (.int 1)))))) dpN)) (daCons (dhE (dBin addD (dhV 5) (dhE (dSl (dhV 1) (dpE (dhE (dBin addD (dhV 3) (dhE (dC (.int 1)))))) dpN)))) (daCons (dhE (dBin addD (dhE (dBin mulSD (dhV 5) (dhE (dC (.int 2))))) (dhE (dSl (dhV 1) (dpE (dhV 3)) dpN)))) daNil)))))) (dhV 4)))))) dNext)
    (dSeq (dIfS (dTest (dBin eqD (dhV 4) (dhE (dC (.int 4))))) (dRet (dFz (dBin addD (dhE (dBin addD (dhE (dSl (dhV 1) dpN (dpE (dhV 3)))) (dhE (dRevS (dSl (dhV 1) (dpE (dhV 3)) (dpE (dhE (dBin addD (dhV 3) (dhE (dC (.int 2))))))))))) (dhE (dSl (dhV 1) (dpE (dhE (dBin addD (dhV 3) (dhE (dC (.int 2)))))) dpN))))) dNext)
    (dSeq (dIfS (dTest (dBin eqD (dhV 4) (dhE (dC (.int 5))))) (dRet (dFz (dBin addD (dhE (dBin addD (dhE (dSl (dhV 1) dpN (dpE (dhV 3)))) (dhE (dSl (dhV 1) (dpE (dhV 3)) (dpE (dhE (dBin addD (dhV 3) (dhE (dC (.int 3)))))))))) (dhE (dSl (dhV 1) (dpE (dhV 3)) dpN))))) dNext)
    (dRet (dFz (dBin ixD (dhE (dLst (daCons (dhE (dRevS (dV 1))) (daCons (dhE (dBin addD (dhE (dSl (dhV 1) (dpE (dhV 3)) dpN)) (dhE (dSl (dhV 1) dpN (dpE (dhV 3)))))) daNil)))) (dhE (dBin subD (dhV 4) (dhE (dC (.int 6)))))))))))))
def t_l_same_E1 (sp_self : DSp) : DT := (dCall sp_self [] (daCons (dhV 2) (daCons (dhV 3) daNil)))
def t_l_same (sp_self : DSp) : DST := (dSeq (dIfS (dTru (dhE (dUn (isiTD [.list, .tuple]) (dhV 1)))) (dSeq (dIfS (dtOr (dTest (dBin neD (dhE (dCB isiD (daCons (dhV 0) (daCons (dhE (dC (.ty .list))) daNil)))) (dhE (dCB isiD (daCons (dhV 1) (daCons (dhE (dC (.ty .list))) daNil)))))) (dTest (dBin neD (dhE (dCB isiD (daCons (dhV 0) (daCons (dhE (dC (.ty .tuple))) daNil)))) (dhE (dCB isiD (daCons (dhV 1) (daCons (dhE (dC (.ty .tuple))) daNil))))))) (dRet (dC (.bl false))) dNext)
    (dRet (dAnd (dBin eqD (dhE (dCB lenD (daCons (dhV 0) daNil))) (dhE (dCB lenD (daCons (dhV 1) daNil)))) (dCB allD (daCons (dhE (dLc (diZip (daCons (dhE (dV 0)) (daCons (dhE (dV 1)) daNil))) (gU (gsCons (gN 2) (gsCons (gN 3) gsNil))) dYes (t_l_same_E1 sp_self) [2, 3])) daNil))))) dNext)
    (dSeq (dIfS (dtOr (dTest (dBin isND (dhV 1) (dhE (dC .non)))) (dTru (dhE (dCB isiD (daCons (dhV 1) (daCons (dhE (dC (.ty .str))) daNil)))))) (dRet (dAnd (dBin eqD (dhE (dCB isiD (daCons (dhV 0) (daCons (dhE (dC (.ty .str))) daNil)))) (dhE (dCB isiD (daCons (dhV 1) (daCons (dhE (dC (.ty .str))) daNil))))) (dBin eqD (dhV 0) (dhV 1)))) dNext)
    (dRet (dAnd (dCB isiD (daCons (dhV 0) (daCons (dhE (dC (.ty .int))) daNil))) (dAnd (dBin eqD (dhE (dCB isiD (daCons (dhV 0) (daCons (dhE (dC (.ty .bool))) daNil)))) (dhE (dCB isiD (daCons (dhV 1) (daCons (dhE (dC (.ty .bool))) daNil))))) (dBin eqD (dhV 0) (dhV 1)))))))
def t_Place_str : DST := (dSeq (dIfS (dTest (dBin isND (dhE (dFld "Place" "line" (dhV 0))) (dhE (dC .non)))) (dRet (dC (.str "-"))) dNext)
    (dSeq (dIfS (dTest (dBin isND (dhE (dFld "Place" "begin" (dhV 0))) (dhE (dC .non)))) (dRet (dCB strD (daCons (dhE (dFld "Place" "line" (dhV 0))) daNil))) dNext)
    (dSeq (dIfS (dTest (dBin eqD (dhE (dFld "Place" "last" (dhV 0))) (dhE (dFld "Place" "line" (dhV 0))))) (dRet (dJoin [(dFmt (dhE (dFld "Place" "line" (dhV 0)))), (dC (.str ".")), (dFmt (dhE (dFld "Place" "begin" (dhV 0)))), (dC (.str "-")), (dFmt (dhE (dFld "Place" "end" (dhV 0))))])) dNext)
    (dRet (dJoin [(dFmt (dhE (dFld "Place" "line" (dhV 0)))), (dC (.str ".")), (dFmt (dhE (dFld "Place" "begin" (dhV 0)))), (dC (.str "-")), (dFmt (dhE (dFld "Place" "last" (dhV 0)))), (dC (.str ".")), (dFmt (dhE (dFld "Place" "end" (dhV 0))))])))))
def t_figures_in_E1 : DT := (dBin (inSg false) (dhV 2) (dhE (dC (.str "0123456789"))))
def t_figures_in : DST := (dSeq (dIfS (dtOr (dtNot (dTest (dChain leD leD (dhE (dC (.int 1))) (dhE (dCB lenD (daCons (dhV 0) daNil))) (dhV 1)))) (dtNot (dTru (dhE (dCB allD (daCons (dhE (dLc (diSeq (dV 0)) (gN 2) dYes t_figures_in_E1 [2])) daNil)))))) (dRet (dC .non)) dNext)
    (dSeq (dIfS (dtAnd (dTest (dBin eqD (dhE (dBin ixD (dhV 0) (dhE (dC (.int 0))))) (dhE (dC (.str "0"))))) (dTest (dBin neD (dhV 0) (dhE (dC (.str "0")))))) (dRet (dC .non)) dNext)
    (dRet (dCB intTD (daCons (dhV 0) daNil)))))
def t_number_in : DST := (dRet (dCall sp_figures_in [] (daCons (dhV 0) (daCons (dhE (dC (.int 7))) daNil))))
def t_numbers_in : DST := (dSeq (dAsg (dTm partD (dV 0) (dC (.str "."))) (gU (gsCons (gN 1) (gsCons (gN 2) (gsCons (gN 3) gsNil)))))
    (dSeq (dIfS (dTest (dBin eqD (dhV 2) (dhE (dC (.str ""))))) (dRet (dTup (daCons (dhE (dCall sp_number_in [] (daCons (dhV 1) daNil))) (daCons (dhE (dC .non)) (daCons (dhE (dC .non)) (daCons (dhE (dC .non)) daNil)))))) dNext)
    (dSeq (dAsg (dTm partD (dV 3) (dC (.str "-"))) (gU (gsCons (gN 4) (gsCons (gN 5) (gsCons (gN 6) gsNil)))))
    (dSeq (dAsg (dTm partD (dV 6) (dC (.str "."))) (gU (gsCons (gN 7) (gsCons (gN 8) (gsCons (gN 9) gsNil)))))
    (dSeq (dIfS (dtOr (dTest (dBin eqD (dhV 5) (dhE (dC (.str ""))))) (dTest (dBin isND (dhE (dCall sp_number_in [] (daCons (dhV 4) daNil))) (dhE (dC .non))))) (dRet (dC .non)) dNext)
    (dSeq (dIfS (dTest (dBin eqD (dhV 8) (dhE (dC (.str ""))))) (dRet (dTup (daCons (dhE (dCall sp_number_in [] (daCons (dhV 1) daNil))) (daCons (dhE (dC .non)) (daCons (dhE (dCall sp_number_in [] (daCons (dhV 4) daNil))) (daCons (dhE (dCall sp_number_in [] (daCons (dhV 6) daNil))) daNil)))))) dNext)
    (dRet (dIf (dTest (dBin isND (dhE (dCall sp_number_in [] (daCons (dhV 7) daNil))) (dhE (dC .non)))) (dC .non) (dTup (daCons (dhE (dCall sp_number_in [] (daCons (dhV 1) daNil))) (daCons (dhE (dCall sp_number_in [] (daCons (dhV 7) daNil))) (daCons (dhE (dCall sp_number_in [] (daCons (dhV 4) daNil))) (daCons (dhE (dCall sp_number_in [] (daCons (dhV 9) daNil))) daNil)))))))))))))
def t_is_number : DST := (dRet (dAnd (dCB isiD (daCons (dhV 0) (daCons (dhE (dC (.ty .int))) daNil))) (dNot (dCB isiD (daCons (dhV 0) (daCons (dhE (dC (.ty .bool))) daNil))))))
def t_is_between : DST := (dRet (dAnd (dCall sp_is_number [] (daCons (dhV 0) daNil)) (dChain leD leD (dhV 1) (dhV 0) (dhV 2))))
def t_is_line : DST := (dRet (dCall sp_is_between [] (daCons (dhV 0) (daCons (dhV 1) (daCons (dhV 2) daNil)))))
def t_is_last : DST := (dSeq (dIfS (dtOr (dTest (dBin isND (dhV 1) (dhE (dC .non)))) (dTest (dBin isND (dhV 0) (dhE (dC .non))))) (dRet (dBin isND (dhV 1) (dhE (dC .non)))) dNext)
    (dRet (dCallK 1 2 sp_is_line (fun ds es => pickP [.inl 0, .inr 0, .inr 1] (ds ++ []) es) (daCons (dhV 1) daNil) (daCons (dhV 0) (daCons (dhE (dCB min2D (daCons (dhE (dC (.int 1000000))) (daCons (dhE (dBin addD (dhV 0) (dhE (dC (.int 99))))) daNil)))) daNil)))))
def t_is_column : DST := (dRet (dCall sp_is_between [] (daCons (dhV 0) (daCons (dhV 1) (daCons (dhE (dC (.int 10000))) daNil)))))
def t_is_begin : DST := (dSeq (dIfS (dTest (dBin isND (dhV 2) (dhE (dC .non)))) (dRet (dOr (dBin isND (dhV 1) (dhE (dC .non))) (dBin eqD (dhV 1) (dhV 0)))) dNext)
    (dRet (dAnd (dBin notND (dhV 0) (dhE (dC .non))) (dCall sp_is_column [.int (0)] (daCons (dhV 2) daNil)))))
def t_is_end : DST := (dSeq (dIfS (dtOr (dTest (dBin isND (dhV 2) (dhE (dC .non)))) (dTest (dBin isND (dhV 3) (dhE (dC .non))))) (dRet (dAnd (dBin isND (dhV 2) (dhE (dC .non))) (dBin isND (dhV 3) (dhE (dC .non))))) dNext)
    (dSeq (dAsg (dFz (dOr (dBin isND (dhV 1) (dhE (dC .non))) (dBin eqD (dhV 1) (dhV 0)))) (gN 4))
    (dRet (dCallK 1 1 sp_is_column (fun ds es => pickP [.inl 0, .inr 0] (ds ++ []) es) (daCons (dhV 3) daNil) (daCons (dhE (dIf (dTru (dhV 4)) (dV 2) (dC (.int 0)))) daNil)))))
def t_Place_init (y : Addr) (xc : DXC) : DJK := (dPre (dIfS (dtAnd (dTest (dBin notND (dhV 1) (dhE (dC .non)))) (dtNot (dTru (dhE (dCall sp_is_line [.int (1), .int (1000000)] (daCons (dhV 1) daNil)))))) (dRaise xc "BadPlace" "part" (dC (.str "line"))) dNext)
    (dPre (dIfS (dtNot (dTru (dhE (dCall sp_is_last [] (daCons (dhV 1) (daCons (dhV 2) daNil)))))) (dRaise xc "BadPlace" "part" (dC (.str "last"))) dNext)
    (dPre (dIfS (dtNot (dTru (dhE (dCall sp_is_begin [] (daCons (dhV 1) (daCons (dhV 2) (daCons (dhV 3) daNil))))))) (dRaise xc "BadPlace" "part" (dC (.str "begin"))) dNext)
    (dPre (dIfS (dtNot (dTru (dhE (dCall sp_is_end [] (daCons (dhV 1) (daCons (dhV 2) (daCons (dhV 3) (daCons (dhV 4) daNil)))))))) (dRaise xc "BadPlace" "part" (dC (.str "end"))) dNext)
    (dSets (fun k => (dSetF y "line" (dV 1) (dSetF y "last" (dIf (dTest (dBin isND (dhV 2) (dhE (dC .non)))) (dV 1) (dV 2)) (dSetF y "begin" (dV 3) (dSetF y "end" (dV 4) k))))))))))
def t_place_in_Y1 (xc : DXC) : DST := (dAsg (dFz (dCallKX xc 2 2 sp_Place_init (fun ds es => pickP [.inl 0, .inl 1, .inr 0, .inr 1] (ds ++ [.non, .non]) es) (daCons (dhE (dBin ixD (dhV 1) (dhE (dC (.int 0))))) (daCons (dhE (dBin ixD (dhV 1) (dhE (dC (.int 1))))) daNil)) (daCons (dhE (dBin ixD (dhV 1) (dhE (dC (.int 2))))) (daCons (dhE (dBin ixD (dhV 1) (dhE (dC (.int 3))))) daNil)))) (gN 2))
def t_place_in (xc : DXC) : DST := (dSeq (dIfS (dTest (dBin eqD (dhV 0) (dhE (dC (.str "-"))))) (dRet (dCallX xc sp_Place_init [.non, .non, .non, .non] daNil)) dNext)
    (dSeq (dAsg (dFz (dCall sp_numbers_in [] (daCons (dhV 0) daNil))) (gN 1))
    (dSeq (dIfS (dtOr (dTest (dBin isND (dhV 1) (dhE (dC .non)))) (dTest (dBin isND (dhE (dBin ixD (dhV 1) (dhE (dC (.int 0))))) (dhE (dC .non))))) (dRaise xc "BadText" "text" (dV 0)) dNext)
    (dSeq (dAsg (dFz (dC .non)) (gN 2))
    (dSeq (dTryR "BadPlace" (fun xc => (t_place_in_Y1 xc)) (dRaise xc "BadText" "text" (dV 0)))
    (dSeq (dIfS (dTest (dBin neD (dhE (dCB (strAD "Place" sp_Place_str) (daCons (dhV 2) daNil))) (dhV 0))) (dRaise xc "BadText" "text" (dV 0)) dNext)
    (dRetV 2)))))))
def t_l_seen : DST := (dRet (dIf (dTru (dhE (dCB (isoCD "Place") (daCons (dhV 0) (daCons (dhE (dC (.cls "Place"))) daNil))))) (dTup (daCons (dhE (dFld "Place" "line" (dhV 0))) (daCons (dhE (dFld "Place" "last" (dhV 0))) (daCons (dhE (dFld "Place" "begin" (dhV 0))) (daCons (dhE (dFld "Place" "end" (dhV 0))) daNil))))) (dLst (daCons (dhE (dV 0)) daNil))))
def t_l_alone : DST := (dSeq (dAsg (dLst (daCons (dhE (dUn (isxD "BadText" "text" false) (dhV 0))) (daCons (dhE (dUn (isxD "BadText" "text" true) (dhV 0))) (daCons (dhE (dUn (isxD "BadText" "text" false) (dhV 0))) (daCons (dhE (dUn (isxD "BadText" "text" false) (dhV 0))) daNil))))) (gN 2))
    (dSeq (dAsg (dBin addD (dhV 2) (dhE (dLst (daCons (dhE (dUn (isxD "BadText" "text" false) (dhV 0))) (daCons (dhE (dUn (isxD "BadText" "text" false) (dhV 0))) (daCons (dhE (dUn (isxD "BadText" "text" false) (dhV 0))) daNil)))))) (gN 2))
    (dSeq (dAsg (dBin addD (dhV 2) (dhE (dLst (daCons (dhE (dUn (isxD "BadText" "text" false) (dhV 0))) (daCons (dhE (dUn (isxD "BadText" "text" false) (dhV 0))) (daCons (dhE (dUn (isxD "BadText" "text" false) (dhV 0))) daNil)))))) (gN 2))
    (dRet (dAnd (dBin eqD (dhE (dMe 2 countF (daCons (dhE (dC (.bl true))) daNil))) (dhE (dC (.int 1)))) (dAnd (dBin eqD (dhE (dMe 2 indexF (daCons (dhE (dC (.bl true))) daNil))) (dhV 1)) (dBin eqD (dhE (dUn (isxD "BadText" "text" true) (dhV 0))) (dhE (dBin ltD (dhV 1) (dhE (dC (.int 7))))))))))))
def t_l_told_Y1 (xc : DXC) : DST := (dAsg (dFz (dIf (dTest (dBin eqD (dhE (dCallN 0 sp_l_take [] (daCons (dhV 0) (daCons (dhE (dC (.int 2))) daNil)))) (dhE (dC (.int 0))))) (dCallX xc sp_place_in [] (daCons (dhV 1) daNil)) (dCallKX xc 0 1 sp_place_in (fun ds es => pickP [.inr 0] ds es) daNil (daCons (dhV 1) daNil)))) (gN 3))
def t_l_told : DST := (dSeq (dAsg (dTup (daCons (dhE (dC .non)) (daCons (dhE (dC .non)) daNil))) (gU (gsCons (gN 2) (gsCons (gN 3) gsNil))))
    (dSeq (dTry 4 2 "BadText" "text" (fun xc => (t_l_told_Y1 xc)))
    (dSeq (dIfS (dTest (dBin isND (dhV 2) (dhE (dC .non)))) (dRet (dFz (dBin addD (dhE (dCall sp_l_seen [] (daCons (dhV 3) daNil))) (dhE (dTup (daCons (dhE (dCB (strAD "Place" sp_Place_str) (daCons (dhV 3) daNil))) daNil)))))) dNext)
    (dRet (dFz (dIf (dtAnd (dTru (dhE (dCall sp_l_alone [] (daCons (dhV 2) (daCons (dhE (dC (.int 1))) daNil))))) (dTru (dhE (dCall sp_l_same [] (daCons (dhE (dXf "BadText" "text" (dhV 2))) (daCons (dhV 1) daNil)))))) (dC (.str "refused")) (dC (.str "other"))))))))
def t_law_B1 : DST := (dAsg (dFz (dCallN 0 sp_l_bent [] (daCons (dhV 2) (daCons (dhV 4) daNil)))) (gN 4))
def t_law_B2 : DST := (dSeq (dAsg (dFz (dCall sp_l_text [] (daCons (dhE (dCallN 0 sp_l_spot [] (daCons (dhV 2) (daCons (dhE (dBin ixD (dhE (dLst (daCons (dhE (dC (.int 9))) (daCons (dhE (dC (.int 1000))) (daCons (dhE (dBin powD (dhE (dC (.int 10))) (dhE (dC (.int 6))))) daNil))))) (dhE (dCallN 0 sp_l_take [] (daCons (dhV 2) (daCons (dhE (dC (.int 3))) daNil)))))) daNil)))) daNil))) (gN 4))
    (dSeq (dForW [5] (diRng1 (daCons (dhE (dBin mulD (dhE (dCallN 0 sp_l_take [] (daCons (dhV 2) (daCons (dhE (dC (.int 4))) daNil)))) (dhE (dCB intD (daCons (dhE (dBin gtD (dhV 3) (dhE (dC (.int 0))))) daNil))))) daNil)) (gN 5) t_law_B1)
    (dSeq (dAsg (dFz (dCall sp_l_read [] (daCons (dhV 4) daNil))) (gN 6))
    (dIfS (dtNot (dTru (dhE (dCall sp_l_same [] (daCons (dhE (dCallN 0 sp_l_told [] (daCons (dhV 2) (daCons (dhV 4) daNil)))) (daCons (dhE (dIf (dTest (dBin isND (dhV 6) (dhE (dC .non)))) (dC (.str "refused")) (dBin addD (dhV 6) (dhE (dTup (daCons (dhE (dV 4)) daNil)))))) daNil)))))) (dRet (dC (.bl false))) dNext))))
def t_law_B3 : DST := (dSeq (dAsg (dCall sp_l_box [] (daCons (dhV 0) (daCons (dhV 1) daNil))) (gN 2))
    (dForW [3, 4, 5, 6] (diRng1 (daCons (dhE (dC (.int 8))) daNil)) (gN 3) t_law_B2))
def t_law : DST := (dSeq (dForW [1, 2, 3, 4, 5, 6] (diRng1 (daCons (dhE (dBin addD (dhE (dC (.int 1))) (dhE (dCB min2D (daCons (dhE (dC (.int 11))) (daCons (dhE (dCB lenD (daCons (dhV 0) daNil))) daNil)))))) daNil)) (gN 1) t_law_B3)
    (dRet (dC (.bl true))))
abbrev sI_BadPlace : Stmt := (inCls (topS 2)).getD 0 (.Pass ⟨0, 0, 0, 0⟩)
theorem scI_BadPlace : FnScope ["self", "part"] ["self", "part"] (defScope sI_BadPlace) := ⟨rfl, rfl, rfl, by decide +kernel, rfl, by decide +kernel, by decide +kernel⟩
abbrev sI_BadText : Stmt := (inCls (topS 3)).getD 0 (.Pass ⟨0, 0, 0, 0⟩)
theorem scI_BadText : FnScope ["self", "text"] ["self", "text"] (defScope sI_BadText) := ⟨rfl, rfl, rfl, by decide +kernel, rfl, by decide +kernel, by decide +kernel⟩
end K05

/-! each def does what is promised: over data alone -/
namespace K05
open PySem L2 DL PL EN TL
local macro_rules | `(tactic| walk_at "w") => `(tactic| conv => whnf)
local macro_rules | `(tactic| walk_at "c") => `(tactic| first | exact trivial | assumption | exact ⟨_, rfl⟩ | exact rfl | exact Nat.le_of_ble_eq_true rfl | exact (fun _ => rfl) | exact (fun _ => imm_ints _) | exact okD_ints _ | (intro z; cases z; done) | omega | (refine Or.inl ⟨?_, ?_⟩ <;> omega) | (refine Or.inr ⟨?_, ?_⟩ <;> omega) | (refine ⟨?_, ?_⟩ <;> omega) | (refine ⟨?_, ?_, ?_⟩ <;> omega) | (simp only [List.length_cons, List.length_nil, List.length_map, List.length_append, sizeLine_eq]; omega) | decide | decide +kernel)
local macro_rules | `(tactic| walk_at "g") => `(tactic| ((conv => whnf); repeat ((first | ((with_reducible refine And.intro ?_ ?_); focus (walk_at "c")) | refine IfB.f ?_ | refine IfB.t ?_); (conv => whnf))))
theorem p_l_cell_at : ∀ as R RX, sp_l_cell_at as R RX → cntM as ≤ 1 → t_l_cell_at (defEnds as R) (startR 2 as) := by
  rintro as R RX ⟨ns, i, rfl, hk, hk2, k⟩ _
  obtain ⟨i, rfl⟩ : ∃ j : Nat, i = (j : Int) := ⟨i.toNat, by omega⟩
  walk_at "w"
  refine ⟨fun h => ?_, fun h => ?_⟩
  · have h : (i : Int) < ((ns.map D.int).length : Int) := of_decide_eq_true h
    rw [List.length_map] at h
    have hi : i < ns.length := by omega
    have e : ns[i]? = some ns[i] := by simp [hi]
    walk_at "w"
    rw [atI_map (f := D.int) e]
    exact k _
  · walk_at "w"
    exact k _
theorem p_l_box : ∀ as R RX, sp_l_box as R RX → cntM as ≤ 1 → t_l_box (defEnds as R) (startR 3 as) := by
  rintro as R RX ⟨ns, i, rfl, hk, hk2, k⟩ _
  obtain ⟨i, rfl⟩ : ∃ j : Nat, i = (j : Int) := ⟨i.toNat, by omega⟩
  walk_at "g"
  refine ⟨ns, (i : Int), rfl, hk, hk2, fun c => ?_⟩
  walk_at "g"
  exact k _ (box_ok _ _ _ hk2)
theorem p_l_take : ∀ as R RX, sp_l_take as R RX → cntM as ≤ 1 → t_l_take (defEnds as R) (startR 5 as) := by
  rintro as R RX ⟨ds, many, n, rfl, ⟨x, y, c, rfl, hx, hy, hy2, hc, hcn⟩, hn, hm, hm2, k⟩ _
  walk_at "w"
  refine ⟨fun h => ?_, fun h => ?_⟩
  · walk_at "g"
    have h : 0 < x := of_decide_eq_true h
    refine k _ _ (Int.emod_nonneg _ (by omega)) (Int.emod_lt_of_pos _ hm) ⟨x / many, y, c, rfl, ?_, hy, hy2, hc, by omega⟩
    exact Int.ediv_nonneg hx (by omega)
  · walk_at "g"
    exact k _ _ (Int.emod_nonneg _ (by omega)) (Int.emod_lt_of_pos _ hm) ⟨x, y, c + 1, rfl, hx, hy, hy2, by omega, by omega⟩
theorem rng_ints (lo : Int) (n : Nat) : rngD lo n = ((List.range n).map fun i => lo + ((i : Nat) : Int)).map D.int := by
  rw [rngD, List.map_map]
  rfl
theorem p_is_number : ∀ as R RX, sp_is_number as R RX → cntM as ≤ 1 → t_is_number (defEnds as R) (startR 1 as) := by
  rintro as R RX ⟨i, rfl, k⟩ _
  walk_at "g"
  exact k
theorem p_is_between : ∀ as R RX, sp_is_between as R RX → cntM as ≤ 1 → t_is_between (defEnds as R) (startR 3 as) := by
  rintro as R RX ⟨i, lo, hi, rfl, k⟩ _
  walk_at "g"
  refine ⟨i, rfl, ?_⟩
  walk_at "g"
  refine ⟨fun h => ?_, fun h => ?_⟩
  · have h : decide (lo ≤ i) = true := h
    rw [h] at k
    walk_at "g"
    exact k
  · have h : decide (lo ≤ i) = false := h
    rw [h] at k
    walk_at "g"
    exact k
theorem p_is_line : ∀ as R RX, sp_is_line as R RX → cntM as ≤ 1 → t_is_line (defEnds as R) (startR 3 as) := by
  rintro as R RX ⟨i, lo, hi, rfl, k⟩ _
  walk_at "g"
  refine ⟨i, lo, hi, rfl, ?_⟩
  walk_at "g"
  exact k
theorem p_is_column : ∀ as R RX, sp_is_column as R RX → cntM as ≤ 1 → t_is_column (defEnds as R) (startR 2 as) := by
  rintro as R RX ⟨i, lo, rfl, k⟩ _
  walk_at "g"
  refine ⟨i, lo, 10000, rfl, ?_⟩
  walk_at "g"
  exact k
theorem p_is_last : ∀ as R RX, sp_is_last as R RX → cntM as ≤ 1 → t_is_last (defEnds as R) (startR 2 as) := by
  rintro as R RX ⟨l, la, rfl, k⟩ _
  cases la with
  | none => cases l <;> walk_at "g" <;> exact k
  | some x =>
    cases l with
    | none => walk_at "g"; exact k
    | some y =>
      walk_at "g"
      refine ⟨x, y, _, rfl, ?_⟩
      walk_at "g"
      exact k
theorem p_is_begin : ∀ as R RX, sp_is_begin as R RX → cntM as ≤ 1 → t_is_begin (defEnds as R) (startR 3 as) := by
  rintro as R RX ⟨l, la, b, rfl, k⟩ _
  cases b with
  | none =>
    cases la with
    | none => cases l <;> walk_at "g" <;> exact k
    | some x =>
      cases l with
      | none => walk_at "g"; exact k
      | some y =>
        walk_at "g"
        show R (.v (.bl (deqv (.int x) (.int y)))) []
        rw [deqv_int]
        exact k
  | some c =>
    cases l with
    | none => walk_at "g"; exact k
    | some y =>
      walk_at "g"
      refine ⟨c, 0, rfl, ?_⟩
      walk_at "g"
      exact k
theorem p_is_end : ∀ as R RX, sp_is_end as R RX → cntM as ≤ 1 → t_is_end (defEnds as R) (startR 5 as) := by
  rintro as R RX ⟨l, la, b, e, rfl, k⟩ _
  cases b with
  | none => cases e <;> cases l <;> cases la <;> walk_at "g" <;> exact k
  | some c =>
    cases e with
    | none => cases l <;> cases la <;> walk_at "g" <;> exact k
    | some f =>
      cases la with
      | none => cases l <;> (walk_at "g"; refine ⟨f, c, rfl, ?_⟩; walk_at "g"; exact k)
      | some x =>
        cases l with
        | none =>
          walk_at "g"
          refine ⟨f, 0, rfl, ?_⟩
          walk_at "g"
          exact k
        | some y =>
          walk_at "g"
          have k : R (.v (.bl (decide ((if oneB (some y) (some x) = true then c else 0) ≤ f) && decide (f ≤ 10000)))) [] := k
          refine ⟨fun h => ?_, fun h => ?_⟩
          · have h : oneB (some y) (some x) = true := by rw [← h]; exact (deqv_int x y).symm
            rw [h] at k
            walk_at "g"
            refine ⟨f, c, rfl, ?_⟩
            walk_at "g"
            exact k
          · have h : oneB (some y) (some x) = false := by rw [← h]; exact (deqv_int x y).symm
            rw [h] at k
            walk_at "g"
            refine ⟨f, 0, rfl, ?_⟩
            walk_at "g"
            exact k
theorem p_Place_init : ∀ (ds : List D) R RX (y : Addr), sp_Place_init (ds.map S.v) R RX → t_Place_init y (fun C f d _ => RX C f d []) (fun gs _ => R (.v (.ins "Place" gs)) []) (startR 5 (.v (.adr y) :: ds.map S.v)) := by
  rintro ds R RX y ⟨l, la, b, e, hd, k, kx⟩
  obtain rfl : ds = [oi l, oi la, oi b, oi e] := by
    have : ds.map S.v = [oi l, oi la, oi b, oi e].map S.v := hd
    exact (List.map_inj_right (fun _ _ h => by injection h)).mp this
  cases h0 : lineB l
  · cases l with
    | none => cases h0
    | some x =>
      walk_at "g"
      refine ⟨x, 1, 1000000, rfl, ?_⟩
      have h0' : (decide (1 ≤ x) && decide (x ≤ 1000000)) = false := h0
      walk_at "w"
      refine ⟨by walk_at "c", ?_⟩
      rw [h0']
      walk_at "g"
      exact kx _ (by unfold badP; rw [h0]; rfl)
  · cases l with
    | none =>
      walk_at "g"
      refine ⟨none, la, rfl, ?_⟩
      walk_at "g"
      cases h1 : lastB none la
      · walk_at "g"
        exact kx _ (by unfold badP; rw [h0, h1]; rfl)
      · walk_at "g"
        refine ⟨none, la, b, rfl, ?_⟩
        walk_at "g"
        cases h2 : beginB none la b
        · walk_at "g"
          exact kx _ (by unfold badP; rw [h0, h1, h2]; rfl)
        · walk_at "g"
          refine ⟨none, la, b, e, rfl, ?_⟩
          walk_at "g"
          cases h3 : endB none la b e
          · walk_at "g"
            exact kx _ (by unfold badP; rw [h0, h1, h2, h3]; rfl)
          · have k := k (by unfold badP; rw [h0, h1, h2, h3]; rfl)
            cases la <;> walk_at "g" <;> exact k
    | some x =>
      walk_at "g"
      refine ⟨x, 1, 1000000, rfl, ?_⟩
      have h0' : (decide (1 ≤ x) && decide (x ≤ 1000000)) = true := h0
      walk_at "w"
      refine ⟨by walk_at "c", ?_⟩
      rw [h0']
      walk_at "g"
      refine ⟨(some x), la, rfl, ?_⟩
      walk_at "g"
      cases h1 : lastB (some x) la
      · walk_at "g"
        exact kx _ (by unfold badP; rw [h0, h1]; rfl)
      · walk_at "g"
        refine ⟨(some x), la, b, rfl, ?_⟩
        walk_at "g"
        cases h2 : beginB (some x) la b
        · walk_at "g"
          exact kx _ (by unfold badP; rw [h0, h1, h2]; rfl)
        · walk_at "g"
          refine ⟨(some x), la, b, e, rfl, ?_⟩
          walk_at "g"
          cases h3 : endB (some x) la b e
          · walk_at "g"
            exact kx _ (by unfold badP; rw [h0, h1, h2, h3]; rfl)
          · have k := k (by unfold badP; rw [h0, h1, h2, h3]; rfl)
            cases la <;> walk_at "g" <;> exact k
end K05

/-! each def does what is promised: over data alone -/
namespace K05
open PySem L2 DL PL EN TL
local macro_rules | `(tactic| walk_at "w") => `(tactic| conv => whnf)
local macro_rules | `(tactic| walk_at "c") => `(tactic| first | exact trivial | with_reducible assumption | exact ⟨_, rfl⟩ | exact rfl | exact And.intro rfl rfl | exact Nat.le_of_ble_eq_true rfl | exact (fun _ => rfl) | exact (fun _ => imm_ints _) | exact okD_ints _ | (intro z; cases z; done) | omega | (refine Or.inl ⟨?_, ?_⟩ <;> omega) | (refine Or.inr ⟨?_, ?_⟩ <;> omega) | (refine ⟨?_, ?_⟩ <;> omega) | (refine ⟨?_, ?_, ?_⟩ <;> omega) | (simp only [List.length_cons, List.length_nil, List.length_map, List.length_append, sizeLine_eq]; omega) | decide | decide +kernel | assumption)
local macro_rules | `(tactic| walk_at "g") => `(tactic| ((conv => whnf); repeat ((first | ((with_reducible refine And.intro ?_ ?_); focus (walk_at "c")) | refine ifb_t (by decide +kernel) ?_ | refine ifb_f (by decide +kernel) ?_ | refine IfB.f ?_ | refine IfB.t ?_); (conv => whnf))))
local macro_rules | `(tactic| walk_at "x") => `(tactic| (walk_at "g"; try ((refine IfB.mk (fun h => ?_) (fun h => ?_)) <;> (((try simp only [S.d, deqv_int, decide_eq_true_eq, decide_eq_false_iff_not, Bool.not_eq_true', Bool.not_eq_false', Bool.not_eq_true, Bool.not_eq_false, eq_self, not_true_eq_false, not_false_eq_true, decide_true, decide_false, Bool.not_true, Bool.not_false, Bool.false_eq_true, reduceCtorEq, Int.reduceToNat, Int.reducePow, Int.reduceNeg] at h) <;> (first | (exfalso; omega) | walk_at "x"))))))
theorem bad_none {l la : Int} {c : Option (Int × Int)} (h : (Spot.at l la c).ok) : badP (some l) (some la) (c.map (·.1)) (c.map (·.2)) = none := by
  rcases c with _ | ⟨b, e⟩
  · simp only [Spot.ok] at h
    have h1 : lineB (some l) = true := by show (decide (1 ≤ l) && decide (l ≤ 1000000)) = true; rw [decide_eq_true (by omega), decide_eq_true (by omega)]; rfl
    have h2 : lastB (some l) (some la) = true := by show (decide (l ≤ la) && decide (la ≤ if l + 99 < 1000000 then l + 99 else 1000000)) = true; rw [decide_eq_true (by omega), decide_eq_true (by split <;> omega)]; rfl
    have h3 : beginB (some l) (some la) none = true := by show decide (la = l) = true; rw [decide_eq_true (by omega)]
    unfold badP
    show (if lineB (some l) = false then _ else if lastB (some l) (some la) = false then _ else if beginB (some l) (some la) none = false then _ else if endB (some l) (some la) none none = false then _ else _) = none
    rw [h1, h2, h3]
    rfl
  · simp only [Spot.ok] at h
    have h1 : lineB (some l) = true := by show (decide (1 ≤ l) && decide (l ≤ 1000000)) = true; rw [decide_eq_true (by omega), decide_eq_true (by omega)]; rfl
    have h2 : lastB (some l) (some la) = true := by show (decide (l ≤ la) && decide (la ≤ if l + 99 < 1000000 then l + 99 else 1000000)) = true; rw [decide_eq_true (by omega), decide_eq_true (by split <;> omega)]; rfl
    have h3 : beginB (some l) (some la) (some b) = true := by show (true && (decide (0 ≤ b) && decide (b ≤ 10000))) = true; rw [decide_eq_true (by omega), decide_eq_true (by omega)]; rfl
    have h4 : endB (some l) (some la) (some b) (some e) = true := by
      show (decide ((if decide (la = l) = true then b else 0) ≤ e) && decide (e ≤ 10000)) = true
      rw [decide_eq_true (show (if decide (la = l) = true then b else 0) ≤ e by split <;> simp_all), decide_eq_true (by omega)]
      rfl
    unfold badP
    show (if lineB (some l) = false then _ else if lastB (some l) (some la) = false then _ else if beginB (some l) (some la) (some b) = false then _ else if endB (some l) (some la) (some b) (some e) = false then _ else _) = none
    rw [h1, h2, h3, h4]
    rfl
/-! texts of places: plain laws -/
theorem cutC_none {c : Nat} : ∀ {l : List Nat}, cutC c l = none → c ∉ l
  | [], _ => by simp
  | a :: l, h => by
    unfold cutC at h
    by_cases e : a = c
    · rw [if_pos e] at h; cases h
    · rw [if_neg e] at h
      have h : cutC c l = none := by cases hh : cutC c l with
        | none => rfl
        | some x => rw [hh] at h; cases h
      intro hm
      rcases List.mem_cons.mp hm with h1 | h1
      · exact e h1.symm
      · exact cutC_none h h1
theorem cutC_some {c : Nat} : ∀ {l p q : List Nat}, cutC c l = some (p, q) → l = p ++ c :: q ∧ c ∉ p
  | [], p, q, h => by cases h
  | a :: l, p, q, h => by
    unfold cutC at h
    by_cases e : a = c
    · rw [if_pos e] at h
      cases h
      exact ⟨by rw [e]; rfl, by simp⟩
    · rw [if_neg e] at h
      cases hh : cutC c l with
      | none => rw [hh] at h; cases h
      | some x =>
        rw [hh] at h
        obtain ⟨p', q'⟩ := x
        cases h
        obtain ⟨h1, h2⟩ := cutC_some hh
        exact ⟨by rw [h1]; rfl, fun hm => (List.mem_cons.mp hm).elim (fun h => e h.symm) h2⟩
theorem cutC_mk {c : Nat} : ∀ {p q : List Nat}, c ∉ p → cutC c (p ++ c :: q) = some (p, q)
  | [], q, _ => by show (if c = c then _ else _) = _; rw [if_pos rfl]
  | a :: p, q, h => by
    show (if a = c then _ else (cutC c (p ++ c :: q)).map _) = _
    rw [if_neg fun e => h (by rw [e]; exact List.mem_cons_self), cutC_mk fun hm => h (List.mem_cons_of_mem _ hm)]
    rfl
theorem cutC_no {c : Nat} {l : List Nat} (h : c ∉ l) : cutC c l = none := by
  cases e : cutC c l with
  | none => rfl
  | some x =>
    obtain ⟨p, q⟩ := x
    exact absurd (by rw [(cutC_some e).1]; simp) h
theorem find_none {z : Str} {c : Nat} (h : c ∉ tl z) : Txt.find z ⟨#[c]⟩ = -1 := by
  unfold Txt.find
  rcases StrLaws.occ_head z ⟨#[c]⟩ 1 (Nat.le_refl 1) with ⟨h0, hn⟩ | ⟨i, r, h0, hi, hn⟩
  · rw [h0]
  · exact absurd ((PyProof.Rows.mem_iff_at z c).mpr ⟨i, hi⟩) h
theorem get_app {p q : List Nat} {c : Nat} : (p ++ c :: q)[p.length]? = some c := by
  rw [List.getElem?_append_right (Nat.le_refl _), Nat.sub_self]; rfl
theorem find_some {z : Str} {c : Nat} {p q : List Nat} (h : tl z = p ++ c :: q) (hp : c ∉ p) : Txt.find z ⟨#[c]⟩ = (p.length : Int) := by
  have e1 : ∀ i, StrLaws.At z ⟨#[c]⟩ z.length i ↔ (p ++ c :: q)[i]? = some c := fun i => by rw [← h]; exact StrLaws.subAt_one z c i
  have h1 := (e1 p.length).mpr get_app
  have h2 : ∀ k, k < p.length → ¬ StrLaws.At z ⟨#[c]⟩ z.length k := fun k hk ha => by
    have := (e1 k).mp ha
    rw [List.getElem?_append_left hk] at this
    exact hp (List.mem_of_getElem? this)
  unfold Txt.find
  rcases StrLaws.occ_head z ⟨#[c]⟩ 1 (Nat.le_refl 1) with ⟨h0, hn⟩ | ⟨i, r, h0, hi, hn⟩
  · exact absurd h1 (hn _)
  · rw [h0]
    have : ¬ i < p.length := fun hl => h2 i hl hi
    have : ¬ p.length < i := fun hl => hn _ hl h1
    show ((i : Nat) : Int) = _
    omega
theorem part_none {z : Str} {c : Nat} (h : c ∉ tl z) : Txt.partition z ⟨#[c]⟩ = (z, SX.S [], SX.S []) := by
  have := SX.partition_none (a := tl z) (b := [c]) (by simp) (SX.par_head_none h)
  rw [SX.S_tl] at this
  exact this
theorem part_some {z : Str} {c : Nat} {p q : List Nat} (h : tl z = p ++ c :: q) (hp : c ∉ p) : Txt.partition z ⟨#[c]⟩ = (SX.S p, ⟨#[c]⟩, SX.S q) := by
  have := SX.partition_some (a := tl z) (b := [c]) (p := p) (q := q) (by simp) (by rw [h]; exact SX.par_head (c := c) (sep := []) q hp)
  rw [SX.S_tl] at this
  exact this
theorem tlS (l : List Nat) : tl (SX.S l) = l := rfl
theorem lenS (l : List Nat) : (SX.S l).length = l.length := SX.S_len l
theorem len_z (z : Str) : z.length = (tl z).length := (Array.length_toList).symm
theorem cut_to {z : Str} {p q : List Nat} (h : tl z = p ++ q) : cutS z none (some (p.length : Int)) = SX.S p := by
  have hl : z.length = p.length + q.length := by rw [len_z, h, List.length_append]
  unfold cutS
  refine congrArg (fun x : List Nat => (⟨x.toArray⟩ : Str)) ?_
  show (List.drop _ (tl z)).take _ = p
  simp only [HT.sIx]
  rw [if_neg (by omega), h, show min (Int.toNat (p.length : Int)) z.length = p.length by omega]
  simp
theorem cut_from {z : Str} {p q : List Nat} {a : Int} (h : tl z = p ++ q) (ha : a = (p.length : Int)) : cutS z (some a) none = SX.S q := by
  have hl : z.length = p.length + q.length := by rw [len_z, h, List.length_append]
  subst ha
  unfold cutS
  refine congrArg (fun x : List Nat => (⟨x.toArray⟩ : Str)) ?_
  show (List.drop _ (tl z)).take _ = q
  simp only [HT.sIx]
  rw [if_neg (by omega), h, show min (Int.toNat (p.length : Int)) z.length = p.length by omega, List.drop_left]
  exact List.take_of_length_le (by omega)
theorem cut_mid {z : Str} {p q r : List Nat} {a b : Int} (h : tl z = p ++ (q ++ r)) (ha : a = (p.length : Int)) (hb : b = (p.length : Int) + (q.length : Int)) : cutS z (some a) (some b) = SX.S q := by
  have hl : z.length = p.length + (q.length + r.length) := by rw [len_z, h, List.length_append, List.length_append]
  subst ha hb
  unfold cutS
  refine congrArg (fun x : List Nat => (⟨x.toArray⟩ : Str)) ?_
  show (List.drop _ (tl z)).take _ = q
  simp only [HT.sIx]
  rw [if_neg (by omega), if_neg (by omega), h, show min (Int.toNat (p.length : Int)) z.length = p.length by omega, List.drop_left, show min (Int.toNat ((p.length : Int) + (q.length : Int))) z.length - p.length = q.length by omega, List.take_left]
/-! numbers -/
theorem txtI_tl {i : Int} (h : 0 ≤ i) : tl (txtI i) = numL i.toNat := by
  obtain ⟨n, rfl⟩ := Int.eq_ofNat_of_zero_le h
  exact tl_num n
theorem numL_head {n : Nat} (h : n ≠ 0) : ∃ c r, numL n = c :: r ∧ 49 ≤ c := by
  have key : ∀ k n : Nat, n ≤ k → n ≠ 0 → ∃ c r, numL n = c :: r ∧ 49 ≤ c := by
    intro k
    induction k with
    | zero => intro n h1 h2; omega
    | succ k ih =>
      intro n h1 h2
      by_cases h10 : n < 10
      · exact ⟨_, _, numL_lt h10, by omega⟩
      · obtain ⟨c, r, e, hc⟩ := ih (n / 10) (by omega) (by omega)
        exact ⟨c, r ++ [48 + n % 10], by rw [numL_step (by omega), e]; rfl, hc⟩
  exact key n n (Nat.le_refl _) h
theorem numI_num {n m : Nat} (h : (numL n).length ≤ m) : numI m (numL n) = some (n : Int) := by
  unfold numI
  rw [if_pos, numL_val]
  refine ⟨h, numL_ne n, numL_digits n, ?_⟩
  by_cases h0 : n = 0
  · subst h0; exact .inr (numL_lt (by omega))
  · obtain ⟨c, r, e, hc⟩ := numL_head h0
    refine .inl ?_
    rw [e]
    show some c ≠ some 48
    intro hh
    injection hh with hh
    omega
theorem numI_txt {i : Int} {m : Nat} (h0 : 0 ≤ i) (h : i ≤ 1000000) (hm : 7 ≤ m) : numI m (tl (txtI i)) = some i := by
  rw [txtI_tl h0]
  have := numL_len (n := i.toNat) (k := 7) (by omega) (by omega)
  have := numI_num (n := i.toNat) (m := m) (by omega)
  rw [this]
  congr 1
  omega
theorem numI_inv {m : Nat} {l : List Nat} {i : Int} (h : numI m l = some i) : 0 ≤ i ∧ tl (txtI i) = l ∧ ∀ c ∈ l, 48 ≤ c ∧ c ≤ 57 := by
  unfold numI at h
  split at h
  · rename_i hc
    obtain ⟨h1, h2, h3, h4⟩ := hc
    have e : i = ((NumText.digitsVal l : Nat) : Int) := by injection h with h; exact h.symm
    subst e
    refine ⟨by omega, ?_, h3⟩
    rw [txtI_tl (by omega), Int.toNat_natCast]
    have hl : l.length = (l.length - 1) + 1 := by have := List.length_pos_iff.mpr h2; omega
    have key := NumText.toDigits_digitsVal (l.length - 1) l hl h3 (by
      rcases h4 with h4 | h4
      · cases l with
        | nil => exact absurd rfl h2
        | cons c r =>
          refine .inr ⟨c, r, rfl, ?_⟩
          have := h3 c List.mem_cons_self
          have : c ≠ 48 := fun e => h4 (by rw [e]; rfl)
          omega
      · exact .inl (by rw [h4]; rfl))
    unfold numL
    rw [key, List.map_map]
    conv => rhs; rw [← List.map_id l]
    refine List.map_congr_left fun c hc => ?_
    have := h3 c hc
    show (Char.ofNat c).toNat = c
    have hd : ∀ c : Fin 10, (Char.ofNat (48 + c.val)).toNat = 48 + c.val := by decide
    have := hd ⟨c - 48, by omega⟩
    rw [show 48 + (c - 48) = c by omega] at this
    exact this
  · cases h
theorem num_free {m : Nat} {l : List Nat} {i : Int} (h : numI m l = some i) {c : Nat} (hc : c < 48 ∨ 57 < c) : c ∉ l := fun hm => by
  have := (numI_inv h).2.2 c hm
  omega
theorem txt_free {i : Int} (h : 0 ≤ i) {c : Nat} (hc : c < 48 ∨ 57 < c) : c ∉ tl (txtI i) := by
  rw [txtI_tl h]
  exact numL_free hc
theorem tl_dot : tl (Str.ofString ".") = [46] := by decide +kernel
theorem tl_das : tl (Str.ofString "-") = [45] := by decide +kernel
theorem str_dot : Str.ofString "." = ⟨#[46]⟩ := by decide +kernel
theorem str_das : Str.ofString "-" = ⟨#[45]⟩ := by decide +kernel
/-- a place's text, sign by sign -/
theorem tl_strS (s : Spot) : tl (strS s) = match s with
    | .no => [45]
    | .at l _ none => tl (txtI l)
    | .at l la (some (b, e)) => tl (txtI l) ++ 46 :: (tl (txtI b) ++ 45 :: (if la = l then tl (txtI e) else tl (txtI la) ++ 46 :: tl (txtI e))) := by
  rcases s with _ | ⟨l, la, _ | ⟨b, e⟩⟩
  · exact tl_das
  · rfl
  · show tl (if la = l then txtI l ++ "." ++ txtI b ++ "-" ++ txtI e else txtI l ++ "." ++ txtI b ++ "-" ++ txtI la ++ "." ++ txtI e) = _
    by_cases hq : la = l
    · simp only [hq, if_true, tl_append, tl_dot, tl_das, List.append_assoc, List.cons_append, List.nil_append]
    · simp only [hq, if_false, tl_append, tl_dot, tl_das, List.append_assoc, List.cons_append, List.nil_append]
theorem num_ne_dash {m : Nat} {l : List Nat} {i : Int} (h : numI m l = some i) : l ≠ [45] := fun e => num_free h (c := 45) (by omega) (by rw [e]; simp)
theorem rd_complete {s : Spot} (h : s.ok) : rd (tl (strS s)) = some s := by
  rw [tl_strS]
  rcases s with _ | ⟨l, la, _ | ⟨b, e⟩⟩
  · rfl
  · simp only [Spot.ok] at h
    obtain ⟨h1, h2, rfl⟩ := h
    have n1 := numI_txt (i := la) (m := 8) (by omega) (by omega) (by omega)
    show rd (tl (txtI la)) = _
    unfold rd
    rw [if_neg (num_ne_dash n1), cutC_no (txt_free (by omega) (by omega)), n1]
    show (if 1 ≤ la ∧ la ≤ 1000000 then _ else _) = _
    rw [if_pos ⟨by omega, by omega⟩]
  · simp only [Spot.ok] at h
    have n1 := numI_txt (i := l) (m := 8) (by omega) (by omega) (by omega)
    have n2 := numI_txt (i := la) (m := 8) (by omega) (by omega) (by omega)
    have n3 := numI_txt (i := b) (m := 8) (by omega) (by omega) (by omega)
    have n4 := numI_txt (i := e) (m := 8) (by omega) (by omega) (by omega)
    show rd (tl (txtI l) ++ 46 :: (tl (txtI b) ++ 45 :: (if la = l then tl (txtI e) else tl (txtI la) ++ 46 :: tl (txtI e)))) = _
    unfold rd
    rw [if_neg (by intro hh; have := congrArg List.length hh; simp only [List.length_append, List.length_cons, List.length_nil] at this; omega), cutC_mk (txt_free (by omega) (by omega))]
    show (match cutC 45 (tl (txtI b) ++ 45 :: (if la = l then tl (txtI e) else tl (txtI la) ++ 46 :: tl (txtI e))) with | none => none | some (le, back) => _) = _
    rw [cutC_mk (txt_free (by omega) (by omega))]
    simp only [n1, n3, Option.bind_some]
    rw [if_pos ⟨by omega, by omega, by omega, by omega⟩]
    by_cases hq : la = l
    · rw [if_pos hq, cutC_no (txt_free (by omega) (by omega))]
      simp only [n4, Option.bind_some]
      rw [if_pos ⟨by omega, by omega⟩, hq]
    · rw [if_neg hq, cutC_mk (txt_free (by omega) (by omega))]
      simp only [n2, n4, Option.bind_some]
      rw [if_pos ⟨by omega, by omega, by omega, by omega, by omega⟩]
theorem rd_sound {l : List Nat} {s : Spot} (h : rd l = some s) : s.ok ∧ tl (strS s) = l := by
  unfold rd at h
  by_cases h0 : l = [45]
  · rw [if_pos h0] at h
    injection h with h
    subst h
    exact ⟨trivial, by rw [tl_strS]; exact h0.symm⟩
  · rw [if_neg h0] at h
    cases hc : cutC 46 l with
    | none =>
      rw [hc] at h
      dsimp only at h
      cases hn : numI 8 l with
      | none => rw [hn] at h; cases h
      | some n =>
        rw [hn, Option.bind_some] at h
        split at h
        · rename_i hb
          injection h with h
          subst h
          exact ⟨⟨hb.1, hb.2, rfl⟩, by rw [tl_strS]; exact (numI_inv hn).2.1⟩
        · cases h
    | some x =>
      obtain ⟨lo, rest⟩ := x
      rw [hc] at h
      dsimp only at h
      obtain ⟨e1, f1⟩ := cutC_some hc
      cases hc2 : cutC 45 rest with
      | none => rw [hc2] at h; cases h
      | some x =>
        obtain ⟨le, back⟩ := x
        rw [hc2] at h
        dsimp only at h
        obtain ⟨e2, f2⟩ := cutC_some hc2
        cases hn1 : numI 8 lo with
        | none => rw [hn1] at h; cases h
        | some a =>
          cases hn2 : numI 8 le with
          | none => rw [hn1, hn2] at h; cases h
          | some b =>
            rw [hn1, hn2, Option.bind_some, Option.bind_some] at h
            split at h
            · rename_i hb
              have i1 := (numI_inv hn1).2.1
              have i2 := (numI_inv hn2).2.1
              cases hc3 : cutC 46 back with
              | none =>
                rw [hc3] at h
                dsimp only at h
                cases hn3 : numI 8 back with
                | none => rw [hn3] at h; cases h
                | some e =>
                  rw [hn3, Option.bind_some] at h
                  split at h
                  · rename_i hb2
                    injection h with h
                    subst h
                    have i3 := (numI_inv hn3).2.1
                    refine ⟨⟨by omega, by omega, by omega, by omega, by omega, by omega, by omega, by omega, fun _ => hb2.1⟩, ?_⟩
                    rw [tl_strS]
                    show tl (txtI a) ++ 46 :: (tl (txtI b) ++ 45 :: (if a = a then tl (txtI e) else _)) = _
                    rw [if_pos rfl, i1, i2, i3, e1, e2]
                  · cases h
              | some x =>
                obtain ⟨hi, ri⟩ := x
                rw [hc3] at h
                dsimp only at h
                obtain ⟨e3, f3⟩ := cutC_some hc3
                cases hn3 : numI 8 hi with
                | none => rw [hn3] at h; cases h
                | some g =>
                  cases hn4 : numI 8 ri with
                  | none => rw [hn3, hn4] at h; cases h
                  | some e =>
                    rw [hn3, hn4, Option.bind_some, Option.bind_some] at h
                    split at h
                    · rename_i hb2
                      injection h with h
                      subst h
                      have i3 := (numI_inv hn3).2.1
                      have i4 := (numI_inv hn4).2.1
                      refine ⟨⟨by omega, by omega, by omega, by omega, by omega, by omega, by omega, by omega, fun hq => by omega⟩, ?_⟩
                      rw [tl_strS]
                      show tl (txtI a) ++ 46 :: (tl (txtI b) ++ 45 :: (if g = a then _ else tl (txtI g) ++ 46 :: tl (txtI e))) = _
                      rw [if_neg (by omega), i1, i2, i3, i4, e1, e2, e3]
                    · cases h
            · cases h
theorem rd_iff {z : Str} {s : Spot} : rd (tl z) = some s ↔ s.ok ∧ z = strS s := ⟨fun h => ⟨(rd_sound h).1, (ext_tl (rd_sound h).2).symm⟩, fun ⟨h1, h2⟩ => by rw [h2]; exact rd_complete h1⟩
/-- the numbers that the program finds in a place's text -/
def numsS : Spot → Option (Option Int × Option Int × Option Int × Option Int)
    | .no => none
    | .at l _ none => some (some l, none, none, none)
    | .at l la (some (b, e)) => some (some l, (if la = l then none else some la), some b, some e)
theorem nums_text {s : Spot} (h : s.ok) (hn : s ≠ .no) : numsO (tl (strS s)) = numsS s := by
  unfold numsS
  rw [tl_strS]
  rcases s with _ | ⟨l, la, _ | ⟨b, e⟩⟩
  · exact absurd rfl hn
  · simp only [Spot.ok] at h
    have n1 := numI_txt (i := l) (m := 7) (by omega) (by omega) (by omega)
    show numsO (tl (txtI l)) = _
    unfold numsO
    rw [cutC_no (txt_free (by omega) (by omega)), n1]
  · simp only [Spot.ok] at h
    have n1 := numI_txt (i := l) (m := 7) (by omega) (by omega) (by omega)
    have n2 := numI_txt (i := la) (m := 7) (by omega) (by omega) (by omega)
    have n3 := numI_txt (i := b) (m := 7) (by omega) (by omega) (by omega)
    have n4 := numI_txt (i := e) (m := 7) (by omega) (by omega) (by omega)
    show numsO (tl (txtI l) ++ 46 :: (tl (txtI b) ++ 45 :: (if la = l then tl (txtI e) else tl (txtI la) ++ 46 :: tl (txtI e)))) = _
    unfold numsO
    rw [cutC_mk (txt_free (by omega) (by omega))]
    dsimp only
    rw [cutC_mk (txt_free (by omega) (by omega))]
    dsimp only
    rw [n3, if_neg (fun h => by cases h)]
    by_cases hq : la = l
    · rw [if_pos hq, if_pos hq, cutC_no (txt_free (by omega) (by omega)), n1, n4]
    · rw [if_neg hq, if_neg hq, cutC_mk (txt_free (by omega) (by omega))]
      dsimp only
      rw [n2, if_neg (fun h => by cases h), n1, n4]
theorem nums_rd {z : Str} {s : Spot} (hd : z ≠ Str.ofString "-") (h : rd (tl z) = some s) : s ≠ .no ∧ numsO (tl z) = numsS s := by
  have e2 := rd_iff.mp h
  have hn : s ≠ .no := fun e => hd (by rw [e2.2, e]; rfl)
  exact ⟨hn, by rw [e2.2]; exact nums_text e2.1 hn⟩
theorem numsS_none {s : Spot} (hn : s ≠ .no) (h : numsS s = none) : False := by
  rcases s with _ | ⟨l, la, _ | ⟨b, e⟩⟩
  · exact hn rfl
  · cases h
  · cases h
theorem numsS_no {s : Spot} {x} (hn : s ≠ .no) (h : numsS s = some (none, x)) : False := by
  rcases s with _ | ⟨l, la, _ | ⟨b, e⟩⟩
  · exact hn rfl
  · cases h
  · cases h
theorem p_eq {s t : Spot} (h : s.p = t.p) : s = t := by
  rcases s with _ | ⟨l, la, _ | ⟨b, e⟩⟩ <;> rcases t with _ | ⟨l', la', _ | ⟨b', e'⟩⟩ <;> simp only [Spot.p, plD, D.ins.injEq, List.cons.injEq, Prod.mk.injEq, D.int.injEq, true_and, and_true, reduceCtorEq, false_and, and_false] at h <;> simp_all
theorem numsS_good {s : Spot} {a b c d : Option Int} (ho : s.ok) (hn : s ≠ .no) (h : numsS s = some (a, b, c, d)) : badP a b c d = none ∧ plD (oi a) (oi (lstD a b)) (oi c) (oi d) = s.p := by
  rcases s with _ | ⟨l, la, _ | ⟨x, y⟩⟩
  · exact absurd rfl hn
  · simp only [numsS, Option.some.injEq, Prod.mk.injEq] at h
    obtain ⟨rfl, rfl, rfl, rfl⟩ := h
    have hb := bad_none ho
    simp only [Spot.ok] at ho
    obtain ⟨h1, h2, rfl⟩ := ho
    have h1 : lineB (some la) = true := by show (decide (1 ≤ la) && decide (la ≤ 1000000)) = true; rw [decide_eq_true (by omega), decide_eq_true (by omega)]; rfl
    refine ⟨?_, rfl⟩
    unfold badP
    rw [if_neg (by rw [h1]; decide)]
    rfl
  · simp only [numsS, Option.some.injEq, Prod.mk.injEq] at h
    obtain ⟨rfl, hb', rfl, rfl⟩ := h
    by_cases hq : la = l
    · rw [if_pos hq] at hb'
      subst hb' hq
      simp only [Spot.ok] at ho
      have h1 : lineB (some la) = true := by show (decide (1 ≤ la) && decide (la ≤ 1000000)) = true; rw [decide_eq_true (by omega), decide_eq_true (by omega)]; rfl
      have h3 : beginB (some la) none (some x) = true := by show (true && (decide (0 ≤ x) && decide (x ≤ 10000))) = true; rw [decide_eq_true (by omega), decide_eq_true (by omega)]; rfl
      have h4 : endB (some la) none (some x) (some y) = true := by
        show (decide (x ≤ y) && decide (y ≤ 10000)) = true
        rw [decide_eq_true (by have := ho.2.2.2.2.2.2.2.2 trivial; omega), decide_eq_true (by omega)]; rfl
      refine ⟨?_, rfl⟩
      unfold badP
      rw [if_neg (by rw [h1]; decide), if_neg (by show ¬ true = false; decide), if_neg (by rw [h3]; decide), if_neg (by rw [h4]; decide)]
    · rw [if_neg hq] at hb'
      subst hb'
      exact ⟨bad_none ho, rfl⟩
theorem rd_nums {z : Str} {s : Spot} {a b c d : Option Int} (hd : z ≠ Str.ofString "-") (h : rd (tl z) = some s) (hq : numsO (tl z) = some (a, b, c, d)) : badP a b c d = none ∧ plD (oi a) (oi (lstD a b)) (oi c) (oi d) = s.p ∧ z = strS s := by
  obtain ⟨h1, h2⟩ := nums_rd hd h
  obtain ⟨h3, h4⟩ := numsS_good (rd_sound h).1 h1 (h2.symm.trans hq)
  exact ⟨h3, h4, (rd_iff.mp h).2⟩
end K05

/-! each def does what is promised: over data alone -/
namespace K05
open PySem L2 DL PL EN TL
local macro_rules | `(tactic| walk_at "w") => `(tactic| conv => whnf)
local macro_rules | `(tactic| walk_at "c") => `(tactic| first | exact trivial | with_reducible assumption | exact ⟨_, rfl⟩ | exact rfl | exact And.intro rfl rfl | exact Nat.le_of_ble_eq_true rfl | exact (fun _ => rfl) | exact (fun _ => imm_ints _) | exact okD_ints _ | (intro z; cases z; done) | omega | (refine Or.inl ⟨?_, ?_⟩ <;> omega) | (refine Or.inr ⟨?_, ?_⟩ <;> omega) | (refine ⟨?_, ?_⟩ <;> omega) | (refine ⟨?_, ?_, ?_⟩ <;> omega) | (simp only [List.length_cons, List.length_nil, List.length_map, List.length_append, sizeLine_eq]; omega) | decide | decide +kernel | assumption)
local macro_rules | `(tactic| walk_at "g") => `(tactic| ((conv => whnf); repeat ((first | ((with_reducible refine And.intro ?_ ?_); focus (walk_at "c")) | refine ifb_t (by decide +kernel) ?_ | refine ifb_f (by decide +kernel) ?_ | refine IfB.f ?_ | refine IfB.t ?_); (conv => whnf))))
local macro_rules | `(tactic| walk_at "x") => `(tactic| (walk_at "g"; try ((refine IfB.mk (fun h => ?_) (fun h => ?_)) <;> (((try simp only [S.d, deqv_int, decide_eq_true_eq, decide_eq_false_iff_not, Bool.not_eq_true', Bool.not_eq_false', Bool.not_eq_true, Bool.not_eq_false, eq_self, not_true_eq_false, not_false_eq_true, decide_true, decide_false, Bool.not_true, Bool.not_false, Bool.false_eq_true, reduceCtorEq, Int.reduceToNat, Int.reducePow, Int.reduceNeg] at h) <;> (first | (exfalso; omega) | walk_at "x"))))))
theorem bls_map : ∀ l : List Bool, blsOf (l.map D.bl) = some l
  | [] => rfl
  | b :: r => by rw [List.map_cons, blsOf, bls_map r]
theorem deqv_strs (a b : Str) : deqv (.str a) (.str b) = decide (a = b) := by
  unfold deqv
  rw [toP, toP]
  show (a == b) = _
  by_cases h : a = b
  · subst h
    simp
  · rw [decide_eq_false h]
    simpa using h
theorem okD_txt {z : Str} (h : ∀ c ∈ z.cps.toList, c < 1114112) : okD (.str z) = true := okD_of (n := 0) (okN_str 0 (by
  unfold PyData.strOk
  rw [Array.all_eq_true']
  intro c hc
  exact decide_eq_true (h c (Array.mem_toList_iff.mpr hc)))) (by decide)
def figB (c : Nat) : Bool := decide (c ∈ (Str.ofString "0123456789").cps.toList)
theorem figs : (Str.ofString "0123456789").cps.toList = [48, 49, 50, 51, 52, 53, 54, 55, 56, 57] := by decide +kernel
theorem figB_iff (c : Nat) : figB c = true ↔ 48 ≤ c ∧ c ≤ 57 := by
  unfold figB
  rw [decide_eq_true_iff, figs]
  simp only [List.mem_cons, List.not_mem_nil, or_false]
  omega
theorem figB_all (l : List Nat) : (l.map figB).all id = true ↔ ∀ c ∈ l, 48 ≤ c ∧ c ≤ 57 := by
  rw [List.all_map, List.all_eq_true]
  exact ⟨fun h c hc => (figB_iff c).mp (h c hc), fun h c hc => (figB_iff c).mpr (h c hc)⟩
theorem fg_c (x0 x1 : Option S) : ∀ (cs : List Nat) (acc : List Bool) (Rr : List D → Rho → Prop), acc.length + cs.length ≤ 100000 → Rr ((acc ++ cs.map figB).map D.bl) [x0, x1, none] →
    compL (gN 2) dYes t_figures_in_E1 [2] (cs.map fun c => D.str ⟨#[c]⟩) (acc.map D.bl) [x0, x1, none] Rr
  | [], acc, Rr, hl, k => by
    rw [List.map_nil, List.append_nil] at k
    exact k
  | c :: r, acc, Rr, hl, k => by
    rw [List.length_cons] at hl
    have hz : (acc.map D.bl).length < sizeLine := by rw [List.length_map, sizeLine_eq]; omega
    have ih := fg_c x0 x1 r (acc ++ [figB c]) Rr (by simp; omega) (by rw [List.append_assoc]; exact k)
    rw [List.map_append] at ih
    clear k
    show compL _ _ _ _ (.str ⟨#[c]⟩ :: (r.map fun c => D.str ⟨#[c]⟩)) _ _ _
    walk_at "g"
    refine ⟨c, rfl, ?_⟩
    walk_at "g"
    exact ih
theorem ln_c (x0 : Option S) : ∀ (cs : List Nat) (acc : List Bool) (Rr : List D → Rho → Prop), acc.length + cs.length ≤ 100000 → Rr ((acc ++ cs.map figB).map D.bl) [x0, none] →
    compL (gN 1) dYes t_l_number_E1 [1] (cs.map fun c => D.str ⟨#[c]⟩) (acc.map D.bl) [x0, none] Rr
  | [], acc, Rr, hl, k => by
    rw [List.map_nil, List.append_nil] at k
    exact k
  | c :: r, acc, Rr, hl, k => by
    rw [List.length_cons] at hl
    have hz : (acc.map D.bl).length < sizeLine := by rw [List.length_map, sizeLine_eq]; omega
    have ih := ln_c x0 r (acc ++ [figB c]) Rr (by simp; omega) (by rw [List.append_assoc]; exact k)
    rw [List.map_append] at ih
    clear k
    show compL _ _ _ _ (.str ⟨#[c]⟩ :: (r.map fun c => D.str ⟨#[c]⟩)) _ _ _
    walk_at "g"
    refine ⟨c, rfl, ?_⟩
    walk_at "g"
    exact ih
theorem p_figures_in : ∀ as R RX, sp_figures_in as R RX → cntM as ≤ 1 → t_figures_in (defEnds as R) (startR 3 as) := by
  rintro as R RX ⟨z, rfl, ho, k⟩ _
  have okz := okD_txt ho.2
  have hl := ho.1
  have lz := len_z z
  by_cases h1 : 1 ≤ z.length
  · by_cases h2 : z.length ≤ 7
    · have hd : ∃ c r, tl z = c :: r := by
        cases h : tl z with
        | nil => rw [h, List.length_nil] at lz; omega
        | cons c r => exact ⟨c, r, rfl⟩
      obtain ⟨c, r, ez⟩ := hd
      have e0 : atI z.cps.toList 0 = some c := by
        show atI (tl z) 0 = _
        rw [ez]
        unfold atI ixN
        rw [if_pos (by omega), if_pos (by simp)]
        rfl
      have len0 : z.length ≤ sizeLine := by rw [sizeLine_eq]; omega
      have okc : ∀ c : Nat, c < 1114112 → okD (.str ⟨#[c]⟩) = true := fun c hc => okD_txt fun d hd => by
        have hd : d ∈ [c] := hd
        rw [List.mem_singleton.mp hd]; exact hc
      have okcc := okc c (ho.2 c (by show c ∈ tl z; rw [ez]; exact List.mem_cons_self))
      walk_at "g"
      refine ifb_t (decide_eq_true (by omega)) ?_
      walk_at "g"
      refine ifb_f (by simp only [Bool.not_eq_false']; exact decide_eq_true (by omega)) ?_
      walk_at "g"
      refine (?_ : compL (gN 2) dYes t_figures_in_E1 [2] ((tl z).map fun c => D.str ⟨#[c]⟩) (([] : List Bool).map D.bl) [_, _, none] _)
      refine fg_c _ _ (tl z) [] _ (by rw [List.length_nil]; omega) ?_
      rw [List.nil_append]
      walk_at "w"
      rw [bls_map]
      walk_at "w"
      cases ha : ((tl z).map figB).all id with
      | false =>
        have hn : numI 7 (tl z) = none := by
          unfold numI
          rw [if_neg fun h => by rw [(figB_all _).mpr h.2.2.1] at ha; cases ha]
        rw [hn] at k
        walk_at "g"
        exact k
      | true =>
        have ha := (figB_all _).mp ha
        have d0 := deqv_strs (⟨#[c]⟩) (Str.ofString "0")
        have dz := deqv_strs z (Str.ofString "0")
        have z0 : Str.ofString "0" = ⟨#[48]⟩ := by decide +kernel
        have ok0 : okD (.str (Str.ofString "0")) = true := by decide +kernel
        have hi : intText? z = some ((NumText.digitsVal (tl z) : Nat) : Int) := intText_digits (x := z) ha (by show tl z ≠ []; rw [ez]; simp) (by omega)
        have hg : (tl z).head? ≠ some 48 ∨ tl z = [48] → numI 7 (tl z) = some ((NumText.digitsVal (tl z) : Nat) : Int) := fun h => by
          unfold numI
          rw [if_pos ⟨by omega, by rw [ez]; simp, ha, h⟩]
        have hb : (tl z).head? = some 48 → tl z ≠ [48] → numI 7 (tl z) = none := fun h1 h2 => by
          unfold numI
          rw [if_neg fun h => h.2.2.2.elim (fun g => g h1) (fun g => h2 g)]
        walk_at "g"
        rw [e0]
        walk_at "w"
        refine ⟨len0, ?_⟩
        walk_at "w"
        refine ⟨okcc, ok0, ?_⟩
        by_cases hc : c = 48
        · have d0 : deqv (.str ⟨#[c]⟩) (.str (Str.ofString "0")) = true := by rw [d0, hc, z0]; exact decide_eq_true rfl
          have h48 : (tl z).head? = some 48 := by rw [ez, hc]; rfl
          by_cases hz : z = Str.ofString "0"
          · have dz : deqv (.str z) (.str (Str.ofString "0")) = true := by rw [dz]; exact decide_eq_true hz
            rw [hg (.inr (by rw [hz, z0]))] at k
            walk_at "w"
            refine ifb_t d0 ?_
            walk_at "w"
            refine ⟨okz, ok0, ?_⟩
            walk_at "w"
            refine ifb_f (by show (!deqv (.str z) (.str (Str.ofString "0"))) = false; rw [dz]; rfl) ?_
            walk_at "w"
            refine ⟨by omega, _, hi, ?_⟩
            walk_at "g"
            exact k
          · have dz : deqv (.str z) (.str (Str.ofString "0")) = false := by rw [dz]; exact decide_eq_false hz
            rw [hb h48 (fun h => hz (by rw [z0]; exact ext_tl h))] at k
            walk_at "w"
            refine ifb_t d0 ?_
            walk_at "w"
            refine ⟨okz, ok0, ?_⟩
            walk_at "w"
            refine ifb_t (by show (!deqv (.str z) (.str (Str.ofString "0"))) = true; rw [dz]; rfl) ?_
            walk_at "w"
            exact k
        · have d0 : deqv (.str ⟨#[c]⟩) (.str (Str.ofString "0")) = false := by
            rw [d0, z0]
            exact decide_eq_false fun h => hc (by have := congrArg tl h; exact (List.cons.inj this).1)
          rw [hg (.inl (by rw [ez]; intro h; injection h with h; exact hc h))] at k
          walk_at "w"
          refine ifb_f d0 ?_
          walk_at "g"
          refine ⟨_, hi, ?_⟩
          walk_at "g"
          exact k
    · have hn : numI 7 (tl z) = none := by
        unfold numI
        rw [if_neg fun h => by have := h.1; omega]
      rw [hn] at k
      walk_at "g"
      refine ifb_t (decide_eq_true (by omega)) ?_
      walk_at "g"
      refine ifb_t (by simp only [Bool.not_eq_true']; exact decide_eq_false (by omega)) ?_
      walk_at "g"
      exact k
  · have hn : numI 7 (tl z) = none := by
      unfold numI
      rw [if_neg fun h => h1 (by have := List.length_pos_iff.mpr h.2.1; omega)]
    rw [hn] at k
    walk_at "g"
    refine ifb_f (decide_eq_false (by omega)) ?_
    walk_at "g"
    exact k
theorem p_number_in : ∀ as R RX, sp_number_in as R RX → cntM as ≤ 1 → t_number_in (defEnds as R) (startR 1 as) := by
  rintro as R RX ⟨z, rfl, ho, k⟩ _
  walk_at "g"
  refine ⟨z, rfl, ho, ?_⟩
  generalize numI 7 (tl z) = o at *
  walk_at "g"
  exact k
theorem p_l_within : ∀ as R RX, sp_l_within as R RX → cntM as ≤ 1 → t_l_within (defEnds as R) (startR 3 as) := by
  rintro as R RX ⟨o, lo, hi, rfl, k⟩ _
  cases o with
  | none =>
    walk_at "g"
    exact k
  | some n =>
    simp only [winO] at k
    walk_at "g"
    by_cases h : lo ≤ n
    · rw [decide_eq_true h, Bool.true_and] at k
      refine ifb_t (decide_eq_true h) ?_
      walk_at "g"
      exact k
    · rw [decide_eq_false h, Bool.false_and] at k
      refine ifb_f (decide_eq_false h) ?_
      walk_at "g"
      exact k
theorem p_l_number : ∀ as R RX, sp_l_number as R RX → cntM as ≤ 1 → t_l_number (defEnds as R) (startR 2 as) := by
  rintro as R RX ⟨z, rfl, ho, k⟩ _
  have okz := okD_txt ho.2
  have hl := ho.1
  have lz := len_z z
  by_cases h1 : 1 ≤ z.length
  · by_cases h2 : z.length ≤ 8
    · have hd : ∃ c r, tl z = c :: r := by
        cases h : tl z with
        | nil => rw [h, List.length_nil] at lz; omega
        | cons c r => exact ⟨c, r, rfl⟩
      obtain ⟨c, r, ez⟩ := hd
      have e0 : atI z.cps.toList 0 = some c := by
        show atI (tl z) 0 = _
        rw [ez]
        unfold atI ixN
        rw [if_pos (by omega), if_pos (by simp)]
        rfl
      have len0 : z.length ≤ sizeLine := by rw [sizeLine_eq]; omega
      have okc : ∀ c : Nat, c < 1114112 → okD (.str ⟨#[c]⟩) = true := fun c hc => okD_txt fun d hd => by
        have hd : d ∈ [c] := hd
        rw [List.mem_singleton.mp hd]; exact hc
      have okcc := okc c (ho.2 c (by show c ∈ tl z; rw [ez]; exact List.mem_cons_self))
      walk_at "g"
      refine ifb_t (decide_eq_true (by omega)) ?_
      walk_at "g"
      refine ifb_f (by simp only [Bool.not_eq_false']; exact decide_eq_true (by omega)) ?_
      walk_at "g"
      refine (?_ : compL (gN 1) dYes t_l_number_E1 [1] ((tl z).map fun c => D.str ⟨#[c]⟩) (([] : List Bool).map D.bl) [_, none] _)
      refine ln_c _ (tl z) [] _ (by rw [List.length_nil]; omega) ?_
      rw [List.nil_append]
      walk_at "w"
      rw [bls_map]
      walk_at "w"
      cases ha : ((tl z).map figB).all id with
      | false =>
        have hn : numI 8 (tl z) = none := by
          unfold numI
          rw [if_neg fun h => by rw [(figB_all _).mpr h.2.2.1] at ha; cases ha]
        rw [hn] at k
        walk_at "g"
        exact k
      | true =>
        have ha := (figB_all _).mp ha
        have d0 := deqv_strs (⟨#[c]⟩) (Str.ofString "0")
        have dz := deqv_strs z (Str.ofString "0")
        have z0 : Str.ofString "0" = ⟨#[48]⟩ := by decide +kernel
        have ok0 : okD (.str (Str.ofString "0")) = true := by decide +kernel
        have hi : intText? z = some ((NumText.digitsVal (tl z) : Nat) : Int) := intText_digits (x := z) ha (by show tl z ≠ []; rw [ez]; simp) (by omega)
        have hg : (tl z).head? ≠ some 48 ∨ tl z = [48] → numI 8 (tl z) = some ((NumText.digitsVal (tl z) : Nat) : Int) := fun h => by
          unfold numI
          rw [if_pos ⟨by omega, by rw [ez]; simp, ha, h⟩]
        have hb : (tl z).head? = some 48 → tl z ≠ [48] → numI 8 (tl z) = none := fun h1 h2 => by
          unfold numI
          rw [if_neg fun h => h.2.2.2.elim (fun g => g h1) (fun g => h2 g)]
        walk_at "w"
        refine ifb_f rfl ?_
        walk_at "w"
        refine ⟨okz, ok0, ?_⟩
        by_cases hz : z = Str.ofString "0"
        · have dz : deqv (.str z) (.str (Str.ofString "0")) = true := by rw [dz]; exact decide_eq_true hz
          rw [hg (.inr (by rw [hz, z0]))] at k
          walk_at "w"
          refine ifb_t dz ?_
          walk_at "g"
          refine ⟨_, hi, ?_⟩
          walk_at "g"
          exact k
        · have dz : deqv (.str z) (.str (Str.ofString "0")) = false := by rw [dz]; exact decide_eq_false hz
          walk_at "w"
          refine ifb_f dz ?_
          walk_at "g"
          rw [e0]
          walk_at "w"
          refine ⟨len0, ?_⟩
          walk_at "w"
          refine ⟨okcc, ok0, ?_⟩
          by_cases hc : c = 48
          · have d0 : deqv (.str ⟨#[c]⟩) (.str (Str.ofString "0")) = true := by rw [d0, hc, z0]; exact decide_eq_true rfl
            rw [hb (by rw [ez, hc]; rfl) (fun h => hz (by rw [z0]; exact ext_tl h))] at k
            walk_at "w"
            refine ifb_f (by show (!deqv (.str ⟨#[c]⟩) (.str (Str.ofString "0"))) = false; rw [d0]; rfl) ?_
            walk_at "g"
            exact k
          · have d0 : deqv (.str ⟨#[c]⟩) (.str (Str.ofString "0")) = false := by
              rw [d0, z0]
              exact decide_eq_false fun h => hc (by have := congrArg tl h; exact (List.cons.inj this).1)
            rw [hg (.inl (by rw [ez]; intro h; injection h with h; exact hc h))] at k
            walk_at "w"
            refine ifb_t (by show (!deqv (.str ⟨#[c]⟩) (.str (Str.ofString "0"))) = true; rw [d0]; rfl) ?_
            walk_at "g"
            refine ⟨_, hi, ?_⟩
            walk_at "g"
            exact k
    · have hn : numI 8 (tl z) = none := by
        unfold numI
        rw [if_neg fun h => by have := h.1; omega]
      rw [hn] at k
      walk_at "g"
      refine ifb_t (decide_eq_true (by omega)) ?_
      walk_at "g"
      refine ifb_t (by simp only [Bool.not_eq_true']; exact decide_eq_false (by omega)) ?_
      walk_at "g"
      exact k
  · have hn : numI 8 (tl z) = none := by
      unfold numI
      rw [if_neg fun h => h1 (by have := List.length_pos_iff.mpr h.2.1; omega)]
    rw [hn] at k
    walk_at "g"
    refine ifb_f (decide_eq_false (by omega)) ?_
    walk_at "g"
    exact k
end K05

/-! each def does what is promised: over data alone -/
namespace K05
open PySem L2 DL PL EN TL
local macro_rules | `(tactic| walk_at "w") => `(tactic| conv => whnf)
local macro_rules | `(tactic| walk_at "c") => `(tactic| first | exact trivial | with_reducible assumption | exact ⟨_, rfl⟩ | exact rfl | exact And.intro rfl rfl | exact Nat.le_of_ble_eq_true rfl | exact (fun _ => rfl) | exact (fun _ => imm_ints _) | exact okD_ints _ | (intro z; cases z; done) | omega | (refine Or.inl ⟨?_, ?_⟩ <;> omega) | (refine Or.inr ⟨?_, ?_⟩ <;> omega) | (refine ⟨?_, ?_⟩ <;> omega) | (refine ⟨?_, ?_, ?_⟩ <;> omega) | (simp only [List.length_cons, List.length_nil, List.length_map, List.length_append, sizeLine_eq]; omega) | decide | decide +kernel | assumption)
local macro_rules | `(tactic| walk_at "g") => `(tactic| ((conv => whnf); repeat ((first | ((with_reducible refine And.intro ?_ ?_); focus (walk_at "c")) | refine ifb_t (by decide +kernel) ?_ | refine ifb_f (by decide +kernel) ?_ | refine IfB.f ?_ | refine IfB.t ?_); (conv => whnf))))
local macro_rules | `(tactic| walk_at "x") => `(tactic| (walk_at "g"; try ((refine IfB.mk (fun h => ?_) (fun h => ?_)) <;> (((try simp only [S.d, deqv_int, decide_eq_true_eq, decide_eq_false_iff_not, Bool.not_eq_true', Bool.not_eq_false', Bool.not_eq_true, Bool.not_eq_false, eq_self, not_true_eq_false, not_false_eq_true, decide_true, decide_false, Bool.not_true, Bool.not_false, Bool.false_eq_true, reduceCtorEq, Int.reduceToNat, Int.reducePow, Int.reduceNeg] at h) <;> (first | (exfalso; omega) | walk_at "x"))))))
theorem sub_ok {z : Str} {l : List Nat} (h : txtOk z) (hs : ∀ c ∈ l, c ∈ tl z) (hl : l.length ≤ (tl z).length) : txtOk (SX.S l) := ⟨by rw [lenS]; have := h.1; rw [len_z] at this; omega, fun c hc => h.2 c (hs c hc)⟩
theorem part_ok {z : Str} {p q : List Nat} {c : Nat} (h : txtOk z) (e : tl z = p ++ c :: q) : txtOk (SX.S p) ∧ txtOk (SX.S q) :=
  ⟨sub_ok h (fun x hx => by rw [e]; simp [hx]) (by rw [e]; simp only [List.length_append]; omega), sub_ok h (fun x hx => by rw [e]; simp [hx]) (by rw [e]; simp only [List.length_append, List.length_cons]; omega)⟩
theorem ok_dot : okD (.str ⟨#[46]⟩) = true := by decide +kernel
theorem ok_das : okD (.str ⟨#[45]⟩) = true := by decide +kernel
theorem ok_e : okD (.str (SX.S [])) = true := by decide +kernel
theorem ok_em : okD (.str (Str.ofString "")) = true := by decide +kernel
theorem dq_e : deqv (.str (SX.S [])) (.str (Str.ofString "")) = true := by rw [deqv_strs]; decide +kernel
theorem dq_dot : deqv (.str ⟨#[46]⟩) (.str (Str.ofString "")) = false := by rw [deqv_strs]; decide +kernel
theorem dq_das : deqv (.str ⟨#[45]⟩) (.str (Str.ofString "")) = false := by rw [deqv_strs]; decide +kernel
theorem imm_oi (o : Option Int) : (S.v (oi o)).imm = true := by cases o <;> rfl
@[irreducible] def niT2 : DST := (dSeq (dAsg (dTm partD (dV 3) (dC (.str "-"))) (gU (gsCons (gN 4) (gsCons (gN 5) (gsCons (gN 6) gsNil))))) (dSeq (dAsg (dTm partD (dV 6) (dC (.str "."))) (gU (gsCons (gN 7) (gsCons (gN 8) (gsCons (gN 9) gsNil))))) (dSeq (dIfS (dtOr (dTest (dBin eqD (dhV 5) (dhE (dC (.str ""))))) (dTest (dBin isND (dhE (dCall sp_number_in [] (daCons (dhV 4) daNil))) (dhE (dC .non))))) (dRet (dC .non)) dNext) (dSeq (dIfS (dTest (dBin eqD (dhV 8) (dhE (dC (.str ""))))) (dRet (dTup (daCons (dhE (dCall sp_number_in [] (daCons (dhV 1) daNil))) (daCons (dhE (dC .non)) (daCons (dhE (dCall sp_number_in [] (daCons (dhV 4) daNil))) (daCons (dhE (dCall sp_number_in [] (daCons (dhV 6) daNil))) daNil)))))) dNext) (dRet (dIf (dTest (dBin isND (dhE (dCall sp_number_in [] (daCons (dhV 7) daNil))) (dhE (dC .non)))) (dC .non) (dTup (daCons (dhE (dCall sp_number_in [] (daCons (dhV 1) daNil))) (daCons (dhE (dCall sp_number_in [] (daCons (dhV 7) daNil))) (daCons (dhE (dCall sp_number_in [] (daCons (dhV 4) daNil))) (daCons (dhE (dCall sp_number_in [] (daCons (dhV 9) daNil))) daNil)))))))))))
theorem ni_eq : t_numbers_in = (dSeq (dAsg (dTm partD (dV 0) (dC (.str "."))) (gU (gsCons (gN 1) (gsCons (gN 2) (gsCons (gN 3) gsNil))))) (dSeq (dIfS (dTest (dBin eqD (dhV 2) (dhE (dC (.str ""))))) (dRet (dTup (daCons (dhE (dCall sp_number_in [] (daCons (dhV 1) daNil))) (daCons (dhE (dC .non)) (daCons (dhE (dC .non)) (daCons (dhE (dC .non)) daNil)))))) dNext) niT2)) := by unfold t_numbers_in niT2; rfl
theorem p_numbers_in : ∀ as R RX, sp_numbers_in as R RX → cntM as ≤ 1 → t_numbers_in (defEnds as R) (startR 10 as) := by
  rintro as R RX ⟨z, rfl, ho, k⟩ _
  have hl := ho.1
  have len0 : z.length ≤ sizeLine := by rw [sizeLine_eq]; omega
  rw [ni_eq]
  have hdot : (((Str.ofString ".").length == 0) = false) := by decide +kernel
  have hdas : (((Str.ofString "-").length == 0) = false) := by decide +kernel
  walk_at "w"
  refine ⟨hdot, len0, ?_⟩
  rw [str_dot]
  cases hc : cutC 46 (tl z) with
  | none =>
    have hp := part_none (cutC_none hc)
    have k : R (.v (.tup [oi (numI 7 (tl z)), .non, .non, .non])) [] := by
      unfold numsO at k
      rw [hc] at k
      exact k
    rw [hp]
    walk_at "w"
    refine ⟨ok_e, ok_em, ?_⟩
    walk_at "w"
    refine ifb_t dq_e ?_
    walk_at "g"
    refine ⟨z, rfl, ho, ?_⟩
    generalize numI 7 (tl z) = o at *
    walk_at "g"
    exact k
  | some x =>
    obtain ⟨lo, rest⟩ := x
    obtain ⟨e1, f1⟩ := cutC_some hc
    have hp := part_some e1 f1
    obtain ⟨ol, orr⟩ := part_ok ho e1
    have len1 : (SX.S rest).length ≤ sizeLine := by have := orr.1; rw [sizeLine_eq]; omega
    rw [hp]
    walk_at "w"
    refine ⟨ok_dot, ok_em, ?_⟩
    walk_at "w"
    refine ifb_f dq_dot ?_
    unfold niT2
    walk_at "w"
    refine ⟨hdas, len1, ?_⟩
    rw [str_das]
    unfold numsO at k
    rw [hc] at k
    dsimp only at k
    cases hc2 : cutC 45 rest with
    | none =>
      have hp2 : Txt.partition (SX.S rest) ⟨#[45]⟩ = _ := part_none (cutC_none hc2)
      rw [hc2] at k
      rw [show Txt.partition ((z, ({ cps := #[46] } : Str), SX.S rest).2.2) ⟨#[45]⟩ = _ from hp2]
      walk_at "w"
      refine ⟨hdot, by rw [lenS, sizeLine_eq]; simp, ?_⟩
      rw [str_dot, show Txt.partition ((SX.S rest, SX.S [], SX.S []).2.2) ⟨#[46]⟩ = _ from part_none (z := SX.S []) (c := 46) (by simp [tlS])]
      walk_at "w"
      refine ⟨ok_e, ok_em, ?_⟩
      walk_at "w"
      refine ifb_t dq_e ?_
      walk_at "g"
      exact k
    | some y =>
      obtain ⟨le, back⟩ := y
      obtain ⟨e2, f2⟩ := cutC_some hc2
      have hp2 : Txt.partition (SX.S rest) ⟨#[45]⟩ = _ := part_some (z := SX.S rest) e2 f2
      obtain ⟨oe, ob⟩ := part_ok (z := SX.S rest) orr e2
      have len2 : (SX.S back).length ≤ sizeLine := by have := ob.1; rw [sizeLine_eq]; omega
      rw [hc2] at k
      dsimp only at k
      rw [show Txt.partition ((z, ({ cps := #[46] } : Str), SX.S rest).2.2) ⟨#[45]⟩ = _ from hp2]
      clear hp hp2 hc hc2
      walk_at "w"
      refine ⟨hdot, len2, ?_⟩
      rw [str_dot]
      by_cases hln : numI 7 le = none
      · rw [hln] at k
        generalize hP : Txt.partition ((SX.S le, ({ cps := #[45] } : Str), SX.S back).2.2) ⟨#[46]⟩ = P at *
        obtain ⟨P1, P2, P3⟩ := P
        walk_at "w"
        refine ⟨ok_das, ok_em, ?_⟩
        walk_at "w"
        refine ifb_f dq_das ?_
        walk_at "w"
        refine ⟨SX.S le, rfl, oe, fun _ => imm_oi _, ?_⟩
        rw [tlS, hln]
        walk_at "g"
        exact k
      · obtain ⟨nl, hnl⟩ := Option.ne_none_iff_exists'.mp hln
        rw [hnl] at k
        rw [if_neg (fun h => by cases h)] at k
        cases hc3 : cutC 46 back with
        | none =>
          rw [hc3] at k
          dsimp only at k
          rw [show Txt.partition ((SX.S le, ({ cps := #[45] } : Str), SX.S back).2.2) ⟨#[46]⟩ = _ from part_none (z := SX.S back) (cutC_none hc3)]
          walk_at "w"
          refine ⟨ok_das, ok_em, ?_⟩
          walk_at "w"
          refine ifb_f dq_das ?_
          walk_at "w"
          refine ⟨SX.S le, rfl, oe, fun _ => imm_oi _, ?_⟩
          rw [tlS, hnl]
          walk_at "g"
          refine ⟨ok_e, ok_em, ?_⟩
          walk_at "w"
          refine ifb_t dq_e ?_
          walk_at "g"
          refine ⟨SX.S lo, rfl, ol, fun _ => imm_oi _, ?_⟩
          rw [tlS]
          generalize numI 7 lo = o1 at *
          walk_at "w"
          refine ⟨SX.S le, rfl, oe, fun _ => imm_oi _, ?_⟩
          rw [tlS, hnl]
          walk_at "w"
          refine ⟨SX.S back, rfl, ob, fun _ => imm_oi _, ?_⟩
          rw [tlS]
          generalize numI 7 back = o2 at *
          walk_at "g"
          exact k
        | some w =>
          obtain ⟨hi, ri⟩ := w
          obtain ⟨e3, f3⟩ := cutC_some hc3
          obtain ⟨oh, oi'⟩ := part_ok (z := SX.S back) ob e3
          rw [hc3] at k
          dsimp only at k
          rw [show Txt.partition ((SX.S le, ({ cps := #[45] } : Str), SX.S back).2.2) ⟨#[46]⟩ = _ from part_some (z := SX.S back) e3 f3]
          walk_at "w"
          refine ⟨ok_das, ok_em, ?_⟩
          walk_at "w"
          refine ifb_f dq_das ?_
          walk_at "w"
          refine ⟨SX.S le, rfl, oe, fun _ => imm_oi _, ?_⟩
          rw [tlS, hnl]
          walk_at "g"
          refine ⟨ok_dot, ok_em, ?_⟩
          walk_at "w"
          refine ifb_f dq_dot ?_
          walk_at "w"
          refine ⟨SX.S hi, rfl, oh, fun _ => imm_oi _, ?_⟩
          rw [tlS]
          by_cases hhn : numI 7 hi = none
          · rw [hhn] at k ⊢
            walk_at "g"
            exact k
          · obtain ⟨nh, hnh⟩ := Option.ne_none_iff_exists'.mp hhn
            rw [hnh] at k ⊢
            rw [if_neg (fun h => by cases h)] at k
            walk_at "g"
            refine ⟨SX.S lo, rfl, ol, fun _ => imm_oi _, ?_⟩
            rw [tlS]
            generalize numI 7 lo = o1 at *
            walk_at "w"
            refine ⟨SX.S hi, rfl, oh, fun _ => imm_oi _, ?_⟩
            rw [tlS, hnh]
            walk_at "w"
            refine ⟨SX.S le, rfl, oe, fun _ => imm_oi _, ?_⟩
            rw [tlS, hnl]
            walk_at "w"
            refine ⟨SX.S ri, rfl, oi', fun _ => imm_oi _, ?_⟩
            rw [tlS]
            generalize numI 7 ri = o2 at *
            walk_at "g"
            exact k
end K05

/-! each def does what is promised: over data alone -/
namespace K05
open PySem L2 DL PL EN TL
local macro_rules | `(tactic| walk_at "w") => `(tactic| conv => whnf)
local macro_rules | `(tactic| walk_at "c") => `(tactic| first | exact trivial | with_reducible assumption | exact ⟨_, rfl⟩ | exact rfl | exact And.intro rfl rfl | exact Nat.le_of_ble_eq_true rfl | exact (fun _ => rfl) | exact (fun _ => imm_ints _) | exact okD_ints _ | (intro z; cases z; done) | omega | (refine Or.inl ⟨?_, ?_⟩ <;> omega) | (refine Or.inr ⟨?_, ?_⟩ <;> omega) | (refine ⟨?_, ?_⟩ <;> omega) | (refine ⟨?_, ?_, ?_⟩ <;> omega) | (simp only [List.length_cons, List.length_nil, List.length_map, List.length_append, sizeLine_eq]; omega) | decide | decide +kernel | assumption)
local macro_rules | `(tactic| walk_at "g") => `(tactic| ((conv => whnf); repeat ((first | ((with_reducible refine And.intro ?_ ?_); focus (walk_at "c")) | refine ifb_t (by decide +kernel) ?_ | refine ifb_f (by decide +kernel) ?_ | refine IfB.f ?_ | refine IfB.t ?_); (conv => whnf))))
local macro_rules | `(tactic| walk_at "x") => `(tactic| (walk_at "g"; try ((refine IfB.mk (fun h => ?_) (fun h => ?_)) <;> (((try simp only [S.d, deqv_int, decide_eq_true_eq, decide_eq_false_iff_not, Bool.not_eq_true', Bool.not_eq_false', Bool.not_eq_true, Bool.not_eq_false, eq_self, not_true_eq_false, not_false_eq_true, decide_true, decide_false, Bool.not_true, Bool.not_false, Bool.false_eq_true, reduceCtorEq, Int.reduceToNat, Int.reducePow, Int.reduceNeg] at h) <;> (first | (exfalso; omega) | walk_at "x"))))))
theorem p_ins (s : Spot) : ∃ fs, s.p = .ins "Place" fs := by rcases s with _ | ⟨l, la, _ | ⟨b, e⟩⟩ <;> exact ⟨_, rfl⟩
theorem tx8 {i : Int} (h0 : 0 ≤ i) (h1 : i ≤ 1000000) : (txtI i).length ≤ 8 := txtI_len (k := 7) (by decide) (by omega)
theorem lg8 {i : Int} (h0 : 0 ≤ i) (h1 : i ≤ 1000000) : i.natAbs.log2 < 1920 := log_small (by omega) (by omega)
theorem dot1 : (Str.ofString ".").length = 1 := by decide +kernel
theorem das1 : (Str.ofString "-").length = 1 := by decide +kernel
theorem e0 : Str.empty.length = 0 := rfl
theorem strS_len {s : Spot} (h : s.ok) : (strS s).length ≤ 50 := by
  rcases s with _ | ⟨l, la, _ | ⟨b, e⟩⟩
  · show (Str.ofString "-").length ≤ 50
    rw [das1]; omega
  · simp only [Spot.ok] at h
    have := tx8 (i := l) (by omega) (by omega)
    show (txtI l).length ≤ 50
    omega
  · simp only [Spot.ok] at h
    have h1 := tx8 (i := l) (by omega) (by omega)
    have h2 := tx8 (i := la) (by omega) (by omega)
    have h3 := tx8 (i := b) (by omega) (by omega)
    have h4 := tx8 (i := e) (by omega) (by omega)
    simp only [strS]
    split <;> simp only [str_len, dot1, das1] <;> omega
theorem strS_ok (s : Spot) : PyData.strOk (strS s) = true := by
  rcases s with _ | ⟨l, la, _ | ⟨b, e⟩⟩
  · exact strok_of _
  · exact strok_txt _
  · simp only [strS]
    split
    · exact strok_app (strok_app (strok_app (strok_app (strok_txt _) (strok_of _)) (strok_txt _)) (strok_of _)) (strok_txt _)
    · exact strok_app (strok_app (strok_app (strok_app (strok_app (strok_app (strok_txt _) (strok_of _)) (strok_txt _)) (strok_of _)) (strok_txt _)) (strok_of _)) (strok_txt _)
theorem p_Place_str : ∀ as R RX, sp_Place_str as R RX → cntM as ≤ 1 → t_Place_str (defEnds as R) (startR 1 as) := by
  rintro as R RX ⟨s, rfl, ho, k⟩ _
  rcases s with _ | ⟨l, la, _ | ⟨b, e⟩⟩
  · walk_at "g"; exact k
  · simp only [Spot.ok] at ho
    have g := lg8 (i := l) (by omega) (by omega)
    walk_at "g"
    exact k
  · simp only [Spot.ok] at ho
    have g1 := lg8 (i := l) (by omega) (by omega)
    have g2 := lg8 (i := la) (by omega) (by omega)
    have g3 := lg8 (i := b) (by omega) (by omega)
    have g4 := lg8 (i := e) (by omega) (by omega)
    have h1 := tx8 (i := l) (by omega) (by omega)
    have h2 := tx8 (i := la) (by omega) (by omega)
    have h3 := tx8 (i := b) (by omega) (by omega)
    have h4 := tx8 (i := e) (by omega) (by omega)
    have fin : ∀ a b, a = b → R (.v (.str a)) [] → R (.v (.str b)) [] := fun a b e h => e ▸ h
    have sz : ∀ n : Nat, n ≤ 100 → n ≤ sizeLine := fun n h => by rw [sizeLine_eq]; omega
    simp only [strS] at k
    walk_at "g"
    refine ⟨fun h => ?_, fun h => ?_⟩
    · have h : deqv (.int la) (.int l) = true := h
      rw [deqv_int, decide_eq_true_eq] at h
      rw [if_pos h] at k
      have k2 := fin _ _ (show _ = Str.empty ++ txtI l ++ "." ++ txtI b ++ "-" ++ txtI e by rw [str_e]) k
      clear k
      walk_at "g"
      refine ⟨sz _ (by simp only [str_len, dot1, das1, e0]; omega), ?_⟩
      walk_at "g"
      refine ⟨sz _ (by simp only [str_len, dot1, das1, e0]; omega), ?_⟩
      walk_at "g"
      refine ⟨sz _ (by simp only [str_len, dot1, das1, e0]; omega), ?_⟩
      walk_at "g"
      refine ⟨sz _ (by simp only [str_len, dot1, das1, e0]; omega), ?_⟩
      walk_at "g"
      refine ⟨sz _ (by simp only [str_len, dot1, das1, e0]; omega), ?_⟩
      walk_at "g"
      exact k2
    · have h : deqv (.int la) (.int l) = false := h
      rw [deqv_int, decide_eq_false_iff_not] at h
      rw [if_neg h] at k
      have k2 := fin _ _ (show _ = Str.empty ++ txtI l ++ "." ++ txtI b ++ "-" ++ txtI la ++ "." ++ txtI e by rw [str_e]) k
      clear k
      walk_at "g"
      refine ⟨sz _ (by simp only [str_len, dot1, das1, e0]; omega), ?_⟩
      walk_at "g"
      refine ⟨sz _ (by simp only [str_len, dot1, das1, e0]; omega), ?_⟩
      walk_at "g"
      refine ⟨sz _ (by simp only [str_len, dot1, das1, e0]; omega), ?_⟩
      walk_at "g"
      refine ⟨sz _ (by simp only [str_len, dot1, das1, e0]; omega), ?_⟩
      walk_at "g"
      refine ⟨sz _ (by simp only [str_len, dot1, das1, e0]; omega), ?_⟩
      walk_at "g"
      refine ⟨sz _ (by simp only [str_len, dot1, das1, e0]; omega), ?_⟩
      walk_at "g"
      refine ⟨sz _ (by simp only [str_len, dot1, das1, e0]; omega), ?_⟩
      walk_at "g"
      exact k2
theorem strA_spot {s : Spot} (h : s.ok) (R : S → Prop) (k : R (.v (.str (strS s)))) : strAD "Place" sp_Place_str [s.p] R := by
  obtain ⟨fs, e1⟩ := p_ins s
  unfold strAD
  rw [e1]
  exact ⟨fs, rfl, s, by rw [e1], h, _, rfl, k⟩
/-- four numbers that make a place -/
theorem bad_spot {l la b e : Option Int} (h : badP l la b e = none) : ∃ s : Spot, s.ok ∧ plD (oi l) (oi (lstD l la)) (oi b) (oi e) = s.p := by
  have h1 : lineB l = true := by cases hh : lineB l with
    | true => rfl
    | false => unfold badP at h; rw [if_pos hh] at h; cases h
  have h2 : lastB l la = true := by cases hh : lastB l la with
    | true => rfl
    | false => unfold badP at h; rw [if_neg (by rw [h1]; decide), if_pos hh] at h; cases h
  have h3 : beginB l la b = true := by cases hh : beginB l la b with
    | true => rfl
    | false => unfold badP at h; rw [if_neg (by rw [h1]; decide), if_neg (by rw [h2]; decide), if_pos hh] at h; cases h
  have h4 : endB l la b e = true := by cases hh : endB l la b e with
    | true => rfl
    | false => unfold badP at h; rw [if_neg (by rw [h1]; decide), if_neg (by rw [h2]; decide), if_neg (by rw [h3]; decide), if_pos hh] at h; cases h
  clear h
  cases l with
  | none =>
    cases la with
    | some _ => cases h2
    | none =>
      cases b with
      | some _ => cases h3
      | none =>
        cases e with
        | some _ => cases h4
        | none => exact ⟨.no, trivial, rfl⟩
  | some l =>
    simp only [lineB, Bool.and_eq_true, decide_eq_true_eq] at h1
    cases la with
    | none =>
      cases b with
      | none =>
        cases e with
        | some _ => cases h4
        | none => exact ⟨.at l l none, ⟨h1.1, h1.2, rfl⟩, rfl⟩
      | some c =>
        cases e with
        | none => cases h4
        | some f =>
          simp only [beginB, Option.isSome_some, Bool.true_and, Bool.and_eq_true, decide_eq_true_eq] at h3
          simp only [endB, oneB, if_true, Bool.and_eq_true, decide_eq_true_eq] at h4
          exact ⟨.at l l (some (c, f)), ⟨by omega, by omega, by omega, by omega, by omega, by omega, by omega, by omega, fun _ => h4.1⟩, rfl⟩
    | some j =>
      simp only [lastB, Bool.and_eq_true, decide_eq_true_eq] at h2
      have j2 : j ≤ l + 99 ∧ j ≤ 1000000 := by have := h2.2; split at this <;> omega
      cases b with
      | none =>
        cases e with
        | some _ => cases h4
        | none =>
          simp only [beginB, oneB, decide_eq_true_eq] at h3
          exact ⟨.at l j none, ⟨h1.1, h1.2, h3⟩, rfl⟩
      | some c =>
        cases e with
        | none => cases h4
        | some f =>
          simp only [beginB, Option.isSome_some, Bool.true_and, Bool.and_eq_true, decide_eq_true_eq] at h3
          simp only [endB, oneB, Bool.and_eq_true, decide_eq_true_eq] at h4
          have h5 : j = l → c ≤ f := fun q => by have := h4.1; rw [if_pos q] at this; exact this
          have h6 : 0 ≤ f := by
            have := h4.1
            split at this <;> omega
          exact ⟨.at l j (some (c, f)), ⟨by omega, by omega, by omega, by omega, by omega, by omega, by omega, by omega, h5⟩, rfl⟩
theorem p_place_in : ∀ as R RX, sp_place_in as R RX → cntM as ≤ 1 → t_place_in (defX as RX) (defEnds as R) (startR 3 as) := by
  rintro as R RX ⟨z, rfl, ho, kr, kx⟩ _
  have okz := okD_txt ho.2
  have okd : okD (.str (Str.ofString "-")) = true := by decide +kernel
  have dz := deqv_strs z (Str.ofString "-")
  by_cases hd : z = Str.ofString "-"
  · have dz : deqv (.str z) (.str (Str.ofString "-")) = true := by rw [dz]; exact decide_eq_true hd
    have k := kr .no (by rw [hd, tl_das]; rfl)
    walk_at "w"
    refine ⟨okz, okd, ?_⟩
    walk_at "w"
    refine ifb_t dz ?_
    walk_at "w"
    refine ⟨none, none, none, none, rfl, fun _ => ?_, fun p hp => by cases hp⟩
    walk_at "g"
    exact k
  · have dz : deqv (.str z) (.str (Str.ofString "-")) = false := by rw [dz]; exact decide_eq_false hd
    have kx' : rd (tl z) = none → ∀ ρ, defX [S.v (.str z)] RX "BadText" "text" (.str z) ρ := fun h ρ => by
      show RX _ _ _ (outM ([D.str z].map S.v) ρ)
      rw [outM_v]
      exact kx h
    walk_at "w"
    refine ⟨okz, okd, ?_⟩
    walk_at "w"
    refine ifb_f dz ?_
    walk_at "w"
    refine ⟨z, rfl, ho, ?_⟩
    cases hq : numsO (tl z) with
    | none =>
      have hr : rd (tl z) = none := by
        cases hr : rd (tl z) with
        | none => rfl
        | some s =>
          obtain ⟨h1, h2⟩ := nums_rd hd hr
          exact (numsS_none h1 (h2.symm.trans hq)).elim
      have k := kx' hr
      walk_at "g"
      exact k _
    | some q =>
      obtain ⟨a, b, c, d⟩ := q
      cases a with
      | none =>
        have hr : rd (tl z) = none := by
          cases hr : rd (tl z) with
          | none => rfl
          | some s =>
            obtain ⟨h1, h2⟩ := nums_rd hd hr
            exact (numsS_no h1 (h2.symm.trans hq)).elim
        have k := kx' hr
        walk_at "g"
        exact k _
      | some a =>
        walk_at "g"
        refine ⟨some a, b, c, d, ?_, fun hb => ?_, fun p hp => ?_⟩
        · rfl
        · obtain ⟨t, ht, et⟩ := bad_spot hb
          rw [et]
          have okt : okD (.str (strS t)) = true := okD_of (n := 0) (okN_str 0 (strS_ok t)) (by decide)
          have de := deqv_strs (strS t) z
          walk_at "g"
          refine strA_spot ht _ ?_
          walk_at "w"
          refine ⟨okt, okz, ?_⟩
          by_cases he : strS t = z
          · have de : deqv (.str (strS t)) (.str z) = true := by rw [de]; exact decide_eq_true he
            have k := kr t (rd_iff.mpr ⟨ht, he.symm⟩)
            walk_at "w"
            refine ifb_f (by show (!deqv (.str (strS t)) (.str z)) = false; rw [de]; rfl) ?_
            walk_at "g"
            exact k
          · have de : deqv (.str (strS t)) (.str z) = false := by rw [de]; exact decide_eq_false he
            have k := kx' (by
              cases hr : rd (tl z) with
              | none => rfl
              | some s =>
                obtain ⟨h1, h2, h3⟩ := rd_nums hd hr hq
                exact absurd (by rw [p_eq (et.symm.trans h2)]; exact h3.symm) he)
            walk_at "w"
            refine ifb_t (by show (!deqv (.str (strS t)) (.str z)) = true; rw [de]; rfl) ?_
            walk_at "g"
            exact k _
        · have k := kx' (by
            cases hr : rd (tl z) with
            | none => rfl
            | some s =>
              obtain ⟨h1, h2, h3⟩ := rd_nums hd hr hq
              rw [h1] at hp
              cases hp)
          walk_at "g"
          exact k _
end K05

/-! each def does what is promised: over data alone -/
namespace K05
open PySem L2 DL PL EN TL
local macro_rules | `(tactic| walk_at "w") => `(tactic| conv => whnf)
local macro_rules | `(tactic| walk_at "c") => `(tactic| first | exact trivial | with_reducible assumption | exact ⟨_, rfl⟩ | exact rfl | exact And.intro rfl rfl | exact Nat.le_of_ble_eq_true rfl | exact (fun _ => rfl) | exact (fun _ => imm_ints _) | exact okD_ints _ | (intro z; cases z; done) | omega | (refine Or.inl ⟨?_, ?_⟩ <;> omega) | (refine Or.inr ⟨?_, ?_⟩ <;> omega) | (refine ⟨?_, ?_⟩ <;> omega) | (refine ⟨?_, ?_, ?_⟩ <;> omega) | (simp only [List.length_cons, List.length_nil, List.length_map, List.length_append, sizeLine_eq]; omega) | decide | decide +kernel | assumption)
local macro_rules | `(tactic| walk_at "g") => `(tactic| ((conv => whnf); repeat ((first | ((with_reducible refine And.intro ?_ ?_); focus (walk_at "c")) | refine ifb_t (by decide +kernel) ?_ | refine ifb_f (by decide +kernel) ?_ | refine IfB.f ?_ | refine IfB.t ?_); (conv => whnf))))
local macro_rules | `(tactic| walk_at "x") => `(tactic| (walk_at "g"; try ((refine IfB.mk (fun h => ?_) (fun h => ?_)) <;> (((try simp only [S.d, deqv_int, decide_eq_true_eq, decide_eq_false_iff_not, Bool.not_eq_true', Bool.not_eq_false', Bool.not_eq_true, Bool.not_eq_false, eq_self, not_true_eq_false, not_false_eq_true, decide_true, decide_false, Bool.not_true, Bool.not_false, Bool.false_eq_true, reduceCtorEq, Int.reduceToNat, Int.reducePow, Int.reduceNeg] at h) <;> (first | (exfalso; omega) | walk_at "x"))))))
theorem p_l_text : ∀ as R RX, sp_l_text as R RX → cntM as ≤ 1 → t_l_text (defEnds as R) (startR 5 as) := by
  rintro as R RX ⟨s, rfl, ho, k⟩ _
  rcases s with _ | ⟨l, la, _ | ⟨b, e⟩⟩
  · walk_at "g"; exact k
  · simp only [Spot.ok] at ho
    have g := lg8 (i := l) (by omega) (by omega)
    walk_at "g"
    exact k
  · simp only [Spot.ok] at ho
    have g1 := lg8 (i := l) (by omega) (by omega)
    have g2 := lg8 (i := la) (by omega) (by omega)
    have g3 := lg8 (i := b) (by omega) (by omega)
    have g4 := lg8 (i := e) (by omega) (by omega)
    have h1 := tx8 (i := l) (by omega) (by omega)
    have h2 := tx8 (i := la) (by omega) (by omega)
    have h3 := tx8 (i := b) (by omega) (by omega)
    have h4 := tx8 (i := e) (by omega) (by omega)
    have sz : ∀ n : Nat, n ≤ 100 → n ≤ sizeLine := fun n h => by rw [sizeLine_eq]; omega
    simp only [strS] at k
    walk_at "g"
    refine ⟨fun h => ?_, fun h => ?_⟩
    · have h : deqv (.int l) (.int la) = true := h
      rw [deqv_int, decide_eq_true_eq] at h
      rw [if_pos h.symm] at k
      walk_at "g"
      refine ⟨sz _ (by simp only [str_len, dot1, das1, e0]; omega), ?_⟩
      walk_at "g"
      refine ⟨sz _ (by simp only [str_len, dot1, das1, e0]; omega), ?_⟩
      walk_at "g"
      refine ⟨sz _ (by simp only [str_len, dot1, das1, e0]; omega), ?_⟩
      walk_at "g"
      refine ⟨sz _ (by simp only [str_len, dot1, das1, e0]; omega), ?_⟩
      walk_at "g"
      exact k
    · have h : deqv (.int l) (.int la) = false := h
      rw [deqv_int, decide_eq_false_iff_not] at h
      rw [if_neg (fun e => h e.symm)] at k
      walk_at "g"
      refine ⟨sz _ (by simp only [str_len, dot1, das1, e0]; omega), ?_⟩
      walk_at "g"
      refine ⟨sz _ (by simp only [str_len, dot1, das1, e0]; omega), ?_⟩
      walk_at "g"
      refine ⟨sz _ (by simp only [str_len, dot1, das1, e0]; omega), ?_⟩
      walk_at "g"
      refine ⟨sz _ (by simp only [str_len, dot1, das1, e0]; omega), ?_⟩
      walk_at "g"
      refine ⟨sz _ (by simp only [str_len, dot1, das1, e0]; omega), ?_⟩
      walk_at "g"
      refine ⟨sz _ (by simp only [str_len, dot1, das1, e0]; omega), ?_⟩
      walk_at "g"
      exact k
theorem p_l_seen : ∀ as R RX, sp_l_seen as R RX → cntM as ≤ 1 → t_l_seen (defEnds as R) (startR 1 as) := by
  rintro as R RX ⟨s, rfl, k⟩ _
  rcases s with _ | ⟨l, la, _ | ⟨b, e⟩⟩ <;> (walk_at "g"; exact k)
theorem p_l_alone : ∀ as R RX, sp_l_alone as R RX → cntM as ≤ 1 → t_l_alone (defEnds as R) (startR 3 as) := by
  rintro as R RX ⟨d, rfl, k⟩ _
  walk_at "g"
  exact k
/-- behind the point and the stroke -/
def rdB (o1 o2 : Option Int) (back : List Nat) : Option Spot := o1.bind fun a => o2.bind fun b => if 1 ≤ a ∧ a ≤ 1000000 ∧ 0 ≤ b ∧ b ≤ 10000 then (match cutC 46 back with
       | none => (numI 8 back).bind fun e => if b ≤ e ∧ e ≤ 10000 then some (.at a a (some (b, e))) else none
       | some (hi, ri) => (numI 8 hi).bind fun h => (numI 8 ri).bind fun e => if a + 1 ≤ h ∧ h ≤ a + 99 ∧ h ≤ 1000000 ∧ 0 ≤ e ∧ e ≤ 10000 then some (.at a h (some (b, e))) else none) else none
theorem win_t {o : Option Int} {lo hi : Int} (h : winO o lo hi = true) : ∃ n, o = some n ∧ lo ≤ n ∧ n ≤ hi := by
  cases o with
  | none => cases h
  | some n =>
    simp only [winO, Bool.and_eq_true, decide_eq_true_eq] at h
    exact ⟨n, rfl, h⟩
theorem win_f {n lo hi : Int} (h : winO (some n) lo hi = false) : ¬ (lo ≤ n ∧ n ≤ hi) := fun ⟨h1, h2⟩ => by
  simp only [winO] at h
  rw [decide_eq_true h1, decide_eq_true h2] at h
  cases h
@[irreducible] def lrT8 : DST := (dSeq (dParO [9, 8] (doCons (dFz (dCall sp_l_number [] (daCons (dhE (dSl (dhV 5) dpN (dpE (dhV 7)))) daNil))) (doCons (dFz (dCall sp_l_number [] (daCons (dhE (dSl (dhV 5) (dpE (dhE (dBin addD (dhV 7) (dhE (dC (.int 1)))))) dpN)) daNil))) doNil))) (dSeq (dIfS (dtOr (dtNot (dTru (dhE (dCall sp_l_within [] (daCons (dhV 9) (daCons (dhE (dBin addD (dhV 4) (dhE (dC (.int 1))))) (daCons (dhE (dCB min2D (daCons (dhE (dBin powD (dhE (dC (.int 10))) (dhE (dC (.int 6))))) (daCons (dhE (dBin addD (dhV 4) (dhE (dC (.int 99))))) daNil)))) daNil))))))) (dtNot (dTru (dhE (dCall sp_l_within [] (daCons (dhV 8) (daCons (dhE (dC (.int 0))) (daCons (dhE (dBin powD (dhE (dC (.int 10))) (dhE (dC (.int 4))))) daNil)))))))) (dRet (dFz (dC .non))) dNext) (dRet (dFz (dTup (daCons (dhE (dV 4)) (daCons (dhE (dV 9)) (daCons (dhE (dV 6)) (daCons (dhE (dV 8)) daNil)))))))))
@[irreducible] def lrT5 : DST := (dSeq (dIfS (dtOr (dTest (dBin ltD (dhV 2) (dhV 1))) (dtOr (dtNot (dTru (dhE (dCall sp_l_within [] (daCons (dhV 4) (daCons (dhE (dC (.int 1))) (daCons (dhE (dBin powD (dhE (dC (.int 10))) (dhE (dC (.int 6))))) daNil))))))) (dtNot (dTru (dhE (dCall sp_l_within [] (daCons (dhV 6) (daCons (dhE (dC (.int 0))) (daCons (dhE (dBin powD (dhE (dC (.int 10))) (dhE (dC (.int 4))))) daNil))))))))) (dRet (dFz (dC .non))) dNext) (dSeq (dAsg (dFz (dTm findD (dV 5) (dC (.str ".")))) (gN 7)) (dSeq (dIfS (dTest (dBin ltD (dhV 7) (dhE (dC (.int 0))))) (dSeq (dAsg (dFz (dCall sp_l_number [] (daCons (dhV 5) daNil))) (gN 8)) (dRet (dFz (dIf (dTru (dhE (dCall sp_l_within [] (daCons (dhV 8) (daCons (dhV 6) (daCons (dhE (dBin powD (dhE (dC (.int 10))) (dhE (dC (.int 4))))) daNil)))))) (dTup (daCons (dhE (dV 4)) (daCons (dhE (dV 4)) (daCons (dhE (dV 6)) (daCons (dhE (dV 8)) daNil))))) (dC .non))))) dNext) lrT8)))
theorem lr_eq : t_l_read = (dSeq (dParO [1, 2] (doCons (dFz (dTm findD (dV 0) (dC (.str ".")))) (doCons (dFz (dTm findD (dV 0) (dC (.str "-")))) doNil))) (dSeq (dIfS (dTest (dBin eqD (dhV 0) (dhE (dC (.str "-"))))) (dRet (dFz (dTup (daCons (dhE (dC .non)) (daCons (dhE (dC .non)) (daCons (dhE (dC .non)) (daCons (dhE (dC .non)) daNil))))))) dNext) (dSeq (dIfS (dTest (dBin ltD (dhV 1) (dhE (dC (.int 0))))) (dSeq (dAsg (dFz (dCall sp_l_number [] (daCons (dhV 0) daNil))) (gN 3)) (dRet (dFz (dIf (dTru (dhE (dCall sp_l_within [] (daCons (dhV 3) (daCons (dhE (dC (.int 1))) (daCons (dhE (dBin powD (dhE (dC (.int 10))) (dhE (dC (.int 6))))) daNil)))))) (dTup (daCons (dhE (dV 3)) (daCons (dhE (dV 3)) (daCons (dhE (dC .non)) (daCons (dhE (dC .non)) daNil))))) (dC .non))))) dNext) (dSeq (dParO [4, 5] (doCons (dFz (dCall sp_l_number [] (daCons (dhE (dSl (dhV 0) dpN (dpE (dhV 1)))) daNil))) (doCons (dFz (dSl (dhV 0) (dpE (dhE (dBin addD (dhV 2) (dhE (dC (.int 1)))))) dpN)) doNil))) (dSeq (dAsg (dFz (dCall sp_l_number [] (daCons (dhE (dSl (dhV 0) (dpE (dhE (dBin addD (dhV 1) (dhE (dC (.int 1)))))) (dpE (dhE (dCB max2D (daCons (dhE (dC (.int 0))) (daCons (dhV 2) daNil))))))) daNil))) (gN 6)) lrT5))))) := by unfold t_l_read lrT5 lrT8; rfl
theorem lrT8_ok (De : DEnds) (z : Str) (p q : Int) (a b : Int) (v hi ri : List Nat) (hv : v = hi ++ 46 :: ri) (ov : txtOk (SX.S v)) (k : De.rt (.v (spoO ((numI 8 hi).bind fun h => (numI 8 ri).bind fun e => if a + 1 ≤ h ∧ h ≤ a + 99 ∧ h ≤ 1000000 ∧ 0 ≤ e ∧ e ≤ 10000 then some (.at a h (some (b, e))) else none))) [some (.v (.str z))]) (hr : ∀ d ρ, De.rt (.v d) [some (.v (.str z))] → De.rt (.v d) (some (.v (.str z)) :: ρ)) :
    lrT8 De [some (.v (.str z)), some (.v (.int p)), some (.v (.int q)), none, some (.v (.int a)), some (.v (.str (SX.S v))), some (.v (.int b)), some (.v (.int hi.length)), none, none] := by
  have k := fun ρ => hr _ ρ k
  have h1 : cutS (SX.S v) none (some (hi.length : Int)) = SX.S hi := cut_to (z := SX.S v) (q := 46 :: ri) hv
  have h2 : cutS (SX.S v) (some ((hi.length : Int) + 1)) none = SX.S ri := cut_from (z := SX.S v) (p := hi ++ [46]) (by rw [tlS, hv, List.append_assoc]; rfl) (by rw [List.length_append]; simp)
  obtain ⟨oh, oir⟩ := part_ok (z := SX.S v) ov hv
  have lv : (SX.S v).length ≤ sizeLine := by have := ov.1; rw [sizeLine_eq]; omega
  unfold lrT8
  walk_at "w"
  refine ⟨lv, ?_⟩
  rw [h1]
  walk_at "w"
  refine ⟨SX.S hi, rfl, oh, ?_⟩
  rw [tlS]
  generalize numI 8 hi = o1 at *
  walk_at "g"
  rw [h2]
  walk_at "w"
  refine ⟨SX.S ri, rfl, oir, ?_⟩
  rw [tlS]
  generalize numI 8 ri = o2 at *
  walk_at "g"
  have e99 : (if a + 99 < 10 ^ Int.toNat 6 then a + 99 else 10 ^ Int.toNat 6) = min (a + 99) 1000000 := by
    rw [show (10 : Int) ^ Int.toNat 6 = 1000000 by decide]
    split <;> omega
  refine ⟨o1, a + 1, _, rfl, fun _ => rfl, ?_⟩
  rw [e99]
  cases hw : winO o1 (a + 1) (min (a + 99) 1000000) with
  | false =>
    have k : ∀ ρ, De.rt (.v .non) (some (.v (.str z)) :: ρ) := fun ρ => by
      have k := k ρ
      cases o1 with
      | none => exact k
      | some h =>
        have hf := win_f hw
        cases o2 with
        | none => exact k
        | some e =>
          simp only [Option.bind_some] at k
          rw [if_neg (fun hh => hf ⟨hh.1, by omega⟩)] at k
          exact k
    walk_at "g"
    exact k _
  | true =>
    obtain ⟨h, rfl, w1, w2⟩ := win_t hw
    walk_at "g"
    refine ⟨o2, 0, _, rfl, fun _ => rfl, ?_⟩
    cases hw2 : winO o2 0 (10 ^ Int.toNat 4) with
    | false =>
      have k : ∀ ρ, De.rt (.v .non) (some (.v (.str z)) :: ρ) := fun ρ => by
        have k := k ρ
        cases o2 with
        | none => exact k
        | some e =>
          have hf := win_f hw2
          simp only [Option.bind_some] at k
          rw [if_neg (fun hh => hf ⟨hh.2.2.2.1, by have := hh.2.2.2.2; rw [show (10 : Int) ^ Int.toNat 4 = 10000 by decide]; exact this⟩)] at k
          exact k
      walk_at "g"
      exact k _
    | true =>
      obtain ⟨e, rfl, x1, x2⟩ := win_t hw2
      rw [show (10 : Int) ^ Int.toNat 4 = 10000 by decide] at x2
      have k : ∀ ρ, De.rt (.v (.tup [.int a, .int h, .int b, .int e])) (some (.v (.str z)) :: ρ) := fun ρ => by
        have k := k ρ
        simp only [Option.bind_some] at k
        rw [if_pos ⟨w1, by omega, by omega, x1, x2⟩] at k
        exact k
      walk_at "g"
      exact k _
theorem lrT5_ok (De : DEnds) (z : Str) (p q : Int) (o1 o2 : Option Int) (v : Str) (x7 x8 x9 : Option S) (ov : txtOk v) (k : De.rt (.v (if q < p then .non else spoO (rdB o1 o2 (tl v)))) [some (.v (.str z))]) (hr : ∀ d ρ, De.rt (.v d) [some (.v (.str z))] → De.rt (.v d) (some (.v (.str z)) :: ρ)) :
    lrT5 De [some (.v (.str z)), some (.v (.int p)), some (.v (.int q)), none, some (.v (oi o1)), some (.v (.str v)), some (.v (oi o2)), none, none, none] := by
  have k := fun ρ => hr _ ρ k
  unfold lrT5
  walk_at "w"
  by_cases hqp : q < p
  · have k : ∀ ρ, De.rt (.v .non) (some (.v (.str z)) :: ρ) := fun ρ => by
      have k := k ρ
      rw [if_pos hqp] at k
      exact k
    refine ifb_t (decide_eq_true hqp) ?_
    walk_at "g"
    exact k _
  · have k : ∀ ρ, De.rt (.v (spoO (rdB o1 o2 (tl v)))) (some (.v (.str z)) :: ρ) := fun ρ => by
      have k := k ρ
      rw [if_neg hqp] at k
      exact k
    refine ifb_f (decide_eq_false hqp) ?_
    walk_at "g"
    refine ⟨o1, 1, _, rfl, fun _ => rfl, ?_⟩
    rw [show (10 : Int) ^ Int.toNat 6 = 1000000 by decide]
    cases hw : winO o1 1 1000000 with
    | false =>
      have k : ∀ ρ, De.rt (.v .non) (some (.v (.str z)) :: ρ) := fun ρ => by
        have k := k ρ
        cases o1 with
        | none => exact k
        | some a =>
          have hf := win_f hw
          cases o2 with
          | none => exact k
          | some b =>
            simp only [rdB, Option.bind_some] at k
            rw [if_neg (fun hh => hf ⟨hh.1, hh.2.1⟩)] at k
            exact k
      walk_at "g"
      exact k _
    | true =>
      obtain ⟨a, rfl, a1, a2⟩ := win_t hw
      walk_at "g"
      refine ⟨o2, 0, _, rfl, fun _ => rfl, ?_⟩
      rw [show (10 : Int) ^ Int.toNat 4 = 10000 by decide]
      cases hw2 : winO o2 0 10000 with
      | false =>
        have k : ∀ ρ, De.rt (.v .non) (some (.v (.str z)) :: ρ) := fun ρ => by
          have k := k ρ
          cases o2 with
          | none => exact k
          | some b =>
            have hf := win_f hw2
            simp only [rdB, Option.bind_some] at k
            rw [if_neg (fun hh => hf ⟨hh.2.2.1, hh.2.2.2⟩)] at k
            exact k
        walk_at "g"
        exact k _
      | true =>
        obtain ⟨b, rfl, b1, b2⟩ := win_t hw2
        walk_at "g"
        rw [str_dot]
        have k : ∀ ρ, De.rt (.v (spoO (match cutC 46 (tl v) with
             | none => (numI 8 (tl v)).bind fun e => if b ≤ e ∧ e ≤ 10000 then some (.at a a (some (b, e))) else none
             | some (hi, ri) => (numI 8 hi).bind fun h => (numI 8 ri).bind fun e => if a + 1 ≤ h ∧ h ≤ a + 99 ∧ h ≤ 1000000 ∧ 0 ≤ e ∧ e ≤ 10000 then some (.at a h (some (b, e))) else none))) (some (.v (.str z)) :: ρ) := fun ρ => by
          have k := k ρ
          simp only [rdB, Option.bind_some] at k
          rw [if_pos ⟨a1, a2, b1, b2⟩] at k
          exact k
        cases hc : cutC 46 (tl v) with
        | none =>
          rw [hc] at k
          dsimp only at k
          rw [find_none (cutC_none hc)]
          walk_at "g"
          refine ⟨v, rfl, ov, fun _ => imm_oi _, ?_⟩
          generalize numI 8 (tl v) = o3 at *
          walk_at "g"
          refine ⟨o3, b, _, rfl, fun _ => rfl, ?_⟩
          rw [show (10 : Int) ^ Int.toNat 4 = 10000 by decide]
          cases hw3 : winO o3 b 10000 with
          | false =>
            have k : ∀ ρ, De.rt (.v .non) (some (.v (.str z)) :: ρ) := fun ρ => by
              have k := k ρ
              cases o3 with
              | none => exact k
              | some e =>
                have hf := win_f hw3
                simp only [Option.bind_some] at k
                rw [if_neg hf] at k
                exact k
            walk_at "g"
            exact k _
          | true =>
            obtain ⟨e, rfl, c1, c2⟩ := win_t hw3
            have k : ∀ ρ, De.rt (.v (.tup [.int a, .int a, .int b, .int e])) (some (.v (.str z)) :: ρ) := fun ρ => by
              have k := k ρ
              simp only [Option.bind_some] at k
              rw [if_pos ⟨c1, c2⟩] at k
              exact k
            walk_at "g"
            exact k _
        | some x =>
          obtain ⟨hi, ri⟩ := x
          rw [hc] at k
          dsimp only at k
          obtain ⟨e1, f1⟩ := cutC_some hc
          rw [find_some e1 f1]
          have fin := lrT8_ok De z p q a b (tl v) hi ri e1 ⟨by rw [lenS, ← len_z]; exact ov.1, ov.2⟩
          rw [SX.S_tl] at fin
          walk_at "g"
          exact fin (k []) hr
theorem p_l_read : ∀ as R RX, sp_l_read as R RX → cntM as ≤ 1 → t_l_read (defEnds as R) (startR 10 as) := by
  rintro as R RX ⟨z, rfl, ho, k⟩ _
  have okz := okD_txt ho.2
  have okd : okD (.str (Str.ofString "-")) = true := by decide +kernel
  have dz := deqv_strs z (Str.ofString "-")
  have len0 : z.length ≤ sizeLine := by have := ho.1; rw [sizeLine_eq]; omega
  rw [lr_eq]
  walk_at "g"
  rw [str_dot, str_das]
  by_cases hd : z = Str.ofString "-"
  · have dz : deqv (.str z) (.str (Str.ofString "-")) = true := by rw [dz]; exact decide_eq_true hd
    have k : R (.v (Spot.no.d)) [] := by
      rw [hd, tl_das] at k
      exact k
    generalize Txt.find z ⟨#[46]⟩ = p
    generalize Txt.find z ⟨#[45]⟩ = q
    rw [str_das] at dz
    walk_at "g"
    refine ifb_t dz ?_
    walk_at "g"
    exact k
  · have dz : deqv (.str z) (.str ⟨#[45]⟩) = false := by rw [← str_das, dz]; exact decide_eq_false hd
    have hne : tl z ≠ [45] := fun h => hd (by rw [str_das]; exact ext_tl h)
    have hr : ∀ (d : D) ρ, R (.v d) [] → (defEnds [S.v (.str z)] R).rt (.v d) (some (.v (.str z)) :: ρ) := fun d ρ h => by
      show R _ (outM ([D.str z].map S.v) _)
      rw [outM_v]
      exact h
    unfold rd at k
    rw [if_neg hne] at k
    cases hc : cutC 46 (tl z) with
    | none =>
      rw [hc] at k
      dsimp only at k
      rw [find_none (cutC_none hc)]
      generalize Txt.find z ⟨#[45]⟩ = q
      walk_at "g"
      refine ifb_f dz ?_
      walk_at "g"
      refine ⟨z, rfl, ho, ?_⟩
      generalize numI 8 (tl z) = o at *
      walk_at "g"
      refine ⟨o, 1, _, rfl, fun _ => rfl, ?_⟩
      rw [show (10 : Int) ^ Int.toNat 6 = 1000000 by decide]
      cases hw : winO o 1 1000000 with
      | false =>
        have k : R (.v .non) [] := by
          cases o with
          | none => exact k
          | some n =>
            have hf := win_f hw
            simp only [Option.bind_some] at k
            rw [if_neg hf] at k
            exact k
        walk_at "g"
        exact k
      | true =>
        obtain ⟨n, rfl, c1, c2⟩ := win_t hw
        have k : R (.v (.tup [.int n, .int n, .non, .non])) [] := by
          simp only [Option.bind_some] at k
          rw [if_pos ⟨c1, c2⟩] at k
          exact k
        walk_at "g"
        exact k
    | some x =>
      obtain ⟨lo, rest⟩ := x
      rw [hc] at k
      dsimp only at k
      obtain ⟨e1, f1⟩ := cutC_some hc
      obtain ⟨ol, orr⟩ := part_ok ho e1
      have c1 : cutS z none (some (lo.length : Int)) = SX.S lo := cut_to (q := 46 :: rest) e1
      have okcut : ∀ a b, txtOk (cutS z a b) := fun a b => ⟨Nat.le_trans (cutS_length z a b) ho.1, fun c hc => ho.2 c (List.mem_of_mem_drop (List.mem_of_mem_take hc))⟩
      have fin : ∀ (q : Int) (o1 o2 : Option Int) (v : Str), txtOk v → (if q < (lo.length : Int) then D.non else spoO (rdB o1 o2 (tl v))) = spoO (match cutC 45 rest with
          | none => none
          | some (le, back) => rdB (numI 8 lo) (numI 8 le) back) → lrT5 (defEnds [S.v (.str z)] R) [some (.v (.str z)), some (.v (.int lo.length)), some (.v (.int q)), none, some (.v (oi o1)), some (.v (.str v)), some (.v (oi o2)), none, none, none] := fun q o1 o2 v ov he =>
        lrT5_ok _ z lo.length q o1 o2 v none none none ov (by rw [he]; exact hr _ _ k) (fun d ρ h => hr d ρ (by
          have h : R (.v d) (outM ([D.str z].map S.v) _) := h
          rw [outM_v] at h
          exact h))
      clear k
      rw [find_some e1 f1]
      generalize hq : Txt.find z ⟨#[45]⟩ = q at *
      walk_at "g"
      refine ifb_f dz ?_
      walk_at "g"
      refine ⟨_, rfl, okcut _ _, fun _ => imm_oi _, ?_⟩
      rw [c1, tlS]
      generalize hO : numI 8 lo = o1 at *
      walk_at "g"
      refine ⟨_, rfl, okcut _ _, fun _ => imm_oi _, ?_⟩
      have key : ∀ M : Int, (0 < q → M = q) → (if q < (lo.length : Int) then D.non else spoO (rdB o1 (numI 8 (tl (cutS z (some ((lo.length : Int) + 1)) (some M)))) (tl (cutS z (some (q + 1)) none)))) = spoO (match cutC 45 rest with
          | none => none
          | some (le, back) => rdB o1 (numI 8 le) back) := fun M hM => by
        cases hs : cutC 45 (tl z) with
        | none =>
          have h45 := cutC_none hs
          rw [find_none h45] at hq
          rw [if_pos (by omega), cutC_no (fun h => h45 (by rw [e1]; simp [h]))]
          rfl
        | some y =>
          obtain ⟨u, v⟩ := y
          obtain ⟨e2, f2⟩ := cutC_some hs
          rw [find_some e2 f2] at hq
          rcases List.append_eq_append_iff.mp (e1.symm.trans e2) with ⟨a', h1, h2⟩ | ⟨c', h1, h2⟩
          · cases a' with
            | nil => cases h2
            | cons x le =>
              rw [List.cons_append] at h2
              injection h2 with hx h2
              subst hx
              have f3 : 45 ∉ le := fun h => f2 (by rw [h1]; simp [h])
              have hl : (u.length : Int) = (lo.length : Int) + 1 + (le.length : Int) := by rw [h1, List.length_append, List.length_cons]; omega
              have g1 : cutS z (some ((lo.length : Int) + 1)) (some M) = SX.S le := cut_mid (p := lo ++ [46]) (r := 45 :: v) (by rw [e1, h2]; simp) (by simp) (by rw [hM (by omega), ← hq, hl]; simp)
              have g2 : cutS z (some (q + 1)) none = SX.S v := cut_from (p := u ++ [45]) (by rw [e2]; simp) (by rw [← hq]; simp)
              rw [if_neg (by omega), g1, g2, tlS, tlS, h2, cutC_mk f3]
          · cases c' with
            | nil => cases h2
            | cons x c'' =>
              rw [List.cons_append] at h2
              injection h2 with hx h2
              subst hx
              have hn : o1 = none := by
                cases o1 with
                | none => rfl
                | some n => exact absurd (by rw [h1]; simp) (num_free hO (c := 45) (by omega))
              have hl : (lo.length : Int) = (u.length : Int) + 1 + (c''.length : Int) := by rw [h1, List.length_append, List.length_cons]; omega
              rw [if_pos (by omega), hn]
              cases cutC 45 rest with
              | none => rfl
              | some y => rfl
      have fk := fin q o1 _ _ (okcut (some (q + 1)) none) (key (if q > 0 then q else 0) (fun h => if_pos h))
      clear key fin
      generalize numI 8 (tl (cutS z (some ((lo.length : Int) + 1)) (some (if q > 0 then q else 0)))) = o2 at *
      generalize cutS z (some (q + 1)) none = v at *
      exact fk
end K05

/-! each def does what is promised: over data alone -/
namespace K05
open PySem L2 DL PL EN TL
local macro_rules | `(tactic| walk_at "w") => `(tactic| conv => whnf)
local macro_rules | `(tactic| walk_at "c") => `(tactic| first | exact trivial | with_reducible assumption | exact ⟨_, rfl⟩ | exact rfl | exact And.intro rfl rfl | exact Nat.le_of_ble_eq_true rfl | exact (fun _ => rfl) | exact (fun _ => imm_ints _) | exact okD_ints _ | (intro z; cases z; done) | omega | (refine Or.inl ⟨?_, ?_⟩ <;> omega) | (refine Or.inr ⟨?_, ?_⟩ <;> omega) | (refine ⟨?_, ?_⟩ <;> omega) | (refine ⟨?_, ?_, ?_⟩ <;> omega) | (simp only [List.length_cons, List.length_nil, List.length_map, List.length_append, sizeLine_eq]; omega) | decide | decide +kernel | assumption)
local macro_rules | `(tactic| walk_at "g") => `(tactic| ((conv => whnf); repeat ((first | ((with_reducible refine And.intro ?_ ?_); focus (walk_at "c")) | refine ifb_t (by decide +kernel) ?_ | refine ifb_f (by decide +kernel) ?_ | refine IfB.f ?_ | refine IfB.t ?_); (conv => whnf))))
local macro_rules | `(tactic| walk_at "x") => `(tactic| (walk_at "g"; try ((refine IfB.mk (fun h => ?_) (fun h => ?_)) <;> (((try simp only [S.d, deqv_int, decide_eq_true_eq, decide_eq_false_iff_not, Bool.not_eq_true', Bool.not_eq_false', Bool.not_eq_true, Bool.not_eq_false, eq_self, not_true_eq_false, not_false_eq_true, decide_true, decide_false, Bool.not_true, Bool.not_false, Bool.false_eq_true, reduceCtorEq, Int.reduceToNat, Int.reducePow, Int.reduceNeg] at h) <;> (first | (exfalso; omega) | walk_at "x"))))))
theorem sel3 {Q : Int → Prop} {x y z i : Int} (h0 : 0 ≤ i) (h1 : i < 3) (hx : Q x) (hy : Q y) (hz : Q z) : ∃ v, atI [D.int x, D.int y, D.int z] i = some (.int v) ∧ Q v := by
  have : i = 0 ∨ i = 1 ∨ i = 2 := by omega
  rcases this with rfl | rfl | rfl
  · exact ⟨x, rfl, hx⟩
  · exact ⟨y, rfl, hy⟩
  · exact ⟨z, rfl, hz⟩
theorem sel2 {Q : Int → Prop} {x y i : Int} (h0 : 0 ≤ i) (h1 : i < 2) (hx : Q x) (hy : Q y) : ∃ v, atI [D.int x, D.int y] i = some (.int v) ∧ Q v := by
  have : i = 0 ∨ i = 1 := by omega
  rcases this with rfl | rfl
  · exact ⟨x, rfl, hx⟩
  · exact ⟨y, rfl, hy⟩
theorem p_l_spot : ∀ as R RX, sp_l_spot as R RX → cntM as ≤ 1 → t_l_spot (defEnds as R) (startR 6 as) := by
  rintro as R RX ⟨ds, n, w, rfl, hb, hn, w1, w2, k⟩ _
  walk_at "g"
  refine ⟨ds, 6, n, rfl, hb, by omega, by omega, by omega, fun way ds1 a1 c1 hb1 => ?_⟩
  walk_at "g"
  refine ⟨ds1, w, _, rfl, hb1, by omega, by omega, by omega, fun fi ds2 a2 c2 hb2 => ?_⟩
  walk_at "x"
  · exact k .no ds2 trivial (hb2.le (by omega))
  · exact k (.at (1 + fi) (1 + fi) none) ds2 ⟨by omega, by omega, rfl⟩ (hb2.le (by omega))
  · refine ⟨ds2, 3, _, rfl, hb2, by omega, by omega, by omega, fun r3 ds3 a3 c3 hb3 => ?_⟩
    walk_at "g"
    simp only [S.d]
    obtain ⟨q3, e3, h3⟩ := sel3 (Q := fun x => 1 ≤ x ∧ x ≤ 10001) (x := 4) (y := 60) (z := 10 ^ Int.toNat 4 + 1) a3 c3 (by omega) (by omega) (by decide)
    rw [e3]
    walk_at "g"
    refine ⟨ds3, q3, _, rfl, hb3, by omega, by omega, by omega, fun lo ds4 a4 c4 hb4 => ?_⟩
    walk_at "x"
    · refine ⟨ds4, 3, _, rfl, hb4, by omega, by omega, by omega, fun r5 ds5 a5 c5 hb5 => ?_⟩
      walk_at "g"
      simp only [S.d]
      obtain ⟨q5, e5, h5⟩ := sel3 (Q := fun x => 1 ≤ x ∧ x ≤ 10000) (x := 3) (y := 80) (z := 10 ^ Int.toNat 4) a5 c5 (by omega) (by omega) (by decide)
      rw [e5]
      walk_at "g"
      refine ⟨ds5, q5, _, rfl, hb5, by omega, by omega, by omega, fun r6 ds6 a6 c6 hb6 => ?_⟩
      walk_at "g"
      generalize hM : (if lo + r6 < 10 ^ Int.toNat 4 then lo + r6 else 10 ^ Int.toNat 4) = M
      rw [show (10 : Int) ^ Int.toNat 4 = 10000 by decide] at hM
      have := k (.at (1 + fi) (1 + fi) (some (lo, M))) ds6 ⟨by omega, by omega, by omega, by omega, by omega, by omega, by split at hM <;> omega, by split at hM <;> omega, fun _ => by split at hM <;> omega⟩ (hb6.le (by omega))
      exact this
    · refine ⟨ds4, 2, _, rfl, hb4, by omega, by omega, by omega, fun r5 ds5 a5 c5 hb5 => ?_⟩
      walk_at "g"
      simp only [S.d]
      obtain ⟨q5, e5, h5⟩ := sel2 (Q := fun x => 1 ≤ x ∧ x ≤ 99) (x := 2) (y := 99) a5 c5 (by omega) (by omega)
      rw [e5]
      walk_at "g"
      refine ⟨ds5, q5, _, rfl, hb5, by omega, by omega, by omega, fun r6 ds6 a6 c6 hb6 => ?_⟩
      walk_at "g"
      generalize hM : (if 1 + fi + 1 + r6 < 10 ^ Int.toNat 6 then 1 + fi + 1 + r6 else 10 ^ Int.toNat 6) = M
      rw [show (10 : Int) ^ Int.toNat 6 = 1000000 by decide] at hM
      have hM1 : 1 + fi ≤ M ∧ M ≤ 1 + fi + 99 ∧ M ≤ 1000000 := by split at hM <;> omega
      walk_at "x"
      · exact k (.at (1 + fi) (1 + fi) none) ds6 ⟨by omega, by omega, rfl⟩ (hb6.le (by omega))
      · rename_i hne
        refine ⟨ds6, 3, _, rfl, hb6, by omega, by omega, by omega, fun r7 ds7 a7 c7 hb7 => ?_⟩
        walk_at "g"
        obtain ⟨q7, e7, h7⟩ := sel3 (Q := fun x => 1 ≤ x ∧ x ≤ 10001) (x := 4) (y := 60) (z := 10 ^ Int.toNat 4 + 1) a7 c7 (by omega) (by omega) (by decide)
        simp only [S.d]
        rw [e7]
        walk_at "g"
        refine ⟨ds7, q7, _, rfl, hb7, by omega, by omega, by omega, fun r8 ds8 a8 c8 hb8 => ?_⟩
        walk_at "g"
        exact k (.at (1 + fi) M (some (lo, r8))) ds8 ⟨by omega, by omega, by omega, by omega, by omega, by omega, by omega, by omega, fun z => by omega⟩ (hb8.le (by omega))
end K05

/-! each def does what is promised: over data alone -/
namespace K05
open PySem L2 DL PL EN TL
local macro_rules | `(tactic| walk_at "w") => `(tactic| conv => whnf)
local macro_rules | `(tactic| walk_at "c") => `(tactic| first | exact trivial | with_reducible assumption | exact ⟨_, rfl⟩ | exact rfl | exact And.intro rfl rfl | exact Nat.le_of_ble_eq_true rfl | exact (fun _ => rfl) | exact (fun _ => imm_ints _) | exact okD_ints _ | (intro z; cases z; done) | omega | (refine Or.inl ⟨?_, ?_⟩ <;> omega) | (refine Or.inr ⟨?_, ?_⟩ <;> omega) | (refine ⟨?_, ?_⟩ <;> omega) | (refine ⟨?_, ?_, ?_⟩ <;> omega) | (simp only [List.length_cons, List.length_nil, List.length_map, List.length_append, sizeLine_eq]; omega) | decide | decide +kernel | assumption)
local macro_rules | `(tactic| walk_at "g") => `(tactic| ((conv => whnf); repeat ((first | ((with_reducible refine And.intro ?_ ?_); focus (walk_at "c")) | refine ifb_t (by decide +kernel) ?_ | refine ifb_f (by decide +kernel) ?_ | refine IfB.f ?_ | refine IfB.t ?_); (conv => whnf))))
local macro_rules | `(tactic| walk_at "x") => `(tactic| (walk_at "g"; try ((refine IfB.mk (fun h => ?_) (fun h => ?_)) <;> (((try simp only [S.d, deqv_int, decide_eq_true_eq, decide_eq_false_iff_not, Bool.not_eq_true', Bool.not_eq_false', Bool.not_eq_true, Bool.not_eq_false, eq_self, not_true_eq_false, not_false_eq_true, decide_true, decide_false, Bool.not_true, Bool.not_false, Bool.false_eq_true, reduceCtorEq, Int.reduceToNat, Int.reducePow, Int.reduceNeg] at h) <;> (first | (exfalso; omega) | walk_at "x"))))))
theorem same_loop (n : Nat) (d : D) : ∀ (xs acc : List D) (Rr : List D → Rho → Prop), (∀ x ∈ xs, goodV n x) → acc.length + xs.length ≤ 100000 → Rr (acc ++ List.replicate xs.length (.bl true)) [some (.v d), some (.v d), none, none] →
    compL (gU (gsCons (gN 2) (gsCons (gN 3) gsNil))) dYes (t_l_same_E1 (spSameV n)) [2, 3] (zipD xs xs) acc [some (.v d), some (.v d), none, none] Rr
  | [], acc, Rr, hg, hl, k => by simpa [zipD, compL] using k
  | x :: xs, acc, Rr, hg, hl, k => by
    rw [List.length_cons] at hl
    show compL _ _ _ _ (.tup [x, x] :: zipD xs xs) acc _ Rr
    walk_at "g"
    refine ⟨x, rfl, hg x List.mem_cons_self, ?_⟩
    walk_at "g"
    refine same_loop n d xs (acc ++ [.bl true]) Rr (fun y hy => hg y (List.mem_cons_of_mem _ hy)) (by simp; omega) ?_
    rw [List.append_assoc, List.singleton_append, ← List.replicate_succ]
    exact k
theorem same_leaf (sp : DSp) (d : D) (hd : leafV d) (R : S → List D → Prop) (k : R (.v (.bl true)) []) : t_l_same sp (defEnds [.v d, .v d] R) (startR 4 [.v d, .v d]) := by
  rcases hd with ⟨i, rfl⟩ | rfl | ⟨b, rfl⟩ | ⟨x, rfl, hx⟩
  · walk_at "g"
    have e := deqv_refl i
    show R (.v (.bl (deqv (.int i) (.int i)))) []
    rw [e]
    exact k
  · walk_at "g"
    exact k
  · walk_at "g"
    have e := deqv_bl b
    show R (.v (.bl (deqv (.bl b) (.bl b)))) []
    rw [e]
    exact k
  · have ho : okD (.str x) = true := okD_of hx (by decide)
    walk_at "g"
    show R (.v (.bl (deqv (.str x) (.str x)))) []
    rw [deqv_str]
    exact k
theorem p_l_same : ∀ (n : Nat) as R RX, spSameVR (n + 1) as R RX → cntM as ≤ 1 → t_l_same (spSameVR n) (defEnds as R) (startR 4 as)
  | 0, as, R, RX, h, _ => by
    obtain ⟨d, rfl, hd, k⟩ := h
    exact same_leaf _ d hd R k
  | n + 1, as, R, RX, h, _ => by
    obtain ⟨d, rfl, hg, k⟩ := h
    rcases hg with hd | ⟨ds, rfl | rfl, hl, hg⟩
    · exact same_leaf _ d hd R k
    all_goals
      walk_at "g"
      refine ⟨fun h => ?_, fun h => ?_⟩
      · walk_at "g"
        refine same_loop n _ ds [] _ hg (by simpa using hl) ?_
        walk_at "g"
        rw [List.nil_append, bls_rep]
        show R (.v (.bl ((List.replicate ds.length true).all id))) []
        rw [all_rep]
        exact k
      · have h : deqv (.int ds.length) (.int ds.length) = false := h
        rw [deqv_refl] at h
        cases h
end K05

/-! each def does what is promised: over data alone -/
namespace K05
open PySem L2 DL PL EN TL
local macro_rules | `(tactic| walk_at "w") => `(tactic| conv => whnf)
local macro_rules | `(tactic| walk_at "c") => `(tactic| first | exact trivial | with_reducible assumption | exact ⟨_, rfl⟩ | exact rfl | exact And.intro rfl rfl | exact Nat.le_of_ble_eq_true rfl | exact (fun _ => rfl) | exact (fun _ => imm_ints _) | exact okD_ints _ | (intro z; cases z; done) | omega | (refine Or.inl ⟨?_, ?_⟩ <;> omega) | (refine Or.inr ⟨?_, ?_⟩ <;> omega) | (refine ⟨?_, ?_⟩ <;> omega) | (refine ⟨?_, ?_, ?_⟩ <;> omega) | (simp only [List.length_cons, List.length_nil, List.length_map, List.length_append, sizeLine_eq]; omega) | decide | decide +kernel | assumption)
local macro_rules | `(tactic| walk_at "g") => `(tactic| ((conv => whnf); repeat ((first | ((with_reducible refine And.intro ?_ ?_); focus (walk_at "c")) | refine ifb_t (by decide +kernel) ?_ | refine ifb_f (by decide +kernel) ?_ | refine IfB.f ?_ | refine IfB.t ?_); (conv => whnf))))
local macro_rules | `(tactic| walk_at "x") => `(tactic| (walk_at "g"; try ((refine IfB.mk (fun h => ?_) (fun h => ?_)) <;> (((try simp only [S.d, deqv_int, decide_eq_true_eq, decide_eq_false_iff_not, Bool.not_eq_true', Bool.not_eq_false', Bool.not_eq_true, Bool.not_eq_false, eq_self, not_true_eq_false, not_false_eq_true, decide_true, decide_false, Bool.not_true, Bool.not_false, Bool.false_eq_true, reduceCtorEq, Int.reduceToNat, Int.reducePow, Int.reduceNeg] at h) <;> (first | (exfalso; omega) | walk_at "x"))))))
/-! a text bent -/
theorem selS {Q : Str → Prop} (l : List Str) {i : Int} (h0 : 0 ≤ i) (h1 : i < l.length) (h : ∀ x ∈ l, Q x) : ∃ v, atI (l.map D.str) i = some (.str v) ∧ Q v := by
  have lt : i.toNat < l.length := by omega
  refine ⟨l[i.toNat], ?_, h _ (List.getElem_mem lt)⟩
  unfold atI ixN
  rw [if_pos h0, if_pos (by rw [List.length_map]; exact h1), Option.bind_some, List.getElem?_map, List.getElem?_eq_getElem lt]
  rfl
theorem selN {Q : Nat → Prop} (l : List Nat) {i : Int} (h0 : 0 ≤ i) (h1 : i < l.length) (h : ∀ x ∈ l, Q x) : ∃ v, atI l i = some v ∧ Q v := by
  have lt : i.toNat < l.length := by omega
  refine ⟨l[i.toNat], ?_, h _ (List.getElem_mem lt)⟩
  unfold atI ixN
  rw [if_pos h0, if_pos h1, Option.bind_some, List.getElem?_eq_getElem lt]
/-- a text within bounds -/
def tb (m : Nat) (z : Str) : Prop := z.length ≤ m ∧ ∀ c ∈ z.cps.toList, c < 1114112
theorem tb_cut {m : Nat} {z : Str} (h : tb m z) (lo hi : Option Int) : tb m (cutS z lo hi) := ⟨Nat.le_trans (cutS_length z lo hi) h.1, fun c hc => h.2 c (List.mem_of_mem_drop (List.mem_of_mem_take hc))⟩
theorem tb_app {m n : Nat} {y z : Str} (h1 : tb m y) (h2 : tb n z) : tb (m + n) (y ++ z) := ⟨by
  have : (y ++ z).length = y.length + z.length := by rw [len_tl, tl_append, List.length_append, ← len_tl, ← len_tl]
  have := h1.1
  have := h2.1
  omega, fun c hc => by
  have hc : c ∈ tl (y ++ z) := hc
  rw [tl_append] at hc
  exact (List.mem_append.mp hc).elim (h1.2 c) (h2.2 c)⟩
theorem lit_fine : (Str.ofString "0123456789....----01290123456789.-abcXYZ \n!\"#$&'()*+,/:;<=>?\x40[\\]^_`{|}~dW").length = 73 ∧ (∀ c ∈ (Str.ofString "0123456789....----01290123456789.-abcXYZ \n!\"#$&'()*+,/:;<=>?\x40[\\]^_`{|}~dW").cps.toList, c < 1114112) := by decide +kernel
theorem cut_l (z : Str) (lo hi : Option Int) : (cutS z lo hi).length = min (HT.sIx z.length z.length hi - HT.sIx z.length 0 lo) (z.length - HT.sIx z.length 0 lo) := by
  show ((z.cps.toList.drop (HT.sIx z.length 0 lo)).take (HT.sIx z.length z.length hi - HT.sIx z.length 0 lo)).toArray.size = _
  rw [List.size_toArray, List.length_take, List.length_drop, Array.length_toList]
  rfl
theorem cut_sum (z : Str) (a : Int) (k : Nat) (ha : 0 ≤ a) : (cutS z none (some a)).length + (cutS z (some (a + k)) none).length ≤ z.length ∧ (cutS z none (some a)).length + (cutS z (some a) none).length ≤ z.length ∧ (cutS z none (some a)).length + (cutS z (some a) (some (a + k))).length + (cutS z (some (a + k)) none).length ≤ z.length ∧ (cutS z (some a) (some (a + k))).length ≤ k := by
  rw [cut_l, cut_l, cut_l, cut_l]
  simp only [HT.sIx]
  rw [if_neg (by omega), if_neg (by omega)]
  omega
@[irreducible] def lbT2 : DST := (dSeq (dIfS (dTest (dBin ltD (dhV 4) (dhE (dC (.int 4))))) (dRet (dFz (dBin addD (dhE (dSl (dhV 1) dpN (dpE (dhV 3)))) (dhE (dBin ixD (dhE (dLst (daCons (dhE (dBin addD (dhV 5) (dhE (dSl (dhV 1) (dpE (dhV 3)) dpN)))) (daCons (dhE (dSl (dhV 1) (dpE (dhE (dBin addD (dhV 3) (dhE (dC (.int 1)))))) dpN)) (daCons (dhE (dBin addD (dhV 5) (dhE (dSl (dhV 1) (dpE (dhE (dBin addD (dhV 3) (dhE (dC (.int 1)))))) dpN)))) (daCons (dhE (dBin addD (dhE (dBin mulSD (dhV 5) (dhE (dC (.int 2))))) (dhE (dSl (dhV 1) (dpE (dhV 3)) dpN)))) daNil)))))) (dhV 4)))))) dNext) (dSeq (dIfS (dTest (dBin eqD (dhV 4) (dhE (dC (.int 4))))) (dRet (dFz (dBin addD (dhE (dBin addD (dhE (dSl (dhV 1) dpN (dpE (dhV 3)))) (dhE (dRevS (dSl (dhV 1) (dpE (dhV 3)) (dpE (dhE (dBin addD (dhV 3) (dhE (dC (.int 2))))))))))) (dhE (dSl (dhV 1) (dpE (dhE (dBin addD (dhV 3) (dhE (dC (.int 2)))))) dpN))))) dNext) (dSeq (dIfS (dTest (dBin eqD (dhV 4) (dhE (dC (.int 5))))) (dRet (dFz (dBin addD (dhE (dBin addD (dhE (dSl (dhV 1) dpN (dpE (dhV 3)))) (dhE (dSl (dhV 1) (dpE (dhV 3)) (dpE (dhE (dBin addD (dhV 3) (dhE (dC (.int 3)))))))))) (dhE (dSl (dhV 1) (dpE (dhV 3)) dpN))))) dNext) (dRet (dFz (dBin ixD (dhE (dLst (daCons (dhE (dRevS (dV 1))) (daCons (dhE (dBin addD (dhE (dSl (dhV 1) (dpE (dhV 3)) dpN)) (dhE (dSl (dhV 1) dpN (dpE (dhV 3)))))) daNil)))) (dhE (dBin subD (dhV 4) (dhE (dC (.int 6)))))))))))
theorem lb_eq : t_l_bent = (dSeq (dAsg (dFz (dC (.str "0123456789....----01290123456789.-abcXYZ \n!\"#$&'()*+,/:;<=>?\x40[\\]^_`{|}~dW"))) (gN 2)) (dSeq (dParO [3, 4, 5] (doCons (dFz (dCallN 0 sp_l_take [] (daCons (dhV 0) (daCons (dhE (dBin addD (dhE (dCB lenD (daCons (dhV 1) daNil))) (dhE (dC (.int 1))))) daNil)))) (doCons (dFz (dCallN 0 sp_l_take [] (daCons (dhV 0) (daCons (dhE (dC (.int 8))) daNil)))) (doCons (dFz (dBin ixD (dhV 2) (dhE (dCallN 0 sp_l_take [] (daCons (dhV 0) (daCons (dhE (dCB lenD (daCons (dhV 2) daNil))) daNil)))))) doNil)))) lbT2)) := by unfold t_l_bent lbT2; rfl
theorem lb_2 (R : S → List D → Prop) (d0 ds : List D) (n : Int) (z y : Str) (x2 : Option S) (a w : Int) (hb : BoxOk n ds) (a0 : 0 ≤ a) (w0 : 0 ≤ w) (w8 : w < 8) (hy : tb 1 y) (tz : ∀ c ∈ z.cps.toList, c < 1114112) (hl : z.length ≤ 500)
    (k : ∀ z', tb (z.length + 3) z' → R (.v (.str z')) ds) : lbT2 (defEnds [.m d0, .v (.str z)] R) [some (.m ds), some (.v (.str z)), x2, some (.v (.int a)), some (.v (.int w)), some (.v (.str y))] := by
  unfold lbT2
  have hsz := sizeLine_eq
  have lz : z.length ≤ sizeLine := by omega
  obtain ⟨s1, s2, _, _⟩ := cut_sum z a 1 a0
  obtain ⟨s3, _, s4, s5⟩ := cut_sum z a 2 a0
  obtain ⟨_, _, s6, s7⟩ := cut_sum z a 3 a0
  rw [show a + ((1 : Nat) : Int) = a + 1 by omega] at s1
  rw [show a + ((2 : Nat) : Int) = a + 2 by omega] at s3 s4 s5
  rw [show a + ((3 : Nat) : Int) = a + 3 by omega] at s6 s7
  have hy1 := hy.1
  have tzl : tb z.length z := ⟨Nat.le_refl _, tz⟩
  have cc : ∀ lo hi, ∀ c ∈ (cutS z lo hi).cps.toList, c < 1114112 := fun lo hi => (tb_cut tzl lo hi).2
  have ap : ∀ u v : Str, (∀ c ∈ u.cps.toList, c < 1114112) → (∀ c ∈ v.cps.toList, c < 1114112) → (u ++ v).length = u.length + v.length ∧ ∀ c ∈ (u ++ v).cps.toList, c < 1114112 := fun u v h1 h2 => ⟨by rw [len_tl, tl_append, List.length_append, ← len_tl, ← len_tl], (tb_app (m := u.length) (n := v.length) ⟨Nat.le_refl _, h1⟩ ⟨Nat.le_refl _, h2⟩).2⟩
  by_cases h4 : w < 4
  · walk_at "g"
    refine ifb_t (decide_eq_true h4) ?_
    walk_at "g"
    intro y2 hy2 hm2
    have y2l : y2.length ≤ 2 := by rw [hy2]; have : (2 : Int).toNat = 2 := rfl; rw [this]; omega
    walk_at "g"
    simp only [S.d]
    obtain ⟨g1, g1'⟩ := ap y (cutS z (some a) none) hy.2 (cc _ _)
    obtain ⟨g3, g3'⟩ := ap y (cutS z (some (a + 1)) none) hy.2 (cc _ _)
    obtain ⟨g4, g4'⟩ := ap y2 (cutS z (some a) none) (fun c hc => hy.2 c (hm2 c hc)) (cc _ _)
    obtain ⟨v, ev, v1, v2⟩ := selS (Q := fun v => (cutS z none (some a)).length + v.length ≤ z.length + 2 ∧ ∀ c ∈ v.cps.toList, c < 1114112) [y ++ cutS z (some a) none, cutS z (some (a + 1)) none, y ++ cutS z (some (a + 1)) none, y2 ++ cutS z (some a) none] w0 (by simpa using h4) (by
      simp only [List.mem_cons, List.not_mem_nil, or_false]
      rintro x (rfl | rfl | rfl | rfl)
      · exact ⟨by omega, g1'⟩
      · exact ⟨by omega, cc _ _⟩
      · exact ⟨by omega, g3'⟩
      · exact ⟨by omega, g4'⟩)
    simp only [List.map_cons, List.map_nil] at ev
    rw [ev]
    walk_at "g"
    obtain ⟨e1, e2⟩ := ap (cutS z none (some a)) v (cc _ _) v2
    exact k _ ⟨by omega, e2⟩
  · by_cases h5 : w = 4
    · subst h5
      walk_at "g"
      intro y2 hy2 hm2
      have y2c : ∀ c ∈ y2.cps.toList, c < 1114112 := fun c hc => cc _ _ c (hm2 c hc)
      obtain ⟨e1, e2⟩ := ap (cutS z none (some a)) y2 (cc _ _) y2c
      obtain ⟨f1, f2⟩ := ap (cutS z none (some a) ++ y2) (cutS z (some (a + 2)) none) e2 (cc _ _)
      walk_at "g"
      exact k _ ⟨by omega, f2⟩
    · by_cases h6 : w = 5
      · subst h6
        obtain ⟨e1, e2⟩ := ap (cutS z none (some a)) (cutS z (some a) (some (a + 3))) (cc _ _) (cc _ _)
        obtain ⟨f1, f2⟩ := ap (cutS z none (some a) ++ cutS z (some a) (some (a + 3))) (cutS z (some a) none) e2 (cc _ _)
        walk_at "g"
        exact k _ ⟨by omega, f2⟩
      · obtain ⟨f1, f2⟩ := ap (cutS z (some a) none) (cutS z none (some a)) (cc _ _) (cc _ _)
        have hw : w = 6 ∨ w = 7 := by omega
        rcases hw with rfl | rfl
        all_goals
          walk_at "g"
          intro y2 hy2 hm2
          walk_at "g"
          first
            | exact k _ ⟨by omega, fun c hc => tz c (hm2 c hc)⟩
            | exact k _ ⟨by omega, f2⟩
theorem p_l_bent : ∀ as R RX, sp_l_bent as R RX → cntM as ≤ 1 → t_l_bent (defEnds as R) (startR 6 as) := by
  rintro as R RX ⟨ds, n, z, rfl, hb, hn, ho, hl, k⟩ _
  have k : ∀ (z' : Str) ds', tb (z.length + 3) z' → BoxOk (n + 3) ds' → R (.v (.str z')) ds' := fun z' ds' h hb => k z' ds' h.1 ⟨by have := h.1; omega, h.2⟩ hb
  have tz : tb z.length z := ⟨Nat.le_refl _, ho.2⟩
  rw [lb_eq]
  walk_at "g"
  refine ⟨ds, _, n, rfl, hb, by omega, by omega, by omega, fun a ds1 a1 c1 hb1 => ?_⟩
  walk_at "g"
  refine ⟨ds1, 8, _, rfl, hb1, by omega, by omega, by omega, fun w ds2 a2 c2 hb2 => ?_⟩
  obtain ⟨lt1, lt2⟩ := lit_fine
  generalize hL : Str.ofString "0123456789....----01290123456789.-abcXYZ \n!\"#$&'()*+,/:;<=>?\x40[\\]^_`{|}~dW" = L at *
  walk_at "g"
  refine ⟨ds2, _, _, rfl, hb2, by omega, by rw [lt1]; omega, by rw [lt1]; omega, fun q ds3 a3 c3 hb3 => ?_⟩
  rw [lt1] at c3
  obtain ⟨c, ec, cb⟩ := selN (Q := fun c => c < 1114112) L.cps.toList a3 (by rw [Array.length_toList]; show q < (L.length : Nat); rw [lt1]; exact c3) lt2
  have lL : L.length ≤ sizeLine := by rw [lt1, sizeLine_eq]; omega
  walk_at "g"
  rw [ec]
  walk_at "w"
  refine ⟨lL, ?_⟩
  walk_at "g"
  exact lb_2 R ds ds3 _ z ⟨#[c]⟩ _ a w hb3 a1 a2 c2 ⟨Nat.le_refl _, fun d hd => by
    have hd : d ∈ [c] := hd
    rw [List.mem_singleton.mp hd]
    exact cb⟩ ho.2 hl fun z' hz => k z' ds3 hz (hb3.le (by omega))
end K05

/-! each def does what is promised: over data alone -/
namespace K05
open PySem L2 DL PL EN TL
local macro_rules | `(tactic| walk_at "w") => `(tactic| conv => whnf)
local macro_rules | `(tactic| walk_at "c") => `(tactic| first | exact trivial | with_reducible assumption | exact ⟨_, rfl⟩ | exact rfl | exact And.intro rfl rfl | exact Nat.le_of_ble_eq_true rfl | exact (fun _ => rfl) | exact (fun _ => imm_ints _) | exact okD_ints _ | (intro z; cases z; done) | omega | (refine Or.inl ⟨?_, ?_⟩ <;> omega) | (refine Or.inr ⟨?_, ?_⟩ <;> omega) | (refine ⟨?_, ?_⟩ <;> omega) | (refine ⟨?_, ?_, ?_⟩ <;> omega) | (simp only [List.length_cons, List.length_nil, List.length_map, List.length_append, sizeLine_eq]; omega) | decide | decide +kernel | assumption)
local macro_rules | `(tactic| walk_at "g") => `(tactic| ((conv => whnf); repeat ((first | ((with_reducible refine And.intro ?_ ?_); focus (walk_at "c")) | refine ifb_t (by decide +kernel) ?_ | refine ifb_f (by decide +kernel) ?_ | refine IfB.f ?_ | refine IfB.t ?_); (conv => whnf))))
local macro_rules | `(tactic| walk_at "x") => `(tactic| (walk_at "g"; try ((refine IfB.mk (fun h => ?_) (fun h => ?_)) <;> (((try simp only [S.d, deqv_int, decide_eq_true_eq, decide_eq_false_iff_not, Bool.not_eq_true', Bool.not_eq_false', Bool.not_eq_true, Bool.not_eq_false, eq_self, not_true_eq_false, not_false_eq_true, decide_true, decide_false, Bool.not_true, Bool.not_false, Bool.false_eq_true, reduceCtorEq, Int.reduceToNat, Int.reducePow, Int.reduceNeg] at h) <;> (first | (exfalso; omega) | walk_at "x"))))))
theorem p_l_told : ∀ as R RX, sp_l_told as R RX → cntM as ≤ 1 → t_l_told (defEnds as R) (startR 5 as) := by
  rintro as R RX ⟨ds, n, z, rfl, hb, hn, ho, k⟩ _
  have okz := okD_txt ho.2
  have okn : okN 0 (.str z) = true := by
    have := ho.2
    exact okN_str 0 (by
      unfold PyData.strOk
      rw [Array.all_eq_true']
      intro c hc
      exact decide_eq_true (this c (Array.mem_toList_iff.mpr hc)))
  walk_at "g"
  refine ⟨ds, 2, n, rfl, hb, by omega, by omega, by omega, fun r1 ds1 a1 c1 hb1 => ?_⟩
  have k := k ds1 hb1
  walk_at "x"
  all_goals
    refine ⟨z, rfl, ho, fun s hs => ?_, fun hx => ?_⟩
    · obtain ⟨hs1, hs2⟩ := rd_iff.mp hs
      have k : R (.v (.tup (fsS s ++ [.str (strS s)]))) ds1 := by
        rw [hs] at k
        rw [← hs2]
        exact k
      have hl : (fsS s).length + 1 ≤ sizeLine ∧ fsS s ≠ [] := by
        rcases s with _ | ⟨l, la, _ | ⟨b, e⟩⟩ <;> exact ⟨by rw [sizeLine_eq]; simp [fsS], by simp [fsS]⟩
      obtain ⟨fs, e1⟩ := p_ins s
      walk_at "g"
      refine ⟨s, rfl, ?_⟩
      walk_at "g"
      refine strA_spot hs1 _ ?_
      walk_at "g"
      refine ⟨hl.2, hl.1, ?_⟩
      walk_at "g"
      exact k
    · rw [hx] at k
      refine ⟨fun _ => rfl, rfl, rfl, rfl, show (4 : Nat) < 5 by omega, ?_⟩
      walk_at "g"
      refine ⟨.str z, rfl, ?_⟩
      walk_at "g"
      refine ⟨.str z, rfl, goodV_leaf _ (.inr (.inr (.inr ⟨z, rfl, okn⟩))), ?_⟩
      walk_at "g"
      exact k
theorem okN_txt {z : Str} (h : txtOk z) : okN 0 (.str z) = true := okN_str 0 (by
      unfold PyData.strOk
      rw [Array.all_eq_true']
      intro c hc
      exact decide_eq_true (h.2 c (Array.mem_toList_iff.mpr hc)))
theorem strS_cs {s : Spot} (h : s.ok) : txtOk (strS s) := ⟨by have := strS_len h; omega, fun c hc => by
  have := strS_ok s
  unfold PyData.strOk at this
  rw [Array.all_eq_true'] at this
  exact of_decide_eq_true (this c (Array.mem_toList_iff.mp hc))⟩
theorem due_good (z : Str) (h : txtOk z) (o : Option Spot) : goodV 3 (dueO z o) := by
  have hz : leafV (.str z) := .inr (.inr (.inr ⟨z, rfl, okN_txt h⟩))
  cases o with
  | none => exact goodV_leaf _ (.inr (.inr (.inr ⟨_, rfl, by decide +kernel⟩)))
  | some s =>
    refine .inr ⟨_, .inr rfl, ?_, ?_⟩
    · rcases s with _ | ⟨l, la, _ | ⟨b, e⟩⟩ <;> simp [fsS]
    · intro x hx
      refine goodV_leaf _ ?_
      rcases s with _ | ⟨l, la, _ | ⟨b, e⟩⟩
      all_goals
        simp only [fsS, List.cons_append, List.nil_append, List.mem_cons, List.not_mem_nil, or_false] at hx
        rcases hx with rfl | rfl | rfl | rfl | rfl
        all_goals first | exact hz | exact .inl ⟨_, rfl⟩ | exact .inr (.inl rfl)
theorem be_loop (x0 x1 x3 : Option S) (De : DEnds) : ∀ (xs : List Int) (ds : List D) (n : Int) (z : Str), BoxOk n ds → n + 3 * xs.length < 2 ^ 29 → txtOk z → z.length + 3 * xs.length ≤ 400 →
    (∀ z' ds', txtOk z' → BoxOk (n + 3 * xs.length) ds' → De.nx [x0, x1, some (.o ds'), x3, some (.v (.str z')), none, none]) → forW [5] (gN 5) t_law_B1 De (xs.map D.int) [x0, x1, some (.o ds), x3, some (.v (.str z)), none, none]
  | [], ds, n, z, hb, hn, hz, hl, k => k z ds hz (hb.le (by simp))
  | x :: xs, ds, n, z, hb, hn, hz, hl, k => by
    rw [List.length_cons] at hn hl k
    have ih := fun z' ds' (h1 : txtOk z') (h2 : z'.length ≤ z.length + 3) (h3 : BoxOk (n + 3) ds') => be_loop x0 x1 x3 De xs ds' (n + 3) z' h3 (by omega) h1 (by omega) fun z'' ds'' g1 g2 => k z'' ds'' g1 (g2.le (by omega))
    clear k
    show forW _ _ _ De (.int x :: xs.map D.int) _
    walk_at "g"
    refine ⟨ds, n, z, rfl, hb, by omega, hz, by omega, fun z' ds' h1 h2 h3 => ?_⟩
    walk_at "g"
    exact ih z' ds' h2 h1 h3
@[irreducible] def lwT2 : DST := (dSeq (dAsg (dFz (dCall sp_l_read [] (daCons (dhV 4) daNil))) (gN 6)) (dIfS (dtNot (dTru (dhE (dCall sp_l_same [] (daCons (dhE (dCallN 0 sp_l_told [] (daCons (dhV 2) (daCons (dhV 4) daNil)))) (daCons (dhE (dIf (dTest (dBin isND (dhV 6) (dhE (dC .non)))) (dC (.str "refused")) (dBin addD (dhV 6) (dhE (dTup (daCons (dhE (dV 4)) daNil)))))) daNil)))))) (dRet (dC (.bl false))) dNext))
theorem lw_eq : t_law_B2 = (dSeq (dAsg (dFz (dCall sp_l_text [] (daCons (dhE (dCallN 0 sp_l_spot [] (daCons (dhV 2) (daCons (dhE (dBin ixD (dhE (dLst (daCons (dhE (dC (.int 9))) (daCons (dhE (dC (.int 1000))) (daCons (dhE (dBin powD (dhE (dC (.int 10))) (dhE (dC (.int 6))))) daNil))))) (dhE (dCallN 0 sp_l_take [] (daCons (dhV 2) (daCons (dhE (dC (.int 3))) daNil)))))) daNil)))) daNil))) (gN 4)) (dSeq (dForW [5] (diRng1 (daCons (dhE (dBin mulD (dhE (dCallN 0 sp_l_take [] (daCons (dhV 2) (daCons (dhE (dC (.int 4))) daNil)))) (dhE (dCB intD (daCons (dhE (dBin gtD (dhV 3) (dhE (dC (.int 0))))) daNil))))) daNil)) (gN 5) t_law_B1) lwT2)) := by unfold t_law_B2 lwT2; rfl
theorem lwT2_ok (x0 x1 x3 x5 : Option S) (De : DEnds) (ds : List D) (n : Int) (z : Str) (hb : BoxOk n ds) (hn : n < 2 ^ 29) (hz : txtOk z) (k : ∀ ds' (d6 : D), BoxOk (n + 1) ds' → De.nx [x0, x1, some (.o ds'), x3, some (.v (.str z)), x5, some (.v d6)]) :
    lwT2 De [x0, x1, some (.o ds), x3, some (.v (.str z)), x5, none] := by
  unfold lwT2
  walk_at "g"
  refine ⟨z, rfl, hz, ?_⟩
  have hg := due_good z hz (rd (tl z))
  cases ho : rd (tl z) with
  | none =>
    rw [ho] at hg
    walk_at "g"
    refine ⟨ds, n, z, rfl, hb, by omega, hz, fun ds' h1 => ?_⟩
    rw [ho]
    have k := fun x6 => k ds' x6 h1
    walk_at "g"
    refine ⟨.str "refused", rfl, hg, ?_⟩
    walk_at "g"
    exact k _
  | some s =>
    rw [ho] at hg
    have hg : goodV 3 (.tup (fsS s ++ [.str z])) := hg
    have hl : (fsS s).length + 1 ≤ sizeLine ∧ fsS s ≠ [] ∧ s.d = .tup (fsS s) := by
      rcases s with _ | ⟨l, la, _ | ⟨b, e⟩⟩ <;> exact ⟨by rw [sizeLine_eq]; simp [fsS], by simp [fsS], rfl⟩
    have es : spoO (some s) = .tup (fsS s) := hl.2.2
    rw [es]
    walk_at "g"
    refine ⟨ds, n, z, rfl, hb, by omega, hz, fun ds' h1 => ?_⟩
    rw [ho]
    have k := fun x6 => k ds' x6 h1
    walk_at "g"
    refine ⟨hl.2.1, hl.1, ?_⟩
    walk_at "g"
    refine ⟨.tup (fsS s ++ [.str z]), rfl, hg, ?_⟩
    walk_at "g"
    exact k _
theorem tu_loop (x0 x1 : Option S) (De : DEnds) : ∀ (xs : List Int) (ds : List D) (n : Int), BoxOk n ds → n + 30 * xs.length < 2 ^ 28 → (∀ ds', De.nx [x0, x1, some (.o ds'), none, none, none, none]) →
    forW [3, 4, 5, 6] (gN 3) t_law_B2 De (xs.map D.int) [x0, x1, some (.o ds), none, none, none, none]
  | [], ds, n, hb, hn, k => k ds
  | x :: xs, ds, n, hb, hn, k => by
    rw [List.length_cons] at hn
    have ih := fun ds' (h3 : BoxOk (n + 30) ds') => tu_loop x0 x1 De xs ds' (n + 30) h3 (by omega) k
    clear k
    rw [lw_eq] at ih ⊢
    show forW _ _ _ De (.int x :: xs.map D.int) _
    walk_at "g"
    refine ⟨ds, 3, n, rfl, hb, by omega, by omega, by omega, fun r ds1 a1 c1 hb1 => ?_⟩
    obtain ⟨q3, e3, h3⟩ := sel3 (Q := fun x => 1 ≤ x ∧ x ≤ 1000000) (x := 9) (y := 1000) (z := 10 ^ Int.toNat 6) a1 c1 (by omega) (by omega) (by decide)
    walk_at "g"
    simp only [S.d]
    rw [e3]
    walk_at "g"
    refine ⟨ds1, _, q3, rfl, hb1, by omega, by omega, by omega, fun s ds2 hs hb2 => ?_⟩
    walk_at "g"
    refine ⟨s, rfl, hs, ?_⟩
    have hz := strS_cs hs
    have hzl := strS_len hs
    generalize strS s = z at *
    walk_at "g"
    refine ⟨ds2, 4, _, rfl, hb2, by omega, by omega, by omega, fun m ds3 a3 c3 hb3 => ?_⟩
    walk_at "g"
    have hM : ∃ M : Int, (m * if (fun (i j : Int) => decide (j < i)) x 0 = true then 1 else 0) = M ∧ 0 ≤ M ∧ M ≤ 3 := ⟨_, rfl, by split <;> omega, by split <;> omega⟩
    obtain ⟨M, eM, m0, m1⟩ := hM
    rw [eM]
    refine ⟨⟨by omega, by omega⟩, ?_⟩
    rw [rng_ints]
    refine be_loop _ _ _ _ _ ds3 _ z hb3 (by simp; omega) hz (by simp; omega) fun z' ds4 hz4 hb4 => ?_
    have hb5 : BoxOk (n + 25) ds4 := hb4.le (by simp; omega)
    refine lwT2_ok _ _ _ _ _ ds4 (n + 25) z' hb5 (by omega) hz4 fun ds5 x6 hb6 => ?_
    have ih := ih ds5 (hb6.le (by omega))
    walk_at "g"
    exact ih
theorem kk_loop (ns : List Int) (De : DEnds) : ∀ (xs : List Int), (∀ x ∈ xs, 0 ≤ x ∧ x < 1000) →
    De.nx [some (.v (.rol (ns.map D.int))), none, none, none, none, none, none] →
    forW [1, 2, 3, 4, 5, 6] (gN 1) t_law_B3 De (xs.map D.int) [some (.v (.rol (ns.map D.int))), none, none, none, none, none, none]
  | [], hx, k => k
  | x :: xs, hx, k => by
    obtain ⟨x0, x1⟩ := hx x List.mem_cons_self
    have go := kk_loop ns De xs (fun y hy => hx y (List.mem_cons_of_mem _ hy)) k
    clear k
    show forW _ _ _ De (.int x :: xs.map D.int) _
    walk_at "g"
    refine ⟨ns, x, rfl, x0, x1, fun bx hb => ?_⟩
    walk_at "w"
    refine ⟨by walk_at "c", ?_⟩
    walk_at "w"
    refine ⟨by walk_at "c", ?_⟩
    rw [rng_ints]
    refine tu_loop _ _ _ _ bx 0 hb (by simp) fun ds' => ?_
    walk_at "g"
    exact go
theorem p_law : ∀ as R RX, sp_law as R RX → cntM as ≤ 1 → t_law (defEnds as R) (startR 7 as) := by
  rintro as R RX ⟨ns, rfl, hl, k⟩ _
  walk_at "w"
  refine ⟨?_, ?_⟩
  · rw [List.length_map]
    constructor <;> split <;> omega
  rw [rng_ints]
  refine kk_loop ns _ _ (fun x hx => ?_) ?_
  · obtain ⟨i, hi, rfl⟩ := List.mem_map.mp hx
    have := List.mem_range.mp hi
    rw [List.length_map] at this
    split at this <;> omega
  walk_at "g"
  exact k
end K05

/-! derivations: printed by gen.py -/
namespace K05
open PySem L2 DL
structure Ctx (K : PySem.W.Frag) (mg : Str → Option Value) : Prop where
  f_l_cell_at : ∃ fd, FunD K "_law_cell_at" "_law_cell_at" (defArgs s_l_cell_at) (defBody s_l_cell_at) (defScope s_l_cell_at) [] [] (He.ga K "_law_cell_at") fd
  g_l_cell_at : mg "_law_cell_at" = some (.ref (He.ga K "_law_cell_at"))
  f_l_box : ∃ fd, FunD K "_law_box" "_law_box" (defArgs s_l_box) (defBody s_l_box) (defScope s_l_box) [] [] (He.ga K "_law_box") fd
  g_l_box : mg "_law_box" = some (.ref (He.ga K "_law_box"))
  f_l_text : ∃ fd, FunD K "_law_text" "_law_text" (defArgs s_l_text) (defBody s_l_text) (defScope s_l_text) [] [] (He.ga K "_law_text") fd
  g_l_text : mg "_law_text" = some (.ref (He.ga K "_law_text"))
  f_l_number : ∃ fd, FunD K "_law_number" "_law_number" (defArgs s_l_number) (defBody s_l_number) (defScope s_l_number) [] [] (He.ga K "_law_number") fd
  g_l_number : mg "_law_number" = some (.ref (He.ga K "_law_number"))
  f_l_within : ∃ fd, FunD K "_law_within" "_law_within" (defArgs s_l_within) (defBody s_l_within) (defScope s_l_within) [] [] (He.ga K "_law_within") fd
  g_l_within : mg "_law_within" = some (.ref (He.ga K "_law_within"))
  f_l_read : ∃ fd, FunD K "_law_read" "_law_read" (defArgs s_l_read) (defBody s_l_read) (defScope s_l_read) [] [] (He.ga K "_law_read") fd
  g_l_read : mg "_law_read" = some (.ref (He.ga K "_law_read"))
  f_l_take : ∃ fd, FunD K "_law_take" "_law_take" (defArgs s_l_take) (defBody s_l_take) (defScope s_l_take) [] [] (He.ga K "_law_take") fd
  g_l_take : mg "_law_take" = some (.ref (He.ga K "_law_take"))
  f_l_spot : ∃ fd, FunD K "_law_spot" "_law_spot" (defArgs s_l_spot) (defBody s_l_spot) (defScope s_l_spot) [] [] (He.ga K "_law_spot") fd
  g_l_spot : mg "_law_spot" = some (.ref (He.ga K "_law_spot"))
  f_l_bent : ∃ fd, FunD K "_law_bent" "_law_bent" (defArgs s_l_bent) (defBody s_l_bent) (defScope s_l_bent) [] [] (He.ga K "_law_bent") fd
  g_l_bent : mg "_law_bent" = some (.ref (He.ga K "_law_bent"))
  f_l_same : ∃ fd, FunD K "_law_same" "_law_same" (defArgs s_l_same) (defBody s_l_same) (defScope s_l_same) [] [] (He.ga K "_law_same") fd
  g_l_same : mg "_law_same" = some (.ref (He.ga K "_law_same"))
  f_Place_str : ∃ fd, FunD K "__str__" "Place.__str__" (defArgs s_Place_str) (defBody s_Place_str) (defScope s_Place_str) [] [] (He.ma K (He.ga K "Place") "__str__") fd
  f_figures_in : ∃ fd, FunD K "figures_in" "figures_in" (defArgs s_figures_in) (defBody s_figures_in) (defScope s_figures_in) [] [] (He.ga K "figures_in") fd
  g_figures_in : mg "figures_in" = some (.ref (He.ga K "figures_in"))
  f_number_in : ∃ fd, FunD K "number_in" "number_in" (defArgs s_number_in) (defBody s_number_in) (defScope s_number_in) [] [] (He.ga K "number_in") fd
  g_number_in : mg "number_in" = some (.ref (He.ga K "number_in"))
  f_numbers_in : ∃ fd, FunD K "numbers_in" "numbers_in" (defArgs s_numbers_in) (defBody s_numbers_in) (defScope s_numbers_in) [] [] (He.ga K "numbers_in") fd
  g_numbers_in : mg "numbers_in" = some (.ref (He.ga K "numbers_in"))
  f_is_number : ∃ fd, FunD K "is_number" "is_number" (defArgs s_is_number) (defBody s_is_number) (defScope s_is_number) [] [] (He.ga K "is_number") fd
  g_is_number : mg "is_number" = some (.ref (He.ga K "is_number"))
  f_is_between : ∃ fd, FunD K "is_between" "is_between" (defArgs s_is_between) (defBody s_is_between) (defScope s_is_between) [] [] (He.ga K "is_between") fd
  g_is_between : mg "is_between" = some (.ref (He.ga K "is_between"))
  f_is_line : ∃ fd, FunD K "is_line" "is_line" (defArgs s_is_line) (defBody s_is_line) (defScope s_is_line) [] [("least", .int (1)), ("most", .int (1000000))] (He.ga K "is_line") fd
  g_is_line : mg "is_line" = some (.ref (He.ga K "is_line"))
  f_is_last : ∃ fd, FunD K "is_last" "is_last" (defArgs s_is_last) (defBody s_is_last) (defScope s_is_last) [] [] (He.ga K "is_last") fd
  g_is_last : mg "is_last" = some (.ref (He.ga K "is_last"))
  f_is_column : ∃ fd, FunD K "is_column" "is_column" (defArgs s_is_column) (defBody s_is_column) (defScope s_is_column) [] [("least", .int (0))] (He.ga K "is_column") fd
  g_is_column : mg "is_column" = some (.ref (He.ga K "is_column"))
  f_is_begin : ∃ fd, FunD K "is_begin" "is_begin" (defArgs s_is_begin) (defBody s_is_begin) (defScope s_is_begin) [] [] (He.ga K "is_begin") fd
  g_is_begin : mg "is_begin" = some (.ref (He.ga K "is_begin"))
  f_is_end : ∃ fd, FunD K "is_end" "is_end" (defArgs s_is_end) (defBody s_is_end) (defScope s_is_end) [] [] (He.ga K "is_end") fd
  g_is_end : mg "is_end" = some (.ref (He.ga K "is_end"))
  f_Place_init : ∃ fd, FunD K "__init__" "Place.__init__" (defArgs s_Place_init) (defBody s_Place_init) (defScope s_Place_init) [.non, .non] [("begin", .non), ("end", .non)] (He.ma K (He.ga K "Place") "__init__") fd
  f_place_in : ∃ fd, FunD K "place_in" "place_in" (defArgs s_place_in) (defBody s_place_in) (defScope s_place_in) [] [] (He.ga K "place_in") fd
  g_place_in : mg "place_in" = some (.ref (He.ga K "place_in"))
  f_l_seen : ∃ fd, FunD K "_law_seen" "_law_seen" (defArgs s_l_seen) (defBody s_l_seen) (defScope s_l_seen) [] [] (He.ga K "_law_seen") fd
  g_l_seen : mg "_law_seen" = some (.ref (He.ga K "_law_seen"))
  f_l_alone : ∃ fd, FunD K "_law_alone" "_law_alone" (defArgs s_l_alone) (defBody s_l_alone) (defScope s_l_alone) [] [] (He.ga K "_law_alone") fd
  g_l_alone : mg "_law_alone" = some (.ref (He.ga K "_law_alone"))
  f_l_told : ∃ fd, FunD K "_law_told" "_law_told" (defArgs s_l_told) (defBody s_l_told) (defScope s_l_told) [] [] (He.ga K "_law_told") fd
  g_l_told : mg "_law_told" = some (.ref (He.ga K "_law_told"))
  f_law : ∃ fd, FunD K "law" "law" (defArgs s_law) (defBody s_law) (defScope s_law) [] [] (He.ga K "law") fd
  g_law : mg "law" = some (.ref (He.ga K "law"))
  g_BadEntry : mg "BadEntry" = some (.ref (He.ga K "BadEntry"))
  g_BadPlace : mg "BadPlace" = some (.ref (He.ga K "BadPlace"))
  g_BadRow : mg "BadRow" = some (.ref (He.ga K "BadRow"))
  g_BadText : mg "BadText" = some (.ref (He.ga K "BadText"))
  g_BadTurn : mg "BadTurn" = some (.ref (He.ga K "BadTurn"))
  g_Broken : mg "Broken" = some (.ref (He.ga K "Broken"))
  g_NoCard : mg "NoCard" = some (.ref (He.ga K "NoCard"))
  g_NoDeed : mg "NoDeed" = some (.ref (He.ga K "NoDeed"))
  g_NoRoom : mg "NoRoom" = some (.ref (He.ga K "NoRoom"))
  g_Place : mg "Place" = some (.ref (He.ga K "Place"))
  g_Torn : mg "Torn" = some (.ref (He.ga K "Torn"))
  er_BadPlace : ErrC K "BadPlace" "part"
  ex_BadPlace : PySem.W.exmOne K (.ref (He.ga K "BadPlace")) (.ref (He.ga K "BadPlace")) = some true
  ox_BadPlace : OexB K (He.ga K "BadPlace") bValue
  er_BadText : ErrC K "BadText" "text"
  ex_BadText : PySem.W.exmOne K (.ref (He.ga K "BadText")) (.ref (He.ga K "BadText")) = some true
  ox_BadText : OexB K (He.ga K "BadText") bValue
  fi_BadPlace : ∃ fd, FunD K "__init__" "BadPlace.__init__" (defArgs sI_BadPlace) (defBody sI_BadPlace) (defScope sI_BadPlace) [] [] (He.ma K (He.ga K "BadPlace") "__init__") fd
  fi_BadText : ∃ fd, FunD K "__init__" "BadText.__init__" (defArgs sI_BadText) (defBody sI_BadText) (defScope sI_BadText) [] [] (He.ma K (He.ga K "BadText") "__init__") fd
  kt0 : PySem.W.kitOne K (.ref (He.ga K "BadText")) (.ref (He.ga K "Torn")) = some false
  kt1 : PySem.W.kitOne K (.ref (He.ga K "BadText")) (.ref (He.ga K "BadRow")) = some false
  kt2 : PySem.W.kitOne K (.ref (He.ga K "BadText")) (.ref (He.ga K "BadText")) = some true
  kt3 : PySem.W.kitOne K (.ref (He.ga K "BadText")) (.ref (He.ga K "BadPlace")) = some false
  kt4 : PySem.W.kitOne K (.ref (He.ga K "BadText")) (.ref (He.ga K "BadTurn")) = some false
  kt5 : PySem.W.kitOne K (.ref (He.ga K "BadText")) (.ref (He.ga K "BadEntry")) = some false
  kt6 : PySem.W.kitOne K (.ref (He.ga K "BadText")) (.ref (He.ga K "Broken")) = some false
  kt7 : PySem.W.kitOne K (.ref (He.ga K "BadText")) (.ref (He.ga K "NoRoom")) = some false
  kt8 : PySem.W.kitOne K (.ref (He.ga K "BadText")) (.ref (He.ga K "NoDeed")) = some false
  kt9 : PySem.W.kitOne K (.ref (He.ga K "BadText")) (.ref (He.ga K "NoCard")) = some false
  kt10 : PySem.W.kitOne K (.ref (He.ga K "BadText")) (.type "ValueError") = some true
  cl_Place : ClsC K "Place"
  na_Place_begin : NoAttr K (He.ga K "Place") "begin"
  na_Place_end : NoAttr K (He.ga K "Place") "end"
  na_Place_last : NoAttr K (He.ga K "Place") "last"
  na_Place_line : NoAttr K (He.ga K "Place") "line"
  mt_Place___str__ : Meth K (He.ga K "Place") "__str__" (He.ma K (He.ga K "Place") "__str__")
  b_ValueError : mg "ValueError" = none
  b_abs : mg "abs" = none
  b_all : mg "all" = none
  b_bool : mg "bool" = none
  b_int : mg "int" = none
  b_isinstance : mg "isinstance" = none
  b_len : mg "len" = none
  b_list : mg "list" = none
  b_max : mg "max" = none
  b_min : mg "min" = none
  b_range : mg "range" = none
  b_str : mg "str" = none
  b_tuple : mg "tuple" = none
  b_zip : mg "zip" = none
  c_FIGURES : ∃ t, mg "FIGURES" = some (.str "0123456789" t)
  c_MOST_BELOW : ∃ t, mg "MOST_BELOW" = some (.int 99 t)
  c_MOST_COLUMN : ∃ t, mg "MOST_COLUMN" = some (.int 10000 t)
  c_MOST_FIGURES : ∃ t, mg "MOST_FIGURES" = some (.int 7 t)
  c_MOST_LINE : ∃ t, mg "MOST_LINE" = some (.int 1000000 t)
  c_NOWHERE : ∃ t, mg "NOWHERE" = some (.str "-" t)
section
variable {P : Program} {w : World} {K : PySem.W.Frag} {mg : Str → Option Value} {base : Heap}
theorem ini_BadPlace (T : Ctx K mg) : ∃ fd, FnOk P w K mg base CX0 1 (He.ma K (He.ga K "BadPlace") "__init__") fd ["self", "part"] (spInit K "BadPlace" "part") ∧ Binds K fd ["self", "part"] [] := by
  obtain ⟨fd, F⟩ := T.fi_BadPlace
  refine ⟨fd, F.ok scI_BadPlace (fun vs H Q E h => by obtain ⟨a, v, rfl, _⟩ := h; rfl) (fun cdv A outer s H vs Q E hr h => ?_), F.bindsN fun _ _ _ _ _ _ us hl => match us, hl with | [_, _], _ => rfl⟩
  obtain ⟨a, v, rfl, h1, h2⟩ := h
  refine ⟨_, PSs.nox (pss_cons (ps_expr (pe_binit (b := bValue) (by rfl) T.b_ValueError PyProof.Rows.Boot.«ValueError» yValue (iValue K) (by decide) (by decide) (by decide +kernel) (by decide +kernel) (pa_cons (pv 0) (pa_cons pe_str pa_nil)))) (pss_cons (ps_ostB (pv 0) (pv 1)) pss_nil)), ?_⟩
  exact ⟨_, rfl, a, _, _, rfl, by simp, T.ox_BadPlace, h1, v, rfl, .ref a, rfl, a, _, bValue, rfl, T.ox_BadPlace, T.er_BadPlace.no, h1, fun dx q1 q2 => h2 dx q1 q2⟩
theorem ini_BadText (T : Ctx K mg) : ∃ fd, FnOk P w K mg base CX0 1 (He.ma K (He.ga K "BadText") "__init__") fd ["self", "text"] (spInit K "BadText" "text") ∧ Binds K fd ["self", "text"] [] := by
  obtain ⟨fd, F⟩ := T.fi_BadText
  refine ⟨fd, F.ok scI_BadText (fun vs H Q E h => by obtain ⟨a, v, rfl, _⟩ := h; rfl) (fun cdv A outer s H vs Q E hr h => ?_), F.bindsN fun _ _ _ _ _ _ us hl => match us, hl with | [_, _], _ => rfl⟩
  obtain ⟨a, v, rfl, h1, h2⟩ := h
  refine ⟨_, PSs.nox (pss_cons (ps_expr (pe_binit (b := bValue) (by rfl) T.b_ValueError PyProof.Rows.Boot.«ValueError» yValue (iValue K) (by decide) (by decide) (by decide +kernel) (by decide +kernel) (pa_cons (pv 0) (pa_cons pe_str pa_nil)))) (pss_cons (ps_ostB (pv 0) (pv 1)) pss_nil)), ?_⟩
  exact ⟨_, rfl, a, _, _, rfl, by simp, T.ox_BadText, h1, v, rfl, .ref a, rfl, a, _, bValue, rfl, T.ox_BadText, T.er_BadText.no, h1, fun dx q1 q2 => h2 dx q1 q2⟩
theorem iniH_BadText (T : Ctx K mg) : ∃ fd, L2H.FnH P w K mg base CX0 1 (He.ma K (He.ga K "BadText") "__init__") fd ["self", "text"] (spInit K "BadText" "text") ∧ Binds K fd ["self", "text"] [] := by
  obtain ⟨fd, F⟩ := T.fi_BadText
  refine ⟨fd, FunD.okH F scI_BadText (fun vs H Q E h => by obtain ⟨a, v, rfl, _⟩ := h; rfl) (fun cdv A outer s H vs Q E q hot hr h => ?_), F.bindsN fun _ _ _ _ _ _ us hl => match us, hl with | [_, _], _ => rfl⟩
  obtain ⟨a, v, rfl, h1, h2⟩ := h
  refine ⟨_, (pss_cons (ps_expr (pe_binit (b := bValue) (by rfl) T.b_ValueError PyProof.Rows.Boot.«ValueError» yValue (iValue K) (by decide) (by decide) (by decide +kernel) (by decide +kernel) (pa_cons (pv 0) (pa_cons pe_str pa_nil)))) (pss_cons (ps_ostB (pv 0) (pv 1)) pss_nil)), ?_⟩
  exact ⟨_, rfl, a, _, _, rfl, by simp, T.ox_BadText, h1, v, rfl, .ref a, rfl, a, _, bValue, rfl, T.ox_BadText, T.er_BadText.no, h1, fun dx q1 q2 => h2 dx q1 q2⟩
abbrev Ok_l_cell_at (P : Program) (w : World) (K : PySem.W.Frag) (mg : Str → Option Value) (base : Heap) (k : Nat) (sp : DSp) : Prop := ∃ fd, FunD K "_law_cell_at" "_law_cell_at" (defArgs s_l_cell_at) (defBody s_l_cell_at) (defScope s_l_cell_at) [] [] (He.ga K "_law_cell_at") fd ∧ FnOk P w K mg base CX0 k (He.ga K "_law_cell_at") fd ["_law_script", "_law_k"] (LSp K sp) ∧ Binds K fd ["_law_script", "_law_k"] []
theorem ok_l_cell_at (T : Ctx K mg) {sp : DSp} (len : ∀ as R RX, sp as R RX → as.length = 2) (hp : ∀ as R RX, sp as R RX → cntM as ≤ 1 → t_l_cell_at (defEnds as R) (startR 2 as)) : Ok_l_cell_at P w K mg base 1 sp := by
  obtain ⟨fd, F⟩ := T.f_l_cell_at
  refine ⟨fd, F, fn_ok0 F sc_l_cell_at (by decide) len (fun cdv A outer s H E Γ hr => ?_) hp, F.bindsN fun _ _ _ _ _ _ us hl => match us, hl with | [_, _], _ => rfl⟩
  unfold t_l_cell_at
  exact (dss_cons (ds_if (dt_cmp op_lt o_cmp (dh_var (pv 1)) (dh_e (de_cb call_len o_len T.b_len (da_cons (dh_var (pv 0)) da_nil))) (nomark _)) (dss_one (ds_ret (de_ix ix_seq o_ix (dh_var (pv 0)) (dh_var (pv 1)) (fun _ _ => rfl)))) dss_nil)
      (dss_one (ds_ret de_int)))
abbrev Ok_l_box (P : Program) (w : World) (K : PySem.W.Frag) (mg : Str → Option Value) (base : Heap) (k : Nat) (sp : DSp) : Prop := ∃ fd, FunD K "_law_box" "_law_box" (defArgs s_l_box) (defBody s_l_box) (defScope s_l_box) [] [] (He.ga K "_law_box") fd ∧ FnOk P w K mg base CX0 k (He.ga K "_law_box") fd ["_law_script", "_law_k"] (LSp K sp) ∧ Binds K fd ["_law_script", "_law_k"] []
theorem ok_l_box (T : Ctx K mg) (h_l_cell_at : Ok_l_cell_at P w K mg base 1 sp_l_cell_at) {sp : DSp} (len : ∀ as R RX, sp as R RX → as.length = 2) (hp : ∀ as R RX, sp as R RX → cntM as ≤ 1 → t_l_box (defEnds as R) (startR 3 as)) : Ok_l_box P w K mg base 2 sp := by
  obtain ⟨fd_l_cell_at, F_l_cell_at, G_l_cell_at, b_l_cell_at⟩ := h_l_cell_at
  obtain ⟨fd, F⟩ := T.f_l_box
  refine ⟨fd, F, fn_ok0 F sc_l_box (by decide) len (fun cdv A outer s H E Γ hr => ?_) hp, F.bindsN fun _ _ _ _ _ _ us hl => match us, hl with | [_, _], _ => rfl⟩
  unfold t_l_box
  exact (dss_cons (ds_set (i := 2) sc_l_box.nd (de_fz (de_call (Fn.mk (G_l_cell_at) T.g_l_cell_at F_l_cell_at.kp) (hr.mono (by decide)) b_l_cell_at .nil (fun _ => .nil) (da_cons (dh_var (pv 0)) (da_cons (dh_var (pv 1)) da_nil)))))
      (dss_one (ds_ret (de_lst (da_cons (dh_e (de_op or_mul o_mul (dh_e (de_cb call_abs o_abs T.b_abs (da_cons (dh_var (pv 2)) da_nil))) (dh_e (de_ct call_int1 o_int1 T.b_int (da_cons (dh_e (de_cmp op_ge o_cmp (dh_e (de_cb call_abs o_abs T.b_abs (da_cons (dh_var (pv 2)) da_nil))) (dh_e (de_op op_pow o_pow (dh_e de_int) (dh_e de_int))) (nomark _))) da_nil))))) (da_cons (dh_e (de_op or_add o_add (dh_e (de_op or_add o_add (dh_e (de_op op_mod o_mod (dh_var (pv 2)) (dh_e de_int))) (dh_e (de_op or_mul o_mul (dh_e de_int) (dh_var (pv 1)))))) (dh_e de_int))) (da_cons (dh_e de_int) da_nil)))))))
abbrev Ok_l_text (P : Program) (w : World) (K : PySem.W.Frag) (mg : Str → Option Value) (base : Heap) (k : Nat) (sp : DSp) : Prop := ∃ fd, FunD K "_law_text" "_law_text" (defArgs s_l_text) (defBody s_l_text) (defScope s_l_text) [] [] (He.ga K "_law_text") fd ∧ FnOk P w K mg base CX0 k (He.ga K "_law_text") fd ["_law_spot_here"] (LSp K sp) ∧ Binds K fd ["_law_spot_here"] []
theorem ok_l_text (T : Ctx K mg) {sp : DSp} (len : ∀ as R RX, sp as R RX → as.length = 1) (hp : ∀ as R RX, sp as R RX → cntM as ≤ 1 → t_l_text (defEnds as R) (startR 5 as)) : Ok_l_text P w K mg base 1 sp := by
  obtain ⟨fd, F⟩ := T.f_l_text
  refine ⟨fd, F, fn_ok0 F sc_l_text (by decide) len (fun cdv A outer s H E Γ hr => ?_) hp, F.bindsN fun _ _ _ _ _ _ us hl => match us, hl with | [_], _ => rfl⟩
  unfold t_l_text
  exact (dss_cons (ds_asg (de_var (pv 0)) (dg_u (js := [1, 2, 3, 4]) rfl (dgs_cons (dgd_name (i := 1) sc_l_text.nd) (dgs_cons (dgd_name (i := 2) sc_l_text.nd) (dgs_cons (dgd_name (i := 3) sc_l_text.nd) (dgs_cons (dgd_name (i := 4) sc_l_text.nd) dgs_nil)))) (len_name (len_name (len_name (len_name len_nil))))))
      (dss_cons (ds_if (dt_cmp op_isN o_isN (dh_var (pv 1)) (dh_e de_non) (nomark _)) (dss_one (ds_ret de_str)) dss_nil)
      (dss_cons (ds_if (dt_cmp op_isN o_isN (dh_var (pv 3)) (dh_e de_non) (nomark _)) (dss_one (ds_ret (de_ct call_str_int o_str T.b_str (da_cons (dh_var (pv 1)) da_nil)))) dss_nil)
      (dss_cons (ds_if (dt_cmp (op_eqD hr.units) o_eq (dh_var (pv 1)) (dh_var (pv 2)) (nomark _)) (dss_one (ds_ret (de_op or_add o_add (dh_e (de_op or_add o_add (dh_e (de_op or_add o_add (dh_e (de_op or_add o_add (dh_e (de_ct call_str_int o_str T.b_str (da_cons (dh_var (pv 1)) da_nil))) (dh_e de_str))) (dh_e (de_ct call_str_int o_str T.b_str (da_cons (dh_var (pv 3)) da_nil))))) (dh_e de_str))) (dh_e (de_ct call_str_int o_str T.b_str (da_cons (dh_var (pv 4)) da_nil)))))) dss_nil)
      (dss_one (ds_ret (de_op or_add o_add (dh_e (de_op or_add o_add (dh_e (de_op or_add o_add (dh_e (de_op or_add o_add (dh_e (de_op or_add o_add (dh_e (de_op or_add o_add (dh_e (de_ct call_str_int o_str T.b_str (da_cons (dh_var (pv 1)) da_nil))) (dh_e de_str))) (dh_e (de_ct call_str_int o_str T.b_str (da_cons (dh_var (pv 3)) da_nil))))) (dh_e de_str))) (dh_e (de_ct call_str_int o_str T.b_str (da_cons (dh_var (pv 2)) da_nil))))) (dh_e de_str))) (dh_e (de_ct call_str_int o_str T.b_str (da_cons (dh_var (pv 4)) da_nil))))))))))
abbrev Ok_l_number (P : Program) (w : World) (K : PySem.W.Frag) (mg : Str → Option Value) (base : Heap) (k : Nat) (sp : DSp) : Prop := ∃ fd, FunD K "_law_number" "_law_number" (defArgs s_l_number) (defBody s_l_number) (defScope s_l_number) [] [] (He.ga K "_law_number") fd ∧ FnOk P w K mg base CX0 k (He.ga K "_law_number") fd ["_law_words"] (LSp K sp) ∧ Binds K fd ["_law_words"] []
theorem ok_l_number (T : Ctx K mg) {sp : DSp} (len : ∀ as R RX, sp as R RX → as.length = 1) (hp : ∀ as R RX, sp as R RX → cntM as ≤ 1 → t_l_number (defEnds as R) (startR 2 as)) : Ok_l_number P w K mg base 1 sp := by
  obtain ⟨fd, F⟩ := T.f_l_number
  refine ⟨fd, F, fn_ok0 F sc_l_number (by decide) len (fun cdv A outer s H E Γ hr => ?_) hp, F.bindsN fun _ _ _ _ _ _ us hl => match us, hl with | [_], _ => rfl⟩
  unfold t_l_number
  exact (dss_cons (ds_if (DW.dt (dw_or (dt_not (dt_chain op_lt op_lt o_cmp o_cmp (dh_e de_int) (dh_e (de_cb call_len o_len T.b_len (da_cons (dh_var (pv 0)) da_nil))) (dh_e de_int))) (dw_or1 (dt_not (dt_tru (dh_e (de_cb (cr_all rfl) o_all T.b_all (da_cons (dh_e (de_lc (own := [("_law_sign", 1)]) rfl sc_l_number.nd (di_seq (de_var (pv 0))) (blkOk_by (own := [("_law_sign", 1)]) (N := N_l_number) (sc := defScope s_l_number) (by decide +kernel)) (fun _ _ _ _ _ => (dgd_name (i := 1) sc_l_number.nd)) (fun _ _ _ _ _ => dif_nil) (fun _ _ _ _ _ => (de_cmp op_in_sign o_inSg (dh_var (pv 1)) (dh_e de_str) rfl)))) da_nil)))))))) (dss_one (ds_ret de_non)) dss_nil)
      (dss_one (ds_ret (de_if (DW.dt (dw_or (dt_cmp (op_eqD hr.units) o_eq (dh_var (pv 0)) (dh_e de_str) (nomark _)) (dw_or1 (dt_cmp (op_neD hr.units) o_ne (dh_e (de_ix ix_seq o_ix (dh_var (pv 0)) (dh_e de_int) (fun _ _ => rfl))) (dh_e de_str) (nomark _))))) (de_ct call_intA o_intT T.b_int (da_cons (dh_var (pv 0)) da_nil)) de_non))))
abbrev Ok_l_within (P : Program) (w : World) (K : PySem.W.Frag) (mg : Str → Option Value) (base : Heap) (k : Nat) (sp : DSp) : Prop := ∃ fd, FunD K "_law_within" "_law_within" (defArgs s_l_within) (defBody s_l_within) (defScope s_l_within) [] [] (He.ga K "_law_within") fd ∧ FnOk P w K mg base CX0 k (He.ga K "_law_within") fd ["_law_number_here", "_law_low", "_law_high"] (LSp K sp) ∧ Binds K fd ["_law_number_here", "_law_low", "_law_high"] []
theorem ok_l_within (T : Ctx K mg) {sp : DSp} (len : ∀ as R RX, sp as R RX → as.length = 3) (hp : ∀ as R RX, sp as R RX → cntM as ≤ 1 → t_l_within (defEnds as R) (startR 3 as)) : Ok_l_within P w K mg base 1 sp := by
  obtain ⟨fd, F⟩ := T.f_l_within
  refine ⟨fd, F, fn_ok0 F sc_l_within (by decide) len (fun cdv A outer s H E Γ hr => ?_) hp, F.bindsN fun _ _ _ _ _ _ us hl => match us, hl with | [_, _, _], _ => rfl⟩
  unfold t_l_within
  exact (dss_one (ds_ret (de_and (de_cmp op_notN o_notN (dh_var (pv 0)) (dh_e de_non) (nomark _)) (de_one (de_chain op_le op_le o_cmp o_cmp (dh_var (pv 1)) (dh_var (pv 0)) (dh_var (pv 2)))))))
abbrev Ok_l_read (P : Program) (w : World) (K : PySem.W.Frag) (mg : Str → Option Value) (base : Heap) (k : Nat) (sp : DSp) : Prop := ∃ fd, FunD K "_law_read" "_law_read" (defArgs s_l_read) (defBody s_l_read) (defScope s_l_read) [] [] (He.ga K "_law_read") fd ∧ FnOk P w K mg base CX0 k (He.ga K "_law_read") fd ["_law_words"] (LSp K sp) ∧ Binds K fd ["_law_words"] []
theorem ok_l_read (T : Ctx K mg) (h_l_number : Ok_l_number P w K mg base 1 sp_l_number) (h_l_within : Ok_l_within P w K mg base 1 sp_l_within) {sp : DSp} (len : ∀ as R RX, sp as R RX → as.length = 1) (hp : ∀ as R RX, sp as R RX → cntM as ≤ 1 → t_l_read (defEnds as R) (startR 10 as)) : Ok_l_read P w K mg base 2 sp := by
  obtain ⟨fd_l_number, F_l_number, G_l_number, b_l_number⟩ := h_l_number
  obtain ⟨fd_l_within, F_l_within, G_l_within, b_l_within⟩ := h_l_within
  obtain ⟨fd, F⟩ := T.f_l_read
  refine ⟨fd, F, fn_ok0 F sc_l_read (by decide) len (fun cdv A outer s H E Γ hr => ?_) hp, F.bindsN fun _ _ _ _ _ _ us hl => match us, hl with | [_], _ => rfl⟩
  unfold t_l_read
  exact (dss_cons (ds_parO2 (i := 1) (j := 2) rfl sc_l_read.nd rfl rfl (by decide) rfl rfl (do_cons (de_fz (de_tm PySem.F.slot_str_find PySem.F.type_str_find mt_find o_find (de_var (pv 0)) de_str)) (do_cons (de_fz (de_tm PySem.F.slot_str_find PySem.F.type_str_find mt_find o_find (de_var (pv 0)) de_str)) do_nil)))
      (dss_cons (ds_if (dt_cmp (op_eqD hr.units) o_eq (dh_var (pv 0)) (dh_e de_str) (nomark _)) (dss_one (ds_ret (de_fz (de_tup (da_cons (dh_e de_non) (da_cons (dh_e de_non) (da_cons (dh_e de_non) (da_cons (dh_e de_non) da_nil)))))))) dss_nil)
      (dss_cons (ds_if (dt_cmp op_lt o_cmp (dh_var (pv 1)) (dh_e de_int) (nomark _)) (dss_cons (ds_set (i := 3) sc_l_read.nd (de_fz (de_call (Fn.mk (G_l_number) T.g_l_number F_l_number.kp) (hr.mono (by decide)) b_l_number .nil (fun _ => .nil) (da_cons (dh_var (pv 0)) da_nil))))
      (dss_one (ds_ret (de_fz (de_if (dt_tru (dh_e (de_call (Fn.mk (G_l_within) T.g_l_within F_l_within.kp) (hr.mono (by decide)) b_l_within .nil (fun _ => .nil) (da_cons (dh_var (pv 3)) (da_cons (dh_e de_int) (da_cons (dh_e (de_op op_pow o_pow (dh_e de_int) (dh_e de_int))) da_nil)))))) (de_tup (da_cons (dh_e (de_var (pv 3))) (da_cons (dh_e (de_var (pv 3))) (da_cons (dh_e de_non) (da_cons (dh_e de_non) da_nil))))) de_non))))) dss_nil)
      (dss_cons (ds_parO2 (i := 4) (j := 5) rfl sc_l_read.nd rfl rfl (by decide) rfl rfl (do_cons (de_fz (de_call (Fn.mk (G_l_number) T.g_l_number F_l_number.kp) (hr.mono (by decide)) b_l_number .nil (fun _ => .nil) (da_cons (dh_e (de_sl (dh_var (pv 0)) dp_none (dp_some (dh_var (pv 1))))) da_nil))) (do_cons (de_fz (de_sl (dh_var (pv 0)) (dp_some (dh_e (de_op or_add o_add (dh_var (pv 2)) (dh_e de_int)))) dp_none)) do_nil)))
      (dss_cons (ds_set (i := 6) sc_l_read.nd (de_fz (de_call (Fn.mk (G_l_number) T.g_l_number F_l_number.kp) (hr.mono (by decide)) b_l_number .nil (fun _ => .nil) (da_cons (dh_e (de_sl (dh_var (pv 0)) (dp_some (dh_e (de_op or_add o_add (dh_var (pv 1)) (dh_e de_int)))) (dp_some (dh_e (de_cb (call_max2 rfl) o_max2 T.b_max (da_cons (dh_e de_int) (da_cons (dh_var (pv 2)) da_nil))))))) da_nil))))
      (dss_cons (ds_if (DW.dt (dw_or (dt_cmp op_lt o_cmp (dh_var (pv 2)) (dh_var (pv 1)) (nomark _)) (dw_or (dt_not (dt_tru (dh_e (de_call (Fn.mk (G_l_within) T.g_l_within F_l_within.kp) (hr.mono (by decide)) b_l_within .nil (fun _ => .nil) (da_cons (dh_var (pv 4)) (da_cons (dh_e de_int) (da_cons (dh_e (de_op op_pow o_pow (dh_e de_int) (dh_e de_int))) da_nil))))))) (dw_or1 (dt_not (dt_tru (dh_e (de_call (Fn.mk (G_l_within) T.g_l_within F_l_within.kp) (hr.mono (by decide)) b_l_within .nil (fun _ => .nil) (da_cons (dh_var (pv 6)) (da_cons (dh_e de_int) (da_cons (dh_e (de_op op_pow o_pow (dh_e de_int) (dh_e de_int))) da_nil))))))))))) (dss_one (ds_ret (de_fz de_non))) dss_nil)
      (dss_cons (ds_set (i := 7) sc_l_read.nd (de_fz (de_tm PySem.F.slot_str_find PySem.F.type_str_find mt_find o_find (de_var (pv 5)) de_str)))
      (dss_cons (ds_if (dt_cmp op_lt o_cmp (dh_var (pv 7)) (dh_e de_int) (nomark _)) (dss_cons (ds_set (i := 8) sc_l_read.nd (de_fz (de_call (Fn.mk (G_l_number) T.g_l_number F_l_number.kp) (hr.mono (by decide)) b_l_number .nil (fun _ => .nil) (da_cons (dh_var (pv 5)) da_nil))))
      (dss_one (ds_ret (de_fz (de_if (dt_tru (dh_e (de_call (Fn.mk (G_l_within) T.g_l_within F_l_within.kp) (hr.mono (by decide)) b_l_within .nil (fun _ => .nil) (da_cons (dh_var (pv 8)) (da_cons (dh_var (pv 6)) (da_cons (dh_e (de_op op_pow o_pow (dh_e de_int) (dh_e de_int))) da_nil)))))) (de_tup (da_cons (dh_e (de_var (pv 4))) (da_cons (dh_e (de_var (pv 4))) (da_cons (dh_e (de_var (pv 6))) (da_cons (dh_e (de_var (pv 8))) da_nil))))) de_non))))) dss_nil)
      (dss_cons (ds_parO2 (i := 9) (j := 8) rfl sc_l_read.nd rfl rfl (by decide) rfl rfl (do_cons (de_fz (de_call (Fn.mk (G_l_number) T.g_l_number F_l_number.kp) (hr.mono (by decide)) b_l_number .nil (fun _ => .nil) (da_cons (dh_e (de_sl (dh_var (pv 5)) dp_none (dp_some (dh_var (pv 7))))) da_nil))) (do_cons (de_fz (de_call (Fn.mk (G_l_number) T.g_l_number F_l_number.kp) (hr.mono (by decide)) b_l_number .nil (fun _ => .nil) (da_cons (dh_e (de_sl (dh_var (pv 5)) (dp_some (dh_e (de_op or_add o_add (dh_var (pv 7)) (dh_e de_int)))) dp_none)) da_nil))) do_nil)))
      (dss_cons (ds_if (DW.dt (dw_or (dt_not (dt_tru (dh_e (de_call (Fn.mk (G_l_within) T.g_l_within F_l_within.kp) (hr.mono (by decide)) b_l_within .nil (fun _ => .nil) (da_cons (dh_var (pv 9)) (da_cons (dh_e (de_op or_add o_add (dh_var (pv 4)) (dh_e de_int))) (da_cons (dh_e (de_cb (call_min2 rfl) o_min2 T.b_min (da_cons (dh_e (de_op op_pow o_pow (dh_e de_int) (dh_e de_int))) (da_cons (dh_e (de_op or_add o_add (dh_var (pv 4)) (dh_e de_int))) da_nil)))) da_nil))))))) (dw_or1 (dt_not (dt_tru (dh_e (de_call (Fn.mk (G_l_within) T.g_l_within F_l_within.kp) (hr.mono (by decide)) b_l_within .nil (fun _ => .nil) (da_cons (dh_var (pv 8)) (da_cons (dh_e de_int) (da_cons (dh_e (de_op op_pow o_pow (dh_e de_int) (dh_e de_int))) da_nil)))))))))) (dss_one (ds_ret (de_fz de_non))) dss_nil)
      (dss_one (ds_ret (de_fz (de_tup (da_cons (dh_e (de_var (pv 4))) (da_cons (dh_e (de_var (pv 9))) (da_cons (dh_e (de_var (pv 6))) (da_cons (dh_e (de_var (pv 8))) da_nil))))))))))))))))))
abbrev Ok_l_take (P : Program) (w : World) (K : PySem.W.Frag) (mg : Str → Option Value) (base : Heap) (k : Nat) (sp : DSp) : Prop := ∃ fd, FunD K "_law_take" "_law_take" (defArgs s_l_take) (defBody s_l_take) (defScope s_l_take) [] [] (He.ga K "_law_take") fd ∧ FnOk P w K mg base CX0 k (He.ga K "_law_take") fd ["_law_box_here", "_law_many"] (LSp K sp) ∧ Binds K fd ["_law_box_here", "_law_many"] []
theorem ok_l_take (T : Ctx K mg) {sp : DSp} (len : ∀ as R RX, sp as R RX → as.length = 2) (hp : ∀ as R RX, sp as R RX → cntM as ≤ 1 → t_l_take (defEnds as R) (startR 5 as)) : Ok_l_take P w K mg base 1 sp := by
  obtain ⟨fd, F⟩ := T.f_l_take
  refine ⟨fd, F, fn_ok0 F sc_l_take (by decide) len (fun cdv A outer s H E Γ hr => ?_) hp, F.bindsN fun _ _ _ _ _ _ us hl => match us, hl with | [_, _], _ => rfl⟩
  unfold t_l_take
  exact (dss_cons (ds_if (dt_cmp op_gt o_cmp (dh_e (de_ix ix_seq o_ix (dh_var (pv 0)) (dh_e de_int) (fun _ _ => rfl))) (dh_e de_int) (nomark _)) (dss_cons (ds_set (i := 2) sc_l_take.nd (de_fz (de_op op_mod o_mod (dh_e (de_ix ix_seq o_ix (dh_var (pv 0)) (dh_e de_int) (fun _ _ => rfl))) (dh_var (pv 1)))))
      (dss_cons (ds_setI (de_op op_fdiv o_fdiv (dh_e (de_ix ix_seq o_ix (dh_var (pv 0)) (dh_e de_int) (fun _ _ => rfl))) (dh_var (pv 1))) (pv 0) (dh_e de_int))
      (dss_one (ds_retV (pv 2))))) dss_nil)
      (dss_cons (ds_setI (de_op or_add o_add (dh_e (de_ix ix_seq o_ix (dh_var (pv 0)) (dh_e de_int) (fun _ _ => rfl))) (dh_e de_int)) (pv 0) (dh_e de_int))
      (dss_cons (ds_set (i := 3) sc_l_take.nd (de_fz (de_op op_mod o_mod (dh_e (de_op or_mul o_mul (dh_e (de_op or_add o_add (dh_e (de_ix ix_seq o_ix (dh_var (pv 0)) (dh_e de_int) (fun _ _ => rfl))) (dh_e (de_op or_mul o_mul (dh_e de_int) (dh_e (de_ix ix_seq o_ix (dh_var (pv 0)) (dh_e de_int) (fun _ _ => rfl))))))) (dh_e (de_op or_add o_add (dh_e de_int) (dh_e (de_ix ix_seq o_ix (dh_var (pv 0)) (dh_e de_int) (fun _ _ => rfl))))))) (dh_e de_int))))
      (dss_cons (ds_set (i := 4) sc_l_take.nd (de_fz (de_op op_mod o_mod (dh_e (de_op or_mul o_mul (dh_e (de_op or_add o_add (dh_e (de_op or_add o_add (dh_var (pv 3)) (dh_e (de_ix ix_seq o_ix (dh_var (pv 0)) (dh_e de_int) (fun _ _ => rfl))))) (dh_e (de_op op_fdiv o_fdiv (dh_e (de_ix ix_seq o_ix (dh_var (pv 0)) (dh_e de_int) (fun _ _ => rfl))) (dh_e de_int))))) (dh_e (de_op or_add o_add (dh_e (de_op op_mod o_mod (dh_var (pv 3)) (dh_e de_int))) (dh_e de_int))))) (dh_e de_int))))
      (dss_one (ds_ret (de_op op_mod o_mod (dh_e (de_op op_fdiv o_fdiv (dh_e (de_op op_mod o_mod (dh_e (de_op or_add o_add (dh_e (de_op or_mul o_mul (dh_var (pv 4)) (dh_e de_int))) (dh_var (pv 3)))) (dh_e de_int))) (dh_e de_int))) (dh_var (pv 1)))))))))
abbrev Ok_l_spot (P : Program) (w : World) (K : PySem.W.Frag) (mg : Str → Option Value) (base : Heap) (k : Nat) (sp : DSp) : Prop := ∃ fd, FunD K "_law_spot" "_law_spot" (defArgs s_l_spot) (defBody s_l_spot) (defScope s_l_spot) [] [] (He.ga K "_law_spot") fd ∧ FnOk P w K mg base CX0 k (He.ga K "_law_spot") fd ["_law_box_here", "_law_wide"] (LSp K sp) ∧ Binds K fd ["_law_box_here", "_law_wide"] []
theorem ok_l_spot (T : Ctx K mg) (h_l_take : Ok_l_take P w K mg base 1 sp_l_take) {sp : DSp} (len : ∀ as R RX, sp as R RX → as.length = 2) (hp : ∀ as R RX, sp as R RX → cntM as ≤ 1 → t_l_spot (defEnds as R) (startR 6 as)) : Ok_l_spot P w K mg base 2 sp := by
  obtain ⟨fd_l_take, F_l_take, G_l_take, b_l_take⟩ := h_l_take
  obtain ⟨fd, F⟩ := T.f_l_spot
  refine ⟨fd, F, fn_ok0 F sc_l_spot (by decide) len (fun cdv A outer s H E Γ hr => ?_) hp, F.bindsN fun _ _ _ _ _ _ us hl => match us, hl with | [_, _], _ => rfl⟩
  unfold t_l_spot
  exact (dss_cons (ds_parO2 (i := 2) (j := 3) rfl sc_l_spot.nd rfl rfl (by decide) rfl rfl (do_cons (de_fz (de_callN (Fn.mk (G_l_take) T.g_l_take F_l_take.kp) (hr.mono (by decide)) b_l_take .nil (fun _ => .nil) (da_cons (dh_var (pv 0)) (da_cons (dh_e de_int) da_nil)))) (do_cons (de_fz (de_op or_add o_add (dh_e de_int) (dh_e (de_callN (Fn.mk (G_l_take) T.g_l_take F_l_take.kp) (hr.mono (by decide)) b_l_take .nil (fun _ => .nil) (da_cons (dh_var (pv 0)) (da_cons (dh_var (pv 1)) da_nil)))))) do_nil)))
      (dss_cons (ds_if (dt_cmp (op_eqD hr.units) o_eq (dh_var (pv 2)) (dh_e de_int) (nomark _)) (dss_one (ds_ret (de_tup (da_cons (dh_e de_non) (da_cons (dh_e de_non) (da_cons (dh_e de_non) (da_cons (dh_e de_non) da_nil))))))) dss_nil)
      (dss_cons (ds_if (dt_cmp op_lt o_cmp (dh_var (pv 2)) (dh_e de_int) (nomark _)) (dss_one (ds_ret (de_tup (da_cons (dh_e (de_var (pv 3))) (da_cons (dh_e (de_var (pv 3))) (da_cons (dh_e de_non) (da_cons (dh_e de_non) da_nil))))))) dss_nil)
      (dss_cons (ds_set (i := 4) sc_l_spot.nd (de_fz (de_callN (Fn.mk (G_l_take) T.g_l_take F_l_take.kp) (hr.mono (by decide)) b_l_take .nil (fun _ => .nil) (da_cons (dh_var (pv 0)) (da_cons (dh_e (de_ix ix_seq o_ix (dh_e (de_lst (da_cons (dh_e de_int) (da_cons (dh_e de_int) (da_cons (dh_e (de_op or_add o_add (dh_e (de_op op_pow o_pow (dh_e de_int) (dh_e de_int))) (dh_e de_int))) da_nil))))) (dh_e (de_callN (Fn.mk (G_l_take) T.g_l_take F_l_take.kp) (hr.mono (by decide)) b_l_take .nil (fun _ => .nil) (da_cons (dh_var (pv 0)) (da_cons (dh_e de_int) da_nil)))) (fun _ _ => rfl))) da_nil)))))
      (dss_cons (ds_if (dt_cmp op_lt o_cmp (dh_var (pv 2)) (dh_e de_int) (nomark _)) (dss_one (ds_ret (de_tup (da_cons (dh_e (de_var (pv 3))) (da_cons (dh_e (de_var (pv 3))) (da_cons (dh_e (de_var (pv 4))) (da_cons (dh_e (de_cb (call_min2 rfl) o_min2 T.b_min (da_cons (dh_e (de_op op_pow o_pow (dh_e de_int) (dh_e de_int))) (da_cons (dh_e (de_op or_add o_add (dh_var (pv 4)) (dh_e (de_callN (Fn.mk (G_l_take) T.g_l_take F_l_take.kp) (hr.mono (by decide)) b_l_take .nil (fun _ => .nil) (da_cons (dh_var (pv 0)) (da_cons (dh_e (de_ix ix_seq o_ix (dh_e (de_lst (da_cons (dh_e de_int) (da_cons (dh_e de_int) (da_cons (dh_e (de_op op_pow o_pow (dh_e de_int) (dh_e de_int))) da_nil))))) (dh_e (de_callN (Fn.mk (G_l_take) T.g_l_take F_l_take.kp) (hr.mono (by decide)) b_l_take .nil (fun _ => .nil) (da_cons (dh_var (pv 0)) (da_cons (dh_e de_int) da_nil)))) (fun _ _ => rfl))) da_nil)))))) da_nil)))) da_nil))))))) dss_nil)
      (dss_cons (ds_set (i := 5) sc_l_spot.nd (de_fz (de_cb (call_min2 rfl) o_min2 T.b_min (da_cons (dh_e (de_op op_pow o_pow (dh_e de_int) (dh_e de_int))) (da_cons (dh_e (de_op or_add o_add (dh_e (de_op or_add o_add (dh_var (pv 3)) (dh_e de_int))) (dh_e (de_callN (Fn.mk (G_l_take) T.g_l_take F_l_take.kp) (hr.mono (by decide)) b_l_take .nil (fun _ => .nil) (da_cons (dh_var (pv 0)) (da_cons (dh_e (de_ix ix_seq o_ix (dh_e (de_lst (da_cons (dh_e de_int) (da_cons (dh_e de_int) da_nil)))) (dh_e (de_callN (Fn.mk (G_l_take) T.g_l_take F_l_take.kp) (hr.mono (by decide)) b_l_take .nil (fun _ => .nil) (da_cons (dh_var (pv 0)) (da_cons (dh_e de_int) da_nil)))) (fun _ _ => rfl))) da_nil)))))) da_nil)))))
      (dss_cons (ds_if (dt_cmp (op_eqD hr.units) o_eq (dh_var (pv 5)) (dh_var (pv 3)) (nomark _)) (dss_one (ds_ret (de_tup (da_cons (dh_e (de_var (pv 3))) (da_cons (dh_e (de_var (pv 3))) (da_cons (dh_e de_non) (da_cons (dh_e de_non) da_nil))))))) dss_nil)
      (dss_one (ds_ret (de_tup (da_cons (dh_e (de_var (pv 3))) (da_cons (dh_e (de_var (pv 5))) (da_cons (dh_e (de_var (pv 4))) (da_cons (dh_e (de_callN (Fn.mk (G_l_take) T.g_l_take F_l_take.kp) (hr.mono (by decide)) b_l_take .nil (fun _ => .nil) (da_cons (dh_var (pv 0)) (da_cons (dh_e (de_ix ix_seq o_ix (dh_e (de_lst (da_cons (dh_e de_int) (da_cons (dh_e de_int) (da_cons (dh_e (de_op or_add o_add (dh_e (de_op op_pow o_pow (dh_e de_int) (dh_e de_int))) (dh_e de_int))) da_nil))))) (dh_e (de_callN (Fn.mk (G_l_take) T.g_l_take F_l_take.kp) (hr.mono (by decide)) b_l_take .nil (fun _ => .nil) (da_cons (dh_var (pv 0)) (da_cons (dh_e de_int) da_nil)))) (fun _ _ => rfl))) da_nil)))) da_nil))))))))))))))
abbrev Ok_l_bent (P : Program) (w : World) (K : PySem.W.Frag) (mg : Str → Option Value) (base : Heap) (k : Nat) (sp : DSp) : Prop := ∃ fd, FunD K "_law_bent" "_law_bent" (defArgs s_l_bent) (defBody s_l_bent) (defScope s_l_bent) [] [] (He.ga K "_law_bent") fd ∧ FnOk P w K mg base CX0 k (He.ga K "_law_bent") fd ["_law_box_here", "_law_words"] (LSp K sp) ∧ Binds K fd ["_law_box_here", "_law_words"] []
theorem ok_l_bent (T : Ctx K mg) (h_l_take : Ok_l_take P w K mg base 1 sp_l_take) {sp : DSp} (len : ∀ as R RX, sp as R RX → as.length = 2) (hp : ∀ as R RX, sp as R RX → cntM as ≤ 1 → t_l_bent (defEnds as R) (startR 6 as)) : Ok_l_bent P w K mg base 2 sp := by
  obtain ⟨fd_l_take, F_l_take, G_l_take, b_l_take⟩ := h_l_take
  obtain ⟨fd, F⟩ := T.f_l_bent
  refine ⟨fd, F, fn_ok0 F sc_l_bent (by decide) len (fun cdv A outer s H E Γ hr => ?_) hp, F.bindsN fun _ _ _ _ _ _ us hl => match us, hl with | [_, _], _ => rfl⟩
  unfold t_l_bent
  exact (dss_cons (ds_set (i := 2) sc_l_bent.nd (de_fz de_str))
      (dss_cons (ds_parO3 (i := 3) (j := 4) (l := 5) rfl sc_l_bent.nd rfl rfl rfl (by decide) (by decide) (by decide) rfl rfl rfl (do_cons (de_fz (de_callN (Fn.mk (G_l_take) T.g_l_take F_l_take.kp) (hr.mono (by decide)) b_l_take .nil (fun _ => .nil) (da_cons (dh_var (pv 0)) (da_cons (dh_e (de_op or_add o_add (dh_e (de_cb call_len o_len T.b_len (da_cons (dh_var (pv 1)) da_nil))) (dh_e de_int))) da_nil)))) (do_cons (de_fz (de_callN (Fn.mk (G_l_take) T.g_l_take F_l_take.kp) (hr.mono (by decide)) b_l_take .nil (fun _ => .nil) (da_cons (dh_var (pv 0)) (da_cons (dh_e de_int) da_nil)))) (do_cons (de_fz (de_ix ix_seq o_ix (dh_var (pv 2)) (dh_e (de_callN (Fn.mk (G_l_take) T.g_l_take F_l_take.kp) (hr.mono (by decide)) b_l_take .nil (fun _ => .nil) (da_cons (dh_var (pv 0)) (da_cons (dh_e (de_cb call_len o_len T.b_len (da_cons (dh_var (pv 2)) da_nil))) da_nil)))) (fun _ _ => rfl))) do_nil))))
      (dss_cons (ds_if (dt_cmp op_lt o_cmp (dh_var (pv 4)) (dh_e de_int) (nomark _)) (dss_one (ds_ret (de_fz (de_op or_add o_add (dh_e (de_sl (dh_var (pv 1)) dp_none (dp_some (dh_var (pv 3))))) (dh_e (de_ix ix_seq o_ix (dh_e (de_lst (da_cons (dh_e (de_op or_add o_add (dh_var (pv 5)) (dh_e (de_sl (dh_var (pv 1)) (dp_some (dh_var (pv 3))) dp_none)))) (da_cons (dh_e (de_sl (dh_var (pv 1)) (dp_some (dh_e (de_op or_add o_add (dh_var (pv 3)) (dh_e de_int)))) dp_none)) (da_cons (dh_e (de_op or_add o_add (dh_var (pv 5)) (dh_e (de_sl (dh_var (pv 1)) (dp_some (dh_e (de_op or_add o_add (dh_var (pv 3)) (dh_e de_int)))) dp_none)))) (da_cons (dh_e (de_op or_add o_add (dh_e (de_op op_mulS o_mulS (dh_var (pv 5)) (dh_e de_int))) (dh_e (de_sl (dh_var (pv 1)) (dp_some (dh_var (pv 3))) dp_none)))) da_nil)))))) (dh_var (pv 4)) (fun _ _ => rfl))))))) dss_nil)
      (dss_cons (ds_if (dt_cmp (op_eqD hr.units) o_eq (dh_var (pv 4)) (dh_e de_int) (nomark _)) (dss_one (ds_ret (de_fz (de_op or_add o_add (dh_e (de_op or_add o_add (dh_e (de_sl (dh_var (pv 1)) dp_none (dp_some (dh_var (pv 3))))) (dh_e (de_revS (de_sl (dh_var (pv 1)) (dp_some (dh_var (pv 3))) (dp_some (dh_e (de_op or_add o_add (dh_var (pv 3)) (dh_e de_int))))))))) (dh_e (de_sl (dh_var (pv 1)) (dp_some (dh_e (de_op or_add o_add (dh_var (pv 3)) (dh_e de_int)))) dp_none)))))) dss_nil)
      (dss_cons (ds_if (dt_cmp (op_eqD hr.units) o_eq (dh_var (pv 4)) (dh_e de_int) (nomark _)) (dss_one (ds_ret (de_fz (de_op or_add o_add (dh_e (de_op or_add o_add (dh_e (de_sl (dh_var (pv 1)) dp_none (dp_some (dh_var (pv 3))))) (dh_e (de_sl (dh_var (pv 1)) (dp_some (dh_var (pv 3))) (dp_some (dh_e (de_op or_add o_add (dh_var (pv 3)) (dh_e de_int)))))))) (dh_e (de_sl (dh_var (pv 1)) (dp_some (dh_var (pv 3))) dp_none)))))) dss_nil)
      (dss_one (ds_ret (de_fz (de_ix ix_seq o_ix (dh_e (de_lst (da_cons (dh_e (de_revS (de_var (pv 1)))) (da_cons (dh_e (de_op or_add o_add (dh_e (de_sl (dh_var (pv 1)) (dp_some (dh_var (pv 3))) dp_none)) (dh_e (de_sl (dh_var (pv 1)) dp_none (dp_some (dh_var (pv 3))))))) da_nil)))) (dh_e (de_op op_sub o_sub (dh_var (pv 4)) (dh_e de_int))) (fun _ _ => rfl))))))))))
abbrev Ok_l_same (P : Program) (w : World) (K : PySem.W.Frag) (mg : Str → Option Value) (base : Heap) (k : Nat) (sp : DSp) : Prop := ∃ fd, FunD K "_law_same" "_law_same" (defArgs s_l_same) (defBody s_l_same) (defScope s_l_same) [] [] (He.ga K "_law_same") fd ∧ FnOk P w K mg base CX0 k (He.ga K "_law_same") fd ["_law_found", "_law_due"] (LSp K sp) ∧ Binds K fd ["_law_found", "_law_due"] []
theorem ok_l_same (T : Ctx K mg) {k : Nat} (hk : 0 ≤ k) {sp_self sp : DSp} (h_self : Ok_l_same P w K mg base k sp_self) (len : ∀ as R RX, sp as R RX → as.length = 2) (hp : ∀ as R RX, sp as R RX → cntM as ≤ 1 → t_l_same sp_self (defEnds as R) (startR 4 as)) : Ok_l_same P w K mg base (k + 1) sp := by
  obtain ⟨fd, F, G_self, b_l_same⟩ := h_self
  refine ⟨fd, F, fn_ok0 F sc_l_same (by decide) len (fun cdv A outer s H E Γ hr => ?_) hp, F.bindsN fun _ _ _ _ _ _ us hl => match us, hl with | [_, _], _ => rfl⟩
  unfold t_l_same
  have hrs := hr
  exact (dss_cons (ds_if (dt_tru (dh_e (de_isiT (ns := [.list, .tuple]) T.b_isinstance (dh_var (pv 1)) (pa_cons (pe_bltn (v := .ty "list") (u := .type "list") rfl T.b_list (by decide +kernel) rfl) (pa_cons (pe_bltn (v := .ty "tuple") (u := .type "tuple") rfl T.b_tuple (by decide +kernel) rfl) pa_nil)) (fun _ _ _ z => z) (by decide)))) (dss_cons (ds_if (DW.dt (dw_or (dt_cmp (op_neD hr.units) o_ne (dh_e (de_cb call_isi o_isi T.b_isinstance (da_cons (dh_var (pv 0)) (da_cons (dh_e (de_c (pe_bltn (v := .ty "list") (u := .type "list") rfl T.b_list (by decide +kernel) rfl) (fun _ => .ty .list rfl))) da_nil)))) (dh_e (de_cb call_isi o_isi T.b_isinstance (da_cons (dh_var (pv 1)) (da_cons (dh_e (de_c (pe_bltn (v := .ty "list") (u := .type "list") rfl T.b_list (by decide +kernel) rfl) (fun _ => .ty .list rfl))) da_nil)))) (nomark _)) (dw_or1 (dt_cmp (op_neD hr.units) o_ne (dh_e (de_cb call_isi o_isi T.b_isinstance (da_cons (dh_var (pv 0)) (da_cons (dh_e (de_c (pe_bltn (v := .ty "tuple") (u := .type "tuple") rfl T.b_tuple (by decide +kernel) rfl) (fun _ => .ty .tuple rfl))) da_nil)))) (dh_e (de_cb call_isi o_isi T.b_isinstance (da_cons (dh_var (pv 1)) (da_cons (dh_e (de_c (pe_bltn (v := .ty "tuple") (u := .type "tuple") rfl T.b_tuple (by decide +kernel) rfl) (fun _ => .ty .tuple rfl))) da_nil)))) (nomark _))))) (dss_one (ds_ret de_bl)) dss_nil)
      (dss_one (ds_ret (de_and (de_cmp (op_eqD hr.units) o_eq (dh_e (de_cb call_len o_len T.b_len (da_cons (dh_var (pv 0)) da_nil))) (dh_e (de_cb call_len o_len T.b_len (da_cons (dh_var (pv 1)) da_nil))) (nomark _)) (de_one (de_cb (cr_all rfl) o_all T.b_all (da_cons (dh_e (de_lc (own := [("_law_one", 2), ("_law_two", 3)]) rfl sc_l_same.nd (di_zip T.b_zip (da_cons (dh_e (de_var (pv 0))) (da_cons (dh_e (de_var (pv 1))) da_nil))) (blkOk_by (own := [("_law_one", 2), ("_law_two", 3)]) (N := N_l_same) (sc := defScope s_l_same) (by decide +kernel)) (fun _ _ _ _ _ => (dgd_u rfl (dgs_cons (dgd_name (i := 2) sc_l_same.nd) (dgs_cons (dgd_name (i := 3) sc_l_same.nd) dgs_nil)) (len_name (len_name len_nil)))) (fun _ _ _ _ _ => dif_nil) (fun _ _ _ _ _ => (de_call (Fn.mk G_self T.g_l_same F.kp) hrs b_l_same .nil (fun _ => .nil) (da_cons (dh_var (pv 2)) (da_cons (dh_var (pv 3)) da_nil)))))) da_nil))))))) dss_nil)
      (dss_cons (ds_if (DW.dt (dw_or (dt_cmp op_isN o_isN (dh_var (pv 1)) (dh_e de_non) (nomark _)) (dw_or1 (dt_tru (dh_e (de_cb call_isi o_isi T.b_isinstance (da_cons (dh_var (pv 1)) (da_cons (dh_e (de_c (pe_bltn (v := .ty "str") (u := .type "str") rfl T.b_str (by decide +kernel) rfl) (fun _ => .ty .str rfl))) da_nil)))))))) (dss_one (ds_ret (de_and (de_cmp (op_eqD hr.units) o_eq (dh_e (de_cb call_isi o_isi T.b_isinstance (da_cons (dh_var (pv 0)) (da_cons (dh_e (de_c (pe_bltn (v := .ty "str") (u := .type "str") rfl T.b_str (by decide +kernel) rfl) (fun _ => .ty .str rfl))) da_nil)))) (dh_e (de_cb call_isi o_isi T.b_isinstance (da_cons (dh_var (pv 1)) (da_cons (dh_e (de_c (pe_bltn (v := .ty "str") (u := .type "str") rfl T.b_str (by decide +kernel) rfl) (fun _ => .ty .str rfl))) da_nil)))) (nomark _)) (de_one (de_cmp (op_eqD hr.units) o_eq (dh_var (pv 0)) (dh_var (pv 1)) (nomark _)))))) dss_nil)
      (dss_one (ds_ret (de_and (de_cb call_isi o_isi T.b_isinstance (da_cons (dh_var (pv 0)) (da_cons (dh_e (de_c (pe_bltn (v := .ty "int") (u := .type "int") rfl T.b_int (by decide +kernel) rfl) (fun _ => .ty .int rfl))) da_nil))) (de_and (de_cmp (op_eqD hr.units) o_eq (dh_e (de_cb call_isi o_isi T.b_isinstance (da_cons (dh_var (pv 0)) (da_cons (dh_e (de_c (pe_bltn (v := .ty "bool") (u := .type "bool") rfl T.b_bool (by decide +kernel) rfl) (fun _ => .ty .bool rfl))) da_nil)))) (dh_e (de_cb call_isi o_isi T.b_isinstance (da_cons (dh_var (pv 1)) (da_cons (dh_e (de_c (pe_bltn (v := .ty "bool") (u := .type "bool") rfl T.b_bool (by decide +kernel) rfl) (fun _ => .ty .bool rfl))) da_nil)))) (nomark _)) (de_one (de_cmp (op_eqD hr.units) o_eq (dh_var (pv 0)) (dh_var (pv 1)) (nomark _)))))))))
abbrev Ok_Place_str (P : Program) (w : World) (K : PySem.W.Frag) (mg : Str → Option Value) (base : Heap) (k : Nat) (sp : DSp) : Prop := ∃ fd, FunD K "__str__" "Place.__str__" (defArgs s_Place_str) (defBody s_Place_str) (defScope s_Place_str) [] [] (He.ma K (He.ga K "Place") "__str__") fd ∧ FnOk P w K mg base CX0 k (He.ma K (He.ga K "Place") "__str__") fd ["self"] (LSp K sp) ∧ Binds K fd ["self"] []
theorem ok_Place_str (T : Ctx K mg) {sp : DSp} (len : ∀ as R RX, sp as R RX → as.length = 1) (hp : ∀ as R RX, sp as R RX → cntM as ≤ 1 → t_Place_str (defEnds as R) (startR 1 as)) : Ok_Place_str P w K mg base 1 sp := by
  obtain ⟨fd, F⟩ := T.f_Place_str
  refine ⟨fd, F, fn_ok0 F sc_Place_str (by decide) len (fun cdv A outer s H E Γ hr => ?_) hp, F.bindsN fun _ _ _ _ _ _ us hl => match us, hl with | [_], _ => rfl⟩
  unfold t_Place_str
  exact (dss_cons (ds_if (dt_cmp op_isN o_isN (dh_e (de_fld T.cl_Place.cls T.na_Place_line (dh_var (pv 0)))) (dh_e de_non) (nomark _)) (dss_one (ds_ret de_str)) dss_nil)
      (dss_cons (ds_if (dt_cmp op_isN o_isN (dh_e (de_fld T.cl_Place.cls T.na_Place_begin (dh_var (pv 0)))) (dh_e de_non) (nomark _)) (dss_one (ds_ret (de_ct call_str_int o_str T.b_str (da_cons (dh_e (de_fld T.cl_Place.cls T.na_Place_line (dh_var (pv 0)))) da_nil)))) dss_nil)
      (dss_cons (ds_if (dt_cmp (op_eqD hr.units) o_eq (dh_e (de_fld T.cl_Place.cls T.na_Place_last (dh_var (pv 0)))) (dh_e (de_fld T.cl_Place.cls T.na_Place_line (dh_var (pv 0)))) (nomark _)) (dss_one (ds_ret (de_joined (.cons (de_fmt (dh_e (de_fld T.cl_Place.cls T.na_Place_line (dh_var (pv 0))))) (.cons de_str (.cons (de_fmt (dh_e (de_fld T.cl_Place.cls T.na_Place_begin (dh_var (pv 0))))) (.cons de_str (.cons (de_fmt (dh_e (de_fld T.cl_Place.cls T.na_Place_end (dh_var (pv 0))))) .nil)))))))) dss_nil)
      (dss_one (ds_ret (de_joined (.cons (de_fmt (dh_e (de_fld T.cl_Place.cls T.na_Place_line (dh_var (pv 0))))) (.cons de_str (.cons (de_fmt (dh_e (de_fld T.cl_Place.cls T.na_Place_begin (dh_var (pv 0))))) (.cons de_str (.cons (de_fmt (dh_e (de_fld T.cl_Place.cls T.na_Place_last (dh_var (pv 0))))) (.cons de_str (.cons (de_fmt (dh_e (de_fld T.cl_Place.cls T.na_Place_end (dh_var (pv 0))))) .nil)))))))))))))
abbrev Ok_figures_in (P : Program) (w : World) (K : PySem.W.Frag) (mg : Str → Option Value) (base : Heap) (k : Nat) (sp : DSp) : Prop := ∃ fd, FunD K "figures_in" "figures_in" (defArgs s_figures_in) (defBody s_figures_in) (defScope s_figures_in) [] [] (He.ga K "figures_in") fd ∧ FnOk P w K mg base CX0 k (He.ga K "figures_in") fd ["text", "most"] (LSp K sp) ∧ Binds K fd ["text", "most"] []
theorem ok_figures_in (T : Ctx K mg) {sp : DSp} (len : ∀ as R RX, sp as R RX → as.length = 2) (hp : ∀ as R RX, sp as R RX → cntM as ≤ 1 → t_figures_in (defEnds as R) (startR 3 as)) : Ok_figures_in P w K mg base 1 sp := by
  obtain ⟨tk_FIGURES, c_FIGURES⟩ := T.c_FIGURES
  obtain ⟨fd, F⟩ := T.f_figures_in
  refine ⟨fd, F, fn_ok0 F sc_figures_in (by decide) len (fun cdv A outer s H E Γ hr => ?_) hp, F.bindsN fun _ _ _ _ _ _ us hl => match us, hl with | [_, _], _ => rfl⟩
  unfold t_figures_in
  exact (dss_cons (ds_if (DW.dt (dw_or (dt_not (dt_chain op_le op_le o_cmp o_cmp (dh_e de_int) (dh_e (de_cb call_len o_len T.b_len (da_cons (dh_var (pv 0)) da_nil))) (dh_var (pv 1)))) (dw_or1 (dt_not (dt_tru (dh_e (de_cb (cr_all rfl) o_all T.b_all (da_cons (dh_e (de_lc (own := [("sign", 2)]) rfl sc_figures_in.nd (di_seq (de_var (pv 0))) (blkOk_by (own := [("sign", 2)]) (N := N_figures_in) (sc := defScope s_figures_in) (by decide +kernel)) (fun _ _ _ _ _ => (dgd_name (i := 2) sc_figures_in.nd)) (fun _ _ _ _ _ => dif_nil) (fun _ _ _ _ _ => (de_cmp op_in_sign o_inSg (dh_var (pv 2)) (dh_e (de_c (pe_glob (v := .str "0123456789") rfl c_FIGURES ⟨_, rfl⟩) (fun _ => .str _))) rfl)))) da_nil)))))))) (dss_one (ds_ret de_non)) dss_nil)
      (dss_cons (ds_if (DW.dt (dw_and (dt_cmp (op_eqD hr.units) o_eq (dh_e (de_ix ix_seq o_ix (dh_var (pv 0)) (dh_e de_int) (fun _ _ => rfl))) (dh_e de_str) (nomark _)) (dw_and1 (dt_cmp (op_neD hr.units) o_ne (dh_var (pv 0)) (dh_e de_str) (nomark _))))) (dss_one (ds_ret de_non)) dss_nil)
      (dss_one (ds_ret (de_ct call_intA o_intT T.b_int (da_cons (dh_var (pv 0)) da_nil))))))
abbrev Ok_number_in (P : Program) (w : World) (K : PySem.W.Frag) (mg : Str → Option Value) (base : Heap) (k : Nat) (sp : DSp) : Prop := ∃ fd, FunD K "number_in" "number_in" (defArgs s_number_in) (defBody s_number_in) (defScope s_number_in) [] [] (He.ga K "number_in") fd ∧ FnOk P w K mg base CX0 k (He.ga K "number_in") fd ["text"] (LSp K sp) ∧ Binds K fd ["text"] []
theorem ok_number_in (T : Ctx K mg) (h_figures_in : Ok_figures_in P w K mg base 1 sp_figures_in) {sp : DSp} (len : ∀ as R RX, sp as R RX → as.length = 1) (hp : ∀ as R RX, sp as R RX → cntM as ≤ 1 → t_number_in (defEnds as R) (startR 1 as)) : Ok_number_in P w K mg base 2 sp := by
  obtain ⟨fd_figures_in, F_figures_in, G_figures_in, b_figures_in⟩ := h_figures_in
  obtain ⟨tk_MOST_FIGURES, c_MOST_FIGURES⟩ := T.c_MOST_FIGURES
  obtain ⟨fd, F⟩ := T.f_number_in
  refine ⟨fd, F, fn_ok0 F sc_number_in (by decide) len (fun cdv A outer s H E Γ hr => ?_) hp, F.bindsN fun _ _ _ _ _ _ us hl => match us, hl with | [_], _ => rfl⟩
  unfold t_number_in
  exact (dss_one (ds_ret (de_call (Fn.mk (G_figures_in) T.g_figures_in F_figures_in.kp) (hr.mono (by decide)) b_figures_in .nil (fun _ => .nil) (da_cons (dh_var (pv 0)) (da_cons (dh_e (de_c (pe_glob (v := .int (7)) rfl c_MOST_FIGURES ⟨_, rfl⟩) (fun _ => .int _))) da_nil)))))
abbrev Ok_numbers_in (P : Program) (w : World) (K : PySem.W.Frag) (mg : Str → Option Value) (base : Heap) (k : Nat) (sp : DSp) : Prop := ∃ fd, FunD K "numbers_in" "numbers_in" (defArgs s_numbers_in) (defBody s_numbers_in) (defScope s_numbers_in) [] [] (He.ga K "numbers_in") fd ∧ FnOk P w K mg base CX0 k (He.ga K "numbers_in") fd ["text"] (LSp K sp) ∧ Binds K fd ["text"] []
theorem ok_numbers_in (T : Ctx K mg) (h_number_in : Ok_number_in P w K mg base 2 sp_number_in) {sp : DSp} (len : ∀ as R RX, sp as R RX → as.length = 1) (hp : ∀ as R RX, sp as R RX → cntM as ≤ 1 → t_numbers_in (defEnds as R) (startR 10 as)) : Ok_numbers_in P w K mg base 3 sp := by
  obtain ⟨fd_number_in, F_number_in, G_number_in, b_number_in⟩ := h_number_in
  obtain ⟨fd, F⟩ := T.f_numbers_in
  refine ⟨fd, F, fn_ok0 F sc_numbers_in (by decide) len (fun cdv A outer s H E Γ hr => ?_) hp, F.bindsN fun _ _ _ _ _ _ us hl => match us, hl with | [_], _ => rfl⟩
  unfold t_numbers_in
  exact (dss_cons (ds_asg (de_tm PySem.F.slot_str_partition PySem.F.type_str_partition mt_partition o_part (de_var (pv 0)) de_str) (dg_u (js := [1, 2, 3]) rfl (dgs_cons (dgd_name (i := 1) sc_numbers_in.nd) (dgs_cons (dgd_name (i := 2) sc_numbers_in.nd) (dgs_cons (dgd_name (i := 3) sc_numbers_in.nd) dgs_nil))) (len_name (len_name (len_name len_nil)))))
      (dss_cons (ds_if (dt_cmp (op_eqD hr.units) o_eq (dh_var (pv 2)) (dh_e de_str) (nomark _)) (dss_one (ds_ret (de_tup (da_cons (dh_e (de_call (Fn.mk (G_number_in) T.g_number_in F_number_in.kp) (hr.mono (by decide)) b_number_in .nil (fun _ => .nil) (da_cons (dh_var (pv 1)) da_nil))) (da_cons (dh_e de_non) (da_cons (dh_e de_non) (da_cons (dh_e de_non) da_nil))))))) dss_nil)
      (dss_cons (ds_asg (de_tm PySem.F.slot_str_partition PySem.F.type_str_partition mt_partition o_part (de_var (pv 3)) de_str) (dg_u (js := [4, 5, 6]) rfl (dgs_cons (dgd_name (i := 4) sc_numbers_in.nd) (dgs_cons (dgd_name (i := 5) sc_numbers_in.nd) (dgs_cons (dgd_name (i := 6) sc_numbers_in.nd) dgs_nil))) (len_name (len_name (len_name len_nil)))))
      (dss_cons (ds_asg (de_tm PySem.F.slot_str_partition PySem.F.type_str_partition mt_partition o_part (de_var (pv 6)) de_str) (dg_u (js := [7, 8, 9]) rfl (dgs_cons (dgd_name (i := 7) sc_numbers_in.nd) (dgs_cons (dgd_name (i := 8) sc_numbers_in.nd) (dgs_cons (dgd_name (i := 9) sc_numbers_in.nd) dgs_nil))) (len_name (len_name (len_name len_nil)))))
      (dss_cons (ds_if (DW.dt (dw_or (dt_cmp (op_eqD hr.units) o_eq (dh_var (pv 5)) (dh_e de_str) (nomark _)) (dw_or1 (dt_cmp op_isN o_isN (dh_e (de_call (Fn.mk (G_number_in) T.g_number_in F_number_in.kp) (hr.mono (by decide)) b_number_in .nil (fun _ => .nil) (da_cons (dh_var (pv 4)) da_nil))) (dh_e de_non) (nomark _))))) (dss_one (ds_ret de_non)) dss_nil)
      (dss_cons (ds_if (dt_cmp (op_eqD hr.units) o_eq (dh_var (pv 8)) (dh_e de_str) (nomark _)) (dss_one (ds_ret (de_tup (da_cons (dh_e (de_call (Fn.mk (G_number_in) T.g_number_in F_number_in.kp) (hr.mono (by decide)) b_number_in .nil (fun _ => .nil) (da_cons (dh_var (pv 1)) da_nil))) (da_cons (dh_e de_non) (da_cons (dh_e (de_call (Fn.mk (G_number_in) T.g_number_in F_number_in.kp) (hr.mono (by decide)) b_number_in .nil (fun _ => .nil) (da_cons (dh_var (pv 4)) da_nil))) (da_cons (dh_e (de_call (Fn.mk (G_number_in) T.g_number_in F_number_in.kp) (hr.mono (by decide)) b_number_in .nil (fun _ => .nil) (da_cons (dh_var (pv 6)) da_nil))) da_nil))))))) dss_nil)
      (dss_one (ds_ret (de_if (dt_cmp op_isN o_isN (dh_e (de_call (Fn.mk (G_number_in) T.g_number_in F_number_in.kp) (hr.mono (by decide)) b_number_in .nil (fun _ => .nil) (da_cons (dh_var (pv 7)) da_nil))) (dh_e de_non) (nomark _)) de_non (de_tup (da_cons (dh_e (de_call (Fn.mk (G_number_in) T.g_number_in F_number_in.kp) (hr.mono (by decide)) b_number_in .nil (fun _ => .nil) (da_cons (dh_var (pv 1)) da_nil))) (da_cons (dh_e (de_call (Fn.mk (G_number_in) T.g_number_in F_number_in.kp) (hr.mono (by decide)) b_number_in .nil (fun _ => .nil) (da_cons (dh_var (pv 7)) da_nil))) (da_cons (dh_e (de_call (Fn.mk (G_number_in) T.g_number_in F_number_in.kp) (hr.mono (by decide)) b_number_in .nil (fun _ => .nil) (da_cons (dh_var (pv 4)) da_nil))) (da_cons (dh_e (de_call (Fn.mk (G_number_in) T.g_number_in F_number_in.kp) (hr.mono (by decide)) b_number_in .nil (fun _ => .nil) (da_cons (dh_var (pv 9)) da_nil))) da_nil))))))))))))))
abbrev Ok_is_number (P : Program) (w : World) (K : PySem.W.Frag) (mg : Str → Option Value) (base : Heap) (k : Nat) (sp : DSp) : Prop := ∃ fd, FunD K "is_number" "is_number" (defArgs s_is_number) (defBody s_is_number) (defScope s_is_number) [] [] (He.ga K "is_number") fd ∧ FnOk P w K mg base CX0 k (He.ga K "is_number") fd ["thing"] (LSp K sp) ∧ Binds K fd ["thing"] []
theorem ok_is_number (T : Ctx K mg) {sp : DSp} (len : ∀ as R RX, sp as R RX → as.length = 1) (hp : ∀ as R RX, sp as R RX → cntM as ≤ 1 → t_is_number (defEnds as R) (startR 1 as)) : Ok_is_number P w K mg base 1 sp := by
  obtain ⟨fd, F⟩ := T.f_is_number
  refine ⟨fd, F, fn_ok0 F sc_is_number (by decide) len (fun cdv A outer s H E Γ hr => ?_) hp, F.bindsN fun _ _ _ _ _ _ us hl => match us, hl with | [_], _ => rfl⟩
  unfold t_is_number
  exact (dss_one (ds_ret (de_and (de_cb call_isi o_isi T.b_isinstance (da_cons (dh_var (pv 0)) (da_cons (dh_e (de_c (pe_bltn (v := .ty "int") (u := .type "int") rfl T.b_int (by decide +kernel) rfl) (fun _ => .ty .int rfl))) da_nil))) (de_one (de_not (de_cb call_isi o_isi T.b_isinstance (da_cons (dh_var (pv 0)) (da_cons (dh_e (de_c (pe_bltn (v := .ty "bool") (u := .type "bool") rfl T.b_bool (by decide +kernel) rfl) (fun _ => .ty .bool rfl))) da_nil))))))))
abbrev Ok_is_between (P : Program) (w : World) (K : PySem.W.Frag) (mg : Str → Option Value) (base : Heap) (k : Nat) (sp : DSp) : Prop := ∃ fd, FunD K "is_between" "is_between" (defArgs s_is_between) (defBody s_is_between) (defScope s_is_between) [] [] (He.ga K "is_between") fd ∧ FnOk P w K mg base CX0 k (He.ga K "is_between") fd ["thing", "low", "high"] (LSp K sp) ∧ Binds K fd ["thing", "low", "high"] []
theorem ok_is_between (T : Ctx K mg) (h_is_number : Ok_is_number P w K mg base 1 sp_is_number) {sp : DSp} (len : ∀ as R RX, sp as R RX → as.length = 3) (hp : ∀ as R RX, sp as R RX → cntM as ≤ 1 → t_is_between (defEnds as R) (startR 3 as)) : Ok_is_between P w K mg base 2 sp := by
  obtain ⟨fd_is_number, F_is_number, G_is_number, b_is_number⟩ := h_is_number
  obtain ⟨fd, F⟩ := T.f_is_between
  refine ⟨fd, F, fn_ok0 F sc_is_between (by decide) len (fun cdv A outer s H E Γ hr => ?_) hp, F.bindsN fun _ _ _ _ _ _ us hl => match us, hl with | [_, _, _], _ => rfl⟩
  unfold t_is_between
  exact (dss_one (ds_ret (de_and (de_call (Fn.mk (G_is_number) T.g_is_number F_is_number.kp) (hr.mono (by decide)) b_is_number .nil (fun _ => .nil) (da_cons (dh_var (pv 0)) da_nil)) (de_one (de_chain op_le op_le o_cmp o_cmp (dh_var (pv 1)) (dh_var (pv 0)) (dh_var (pv 2)))))))
abbrev Ok_is_line (P : Program) (w : World) (K : PySem.W.Frag) (mg : Str → Option Value) (base : Heap) (k : Nat) (sp : DSp) : Prop := ∃ fd, FunD K "is_line" "is_line" (defArgs s_is_line) (defBody s_is_line) (defScope s_is_line) [] [("least", .int (1)), ("most", .int (1000000))] (He.ga K "is_line") fd ∧ FnOk P w K mg base CX0 k (He.ga K "is_line") fd ["thing", "least", "most"] (LSp K sp) ∧ True
theorem ok_is_line (T : Ctx K mg) (h_is_between : Ok_is_between P w K mg base 2 sp_is_between) {sp : DSp} (len : ∀ as R RX, sp as R RX → as.length = 3) (hp : ∀ as R RX, sp as R RX → cntM as ≤ 1 → t_is_line (defEnds as R) (startR 3 as)) : Ok_is_line P w K mg base 3 sp := by
  obtain ⟨fd_is_between, F_is_between, G_is_between, b_is_between⟩ := h_is_between
  obtain ⟨fd, F⟩ := T.f_is_line
  refine ⟨fd, F, fn_ok0 F sc_is_line (by decide) len (fun cdv A outer s H E Γ hr => ?_) hp, trivial⟩
  unfold t_is_line
  exact (dss_one (ds_ret (de_call (Fn.mk (G_is_between) T.g_is_between F_is_between.kp) (hr.mono (by decide)) b_is_between .nil (fun _ => .nil) (da_cons (dh_var (pv 0)) (da_cons (dh_var (pv 1)) (da_cons (dh_var (pv 2)) da_nil))))))
abbrev Ok_is_last (P : Program) (w : World) (K : PySem.W.Frag) (mg : Str → Option Value) (base : Heap) (k : Nat) (sp : DSp) : Prop := ∃ fd, FunD K "is_last" "is_last" (defArgs s_is_last) (defBody s_is_last) (defScope s_is_last) [] [] (He.ga K "is_last") fd ∧ FnOk P w K mg base CX0 k (He.ga K "is_last") fd ["line", "last"] (LSp K sp) ∧ Binds K fd ["line", "last"] []
theorem ok_is_last (T : Ctx K mg) (h_is_line : Ok_is_line P w K mg base 3 sp_is_line) {sp : DSp} (len : ∀ as R RX, sp as R RX → as.length = 2) (hp : ∀ as R RX, sp as R RX → cntM as ≤ 1 → t_is_last (defEnds as R) (startR 2 as)) : Ok_is_last P w K mg base 4 sp := by
  obtain ⟨fd_is_line, F_is_line, G_is_line, b_is_line⟩ := h_is_line
  obtain ⟨tk_MOST_BELOW, c_MOST_BELOW⟩ := T.c_MOST_BELOW
  obtain ⟨tk_MOST_LINE, c_MOST_LINE⟩ := T.c_MOST_LINE
  have kis_line_1_least_most : KwB K fd_is_line ["thing", "least", "most"] 1 ["least", "most"] (fun ds es => pickP [.inl 0, .inr 0, .inr 1] (ds ++ []) es) := kwD0 F_is_line 1 ["least", "most"] [] [.inl 0, .inr 0, .inr 1] .nil (by decide) (by simp) (fun _ _ _ _ _ _ us mv ws h1 h2 h3 => match us, h1, mv, h2, ws, h3 with | [_], _, [], _, [_, _], _ => rfl)
  obtain ⟨fd, F⟩ := T.f_is_last
  refine ⟨fd, F, fn_ok0 F sc_is_last (by decide) len (fun cdv A outer s H E Γ hr => ?_) hp, F.bindsN fun _ _ _ _ _ _ us hl => match us, hl with | [_, _], _ => rfl⟩
  unfold t_is_last
  exact (dss_cons (ds_if (DW.dt (dw_or (dt_cmp op_isN o_isN (dh_var (pv 1)) (dh_e de_non) (nomark _)) (dw_or1 (dt_cmp op_isN o_isN (dh_var (pv 0)) (dh_e de_non) (nomark _))))) (dss_one (ds_ret (de_cmp op_isN o_isN (dh_var (pv 1)) (dh_e de_non) (nomark _)))) dss_nil)
      (dss_one (ds_ret (de_callK (ks := ["least", "most"]) (Fn.mk (G_is_line) T.g_is_line F_is_line.kp) (hr.mono (by decide)) kis_line_1_least_most (da_cons (dh_var (pv 1)) da_nil) (dk_cons (dh_var (pv 0)) (dk_cons (dh_e (de_cb (call_min2 rfl) o_min2 T.b_min (da_cons (dh_e (de_c (pe_glob (v := .int (1000000)) rfl c_MOST_LINE ⟨_, rfl⟩) (fun _ => .int _))) (da_cons (dh_e (de_op or_add o_add (dh_var (pv 0)) (dh_e (de_c (pe_glob (v := .int (99)) rfl c_MOST_BELOW ⟨_, rfl⟩) (fun _ => .int _))))) da_nil)))) dk_nil))))))
abbrev Ok_is_column (P : Program) (w : World) (K : PySem.W.Frag) (mg : Str → Option Value) (base : Heap) (k : Nat) (sp : DSp) : Prop := ∃ fd, FunD K "is_column" "is_column" (defArgs s_is_column) (defBody s_is_column) (defScope s_is_column) [] [("least", .int (0))] (He.ga K "is_column") fd ∧ FnOk P w K mg base CX0 k (He.ga K "is_column") fd ["thing", "least"] (LSp K sp) ∧ True
theorem ok_is_column (T : Ctx K mg) (h_is_between : Ok_is_between P w K mg base 2 sp_is_between) {sp : DSp} (len : ∀ as R RX, sp as R RX → as.length = 2) (hp : ∀ as R RX, sp as R RX → cntM as ≤ 1 → t_is_column (defEnds as R) (startR 2 as)) : Ok_is_column P w K mg base 3 sp := by
  obtain ⟨fd_is_between, F_is_between, G_is_between, b_is_between⟩ := h_is_between
  obtain ⟨tk_MOST_COLUMN, c_MOST_COLUMN⟩ := T.c_MOST_COLUMN
  obtain ⟨fd, F⟩ := T.f_is_column
  refine ⟨fd, F, fn_ok0 F sc_is_column (by decide) len (fun cdv A outer s H E Γ hr => ?_) hp, trivial⟩
  unfold t_is_column
  exact (dss_one (ds_ret (de_call (Fn.mk (G_is_between) T.g_is_between F_is_between.kp) (hr.mono (by decide)) b_is_between .nil (fun _ => .nil) (da_cons (dh_var (pv 0)) (da_cons (dh_var (pv 1)) (da_cons (dh_e (de_c (pe_glob (v := .int (10000)) rfl c_MOST_COLUMN ⟨_, rfl⟩) (fun _ => .int _))) da_nil))))))
abbrev Ok_is_begin (P : Program) (w : World) (K : PySem.W.Frag) (mg : Str → Option Value) (base : Heap) (k : Nat) (sp : DSp) : Prop := ∃ fd, FunD K "is_begin" "is_begin" (defArgs s_is_begin) (defBody s_is_begin) (defScope s_is_begin) [] [] (He.ga K "is_begin") fd ∧ FnOk P w K mg base CX0 k (He.ga K "is_begin") fd ["line", "last", "begin"] (LSp K sp) ∧ Binds K fd ["line", "last", "begin"] []
theorem ok_is_begin (T : Ctx K mg) (h_is_column : Ok_is_column P w K mg base 3 sp_is_column) {sp : DSp} (len : ∀ as R RX, sp as R RX → as.length = 3) (hp : ∀ as R RX, sp as R RX → cntM as ≤ 1 → t_is_begin (defEnds as R) (startR 3 as)) : Ok_is_begin P w K mg base 4 sp := by
  obtain ⟨fd_is_column, F_is_column, G_is_column, b_is_column⟩ := h_is_column
  obtain ⟨z_is_column_1, vd_is_column_1, bd_is_column_1⟩ : ∃ ds, Vals [.int (0)] ds ∧ Binds K fd_is_column ["thing", "least"] ds := F_is_column.binds0 1 (by decide) rfl (fun _ _ _ _ _ _ us ks h1 h2 => match us, h1, ks, h2 with | [_], _, [_], _ => ⟨_, _, _, _, _, _, rfl, rfl, rfl⟩)
  obtain ⟨fd, F⟩ := T.f_is_begin
  refine ⟨fd, F, fn_ok0 F sc_is_begin (by decide) len (fun cdv A outer s H E Γ hr => ?_) hp, F.bindsN fun _ _ _ _ _ _ us hl => match us, hl with | [_, _, _], _ => rfl⟩
  unfold t_is_begin
  exact (dss_cons (ds_if (dt_cmp op_isN o_isN (dh_var (pv 2)) (dh_e de_non) (nomark _)) (dss_one (ds_ret (de_or (de_cmp op_isN o_isN (dh_var (pv 1)) (dh_e de_non) (nomark _)) (de_one (de_cmp (op_eqD hr.units) o_eq (dh_var (pv 1)) (dh_var (pv 0)) (nomark _)))))) dss_nil)
      (dss_one (ds_ret (de_and (de_cmp op_notN o_notN (dh_var (pv 0)) (dh_e de_non) (nomark _)) (de_one (de_call (Fn.mk (G_is_column) T.g_is_column F_is_column.kp) (hr.mono (by decide)) bd_is_column_1 vd_is_column_1 (fun H => CDs.reps (.cons (.int _) .nil) H) (da_cons (dh_var (pv 2)) da_nil)))))))
abbrev Ok_is_end (P : Program) (w : World) (K : PySem.W.Frag) (mg : Str → Option Value) (base : Heap) (k : Nat) (sp : DSp) : Prop := ∃ fd, FunD K "is_end" "is_end" (defArgs s_is_end) (defBody s_is_end) (defScope s_is_end) [] [] (He.ga K "is_end") fd ∧ FnOk P w K mg base CX0 k (He.ga K "is_end") fd ["line", "last", "begin", "end"] (LSp K sp) ∧ Binds K fd ["line", "last", "begin", "end"] []
theorem ok_is_end (T : Ctx K mg) (h_is_column : Ok_is_column P w K mg base 3 sp_is_column) {sp : DSp} (len : ∀ as R RX, sp as R RX → as.length = 4) (hp : ∀ as R RX, sp as R RX → cntM as ≤ 1 → t_is_end (defEnds as R) (startR 5 as)) : Ok_is_end P w K mg base 4 sp := by
  obtain ⟨fd_is_column, F_is_column, G_is_column, b_is_column⟩ := h_is_column
  have kis_column_1_least : KwB K fd_is_column ["thing", "least"] 1 ["least"] (fun ds es => pickP [.inl 0, .inr 0] (ds ++ []) es) := kwD0 F_is_column 1 ["least"] [] [.inl 0, .inr 0] .nil (by decide) (by simp) (fun _ _ _ _ _ _ us mv ws h1 h2 h3 => match us, h1, mv, h2, ws, h3 with | [_], _, [], _, [_], _ => rfl)
  obtain ⟨fd, F⟩ := T.f_is_end
  refine ⟨fd, F, fn_ok0 F sc_is_end (by decide) len (fun cdv A outer s H E Γ hr => ?_) hp, F.bindsN fun _ _ _ _ _ _ us hl => match us, hl with | [_, _, _, _], _ => rfl⟩
  unfold t_is_end
  exact (dss_cons (ds_if (DW.dt (dw_or (dt_cmp op_isN o_isN (dh_var (pv 2)) (dh_e de_non) (nomark _)) (dw_or1 (dt_cmp op_isN o_isN (dh_var (pv 3)) (dh_e de_non) (nomark _))))) (dss_one (ds_ret (de_and (de_cmp op_isN o_isN (dh_var (pv 2)) (dh_e de_non) (nomark _)) (de_one (de_cmp op_isN o_isN (dh_var (pv 3)) (dh_e de_non) (nomark _)))))) dss_nil)
      (dss_cons (ds_set (i := 4) sc_is_end.nd (de_fz (de_or (de_cmp op_isN o_isN (dh_var (pv 1)) (dh_e de_non) (nomark _)) (de_one (de_cmp (op_eqD hr.units) o_eq (dh_var (pv 1)) (dh_var (pv 0)) (nomark _))))))
      (dss_one (ds_ret (de_callK (ks := ["least"]) (Fn.mk (G_is_column) T.g_is_column F_is_column.kp) (hr.mono (by decide)) kis_column_1_least (da_cons (dh_var (pv 3)) da_nil) (dk_cons (dh_e (de_if (dt_tru (dh_var (pv 4))) (de_var (pv 2)) de_int)) dk_nil))))))
abbrev Ok_Place_init (P : Program) (w : World) (K : PySem.W.Frag) (mg : Str → Option Value) (base : Heap) (k : Nat) (sp : DSp) : Prop := ∃ fd, FunD K "__init__" "Place.__init__" (defArgs s_Place_init) (defBody s_Place_init) (defScope s_Place_init) [.non, .non] [("begin", .non), ("end", .non)] (He.ma K (He.ga K "Place") "__init__") fd ∧ FnOk P w K mg base (L2N.CX P w) k (He.ma K (He.ga K "Place") "__init__") fd ["self", "line", "last", "begin", "end"] (spNew K "Place" sp) ∧ True
theorem ok_Place_init (T : Ctx K mg) (h_is_begin : Ok_is_begin P w K mg base 4 sp_is_begin) (h_is_end : Ok_is_end P w K mg base 4 sp_is_end) (h_is_last : Ok_is_last P w K mg base 4 sp_is_last) (h_is_line : Ok_is_line P w K mg base 3 sp_is_line) {sp : DSp} (len : ∀ as R RX, sp as R RX → as.length = 4) (hp : ∀ (ds : List D) R RX (y : Addr), sp (ds.map S.v) R RX → t_Place_init y (fun C f d _ => RX C f d []) (fun gs _ => R (.v (.ins "Place" gs)) []) (startR 5 (.v (.adr y) :: ds.map S.v))) : Ok_Place_init P w K mg base 5 sp := by
  obtain ⟨fd_is_begin, F_is_begin, G_is_begin, b_is_begin⟩ := h_is_begin
  obtain ⟨fd_is_end, F_is_end, G_is_end, b_is_end⟩ := h_is_end
  obtain ⟨fd_is_last, F_is_last, G_is_last, b_is_last⟩ := h_is_last
  obtain ⟨fd_is_line, F_is_line, G_is_line, b_is_line⟩ := h_is_line
  obtain ⟨fdI_BadPlace, GI_BadPlace, bI_BadPlace⟩ := ini_BadPlace (P := P) (w := w) (base := base) T
  obtain ⟨z_is_line_1, vd_is_line_1, bd_is_line_1⟩ : ∃ ds, Vals [.int (1), .int (1000000)] ds ∧ Binds K fd_is_line ["thing", "least", "most"] ds := F_is_line.binds0 1 (by decide) rfl (fun _ _ _ _ _ _ us ks h1 h2 => match us, h1, ks, h2 with | [_], _, [_, _], _ => ⟨_, _, _, _, _, _, rfl, rfl, ⟨_, _, _, _, _, _, rfl, rfl, rfl⟩⟩)
  obtain ⟨fd, F⟩ := T.f_Place_init
  refine ⟨fd, F, fn_newXN F sc_Place_init (by decide) (fun as R RX h => congrArg (· + 1) (len as R RX h)) (fun cdv A outer s H E Γ xc y dy hr tk => ?_) hp, trivial⟩
  unfold t_Place_init
  exact (pss_pre (ds_if (DW.dt (dw_and (dt_cmp op_notN o_notN (dh_var (pv 1)) (dh_e de_non) (nomark _)) (dw_and1 (dt_not (dt_tru (dh_e (de_call (Fn.mk (G_is_line) T.g_is_line F_is_line.kp) (hr.mono (by decide)) bd_is_line_1 vd_is_line_1 (fun H => CDs.reps (.cons (.int _) (.cons (.int _) .nil)) H) (da_cons (dh_var (pv 1)) da_nil)))))))) (dss_one (ds_raiseN tk T.er_BadPlace GI_BadPlace (hr.mono (by decide)) bI_BadPlace T.g_BadPlace de_str)) dss_nil)
      (pss_pre (ds_if (dt_not (dt_tru (dh_e (de_call (Fn.mk (G_is_last) T.g_is_last F_is_last.kp) (hr.mono (by decide)) b_is_last .nil (fun _ => .nil) (da_cons (dh_var (pv 1)) (da_cons (dh_var (pv 2)) da_nil)))))) (dss_one (ds_raiseN tk T.er_BadPlace GI_BadPlace (hr.mono (by decide)) bI_BadPlace T.g_BadPlace de_str)) dss_nil)
      (pss_pre (ds_if (dt_not (dt_tru (dh_e (de_call (Fn.mk (G_is_begin) T.g_is_begin F_is_begin.kp) (hr.mono (by decide)) b_is_begin .nil (fun _ => .nil) (da_cons (dh_var (pv 1)) (da_cons (dh_var (pv 2)) (da_cons (dh_var (pv 3)) da_nil))))))) (dss_one (ds_raiseN tk T.er_BadPlace GI_BadPlace (hr.mono (by decide)) bI_BadPlace T.g_BadPlace de_str)) dss_nil)
      (pss_pre (ds_if (dt_not (dt_tru (dh_e (de_call (Fn.mk (G_is_end) T.g_is_end F_is_end.kp) (hr.mono (by decide)) b_is_end .nil (fun _ => .nil) (da_cons (dh_var (pv 1)) (da_cons (dh_var (pv 2)) (da_cons (dh_var (pv 3)) (da_cons (dh_var (pv 4)) da_nil)))))))) (dss_one (ds_raiseN tk T.er_BadPlace GI_BadPlace (hr.mono (by decide)) bI_BadPlace T.g_BadPlace de_str)) dss_nil)
      (pss_sets (pss_setCons (ps_setF (fun _ => de_var (pv 0)) (fun _ => (de_var (pv 1))) T.cl_Place.cls T.na_Place_line)
      (pss_setCons (ps_setF (fun _ => de_var (pv 0)) (fun _ => (de_if (dt_cmp op_isN o_isN (dh_var (pv 2)) (dh_e de_non) (nomark _)) (de_var (pv 1)) (de_var (pv 2)))) T.cl_Place.cls T.na_Place_last)
      (pss_setCons (ps_setF (fun _ => de_var (pv 0)) (fun _ => (de_var (pv 3))) T.cl_Place.cls T.na_Place_begin)
      (pss_setCons (ps_setF (fun _ => de_var (pv 0)) (fun _ => (de_var (pv 4))) T.cl_Place.cls T.na_Place_end)
      pss_setNil)))))))))
abbrev Ok_place_in (P : Program) (w : World) (K : PySem.W.Frag) (mg : Str → Option Value) (base : Heap) (k : Nat) (sp : DSp) : Prop := ∃ fd, FunD K "place_in" "place_in" (defArgs s_place_in) (defBody s_place_in) (defScope s_place_in) [] [] (He.ga K "place_in") fd ∧ FnOk P w K mg base (L2.CX P w) k (He.ga K "place_in") fd ["text"] (LSp K sp) ∧ Binds K fd ["text"] []
theorem ok_place_in (T : Ctx K mg) (h_Place_init : Ok_Place_init P w K mg base 5 sp_Place_init) (h_Place_str : Ok_Place_str P w K mg base 1 sp_Place_str) (h_numbers_in : Ok_numbers_in P w K mg base 3 sp_numbers_in) {sp : DSp} (len : ∀ as R RX, sp as R RX → as.length = 1) (hp : ∀ as R RX, sp as R RX → cntM as ≤ 1 → t_place_in (defX as RX) (defEnds as R) (startR 3 as)) : Ok_place_in P w K mg base 7 sp := by
  obtain ⟨fd_Place_init, F_Place_init, G_Place_init, b_Place_init⟩ := h_Place_init
  obtain ⟨fd_Place_str, F_Place_str, G_Place_str, b_Place_str⟩ := h_Place_str
  obtain ⟨fd_numbers_in, F_numbers_in, G_numbers_in, b_numbers_in⟩ := h_numbers_in
  obtain ⟨tk_NOWHERE, c_NOWHERE⟩ := T.c_NOWHERE
  obtain ⟨fdI_BadText, GI_BadText, bI_BadText⟩ := ini_BadText (P := P) (w := w) (base := base) T
  obtain ⟨fdH_BadText, GH_BadText, bH_BadText⟩ := iniH_BadText (P := P) (w := w) (base := base) T
  obtain ⟨z_Place_init_0, vd_Place_init_0, bd_Place_init_0⟩ : ∃ ds, Vals [.non, .non, .non, .non] ds ∧ Binds K fd_Place_init ["self", "line", "last", "begin", "end"] ds := F_Place_init.binds 1 0 (by decide) rfl (fun _ _ _ _ _ _ _ us its ks h1 h2 h3 => match us, h1, its, h2, ks, h3 with | [_], _, [_, _], _, [_, _], _ => ⟨_, rfl, ⟨_, _, _, _, _, _, rfl, rfl, ⟨_, _, _, _, _, _, rfl, rfl, rfl⟩⟩⟩) (by decide)
  have kPlace_init_2_begin_end : KwM K fd_Place_init ["self", "line", "last", "begin", "end"] 2 ["begin", "end"] (fun ds es => pickP [.inl 0, .inl 1, .inr 0, .inr 1] (ds ++ [.non, .non]) es) := kwM F_Place_init 2 ["begin", "end"] [] [.inl 0, .inl 1, .inr 0, .inr 1] (.cons .non (.cons .non .nil)) (by decide) (by decide) (by simp) (fun _ _ _ _ _ _ _ us its mv ws h1 h2 h3 h4 => match us, h1, its, h2, mv, h3, ws, h4 with | [_, _, _], _, [_, _], _, [], _, [_, _], _ => ⟨_, rfl, rfl⟩)
  obtain ⟨fd, F⟩ := T.f_place_in
  refine ⟨fd, F, fn_okX F sc_place_in (by decide) len (fun cdv A outer s H E Γ xc hr tk => ?_) hp, F.bindsN fun _ _ _ _ _ _ us hl => match us, hl with | [_], _ => rfl⟩
  unfold t_place_in
  exact (dss_cons (ds_if (dt_cmp (op_eqD hr.units) o_eq (dh_var (pv 0)) (dh_e (de_c (pe_glob (v := .str "-") rfl c_NOWHERE ⟨_, rfl⟩) (fun _ => .str _))) (nomark _)) (dss_one (ds_ret (de_mkX0 (FnM.mk (FnOk.ofN G_Place_init) T.g_Place T.cl_Place.mak) (hr.mono (by decide)) tk bd_Place_init_0 vd_Place_init_0 (fun H => CDs.reps (.cons .non (.cons .non (.cons .non (.cons .non .nil)))) H)))) dss_nil)
      (dss_cons (ds_set (i := 1) sc_place_in.nd (de_fz (de_call (Fn.mk (G_numbers_in) T.g_numbers_in F_numbers_in.kp) (hr.mono (by decide)) b_numbers_in .nil (fun _ => .nil) (da_cons (dh_var (pv 0)) da_nil))))
      (dss_cons (ds_if (DW.dt (dw_or (dt_cmp op_isN o_isN (dh_var (pv 1)) (dh_e de_non) (nomark _)) (dw_or1 (dt_cmp op_isN o_isN (dh_e (de_ix ix_seq o_ix (dh_var (pv 1)) (dh_e de_int) (fun _ _ => rfl))) (dh_e de_non) (nomark _))))) (dss_one (ds_raise tk T.er_BadText GI_BadText (hr.mono (by decide)) bI_BadText T.g_BadText (de_var (pv 0)))) dss_nil)
      (dss_cons (ds_set (i := 2) sc_place_in.nd (de_fz de_non))
      (dss_cons (ds_tryR (C := "BadPlace") T.ex_BadPlace T.g_BadPlace tk (fun hd => L2H.passesAt_of rfl hd) (fun _ _ _ xc tk po => (dss_one (ds_set (i := 2) sc_place_in.nd (de_fz (de_mkKN (ks := ["begin", "end"]) (FnMN.mk G_Place_init T.g_Place T.cl_Place.mak) (hr.mono (by decide)) tk kPlace_init_2_begin_end (da_cons (dh_e (de_ix ix_seq o_ix (dh_var (pv 1)) (dh_e de_int) (fun _ _ => rfl))) (da_cons (dh_e (de_ix ix_seq o_ix (dh_var (pv 1)) (dh_e de_int) (fun _ _ => rfl))) da_nil)) (dk_cons (dh_e (de_ix ix_seq o_ix (dh_var (pv 1)) (dh_e de_int) (fun _ _ => rfl))) (dk_cons (dh_e (de_ix ix_seq o_ix (dh_var (pv 1)) (dh_e de_int) (fun _ _ => rfl))) dk_nil))))))) (fun _ _ tk hot => dss_one (ds_raiseNone hot tk T.er_BadText GH_BadText (L2H.roomH_mark (hr.mono (by decide)) _) bH_BadText T.g_BadText (de_var (pv 0)))))
      (dss_cons (ds_if (dt_cmp (op_neD hr.units) o_ne (dh_e (de_ct (call_strA (MtD.mk G_Place_str T.cl_Place.cls T.mt_Place___str__) (hr.mono (by decide)) b_Place_str) o_strA T.b_str (da_cons (dh_var (pv 2)) da_nil))) (dh_var (pv 0)) (nomark _)) (dss_one (ds_raise tk T.er_BadText GI_BadText (hr.mono (by decide)) bI_BadText T.g_BadText (de_var (pv 0)))) dss_nil)
      (dss_one (ds_retV (pv 2)))))))))
abbrev Ok_l_seen (P : Program) (w : World) (K : PySem.W.Frag) (mg : Str → Option Value) (base : Heap) (k : Nat) (sp : DSp) : Prop := ∃ fd, FunD K "_law_seen" "_law_seen" (defArgs s_l_seen) (defBody s_l_seen) (defScope s_l_seen) [] [] (He.ga K "_law_seen") fd ∧ FnOk P w K mg base CX0 k (He.ga K "_law_seen") fd ["_law_place"] (LSp K sp) ∧ Binds K fd ["_law_place"] []
theorem ok_l_seen (T : Ctx K mg) {sp : DSp} (len : ∀ as R RX, sp as R RX → as.length = 1) (hp : ∀ as R RX, sp as R RX → cntM as ≤ 1 → t_l_seen (defEnds as R) (startR 1 as)) : Ok_l_seen P w K mg base 1 sp := by
  obtain ⟨fd, F⟩ := T.f_l_seen
  refine ⟨fd, F, fn_ok0 F sc_l_seen (by decide) len (fun cdv A outer s H E Γ hr => ?_) hp, F.bindsN fun _ _ _ _ _ _ us hl => match us, hl with | [_], _ => rfl⟩
  unfold t_l_seen
  exact (dss_one (ds_ret (de_if (dt_tru (dh_e (de_cb call_isi (o_iso T.cl_Place) T.b_isinstance (da_cons (dh_var (pv 0)) (da_cons (dh_e (de_c (pe_glob (v := .ref (He.ga K "Place")) rfl T.g_Place rfl) (fun _ => .cls _))) da_nil))))) (de_tup (da_cons (dh_e (de_fld T.cl_Place.cls T.na_Place_line (dh_var (pv 0)))) (da_cons (dh_e (de_fld T.cl_Place.cls T.na_Place_last (dh_var (pv 0)))) (da_cons (dh_e (de_fld T.cl_Place.cls T.na_Place_begin (dh_var (pv 0)))) (da_cons (dh_e (de_fld T.cl_Place.cls T.na_Place_end (dh_var (pv 0)))) da_nil))))) (de_lst (da_cons (dh_e (de_var (pv 0))) da_nil)))))
abbrev Ok_l_alone (P : Program) (w : World) (K : PySem.W.Frag) (mg : Str → Option Value) (base : Heap) (k : Nat) (sp : DSp) : Prop := ∃ fd, FunD K "_law_alone" "_law_alone" (defArgs s_l_alone) (defBody s_l_alone) (defScope s_l_alone) [] [] (He.ga K "_law_alone") fd ∧ FnOk P w K mg base CX0 k (He.ga K "_law_alone") fd ["_law_error", "_law_own"] (LSp K sp) ∧ Binds K fd ["_law_error", "_law_own"] []
theorem ok_l_alone (T : Ctx K mg) {sp : DSp} (len : ∀ as R RX, sp as R RX → as.length = 2) (hp : ∀ as R RX, sp as R RX → cntM as ≤ 1 → t_l_alone (defEnds as R) (startR 3 as)) : Ok_l_alone P w K mg base 1 sp := by
  obtain ⟨fd, F⟩ := T.f_l_alone
  refine ⟨fd, F, fn_ok0 F sc_l_alone (by decide) len (fun cdv A outer s H E Γ hr => ?_) hp, F.bindsN fun _ _ _ _ _ _ us hl => match us, hl with | [_, _], _ => rfl⟩
  unfold t_l_alone
  exact (dss_cons (ds_set (i := 2) sc_l_alone.nd (de_lst (da_cons (dh_e (de_isx (C := "BadText") (f := "text") (b := false) (cv := .ref (He.ga K "BadPlace")) (u := .ref (He.ga K "BadPlace")) T.er_BadText T.b_isinstance (dh_var (pv 0)) (pe_glob (v := .ref (He.ga K "BadPlace")) rfl T.g_BadPlace rfl) (fun _ _ _ z => z) (.own _) T.kt3)) (da_cons (dh_e (de_isx (C := "BadText") (f := "text") (b := true) (cv := .ref (He.ga K "BadText")) (u := .ref (He.ga K "BadText")) T.er_BadText T.b_isinstance (dh_var (pv 0)) (pe_glob (v := .ref (He.ga K "BadText")) rfl T.g_BadText rfl) (fun _ _ _ z => z) (.own _) T.kt2)) (da_cons (dh_e (de_isx (C := "BadText") (f := "text") (b := false) (cv := .ref (He.ga K "BadRow")) (u := .ref (He.ga K "BadRow")) T.er_BadText T.b_isinstance (dh_var (pv 0)) (pe_glob (v := .ref (He.ga K "BadRow")) rfl T.g_BadRow rfl) (fun _ _ _ z => z) (.own _) T.kt1)) (da_cons (dh_e (de_isx (C := "BadText") (f := "text") (b := false) (cv := .ref (He.ga K "Torn")) (u := .ref (He.ga K "Torn")) T.er_BadText T.b_isinstance (dh_var (pv 0)) (pe_glob (v := .ref (He.ga K "Torn")) rfl T.g_Torn rfl) (fun _ _ _ z => z) (.own _) T.kt0)) da_nil))))))
      (dss_cons (ds_set (i := 2) sc_l_alone.nd (de_op or_add o_add (dh_var (pv 2)) (dh_e (de_lst (da_cons (dh_e (de_isx (C := "BadText") (f := "text") (b := false) (cv := .ref (He.ga K "Broken")) (u := .ref (He.ga K "Broken")) T.er_BadText T.b_isinstance (dh_var (pv 0)) (pe_glob (v := .ref (He.ga K "Broken")) rfl T.g_Broken rfl) (fun _ _ _ z => z) (.own _) T.kt6)) (da_cons (dh_e (de_isx (C := "BadText") (f := "text") (b := false) (cv := .ref (He.ga K "BadEntry")) (u := .ref (He.ga K "BadEntry")) T.er_BadText T.b_isinstance (dh_var (pv 0)) (pe_glob (v := .ref (He.ga K "BadEntry")) rfl T.g_BadEntry rfl) (fun _ _ _ z => z) (.own _) T.kt5)) (da_cons (dh_e (de_isx (C := "BadText") (f := "text") (b := false) (cv := .ref (He.ga K "BadTurn")) (u := .ref (He.ga K "BadTurn")) T.er_BadText T.b_isinstance (dh_var (pv 0)) (pe_glob (v := .ref (He.ga K "BadTurn")) rfl T.g_BadTurn rfl) (fun _ _ _ z => z) (.own _) T.kt4)) da_nil)))))))
      (dss_cons (ds_set (i := 2) sc_l_alone.nd (de_op or_add o_add (dh_var (pv 2)) (dh_e (de_lst (da_cons (dh_e (de_isx (C := "BadText") (f := "text") (b := false) (cv := .ref (He.ga K "NoCard")) (u := .ref (He.ga K "NoCard")) T.er_BadText T.b_isinstance (dh_var (pv 0)) (pe_glob (v := .ref (He.ga K "NoCard")) rfl T.g_NoCard rfl) (fun _ _ _ z => z) (.own _) T.kt9)) (da_cons (dh_e (de_isx (C := "BadText") (f := "text") (b := false) (cv := .ref (He.ga K "NoDeed")) (u := .ref (He.ga K "NoDeed")) T.er_BadText T.b_isinstance (dh_var (pv 0)) (pe_glob (v := .ref (He.ga K "NoDeed")) rfl T.g_NoDeed rfl) (fun _ _ _ z => z) (.own _) T.kt8)) (da_cons (dh_e (de_isx (C := "BadText") (f := "text") (b := false) (cv := .ref (He.ga K "NoRoom")) (u := .ref (He.ga K "NoRoom")) T.er_BadText T.b_isinstance (dh_var (pv 0)) (pe_glob (v := .ref (He.ga K "NoRoom")) rfl T.g_NoRoom rfl) (fun _ _ _ z => z) (.own _) T.kt7)) da_nil)))))))
      (dss_one (ds_ret (de_and (de_cmp (op_eqD hr.units) o_eq (dh_e (de_me PySem.F.slot_list_count PySem.F.type_list_count mt_cntF m_count (pv 2) (da_cons (dh_e de_bl) da_nil))) (dh_e de_int) (nomark _)) (de_and (de_cmp (op_eqD hr.units) o_eq (dh_e (de_me PySem.F.slot_list_index PySem.F.type_list_index mt_index m_index (pv 2) (da_cons (dh_e de_bl) da_nil))) (dh_var (pv 1)) (nomark _)) (de_one (de_cmp (op_eqD hr.units) o_eq (dh_e (de_isx (C := "BadText") (f := "text") (b := true) (cv := .ty "ValueError") (u := .type "ValueError") T.er_BadText T.b_isinstance (dh_var (pv 0)) (pe_bltn (v := .ty "ValueError") (u := .type "ValueError") rfl T.b_ValueError (by decide +kernel) rfl) (fun _ _ _ z => z) (.ty _) T.kt10)) (dh_e (de_cmp op_lt o_cmp (dh_var (pv 1)) (dh_e de_int) (nomark _))) (nomark _))))))))))
abbrev Ok_l_told (P : Program) (w : World) (K : PySem.W.Frag) (mg : Str → Option Value) (base : Heap) (k : Nat) (sp : DSp) : Prop := ∃ fd, FunD K "_law_told" "_law_told" (defArgs s_l_told) (defBody s_l_told) (defScope s_l_told) [] [] (He.ga K "_law_told") fd ∧ FnOk P w K mg base CX0 k (He.ga K "_law_told") fd ["_law_box_here", "_law_words"] (LSp K sp) ∧ Binds K fd ["_law_box_here", "_law_words"] []
theorem ok_l_told (T : Ctx K mg) (h_Place_str : Ok_Place_str P w K mg base 1 sp_Place_str) (h_l_alone : Ok_l_alone P w K mg base 1 sp_l_alone) (h_l_same : Ok_l_same P w K mg base 4 sp_l_same) (h_l_seen : Ok_l_seen P w K mg base 1 sp_l_seen) (h_l_take : Ok_l_take P w K mg base 1 sp_l_take) (h_place_in : Ok_place_in P w K mg base 7 sp_place_in) {sp : DSp} (len : ∀ as R RX, sp as R RX → as.length = 2) (hp : ∀ as R RX, sp as R RX → cntM as ≤ 1 → t_l_told (defEnds as R) (startR 5 as)) : Ok_l_told P w K mg base 8 sp := by
  obtain ⟨fd_Place_str, F_Place_str, G_Place_str, b_Place_str⟩ := h_Place_str
  obtain ⟨fd_l_alone, F_l_alone, G_l_alone, b_l_alone⟩ := h_l_alone
  obtain ⟨fd_l_same, F_l_same, G_l_same, b_l_same⟩ := h_l_same
  obtain ⟨fd_l_seen, F_l_seen, G_l_seen, b_l_seen⟩ := h_l_seen
  obtain ⟨fd_l_take, F_l_take, G_l_take, b_l_take⟩ := h_l_take
  obtain ⟨fd_place_in, F_place_in, G_place_in, b_place_in⟩ := h_place_in
  have kplace_in_0_text : KwB K fd_place_in ["text"] 0 ["text"] (fun ds es => pickP [.inr 0] ds es) := kwDN F_place_in 0 ["text"] [.inr 0] (fun _ _ _ _ _ _ us ws h1 h2 => match us, h1, ws, h2 with | [], _, [_], _ => rfl)
  obtain ⟨fd, F⟩ := T.f_l_told
  refine ⟨fd, F, fn_ok0 F sc_l_told (by decide) len (fun cdv A outer s H E Γ hr => ?_) hp, F.bindsN fun _ _ _ _ _ _ us hl => match us, hl with | [_, _], _ => rfl⟩
  unfold t_l_told
  exact (dss_cons (ds_asg (de_tup (da_cons (dh_e de_non) (da_cons (dh_e de_non) da_nil))) (dg_u (js := [2, 3]) rfl (dgs_cons (dgd_name (i := 2) sc_l_told.nd) (dgs_cons (dgd_name (i := 3) sc_l_told.nd) dgs_nil)) (len_name (len_name len_nil))))
      (dss_cons (ds_try (i := 4) (j := 2) (C := "BadText") (f := "text") sc_l_told.nd T.ex_BadText T.g_BadText (fun _ _ _ xc tk po => (dss_one (ds_set (i := 3) sc_l_told.nd (de_fz (de_if (dt_cmp (op_eqD hr.units) o_eq (dh_e (de_callN (Fn.mk (G_l_take) T.g_l_take F_l_take.kp) (hr.mono (by decide)) b_l_take .nil (fun _ => .nil) (da_cons (dh_var (pv 0)) (da_cons (dh_e de_int) da_nil)))) (dh_e de_int) (nomark _)) (de_callX (FnX.mk (G_place_in) T.g_place_in F_place_in.kp) (hr.mono (by decide)) tk b_place_in .nil (fun _ => .nil) (da_cons (dh_var (pv 1)) da_nil)) (de_callKX0 (ks := ["text"]) (FnX.mk (G_place_in) T.g_place_in F_place_in.kp) (hr.mono (by decide)) tk kplace_in_0_text (dk_cons (dh_var (pv 1)) dk_nil))))))) (fun _ _ => pv 4) (by decide))
      (dss_cons (ds_if (dt_cmp op_isN o_isN (dh_var (pv 2)) (dh_e de_non) (nomark _)) (dss_one (ds_ret (de_fz (de_op or_add o_add (dh_e (de_call (Fn.mk (G_l_seen) T.g_l_seen F_l_seen.kp) (hr.mono (by decide)) b_l_seen .nil (fun _ => .nil) (da_cons (dh_var (pv 3)) da_nil))) (dh_e (de_tup (da_cons (dh_e (de_ct (call_strA (MtD.mk G_Place_str T.cl_Place.cls T.mt_Place___str__) (hr.mono (by decide)) b_Place_str) o_strA T.b_str (da_cons (dh_var (pv 3)) da_nil))) da_nil))))))) dss_nil)
      (dss_one (ds_ret (de_fz (de_if (DW.dt (dw_and (dt_tru (dh_e (de_call (Fn.mk (G_l_alone) T.g_l_alone F_l_alone.kp) (hr.mono (by decide)) b_l_alone .nil (fun _ => .nil) (da_cons (dh_var (pv 2)) (da_cons (dh_e de_int) da_nil))))) (dw_and1 (dt_tru (dh_e (de_call (Fn.mk (G_l_same) T.g_l_same F_l_same.kp) (hr.mono (by decide)) b_l_same .nil (fun _ => .nil) (da_cons (dh_e (de_xf T.er_BadText (dh_var (pv 2)))) (da_cons (dh_var (pv 1)) da_nil)))))))) de_str de_str)))))))
abbrev Ok_law (P : Program) (w : World) (K : PySem.W.Frag) (mg : Str → Option Value) (base : Heap) (k : Nat) (sp : DSp) : Prop := ∃ fd, FunD K "law" "law" (defArgs s_law) (defBody s_law) (defScope s_law) [] [] (He.ga K "law") fd ∧ FnOk P w K mg base CX0 k (He.ga K "law") fd ["_law_script"] (LSp K sp) ∧ Binds K fd ["_law_script"] []
theorem ok_law (T : Ctx K mg) (h_l_bent : Ok_l_bent P w K mg base 2 sp_l_bent) (h_l_box : Ok_l_box P w K mg base 2 sp_l_box) (h_l_read : Ok_l_read P w K mg base 2 sp_l_read) (h_l_same : Ok_l_same P w K mg base 4 sp_l_same) (h_l_spot : Ok_l_spot P w K mg base 2 sp_l_spot) (h_l_take : Ok_l_take P w K mg base 1 sp_l_take) (h_l_text : Ok_l_text P w K mg base 1 sp_l_text) (h_l_told : Ok_l_told P w K mg base 8 sp_l_told) {sp : DSp} (len : ∀ as R RX, sp as R RX → as.length = 1) (hp : ∀ as R RX, sp as R RX → cntM as ≤ 1 → t_law (defEnds as R) (startR 7 as)) : Ok_law P w K mg base 9 sp := by
  obtain ⟨fd_l_bent, F_l_bent, G_l_bent, b_l_bent⟩ := h_l_bent
  obtain ⟨fd_l_box, F_l_box, G_l_box, b_l_box⟩ := h_l_box
  obtain ⟨fd_l_read, F_l_read, G_l_read, b_l_read⟩ := h_l_read
  obtain ⟨fd_l_same, F_l_same, G_l_same, b_l_same⟩ := h_l_same
  obtain ⟨fd_l_spot, F_l_spot, G_l_spot, b_l_spot⟩ := h_l_spot
  obtain ⟨fd_l_take, F_l_take, G_l_take, b_l_take⟩ := h_l_take
  obtain ⟨fd_l_text, F_l_text, G_l_text, b_l_text⟩ := h_l_text
  obtain ⟨fd_l_told, F_l_told, G_l_told, b_l_told⟩ := h_l_told
  obtain ⟨fd, F⟩ := T.f_law
  refine ⟨fd, F, fn_ok0 F sc_law (by decide) len (fun cdv A outer s H E Γ hr => ?_) hp, F.bindsN fun _ _ _ _ _ _ us hl => match us, hl with | [_], _ => rfl⟩
  unfold t_law
  exact (dss_cons (ds_forW (js := [1]) PassesOwn.never rfl (di_rng1 T.b_range (da_cons (dh_e (de_op or_add o_add (dh_e de_int) (dh_e (de_cb (call_min2 rfl) o_min2 T.b_min (da_cons (dh_e de_int) (da_cons (dh_e (de_cb call_len o_len T.b_len (da_cons (dh_var (pv 0)) da_nil))) da_nil)))))) da_nil)) (dgd_name (i := 1) sc_law.nd) (dss_cons (ds_set (i := 2) sc_law.nd (de_call (Fn.mk (G_l_box) T.g_l_box F_l_box.kp) (hr.mono (by decide)) b_l_box .nil (fun _ => .nil) (da_cons (dh_var (pv 0)) (da_cons (dh_var (pv 1)) da_nil))))
      (dss_one (ds_forW (js := [3]) PassesOwn.never rfl (di_rng1 T.b_range (da_cons (dh_e de_int) da_nil)) (dgd_name (i := 3) sc_law.nd) (dss_cons (ds_set (i := 4) sc_law.nd (de_fz (de_call (Fn.mk (G_l_text) T.g_l_text F_l_text.kp) (hr.mono (by decide)) b_l_text .nil (fun _ => .nil) (da_cons (dh_e (de_callN (Fn.mk (G_l_spot) T.g_l_spot F_l_spot.kp) (hr.mono (by decide)) b_l_spot .nil (fun _ => .nil) (da_cons (dh_var (pv 2)) (da_cons (dh_e (de_ix ix_seq o_ix (dh_e (de_lst (da_cons (dh_e de_int) (da_cons (dh_e de_int) (da_cons (dh_e (de_op op_pow o_pow (dh_e de_int) (dh_e de_int))) da_nil))))) (dh_e (de_callN (Fn.mk (G_l_take) T.g_l_take F_l_take.kp) (hr.mono (by decide)) b_l_take .nil (fun _ => .nil) (da_cons (dh_var (pv 2)) (da_cons (dh_e de_int) da_nil)))) (fun _ _ => rfl))) da_nil)))) da_nil))))
      (dss_cons (ds_forW (js := [5]) PassesOwn.never rfl (di_rng1 T.b_range (da_cons (dh_e (de_op or_mul o_mul (dh_e (de_callN (Fn.mk (G_l_take) T.g_l_take F_l_take.kp) (hr.mono (by decide)) b_l_take .nil (fun _ => .nil) (da_cons (dh_var (pv 2)) (da_cons (dh_e de_int) da_nil)))) (dh_e (de_ct call_int1 o_int1 T.b_int (da_cons (dh_e (de_cmp op_gt o_cmp (dh_var (pv 3)) (dh_e de_int) (nomark _))) da_nil))))) da_nil)) (dgd_name (i := 5) sc_law.nd) (dss_one (ds_set (i := 4) sc_law.nd (de_fz (de_callN (Fn.mk (G_l_bent) T.g_l_bent F_l_bent.kp) (hr.mono (by decide)) b_l_bent .nil (fun _ => .nil) (da_cons (dh_var (pv 2)) (da_cons (dh_var (pv 4)) da_nil)))))))
      (dss_cons (ds_set (i := 6) sc_law.nd (de_fz (de_call (Fn.mk (G_l_read) T.g_l_read F_l_read.kp) (hr.mono (by decide)) b_l_read .nil (fun _ => .nil) (da_cons (dh_var (pv 4)) da_nil))))
      (dss_one (ds_if (dt_not (dt_tru (dh_e (de_call (Fn.mk (G_l_same) T.g_l_same F_l_same.kp) (hr.mono (by decide)) b_l_same .nil (fun _ => .nil) (da_cons (dh_e (de_callN (Fn.mk (G_l_told) T.g_l_told F_l_told.kp) (hr.mono (by decide)) b_l_told .nil (fun _ => .nil) (da_cons (dh_var (pv 2)) (da_cons (dh_var (pv 4)) da_nil)))) (da_cons (dh_e (de_if (dt_cmp op_isN o_isN (dh_var (pv 6)) (dh_e de_non) (nomark _)) de_str (de_op or_add o_add (dh_var (pv 6)) (dh_e (de_tup (da_cons (dh_e (de_var (pv 4))) da_nil)))))) da_nil)))))) (dss_one (ds_ret de_bl)) dss_nil)))))))))
      (dss_one (ds_ret de_bl)))
end
end K05

/-! all of it: printed by gen.py -/
namespace K05
open PySem L2 DL
variable {P : Program} {w : World} {K : PySem.W.Frag} {mg : Str → Option Value} {base : Heap}
abbrev lawLev : Nat := 9
theorem ok0_l_same (T : Ctx K mg) : Ok_l_same P w K mg base 0 (spR_l_same 0) := by
  obtain ⟨fd, F⟩ := T.f_l_same
  exact ⟨fd, F, ⟨fun vs H Q E h => (nomatch h.choose_spec.choose_spec.choose_spec.choose_spec.2.2.2.1), fun A outer s H args us vs Q E _ _ _ _ h => (nomatch h.choose_spec.choose_spec.choose_spec.choose_spec.2.2.2.1)⟩, F.bindsN fun _ _ _ _ _ _ us hl => match us, hl with | [_, _], _ => rfl⟩
theorem all_ok (T : Ctx K mg) : Ok_law P w K mg base lawLev sp_law := by
  have h_l_cell_at := ok_l_cell_at (P := P) (w := w) (base := base) T  (sp := sp_l_cell_at) (by intro as R RX h; first | exact False.elim h | (cases h with | inl h => (first | (obtain ⟨rfl, _⟩ := h; rfl) | (obtain ⟨_, rfl, _⟩ := h; rfl) | (obtain ⟨_, _, rfl, _⟩ := h; rfl) | (obtain ⟨_, _, _, rfl, _⟩ := h; rfl) | (obtain ⟨_, _, _, _, rfl, _⟩ := h; rfl) | (obtain ⟨_, _, _, _, _, rfl, _⟩ := h; rfl) | (obtain ⟨_, _, _, _, _, _, rfl, _⟩ := h; rfl) | (obtain ⟨_, _, _, _, _, _, _, rfl, _⟩ := h; rfl) | (obtain ⟨_, _, _, _, _, _, _, _, rfl, _⟩ := h; rfl)) | inr h => (first | (obtain ⟨rfl, _⟩ := h; rfl) | (obtain ⟨_, rfl, _⟩ := h; rfl) | (obtain ⟨_, _, rfl, _⟩ := h; rfl) | (obtain ⟨_, _, _, rfl, _⟩ := h; rfl) | (obtain ⟨_, _, _, _, rfl, _⟩ := h; rfl) | (obtain ⟨_, _, _, _, _, rfl, _⟩ := h; rfl) | (obtain ⟨_, _, _, _, _, _, rfl, _⟩ := h; rfl) | (obtain ⟨_, _, _, _, _, _, _, rfl, _⟩ := h; rfl) | (obtain ⟨_, _, _, _, _, _, _, _, rfl, _⟩ := h; rfl))) | (obtain ⟨rfl, _⟩ := h; rfl) | (obtain ⟨_, rfl, _⟩ := h; rfl) | (obtain ⟨_, _, rfl, _⟩ := h; rfl) | (obtain ⟨_, _, _, rfl, _⟩ := h; rfl) | (obtain ⟨_, _, _, _, rfl, _⟩ := h; rfl) | (obtain ⟨_, _, _, _, _, rfl, _⟩ := h; rfl) | (obtain ⟨_, _, _, _, _, _, rfl, _⟩ := h; rfl) | (obtain ⟨_, _, _, _, _, _, _, rfl, _⟩ := h; rfl) | (obtain ⟨_, _, _, _, _, _, _, _, rfl, _⟩ := h; rfl)) p_l_cell_at
  have h_l_box := ok_l_box (P := P) (w := w) (base := base) T h_l_cell_at (sp := sp_l_box) (by intro as R RX h; first | exact False.elim h | (cases h with | inl h => (first | (obtain ⟨rfl, _⟩ := h; rfl) | (obtain ⟨_, rfl, _⟩ := h; rfl) | (obtain ⟨_, _, rfl, _⟩ := h; rfl) | (obtain ⟨_, _, _, rfl, _⟩ := h; rfl) | (obtain ⟨_, _, _, _, rfl, _⟩ := h; rfl) | (obtain ⟨_, _, _, _, _, rfl, _⟩ := h; rfl) | (obtain ⟨_, _, _, _, _, _, rfl, _⟩ := h; rfl) | (obtain ⟨_, _, _, _, _, _, _, rfl, _⟩ := h; rfl) | (obtain ⟨_, _, _, _, _, _, _, _, rfl, _⟩ := h; rfl)) | inr h => (first | (obtain ⟨rfl, _⟩ := h; rfl) | (obtain ⟨_, rfl, _⟩ := h; rfl) | (obtain ⟨_, _, rfl, _⟩ := h; rfl) | (obtain ⟨_, _, _, rfl, _⟩ := h; rfl) | (obtain ⟨_, _, _, _, rfl, _⟩ := h; rfl) | (obtain ⟨_, _, _, _, _, rfl, _⟩ := h; rfl) | (obtain ⟨_, _, _, _, _, _, rfl, _⟩ := h; rfl) | (obtain ⟨_, _, _, _, _, _, _, rfl, _⟩ := h; rfl) | (obtain ⟨_, _, _, _, _, _, _, _, rfl, _⟩ := h; rfl))) | (obtain ⟨rfl, _⟩ := h; rfl) | (obtain ⟨_, rfl, _⟩ := h; rfl) | (obtain ⟨_, _, rfl, _⟩ := h; rfl) | (obtain ⟨_, _, _, rfl, _⟩ := h; rfl) | (obtain ⟨_, _, _, _, rfl, _⟩ := h; rfl) | (obtain ⟨_, _, _, _, _, rfl, _⟩ := h; rfl) | (obtain ⟨_, _, _, _, _, _, rfl, _⟩ := h; rfl) | (obtain ⟨_, _, _, _, _, _, _, rfl, _⟩ := h; rfl) | (obtain ⟨_, _, _, _, _, _, _, _, rfl, _⟩ := h; rfl)) p_l_box
  have h_l_text := ok_l_text (P := P) (w := w) (base := base) T  (sp := sp_l_text) (by intro as R RX h; first | exact False.elim h | (cases h with | inl h => (first | (obtain ⟨rfl, _⟩ := h; rfl) | (obtain ⟨_, rfl, _⟩ := h; rfl) | (obtain ⟨_, _, rfl, _⟩ := h; rfl) | (obtain ⟨_, _, _, rfl, _⟩ := h; rfl) | (obtain ⟨_, _, _, _, rfl, _⟩ := h; rfl) | (obtain ⟨_, _, _, _, _, rfl, _⟩ := h; rfl) | (obtain ⟨_, _, _, _, _, _, rfl, _⟩ := h; rfl) | (obtain ⟨_, _, _, _, _, _, _, rfl, _⟩ := h; rfl) | (obtain ⟨_, _, _, _, _, _, _, _, rfl, _⟩ := h; rfl)) | inr h => (first | (obtain ⟨rfl, _⟩ := h; rfl) | (obtain ⟨_, rfl, _⟩ := h; rfl) | (obtain ⟨_, _, rfl, _⟩ := h; rfl) | (obtain ⟨_, _, _, rfl, _⟩ := h; rfl) | (obtain ⟨_, _, _, _, rfl, _⟩ := h; rfl) | (obtain ⟨_, _, _, _, _, rfl, _⟩ := h; rfl) | (obtain ⟨_, _, _, _, _, _, rfl, _⟩ := h; rfl) | (obtain ⟨_, _, _, _, _, _, _, rfl, _⟩ := h; rfl) | (obtain ⟨_, _, _, _, _, _, _, _, rfl, _⟩ := h; rfl))) | (obtain ⟨rfl, _⟩ := h; rfl) | (obtain ⟨_, rfl, _⟩ := h; rfl) | (obtain ⟨_, _, rfl, _⟩ := h; rfl) | (obtain ⟨_, _, _, rfl, _⟩ := h; rfl) | (obtain ⟨_, _, _, _, rfl, _⟩ := h; rfl) | (obtain ⟨_, _, _, _, _, rfl, _⟩ := h; rfl) | (obtain ⟨_, _, _, _, _, _, rfl, _⟩ := h; rfl) | (obtain ⟨_, _, _, _, _, _, _, rfl, _⟩ := h; rfl) | (obtain ⟨_, _, _, _, _, _, _, _, rfl, _⟩ := h; rfl)) p_l_text
  have h_l_number := ok_l_number (P := P) (w := w) (base := base) T  (sp := sp_l_number) (by intro as R RX h; first | exact False.elim h | (cases h with | inl h => (first | (obtain ⟨rfl, _⟩ := h; rfl) | (obtain ⟨_, rfl, _⟩ := h; rfl) | (obtain ⟨_, _, rfl, _⟩ := h; rfl) | (obtain ⟨_, _, _, rfl, _⟩ := h; rfl) | (obtain ⟨_, _, _, _, rfl, _⟩ := h; rfl) | (obtain ⟨_, _, _, _, _, rfl, _⟩ := h; rfl) | (obtain ⟨_, _, _, _, _, _, rfl, _⟩ := h; rfl) | (obtain ⟨_, _, _, _, _, _, _, rfl, _⟩ := h; rfl) | (obtain ⟨_, _, _, _, _, _, _, _, rfl, _⟩ := h; rfl)) | inr h => (first | (obtain ⟨rfl, _⟩ := h; rfl) | (obtain ⟨_, rfl, _⟩ := h; rfl) | (obtain ⟨_, _, rfl, _⟩ := h; rfl) | (obtain ⟨_, _, _, rfl, _⟩ := h; rfl) | (obtain ⟨_, _, _, _, rfl, _⟩ := h; rfl) | (obtain ⟨_, _, _, _, _, rfl, _⟩ := h; rfl) | (obtain ⟨_, _, _, _, _, _, rfl, _⟩ := h; rfl) | (obtain ⟨_, _, _, _, _, _, _, rfl, _⟩ := h; rfl) | (obtain ⟨_, _, _, _, _, _, _, _, rfl, _⟩ := h; rfl))) | (obtain ⟨rfl, _⟩ := h; rfl) | (obtain ⟨_, rfl, _⟩ := h; rfl) | (obtain ⟨_, _, rfl, _⟩ := h; rfl) | (obtain ⟨_, _, _, rfl, _⟩ := h; rfl) | (obtain ⟨_, _, _, _, rfl, _⟩ := h; rfl) | (obtain ⟨_, _, _, _, _, rfl, _⟩ := h; rfl) | (obtain ⟨_, _, _, _, _, _, rfl, _⟩ := h; rfl) | (obtain ⟨_, _, _, _, _, _, _, rfl, _⟩ := h; rfl) | (obtain ⟨_, _, _, _, _, _, _, _, rfl, _⟩ := h; rfl)) p_l_number
  have h_l_within := ok_l_within (P := P) (w := w) (base := base) T  (sp := sp_l_within) (by intro as R RX h; first | exact False.elim h | (cases h with | inl h => (first | (obtain ⟨rfl, _⟩ := h; rfl) | (obtain ⟨_, rfl, _⟩ := h; rfl) | (obtain ⟨_, _, rfl, _⟩ := h; rfl) | (obtain ⟨_, _, _, rfl, _⟩ := h; rfl) | (obtain ⟨_, _, _, _, rfl, _⟩ := h; rfl) | (obtain ⟨_, _, _, _, _, rfl, _⟩ := h; rfl) | (obtain ⟨_, _, _, _, _, _, rfl, _⟩ := h; rfl) | (obtain ⟨_, _, _, _, _, _, _, rfl, _⟩ := h; rfl) | (obtain ⟨_, _, _, _, _, _, _, _, rfl, _⟩ := h; rfl)) | inr h => (first | (obtain ⟨rfl, _⟩ := h; rfl) | (obtain ⟨_, rfl, _⟩ := h; rfl) | (obtain ⟨_, _, rfl, _⟩ := h; rfl) | (obtain ⟨_, _, _, rfl, _⟩ := h; rfl) | (obtain ⟨_, _, _, _, rfl, _⟩ := h; rfl) | (obtain ⟨_, _, _, _, _, rfl, _⟩ := h; rfl) | (obtain ⟨_, _, _, _, _, _, rfl, _⟩ := h; rfl) | (obtain ⟨_, _, _, _, _, _, _, rfl, _⟩ := h; rfl) | (obtain ⟨_, _, _, _, _, _, _, _, rfl, _⟩ := h; rfl))) | (obtain ⟨rfl, _⟩ := h; rfl) | (obtain ⟨_, rfl, _⟩ := h; rfl) | (obtain ⟨_, _, rfl, _⟩ := h; rfl) | (obtain ⟨_, _, _, rfl, _⟩ := h; rfl) | (obtain ⟨_, _, _, _, rfl, _⟩ := h; rfl) | (obtain ⟨_, _, _, _, _, rfl, _⟩ := h; rfl) | (obtain ⟨_, _, _, _, _, _, rfl, _⟩ := h; rfl) | (obtain ⟨_, _, _, _, _, _, _, rfl, _⟩ := h; rfl) | (obtain ⟨_, _, _, _, _, _, _, _, rfl, _⟩ := h; rfl)) p_l_within
  have h_l_read := ok_l_read (P := P) (w := w) (base := base) T h_l_number h_l_within (sp := sp_l_read) (by intro as R RX h; first | exact False.elim h | (cases h with | inl h => (first | (obtain ⟨rfl, _⟩ := h; rfl) | (obtain ⟨_, rfl, _⟩ := h; rfl) | (obtain ⟨_, _, rfl, _⟩ := h; rfl) | (obtain ⟨_, _, _, rfl, _⟩ := h; rfl) | (obtain ⟨_, _, _, _, rfl, _⟩ := h; rfl) | (obtain ⟨_, _, _, _, _, rfl, _⟩ := h; rfl) | (obtain ⟨_, _, _, _, _, _, rfl, _⟩ := h; rfl) | (obtain ⟨_, _, _, _, _, _, _, rfl, _⟩ := h; rfl) | (obtain ⟨_, _, _, _, _, _, _, _, rfl, _⟩ := h; rfl)) | inr h => (first | (obtain ⟨rfl, _⟩ := h; rfl) | (obtain ⟨_, rfl, _⟩ := h; rfl) | (obtain ⟨_, _, rfl, _⟩ := h; rfl) | (obtain ⟨_, _, _, rfl, _⟩ := h; rfl) | (obtain ⟨_, _, _, _, rfl, _⟩ := h; rfl) | (obtain ⟨_, _, _, _, _, rfl, _⟩ := h; rfl) | (obtain ⟨_, _, _, _, _, _, rfl, _⟩ := h; rfl) | (obtain ⟨_, _, _, _, _, _, _, rfl, _⟩ := h; rfl) | (obtain ⟨_, _, _, _, _, _, _, _, rfl, _⟩ := h; rfl))) | (obtain ⟨rfl, _⟩ := h; rfl) | (obtain ⟨_, rfl, _⟩ := h; rfl) | (obtain ⟨_, _, rfl, _⟩ := h; rfl) | (obtain ⟨_, _, _, rfl, _⟩ := h; rfl) | (obtain ⟨_, _, _, _, rfl, _⟩ := h; rfl) | (obtain ⟨_, _, _, _, _, rfl, _⟩ := h; rfl) | (obtain ⟨_, _, _, _, _, _, rfl, _⟩ := h; rfl) | (obtain ⟨_, _, _, _, _, _, _, rfl, _⟩ := h; rfl) | (obtain ⟨_, _, _, _, _, _, _, _, rfl, _⟩ := h; rfl)) p_l_read
  have h_l_take := ok_l_take (P := P) (w := w) (base := base) T  (sp := sp_l_take) (by intro as R RX h; first | exact False.elim h | (cases h with | inl h => (first | (obtain ⟨rfl, _⟩ := h; rfl) | (obtain ⟨_, rfl, _⟩ := h; rfl) | (obtain ⟨_, _, rfl, _⟩ := h; rfl) | (obtain ⟨_, _, _, rfl, _⟩ := h; rfl) | (obtain ⟨_, _, _, _, rfl, _⟩ := h; rfl) | (obtain ⟨_, _, _, _, _, rfl, _⟩ := h; rfl) | (obtain ⟨_, _, _, _, _, _, rfl, _⟩ := h; rfl) | (obtain ⟨_, _, _, _, _, _, _, rfl, _⟩ := h; rfl) | (obtain ⟨_, _, _, _, _, _, _, _, rfl, _⟩ := h; rfl)) | inr h => (first | (obtain ⟨rfl, _⟩ := h; rfl) | (obtain ⟨_, rfl, _⟩ := h; rfl) | (obtain ⟨_, _, rfl, _⟩ := h; rfl) | (obtain ⟨_, _, _, rfl, _⟩ := h; rfl) | (obtain ⟨_, _, _, _, rfl, _⟩ := h; rfl) | (obtain ⟨_, _, _, _, _, rfl, _⟩ := h; rfl) | (obtain ⟨_, _, _, _, _, _, rfl, _⟩ := h; rfl) | (obtain ⟨_, _, _, _, _, _, _, rfl, _⟩ := h; rfl) | (obtain ⟨_, _, _, _, _, _, _, _, rfl, _⟩ := h; rfl))) | (obtain ⟨rfl, _⟩ := h; rfl) | (obtain ⟨_, rfl, _⟩ := h; rfl) | (obtain ⟨_, _, rfl, _⟩ := h; rfl) | (obtain ⟨_, _, _, rfl, _⟩ := h; rfl) | (obtain ⟨_, _, _, _, rfl, _⟩ := h; rfl) | (obtain ⟨_, _, _, _, _, rfl, _⟩ := h; rfl) | (obtain ⟨_, _, _, _, _, _, rfl, _⟩ := h; rfl) | (obtain ⟨_, _, _, _, _, _, _, rfl, _⟩ := h; rfl) | (obtain ⟨_, _, _, _, _, _, _, _, rfl, _⟩ := h; rfl)) p_l_take
  have h_l_spot := ok_l_spot (P := P) (w := w) (base := base) T h_l_take (sp := sp_l_spot) (by intro as R RX h; first | exact False.elim h | (cases h with | inl h => (first | (obtain ⟨rfl, _⟩ := h; rfl) | (obtain ⟨_, rfl, _⟩ := h; rfl) | (obtain ⟨_, _, rfl, _⟩ := h; rfl) | (obtain ⟨_, _, _, rfl, _⟩ := h; rfl) | (obtain ⟨_, _, _, _, rfl, _⟩ := h; rfl) | (obtain ⟨_, _, _, _, _, rfl, _⟩ := h; rfl) | (obtain ⟨_, _, _, _, _, _, rfl, _⟩ := h; rfl) | (obtain ⟨_, _, _, _, _, _, _, rfl, _⟩ := h; rfl) | (obtain ⟨_, _, _, _, _, _, _, _, rfl, _⟩ := h; rfl)) | inr h => (first | (obtain ⟨rfl, _⟩ := h; rfl) | (obtain ⟨_, rfl, _⟩ := h; rfl) | (obtain ⟨_, _, rfl, _⟩ := h; rfl) | (obtain ⟨_, _, _, rfl, _⟩ := h; rfl) | (obtain ⟨_, _, _, _, rfl, _⟩ := h; rfl) | (obtain ⟨_, _, _, _, _, rfl, _⟩ := h; rfl) | (obtain ⟨_, _, _, _, _, _, rfl, _⟩ := h; rfl) | (obtain ⟨_, _, _, _, _, _, _, rfl, _⟩ := h; rfl) | (obtain ⟨_, _, _, _, _, _, _, _, rfl, _⟩ := h; rfl))) | (obtain ⟨rfl, _⟩ := h; rfl) | (obtain ⟨_, rfl, _⟩ := h; rfl) | (obtain ⟨_, _, rfl, _⟩ := h; rfl) | (obtain ⟨_, _, _, rfl, _⟩ := h; rfl) | (obtain ⟨_, _, _, _, rfl, _⟩ := h; rfl) | (obtain ⟨_, _, _, _, _, rfl, _⟩ := h; rfl) | (obtain ⟨_, _, _, _, _, _, rfl, _⟩ := h; rfl) | (obtain ⟨_, _, _, _, _, _, _, rfl, _⟩ := h; rfl) | (obtain ⟨_, _, _, _, _, _, _, _, rfl, _⟩ := h; rfl)) p_l_spot
  have h_l_bent := ok_l_bent (P := P) (w := w) (base := base) T h_l_take (sp := sp_l_bent) (by intro as R RX h; first | exact False.elim h | (cases h with | inl h => (first | (obtain ⟨rfl, _⟩ := h; rfl) | (obtain ⟨_, rfl, _⟩ := h; rfl) | (obtain ⟨_, _, rfl, _⟩ := h; rfl) | (obtain ⟨_, _, _, rfl, _⟩ := h; rfl) | (obtain ⟨_, _, _, _, rfl, _⟩ := h; rfl) | (obtain ⟨_, _, _, _, _, rfl, _⟩ := h; rfl) | (obtain ⟨_, _, _, _, _, _, rfl, _⟩ := h; rfl) | (obtain ⟨_, _, _, _, _, _, _, rfl, _⟩ := h; rfl) | (obtain ⟨_, _, _, _, _, _, _, _, rfl, _⟩ := h; rfl)) | inr h => (first | (obtain ⟨rfl, _⟩ := h; rfl) | (obtain ⟨_, rfl, _⟩ := h; rfl) | (obtain ⟨_, _, rfl, _⟩ := h; rfl) | (obtain ⟨_, _, _, rfl, _⟩ := h; rfl) | (obtain ⟨_, _, _, _, rfl, _⟩ := h; rfl) | (obtain ⟨_, _, _, _, _, rfl, _⟩ := h; rfl) | (obtain ⟨_, _, _, _, _, _, rfl, _⟩ := h; rfl) | (obtain ⟨_, _, _, _, _, _, _, rfl, _⟩ := h; rfl) | (obtain ⟨_, _, _, _, _, _, _, _, rfl, _⟩ := h; rfl))) | (obtain ⟨rfl, _⟩ := h; rfl) | (obtain ⟨_, rfl, _⟩ := h; rfl) | (obtain ⟨_, _, rfl, _⟩ := h; rfl) | (obtain ⟨_, _, _, rfl, _⟩ := h; rfl) | (obtain ⟨_, _, _, _, rfl, _⟩ := h; rfl) | (obtain ⟨_, _, _, _, _, rfl, _⟩ := h; rfl) | (obtain ⟨_, _, _, _, _, _, rfl, _⟩ := h; rfl) | (obtain ⟨_, _, _, _, _, _, _, rfl, _⟩ := h; rfl) | (obtain ⟨_, _, _, _, _, _, _, _, rfl, _⟩ := h; rfl)) p_l_bent
  have h_l_same0 := ok0_l_same (P := P) (w := w) (base := base) T
  have h_l_same1 := ok_l_same T  (by omega) h_l_same0 (sp := spR_l_same 1) (by intro as R RX h; first | exact False.elim h | (cases h with | inl h => (first | (obtain ⟨rfl, _⟩ := h; rfl) | (obtain ⟨_, rfl, _⟩ := h; rfl) | (obtain ⟨_, _, rfl, _⟩ := h; rfl) | (obtain ⟨_, _, _, rfl, _⟩ := h; rfl) | (obtain ⟨_, _, _, _, rfl, _⟩ := h; rfl) | (obtain ⟨_, _, _, _, _, rfl, _⟩ := h; rfl) | (obtain ⟨_, _, _, _, _, _, rfl, _⟩ := h; rfl) | (obtain ⟨_, _, _, _, _, _, _, rfl, _⟩ := h; rfl) | (obtain ⟨_, _, _, _, _, _, _, _, rfl, _⟩ := h; rfl)) | inr h => (first | (obtain ⟨rfl, _⟩ := h; rfl) | (obtain ⟨_, rfl, _⟩ := h; rfl) | (obtain ⟨_, _, rfl, _⟩ := h; rfl) | (obtain ⟨_, _, _, rfl, _⟩ := h; rfl) | (obtain ⟨_, _, _, _, rfl, _⟩ := h; rfl) | (obtain ⟨_, _, _, _, _, rfl, _⟩ := h; rfl) | (obtain ⟨_, _, _, _, _, _, rfl, _⟩ := h; rfl) | (obtain ⟨_, _, _, _, _, _, _, rfl, _⟩ := h; rfl) | (obtain ⟨_, _, _, _, _, _, _, _, rfl, _⟩ := h; rfl))) | (obtain ⟨rfl, _⟩ := h; rfl) | (obtain ⟨_, rfl, _⟩ := h; rfl) | (obtain ⟨_, _, rfl, _⟩ := h; rfl) | (obtain ⟨_, _, _, rfl, _⟩ := h; rfl) | (obtain ⟨_, _, _, _, rfl, _⟩ := h; rfl) | (obtain ⟨_, _, _, _, _, rfl, _⟩ := h; rfl) | (obtain ⟨_, _, _, _, _, _, rfl, _⟩ := h; rfl) | (obtain ⟨_, _, _, _, _, _, _, rfl, _⟩ := h; rfl) | (obtain ⟨_, _, _, _, _, _, _, _, rfl, _⟩ := h; rfl)) (p_l_same 0)
  have h_l_same2 := ok_l_same T  (by omega) h_l_same1 (sp := spR_l_same 2) (by intro as R RX h; first | exact False.elim h | (cases h with | inl h => (first | (obtain ⟨rfl, _⟩ := h; rfl) | (obtain ⟨_, rfl, _⟩ := h; rfl) | (obtain ⟨_, _, rfl, _⟩ := h; rfl) | (obtain ⟨_, _, _, rfl, _⟩ := h; rfl) | (obtain ⟨_, _, _, _, rfl, _⟩ := h; rfl) | (obtain ⟨_, _, _, _, _, rfl, _⟩ := h; rfl) | (obtain ⟨_, _, _, _, _, _, rfl, _⟩ := h; rfl) | (obtain ⟨_, _, _, _, _, _, _, rfl, _⟩ := h; rfl) | (obtain ⟨_, _, _, _, _, _, _, _, rfl, _⟩ := h; rfl)) | inr h => (first | (obtain ⟨rfl, _⟩ := h; rfl) | (obtain ⟨_, rfl, _⟩ := h; rfl) | (obtain ⟨_, _, rfl, _⟩ := h; rfl) | (obtain ⟨_, _, _, rfl, _⟩ := h; rfl) | (obtain ⟨_, _, _, _, rfl, _⟩ := h; rfl) | (obtain ⟨_, _, _, _, _, rfl, _⟩ := h; rfl) | (obtain ⟨_, _, _, _, _, _, rfl, _⟩ := h; rfl) | (obtain ⟨_, _, _, _, _, _, _, rfl, _⟩ := h; rfl) | (obtain ⟨_, _, _, _, _, _, _, _, rfl, _⟩ := h; rfl))) | (obtain ⟨rfl, _⟩ := h; rfl) | (obtain ⟨_, rfl, _⟩ := h; rfl) | (obtain ⟨_, _, rfl, _⟩ := h; rfl) | (obtain ⟨_, _, _, rfl, _⟩ := h; rfl) | (obtain ⟨_, _, _, _, rfl, _⟩ := h; rfl) | (obtain ⟨_, _, _, _, _, rfl, _⟩ := h; rfl) | (obtain ⟨_, _, _, _, _, _, rfl, _⟩ := h; rfl) | (obtain ⟨_, _, _, _, _, _, _, rfl, _⟩ := h; rfl) | (obtain ⟨_, _, _, _, _, _, _, _, rfl, _⟩ := h; rfl)) (p_l_same 1)
  have h_l_same3 := ok_l_same T  (by omega) h_l_same2 (sp := spR_l_same 3) (by intro as R RX h; first | exact False.elim h | (cases h with | inl h => (first | (obtain ⟨rfl, _⟩ := h; rfl) | (obtain ⟨_, rfl, _⟩ := h; rfl) | (obtain ⟨_, _, rfl, _⟩ := h; rfl) | (obtain ⟨_, _, _, rfl, _⟩ := h; rfl) | (obtain ⟨_, _, _, _, rfl, _⟩ := h; rfl) | (obtain ⟨_, _, _, _, _, rfl, _⟩ := h; rfl) | (obtain ⟨_, _, _, _, _, _, rfl, _⟩ := h; rfl) | (obtain ⟨_, _, _, _, _, _, _, rfl, _⟩ := h; rfl) | (obtain ⟨_, _, _, _, _, _, _, _, rfl, _⟩ := h; rfl)) | inr h => (first | (obtain ⟨rfl, _⟩ := h; rfl) | (obtain ⟨_, rfl, _⟩ := h; rfl) | (obtain ⟨_, _, rfl, _⟩ := h; rfl) | (obtain ⟨_, _, _, rfl, _⟩ := h; rfl) | (obtain ⟨_, _, _, _, rfl, _⟩ := h; rfl) | (obtain ⟨_, _, _, _, _, rfl, _⟩ := h; rfl) | (obtain ⟨_, _, _, _, _, _, rfl, _⟩ := h; rfl) | (obtain ⟨_, _, _, _, _, _, _, rfl, _⟩ := h; rfl) | (obtain ⟨_, _, _, _, _, _, _, _, rfl, _⟩ := h; rfl))) | (obtain ⟨rfl, _⟩ := h; rfl) | (obtain ⟨_, rfl, _⟩ := h; rfl) | (obtain ⟨_, _, rfl, _⟩ := h; rfl) | (obtain ⟨_, _, _, rfl, _⟩ := h; rfl) | (obtain ⟨_, _, _, _, rfl, _⟩ := h; rfl) | (obtain ⟨_, _, _, _, _, rfl, _⟩ := h; rfl) | (obtain ⟨_, _, _, _, _, _, rfl, _⟩ := h; rfl) | (obtain ⟨_, _, _, _, _, _, _, rfl, _⟩ := h; rfl) | (obtain ⟨_, _, _, _, _, _, _, _, rfl, _⟩ := h; rfl)) (p_l_same 2)
  have h_l_same := ok_l_same T  (by omega) h_l_same3 (sp := spR_l_same 4) (by intro as R RX h; first | exact False.elim h | (cases h with | inl h => (first | (obtain ⟨rfl, _⟩ := h; rfl) | (obtain ⟨_, rfl, _⟩ := h; rfl) | (obtain ⟨_, _, rfl, _⟩ := h; rfl) | (obtain ⟨_, _, _, rfl, _⟩ := h; rfl) | (obtain ⟨_, _, _, _, rfl, _⟩ := h; rfl) | (obtain ⟨_, _, _, _, _, rfl, _⟩ := h; rfl) | (obtain ⟨_, _, _, _, _, _, rfl, _⟩ := h; rfl) | (obtain ⟨_, _, _, _, _, _, _, rfl, _⟩ := h; rfl) | (obtain ⟨_, _, _, _, _, _, _, _, rfl, _⟩ := h; rfl)) | inr h => (first | (obtain ⟨rfl, _⟩ := h; rfl) | (obtain ⟨_, rfl, _⟩ := h; rfl) | (obtain ⟨_, _, rfl, _⟩ := h; rfl) | (obtain ⟨_, _, _, rfl, _⟩ := h; rfl) | (obtain ⟨_, _, _, _, rfl, _⟩ := h; rfl) | (obtain ⟨_, _, _, _, _, rfl, _⟩ := h; rfl) | (obtain ⟨_, _, _, _, _, _, rfl, _⟩ := h; rfl) | (obtain ⟨_, _, _, _, _, _, _, rfl, _⟩ := h; rfl) | (obtain ⟨_, _, _, _, _, _, _, _, rfl, _⟩ := h; rfl))) | (obtain ⟨rfl, _⟩ := h; rfl) | (obtain ⟨_, rfl, _⟩ := h; rfl) | (obtain ⟨_, _, rfl, _⟩ := h; rfl) | (obtain ⟨_, _, _, rfl, _⟩ := h; rfl) | (obtain ⟨_, _, _, _, rfl, _⟩ := h; rfl) | (obtain ⟨_, _, _, _, _, rfl, _⟩ := h; rfl) | (obtain ⟨_, _, _, _, _, _, rfl, _⟩ := h; rfl) | (obtain ⟨_, _, _, _, _, _, _, rfl, _⟩ := h; rfl) | (obtain ⟨_, _, _, _, _, _, _, _, rfl, _⟩ := h; rfl)) (p_l_same 3)
  have h_Place_str := ok_Place_str (P := P) (w := w) (base := base) T  (sp := sp_Place_str) (by intro as R RX h; first | exact False.elim h | (cases h with | inl h => (first | (obtain ⟨rfl, _⟩ := h; rfl) | (obtain ⟨_, rfl, _⟩ := h; rfl) | (obtain ⟨_, _, rfl, _⟩ := h; rfl) | (obtain ⟨_, _, _, rfl, _⟩ := h; rfl) | (obtain ⟨_, _, _, _, rfl, _⟩ := h; rfl) | (obtain ⟨_, _, _, _, _, rfl, _⟩ := h; rfl) | (obtain ⟨_, _, _, _, _, _, rfl, _⟩ := h; rfl) | (obtain ⟨_, _, _, _, _, _, _, rfl, _⟩ := h; rfl) | (obtain ⟨_, _, _, _, _, _, _, _, rfl, _⟩ := h; rfl)) | inr h => (first | (obtain ⟨rfl, _⟩ := h; rfl) | (obtain ⟨_, rfl, _⟩ := h; rfl) | (obtain ⟨_, _, rfl, _⟩ := h; rfl) | (obtain ⟨_, _, _, rfl, _⟩ := h; rfl) | (obtain ⟨_, _, _, _, rfl, _⟩ := h; rfl) | (obtain ⟨_, _, _, _, _, rfl, _⟩ := h; rfl) | (obtain ⟨_, _, _, _, _, _, rfl, _⟩ := h; rfl) | (obtain ⟨_, _, _, _, _, _, _, rfl, _⟩ := h; rfl) | (obtain ⟨_, _, _, _, _, _, _, _, rfl, _⟩ := h; rfl))) | (obtain ⟨rfl, _⟩ := h; rfl) | (obtain ⟨_, rfl, _⟩ := h; rfl) | (obtain ⟨_, _, rfl, _⟩ := h; rfl) | (obtain ⟨_, _, _, rfl, _⟩ := h; rfl) | (obtain ⟨_, _, _, _, rfl, _⟩ := h; rfl) | (obtain ⟨_, _, _, _, _, rfl, _⟩ := h; rfl) | (obtain ⟨_, _, _, _, _, _, rfl, _⟩ := h; rfl) | (obtain ⟨_, _, _, _, _, _, _, rfl, _⟩ := h; rfl) | (obtain ⟨_, _, _, _, _, _, _, _, rfl, _⟩ := h; rfl)) p_Place_str
  have h_figures_in := ok_figures_in (P := P) (w := w) (base := base) T  (sp := sp_figures_in) (by intro as R RX h; first | exact False.elim h | (cases h with | inl h => (first | (obtain ⟨rfl, _⟩ := h; rfl) | (obtain ⟨_, rfl, _⟩ := h; rfl) | (obtain ⟨_, _, rfl, _⟩ := h; rfl) | (obtain ⟨_, _, _, rfl, _⟩ := h; rfl) | (obtain ⟨_, _, _, _, rfl, _⟩ := h; rfl) | (obtain ⟨_, _, _, _, _, rfl, _⟩ := h; rfl) | (obtain ⟨_, _, _, _, _, _, rfl, _⟩ := h; rfl) | (obtain ⟨_, _, _, _, _, _, _, rfl, _⟩ := h; rfl) | (obtain ⟨_, _, _, _, _, _, _, _, rfl, _⟩ := h; rfl)) | inr h => (first | (obtain ⟨rfl, _⟩ := h; rfl) | (obtain ⟨_, rfl, _⟩ := h; rfl) | (obtain ⟨_, _, rfl, _⟩ := h; rfl) | (obtain ⟨_, _, _, rfl, _⟩ := h; rfl) | (obtain ⟨_, _, _, _, rfl, _⟩ := h; rfl) | (obtain ⟨_, _, _, _, _, rfl, _⟩ := h; rfl) | (obtain ⟨_, _, _, _, _, _, rfl, _⟩ := h; rfl) | (obtain ⟨_, _, _, _, _, _, _, rfl, _⟩ := h; rfl) | (obtain ⟨_, _, _, _, _, _, _, _, rfl, _⟩ := h; rfl))) | (obtain ⟨rfl, _⟩ := h; rfl) | (obtain ⟨_, rfl, _⟩ := h; rfl) | (obtain ⟨_, _, rfl, _⟩ := h; rfl) | (obtain ⟨_, _, _, rfl, _⟩ := h; rfl) | (obtain ⟨_, _, _, _, rfl, _⟩ := h; rfl) | (obtain ⟨_, _, _, _, _, rfl, _⟩ := h; rfl) | (obtain ⟨_, _, _, _, _, _, rfl, _⟩ := h; rfl) | (obtain ⟨_, _, _, _, _, _, _, rfl, _⟩ := h; rfl) | (obtain ⟨_, _, _, _, _, _, _, _, rfl, _⟩ := h; rfl)) p_figures_in
  have h_number_in := ok_number_in (P := P) (w := w) (base := base) T h_figures_in (sp := sp_number_in) (by intro as R RX h; first | exact False.elim h | (cases h with | inl h => (first | (obtain ⟨rfl, _⟩ := h; rfl) | (obtain ⟨_, rfl, _⟩ := h; rfl) | (obtain ⟨_, _, rfl, _⟩ := h; rfl) | (obtain ⟨_, _, _, rfl, _⟩ := h; rfl) | (obtain ⟨_, _, _, _, rfl, _⟩ := h; rfl) | (obtain ⟨_, _, _, _, _, rfl, _⟩ := h; rfl) | (obtain ⟨_, _, _, _, _, _, rfl, _⟩ := h; rfl) | (obtain ⟨_, _, _, _, _, _, _, rfl, _⟩ := h; rfl) | (obtain ⟨_, _, _, _, _, _, _, _, rfl, _⟩ := h; rfl)) | inr h => (first | (obtain ⟨rfl, _⟩ := h; rfl) | (obtain ⟨_, rfl, _⟩ := h; rfl) | (obtain ⟨_, _, rfl, _⟩ := h; rfl) | (obtain ⟨_, _, _, rfl, _⟩ := h; rfl) | (obtain ⟨_, _, _, _, rfl, _⟩ := h; rfl) | (obtain ⟨_, _, _, _, _, rfl, _⟩ := h; rfl) | (obtain ⟨_, _, _, _, _, _, rfl, _⟩ := h; rfl) | (obtain ⟨_, _, _, _, _, _, _, rfl, _⟩ := h; rfl) | (obtain ⟨_, _, _, _, _, _, _, _, rfl, _⟩ := h; rfl))) | (obtain ⟨rfl, _⟩ := h; rfl) | (obtain ⟨_, rfl, _⟩ := h; rfl) | (obtain ⟨_, _, rfl, _⟩ := h; rfl) | (obtain ⟨_, _, _, rfl, _⟩ := h; rfl) | (obtain ⟨_, _, _, _, rfl, _⟩ := h; rfl) | (obtain ⟨_, _, _, _, _, rfl, _⟩ := h; rfl) | (obtain ⟨_, _, _, _, _, _, rfl, _⟩ := h; rfl) | (obtain ⟨_, _, _, _, _, _, _, rfl, _⟩ := h; rfl) | (obtain ⟨_, _, _, _, _, _, _, _, rfl, _⟩ := h; rfl)) p_number_in
  have h_numbers_in := ok_numbers_in (P := P) (w := w) (base := base) T h_number_in (sp := sp_numbers_in) (by intro as R RX h; first | exact False.elim h | (cases h with | inl h => (first | (obtain ⟨rfl, _⟩ := h; rfl) | (obtain ⟨_, rfl, _⟩ := h; rfl) | (obtain ⟨_, _, rfl, _⟩ := h; rfl) | (obtain ⟨_, _, _, rfl, _⟩ := h; rfl) | (obtain ⟨_, _, _, _, rfl, _⟩ := h; rfl) | (obtain ⟨_, _, _, _, _, rfl, _⟩ := h; rfl) | (obtain ⟨_, _, _, _, _, _, rfl, _⟩ := h; rfl) | (obtain ⟨_, _, _, _, _, _, _, rfl, _⟩ := h; rfl) | (obtain ⟨_, _, _, _, _, _, _, _, rfl, _⟩ := h; rfl)) | inr h => (first | (obtain ⟨rfl, _⟩ := h; rfl) | (obtain ⟨_, rfl, _⟩ := h; rfl) | (obtain ⟨_, _, rfl, _⟩ := h; rfl) | (obtain ⟨_, _, _, rfl, _⟩ := h; rfl) | (obtain ⟨_, _, _, _, rfl, _⟩ := h; rfl) | (obtain ⟨_, _, _, _, _, rfl, _⟩ := h; rfl) | (obtain ⟨_, _, _, _, _, _, rfl, _⟩ := h; rfl) | (obtain ⟨_, _, _, _, _, _, _, rfl, _⟩ := h; rfl) | (obtain ⟨_, _, _, _, _, _, _, _, rfl, _⟩ := h; rfl))) | (obtain ⟨rfl, _⟩ := h; rfl) | (obtain ⟨_, rfl, _⟩ := h; rfl) | (obtain ⟨_, _, rfl, _⟩ := h; rfl) | (obtain ⟨_, _, _, rfl, _⟩ := h; rfl) | (obtain ⟨_, _, _, _, rfl, _⟩ := h; rfl) | (obtain ⟨_, _, _, _, _, rfl, _⟩ := h; rfl) | (obtain ⟨_, _, _, _, _, _, rfl, _⟩ := h; rfl) | (obtain ⟨_, _, _, _, _, _, _, rfl, _⟩ := h; rfl) | (obtain ⟨_, _, _, _, _, _, _, _, rfl, _⟩ := h; rfl)) p_numbers_in
  have h_is_number := ok_is_number (P := P) (w := w) (base := base) T  (sp := sp_is_number) (by intro as R RX h; first | exact False.elim h | (cases h with | inl h => (first | (obtain ⟨rfl, _⟩ := h; rfl) | (obtain ⟨_, rfl, _⟩ := h; rfl) | (obtain ⟨_, _, rfl, _⟩ := h; rfl) | (obtain ⟨_, _, _, rfl, _⟩ := h; rfl) | (obtain ⟨_, _, _, _, rfl, _⟩ := h; rfl) | (obtain ⟨_, _, _, _, _, rfl, _⟩ := h; rfl) | (obtain ⟨_, _, _, _, _, _, rfl, _⟩ := h; rfl) | (obtain ⟨_, _, _, _, _, _, _, rfl, _⟩ := h; rfl) | (obtain ⟨_, _, _, _, _, _, _, _, rfl, _⟩ := h; rfl)) | inr h => (first | (obtain ⟨rfl, _⟩ := h; rfl) | (obtain ⟨_, rfl, _⟩ := h; rfl) | (obtain ⟨_, _, rfl, _⟩ := h; rfl) | (obtain ⟨_, _, _, rfl, _⟩ := h; rfl) | (obtain ⟨_, _, _, _, rfl, _⟩ := h; rfl) | (obtain ⟨_, _, _, _, _, rfl, _⟩ := h; rfl) | (obtain ⟨_, _, _, _, _, _, rfl, _⟩ := h; rfl) | (obtain ⟨_, _, _, _, _, _, _, rfl, _⟩ := h; rfl) | (obtain ⟨_, _, _, _, _, _, _, _, rfl, _⟩ := h; rfl))) | (obtain ⟨rfl, _⟩ := h; rfl) | (obtain ⟨_, rfl, _⟩ := h; rfl) | (obtain ⟨_, _, rfl, _⟩ := h; rfl) | (obtain ⟨_, _, _, rfl, _⟩ := h; rfl) | (obtain ⟨_, _, _, _, rfl, _⟩ := h; rfl) | (obtain ⟨_, _, _, _, _, rfl, _⟩ := h; rfl) | (obtain ⟨_, _, _, _, _, _, rfl, _⟩ := h; rfl) | (obtain ⟨_, _, _, _, _, _, _, rfl, _⟩ := h; rfl) | (obtain ⟨_, _, _, _, _, _, _, _, rfl, _⟩ := h; rfl)) p_is_number
  have h_is_between := ok_is_between (P := P) (w := w) (base := base) T h_is_number (sp := sp_is_between) (by intro as R RX h; first | exact False.elim h | (cases h with | inl h => (first | (obtain ⟨rfl, _⟩ := h; rfl) | (obtain ⟨_, rfl, _⟩ := h; rfl) | (obtain ⟨_, _, rfl, _⟩ := h; rfl) | (obtain ⟨_, _, _, rfl, _⟩ := h; rfl) | (obtain ⟨_, _, _, _, rfl, _⟩ := h; rfl) | (obtain ⟨_, _, _, _, _, rfl, _⟩ := h; rfl) | (obtain ⟨_, _, _, _, _, _, rfl, _⟩ := h; rfl) | (obtain ⟨_, _, _, _, _, _, _, rfl, _⟩ := h; rfl) | (obtain ⟨_, _, _, _, _, _, _, _, rfl, _⟩ := h; rfl)) | inr h => (first | (obtain ⟨rfl, _⟩ := h; rfl) | (obtain ⟨_, rfl, _⟩ := h; rfl) | (obtain ⟨_, _, rfl, _⟩ := h; rfl) | (obtain ⟨_, _, _, rfl, _⟩ := h; rfl) | (obtain ⟨_, _, _, _, rfl, _⟩ := h; rfl) | (obtain ⟨_, _, _, _, _, rfl, _⟩ := h; rfl) | (obtain ⟨_, _, _, _, _, _, rfl, _⟩ := h; rfl) | (obtain ⟨_, _, _, _, _, _, _, rfl, _⟩ := h; rfl) | (obtain ⟨_, _, _, _, _, _, _, _, rfl, _⟩ := h; rfl))) | (obtain ⟨rfl, _⟩ := h; rfl) | (obtain ⟨_, rfl, _⟩ := h; rfl) | (obtain ⟨_, _, rfl, _⟩ := h; rfl) | (obtain ⟨_, _, _, rfl, _⟩ := h; rfl) | (obtain ⟨_, _, _, _, rfl, _⟩ := h; rfl) | (obtain ⟨_, _, _, _, _, rfl, _⟩ := h; rfl) | (obtain ⟨_, _, _, _, _, _, rfl, _⟩ := h; rfl) | (obtain ⟨_, _, _, _, _, _, _, rfl, _⟩ := h; rfl) | (obtain ⟨_, _, _, _, _, _, _, _, rfl, _⟩ := h; rfl)) p_is_between
  have h_is_line := ok_is_line (P := P) (w := w) (base := base) T h_is_between (sp := sp_is_line) (by intro as R RX h; first | exact False.elim h | (cases h with | inl h => (first | (obtain ⟨rfl, _⟩ := h; rfl) | (obtain ⟨_, rfl, _⟩ := h; rfl) | (obtain ⟨_, _, rfl, _⟩ := h; rfl) | (obtain ⟨_, _, _, rfl, _⟩ := h; rfl) | (obtain ⟨_, _, _, _, rfl, _⟩ := h; rfl) | (obtain ⟨_, _, _, _, _, rfl, _⟩ := h; rfl) | (obtain ⟨_, _, _, _, _, _, rfl, _⟩ := h; rfl) | (obtain ⟨_, _, _, _, _, _, _, rfl, _⟩ := h; rfl) | (obtain ⟨_, _, _, _, _, _, _, _, rfl, _⟩ := h; rfl)) | inr h => (first | (obtain ⟨rfl, _⟩ := h; rfl) | (obtain ⟨_, rfl, _⟩ := h; rfl) | (obtain ⟨_, _, rfl, _⟩ := h; rfl) | (obtain ⟨_, _, _, rfl, _⟩ := h; rfl) | (obtain ⟨_, _, _, _, rfl, _⟩ := h; rfl) | (obtain ⟨_, _, _, _, _, rfl, _⟩ := h; rfl) | (obtain ⟨_, _, _, _, _, _, rfl, _⟩ := h; rfl) | (obtain ⟨_, _, _, _, _, _, _, rfl, _⟩ := h; rfl) | (obtain ⟨_, _, _, _, _, _, _, _, rfl, _⟩ := h; rfl))) | (obtain ⟨rfl, _⟩ := h; rfl) | (obtain ⟨_, rfl, _⟩ := h; rfl) | (obtain ⟨_, _, rfl, _⟩ := h; rfl) | (obtain ⟨_, _, _, rfl, _⟩ := h; rfl) | (obtain ⟨_, _, _, _, rfl, _⟩ := h; rfl) | (obtain ⟨_, _, _, _, _, rfl, _⟩ := h; rfl) | (obtain ⟨_, _, _, _, _, _, rfl, _⟩ := h; rfl) | (obtain ⟨_, _, _, _, _, _, _, rfl, _⟩ := h; rfl) | (obtain ⟨_, _, _, _, _, _, _, _, rfl, _⟩ := h; rfl)) p_is_line
  have h_is_last := ok_is_last (P := P) (w := w) (base := base) T h_is_line (sp := sp_is_last) (by intro as R RX h; first | exact False.elim h | (cases h with | inl h => (first | (obtain ⟨rfl, _⟩ := h; rfl) | (obtain ⟨_, rfl, _⟩ := h; rfl) | (obtain ⟨_, _, rfl, _⟩ := h; rfl) | (obtain ⟨_, _, _, rfl, _⟩ := h; rfl) | (obtain ⟨_, _, _, _, rfl, _⟩ := h; rfl) | (obtain ⟨_, _, _, _, _, rfl, _⟩ := h; rfl) | (obtain ⟨_, _, _, _, _, _, rfl, _⟩ := h; rfl) | (obtain ⟨_, _, _, _, _, _, _, rfl, _⟩ := h; rfl) | (obtain ⟨_, _, _, _, _, _, _, _, rfl, _⟩ := h; rfl)) | inr h => (first | (obtain ⟨rfl, _⟩ := h; rfl) | (obtain ⟨_, rfl, _⟩ := h; rfl) | (obtain ⟨_, _, rfl, _⟩ := h; rfl) | (obtain ⟨_, _, _, rfl, _⟩ := h; rfl) | (obtain ⟨_, _, _, _, rfl, _⟩ := h; rfl) | (obtain ⟨_, _, _, _, _, rfl, _⟩ := h; rfl) | (obtain ⟨_, _, _, _, _, _, rfl, _⟩ := h; rfl) | (obtain ⟨_, _, _, _, _, _, _, rfl, _⟩ := h; rfl) | (obtain ⟨_, _, _, _, _, _, _, _, rfl, _⟩ := h; rfl))) | (obtain ⟨rfl, _⟩ := h; rfl) | (obtain ⟨_, rfl, _⟩ := h; rfl) | (obtain ⟨_, _, rfl, _⟩ := h; rfl) | (obtain ⟨_, _, _, rfl, _⟩ := h; rfl) | (obtain ⟨_, _, _, _, rfl, _⟩ := h; rfl) | (obtain ⟨_, _, _, _, _, rfl, _⟩ := h; rfl) | (obtain ⟨_, _, _, _, _, _, rfl, _⟩ := h; rfl) | (obtain ⟨_, _, _, _, _, _, _, rfl, _⟩ := h; rfl) | (obtain ⟨_, _, _, _, _, _, _, _, rfl, _⟩ := h; rfl)) p_is_last
  have h_is_column := ok_is_column (P := P) (w := w) (base := base) T h_is_between (sp := sp_is_column) (by intro as R RX h; first | exact False.elim h | (cases h with | inl h => (first | (obtain ⟨rfl, _⟩ := h; rfl) | (obtain ⟨_, rfl, _⟩ := h; rfl) | (obtain ⟨_, _, rfl, _⟩ := h; rfl) | (obtain ⟨_, _, _, rfl, _⟩ := h; rfl) | (obtain ⟨_, _, _, _, rfl, _⟩ := h; rfl) | (obtain ⟨_, _, _, _, _, rfl, _⟩ := h; rfl) | (obtain ⟨_, _, _, _, _, _, rfl, _⟩ := h; rfl) | (obtain ⟨_, _, _, _, _, _, _, rfl, _⟩ := h; rfl) | (obtain ⟨_, _, _, _, _, _, _, _, rfl, _⟩ := h; rfl)) | inr h => (first | (obtain ⟨rfl, _⟩ := h; rfl) | (obtain ⟨_, rfl, _⟩ := h; rfl) | (obtain ⟨_, _, rfl, _⟩ := h; rfl) | (obtain ⟨_, _, _, rfl, _⟩ := h; rfl) | (obtain ⟨_, _, _, _, rfl, _⟩ := h; rfl) | (obtain ⟨_, _, _, _, _, rfl, _⟩ := h; rfl) | (obtain ⟨_, _, _, _, _, _, rfl, _⟩ := h; rfl) | (obtain ⟨_, _, _, _, _, _, _, rfl, _⟩ := h; rfl) | (obtain ⟨_, _, _, _, _, _, _, _, rfl, _⟩ := h; rfl))) | (obtain ⟨rfl, _⟩ := h; rfl) | (obtain ⟨_, rfl, _⟩ := h; rfl) | (obtain ⟨_, _, rfl, _⟩ := h; rfl) | (obtain ⟨_, _, _, rfl, _⟩ := h; rfl) | (obtain ⟨_, _, _, _, rfl, _⟩ := h; rfl) | (obtain ⟨_, _, _, _, _, rfl, _⟩ := h; rfl) | (obtain ⟨_, _, _, _, _, _, rfl, _⟩ := h; rfl) | (obtain ⟨_, _, _, _, _, _, _, rfl, _⟩ := h; rfl) | (obtain ⟨_, _, _, _, _, _, _, _, rfl, _⟩ := h; rfl)) p_is_column
  have h_is_begin := ok_is_begin (P := P) (w := w) (base := base) T h_is_column (sp := sp_is_begin) (by intro as R RX h; first | exact False.elim h | (cases h with | inl h => (first | (obtain ⟨rfl, _⟩ := h; rfl) | (obtain ⟨_, rfl, _⟩ := h; rfl) | (obtain ⟨_, _, rfl, _⟩ := h; rfl) | (obtain ⟨_, _, _, rfl, _⟩ := h; rfl) | (obtain ⟨_, _, _, _, rfl, _⟩ := h; rfl) | (obtain ⟨_, _, _, _, _, rfl, _⟩ := h; rfl) | (obtain ⟨_, _, _, _, _, _, rfl, _⟩ := h; rfl) | (obtain ⟨_, _, _, _, _, _, _, rfl, _⟩ := h; rfl) | (obtain ⟨_, _, _, _, _, _, _, _, rfl, _⟩ := h; rfl)) | inr h => (first | (obtain ⟨rfl, _⟩ := h; rfl) | (obtain ⟨_, rfl, _⟩ := h; rfl) | (obtain ⟨_, _, rfl, _⟩ := h; rfl) | (obtain ⟨_, _, _, rfl, _⟩ := h; rfl) | (obtain ⟨_, _, _, _, rfl, _⟩ := h; rfl) | (obtain ⟨_, _, _, _, _, rfl, _⟩ := h; rfl) | (obtain ⟨_, _, _, _, _, _, rfl, _⟩ := h; rfl) | (obtain ⟨_, _, _, _, _, _, _, rfl, _⟩ := h; rfl) | (obtain ⟨_, _, _, _, _, _, _, _, rfl, _⟩ := h; rfl))) | (obtain ⟨rfl, _⟩ := h; rfl) | (obtain ⟨_, rfl, _⟩ := h; rfl) | (obtain ⟨_, _, rfl, _⟩ := h; rfl) | (obtain ⟨_, _, _, rfl, _⟩ := h; rfl) | (obtain ⟨_, _, _, _, rfl, _⟩ := h; rfl) | (obtain ⟨_, _, _, _, _, rfl, _⟩ := h; rfl) | (obtain ⟨_, _, _, _, _, _, rfl, _⟩ := h; rfl) | (obtain ⟨_, _, _, _, _, _, _, rfl, _⟩ := h; rfl) | (obtain ⟨_, _, _, _, _, _, _, _, rfl, _⟩ := h; rfl)) p_is_begin
  have h_is_end := ok_is_end (P := P) (w := w) (base := base) T h_is_column (sp := sp_is_end) (by intro as R RX h; first | exact False.elim h | (cases h with | inl h => (first | (obtain ⟨rfl, _⟩ := h; rfl) | (obtain ⟨_, rfl, _⟩ := h; rfl) | (obtain ⟨_, _, rfl, _⟩ := h; rfl) | (obtain ⟨_, _, _, rfl, _⟩ := h; rfl) | (obtain ⟨_, _, _, _, rfl, _⟩ := h; rfl) | (obtain ⟨_, _, _, _, _, rfl, _⟩ := h; rfl) | (obtain ⟨_, _, _, _, _, _, rfl, _⟩ := h; rfl) | (obtain ⟨_, _, _, _, _, _, _, rfl, _⟩ := h; rfl) | (obtain ⟨_, _, _, _, _, _, _, _, rfl, _⟩ := h; rfl)) | inr h => (first | (obtain ⟨rfl, _⟩ := h; rfl) | (obtain ⟨_, rfl, _⟩ := h; rfl) | (obtain ⟨_, _, rfl, _⟩ := h; rfl) | (obtain ⟨_, _, _, rfl, _⟩ := h; rfl) | (obtain ⟨_, _, _, _, rfl, _⟩ := h; rfl) | (obtain ⟨_, _, _, _, _, rfl, _⟩ := h; rfl) | (obtain ⟨_, _, _, _, _, _, rfl, _⟩ := h; rfl) | (obtain ⟨_, _, _, _, _, _, _, rfl, _⟩ := h; rfl) | (obtain ⟨_, _, _, _, _, _, _, _, rfl, _⟩ := h; rfl))) | (obtain ⟨rfl, _⟩ := h; rfl) | (obtain ⟨_, rfl, _⟩ := h; rfl) | (obtain ⟨_, _, rfl, _⟩ := h; rfl) | (obtain ⟨_, _, _, rfl, _⟩ := h; rfl) | (obtain ⟨_, _, _, _, rfl, _⟩ := h; rfl) | (obtain ⟨_, _, _, _, _, rfl, _⟩ := h; rfl) | (obtain ⟨_, _, _, _, _, _, rfl, _⟩ := h; rfl) | (obtain ⟨_, _, _, _, _, _, _, rfl, _⟩ := h; rfl) | (obtain ⟨_, _, _, _, _, _, _, _, rfl, _⟩ := h; rfl)) p_is_end
  have h_Place_init := ok_Place_init (P := P) (w := w) (base := base) T h_is_begin h_is_end h_is_last h_is_line (sp := sp_Place_init) (by intro as R RX h; first | exact False.elim h | (cases h with | inl h => (first | (obtain ⟨rfl, _⟩ := h; rfl) | (obtain ⟨_, rfl, _⟩ := h; rfl) | (obtain ⟨_, _, rfl, _⟩ := h; rfl) | (obtain ⟨_, _, _, rfl, _⟩ := h; rfl) | (obtain ⟨_, _, _, _, rfl, _⟩ := h; rfl) | (obtain ⟨_, _, _, _, _, rfl, _⟩ := h; rfl) | (obtain ⟨_, _, _, _, _, _, rfl, _⟩ := h; rfl) | (obtain ⟨_, _, _, _, _, _, _, rfl, _⟩ := h; rfl) | (obtain ⟨_, _, _, _, _, _, _, _, rfl, _⟩ := h; rfl)) | inr h => (first | (obtain ⟨rfl, _⟩ := h; rfl) | (obtain ⟨_, rfl, _⟩ := h; rfl) | (obtain ⟨_, _, rfl, _⟩ := h; rfl) | (obtain ⟨_, _, _, rfl, _⟩ := h; rfl) | (obtain ⟨_, _, _, _, rfl, _⟩ := h; rfl) | (obtain ⟨_, _, _, _, _, rfl, _⟩ := h; rfl) | (obtain ⟨_, _, _, _, _, _, rfl, _⟩ := h; rfl) | (obtain ⟨_, _, _, _, _, _, _, rfl, _⟩ := h; rfl) | (obtain ⟨_, _, _, _, _, _, _, _, rfl, _⟩ := h; rfl))) | (obtain ⟨rfl, _⟩ := h; rfl) | (obtain ⟨_, rfl, _⟩ := h; rfl) | (obtain ⟨_, _, rfl, _⟩ := h; rfl) | (obtain ⟨_, _, _, rfl, _⟩ := h; rfl) | (obtain ⟨_, _, _, _, rfl, _⟩ := h; rfl) | (obtain ⟨_, _, _, _, _, rfl, _⟩ := h; rfl) | (obtain ⟨_, _, _, _, _, _, rfl, _⟩ := h; rfl) | (obtain ⟨_, _, _, _, _, _, _, rfl, _⟩ := h; rfl) | (obtain ⟨_, _, _, _, _, _, _, _, rfl, _⟩ := h; rfl)) p_Place_init
  have h_place_in := ok_place_in (P := P) (w := w) (base := base) T h_Place_init h_Place_str h_numbers_in (sp := sp_place_in) (by intro as R RX h; first | exact False.elim h | (cases h with | inl h => (first | (obtain ⟨rfl, _⟩ := h; rfl) | (obtain ⟨_, rfl, _⟩ := h; rfl) | (obtain ⟨_, _, rfl, _⟩ := h; rfl) | (obtain ⟨_, _, _, rfl, _⟩ := h; rfl) | (obtain ⟨_, _, _, _, rfl, _⟩ := h; rfl) | (obtain ⟨_, _, _, _, _, rfl, _⟩ := h; rfl) | (obtain ⟨_, _, _, _, _, _, rfl, _⟩ := h; rfl) | (obtain ⟨_, _, _, _, _, _, _, rfl, _⟩ := h; rfl) | (obtain ⟨_, _, _, _, _, _, _, _, rfl, _⟩ := h; rfl)) | inr h => (first | (obtain ⟨rfl, _⟩ := h; rfl) | (obtain ⟨_, rfl, _⟩ := h; rfl) | (obtain ⟨_, _, rfl, _⟩ := h; rfl) | (obtain ⟨_, _, _, rfl, _⟩ := h; rfl) | (obtain ⟨_, _, _, _, rfl, _⟩ := h; rfl) | (obtain ⟨_, _, _, _, _, rfl, _⟩ := h; rfl) | (obtain ⟨_, _, _, _, _, _, rfl, _⟩ := h; rfl) | (obtain ⟨_, _, _, _, _, _, _, rfl, _⟩ := h; rfl) | (obtain ⟨_, _, _, _, _, _, _, _, rfl, _⟩ := h; rfl))) | (obtain ⟨rfl, _⟩ := h; rfl) | (obtain ⟨_, rfl, _⟩ := h; rfl) | (obtain ⟨_, _, rfl, _⟩ := h; rfl) | (obtain ⟨_, _, _, rfl, _⟩ := h; rfl) | (obtain ⟨_, _, _, _, rfl, _⟩ := h; rfl) | (obtain ⟨_, _, _, _, _, rfl, _⟩ := h; rfl) | (obtain ⟨_, _, _, _, _, _, rfl, _⟩ := h; rfl) | (obtain ⟨_, _, _, _, _, _, _, rfl, _⟩ := h; rfl) | (obtain ⟨_, _, _, _, _, _, _, _, rfl, _⟩ := h; rfl)) p_place_in
  have h_l_seen := ok_l_seen (P := P) (w := w) (base := base) T  (sp := sp_l_seen) (by intro as R RX h; first | exact False.elim h | (cases h with | inl h => (first | (obtain ⟨rfl, _⟩ := h; rfl) | (obtain ⟨_, rfl, _⟩ := h; rfl) | (obtain ⟨_, _, rfl, _⟩ := h; rfl) | (obtain ⟨_, _, _, rfl, _⟩ := h; rfl) | (obtain ⟨_, _, _, _, rfl, _⟩ := h; rfl) | (obtain ⟨_, _, _, _, _, rfl, _⟩ := h; rfl) | (obtain ⟨_, _, _, _, _, _, rfl, _⟩ := h; rfl) | (obtain ⟨_, _, _, _, _, _, _, rfl, _⟩ := h; rfl) | (obtain ⟨_, _, _, _, _, _, _, _, rfl, _⟩ := h; rfl)) | inr h => (first | (obtain ⟨rfl, _⟩ := h; rfl) | (obtain ⟨_, rfl, _⟩ := h; rfl) | (obtain ⟨_, _, rfl, _⟩ := h; rfl) | (obtain ⟨_, _, _, rfl, _⟩ := h; rfl) | (obtain ⟨_, _, _, _, rfl, _⟩ := h; rfl) | (obtain ⟨_, _, _, _, _, rfl, _⟩ := h; rfl) | (obtain ⟨_, _, _, _, _, _, rfl, _⟩ := h; rfl) | (obtain ⟨_, _, _, _, _, _, _, rfl, _⟩ := h; rfl) | (obtain ⟨_, _, _, _, _, _, _, _, rfl, _⟩ := h; rfl))) | (obtain ⟨rfl, _⟩ := h; rfl) | (obtain ⟨_, rfl, _⟩ := h; rfl) | (obtain ⟨_, _, rfl, _⟩ := h; rfl) | (obtain ⟨_, _, _, rfl, _⟩ := h; rfl) | (obtain ⟨_, _, _, _, rfl, _⟩ := h; rfl) | (obtain ⟨_, _, _, _, _, rfl, _⟩ := h; rfl) | (obtain ⟨_, _, _, _, _, _, rfl, _⟩ := h; rfl) | (obtain ⟨_, _, _, _, _, _, _, rfl, _⟩ := h; rfl) | (obtain ⟨_, _, _, _, _, _, _, _, rfl, _⟩ := h; rfl)) p_l_seen
  have h_l_alone := ok_l_alone (P := P) (w := w) (base := base) T  (sp := sp_l_alone) (by intro as R RX h; first | exact False.elim h | (cases h with | inl h => (first | (obtain ⟨rfl, _⟩ := h; rfl) | (obtain ⟨_, rfl, _⟩ := h; rfl) | (obtain ⟨_, _, rfl, _⟩ := h; rfl) | (obtain ⟨_, _, _, rfl, _⟩ := h; rfl) | (obtain ⟨_, _, _, _, rfl, _⟩ := h; rfl) | (obtain ⟨_, _, _, _, _, rfl, _⟩ := h; rfl) | (obtain ⟨_, _, _, _, _, _, rfl, _⟩ := h; rfl) | (obtain ⟨_, _, _, _, _, _, _, rfl, _⟩ := h; rfl) | (obtain ⟨_, _, _, _, _, _, _, _, rfl, _⟩ := h; rfl)) | inr h => (first | (obtain ⟨rfl, _⟩ := h; rfl) | (obtain ⟨_, rfl, _⟩ := h; rfl) | (obtain ⟨_, _, rfl, _⟩ := h; rfl) | (obtain ⟨_, _, _, rfl, _⟩ := h; rfl) | (obtain ⟨_, _, _, _, rfl, _⟩ := h; rfl) | (obtain ⟨_, _, _, _, _, rfl, _⟩ := h; rfl) | (obtain ⟨_, _, _, _, _, _, rfl, _⟩ := h; rfl) | (obtain ⟨_, _, _, _, _, _, _, rfl, _⟩ := h; rfl) | (obtain ⟨_, _, _, _, _, _, _, _, rfl, _⟩ := h; rfl))) | (obtain ⟨rfl, _⟩ := h; rfl) | (obtain ⟨_, rfl, _⟩ := h; rfl) | (obtain ⟨_, _, rfl, _⟩ := h; rfl) | (obtain ⟨_, _, _, rfl, _⟩ := h; rfl) | (obtain ⟨_, _, _, _, rfl, _⟩ := h; rfl) | (obtain ⟨_, _, _, _, _, rfl, _⟩ := h; rfl) | (obtain ⟨_, _, _, _, _, _, rfl, _⟩ := h; rfl) | (obtain ⟨_, _, _, _, _, _, _, rfl, _⟩ := h; rfl) | (obtain ⟨_, _, _, _, _, _, _, _, rfl, _⟩ := h; rfl)) p_l_alone
  have h_l_told := ok_l_told (P := P) (w := w) (base := base) T h_Place_str h_l_alone h_l_same h_l_seen h_l_take h_place_in (sp := sp_l_told) (by intro as R RX h; first | exact False.elim h | (cases h with | inl h => (first | (obtain ⟨rfl, _⟩ := h; rfl) | (obtain ⟨_, rfl, _⟩ := h; rfl) | (obtain ⟨_, _, rfl, _⟩ := h; rfl) | (obtain ⟨_, _, _, rfl, _⟩ := h; rfl) | (obtain ⟨_, _, _, _, rfl, _⟩ := h; rfl) | (obtain ⟨_, _, _, _, _, rfl, _⟩ := h; rfl) | (obtain ⟨_, _, _, _, _, _, rfl, _⟩ := h; rfl) | (obtain ⟨_, _, _, _, _, _, _, rfl, _⟩ := h; rfl) | (obtain ⟨_, _, _, _, _, _, _, _, rfl, _⟩ := h; rfl)) | inr h => (first | (obtain ⟨rfl, _⟩ := h; rfl) | (obtain ⟨_, rfl, _⟩ := h; rfl) | (obtain ⟨_, _, rfl, _⟩ := h; rfl) | (obtain ⟨_, _, _, rfl, _⟩ := h; rfl) | (obtain ⟨_, _, _, _, rfl, _⟩ := h; rfl) | (obtain ⟨_, _, _, _, _, rfl, _⟩ := h; rfl) | (obtain ⟨_, _, _, _, _, _, rfl, _⟩ := h; rfl) | (obtain ⟨_, _, _, _, _, _, _, rfl, _⟩ := h; rfl) | (obtain ⟨_, _, _, _, _, _, _, _, rfl, _⟩ := h; rfl))) | (obtain ⟨rfl, _⟩ := h; rfl) | (obtain ⟨_, rfl, _⟩ := h; rfl) | (obtain ⟨_, _, rfl, _⟩ := h; rfl) | (obtain ⟨_, _, _, rfl, _⟩ := h; rfl) | (obtain ⟨_, _, _, _, rfl, _⟩ := h; rfl) | (obtain ⟨_, _, _, _, _, rfl, _⟩ := h; rfl) | (obtain ⟨_, _, _, _, _, _, rfl, _⟩ := h; rfl) | (obtain ⟨_, _, _, _, _, _, _, rfl, _⟩ := h; rfl) | (obtain ⟨_, _, _, _, _, _, _, _, rfl, _⟩ := h; rfl)) p_l_told
  exact ok_law T h_l_bent h_l_box h_l_read h_l_same h_l_spot h_l_take h_l_text h_l_told (by intro as R RX h; first | exact False.elim h | (cases h with | inl h => (first | (obtain ⟨rfl, _⟩ := h; rfl) | (obtain ⟨_, rfl, _⟩ := h; rfl) | (obtain ⟨_, _, rfl, _⟩ := h; rfl) | (obtain ⟨_, _, _, rfl, _⟩ := h; rfl) | (obtain ⟨_, _, _, _, rfl, _⟩ := h; rfl) | (obtain ⟨_, _, _, _, _, rfl, _⟩ := h; rfl) | (obtain ⟨_, _, _, _, _, _, rfl, _⟩ := h; rfl) | (obtain ⟨_, _, _, _, _, _, _, rfl, _⟩ := h; rfl) | (obtain ⟨_, _, _, _, _, _, _, _, rfl, _⟩ := h; rfl)) | inr h => (first | (obtain ⟨rfl, _⟩ := h; rfl) | (obtain ⟨_, rfl, _⟩ := h; rfl) | (obtain ⟨_, _, rfl, _⟩ := h; rfl) | (obtain ⟨_, _, _, rfl, _⟩ := h; rfl) | (obtain ⟨_, _, _, _, rfl, _⟩ := h; rfl) | (obtain ⟨_, _, _, _, _, rfl, _⟩ := h; rfl) | (obtain ⟨_, _, _, _, _, _, rfl, _⟩ := h; rfl) | (obtain ⟨_, _, _, _, _, _, _, rfl, _⟩ := h; rfl) | (obtain ⟨_, _, _, _, _, _, _, _, rfl, _⟩ := h; rfl))) | (obtain ⟨rfl, _⟩ := h; rfl) | (obtain ⟨_, rfl, _⟩ := h; rfl) | (obtain ⟨_, _, rfl, _⟩ := h; rfl) | (obtain ⟨_, _, _, rfl, _⟩ := h; rfl) | (obtain ⟨_, _, _, _, rfl, _⟩ := h; rfl) | (obtain ⟨_, _, _, _, _, rfl, _⟩ := h; rfl) | (obtain ⟨_, _, _, _, _, _, rfl, _⟩ := h; rfl) | (obtain ⟨_, _, _, _, _, _, _, rfl, _⟩ := h; rfl) | (obtain ⟨_, _, _, _, _, _, _, _, rfl, _⟩ := h; rfl)) p_law
end K05

/-! the head: printed by gen.py -/
namespace K05
open PySem PySem.Spec PyProof.Rows L2 DL
def dd_l_cell_at : He.DefD := ⟨("_law_cell_at", none), "_law_cell_at", "_law_cell_at", defArgs s_l_cell_at, defBody s_l_cell_at, defScope s_l_cell_at, [], []⟩
def dd_l_box : He.DefD := ⟨("_law_box", none), "_law_box", "_law_box", defArgs s_l_box, defBody s_l_box, defScope s_l_box, [], []⟩
def dd_l_text : He.DefD := ⟨("_law_text", none), "_law_text", "_law_text", defArgs s_l_text, defBody s_l_text, defScope s_l_text, [], []⟩
def dd_l_number : He.DefD := ⟨("_law_number", none), "_law_number", "_law_number", defArgs s_l_number, defBody s_l_number, defScope s_l_number, [], []⟩
def dd_l_within : He.DefD := ⟨("_law_within", none), "_law_within", "_law_within", defArgs s_l_within, defBody s_l_within, defScope s_l_within, [], []⟩
def dd_l_read : He.DefD := ⟨("_law_read", none), "_law_read", "_law_read", defArgs s_l_read, defBody s_l_read, defScope s_l_read, [], []⟩
def dd_l_take : He.DefD := ⟨("_law_take", none), "_law_take", "_law_take", defArgs s_l_take, defBody s_l_take, defScope s_l_take, [], []⟩
def dd_l_spot : He.DefD := ⟨("_law_spot", none), "_law_spot", "_law_spot", defArgs s_l_spot, defBody s_l_spot, defScope s_l_spot, [], []⟩
def dd_l_bent : He.DefD := ⟨("_law_bent", none), "_law_bent", "_law_bent", defArgs s_l_bent, defBody s_l_bent, defScope s_l_bent, [], []⟩
def dd_l_same : He.DefD := ⟨("_law_same", none), "_law_same", "_law_same", defArgs s_l_same, defBody s_l_same, defScope s_l_same, [], []⟩
def dd_Place_str : He.DefD := ⟨("Place", some "__str__"), "__str__", "Place.__str__", defArgs s_Place_str, defBody s_Place_str, defScope s_Place_str, [], []⟩
def dd_figures_in : He.DefD := ⟨("figures_in", none), "figures_in", "figures_in", defArgs s_figures_in, defBody s_figures_in, defScope s_figures_in, [], []⟩
def dd_number_in : He.DefD := ⟨("number_in", none), "number_in", "number_in", defArgs s_number_in, defBody s_number_in, defScope s_number_in, [], []⟩
def dd_numbers_in : He.DefD := ⟨("numbers_in", none), "numbers_in", "numbers_in", defArgs s_numbers_in, defBody s_numbers_in, defScope s_numbers_in, [], []⟩
def dd_is_number : He.DefD := ⟨("is_number", none), "is_number", "is_number", defArgs s_is_number, defBody s_is_number, defScope s_is_number, [], []⟩
def dd_is_between : He.DefD := ⟨("is_between", none), "is_between", "is_between", defArgs s_is_between, defBody s_is_between, defScope s_is_between, [], []⟩
def dd_is_line : He.DefD := ⟨("is_line", none), "is_line", "is_line", defArgs s_is_line, defBody s_is_line, defScope s_is_line, [], [("least", .int (1)), ("most", .int (1000000))]⟩
def dd_is_last : He.DefD := ⟨("is_last", none), "is_last", "is_last", defArgs s_is_last, defBody s_is_last, defScope s_is_last, [], []⟩
def dd_is_column : He.DefD := ⟨("is_column", none), "is_column", "is_column", defArgs s_is_column, defBody s_is_column, defScope s_is_column, [], [("least", .int (0))]⟩
def dd_is_begin : He.DefD := ⟨("is_begin", none), "is_begin", "is_begin", defArgs s_is_begin, defBody s_is_begin, defScope s_is_begin, [], []⟩
def dd_is_end : He.DefD := ⟨("is_end", none), "is_end", "is_end", defArgs s_is_end, defBody s_is_end, defScope s_is_end, [], []⟩
def dd_Place_init : He.DefD := ⟨("Place", some "__init__"), "__init__", "Place.__init__", defArgs s_Place_init, defBody s_Place_init, defScope s_Place_init, [.non, .non], [("begin", .non), ("end", .non)]⟩
def dd_place_in : He.DefD := ⟨("place_in", none), "place_in", "place_in", defArgs s_place_in, defBody s_place_in, defScope s_place_in, [], []⟩
def dd_l_seen : He.DefD := ⟨("_law_seen", none), "_law_seen", "_law_seen", defArgs s_l_seen, defBody s_l_seen, defScope s_l_seen, [], []⟩
def dd_l_alone : He.DefD := ⟨("_law_alone", none), "_law_alone", "_law_alone", defArgs s_l_alone, defBody s_l_alone, defScope s_l_alone, [], []⟩
def dd_l_told : He.DefD := ⟨("_law_told", none), "_law_told", "_law_told", defArgs s_l_told, defBody s_l_told, defScope s_l_told, [], []⟩
def dd_law : He.DefD := ⟨("law", none), "law", "law", defArgs s_law, defBody s_law, defScope s_law, [], []⟩
def dd_I_BadPlace : He.DefD := ⟨("BadPlace", some "__init__"), "__init__", "BadPlace.__init__", defArgs sI_BadPlace, defBody sI_BadPlace, defScope sI_BadPlace, [], []⟩
def dd_I_BadText : He.DefD := ⟨("BadText", some "__init__"), "__init__", "BadText.__init__", defArgs sI_BadText, defBody sI_BadText, defScope sI_BadText, [], []⟩
def fnL : List He.DefD := [dd_l_cell_at, dd_l_box, dd_l_text, dd_l_number, dd_l_within, dd_l_read, dd_l_take, dd_l_spot, dd_l_bent, dd_l_same, dd_Place_str, dd_figures_in, dd_number_in, dd_numbers_in, dd_is_number, dd_is_between, dd_is_line, dd_is_last, dd_is_column, dd_is_begin, dd_is_end, dd_Place_init, dd_place_in, dd_l_seen, dd_l_alone, dd_l_told, dd_law, dd_I_BadPlace, dd_I_BadText]
def exL : List (PySem.W.Frag → Bool) := [errB bValue "BadPlace" "part", errB bValue "BadText" "text", fun K => decide (PySem.W.kitOne K (.ref (He.ga K "BadText")) (.ref (He.ga K "Torn")) = some false), fun K => decide (PySem.W.kitOne K (.ref (He.ga K "BadText")) (.ref (He.ga K "BadRow")) = some false), fun K => decide (PySem.W.kitOne K (.ref (He.ga K "BadText")) (.ref (He.ga K "BadText")) = some true), fun K => decide (PySem.W.kitOne K (.ref (He.ga K "BadText")) (.ref (He.ga K "BadPlace")) = some false), fun K => decide (PySem.W.kitOne K (.ref (He.ga K "BadText")) (.ref (He.ga K "BadTurn")) = some false), fun K => decide (PySem.W.kitOne K (.ref (He.ga K "BadText")) (.ref (He.ga K "BadEntry")) = some false), fun K => decide (PySem.W.kitOne K (.ref (He.ga K "BadText")) (.ref (He.ga K "Broken")) = some false), fun K => decide (PySem.W.kitOne K (.ref (He.ga K "BadText")) (.ref (He.ga K "NoRoom")) = some false), fun K => decide (PySem.W.kitOne K (.ref (He.ga K "BadText")) (.ref (He.ga K "NoDeed")) = some false), fun K => decide (PySem.W.kitOne K (.ref (He.ga K "BadText")) (.ref (He.ga K "NoCard")) = some false), fun K => decide (PySem.W.kitOne K (.ref (He.ga K "BadText")) (.type "ValueError") = some true), clsB "Place", fldB "Place" "begin", fldB "Place" "end", fldB "Place" "last", fldB "Place" "line", metB "Place" "__str__"]
def faL : List He.Fa := [.glo "_law_cell_at", .glo "_law_box", .glo "_law_text", .glo "_law_number", .glo "_law_within", .glo "_law_read", .glo "_law_take", .glo "_law_spot", .glo "_law_bent", .glo "_law_same", .glo "figures_in", .glo "number_in", .glo "numbers_in", .glo "is_number", .glo "is_between", .glo "is_line", .glo "is_last", .glo "is_column", .glo "is_begin", .glo "is_end", .glo "place_in", .glo "_law_seen", .glo "_law_alone", .glo "_law_told", .glo "law", .glo "BadEntry", .glo "BadPlace", .glo "BadRow", .glo "BadText", .glo "BadTurn", .glo "Broken", .glo "NoCard", .glo "NoDeed", .glo "NoRoom", .glo "Place", .glo "Torn", .free "ValueError", .free "abs", .free "all", .free "bool", .free "int", .free "isinstance", .free "len", .free "list", .free "max", .free "min", .free "range", .free "str", .free "tuple", .free "zip", .str "FIGURES" "0123456789", .int "MOST_BELOW" 99, .int "MOST_COLUMN" 10000, .int "MOST_FIGURES" 7, .int "MOST_LINE" 1000000, .str "NOWHERE" "-"]
abbrev Rw : PySem.W.OpenRow := PySem.W.OpenLaw.row PySem.Challenge.rw_cardlines_k05_texts_of_places_spoilt
abbrev hk : PySem.W.Hook := hookX 5 faL fnL exL
def ob (s : PySem.W.SharedT) : Bool × He.AlD := obX 5 faL fnL exL (HandSHeadRun.getT s)
theorem ob_eq (s : PySem.W.SharedT) : ob s = hk.obs s.abs := obX_eq (HandSHeadRun.getT_eq s)
def loose : List Str := (["_wall", "BadPlace", "BadText", "BadRow", "Torn", "Broken", "BadEntry", "BadTurn", "NoCard", "NoDeed", "NoRoom", "FIGURES", "is_number", "is_between", "figures_in", "MOST_LINE"] : List Str) ++ (["MOST_COLUMN", "MOST_BELOW", "is_line", "is_column", "is_last", "is_begin", "is_end", "Place", "NOWHERE", "MOST_FIGURES", "number_in", "numbers_in", "place_in", "_law_cell_at", "_law_box", "_law_take"] : List Str) ++ (["_law_spot", "_law_same", "_law_seen", "_law_alone", "_law_text", "_law_number", "_law_within", "_law_read", "_law_bent", "_law_told"] : List Str)
theorem run (w : World) : HandSHeadRun.RunEq Rw (PySem.W.view Rw.prog [47]) hk ob 5200 loose w := by
  intro os
  kernel_rfl
theorem ctx {K : PySem.W.Frag} {h : Heap} {mg : Str → Option Value} (X : K.In h) (G : h.Ns mainGlobals mg) (c : He.SaysD faL fnL K) (cx : ∀ f ∈ exL, f K = true) : Ctx K mg where
  f_l_cell_at := c.def_ 0 (d := dd_l_cell_at) rfl
  g_l_cell_at := He.glo_ok X G (c.fact 0 (f := .glo "_law_cell_at") rfl)
  f_l_box := c.def_ 1 (d := dd_l_box) rfl
  g_l_box := He.glo_ok X G (c.fact 1 (f := .glo "_law_box") rfl)
  f_l_text := c.def_ 2 (d := dd_l_text) rfl
  g_l_text := He.glo_ok X G (c.fact 2 (f := .glo "_law_text") rfl)
  f_l_number := c.def_ 3 (d := dd_l_number) rfl
  g_l_number := He.glo_ok X G (c.fact 3 (f := .glo "_law_number") rfl)
  f_l_within := c.def_ 4 (d := dd_l_within) rfl
  g_l_within := He.glo_ok X G (c.fact 4 (f := .glo "_law_within") rfl)
  f_l_read := c.def_ 5 (d := dd_l_read) rfl
  g_l_read := He.glo_ok X G (c.fact 5 (f := .glo "_law_read") rfl)
  f_l_take := c.def_ 6 (d := dd_l_take) rfl
  g_l_take := He.glo_ok X G (c.fact 6 (f := .glo "_law_take") rfl)
  f_l_spot := c.def_ 7 (d := dd_l_spot) rfl
  g_l_spot := He.glo_ok X G (c.fact 7 (f := .glo "_law_spot") rfl)
  f_l_bent := c.def_ 8 (d := dd_l_bent) rfl
  g_l_bent := He.glo_ok X G (c.fact 8 (f := .glo "_law_bent") rfl)
  f_l_same := c.def_ 9 (d := dd_l_same) rfl
  g_l_same := He.glo_ok X G (c.fact 9 (f := .glo "_law_same") rfl)
  f_Place_str := c.def_ 10 (d := dd_Place_str) rfl
  f_figures_in := c.def_ 11 (d := dd_figures_in) rfl
  g_figures_in := He.glo_ok X G (c.fact 10 (f := .glo "figures_in") rfl)
  f_number_in := c.def_ 12 (d := dd_number_in) rfl
  g_number_in := He.glo_ok X G (c.fact 11 (f := .glo "number_in") rfl)
  f_numbers_in := c.def_ 13 (d := dd_numbers_in) rfl
  g_numbers_in := He.glo_ok X G (c.fact 12 (f := .glo "numbers_in") rfl)
  f_is_number := c.def_ 14 (d := dd_is_number) rfl
  g_is_number := He.glo_ok X G (c.fact 13 (f := .glo "is_number") rfl)
  f_is_between := c.def_ 15 (d := dd_is_between) rfl
  g_is_between := He.glo_ok X G (c.fact 14 (f := .glo "is_between") rfl)
  f_is_line := c.def_ 16 (d := dd_is_line) rfl
  g_is_line := He.glo_ok X G (c.fact 15 (f := .glo "is_line") rfl)
  f_is_last := c.def_ 17 (d := dd_is_last) rfl
  g_is_last := He.glo_ok X G (c.fact 16 (f := .glo "is_last") rfl)
  f_is_column := c.def_ 18 (d := dd_is_column) rfl
  g_is_column := He.glo_ok X G (c.fact 17 (f := .glo "is_column") rfl)
  f_is_begin := c.def_ 19 (d := dd_is_begin) rfl
  g_is_begin := He.glo_ok X G (c.fact 18 (f := .glo "is_begin") rfl)
  f_is_end := c.def_ 20 (d := dd_is_end) rfl
  g_is_end := He.glo_ok X G (c.fact 19 (f := .glo "is_end") rfl)
  f_Place_init := c.def_ 21 (d := dd_Place_init) rfl
  f_place_in := c.def_ 22 (d := dd_place_in) rfl
  g_place_in := He.glo_ok X G (c.fact 20 (f := .glo "place_in") rfl)
  f_l_seen := c.def_ 23 (d := dd_l_seen) rfl
  g_l_seen := He.glo_ok X G (c.fact 21 (f := .glo "_law_seen") rfl)
  f_l_alone := c.def_ 24 (d := dd_l_alone) rfl
  g_l_alone := He.glo_ok X G (c.fact 22 (f := .glo "_law_alone") rfl)
  f_l_told := c.def_ 25 (d := dd_l_told) rfl
  g_l_told := He.glo_ok X G (c.fact 23 (f := .glo "_law_told") rfl)
  f_law := c.def_ 26 (d := dd_law) rfl
  g_law := He.glo_ok X G (c.fact 24 (f := .glo "law") rfl)
  g_BadEntry := He.glo_ok X G (c.fact 25 (f := .glo "BadEntry") rfl)
  g_BadPlace := He.glo_ok X G (c.fact 26 (f := .glo "BadPlace") rfl)
  g_BadRow := He.glo_ok X G (c.fact 27 (f := .glo "BadRow") rfl)
  g_BadText := He.glo_ok X G (c.fact 28 (f := .glo "BadText") rfl)
  g_BadTurn := He.glo_ok X G (c.fact 29 (f := .glo "BadTurn") rfl)
  g_Broken := He.glo_ok X G (c.fact 30 (f := .glo "Broken") rfl)
  g_NoCard := He.glo_ok X G (c.fact 31 (f := .glo "NoCard") rfl)
  g_NoDeed := He.glo_ok X G (c.fact 32 (f := .glo "NoDeed") rfl)
  g_NoRoom := He.glo_ok X G (c.fact 33 (f := .glo "NoRoom") rfl)
  g_Place := He.glo_ok X G (c.fact 34 (f := .glo "Place") rfl)
  g_Torn := He.glo_ok X G (c.fact 35 (f := .glo "Torn") rfl)
  er_BadPlace := (errB_ok bValue_ok (cx _ (List.mem_of_getElem? (i := 0) rfl))).1
  ex_BadPlace := (errB_ok bValue_ok (cx _ (List.mem_of_getElem? (i := 0) rfl))).2.1
  ox_BadPlace := (errB_ok bValue_ok (cx _ (List.mem_of_getElem? (i := 0) rfl))).2.2
  er_BadText := (errB_ok bValue_ok (cx _ (List.mem_of_getElem? (i := 1) rfl))).1
  ex_BadText := (errB_ok bValue_ok (cx _ (List.mem_of_getElem? (i := 1) rfl))).2.1
  ox_BadText := (errB_ok bValue_ok (cx _ (List.mem_of_getElem? (i := 1) rfl))).2.2
  fi_BadPlace := c.def_ 27 (d := dd_I_BadPlace) rfl
  fi_BadText := c.def_ 28 (d := dd_I_BadText) rfl
  kt0 := of_decide_eq_true (cx _ (List.mem_of_getElem? (i := 2) rfl))
  kt1 := of_decide_eq_true (cx _ (List.mem_of_getElem? (i := 3) rfl))
  kt2 := of_decide_eq_true (cx _ (List.mem_of_getElem? (i := 4) rfl))
  kt3 := of_decide_eq_true (cx _ (List.mem_of_getElem? (i := 5) rfl))
  kt4 := of_decide_eq_true (cx _ (List.mem_of_getElem? (i := 6) rfl))
  kt5 := of_decide_eq_true (cx _ (List.mem_of_getElem? (i := 7) rfl))
  kt6 := of_decide_eq_true (cx _ (List.mem_of_getElem? (i := 8) rfl))
  kt7 := of_decide_eq_true (cx _ (List.mem_of_getElem? (i := 9) rfl))
  kt8 := of_decide_eq_true (cx _ (List.mem_of_getElem? (i := 10) rfl))
  kt9 := of_decide_eq_true (cx _ (List.mem_of_getElem? (i := 11) rfl))
  kt10 := of_decide_eq_true (cx _ (List.mem_of_getElem? (i := 12) rfl))
  cl_Place := clsB_ok (cx _ (List.mem_of_getElem? (i := 13) rfl))
  na_Place_begin := fldB_ok (cx _ (List.mem_of_getElem? (i := 14) rfl))
  na_Place_end := fldB_ok (cx _ (List.mem_of_getElem? (i := 15) rfl))
  na_Place_last := fldB_ok (cx _ (List.mem_of_getElem? (i := 16) rfl))
  na_Place_line := fldB_ok (cx _ (List.mem_of_getElem? (i := 17) rfl))
  mt_Place___str__ := metB_ok (cx _ (List.mem_of_getElem? (i := 18) rfl))
  b_ValueError := He.free_ok X G (c.fact 36 (f := .free "ValueError") rfl)
  b_abs := He.free_ok X G (c.fact 37 (f := .free "abs") rfl)
  b_all := He.free_ok X G (c.fact 38 (f := .free "all") rfl)
  b_bool := He.free_ok X G (c.fact 39 (f := .free "bool") rfl)
  b_int := He.free_ok X G (c.fact 40 (f := .free "int") rfl)
  b_isinstance := He.free_ok X G (c.fact 41 (f := .free "isinstance") rfl)
  b_len := He.free_ok X G (c.fact 42 (f := .free "len") rfl)
  b_list := He.free_ok X G (c.fact 43 (f := .free "list") rfl)
  b_max := He.free_ok X G (c.fact 44 (f := .free "max") rfl)
  b_min := He.free_ok X G (c.fact 45 (f := .free "min") rfl)
  b_range := He.free_ok X G (c.fact 46 (f := .free "range") rfl)
  b_str := He.free_ok X G (c.fact 47 (f := .free "str") rfl)
  b_tuple := He.free_ok X G (c.fact 48 (f := .free "tuple") rfl)
  b_zip := He.free_ok X G (c.fact 49 (f := .free "zip") rfl)
  c_FIGURES := He.str_ok X G (c.fact 50 (f := .str "FIGURES" "0123456789") rfl)
  c_MOST_BELOW := He.int_ok X G (c.fact 51 (f := .int "MOST_BELOW" 99) rfl)
  c_MOST_COLUMN := He.int_ok X G (c.fact 52 (f := .int "MOST_COLUMN" 10000) rfl)
  c_MOST_FIGURES := He.int_ok X G (c.fact 53 (f := .int "MOST_FIGURES" 7) rfl)
  c_MOST_LINE := He.int_ok X G (c.fact 54 (f := .int "MOST_LINE" 1000000) rfl)
  c_NOWHERE := He.str_ok X G (c.fact 55 (f := .str "NOWHERE" "-") rfl)
theorem facts {P : Program} {w : World} {K : PySem.W.Frag} {h : Heap} {mg : Str → Option Value} {f : Addr} (X : K.In h) (G : h.Ns mainGlobals mg) (hfa : mg ("law" : Str) = some (.ref f)) (c : He.SaysD faL fnL K) (cx : ∀ f ∈ exL, f K = true) :
    ∃ fd : FuncData, (∀ (s : Shared) (v : Value), BindsTo s fd ⟨[v], []⟩ [("_law_script", v)]) ∧ ∀ base : Heap, K.In base → base.Ns mainGlobals mg → FnOk P w K mg base CX0 lawLev f fd ["_law_script"] (LSp K sp_law) := by
  have T := ctx X G c cx
  have e := hfa.symm.trans T.g_law
  cases e
  obtain ⟨fd, F⟩ := T.f_law
  have b := FunD.bindsA (ps := ["_law_script"]) F fun _ _ _ _ _ _ us hl => match us, hl with | [_], _ => rfl
  refine ⟨fd, fun s v => b s [v] rfl, fun base _ _ => ?_⟩
  obtain ⟨fd', F', G', _⟩ := all_ok (P := P) (w := w) (base := base) T
  have : fd' = fd := fd_eq F' F
  subst this
  first | exact G' | exact fn_calm G' (fun _ _ _ h => h)
end K05
open PySem PySem.W PySem.Calls PyProof.Rows
set_option maxRecDepth 100000 in
set_option maxHeartbeats 0 in
theorem PySem.Challenge.cw_cardlines_k05_texts_of_places_spoilt_holds : PySem.Challenge.rw_cardlines_k05_texts_of_places_spoilt.Holds := by
  w_on; o_law
  refine HandSHeadRun.head_any (r := OpenLaw.row PySem.Challenge.rw_cardlines_k05_texts_of_places_spoilt) (q := view (OpenLaw.row PySem.Challenge.rw_cardlines_k05_texts_of_places_spoilt).prog [47]) (H := K05.hk) (ob := K05.ob) (M := 5200) (loose := K05.loose) (d := HandSHeadRun.topDef (OpenLaw.row PySem.Challenge.rw_cardlines_k05_texts_of_places_spoilt).prog 47) (kwd := []) K05.ob_eq
    (by kernel_rfl) (fun s => by kernel_rfl) K05.run (by kernel_rfl) (by kernel_rfl) (by kernel_rfl) (by rfl) (by first | assumption | decide +kernel) (by decide +kernel) ⟨rfl, rfl, rfl, rfl, rfl, by decide +kernel⟩ ?hw ?hc
  case hw => w_witness2
  case hc =>
    refine L2.walk_ofE (l := PySem.Challenge.rw_cardlines_k05_texts_of_places_spoilt) (n := 63) (k := K05.lawLev) (x := "_law_script") (CX := L2.CX0) rfl (by decide) (by kernel_rfl) ⟨rfl, by decide, by decide⟩ ?F (fun _ _ _ _ z => z)
    intro w mg fa h Y G hmg0
    obtain ⟨K, KX, c, cx⟩ := Y
    have hmg : mg ("law" : PySem.Str) = some (.ref fa) := by
      have e : (HandSHeadRun.topDef (OpenLaw.row PySem.Challenge.rw_cardlines_k05_texts_of_places_spoilt).prog 47).name = ("law" : PySem.Str) := by kernel_rfl
      rw [← e]
      exact hmg0
    obtain ⟨fd, hb, hF⟩ := K05.facts (P := (PySem.Challenge.rw_cardlines_k05_texts_of_places_spoilt).prog) (w := w) KX G hmg c cx
    exact ⟨K, fd, DL.LSp K K05.sp_law, KX, hb, fun H a ns hl _ hS => DL.law_start K05.sp_law_ok hl hS, hF⟩
