import PyProof.Rows.All
import Wide.All
import OpenK.AllK
import Wide.FinOn
import HandS.ForMost
import HandS.ForExc
import HandS.CallSlots
import HandS.Wide
import HandS.TupAny
import HandS.Deep
import HandS.Ends
import KE.SortData
import HandS.SortKw
import KE.SortKeyHeap
import HandS.Style
import HandS.Text
import HandS.IsInst
import HandS.TryMany
import HandS.TryOnly
import HandS.ExcInit
import HandS.ExcIs
import HandS.ExcValue
import HandS.ExcField
import KE.KExcIs
import PyProof.ExcBaseAll.OverflowError
import PyProof.ExcBaseAll.IndexError
import PyProof.ExcBaseAll.LookupError
import HandS.Sort
import PyProof.Draws
import HandS.Conv
import KE.KDictList
import HandS.DictComp
import HandS.OwnEq
import HandS.NamedTupGet
import HandS.FStr
import HandS.RaiseMore
import PyProof.StrBlock2
import KE.IntTextLaws
import PyProof.Rows.TupIter
import HandS.Zip
import HandS.MakeKw
import HandS.WordsExc
import PySem.Challenge.RW_likehouses_k03_refusals_by_their_kinds
set_option Elab.async false
set_option linter.all false
set_option maxRecDepth 100000
set_option maxHeartbeats 4000000
/-! LHCore: data as trees, the relation between trees and the tracked heap, states. -/
namespace LH
open PySem PySem.Spec PyProof.Rows L2

abbrev Fg := PySem.W.Frag
abbrev Mg := Str → Option Value
abbrev St := L2.St

/-- data: trees; ro is a list that is read alone (the script); hdl n is the n-th shared mutable object -/
inductive D where
  | non | bl (b : Bool) | int (i : Int) | str (x : Str)
  | lst (xs : List D) | tup (xs : List D) | ro (xs : List D)
  | dct (kvs : List (Key × D)) | dcT (kvs : List (List Key × D))
  | obj (c : Str) (fs : List (Str × D)) | hdl (n : Nat)
  | exc (c : Str) (fs : List (Str × D))
  | fn (c : Str)

instance : Inhabited D := ⟨.non⟩

/-- an exception of the class at C, its own dict at d, at a -/
def ExV (C d a : Addr) : HO := .ext fun h => ∃ (oe : Obj) (vs : Array Value), h.get? a = some oe ∧ Zc (.ref C) (some d) oe ∧ oe.data = .fields vs

mutual
inductive Rep (K : Fg) (mg : Mg) (η : List Addr) (M : Hp) : V → D → Prop
  | non : Rep K mg η M .non .non
  | bl (b : Bool) : Rep K mg η M (.bl b) (.bl b)
  | int (i : Int) : Rep K mg η M (.int i) (.int i)
  | str (x : Str) : Rep K mg η M (.str x) (.str x)
  | lst {a : Addr} {xs : List V} {ds : List D} : M a = some (.lst xs) → RepL K mg η M xs ds → Rep K mg η M (.ref a) (.lst ds)
  | ro {a : Addr} {xs : List V} {ds : List D} : SqL K M a xs → RepL K mg η M xs ds → Rep K mg η M (.ref a) (.ro ds)
  | tup {a : Addr} {xs : List V} {ds : List D} : M a = some (.tup xs) → RepL K mg η M xs ds → Rep K mg η M (.ref a) (.tup ds)
  | dct {a : Addr} {kvs : List (Key × V)} {eds : List (Key × D)} : M a = some (.dK kvs) → kvs.map (·.1) = eds.map (·.1) → RepL K mg η M (kvs.map (·.2)) (eds.map (·.2)) → Rep K mg η M (.ref a) (.dct eds)
  | dcT {a : Addr} {kvs : List (List Key × V)} {eds : List (List Key × D)} : M a = some (.dT kvs) → kvs.map (·.1) = eds.map (·.1) → RepL K mg η M (kvs.map (·.2)) (eds.map (·.2)) → Rep K mg η M (.ref a) (.dcT eds)
  | obj {c : Str} {a C dx : Addr} {fs : List (Str × V)} {fds : List (Str × D)} : mg c = some (.ref C) → M a = some (.ins C dx fs) → fs.map (·.1) = fds.map (·.1) → RepL K mg η M (fs.map (·.2)) (fds.map (·.2)) → Rep K mg η M (.ref a) (.obj c fds)
  | hdl {n : Nat} {a : Addr} : η[n]? = some a → Rep K mg η M (.ref a) (.hdl n)
  | exc {c : Str} {a C dd : Addr} {fs : List (Str × V)} {fds : List (Str × D)} : mg c = some (.ref C) → M a = some (ExV C dd a) → M dd = some (.xd fs) → fs.map (·.1) = fds.map (·.1) → RepL K mg η M (fs.map (·.2)) (fds.map (·.2)) → Rep K mg η M (.ref a) (.exc c fds)
  | fn {c : Str} {a : Addr} : mg c = some (.ref a) → Rep K mg η M (.ref a) (.fn c)
inductive RepL (K : Fg) (mg : Mg) (η : List Addr) (M : Hp) : List V → List D → Prop
  | nil : RepL K mg η M [] []
  | cons {v : V} {vs : List V} {d : D} {ds : List D} : Rep K mg η M v d → RepL K mg η M vs ds → RepL K mg η M (v :: vs) (d :: ds)
end

/-- what grows: the frozen region and the handles -/
structure Ext (η : List Addr) (M : Hp) (η' : List Addr) (M' : Hp) : Prop where
  m : Same M M'
  h : ∃ r, η' = η ++ r
theorem Ext.refl {η : List Addr} {M : Hp} : Ext η M η M := ⟨Same.refl M, [], by simp⟩
theorem Ext.trans {η η1 η2 : List Addr} {M M1 M2 : Hp} (a : Ext η M η1 M1) (b : Ext η1 M1 η2 M2) : Ext η M η2 M2 := by
  obtain ⟨m1, r1, e1⟩ := a
  obtain ⟨m2, r2, e2⟩ := b
  exact ⟨m1.trans m2, r1 ++ r2, by rw [e2, e1, List.append_assoc]⟩
theorem Ext.get {η η' : List Addr} {M M' : Hp} (x : Ext η M η' M') {n : Nat} {a : Addr} (h : η[n]? = some a) : η'[n]? = some a := by
  obtain ⟨_, r, e⟩ := x
  rw [e, List.getElem?_append_left (List.getElem?_eq_some_iff.mp h).1]
  exact h
theorem Ext.mem {η η' : List Addr} {M M' : Hp} (x : Ext η M η' M') {a : Addr} (h : a ∈ η) : a ∈ η' := by
  obtain ⟨_, r, e⟩ := x
  rw [e]; exact List.mem_append_left _ h

section
variable {K : Fg} {mg : Mg} {η η' : List Addr} {M M' H H' : Hp}
theorem SqT.same {a : Addr} {xs : List V} (e : Same M M') (h : SqT K M a xs) : SqT K M' a xs := by
  rcases h with (h | ⟨o, h⟩) | h
  · exact .inl (.inl (e _ _ h))
  · exact .inl (.inr ⟨o, e _ _ h⟩)
  · exact .inr h
mutual
theorem Rep.mono (x : Ext η M η' M') : ∀ {d : D} {v : V}, Rep K mg η M v d → Rep K mg η' M' v d
  | .non, _, .non => .non
  | .bl _, _, .bl _ => .bl _
  | .int _, _, .int _ => .int _
  | .str _, _, .str _ => .str _
  | .lst _, _, .lst h hs => .lst (x.m _ _ h) (RepL.mono x hs)
  | .ro _, _, .ro h hs => .ro (x.m.seq h) (RepL.mono x hs)
  | .tup _, _, .tup h hs => .tup (x.m _ _ h) (RepL.mono x hs)
  | .dct _, _, .dct h e hs => .dct (x.m _ _ h) e (RepL.mono x hs)
  | .dcT _, _, .dcT h e hs => .dcT (x.m _ _ h) e (RepL.mono x hs)
  | .obj _ _, _, .obj g h e hs => .obj g (x.m _ _ h) e (RepL.mono x hs)
  | .hdl _, _, .hdl h => .hdl (x.get h)
  | .exc _ _, _, .exc g h h2 e hs => .exc g (x.m _ _ h) (x.m _ _ h2) e (RepL.mono x hs)
  | .fn _, _, .fn h => .fn h
theorem RepL.mono (x : Ext η M η' M') : ∀ {ds : List D} {vs : List V}, RepL K mg η M vs ds → RepL K mg η' M' vs ds
  | [], _, .nil => .nil
  | _ :: _, _, .cons h hs => .cons (Rep.mono x h) (RepL.mono x hs)
end
theorem RepL.length : ∀ {ds : List D} {vs : List V}, RepL K mg η M vs ds → vs.length = ds.length
  | [], _, .nil => rfl
  | _ :: _, _, .cons _ hs => congrArg Nat.succ (RepL.length hs)
theorem RepL.get : ∀ {ds : List D} {vs : List V} {i : Nat} {v : V}, RepL K mg η M vs ds → vs[i]? = some v → ∃ d, ds[i]? = some d ∧ Rep K mg η M v d
  | [], _, _, _, .nil, h => by simp at h
  | _ :: _, _, 0, _, .cons h _, e => by simp at e; subst e; exact ⟨_, rfl, h⟩
  | _ :: _, _, i + 1, _, .cons _ hs, e => by
    obtain ⟨d, h1, h2⟩ := RepL.get (i := i) hs (by simpa using e)
    exact ⟨d, by simpa using h1, h2⟩
theorem RepL.getD' : ∀ {ds : List D} {vs : List V} {i : Nat} {d : D}, RepL K mg η M vs ds → ds[i]? = some d → ∃ v, vs[i]? = some v ∧ Rep K mg η M v d
  | [], _, _, _, .nil, h => by simp at h
  | _ :: _, _, 0, _, .cons h _, e => by simp at e; subst e; exact ⟨_, rfl, h⟩
  | _ :: _, _, i + 1, _, .cons _ hs, e => by
    obtain ⟨d, h1, h2⟩ := RepL.getD' (i := i) hs (by simpa using e)
    exact ⟨d, by simpa using h1, h2⟩
theorem RepL.append : ∀ {ds ds' : List D} {vs vs' : List V}, RepL K mg η M vs ds → RepL K mg η M vs' ds' → RepL K mg η M (vs ++ vs') (ds ++ ds')
  | [], _, _, _, .nil, s => s
  | _ :: _, _, _, _, .cons h hs, s => .cons h (RepL.append hs s)
theorem RepL.set : ∀ {ds : List D} {vs : List V} {d : D} {v : V} (i : Nat), RepL K mg η M vs ds → Rep K mg η M v d → RepL K mg η M (vs.set i v) (ds.set i d)
  | [], _, _, _, _, .nil, _ => .nil
  | _ :: _, _, _, _, 0, .cons _ hs, s => .cons s hs
  | _ :: _, _, _, _, i + 1, .cons h hs, s => .cons h (RepL.set i hs s)
theorem RepL.take : ∀ {ds : List D} {vs : List V} (n : Nat), RepL K mg η M vs ds → RepL K mg η M (vs.take n) (ds.take n)
  | _, _, 0, _ => by simpa using RepL.nil
  | [], _, _ + 1, .nil => .nil
  | _ :: _, _, n + 1, .cons h hs => .cons h (RepL.take n hs)
theorem RepL.drop : ∀ {ds : List D} {vs : List V} (n : Nat), RepL K mg η M vs ds → RepL K mg η M (vs.drop n) (ds.drop n)
  | _, _, 0, h => h
  | [], _, _ + 1, .nil => .nil
  | _ :: _, _, n + 1, .cons _ hs => RepL.drop n hs
theorem RepL.eraseIdx : ∀ {ds : List D} {vs : List V} (i : Nat), RepL K mg η M vs ds → RepL K mg η M (vs.eraseIdx i) (ds.eraseIdx i)
  | [], _, _, .nil => .nil
  | _ :: _, _, 0, .cons _ hs => hs
  | _ :: _, _, i + 1, .cons h hs => .cons h (RepL.eraseIdx i hs)
theorem RepL.reverse : ∀ {ds : List D} {vs : List V}, RepL K mg η M vs ds → RepL K mg η M vs.reverse ds.reverse
  | [], _, .nil => .nil
  | _ :: _, _, .cons h hs => by
    simp only [List.reverse_cons]
    exact (RepL.reverse hs).append (.cons h .nil)

/-- a mutable (or new) object at a: its top as it stands in H, its children frozen in M -/
def At (K : Fg) (mg : Mg) (η : List Addr) (M H : Hp) (a : Addr) : D → Prop
  | .lst ds => ∃ xs, H a = some (.lst xs) ∧ RepL K mg η M xs ds
  | .dct eds => ∃ kvs, H a = some (.dK kvs) ∧ kvs.map (·.1) = eds.map (·.1) ∧ RepL K mg η M (kvs.map (·.2)) (eds.map (·.2))
  | .dcT eds => ∃ kvs, H a = some (.dT kvs) ∧ kvs.map (·.1) = eds.map (·.1) ∧ RepL K mg η M (kvs.map (·.2)) (eds.map (·.2))
  | .obj c fds => ∃ C dx fs, mg c = some (.ref C) ∧ H a = some (.ins C dx fs) ∧ fs.map (·.1) = fds.map (·.1) ∧ RepL K mg η M (fs.map (·.2)) (fds.map (·.2))
  | _ => False
theorem At.mono (x : Ext η M η' M') {a : Addr} {d : D} (he : ∀ o, H a = some o → H' a = some o) (h : At K mg η M H a d) : At K mg η' M' H' a d := by
  cases d with
  | lst ds => obtain ⟨xs, e, r⟩ := h; exact ⟨xs, he _ e, r.mono x⟩
  | dct ds => obtain ⟨xs, e, k, r⟩ := h; exact ⟨xs, he _ e, k, r.mono x⟩
  | dcT ds => obtain ⟨xs, e, k, r⟩ := h; exact ⟨xs, he _ e, k, r.mono x⟩
  | obj c fds => obtain ⟨C, dx, fs, g, e, k, r⟩ := h; exact ⟨C, dx, fs, g, he _ e, k, r.mono x⟩
  | _ => exact False.elim h
theorem At.ex {a : Addr} {d : D} (h : At K mg η M H a d) : ∃ o, H a = some o := by
  cases d with
  | lst ds => obtain ⟨xs, e, r⟩ := h; exact ⟨_, e⟩
  | dct ds => obtain ⟨xs, e, k, r⟩ := h; exact ⟨_, e⟩
  | dcT ds => obtain ⟨xs, e, k, r⟩ := h; exact ⟨_, e⟩
  | obj c fds => obtain ⟨C, dx, fs, g, e, k, r⟩ := h; exact ⟨_, e⟩
  | _ => exact False.elim h
/-- the region with one object more -/
theorem At.frozen {a : Addr} {d : D} {o : HO} (x : Ext η M η' M') (he : H a = some o) (hm : M' a = some o) (h : At K mg η M H a d) : Rep K mg η' M' (.ref a) d := by
  cases d with
  | lst ds => obtain ⟨xs, e, r⟩ := h; rw [he] at e; cases e; exact .lst hm (r.mono x)
  | dct ds => obtain ⟨xs, e, k, r⟩ := h; rw [he] at e; cases e; exact .dct hm k (r.mono x)
  | dcT ds => obtain ⟨xs, e, k, r⟩ := h; rw [he] at e; cases e; exact .dcT hm k (r.mono x)
  | obj c fds => obtain ⟨C, dx, fs, g, e, k, r⟩ := h; rw [he] at e; cases e; exact .obj g hm k (r.mono x)
  | _ => exact False.elim h
end

/-! ### states -/
inductive Sl where
  | un | fz (d : D) | ow (d : D)
structure Cf where
  ρ : List Sl
  S : List D
/-- an expression's value: frozen data, the own object of a slot, a new object -/
inductive Rv where
  | fz (d : D) | loc (i : Nat) | nw (d : D)
/-- an exception: its class's name, its fields -/
structure Xc where
  cls : Str
  fs : List (Str × D)
inductive Res (α : Type) where
  | stuck | ok (a : α) (c : Cf) | err (x : Xc) (c : Cf)
def Res.bind {α β : Type} (r : Res α) (f : α → Cf → Res β) : Res β :=
  match r with
  | .stuck => .stuck
  | .ok a c => f a c
  | .err x c => .err x c

/-- the entry: heap, handles, region -/
structure En where
  H : Hp
  η : List Addr
  M : Hp

def SlotOk (K : Fg) (mg : Mg) (E : En) (η : List Addr) (M H : Hp) (sv : Option (Option V)) : Sl → Prop
  | .un => True
  | .fz d => ∃ v, sv = some (some v) ∧ Rep K mg η M v d
  | .ow d => ∃ a, sv = some (some (.ref a)) ∧ M a = none ∧ E.H a = none ∧ a ∉ η ∧ At K mg η M H a d
def Own (c : Cf) (σ : St) (a : Addr) : Prop := ∃ (i : Nat) (d : D), c.ρ[i]? = some (Sl.ow d) ∧ σ[i]? = some (some (V.ref a))

structure SR (K : Fg) (mg : Mg) (E : En) (η : List Addr) (M : Hp) (c : Cf) (σ : St) (H : Hp) : Prop where
  sub : Same M H
  len : σ.length = c.ρ.length
  slot : ∀ (i : Nat) (s : Sl), c.ρ[i]? = some s → SlotOk K mg E η M H (σ[i]?) s
  inj : ∀ (i j : Nat) (a : Addr) (d d' : D), c.ρ[i]? = some (.ow d) → c.ρ[j]? = some (.ow d') → σ[i]? = some (some (.ref a)) → σ[j]? = some (some (.ref a)) → i = j
  hlen : η.length = c.S.length
  hdl : ∀ (n : Nat) (a : Addr) (d : D), η[n]? = some a → c.S[n]? = some d → M a = none ∧ At K mg η M H a d
  hnd : η.Nodup
  fr : ∀ a o, E.H a = some o → a ∉ E.η → H a = some o
  pre : ∃ r, η = E.η ++ r
  new : ∀ a ∈ η, a ∈ E.η ∨ E.H a = none
  m0 : Same E.M M
  mn : ∀ a, E.M a = none → E.H a ≠ none → M a = none

section
variable {K : Fg} {mg : Mg} {E : En} {η η' : List Addr} {M M' H H' : Hp} {c c' : Cf} {σ σ' : St}
theorem SR.ext (s : SR K mg E η M c σ H) : Ext E.η E.M η M := ⟨s.m0, s.pre⟩
theorem SR.own (s : SR K mg E η M c σ H) {a : Addr} (o : Own c σ a) : M a = none ∧ E.H a = none ∧ a ∉ η ∧ ∃ u, H a = some u := by
  obtain ⟨i, d, h1, h2⟩ := o
  obtain ⟨b, e, q1, q2, q3, q4⟩ := s.slot i _ h1
  rw [e] at h2; cases h2
  exact ⟨q1, q2, q3, q4.ex⟩
theorem SR.hsome (s : SR K mg E η M c σ H) {a : Addr} (h : a ∈ η) : M a = none ∧ ∃ u, H a = some u := by
  obtain ⟨n, hn, rfl⟩ := List.mem_iff_getElem.mp h
  have hs : n < c.S.length := by rw [← s.hlen]; exact hn
  obtain ⟨q1, q2⟩ := s.hdl n η[n] c.S[n] (List.getElem?_eq_getElem hn) (List.getElem?_eq_getElem hs)
  exact ⟨q1, q2.ex⟩
/-- a free place is nobody's -/
theorem SR.free (s : SR K mg E η M c σ H) {p : Addr} (h : H p = none) : M p = none ∧ E.H p = none ∧ p ∉ η ∧ ¬ Own c σ p := by
  have n1 : p ∉ η := fun z => by
    obtain ⟨_, u, e⟩ := s.hsome z
    rw [e] at h; cases h
  refine ⟨s.sub.free h, ?_, n1, fun z => ?_⟩
  · cases q : E.H p with
    | none => rfl
    | some o =>
      have n2 : p ∉ E.η := fun z => n1 (s.ext.mem z)
      rw [s.fr p o q n2] at h; cases h
  · obtain ⟨_, _, _, u, e⟩ := s.own z
    rw [e] at h; cases h
/-- the heap changes at places that are nobody's -/
theorem SR.heap (s : SR K mg E η M c σ H) (h : ∀ a o, H a = some o → H' a = some o) : SR K mg E η M c σ H' := by
  refine ⟨fun a o e => h a o (s.sub a o e), s.len, fun i sl e => ?_, s.inj, s.hlen, fun n a d e1 e2 => ?_, s.hnd, fun a o e n => h a o (s.fr a o e n), s.pre, s.new, s.m0, s.mn⟩
  · have q := s.slot i sl e
    cases sl with
    | un => trivial
    | fz d => exact q
    | ow d =>
      obtain ⟨a, e1, e2, e3, e4, e5⟩ := q
      exact ⟨a, e1, e2, e3, e4, e5.mono .refl fun o => h a o⟩
  · obtain ⟨q1, q2⟩ := s.hdl n a d e1 e2
    exact ⟨q1, q2.mono .refl fun o => h a o⟩
theorem SR.alloc (s : SR K mg E η M c σ H) {p : Addr} {o : HO} (h : H p = none) : SR K mg E η M c σ (upd H p o) :=
  s.heap fun a u e => by rw [upd_ne (ne_of_none e h)]; exact e
/-- an object freezes -/
theorem SR.freeze (s : SR K mg E η M c σ H) {a : Addr} {o : HO} (hm : M a = none) (he : E.H a = none) (hn : a ∉ η) (ho : ¬ Own c σ a) (h : H a = some o) :
    SR K mg E η (upd M a o) c σ H ∧ Ext η M η (upd M a o) := by
  have x : Ext η M η (upd M a o) := ⟨fun b u e => by rw [upd_ne (ne_of_none e hm)]; exact e, [], by simp⟩
  refine ⟨⟨fun b u e => ?_, s.len, fun i sl e => ?_, s.inj, s.hlen, fun n b d e1 e2 => ?_, s.hnd, s.fr, s.pre, s.new, s.m0.trans x.m, fun b e1 e2 => ?_⟩, x⟩
  · by_cases hb : b = a
    · subst hb; rw [upd_same] at e; cases e; exact h
    · rw [upd_ne hb] at e; exact s.sub b u e
  · have q := s.slot i sl e
    cases sl with
    | un => trivial
    | fz d => obtain ⟨v, e1, r⟩ := q; exact ⟨v, e1, r.mono x⟩
    | ow d =>
      obtain ⟨b, e1, e2, e3, e4, e5⟩ := q
      have hb : b ≠ a := fun z => ho ⟨i, d, e, by rw [e1, z]⟩
      exact ⟨b, e1, by rw [upd_ne hb]; exact e2, e3, e4, e5.mono x fun o z => z⟩
  · obtain ⟨q1, q2⟩ := s.hdl n b d e1 e2
    have hb : b ≠ a := fun z => hn (z ▸ List.mem_of_getElem? e1)
    exact ⟨by rw [upd_ne hb]; exact q1, q2.mono x fun o z => z⟩
  · by_cases hb : b = a
    · subst hb; exact absurd he e2
    · rw [upd_ne hb]; exact s.mn b e1 e2

/-! ### slots -/
theorem SR.setSlot (s : SR K mg E η M c σ H) {i : Nat} {v : V} {sl : Sl} (hi : i < c.ρ.length)
    (ok : SlotOk K mg E η M H (some (some v)) sl) (hw : ∀ d a, sl = .ow d → v = .ref a → ∀ (j : Nat) (d' : D), j ≠ i → c.ρ[j]? = some (.ow d') → σ[j]? ≠ some (some (.ref a))) :
    SR K mg E η M { c with ρ := c.ρ.set i sl } (σ.set i (some v)) H := by
  have hσ : i < σ.length := by rw [s.len]; exact hi
  refine ⟨s.sub, by simp [s.len], fun j t e => ?_, fun j k a d d' e1 e2 e3 e4 => ?_, s.hlen, s.hdl, s.hnd, s.fr, s.pre, s.new, s.m0, s.mn⟩
  · have e : (c.ρ.set i sl)[j]? = some t := e
    by_cases hj : j = i
    · subst hj
      rw [List.getElem?_set_self hi] at e; cases e
      rw [List.getElem?_set_self hσ]
      exact ok
    · rw [List.getElem?_set_ne (Ne.symm hj)] at e
      rw [List.getElem?_set_ne (Ne.symm hj)]
      exact s.slot j t e
  · have f1 : (c.ρ.set i sl)[j]? = some (.ow d) := e1
    have f2 : (c.ρ.set i sl)[k]? = some (.ow d') := e2
    clear e1 e2
    by_cases hj : j = i
    · by_cases hk : k = i
      · rw [hj, hk]
      · subst hj
        rw [List.getElem?_set_self hi] at f1; cases f1
        rw [List.getElem?_set_self hσ] at e3; cases e3
        rw [List.getElem?_set_ne (Ne.symm hk)] at f2 e4
        exact absurd e4 (hw d a rfl rfl k d' hk f2)
    · rw [List.getElem?_set_ne (Ne.symm hj)] at f1 e3
      by_cases hk : k = i
      · subst hk
        rw [List.getElem?_set_self hi] at f2; cases f2
        rw [List.getElem?_set_self hσ] at e4; cases e4
        exact absurd e3 (hw d' a rfl rfl j d hj f1)
      · rw [List.getElem?_set_ne (Ne.symm hk)] at f2 e4
        exact s.inj j k a d d' f1 f2 e3 e4
/-- the kind of a slot changes, not its value -/
theorem SR.kind (s : SR K mg E η M c σ H) {i : Nat} {v : V} {sl : Sl} (hv : σ[i]? = some (some v)) (ok : SlotOk K mg E η M H (some (some v)) sl)
    (hw : ∀ d a, sl = .ow d → v = .ref a → ∀ (j : Nat) (d' : D), j ≠ i → c.ρ[j]? = some (.ow d') → σ[j]? ≠ some (some (.ref a))) : SR K mg E η M { c with ρ := c.ρ.set i sl } σ H := by
  have hσ : i < σ.length := (List.getElem?_eq_some_iff.mp hv).1
  have q := s.setSlot (i := i) (v := v) (sl := sl) (by rw [← s.len]; exact hσ) ok hw
  have e : σ.set i (some v) = σ := by
    have := (List.getElem?_eq_some_iff.mp hv).2
    rw [← this]
    exact List.set_getElem_self hσ
  rw [e] at q
  exact q
/-- the own object of a slot freezes -/
theorem SR.freezeSlot' (s : SR K mg E η M c σ H) {i : Nat} {d : D} (h : c.ρ[i]? = some (.ow d)) :
    ∃ a M', σ[i]? = some (some (.ref a)) ∧ Ext η M η M' ∧ SR K mg E η M' { c with ρ := c.ρ.set i (.fz d) } σ H ∧ Rep K mg η M' (.ref a) d ∧ ∀ b, b ≠ a → M' b = M b := by
  obtain ⟨a, e1, e2, e3, e4, e5⟩ := s.slot i _ h
  obtain ⟨o, ho⟩ := e5.ex
  have hi : i < c.ρ.length := (List.getElem?_eq_some_iff.mp h).1
  -- the slot is forgotten first
  have s1 : SR K mg E η M { c with ρ := c.ρ.set i .un } σ H := s.kind e1 trivial fun _ _ z => nomatch z
  have no : ¬ Own { c with ρ := c.ρ.set i .un } σ a := by
    rintro ⟨j, d', q1, q2⟩
    have q1 : (c.ρ.set i .un)[j]? = some (.ow d') := q1
    by_cases hj : j = i
    · subst hj
      rw [List.getElem?_set_self hi] at q1; cases q1
    · rw [List.getElem?_set_ne (Ne.symm hj)] at q1
      exact hj (s.inj j i a d' d q1 h q2 e1)
  obtain ⟨s2, x⟩ := s1.freeze e2 e3 e4 no ho
  have r : Rep K mg η (upd M a o) (.ref a) d := e5.frozen x ho upd_same
  refine ⟨a, upd M a o, e1, x, ?_, r, fun b hb => upd_ne hb⟩
  have q := s2.kind (sl := .fz d) e1 ⟨_, rfl, r⟩ fun _ _ z => nomatch z
  have e : (c.ρ.set i Sl.un).set i (.fz d) = c.ρ.set i (.fz d) := by rw [List.set_set]
  have q : SR K mg E η (upd M a o) { ρ := (c.ρ.set i Sl.un).set i (.fz d), S := c.S } σ H := q
  rw [e] at q
  exact q
theorem SR.freezeSlot (s : SR K mg E η M c σ H) {i : Nat} {d : D} (h : c.ρ[i]? = some (.ow d)) :
    ∃ a M', σ[i]? = some (some (.ref a)) ∧ Ext η M η M' ∧ SR K mg E η M' { c with ρ := c.ρ.set i (.fz d) } σ H ∧ Rep K mg η M' (.ref a) d :=
  let ⟨a, M', h1, h2, h3, h4, _⟩ := s.freezeSlot' h
  ⟨a, M', h1, h2, h3, h4⟩
/-- the own object of a slot is written -/
theorem SR.writeSlot (s : SR K mg E η M c σ H) {i : Nat} {d d' : D} {a : Addr} {o : HO} (h : c.ρ[i]? = some (.ow d)) (ha : σ[i]? = some (some (.ref a))) (hd : At K mg η M (upd H a o) a d') :
    SR K mg E η M { c with ρ := c.ρ.set i (.ow d') } σ (upd H a o) := by
  obtain ⟨b, e1, e2, e3, e4, e5⟩ := s.slot i _ h
  rw [ha] at e1; cases e1
  have hi : i < c.ρ.length := (List.getElem?_eq_some_iff.mp h).1
  have s1 : SR K mg E η M { c with ρ := c.ρ.set i .un } σ H := s.kind ha trivial fun _ _ z => nomatch z
  have no : ∀ (j : Nat) (t : D), j ≠ i → c.ρ[j]? = some (.ow t) → σ[j]? ≠ some (some (.ref a)) := fun j t hj q1 q2 => hj (s.inj j i a t d q1 h q2 ha)
  have s2 : SR K mg E η M { c with ρ := c.ρ.set i .un } σ (upd H a o) := by
    refine ⟨fun b u e => ?_, s1.len, fun j sl e => ?_, s1.inj, s1.hlen, fun n b t q1 q2 => ?_, s1.hnd, fun b u e n => ?_, s1.pre, s1.new, s1.m0, s1.mn⟩
    · rw [upd_ne (ne_of_none e e2)]; exact s.sub b u e
    · have q := s1.slot j sl e
      cases sl with
      | un => trivial
      | fz t => exact q
      | ow t =>
        obtain ⟨b, q1, q2, q3, q4, q5⟩ := q
        have hb : b ≠ a := by
          rintro rfl
          have e : (c.ρ.set i .un)[j]? = some (.ow t) := e
          by_cases hj : j = i
          · subst hj
            rw [List.getElem?_set_self hi] at e; cases e
          · rw [List.getElem?_set_ne (Ne.symm hj)] at e
            exact no j t hj e q1
        exact ⟨b, q1, q2, q3, q4, q5.mono .refl fun u z => by rw [upd_ne hb]; exact z⟩
    · obtain ⟨z1, z2⟩ := s.hdl n b t q1 q2
      have hb : b ≠ a := fun z => e4 (z ▸ List.mem_of_getElem? q1)
      exact ⟨z1, z2.mono .refl fun u z => by rw [upd_ne hb]; exact z⟩
    · rw [upd_ne (ne_of_none e e3)]; exact s.fr b u e n
  have q := s2.kind (sl := .ow d') ha ⟨a, rfl, e2, e3, e4, hd⟩ fun t b _ hb j t' hj z => by
    cases hb
    have z : (c.ρ.set i .un)[j]? = some (.ow t') := z
    rw [List.getElem?_set_ne (Ne.symm hj)] at z
    exact no j t' hj z
  have e : (c.ρ.set i Sl.un).set i (.ow d') = c.ρ.set i (.ow d') := by rw [List.set_set]
  have q : SR K mg E η M { ρ := (c.ρ.set i Sl.un).set i (.ow d'), S := c.S } σ (upd H a o) := q
  rw [e] at q
  exact q
/-- a handle's object is written -/
theorem SR.writeHdl (s : SR K mg E η M c σ H) {n : Nat} {a : Addr} {d d' : D} {o : HO} (hn : η[n]? = some a) (hd : c.S[n]? = some d) (ha : At K mg η M (upd H a o) a d') :
    SR K mg E η M { c with S := c.S.set n d' } σ (upd H a o) := by
  obtain ⟨q1, q2⟩ := s.hdl n a d hn hd
  have ns : n < c.S.length := (List.getElem?_eq_some_iff.mp hd).1
  refine ⟨fun b u e => ?_, s.len, fun j sl e => ?_, s.inj, by simp [s.hlen], fun m b t e1 e2 => ?_, s.hnd, fun b u e z => ?_, s.pre, s.new, s.m0, s.mn⟩
  · rw [upd_ne (ne_of_none e q1)]; exact s.sub b u e
  · have q := s.slot j sl e
    cases sl with
    | un => trivial
    | fz t => exact q
    | ow t =>
      obtain ⟨b, z1, z2, z3, z4, z5⟩ := q
      have hb : b ≠ a := fun z => z4 (z ▸ List.mem_of_getElem? hn)
      exact ⟨b, z1, z2, z3, z4, z5.mono .refl fun u z => by rw [upd_ne hb]; exact z⟩
  · have e2 : (c.S.set n d')[m]? = some t := e2
    by_cases hm : m = n
    · subst hm
      rw [hn] at e1; cases e1
      rw [List.getElem?_set_self ns] at e2; cases e2
      exact ⟨q1, ha⟩
    · rw [List.getElem?_set_ne (Ne.symm hm)] at e2
      obtain ⟨z1, z2⟩ := s.hdl m b t e1 e2
      have hb : b ≠ a := by
        rintro rfl
        obtain ⟨l1, g1⟩ := List.getElem?_eq_some_iff.mp e1
        obtain ⟨l2, g2⟩ := List.getElem?_eq_some_iff.mp hn
        exact hm ((List.getElem_inj s.hnd).mp (g1.trans g2.symm))
      exact ⟨z1, z2.mono .refl fun u z => by rw [upd_ne hb]; exact z⟩
  · by_cases hb : b = a
    · subst hb
      rcases s.new b (List.mem_of_getElem? hn) with z' | z'
      · exact absurd z' z
      · rw [z'] at e; cases e
    · rw [upd_ne hb]; exact s.fr b u e z
/-- a new object becomes a handle -/
theorem SR.newHdl (s : SR K mg E η M c σ H) {a : Addr} {d : D} (hm : M a = none) (he : E.H a = none) (hn : a ∉ η) (ho : ¬ Own c σ a) (ha : At K mg η M H a d) :
    SR K mg E (η ++ [a]) M { c with S := c.S ++ [d] } σ H ∧ Ext η M (η ++ [a]) M := by
  have x : Ext η M (η ++ [a]) M := ⟨Same.refl M, [a], rfl⟩
  obtain ⟨r, er⟩ := s.pre
  refine ⟨⟨s.sub, s.len, fun j sl e => ?_, s.inj, by simp [s.hlen], fun m b t e1 e2 => ?_, ?_, s.fr, ⟨r ++ [a], by rw [er, List.append_assoc]⟩, fun b hb => ?_, s.m0, s.mn⟩, x⟩
  · have q := s.slot j sl e
    cases sl with
    | un => trivial
    | fz t => obtain ⟨v, z, q⟩ := q; exact ⟨v, z, q.mono x⟩
    | ow t =>
      obtain ⟨b, z1, z2, z3, z4, z5⟩ := q
      refine ⟨b, z1, z2, z3, ?_, z5.mono x fun u z => z⟩
      intro hb
      rcases List.mem_append.mp hb with hb | hb
      · exact z4 hb
      · have hb : b = a := by simpa using hb
        exact ho ⟨j, t, e, by rw [z1, hb]⟩
  · have e2 : (c.S ++ [d])[m]? = some t := e2
    by_cases hl : m < η.length
    · rw [List.getElem?_append_left hl] at e1
      rw [List.getElem?_append_left (by rw [← s.hlen]; exact hl)] at e2
      obtain ⟨z1, z2⟩ := s.hdl m b t e1 e2
      exact ⟨z1, z2.mono x fun u z => z⟩
    · have hlt := (List.getElem?_eq_some_iff.mp e1).1
      simp only [List.length_append, List.length_cons, List.length_nil] at hlt
      have em : m = η.length := by omega
      subst em
      rw [List.getElem?_append_right (Nat.le_refl _)] at e1
      rw [s.hlen, List.getElem?_append_right (Nat.le_refl _)] at e2
      simp at e1 e2
      subst e1; subst e2
      exact ⟨hm, ha.mono x fun u z => z⟩
  · rw [List.nodup_append]
    exact ⟨s.hnd, by simp, fun y hy z hz => by simp at hz; subst hz; exact fun q => hn (q ▸ hy)⟩
  · rcases List.mem_append.mp hb with hb | hb
    · exact s.new b hb
    · have hb : b = a := by simpa using hb
      subst hb; exact .inr he

/-! ### entering anew: everything but the own objects and the handles is framed -/
open Classical in
noncomputable def mask (c : Cf) (σ : St) (H : Hp) : Hp := fun a => if Own c σ a then none else H a
theorem mask_not {a : Addr} (h : ¬ Own c σ a) : mask c σ H a = H a := by unfold mask; rw [if_neg h]
theorem mask_own {a : Addr} (h : Own c σ a) : mask c σ H a = none := by unfold mask; rw [if_pos h]
theorem SR.enter (s : SR K mg E η M c σ H) : SR K mg ⟨mask c σ H, η, M⟩ η M c σ H := by
  refine ⟨s.sub, s.len, fun i sl e => ?_, s.inj, s.hlen, s.hdl, s.hnd, fun a o e _ => ?_, ⟨[], by simp⟩, fun a h => .inl h, Same.refl M, fun a h _ => h⟩
  · have q := s.slot i sl e
    cases sl with
    | un => trivial
    | fz t => exact q
    | ow t =>
      obtain ⟨b, z1, z2, z3, z4, z5⟩ := q
      exact ⟨b, z1, z2, mask_own ⟨i, t, e, z1⟩, z4, z5⟩
  · by_cases h : Own c σ a
    · have e : mask c σ H a = some o := e
      rw [mask_own h] at e; cases e
    · have e : mask c σ H a = some o := e
      rw [mask_not h] at e; exact e
/-- what is framed by a step -/
structure Frm (η : List Addr) (M : Hp) (c : Cf) (σ : St) (H : Hp) (M' H' : Hp) : Prop where
  h : ∀ a o, H a = some o → a ∉ η → ¬ Own c σ a → H' a = some o
  m : ∀ a o, H a = some o → ¬ Own c σ a → M a = none → M' a = none
  o : ∀ a, Own c σ a → ∃ o, H a = some o
theorem SR.leave (s : SR K mg E η M c σ H) (t : SR K mg ⟨mask c σ H, η, M⟩ η' M' c' σ' H') : SR K mg E η' M' c' σ' H' ∧ Frm η M c σ H M' H' := by
  have nown : ∀ {a o}, E.H a = some o → ¬ Own c σ a := fun {a o} e z => by
    obtain ⟨_, q, _⟩ := s.own z
    rw [q] at e; cases e
  have key : ∀ {a o}, E.H a = some o → a ∉ E.η → mask c σ H a = some o ∧ a ∉ η := fun {a o} e n => by
    refine ⟨by rw [mask_not (nown e)]; exact s.fr a o e n, fun z => ?_⟩
    rcases s.new a z with q | q
    · exact n q
    · rw [q] at e; cases e
  obtain ⟨r, er⟩ := s.pre
  obtain ⟨r', er'⟩ := t.pre
  refine ⟨⟨t.sub, t.len, fun i sl e => ?_, t.inj, t.hlen, t.hdl, t.hnd, fun a o e n => ?_, ⟨r ++ r', by rw [er']; show η ++ r' = _; rw [er, List.append_assoc]⟩, fun a h => ?_, s.m0.trans t.m0, fun a h1 h2 => ?_⟩, fun a o e n no => ?_, fun a o e no hm => ?_, fun a z => (s.own z).2.2.2⟩
  · have q := t.slot i sl e
    cases sl with
    | un => trivial
    | fz u => exact q
    | ow u =>
      obtain ⟨b, z1, z2, z3, z4, z5⟩ := q
      refine ⟨b, z1, z2, ?_, z4, z5⟩
      cases qe : E.H b with
      | none => rfl
      | some o =>
        have hb : b ∉ E.η := fun z => z4 (t.ext.mem (s.ext.mem z))
        have z3 : mask c σ H b = none := z3
        rw [(key qe hb).1] at z3; cases z3
  · obtain ⟨k1, k2⟩ := key e n
    exact t.fr a o k1 k2
  · rcases t.new a h with q | q
    · exact s.new a q
    · cases qe : E.H a with
      | none => exact .inr rfl
      | some o =>
        by_cases hb : a ∈ E.η
        · exact .inl hb
        · have q : mask c σ H a = none := q
          rw [(key qe hb).1] at q; cases q
  · refine t.mn a (s.mn a h1 h2) ?_
    cases qe : E.H a with
    | none => exact absurd qe h2
    | some o =>
      show mask c σ H a ≠ none
      by_cases hb : a ∈ E.η
      · rw [mask_not (nown qe)]
        obtain ⟨_, u, eu⟩ := s.hsome (s.ext.mem hb)
        rw [eu]; simp
      · rw [(key qe hb).1]; simp
  · exact t.fr a o (by show mask c σ H a = some o; rw [mask_not no]; exact e) n
  · exact t.mn a hm (by show mask c σ H a ≠ none; rw [mask_not no, e]; simp)
end
end LH
/-! LHRule: expressions, tests, statements run as trees. -/
namespace LH
open PySem PySem.Spec PyProof.Rows L2

/-! ### weakest readings -/
def We (X : Cx) (e : Expr) : TE := fun σ H Q => ∀ pins s, Inv X pins σ H s → wpAny (model X.prog X.w) X.A (eval e X.env) (EP X pins σ Q) X.xe s
theorem we_pe {X : Cx} {e : Expr} : PE X e (We X e) := ⟨fun pins s σ H Q I h => h pins s I⟩
theorem pe_we {X : Cx} {e : Expr} {t : TE} (p : PE X e t) {σ : St} {H : Hp} {Q : VK} (h : t σ H Q) : We X e σ H Q := fun pins s I => p.run pins s σ H Q I h
def Wt (X : Cx) (e : Expr) : TT := fun σ H Q => ∀ pins s, Inv X pins σ H s → wpAny (model X.prog X.w) X.A (isTrue e X.env (eval e X.env)) (TP X pins σ Q) X.xe s
theorem wt_pt {X : Cx} {e : Expr} : PT X e (Wt X e) := ⟨fun pins s σ H Q I h => h pins s I⟩
theorem pt_wt {X : Cx} {e : Expr} {t : TT} (p : PT X e t) {σ : St} {H : Hp} {Q : Bool → Hp → Prop} (h : t σ H Q) : Wt X e σ H Q := fun pins s I => p.run pins s σ H Q I h
def Wa (X : Cx) (es : List Expr) : TA := fun σ H Q => ∀ pos pins s, Inv X pins σ H s → wpAny (model X.prog X.w) X.A (spliced (backTo pos (starEach es X.env))) (AP X pins σ Q) X.xe s
theorem wa_pa {X : Cx} {es : List Expr} : PA X es (Wa X es) := ⟨fun pos pins s σ H Q I h => h pos pins s I⟩
theorem pa_wa {X : Cx} {es : List Expr} {t : TA} (p : PA X es t) {σ : St} {H : Hp} {Q : List V → Hp → Prop} (h : t σ H Q) : Wa X es σ H Q := fun pos pins s I => p.run pos pins s σ H Q I h
def Ws (X : Cx) (st : Stmt) : TS := fun D σ H => ∀ pins s, Inv X pins σ H s → wpAny (model X.prog X.w) X.A (exec st X.env) (SP X pins D) X.xe s
theorem ws_ps {X : Cx} {st : Stmt} : PS X st (Ws X st) := ⟨fun pins s σ H D I h => h pins s I⟩
theorem ps_ws {X : Cx} {st : Stmt} {t : TS} (p : PS X st t) {σ : St} {H : Hp} {D : Ends} (h : t D σ H) : Ws X st D σ H := fun pins s I => p.run pins s σ H D I h
def Wss (X : Cx) (st : List Stmt) : TS := fun D σ H => ∀ pins s, Inv X pins σ H s → wpAny (model X.prog X.w) X.A (execs st X.env) (SP X pins D) X.xe s
theorem wss_pss {X : Cx} {st : List Stmt} : PSs X st (Wss X st) := ⟨fun pins s σ H D I h => h pins s I⟩
theorem pss_wss {X : Cx} {st : List Stmt} {t : TS} (p : PSs X st t) {σ : St} {H : Hp} {D : Ends} (h : t D σ H) : Wss X st D σ H := fun pins s I => p.run pins s σ H D I h
/-- operators, calls by values -/
def Wo (X : Cx) (f : Value → Value → Sem Value) : R2 := fun x y H Q => ∀ pins s σ v u, Inv X pins σ H s → RelV x v → RelV y u → wpAny (model X.prog X.w) X.A (f v u) (EP X pins σ Q) X.xe s
theorem wo_op {X : Cx} {f : Value → Value → Sem Value} : OpR X f (Wo X f) := fun pins s σ H x y v u Q I r1 r2 h => h pins s σ v u I r1 r2
theorem op_wo {X : Cx} {f : Value → Value → Sem Value} {r : R2} (h : OpR X f r) {x y : V} {H : Hp} {Q : VK} (q : r x y H Q) : Wo X f x y H Q := fun pins s σ v u I r1 r2 => h pins s σ H x y v u Q I r1 r2 q
def Wu (X : Cx) (f : Value → Sem Value) : V → Hp → VK → Prop := fun x H Q => ∀ pins s σ v, Inv X pins σ H s → RelV x v → wpAny (model X.prog X.w) X.A (f v) (EP X pins σ Q) X.xe s
theorem wu_un {X : Cx} {f : Value → Sem Value} : UnR X f (Wu X f) := fun pins s σ H x v Q I r1 h => h pins s σ v I r1
theorem un_wu {X : Cx} {f : Value → Sem Value} {r : V → Hp → VK → Prop} (h : UnR X f r) {x : V} {H : Hp} {Q : VK} (q : r x H Q) : Wu X f x H Q := fun pins s σ v I r1 => h pins s σ H x v Q I r1 q
def Wc (X : Cx) (f : Value) : List V → Hp → VK → Prop := fun xs H Q => ∀ pins s σ us, Inv X pins σ H s → Vals xs us → wpAny (model X.prog X.w) X.A (call f us) (EP X pins σ Q) X.xe s
theorem wc_call {X : Cx} {f : Value} : CallR X f (Wc X f) := fun pins s σ H xs us Q I r1 h => h pins s σ us I r1
theorem call_wc {X : Cx} {f : Value} {r : List V → Hp → VK → Prop} (h : CallR X f r) {xs : List V} {H : Hp} {Q : VK} (q : r xs H Q) : Wc X f xs H Q := fun pins s σ us I r1 => h pins s σ H xs us Q I r1 q
def Wi2 (X : Cx) : R2 := fun x y H Q => ∀ (value slice : Expr) pins s σ v u, Inv X pins σ H s → RelV x v → RelV y u → subscripted slice false v u = operate [v, u] (getItem v u) → wpAny (model X.prog X.w) X.A (subscriptTail value slice v u) (EP X pins σ Q) X.xe s
theorem wi_ix {X : Cx} : IxR X (Wi2 X) := fun value slice pins s σ H x y v u Q I r1 r2 h hs => h value slice pins s σ v u I r1 r2 hs
theorem ix_wi {X : Cx} {r : R2} (h : IxR X r) {x y : V} {H : Hp} {Q : VK} (q : r x y H Q) : Wi2 X x y H Q := fun value slice pins s σ v u I r1 r2 hs => h value slice pins s σ H x y v u Q I r1 r2 q hs
def Wm (X : Cx) (id : String) : V → List V → Hp → VK → Prop := fun x xs H Q => ∀ pins s σ v us, Inv X pins σ H s → RelV x v → Vals xs us → wpAny (model X.prog X.w) X.A (call (.builtin id) (v :: us)) (EP X pins σ Q) X.xe s
theorem wm_mt {X : Cx} {id : String} : MtR X id (Wm X id) := fun pins s σ H x xs v us Q I r1 r2 h => h pins s σ v us I r1 r2
theorem mt_wm {X : Cx} {id : String} {r : V → List V → Hp → VK → Prop} (h : MtR X id r) {x : V} {xs : List V} {H : Hp} {Q : VK} (q : r x xs H Q) : Wm X id x xs H Q := fun pins s σ v us I r1 r2 => h pins s σ H x xs v us Q I r1 r2 q
def Wg (X : Cx) (tg : Expr) : TG := fun v σ H Q => ∀ pins s u, Inv X pins σ H s → RelV v u → wpAny (model X.prog X.w) X.A (assign tg X.env u) (fun _ s' => ∃ σ' H', Inv X pins σ' H' s' ∧ Q σ' H') X.xe s
theorem wg_pg {X : Cx} {tg : Expr} : PG X tg (Wg X tg) := ⟨fun pins s σ H v u Q I r h => h pins s u I r⟩
theorem pg_wg {X : Cx} {tg : Expr} {t : TG} (p : PG X tg t) {v : V} {σ : St} {H : Hp} {Q : St → Hp → Prop} (h : t v σ H Q) : Wg X tg v σ H Q := fun pins s u I r => p.run pins s σ H v u Q I r h
def Wi (X : Cx) (tg it : Expr) : TI := fun σ H R => ∀ pins s, Inv X pins σ H s →
    wpAny (model X.prog X.w) X.A (eval it X.env) (fun v s1 => wpAny (model X.prog X.w) X.A (pyIter v) (PIE X pins σ tg R) X.xe s1) X.xe s
theorem wi_pi {X : Cx} {tg it : Expr} : PI X tg it (Wi X tg it) := ⟨fun pins s σ H R I h => h pins s I⟩
theorem pi_wi {X : Cx} {tg it : Expr} {t : TI} (p : PI X tg it t) {σ : St} {H : Hp} {R : It → Hp → Prop} (h : t σ H R) : Wi X tg it σ H R := fun pins s I => p.run pins s σ H R I h

/-! ### values -/
def RvR (K : Fg) (mg : Mg) (E : En) (η : List Addr) (M : Hp) (c : Cf) (σ : St) (H : Hp) (v : V) : Rv → Prop
  | .fz d => Rep K mg η M v d
  | .loc i => σ[i]? = some (some v)
  | .nw d => ∃ a, v = .ref a ∧ M a = none ∧ E.H a = none ∧ a ∉ η ∧ ¬ Own c σ a ∧ At K mg η M H a d
def XR (K : Fg) (mg : Mg) (η : List Addr) (M : Hp) (cls : Value) (d : Option Addr) (x : Xc) : Prop :=
  ∃ dd fs, mg x.cls = some cls ∧ d = some dd ∧ M dd = some (.xd fs) ∧ fs.map (·.1) = x.fs.map (·.1) ∧ RepL K mg η M (fs.map (·.2)) (x.fs.map (·.2))
/-- an operand stays: a new object freezes -/
def settle : Rv → Rv
  | .nw d => .fz d
  | r => r
/-- what is read of a value now -/
def view (c : Cf) : Rv → Option D
  | .fz (.hdl n) => c.S[n]?
  | .fz d => some d
  | .nw d => some d
  | .loc i => match c.ρ[i]? with
    | some (.ow d) => some d
    | some (.fz (.hdl n)) => c.S[n]?
    | some (.fz d) => some d
    | _ => none
/-- the value as data that stays -/
def toVal (c : Cf) : Rv → Option (D × Cf)
  | .fz d => some (d, c)
  | .nw d => some (d, c)
  | .loc i => match c.ρ[i]? with
    | some (.ow d) => some (d, { c with ρ := c.ρ.set i (.fz d) })
    | some (.fz d) => some (d, c)
    | _ => none
def VwR (K : Fg) (mg : Mg) (η : List Addr) (M H : Hp) (v : V) (d : D) : Prop := Rep K mg η M v d ∨ ∃ a, v = .ref a ∧ At K mg η M H a d

section
variable {K : Fg} {mg : Mg} {E : En} {η η' : List Addr} {M M' H H' : Hp} {c c' : Cf} {σ σ' : St} {v : V} {r : Rv} {d : D}
theorem settle_ok (s : SR K mg E η M c σ H) (h : RvR K mg E η M c σ H v r) : ∃ M', SR K mg E η M' c σ H ∧ Ext η M η M' ∧ RvR K mg E η M' c σ H v (settle r) := by
  cases r with
  | fz d => exact ⟨M, s, .refl, h⟩
  | loc i => exact ⟨M, s, .refl, h⟩
  | nw d =>
    obtain ⟨a, rfl, h1, h2, h3, h4, h5⟩ := h
    obtain ⟨o, ho⟩ := h5.ex
    obtain ⟨s', x⟩ := s.freeze h1 h2 h3 h4 ho
    exact ⟨_, s', x, h5.frozen x ho upd_same⟩
theorem toVal_ok (s : SR K mg E η M c σ H) (h : RvR K mg E η M c σ H v r) (e : toVal c r = some (d, c')) : ∃ M', SR K mg E η M' c' σ H ∧ Ext η M η M' ∧ Rep K mg η M' v d := by
  cases r with
  | fz t => cases e; exact ⟨M, s, .refl, h⟩
  | nw t =>
    cases e
    obtain ⟨a, rfl, h1, h2, h3, h4, h5⟩ := h
    obtain ⟨o, ho⟩ := h5.ex
    obtain ⟨s', x⟩ := s.freeze h1 h2 h3 h4 ho
    exact ⟨_, s', x, h5.frozen x ho upd_same⟩
  | loc i =>
    unfold toVal at e
    dsimp only at e
    cases q : c.ρ[i]? with
    | none => rw [q] at e; cases e
    | some sl =>
      rw [q] at e
      cases sl with
      | un => cases e
      | fz t =>
        cases e
        obtain ⟨w, e1, r1⟩ := s.slot i _ q
        have h : σ[i]? = some (some v) := h
        rw [h] at e1; cases e1
        exact ⟨M, s, .refl, r1⟩
      | ow t =>
        cases e
        obtain ⟨a, M', e1, x, s', r1⟩ := s.freezeSlot q
        have h : σ[i]? = some (some v) := h
        rw [h] at e1; cases e1
        exact ⟨M', s', x, r1⟩
theorem rep_view (s : SR K mg E η M c σ H) {t : D} (h : Rep K mg η M v t) (e : view c (.fz t) = some d) : VwR K mg η M H v d := by
  cases t with
  | hdl n =>
    cases h with
    | hdl hn =>
      obtain ⟨q1, q2⟩ := s.hdl n _ d hn e
      exact .inr ⟨_, rfl, q2⟩
  | _ => cases e; exact .inl h
theorem view_ok (s : SR K mg E η M c σ H) (h : RvR K mg E η M c σ H v r) (e : view c r = some d) : VwR K mg η M H v d := by
  cases r with
  | fz t => exact rep_view s h e
  | nw t =>
    cases e
    obtain ⟨a, rfl, h1, h2, h3, h4, h5⟩ := h
    exact .inr ⟨a, rfl, h5⟩
  | loc i =>
    unfold view at e
    dsimp only at e
    have h : σ[i]? = some (some v) := h
    cases q : c.ρ[i]? with
    | none => rw [q] at e; cases e
    | some sl =>
      rw [q] at e
      cases sl with
      | un => cases e
      | fz t =>
        obtain ⟨w, e1, r1⟩ := s.slot i _ q
        rw [h] at e1; cases e1
        refine rep_view s r1 ?_
        cases t <;> exact e
      | ow t =>
        obtain ⟨a, e1, q1, q2, q3, q4⟩ := s.slot i _ q
        rw [h] at e1; cases e1
        cases e
        exact .inr ⟨a, rfl, q4⟩
/-- a settled operand stays while another one is reckoned -/
def Settled : Rv → Prop
  | .nw _ => False
  | _ => True
theorem settled_settle (r : Rv) : Settled (settle r) := by cases r <;> trivial
theorem RvR.keep (x : Ext η M η' M') (hs : Settled r) (h : RvR K mg E η M c σ H v r) : RvR K mg E η' M' c' σ H' v r := by
  cases r with
  | fz t => exact Rep.mono x h
  | loc i => exact h
  | nw t => exact hs.elim
theorem VwR.mono (x : Ext η M η' M') (he : ∀ o a, H a = some o → H' a = some o) (h : VwR K mg η M H v d) : VwR K mg η' M' H' v d := by
  rcases h with h | ⟨a, e, h⟩
  · exact .inl (h.mono x)
  · exact .inr ⟨a, e, h.mono x fun o => he o a⟩
/-! shapes -/
theorem VwR.non (h : VwR K mg η M H v .non) : v = .non := by
  rcases h with h | ⟨a, e, h⟩
  · cases h; rfl
  · exact h.elim
theorem VwR.bl {b : Bool} (h : VwR K mg η M H v (.bl b)) : v = .bl b := by
  rcases h with h | ⟨a, e, h⟩
  · cases h; rfl
  · exact h.elim
theorem VwR.int {i : Int} (h : VwR K mg η M H v (.int i)) : v = .int i := by
  rcases h with h | ⟨a, e, h⟩
  · cases h; rfl
  · exact h.elim
theorem VwR.str {x : Str} (h : VwR K mg η M H v (.str x)) : v = .str x := by
  rcases h with h | ⟨a, e, h⟩
  · cases h; rfl
  · exact h.elim
theorem VwR.lst (hs : Same M H) {ds : List D} (h : VwR K mg η M H v (.lst ds)) : ∃ a xs, v = .ref a ∧ H a = some (.lst xs) ∧ RepL K mg η M xs ds := by
  rcases h with h | ⟨a, e, xs, h, r⟩
  · cases h with
    | lst h r => exact ⟨_, _, rfl, hs _ _ h, r⟩
  · exact ⟨a, xs, e, h, r⟩
theorem VwR.ro (hs : Same M H) {ds : List D} (h : VwR K mg η M H v (.ro ds)) : ∃ a xs, v = .ref a ∧ SqL K H a xs ∧ RepL K mg η M xs ds := by
  rcases h with h | ⟨a, e, h⟩
  · cases h with
    | ro h r => exact ⟨_, _, rfl, hs.seq h, r⟩
  · exact h.elim
theorem VwR.rtup {ds : List D} (h : VwR K mg η M H v (.tup ds)) : Rep K mg η M v (.tup ds) := by
  rcases h with h | ⟨a, e, h⟩
  · exact h
  · exact h.elim
theorem VwR.tup (hs : Same M H) {ds : List D} (h : VwR K mg η M H v (.tup ds)) : ∃ a xs, v = .ref a ∧ H a = some (.tup xs) ∧ RepL K mg η M xs ds := by
  rcases h with h | ⟨a, e, h⟩
  · cases h with
    | tup h r => exact ⟨_, _, rfl, hs _ _ h, r⟩
  · exact h.elim
theorem VwR.dct (hs : Same M H) {ds : List (Key × D)} (h : VwR K mg η M H v (.dct ds)) : ∃ a kvs, v = .ref a ∧ H a = some (.dK kvs) ∧ kvs.map (·.1) = ds.map (·.1) ∧ RepL K mg η M (kvs.map (·.2)) (ds.map (·.2)) := by
  rcases h with h | ⟨a, e, xs, h, k, r⟩
  · cases h with
    | dct h k r => exact ⟨_, _, rfl, hs _ _ h, k, r⟩
  · exact ⟨a, xs, e, h, k, r⟩
theorem VwR.dcT (hs : Same M H) {ds : List (List Key × D)} (h : VwR K mg η M H v (.dcT ds)) : ∃ a kvs, v = .ref a ∧ H a = some (.dT kvs) ∧ kvs.map (·.1) = ds.map (·.1) ∧ RepL K mg η M (kvs.map (·.2)) (ds.map (·.2)) := by
  rcases h with h | ⟨a, e, xs, h, k, r⟩
  · cases h with
    | dcT h k r => exact ⟨_, _, rfl, hs _ _ h, k, r⟩
  · exact ⟨a, xs, e, h, k, r⟩
theorem VwR.obj (hs : Same M H) {n : Str} {ds : List (Str × D)} (h : VwR K mg η M H v (.obj n ds)) : ∃ a C dx fs, v = .ref a ∧ mg n = some (.ref C) ∧ H a = some (.ins C dx fs) ∧ fs.map (·.1) = ds.map (·.1) ∧ RepL K mg η M (fs.map (·.2)) (ds.map (·.2)) := by
  rcases h with h | ⟨a, e, C, dx, fs, g, h, k, r⟩
  · cases h with
    | obj g h k r => exact ⟨_, _, _, _, rfl, g, hs _ _ h, k, r⟩
  · exact ⟨a, C, dx, fs, e, g, h, k, r⟩
end

/-! ### outcomes -/
abbrev Rl (α β : Type) := En → List Addr → Hp → Cf → St → Hp → α → β → Prop
def Out {α β : Type} (X : Cx) (R : Rl α β) (tw : (α → Hp → Prop) → Prop) (E : En) (η : List Addr) (M : Hp) (σ : St) : Res β → Prop
  | .stuck => True
  | .ok r c' => ∀ Q : α → Hp → Prop, (∀ v η' M' H', SR X.K X.mg E η' M' c' σ H' → Ext η M η' M' → R E η' M' c' σ H' v r → Q v H') → tw Q
  | .err x c' => ∀ (W : WX) (Q : α → Hp → Prop), Takes X W → (∀ cls d η' M' H', SR X.K X.mg E η' M' c' σ H' → Ext η M η' M' → XR X.K X.mg η' M' cls d x → W cls d σ H') → tw Q
section
variable {α β γ δ : Type} {X : Cx} {R : Rl α β} {R' : Rl γ δ} {E : En} {η : List Addr} {M : Hp} {σ : St}
theorem Out.imp {tw : (α → Hp → Prop) → Prop} {tw' : (γ → Hp → Prop) → Prop} {R' : Rl γ β} {m : Res β} (h : Out X R tw E η M σ m) (g : α → γ) (imp : ∀ Q, tw (fun x H => Q (g x) H) → tw' Q)
    (hr : ∀ η' M' c' H' v r, SR X.K X.mg E η' M' c' σ H' → R E η' M' c' σ H' v r → R' E η' M' c' σ H' (g v) r) : Out X R' tw' E η M σ m := by
  cases m with
  | stuck => trivial
  | ok r c => exact fun Q hq => imp Q (h _ fun v η' M' H' s x z => hq _ _ _ _ s x (hr _ _ _ _ _ _ s z))
  | err x c => exact fun W Q tk hq => imp Q (h W _ tk hq)
theorem Out.bind {tw : (α → Hp → Prop) → Prop} {tw' : (γ → Hp → Prop) → Prop} {m : Res β} {f : β → Cf → Res δ} (k : α → Hp → (γ → Hp → Prop) → Prop)
    (h : Out X R tw E η M σ m) (imp : ∀ Q, tw (fun x H1 => k x H1 Q) → tw' Q)
    (hk : ∀ r c1 v η1 M1 H1, SR X.K X.mg E η1 M1 c1 σ H1 → Ext η M η1 M1 → R E η1 M1 c1 σ H1 v r → Out X R' (k v H1) E η1 M1 σ (f r c1)) : Out X R' tw' E η M σ (m.bind f) := by
  cases m with
  | stuck => trivial
  | err x c => exact fun W Q tk hq => imp Q (h W _ tk hq)
  | ok r c =>
    show Out X R' tw' E η M σ (f r c)
    cases e : f r c with
    | stuck => trivial
    | ok r' c' =>
      refine fun Q hq => imp Q (h _ fun v η1 M1 H1 s x z => ?_)
      have o := hk r c v η1 M1 H1 s x z
      rw [e] at o
      exact o Q fun v' η' M' H' s' x' z' => hq v' η' M' H' s' (x.trans x') z'
    | err y c' =>
      refine fun W Q tk hq => imp Q (h _ fun v η1 M1 H1 s x z => ?_)
      have o := hk r c v η1 M1 H1 s x z
      rw [e] at o
      exact o W Q tk fun cls d η' M' H' s' x' z' => hq cls d η' M' H' s' (x.trans x') z'
end
abbrev Em := Cf → Res Rv
def RV (K : Fg) (mg : Mg) : Rl V Rv := fun E η M c σ H v r => RvR K mg E η M c σ H v r
def RB : Rl Bool Bool := fun _ _ _ _ _ _ b b' => b = b'
/-- an expression runs as m -/
structure Ex (X : Cx) (e : Expr) (m : Em) : Prop where
  run : ∀ E η M c σ H, SR X.K X.mg E η M c σ H → Out X (RV X.K X.mg) (We X e σ H) E η M σ (m c)
instance {X : Cx} {e : Expr} {m : Em} : CoeFun (Ex X e m) (fun _ => ∀ E η M c σ H, SR X.K X.mg E η M c σ H → Out X (RV X.K X.mg) (We X e σ H) E η M σ (m c)) := ⟨Ex.run⟩
/-- a test -/
structure Tx (X : Cx) (e : Expr) (m : Cf → Res Bool) : Prop where
  run : ∀ E η M c σ H, SR X.K X.mg E η M c σ H → Out X RB (Wt X e σ H) E η M σ (m c)
instance {X : Cx} {e : Expr} {m : Cf → Res Bool} : CoeFun (Tx X e m) (fun _ => ∀ E η M c σ H, SR X.K X.mg E η M c σ H → Out X RB (Wt X e σ H) E η M σ (m c)) := ⟨Tx.run⟩
/-- settled values -/
def RVs (K : Fg) (mg : Mg) : Rl (List V) (List Rv) := fun E η M c σ H vs rs => (∀ r ∈ rs, Settled r) ∧ Paired (fun v r => RvR K mg E η M c σ H v r) vs rs
structure Ax (X : Cx) (es : List Expr) (m : Cf → Res (List Rv)) : Prop where
  run : ∀ E η M c σ H, SR X.K X.mg E η M c σ H → Out X (RVs X.K X.mg) (Wa X es σ H) E η M σ (m c)
instance {X : Cx} {es : List Expr} {m : Cf → Res (List Rv)} : CoeFun (Ax X es m) (fun _ => ∀ E η M c σ H, SR X.K X.mg E η M c σ H → Out X (RVs X.K X.mg) (Wa X es σ H) E η M σ (m c)) := ⟨Ax.run⟩

def Res.st (r : Res Rv) : Res Rv := r.bind fun a c => .ok (settle a) c
section
variable {X : Cx} {e a b : Expr} {es : List Expr} {m ma mb : Em} {pos : Pos} {E : En} {η : List Addr} {M H : Hp} {c : Cf} {σ : St}
/-- an operand that stays -/
def RVst (K : Fg) (mg : Mg) : Rl V Rv := fun E η M c σ H v r => Settled r ∧ RvR K mg E η M c σ H v r
theorem out_st {tw : VK → Prop} {m : Res Rv} (h : Out X (RV X.K X.mg) tw E η M σ m) : Out X (RVst X.K X.mg) tw E η M σ m.st := by
  cases m with
  | stuck => trivial
  | err x c => exact h
  | ok r c =>
    refine fun Q hq => h Q fun v η1 M1 H1 s x z => ?_
    obtain ⟨M2, s2, x2, z2⟩ := settle_ok s z
    exact hq v η1 M2 H1 s2 (x.trans x2) ⟨settled_settle r, z2⟩
theorem out_ok {α β : Type} {R : Rl α β} {tw : (α → Hp → Prop) → Prop} {r : β} {v : α} (s : SR X.K X.mg E η M c σ H) (imp : ∀ Q : α → Hp → Prop, Q v H → tw Q) (z : R E η M c σ H v r) : Out X R tw E η M σ (.ok r c) :=
  fun Q hq => imp Q (hq v η M H s .refl z)

/-! ### names, constants -/
def mVar (i : Nat) : Em := fun c => match c.ρ[i]? with
  | some (.fz d) => .ok (.fz d) c
  | some (.ow _) => .ok (.loc i) c
  | _ => .stuck
theorem ex_var (i : Nat) {x : Str} (hN : X.N[i]? = some x := by rfl) (hv : Vis X.env.scope x := by first | exact Or.inl rfl | exact Or.inr (Or.inl rfl) | exact Or.inr (Or.inr rfl)) (hd : (x == ("__debug__" : Str)) = false := by decide)
    (hcd : (x == ("__classdict__" : Str)) = false := by decide) : Ex X (.Name x pos) (mVar i) := by
  refine ⟨fun E η M c σ H s => ?_⟩
  unfold mVar
  cases q : c.ρ[i]? with
  | none => trivial
  | some sl =>
    cases sl with
    | un => trivial
    | fz d =>
      obtain ⟨v, e1, r⟩ := s.slot i _ q
      exact out_ok s (fun Q hq => pe_we (pe_var hN hv hd hcd) ⟨v, e1, hq⟩) r
    | ow d =>
      obtain ⟨a, e1, _⟩ := s.slot i _ q
      exact out_ok s (fun Q hq => pe_we (pe_var hN hv hd hcd) ⟨_, e1, hq⟩) e1
def mC (d : D) : Em := fun c => .ok (.fz d) c
theorem ex_int {i : Int} {j : Nat} : Ex X (.Constant (.int i) j pos) (mC (.int i)) := ⟨fun E η M c σ H s => out_ok s (fun Q hq => pe_we pe_int hq) (Rep.int i)⟩
theorem ex_bl {i : Bool} {j : Nat} : Ex X (.Constant (.bool i) j pos) (mC (.bl i)) := ⟨fun E η M c σ H s => out_ok s (fun Q hq => pe_we pe_bl hq) (Rep.bl i)⟩
theorem ex_non {j : Nat} : Ex X (.Constant .none j pos) (mC .non) := ⟨fun E η M c σ H s => out_ok s (fun Q hq => pe_we pe_non hq) Rep.non⟩
theorem ex_str {x : Str} {j : Nat} : Ex X (.Constant (.str x) j pos) (mC (.str x)) := ⟨fun E η M c σ H s => out_ok s (fun Q hq => pe_we pe_str hq) (Rep.str x)⟩
/-- a module's constant: an int, a text -/
theorem ex_gint {x : Str} {i : Int} {t : Tok} (hg : Gl X x) (hm : X.mg x = some (.int i t)) (hd : (x == ("__debug__" : Str)) = false := by decide) : Ex X (.Name x pos) (mC (.int i)) :=
  ⟨fun E η M c σ H s => out_ok s (fun Q hq => pe_we (pe_glob (v := .int i) hg hm ⟨t, rfl⟩ hd) hq) (Rep.int i)⟩
theorem ex_gstr {x y : Str} {t : Tok} (hg : Gl X x) (hm : X.mg x = some (.str y t)) (hd : (x == ("__debug__" : Str)) = false := by decide) : Ex X (.Name x pos) (mC (.str y)) :=
  ⟨fun E η M c σ H s => out_ok s (fun Q hq => pe_we (pe_glob (v := .str y) hg hm ⟨t, rfl⟩ hd) hq) (Rep.str y)⟩

/-! ### two operands -/
/-- an operation on values as it is on trees -/
def Op2 (X : Cx) (w : V → V → Hp → VK → Prop) (g : D → D → Option Rv) : Prop :=
  ∀ E η M c σ H x y dx dy r, SR X.K X.mg E η M c σ H → VwR X.K X.mg η M H x dx → VwR X.K X.mg η M H y dy → g dx dy = some r →
    ∀ Q : VK, (∀ v η' M' H', SR X.K X.mg E η' M' c σ H' → Ext η M η' M' → RvR X.K X.mg E η' M' c σ H' v r → Q v H') → w x y H Q
def m2 (g : D → D → Option Rv) (ra rb : Rv) (c : Cf) : Res Rv :=
  match view c ra, view c rb with
  | some da, some db => match g da db with
    | some r => .ok r c
    | none => .stuck
  | _, _ => .stuck
def mBin (g : D → D → Option Rv) (ma mb : Em) : Em := fun c => (ma c).st.bind fun ra c1 => (mb c1).st.bind fun rb c2 => m2 g ra rb c2
theorem out_m2 {w : V → V → Hp → VK → Prop} {g : D → D → Option Rv} (hg : Op2 X w g) {x y : V} {ra rb : Rv} (s : SR X.K X.mg E η M c σ H) (h1 : RvR X.K X.mg E η M c σ H x ra) (h2 : RvR X.K X.mg E η M c σ H y rb) :
    Out X (RV X.K X.mg) (w x y H) E η M σ (m2 g ra rb c) := by
  unfold m2
  cases e1 : view c ra with
  | none => trivial
  | some da =>
    cases e2 : view c rb with
    | none => trivial
    | some db =>
      dsimp only
      cases e3 : g da db with
      | none => trivial
      | some r => exact fun Q hq => hg E η M c σ H x y da db r s (view_ok s h1 e1) (view_ok s h2 e2) e3 Q hq
theorem ex_two {w : V → V → Hp → VK → Prop} {g : D → D → Option Rv} (hg : Op2 X w g) {t : TE} (p : PE X e t) (ht : ∀ σ H Q, We X a σ H (fun x H1 => We X b σ H1 fun y H2 => w x y H2 Q) → t σ H Q) (ha : Ex X a ma) (hb : Ex X b mb) : Ex X e (mBin g ma mb) := by
  refine ⟨fun E η M c σ H s => ?_⟩
  refine Out.bind (R := RVst X.K X.mg) (fun x H1 Q => We X b σ H1 fun y H2 => w x y H2 Q) (out_st (ha E η M c σ H s)) (fun Q hq => pe_we p (ht _ _ _ hq)) fun ra c1 x η1 M1 H1 s1 x1 z1 => ?_
  refine Out.bind (R := RVst X.K X.mg) (fun y H2 Q => w x y H2 Q) (out_st (hb E η1 M1 c1 σ H1 s1)) (fun Q hq => hq) fun rb c2 y η2 M2 H2 s2 x2 z2 => ?_
  exact out_m2 hg s2 (z1.2.keep x2 z1.1) z2.2
theorem ex_bin {op : Operator} {g : D → D → Option Rv} (hg : Op2 X (Wo X (binaryOp op)) g) (ha : Ex X a ma) (hb : Ex X b mb) : Ex X (.BinOp a op b pos) (mBin g ma mb) :=
  ex_two hg (pe_op wo_op we_pe we_pe) (fun _ _ _ h => h) ha hb
theorem ex_cmp {op : CmpOp} {g : D → D → Option Rv} (hg : Op2 X (Wo X (compareOp op)) g) (ha : Ex X a ma) (hb : Ex X b mb) (hm : behindInMarks op b = false := by first | exact nomark _ (by decide) (by decide) | rfl) : Ex X (.Compare a [op] [b] pos) (mBin g ma mb) :=
  ex_two hg (pe_cmpR wo_op we_pe we_pe hm) (fun _ _ _ h => h) ha hb
theorem ex_ix {g : D → D → Option Rv} (hg : Op2 X (Wi2 X) g) (ha : Ex X a ma) (hb : Ex X b mb) (hs : PlainIx b := by intro _ _; rfl) : Ex X (.Subscript a b pos) (mBin g ma mb) :=
  ex_two hg (pe_ix wi_ix we_pe we_pe hs) (fun _ _ _ h => h) ha hb

/-! ### one operand -/
def Op1 (X : Cx) (w : V → Hp → VK → Prop) (g : D → Option Rv) : Prop :=
  ∀ E η M c σ H x dx r, SR X.K X.mg E η M c σ H → VwR X.K X.mg η M H x dx → g dx = some r →
    ∀ Q : VK, (∀ v η' M' H', SR X.K X.mg E η' M' c σ H' → Ext η M η' M' → RvR X.K X.mg E η' M' c σ H' v r → Q v H') → w x H Q
def m1 (g : D → Option Rv) (ra : Rv) (c : Cf) : Res Rv :=
  match view c ra with
  | some da => match g da with
    | some r => .ok r c
    | none => .stuck
  | _ => .stuck
def mUn (g : D → Option Rv) (ma : Em) : Em := fun c => (ma c).bind fun ra c1 => m1 g ra c1
theorem out_m1 {w : V → Hp → VK → Prop} {g : D → Option Rv} (hg : Op1 X w g) {x : V} {ra : Rv} (s : SR X.K X.mg E η M c σ H) (h1 : RvR X.K X.mg E η M c σ H x ra) :
    Out X (RV X.K X.mg) (w x H) E η M σ (m1 g ra c) := by
  unfold m1
  cases e1 : view c ra with
  | none => trivial
  | some da =>
    dsimp only
    cases e3 : g da with
    | none => trivial
    | some r => exact fun Q hq => hg E η M c σ H x da r s (view_ok s h1 e1) e3 Q hq
theorem ex_un {op : UnaryOp} {g : D → Option Rv} (hg : Op1 X (Wu X (unaryOp op)) g) (ha : Ex X a ma) : Ex X (.UnaryOp op a pos) (mUn g ma) := by
  refine ⟨fun E η M c σ H s => ?_⟩
  exact Out.bind (fun x H1 Q => Wu X (unaryOp op) x H1 Q) (ha E η M c σ H s) (fun Q hq => pe_we (pe_un wu_un we_pe) hq) fun ra c1 x η1 M1 H1 s1 x1 z1 => out_m1 hg s1 z1

/-! ### tests -/
def truthD : D → Option Bool
  | .non => some false
  | .bl b => some b
  | .int i => some (i != 0)
  | .str y => if y.length ≤ sizeLine then some ((y.length : Int) != 0) else none
  | .lst xs => some (!xs.isEmpty)
  | .tup xs => some (!xs.isEmpty)
  | .dct xs => some (!xs.isEmpty)
  | _ => none
def mTruth (ma : Em) : Cf → Res Bool := fun c => (ma c).bind fun ra c1 => match view c1 ra with
  | some d => match truthD d with
    | some b => .ok b c1
    | none => .stuck
  | none => .stuck
theorem isEmpty_len {α β : Type} {xs : List α} {ys : List β} (h : xs.length = ys.length) : (!xs.isEmpty) = !ys.isEmpty := by
  cases xs <;> cases ys <;> simp at h <;> rfl
theorem tru_d {K : Fg} {mg : Mg} {η : List Addr} {M H : Hp} {v : V} {d : D} {b : Bool} (hs : Same M H) (h : VwR K mg η M H v d) (e : truthD d = some b) : TruV K v H b := by
  cases d with
  | non => cases h.non; cases e; rfl
  | bl k => cases h.bl; cases e; rfl
  | int i => cases h.int; cases e; rfl
  | str y =>
    cases h.str
    unfold truthD at e
    dsimp only at e
    split at e
    · cases e; exact ⟨by assumption, rfl⟩
    · cases e
  | lst ds =>
    obtain ⟨a, xs, rfl, q, r⟩ := h.lst hs
    cases e
    exact .inl ⟨xs, .of q, isEmpty_len r.length.symm⟩
  | tup ds =>
    obtain ⟨a, xs, rfl, q, r⟩ := h.tup hs
    cases e
    exact .inr (.inl ⟨xs, .of q, isEmpty_len r.length.symm⟩)
  | dct ds =>
    obtain ⟨a, kvs, rfl, q, k, r⟩ := h.dct hs
    cases e
    exact .inr (.inr ⟨kvs, q, isEmpty_len (by have := congrArg List.length k; simpa using this.symm)⟩)
  | _ => cases e
/-- any expression as a test -/
theorem tx_any (ha : Ex X a ma) (he : ∀ whole, isTrue a X.env whole = (do let v ← whole; standAt a.pos; holding [v] (truthy v)) := by intro _; rfl) : Tx X a (mTruth ma) := by
  refine ⟨fun E η M c σ H s => ?_⟩
  refine Out.bind (fun x H1 (Q : Bool → Hp → Prop) => ∃ k, TruV X.K x H1 k ∧ Q k H1) (ha E η M c σ H s) (fun Q hq => pt_wt (pt_truth we_pe he) hq) fun ra c1 x η1 M1 H1 s1 x1 z1 => ?_
  cases e1 : view c1 ra with
  | none => trivial
  | some d =>
    dsimp only
    cases e2 : truthD d with
    | none => trivial
    | some b => exact out_ok s1 (fun Q hq => ⟨b, tru_d s1.sub (view_ok s1 z1 e1) e2, hq⟩) rfl
/-- a comparison as a test -/
def mBool (ma : Em) : Cf → Res Bool := fun c => (ma c).bind fun ra c1 => match view c1 ra with
  | some (.bl b) => .ok b c1
  | _ => .stuck
theorem out_bool {tw : VK → Prop} {tw' : (Bool → Hp → Prop) → Prop} {m : Res Rv} (h : Out X (RV X.K X.mg) tw E η M σ m) (imp : ∀ Q, tw (fun x H1 => ∃ k, x = .bl k ∧ Q k H1) → tw' Q) :
    Out X RB tw' E η M σ (m.bind fun ra c1 => match view c1 ra with | some (.bl b) => .ok b c1 | _ => .stuck) := by
  refine Out.bind (fun x H1 (Q : Bool → Hp → Prop) => ∃ k, x = .bl k ∧ Q k H1) h imp fun ra c1 x η1 M1 H1 s1 x1 z1 => ?_
  cases e1 : view c1 ra with
  | none => trivial
  | some d =>
    cases d with
    | bl b => exact out_ok s1 (fun Q hq => ⟨b, (view_ok s1 z1 e1).bl, hq⟩) rfl
    | _ => trivial
theorem tx_cmp {op : CmpOp} {g : D → D → Option Rv} (hg : Op2 X (Wo X (compareOp op)) g) (ha : Ex X a ma) (hb : Ex X b mb) (hm : behindInMarks op b = false := by first | exact nomark _ (by decide) (by decide) | rfl) : Tx X (.Compare a [op] [b] pos) (mBool (mBin g ma mb)) := by
  refine ⟨fun E η M c σ H s => ?_⟩
  have h : Out X (RV X.K X.mg) (tOp (Wo X (compareOp op)) (We X a) (We X b) σ H) E η M σ (mBin g ma mb c) := by
    refine Out.bind (R := RVst X.K X.mg) (fun x H1 Q => We X b σ H1 fun y H2 => Wo X (compareOp op) x y H2 Q) (out_st (ha E η M c σ H s)) (fun Q hq => hq) fun ra c1 x η1 M1 H1 s1 x1 z1 => ?_
    refine Out.bind (R := RVst X.K X.mg) (fun y H2 Q => Wo X (compareOp op) x y H2 Q) (out_st (hb E η1 M1 c1 σ H1 s1)) (fun Q hq => hq) fun rb c2 y η2 M2 H2 s2 x2 z2 => ?_
    exact out_m2 hg s2 (z1.2.keep x2 z1.1) z2.2
  exact out_bool h fun Q hq => pt_wt (pt_cmpR wo_op we_pe we_pe hm) hq
def tmAnd (t u : Cf → Res Bool) : Cf → Res Bool := fun c => (t c).bind fun b c1 => if b then u c1 else .ok false c1
def tmOr (t u : Cf → Res Bool) : Cf → Res Bool := fun c => (t c).bind fun b c1 => if b then .ok true c1 else u c1
def tmNot (t : Cf → Res Bool) : Cf → Res Bool := fun c => (t c).bind fun b c1 => .ok (!b) c1
/-- a chain of and, or: whatever its whole is -/
def Txw (X : Cx) (e : Expr) (m : Cf → Res Bool) : Prop := ∃ t : TT, PW X e t ∧ ∀ E η M c σ H, SR X.K X.mg E η M c σ H → Out X RB (t σ H) E η M σ (m c)
variable {t u : Cf → Res Bool} {rest : List Expr}
theorem txw_tx (h : Txw X e t) : Tx X e t := by
  obtain ⟨w, p, q⟩ := h
  refine ⟨fun E η M c σ H s => ?_⟩
  exact (q E η M c σ H s).imp (R' := RB) (fun x => x) (fun Q hq => pt_wt p.pt hq) fun _ _ _ _ _ _ _ z => z
theorem txw_and1 (h : Tx X a t) : Txw X (.BoolOp .And [a] pos) t := ⟨_, pw_and1 wt_pt, h.run⟩
theorem txw_or1 (h : Tx X a t) : Txw X (.BoolOp .Or [a] pos) t := ⟨_, pw_or1 wt_pt, h.run⟩
theorem txw_and (h : Tx X a t) (h2 : Txw X (.BoolOp .And (b :: rest) pos) u) : Txw X (.BoolOp .And (a :: b :: rest) pos) (tmAnd t u) := by
  obtain ⟨w, p, q⟩ := h2
  refine ⟨_, pw_and wt_pt p, fun E η M c σ H s => ?_⟩
  refine Out.bind (R := RB) (fun x H1 Q => if x = true then w σ H1 Q else Q false H1) (h E η M c σ H s) (fun Q hq => hq) fun r c1 x η1 M1 H1 s1 x1 z1 => ?_
  cases z1
  cases r with
  | true => exact (q E η1 M1 c1 σ H1 s1).imp (R' := RB) (fun x => x) (fun Q hq => by rw [if_pos rfl]; exact hq) fun _ _ _ _ _ _ _ z => z
  | false => exact out_ok s1 (fun Q hq => by rw [if_neg Bool.false_ne_true]; exact hq) rfl
theorem txw_or (h : Tx X a t) (h2 : Txw X (.BoolOp .Or (b :: rest) pos) u) : Txw X (.BoolOp .Or (a :: b :: rest) pos) (tmOr t u) := by
  obtain ⟨w, p, q⟩ := h2
  refine ⟨_, pw_or wt_pt p, fun E η M c σ H s => ?_⟩
  refine Out.bind (R := RB) (fun x H1 Q => if x = true then Q true H1 else w σ H1 Q) (h E η M c σ H s) (fun Q hq => hq) fun r c1 x η1 M1 H1 s1 x1 z1 => ?_
  cases z1
  cases r with
  | false => exact (q E η1 M1 c1 σ H1 s1).imp (R' := RB) (fun x => x) (fun Q hq => by rw [if_neg Bool.false_ne_true]; exact hq) fun _ _ _ _ _ _ _ z => z
  | true => exact out_ok s1 (fun Q hq => by rw [if_pos rfl]; exact hq) rfl
theorem tx_not (h : Tx X a t) : Tx X (.UnaryOp .Not a pos) (tmNot t) := by
  refine ⟨fun E η M c σ H s => ?_⟩
  exact Out.bind (R := RB) (fun x H1 Q => Q (!x) H1) (h E η M c σ H s) (fun Q hq => pt_wt (pt_not wt_pt) hq) fun r c1 x η1 M1 H1 s1 x1 z1 => by cases z1; exact out_ok s1 (fun Q hq => hq) rfl
/-! and, or, not as values of truths -/
def mAnd (ma mb : Em) : Em := fun c => (ma c).bind fun ra c1 => match view c1 ra with
  | some (.bl true) => mb c1
  | some (.bl false) => .ok (.fz (.bl false)) c1
  | _ => .stuck
def mOr (ma mb : Em) : Em := fun c => (ma c).bind fun ra c1 => match view c1 ra with
  | some (.bl false) => mb c1
  | some (.bl true) => .ok (.fz (.bl true)) c1
  | _ => .stuck
theorem ex_one {op} (h : Ex X a ma) : Ex X (.BoolOp op [a] pos) ma := ⟨fun E η M c σ H s => (h E η M c σ H s).imp (fun x => x) (fun Q hq => pe_we (pe_one we_pe) hq) fun _ _ _ _ _ _ _ z => z⟩
theorem ex_and (ha : Ex X a ma) (hb : Ex X (.BoolOp .And (b :: rest) pos) mb) : Ex X (.BoolOp .And (a :: b :: rest) pos) (mAnd ma mb) := by
  refine ⟨fun E η M c σ H s => ?_⟩
  refine Out.bind (fun (x : V) H1 (Q : VK) => ∃ k, x = V.bl k ∧ if k = true then We X (.BoolOp .And (b :: rest) pos) σ H1 Q else Q (.bl false) H1) (ha E η M c σ H s) (fun Q hq => pe_we (pe_and we_pe we_pe) hq) fun ra c1 x η1 M1 H1 s1 x1 z1 => ?_
  cases e1 : view c1 ra with
  | none => trivial
  | some d =>
    cases d with
    | bl k =>
      have ev := (view_ok s1 z1 e1).bl
      cases k with
      | true => exact (hb E η1 M1 c1 σ H1 s1).imp (fun x => x) (fun Q hq => ⟨true, ev, by rw [if_pos rfl]; exact hq⟩) fun _ _ _ _ _ _ _ z => z
      | false => exact out_ok s1 (fun Q hq => ⟨false, ev, by rw [if_neg Bool.false_ne_true]; exact hq⟩) (Rep.bl false)
    | _ => trivial
theorem ex_or (ha : Ex X a ma) (hb : Ex X (.BoolOp .Or (b :: rest) pos) mb) : Ex X (.BoolOp .Or (a :: b :: rest) pos) (mOr ma mb) := by
  refine ⟨fun E η M c σ H s => ?_⟩
  refine Out.bind (fun (x : V) H1 (Q : VK) => ∃ k, x = V.bl k ∧ if k = true then Q (.bl true) H1 else We X (.BoolOp .Or (b :: rest) pos) σ H1 Q) (ha E η M c σ H s) (fun Q hq => pe_we (pe_or we_pe we_pe) hq) fun ra c1 x η1 M1 H1 s1 x1 z1 => ?_
  cases e1 : view c1 ra with
  | none => trivial
  | some d =>
    cases d with
    | bl k =>
      have ev := (view_ok s1 z1 e1).bl
      cases k with
      | false => exact (hb E η1 M1 c1 σ H1 s1).imp (fun x => x) (fun Q hq => ⟨false, ev, by rw [if_neg Bool.false_ne_true]; exact hq⟩) fun _ _ _ _ _ _ _ z => z
      | true => exact out_ok s1 (fun Q hq => ⟨true, ev, by rw [if_pos rfl]; exact hq⟩) (Rep.bl true)
    | _ => trivial
def mNot (ma : Em) : Em := fun c => (ma c).bind fun ra c1 => match view c1 ra with
  | some (.bl b) => .ok (.fz (.bl (!b))) c1
  | _ => .stuck
theorem ex_not (ha : Ex X a ma) : Ex X (.UnaryOp .Not a pos) (mNot ma) := by
  refine ⟨fun E η M c σ H s => ?_⟩
  refine Out.bind (fun (x : V) H1 (Q : VK) => ∃ k, x = V.bl k ∧ Q (.bl (!k)) H1) (ha E η M c σ H s) (fun Q hq => pe_we (pe_not we_pe) hq) fun ra c1 x η1 M1 H1 s1 x1 z1 => ?_
  cases e1 : view c1 ra with
  | none => trivial
  | some d =>
    cases d with
    | bl k => exact out_ok s1 (fun Q hq => ⟨k, (view_ok s1 z1 e1).bl, hq⟩) (Rep.bl _)
    | _ => trivial
/-- a if t else b -/
def mIfE (t : Cf → Res Bool) (ma mb : Em) : Em := fun c => (t c).bind fun k c1 => if k then ma c1 else mb c1
theorem ex_if {cd : Expr} (ht : Tx X cd t) (ha : Ex X a ma) (hb : Ex X b mb) : Ex X (.IfExp cd a b pos) (mIfE t ma mb) := by
  refine ⟨fun E η M c σ H s => ?_⟩
  refine Out.bind (R := RB) (fun x H1 Q => if x = true then We X a σ H1 Q else We X b σ H1 Q) (ht E η M c σ H s) (fun Q hq => pe_we (pe_ifExp wt_pt we_pe we_pe) hq) fun r c1 x η1 M1 H1 s1 x1 z1 => ?_
  cases z1
  cases r with
  | true => exact (ha E η1 M1 c1 σ H1 s1).imp (fun x => x) (fun Q hq => by rw [if_pos rfl]; exact hq) fun _ _ _ _ _ _ _ z => z
  | false => exact (hb E η1 M1 c1 σ H1 s1).imp (fun x => x) (fun Q hq => by rw [if_neg Bool.false_ne_true]; exact hq) fun _ _ _ _ _ _ _ z => z

/-! ### arguments -/
def maNil : Cf → Res (List Rv) := fun c => .ok [] c
def maCons (m : Em) (ms : Cf → Res (List Rv)) : Cf → Res (List Rv) := fun c => (m c).st.bind fun r c1 => (ms c1).bind fun rs c2 => .ok (r :: rs) c2
theorem ax_nil : Ax X [] maNil := ⟨fun E η M c σ H s => out_ok s (fun Q hq => pa_wa pa_nil hq) ⟨fun r hr => by simp at hr, .nil⟩⟩
theorem ax_cons {ms : Cf → Res (List Rv)} (he : Ex X e m) (hs : Ax X es ms) (hst : starEach (e :: es) X.env = (false, eval e X.env) :: starEach es X.env := by rfl) : Ax X (e :: es) (maCons m ms) := by
  refine ⟨fun E η M c σ H s => ?_⟩
  refine Out.bind (R := RVst X.K X.mg) (fun x H1 Q => Wa X es σ H1 fun xs H2 => Q (x :: xs) H2) (out_st (he E η M c σ H s)) (fun Q hq => pa_wa (pa_cons we_pe wa_pa hst) hq) fun r c1 x η1 M1 H1 s1 x1 z1 => ?_
  refine Out.bind (R := RVs X.K X.mg) (fun xs H2 Q => Q (x :: xs) H2) (hs E η1 M1 c1 σ H1 s1) (fun Q hq => hq) fun rs c2 xs η2 M2 H2 s2 x2 z2 => ?_
  exact out_ok s2 (fun Q hq => hq) ⟨fun q hq => (List.mem_cons.mp hq).elim (fun z => z ▸ z1.1) (z2.1 q), .cons (z1.2.keep x2 z1.1) z2.2⟩
def views (c : Cf) : List Rv → Option (List D)
  | [] => some []
  | r :: rs => match view c r, views c rs with
    | some d, some ds => some (d :: ds)
    | _, _ => none
def vals : Cf → List Rv → Option (List D × Cf)
  | c, [] => some ([], c)
  | c, r :: rs => match toVal c r with
    | some (d, c1) => match vals c1 rs with
      | some (ds, c2) => some (d :: ds, c2)
      | none => none
    | none => none
theorem views_ok : ∀ {rs : List Rv} {vs : List V} {ds : List D}, SR X.K X.mg E η M c σ H → Paired (fun v r => RvR X.K X.mg E η M c σ H v r) vs rs → views c rs = some ds → Paired (fun v d => VwR X.K X.mg η M H v d) vs ds
  | [], _, _, s, .nil, e => by cases e; exact .nil
  | r :: rs, _, ds, s, .cons h hs, e => by
    unfold views at e
    cases e1 : view c r with
    | none => rw [e1] at e; cases e
    | some d =>
      cases e2 : views c rs with
      | none => rw [e1, e2] at e; cases e
      | some ds' =>
        rw [e1, e2] at e; cases e
        exact .cons (view_ok s h e1) (views_ok s hs e2)
theorem vals_ok : ∀ {rs : List Rv} {vs : List V} {ds : List D} {M : Hp} {c c' : Cf}, SR X.K X.mg E η M c σ H → (∀ r ∈ rs, Settled r) → Paired (fun v r => RvR X.K X.mg E η M c σ H v r) vs rs → vals c rs = some (ds, c') →
    ∃ M', SR X.K X.mg E η M' c' σ H ∧ Ext η M η M' ∧ RepL X.K X.mg η M' vs ds
  | [], _, _, M, c, c', s, _, .nil, e => by
    have e : some (([] : List D), c) = some (_, c') := e
    cases e
    exact ⟨M, s, .refl, .nil⟩
  | r :: rs, _, ds, M, c, c', s, hst, .cons h hs, e => by
    unfold vals at e
    cases e1 : toVal c r with
    | none => rw [e1] at e; cases e
    | some p =>
      obtain ⟨d, c1⟩ := p
      rw [e1] at e
      dsimp only at e
      cases e2 : vals c1 rs with
      | none => rw [e2] at e; cases e
      | some p2 =>
        obtain ⟨ds', c2⟩ := p2
        rw [e2] at e; cases e
        obtain ⟨M1, s1, x1, r1⟩ := toVal_ok s h e1
        have hk : ∀ {vs : List V} {rs : List Rv}, (∀ r ∈ rs, Settled r) → Paired (fun v r => RvR X.K X.mg E η M c σ H v r) vs rs → Paired (fun v r => RvR X.K X.mg E η M1 c1 σ H v r) vs rs := by
          intro vs rs hst hp
          induction hp with
          | nil => exact .nil
          | cons h hp ih => exact .cons (h.keep x1 (hst _ List.mem_cons_self)) (ih fun r hr => hst r (List.mem_cons_of_mem _ hr))
        obtain ⟨M2, s2, x2, r2⟩ := vals_ok s1 (fun r hr => hst r (List.mem_cons_of_mem _ hr)) (hk (fun r hr => hst r (List.mem_cons_of_mem _ hr)) hs) e2
        exact ⟨M2, s2, x1.trans x2, .cons (r1.mono x2) r2⟩

/-! ### calls of builtins -/
def OpN (X : Cx) (w : List V → Hp → VK → Prop) (g : List D → Option Rv) : Prop :=
  ∀ E η M c σ H xs ds r, SR X.K X.mg E η M c σ H → Paired (fun v d => VwR X.K X.mg η M H v d) xs ds → g ds = some r →
    ∀ Q : VK, (∀ v η' M' H', SR X.K X.mg E η' M' c σ H' → Ext η M η' M' → RvR X.K X.mg E η' M' c σ H' v r → Q v H') → w xs H Q
def mCB (g : List D → Option Rv) (ms : Cf → Res (List Rv)) : Em := fun c => (ms c).bind fun rs c1 => match views c1 rs with
  | some ds => match g ds with
    | some r => .ok r c1
    | none => .stuck
  | none => .stuck
theorem out_mCB {w : List V → Hp → VK → Prop} {g : List D → Option Rv} (hg : OpN X w g) {ms : Cf → Res (List Rv)} {tw : VK → Prop} (ha : Ax X es ms) (s : SR X.K X.mg E η M c σ H) (imp : ∀ Q, Wa X es σ H (fun xs H1 => w xs H1 Q) → tw Q) :
    Out X (RV X.K X.mg) tw E η M σ (mCB g ms c) := by
  refine Out.bind (R := RVs X.K X.mg) (fun xs H1 Q => w xs H1 Q) (ha E η M c σ H s) imp fun rs c1 xs η1 M1 H1 s1 x1 z1 => ?_
  cases e1 : views c1 rs with
  | none => trivial
  | some ds =>
    dsimp only
    cases e2 : g ds with
    | none => trivial
    | some r => exact fun Q hq => hg E η1 M1 c1 σ H1 xs ds r s1 (views_ok s1 z1.2 e1) e2 Q hq
variable {x : Str} {p : Pos} {id T : String} {g : List D → Option Rv} {ms : Cf → Res (List Rv)}
theorem ex_callB (hc : OpN X (Wc X (.builtin id)) g) (hg : Gl X x) (hm : X.mg x = none) (hv : bootBuiltins x = some (.builtin id)) (ha : Ax X (e :: es) ms) (hn : x ≠ "__name__" := by decide) (hdb : (x == ("__debug__" : Str)) = false := by decide)
    (he : starEach (e :: es) X.env = (false, eval e X.env) :: starEach es X.env := by rfl) (hpl : (backTo pos (starEach es X.env)).any (·.1) = false := by rfl) : Ex X (.Call (.Name x p) (e :: es) [] pos) (mCB g ms) :=
  ⟨fun E η M c σ H s => out_mCB hc ha s fun Q hq => pe_we (pe_callB wc_call hg hm hv wa_pa hn hdb he hpl) hq⟩
theorem ex_callTy (hc : OpN X (Wc X (.type T)) g) (hg : Gl X x) (hm : X.mg x = none) (hv : bootBuiltins x = some (.type T)) (ha : Ax X (e :: es) ms) (hn : x ≠ "__name__" := by decide) (hdb : (x == ("__debug__" : Str)) = false := by decide)
    (he : starEach (e :: es) X.env = (false, eval e X.env) :: starEach es X.env := by rfl) (hpl : (backTo pos (starEach es X.env)).any (·.1) = false := by rfl) : Ex X (.Call (.Name x p) (e :: es) [] pos) (mCB g ms) :=
  ⟨fun E η M c σ H s => out_mCB hc ha s fun Q hq => pe_we (pe_callTy wc_call hg hm hv wa_pa hn hdb he hpl) hq⟩

/-! ### displays -/
def mTup (ms : Cf → Res (List Rv)) : Em := fun c => (ms c).bind fun rs c1 => match vals c1 rs with
  | some (ds, c2) => if ds.length ≤ sizeLine then .ok (.fz (.tup ds)) c2 else .stuck
  | none => .stuck
def mLst (ms : Cf → Res (List Rv)) : Em := fun c => (ms c).bind fun rs c1 => match vals c1 rs with
  | some (ds, c2) => if ds.length ≤ sizeLine then .ok (.nw (.lst ds)) c2 else .stuck
  | none => .stuck
theorem out_new {d : D} {o : HO} {tw : VK → Prop} (s : SR X.K X.mg E η M c σ H) (imp : ∀ Q : VK, (∀ p, H p = none → Q (.ref p) (upd H p o)) → tw Q) (ha : ∀ p, H p = none → At X.K X.mg η M (upd H p o) p d) : Out X (RV X.K X.mg) tw E η M σ (.ok (.nw d) c) :=
  fun Q hq => imp Q fun p hp => by
    obtain ⟨f1, f2, f3, f4⟩ := s.free hp
    exact hq _ η M _ (s.alloc hp) .refl ⟨p, rfl, f1, f2, f3, f4, ha p hp⟩
theorem out_ext {α β : Type} {R : Rl α β} {tw : (α → Hp → Prop) → Prop} {M' : Hp} {m : Res β} (x : Ext η M η M') (h : Out X R tw E η M' σ m) : Out X R tw E η M σ m := by
  cases m with
  | stuck => trivial
  | ok r c => exact fun Q hq => h Q fun v η1 M1 H1 s1 x1 z => hq v η1 M1 H1 s1 (x.trans x1) z
  | err y c => exact fun W Q tk hq => h W Q tk fun cls d η1 M1 H1 s1 x1 z => hq cls d η1 M1 H1 s1 (x.trans x1) z
/-- a new tuple freezes at once -/
theorem out_newT {xs : List V} {ds : List D} {tw : VK → Prop} (s : SR X.K X.mg E η M c σ H) (imp : ∀ Q : VK, (∀ p, H p = none → Q (.ref p) (upd H p (.tup xs))) → tw Q) (r : RepL X.K X.mg η M xs ds) : Out X (RV X.K X.mg) tw E η M σ (.ok (.fz (.tup ds)) c) :=
  fun Q hq => imp Q fun p hp => by
    obtain ⟨f1, f2, f3, f4⟩ := s.free hp
    obtain ⟨s3, x3⟩ := (s.alloc (o := .tup xs) hp).freeze f1 f2 f3 f4 upd_same
    exact hq _ η _ _ s3 x3 (.tup upd_same (r.mono x3))
theorem ex_tup {k : Nat} (h : Ax X es ms) : Ex X (.Tuple es k pos) (mTup ms) := by
  refine ⟨fun E η M c σ H s => ?_⟩
  refine Out.bind (R := RVs X.K X.mg) (fun xs H1 (Q : VK) => xs.length ≤ sizeLine ∧ ∀ p, H1 p = none → Q (.ref p) (upd H1 p (.tup xs))) (h E η M c σ H s) (fun Q hq => pe_we (pe_tup wa_pa) hq) fun rs c1 xs η1 M1 H1 s1 x1 z1 => ?_
  cases e1 : vals c1 rs with
  | none => trivial
  | some q =>
    obtain ⟨ds, c2⟩ := q
    dsimp only
    by_cases hl : ds.length ≤ sizeLine
    · rw [if_pos hl]
      obtain ⟨M2, s2, x2, r2⟩ := vals_ok s1 z1.1 z1.2 e1
      exact out_ext x2 (out_newT s2 (fun Q hq => ⟨by rw [r2.length]; exact hl, hq⟩) r2)
    · rw [if_neg hl]; trivial
theorem ex_lst (h : Ax X es ms) : Ex X (.List es pos) (mLst ms) := by
  refine ⟨fun E η M c σ H s => ?_⟩
  refine Out.bind (R := RVs X.K X.mg) (fun xs H1 (Q : VK) => xs.length ≤ sizeLine ∧ ∀ p, H1 p = none → Q (.ref p) (upd H1 p (.lst xs))) (h E η M c σ H s) (fun Q hq => pe_we (pe_lst wa_pa) hq) fun rs c1 xs η1 M1 H1 s1 x1 z1 => ?_
  cases e1 : vals c1 rs with
  | none => trivial
  | some q =>
    obtain ⟨ds, c2⟩ := q
    dsimp only
    by_cases hl : ds.length ≤ sizeLine
    · rw [if_pos hl]
      obtain ⟨M2, s2, x2, r2⟩ := vals_ok s1 z1.1 z1.2 e1
      exact out_ext x2 (out_new s2 (fun Q hq => ⟨by rw [r2.length]; exact hl, hq⟩) fun q hq => ⟨xs, upd_same, r2⟩)
    · rw [if_neg hl]; trivial
/-- {} -/
def mDct : Em := fun c => .ok (.nw (.dct [])) c
def mDcT : Em := fun c => .ok (.nw (.dcT [])) c
theorem ex_dct : Ex X (.Dict [] [] pos) mDct := ⟨fun E η M c σ H s => out_new s (fun Q hq => pe_we pe_dnewK hq) fun q hq => ⟨[], upd_same, rfl, .nil⟩⟩
theorem ex_dcT : Ex X (.Dict [] [] pos) mDcT := ⟨fun E η M c σ H s => out_new s (fun Q hq => pe_we pe_dnewT hq) fun q hq => ⟨[], upd_same, rfl, .nil⟩⟩
end
end LH
/-! LHStmt: statements, loops, comprehensions, calls of defs, run as trees. -/
namespace LH
open PySem PySem.Spec PyProof.Rows L2

inductive Fl where
  | nx | rt (r : Rv) | bk | ct
/-- what is wanted behind a statement that runs to fl -/
def EndR (X : Cx) (E : En) (η : List Addr) (M : Hp) (c' : Cf) (fl : Fl) (Z : Ends) : Prop :=
  match fl with
  | .nx => ∀ σ' η' M' H', SR X.K X.mg E η' M' c' σ' H' → Ext η M η' M' → Z.nx σ' H'
  | .bk => ∀ σ' η' M' H', SR X.K X.mg E η' M' c' σ' H' → Ext η M η' M' → Z.bk σ' H'
  | .ct => ∀ σ' η' M' H', SR X.K X.mg E η' M' c' σ' H' → Ext η M η' M' → Z.ct σ' H'
  | .rt r => ∀ v σ' η' M' H', SR X.K X.mg E η' M' c' σ' H' → Ext η M η' M' → RvR X.K X.mg E η' M' c' σ' H' v r → Z.rt v H'
def Good (X : Cx) (E : En) (η : List Addr) (M : Hp) (F : Res Fl) (Z : Ends) : Prop :=
  match F with
  | .stuck => False
  | .ok fl c' => EndR X E η M c' fl Z
  | .err x c' => ∃ W : WX, Takes X W ∧ ∀ cls d σ' η' M' H', SR X.K X.mg E η' M' c' σ' H' → Ext η M η' M' → XR X.K X.mg η' M' cls d x → W cls d σ' H'
def OutS (X : Cx) (tw : Ends → Prop) (E : En) (η : List Addr) (M : Hp) (F : Res Fl) : Prop := ∀ Z, Good X E η M F Z → tw Z
abbrev Sm := Cf → Res Fl
structure Sx (X : Cx) (st : Stmt) (m : Sm) : Prop where
  run : ∀ E η M c σ H, SR X.K X.mg E η M c σ H → OutS X (fun Z => Ws X st Z σ H) E η M (m c)
instance {X : Cx} {st : Stmt} {m : Sm} : CoeFun (Sx X st m) (fun _ => ∀ E η M c σ H, SR X.K X.mg E η M c σ H → OutS X (fun Z => Ws X st Z σ H) E η M (m c)) := ⟨Sx.run⟩
structure Bx (X : Cx) (st : List Stmt) (m : Sm) : Prop where
  run : ∀ E η M c σ H, SR X.K X.mg E η M c σ H → OutS X (fun Z => Wss X st Z σ H) E η M (m c)
instance {X : Cx} {st : List Stmt} {m : Sm} : CoeFun (Bx X st m) (fun _ => ∀ E η M c σ H, SR X.K X.mg E η M c σ H → OutS X (fun Z => Wss X st Z σ H) E η M (m c)) := ⟨Bx.run⟩

section
variable {X : Cx} {E : En} {η η' : List Addr} {M M' H H' : Hp} {c c' : Cf} {σ σ' : St} {Z Z' : Ends} {F : Res Fl}
theorem Good.ext (x : Ext η M η' M') (h : Good X E η M F Z) : Good X E η' M' F Z := by
  cases F with
  | stuck => exact h
  | err y c => obtain ⟨W, tk, h⟩ := h; exact ⟨W, tk, fun cls d σ1 η1 M1 H1 s x1 z => h cls d σ1 η1 M1 H1 s (x.trans x1) z⟩
  | ok fl c =>
    cases fl with
    | nx => exact fun σ1 η1 M1 H1 s x1 => h σ1 η1 M1 H1 s (x.trans x1)
    | bk => exact fun σ1 η1 M1 H1 s x1 => h σ1 η1 M1 H1 s (x.trans x1)
    | ct => exact fun σ1 η1 M1 H1 s x1 => h σ1 η1 M1 H1 s (x.trans x1)
    | rt r => exact fun v σ1 η1 M1 H1 s x1 z => h v σ1 η1 M1 H1 s (x.trans x1) z
/-- from an expression to a statement -/
theorem OutS.bind {α β : Type} {R : Rl α β} {tw : (α → Hp → Prop) → Prop} {tw' : Ends → Prop} {m : Res β} {f : β → Cf → Res Fl} (k : α → Hp → Ends → Prop)
    (h : Out X R tw E η M σ m) (imp : ∀ Z, tw (fun x H1 => k x H1 Z) → tw' Z)
    (hk : ∀ r c1 v η1 M1 H1, SR X.K X.mg E η1 M1 c1 σ H1 → Ext η M η1 M1 → R E η1 M1 c1 σ H1 v r → OutS X (k v H1) E η1 M1 (f r c1)) : OutS X tw' E η M (m.bind f) := by
  cases m with
  | stuck => exact fun Z g => g.elim
  | err x c => exact fun Z ⟨W, tk, g⟩ => imp Z (h W _ tk fun cls d η' M' H' s x z => g cls d σ η' M' H' s x z)
  | ok r c => exact fun Z g => imp Z (h _ fun v η1 M1 H1 s x z => hk r c v η1 M1 H1 s x z Z (g.ext x))
variable {st : Stmt} {rest : List Stmt} {m m2 : Sm} {e : Expr} {me : Em} {pos : Pos}
def bNil : Sm := fun c => .ok .nx c
def bCons (m m2 : Sm) : Sm := fun c => match m c with
  | .ok .nx c' => m2 c'
  | r => r
theorem bx_nil : Bx X [] bNil := ⟨fun E η M c σ H s Z g => pss_wss pss_nil (g σ η M H s .refl)⟩
theorem bx_cons (h1 : Sx X st m) (h2 : Bx X rest m2) : Bx X (st :: rest) (bCons m m2) := by
  refine ⟨fun E η M c σ H s Z g => ?_⟩
  unfold bCons at g
  refine pss_wss (pss_cons ws_ps wss_pss) (h1 E η M c σ H s _ ?_)
  cases e1 : m c with
  | stuck => rw [e1] at g; exact g.elim
  | err x c1 => rw [e1] at g; exact g
  | ok fl c1 =>
    rw [e1] at g
    cases fl with
    | nx => exact fun σ1 η1 M1 H1 s1 x1 => h2 E η1 M1 c1 σ1 H1 s1 Z (Good.ext x1 g)
    | bk => exact g
    | ct => exact g
    | rt r => exact g
theorem bx_one (h1 : Sx X st m) : Bx X [st] m := by
  refine ⟨fun E η M c σ H s Z g => ?_⟩
  exact pss_wss (pss_one ws_ps) (h1 E η M c σ H s Z g)
theorem sx_pass : Sx X (.Pass pos) bNil := ⟨fun E η M c σ H s Z g => ps_ws ps_pass (g σ η M H s .refl)⟩
theorem sx_break : Sx X (.Break pos) (fun c => .ok .bk c) := ⟨fun E η M c σ H s Z g => ps_ws ps_break (g σ η M H s .refl)⟩
theorem sx_continue : Sx X (.Continue pos) (fun c => .ok .ct c) := ⟨fun E η M c σ H s Z g => ps_ws ps_continue (g σ η M H s .refl)⟩
def sDrop (me : Em) : Sm := fun c => (me c).bind fun _ c1 => .ok .nx c1
theorem sx_expr (he : Ex X e me) (hs : swapsWith e none pos.line X.env = pure false := by rfl) : Sx X (.Expr e pos) (sDrop me) := by
  refine ⟨fun E η M c σ H s => ?_⟩
  refine OutS.bind (fun _ H1 Z => Z.nx σ H1) (he E η M c σ H s) (fun Z hq => ps_ws (ps_expr we_pe hs) hq) fun r c1 v η1 M1 H1 s1 x1 z1 Z g => g σ η1 M1 H1 s1 .refl
def sRet (me : Em) : Sm := fun c => (me c).bind fun r c1 => .ok (.rt r) c1
theorem sx_ret (he : Ex X e me) : Sx X (.Return (some e) pos) (sRet me) := by
  refine ⟨fun E η M c σ H s => ?_⟩
  refine OutS.bind (fun v H1 Z => Z.rt v H1) (he E η M c σ H s) (fun Z hq => ps_ws (ps_ret we_pe) hq) fun r c1 v η1 M1 H1 s1 x1 z1 Z g => g v σ η1 M1 H1 s1 .refl z1
def sRetN : Sm := fun c => .ok (.rt (.fz .non)) c
theorem sx_retN : Sx X (.Return none pos) sRetN := ⟨fun E η M c σ H s Z g => ps_ws ps_retN (g .non σ η M H s .refl Rep.non)⟩
def sIf (t : Cf → Res Bool) (m m2 : Sm) : Sm := fun c => (t c).bind fun b c1 => if b then m c1 else m2 c1
theorem sx_if {cd : Expr} {a b : List Stmt} {t : Cf → Res Bool} (ht : Tx X cd t) (ha : Bx X a m) (hb : Bx X b m2) : Sx X (.If cd a b pos) (sIf t m m2) := by
  refine ⟨fun E η M c σ H s => ?_⟩
  refine OutS.bind (R := RB) (fun k H1 Z => if k = true then Wss X a Z σ H1 else Wss X b Z σ H1) (ht E η M c σ H s) (fun Z hq => ps_ws (ps_if wt_pt wss_pss wss_pss) hq) fun r c1 v η1 M1 H1 s1 x1 z1 Z g => ?_
  cases z1
  cases r with
  | true => exact (show (if true = true then _ else _) from by rw [if_pos rfl]; exact ha E η1 M1 c1 σ H1 s1 Z g)
  | false => exact (show (if false = true then _ else _) from by rw [if_neg Bool.false_ne_true]; exact hb E η1 M1 c1 σ H1 s1 Z g)

/-! ### stores -/
def putR (i : Nat) (r : Rv) (c : Cf) : Option Cf :=
  if i < c.ρ.length then
    match r with
    | .fz d => some { c with ρ := c.ρ.set i (.fz d) }
    | .nw (.tup ds) => some { c with ρ := c.ρ.set i (.fz (.tup ds)) }
    | .nw d => some { c with ρ := c.ρ.set i (.ow d) }
    | .loc j => match c.ρ[j]? with
      | some (.ow d) => some { c with ρ := (c.ρ.set j (.fz d)).set i (.fz d) }
      | some (.fz d) => some { c with ρ := c.ρ.set i (.fz d) }
      | _ => none
  else none
theorem SR.setFz {K : Fg} {mg : Mg} {d : D} {v : V} {i : Nat} (s : SR K mg E η M c σ H) (hi : i < c.ρ.length) (r : Rep K mg η M v d) : SR K mg E η M { c with ρ := c.ρ.set i (.fz d) } (σ.set i (some v)) H :=
  s.setSlot hi ⟨v, rfl, r⟩ fun _ _ z => nomatch z
theorem putR_ok {K : Fg} {mg : Mg} {v : V} {i : Nat} {r : Rv} (s : SR K mg E η M c σ H) (h : RvR K mg E η M c σ H v r) (e : putR i r c = some c') :
    ∃ M', SR K mg E η M' c' (σ.set i (some v)) H ∧ Ext η M η M' := by
  unfold putR at e
  by_cases hi : i < c.ρ.length
  · rw [if_pos hi] at e
    have own : ∀ {d : D}, RvR K mg E η M c σ H v (.nw d) → SR K mg E η M { c with ρ := c.ρ.set i (.ow d) } (σ.set i (some v)) H := by
      rintro d ⟨a, rfl, h1, h2, h3, h4, h5⟩
      exact s.setSlot hi ⟨a, rfl, h1, h2, h3, h5⟩ fun t b _ hb j d' hj z q => by
        cases hb
        exact h4 ⟨j, d', z, q⟩
    cases r with
    | fz d => cases e; exact ⟨M, s.setFz hi h, .refl⟩
    | nw d =>
      cases d with
      | tup ds =>
        cases e
        obtain ⟨M', s', x, z⟩ := settle_ok s h
        exact ⟨M', s'.setFz hi z, x⟩
      | _ => cases e; exact ⟨M, own h, .refl⟩
    | loc j =>
      dsimp only at e
      have h : σ[j]? = some (some v) := h
      cases q : c.ρ[j]? with
      | none => rw [q] at e; cases e
      | some sl =>
        rw [q] at e
        cases sl with
        | un => cases e
        | fz d =>
          cases e
          obtain ⟨w, e1, r1⟩ := s.slot j _ q
          rw [h] at e1; cases e1
          exact ⟨M, s.setFz hi r1, .refl⟩
        | ow d =>
          cases e
          obtain ⟨a, M', e1, x, s', r1⟩ := s.freezeSlot q
          rw [h] at e1; cases e1
          exact ⟨M', s'.setFz (by simpa using hi) r1, x⟩
  · rw [if_neg hi] at e; cases e
def sSet (i : Nat) (me : Em) : Sm := fun c => (me c).bind fun r c1 => match putR i r c1 with
  | some c2 => .ok .nx c2
  | none => .stuck
variable {i : Nat} {x : Str} {pos' : Pos}
theorem out_put {m : Res Rv} {tw : VK → Prop} {tw' : Ends → Prop} (h : Out X (RV X.K X.mg) tw E η M σ m) (imp : ∀ Z : Ends, tw (fun v H1 => Z.nx (σ.set i (some v)) H1) → tw' Z) :
    OutS X tw' E η M (m.bind fun r c1 => match putR i r c1 with | some c2 => .ok .nx c2 | none => .stuck) := by
  refine OutS.bind (fun v H1 Z => Z.nx (σ.set i (some v)) H1) h imp fun r c1 v η1 M1 H1 s1 x1 z1 Z g => ?_
  cases e1 : putR i r c1 with
  | none => rw [e1] at g; exact g.elim
  | some c2 =>
    rw [e1] at g
    obtain ⟨M2, s2, x2⟩ := putR_ok s1 z1 e1
    exact g _ η1 M2 H1 s2 x2
theorem sx_set (i : Nat) (hN : X.N.Nodup) (he : Ex X e me) (hi : X.N[i]? = some x := by rfl) (hx : Loc X.env.scope x := by first | exact Or.inl rfl | exact Or.inr rfl) (hs : swapsWith e (some (.Name x pos')) pos.line X.env = pure false := by rfl) (hf : X.fn x = true ∨ X.env.scope.names.lookup x = some .local := by first | exact .inl rfl | exact .inr rfl | assumption) :
    Sx X (.Assign [.Name x pos'] e pos) (sSet i me) := ⟨fun E η M c σ H s => out_put (he E η M c σ H s) fun Z hq => ps_ws (ps_set hN hi hx we_pe hs hf) hq⟩
/-- a name holds a new shared object -/
def putH (i : Nat) (r : Rv) (c : Cf) : Option Cf :=
  match r with
  | .nw d => if i < c.ρ.length then some ⟨c.ρ.set i (.fz (.hdl c.S.length)), c.S ++ [d]⟩ else none
  | _ => none
def sSetH (i : Nat) (me : Em) : Sm := fun c => (me c).bind fun r c1 => match putH i r c1 with
  | some c2 => .ok .nx c2
  | none => .stuck
theorem sx_setH (i : Nat) (hN : X.N.Nodup) (he : Ex X e me) (hi : X.N[i]? = some x := by rfl) (hx : Loc X.env.scope x := by first | exact Or.inl rfl | exact Or.inr rfl) (hs : swapsWith e (some (.Name x pos')) pos.line X.env = pure false := by rfl) (hf : X.fn x = true ∨ X.env.scope.names.lookup x = some .local := by first | exact .inl rfl | exact .inr rfl | assumption) :
    Sx X (.Assign [.Name x pos'] e pos) (sSetH i me) := by
  refine ⟨fun E η M c σ H s => ?_⟩
  refine OutS.bind (fun v H1 Z => Z.nx (σ.set i (some v)) H1) (he E η M c σ H s) (fun Z hq => ps_ws (ps_set hN hi hx we_pe hs hf) hq) fun r c1 v η1 M1 H1 s1 x1 z1 Z g => ?_
  cases r with
  | nw d =>
    unfold putH at g
    dsimp only at g
    by_cases hi : i < c1.ρ.length
    · rw [if_pos hi] at g
      obtain ⟨a, rfl, h1, h2, h3, h4, h5⟩ := z1
      obtain ⟨s2, x2⟩ := s1.newHdl h1 h2 h3 h4 h5
      refine g _ (η1 ++ [a]) M1 H1 (s2.setFz (d := .hdl c1.S.length) hi (.hdl ?_)) x2
      rw [← s1.hlen, List.getElem?_append_right (Nat.le_refl _)]
      simp
    · rw [if_neg hi] at g; exact g.elim
  | _ => exact g.elim

/-! ### temporaries -/
structure Tmp (K : Fg) (mg : Mg) (E : En) (η : List Addr) (M : Hp) (c : Cf) (σ : St) (H : Hp) (T : List (Addr × D)) : Prop where
  ok : ∀ p ∈ T, M p.1 = none ∧ E.H p.1 = none ∧ p.1 ∉ η ∧ ¬ Own c σ p.1 ∧ At K mg η M H p.1 p.2
  nd : (T.map (·.1)).Nodup
theorem SR.leave_none {K : Fg} {mg : Mg} (s : SR K mg E η M c σ H) (t : SR K mg ⟨mask c σ H, η, M⟩ η' M' c' σ' H') {a : Addr} (h : mask c σ H a = none) (hn : a ∉ η') : E.H a = none := by
  cases q : E.H a with
  | none => rfl
  | some o =>
    have n1 : a ∉ E.η := fun z => hn (t.ext.mem (s.ext.mem z))
    have n2 : ¬ Own c σ a := fun z => by
      obtain ⟨_, q', _⟩ := s.own z
      rw [q] at q'; cases q'
    rw [mask_not n2, s.fr a o q n1] at h; cases h
theorem RvR.leave {K : Fg} {mg : Mg} {v : V} {r : Rv} (s : SR K mg E η M c σ H) (t : SR K mg ⟨mask c σ H, η, M⟩ η' M' c' σ' H') (h : RvR K mg ⟨mask c σ H, η, M⟩ η' M' c' σ' H' v r) : RvR K mg E η' M' c' σ' H' v r := by
  cases r with
  | fz d => exact h
  | loc i => exact h
  | nw d =>
    obtain ⟨a, rfl, h1, h2, h3, h4, h5⟩ := h
    exact ⟨a, rfl, h1, s.leave_none t h2 h3, h3, h4, h5⟩
/-- a place that stands and is nobody's is nobody's behind a step -/
theorem SR.leave_own {K : Fg} {mg : Mg} (t : SR K mg ⟨mask c σ H, η, M⟩ η' M' c' σ' H') {a : Addr} {o : HO} (h : H a = some o) (hn : a ∉ η) (ho : ¬ Own c σ a) : ¬ Own c' σ' a ∧ a ∉ η' := by
  have hm : mask c σ H a = some o := by rw [mask_not ho]; exact h
  refine ⟨fun z => ?_, fun z => ?_⟩
  · obtain ⟨_, q, _⟩ := t.own z
    have q : mask c σ H a = none := q
    rw [hm] at q; cases q
  · rcases t.new a z with q | q
    · exact hn q
    · have q : mask c σ H a = none := q
      rw [hm] at q; cases q
theorem Tmp.leave {K : Fg} {mg : Mg} {T : List (Addr × D)} (tm : Tmp K mg E η M c σ H T) (s : SR K mg E η M c σ H) (t : SR K mg ⟨mask c σ H, η, M⟩ η' M' c' σ' H') (x : Ext η M η' M') : Tmp K mg E η' M' c' σ' H' T := by
  refine ⟨fun p hp => ?_, tm.nd⟩
  obtain ⟨h1, h2, h3, h4, h5⟩ := tm.ok p hp
  obtain ⟨o, ho⟩ := h5.ex
  obtain ⟨_, fr⟩ := s.leave t
  obtain ⟨k1, k2⟩ := SR.leave_own t ho h3 h4
  exact ⟨fr.m _ _ ho h4 h1, h2, k2, k1, h5.mono x fun u hu => fr.h _ u hu h3 h4⟩
def RVT (K : Fg) (mg : Mg) (T : List (Addr × D)) : Rl V Rv := fun E η M c σ H v r => RvR K mg E η M c σ H v r ∧ Tmp K mg E η M c σ H T ∧ ∀ a d, v = .ref a → r = .nw d → a ∉ T.map (·.1)
theorem out_tmp {T : List (Addr × D)} (h : Ex X e me) (s : SR X.K X.mg E η M c σ H) (tm : Tmp X.K X.mg E η M c σ H T) : Out X (RVT X.K X.mg T) (We X e σ H) E η M σ (me c) := by
  have o := h ⟨mask c σ H, η, M⟩ η M c σ H s.enter
  cases q : me c with
  | stuck => trivial
  | err y c1 => rw [q] at o; exact fun W Q tk hq => o W Q tk fun cls d η1 M1 H1 s1 x1 z1 => hq cls d η1 M1 H1 (s.leave s1).1 x1 z1
  | ok r c1 =>
    rw [q] at o
    refine fun Q hq => o Q fun v η1 M1 H1 s1 x1 z1 => hq v η1 M1 H1 (s.leave s1).1 x1 ⟨RvR.leave s s1 z1, tm.leave s s1 x1, fun a d ev er hm => ?_⟩
    subst er
    obtain ⟨b, eb, _, k2, _⟩ := z1
    rw [ev] at eb; cases eb
    obtain ⟨p, hp, rfl⟩ := List.mem_map.mp hm
    obtain ⟨h1, h2, h3, h4, h5⟩ := tm.ok p hp
    obtain ⟨u, hu⟩ := h5.ex
    have k2 : mask c σ H p.1 = none := k2
    rw [mask_not h4, hu] at k2; cases k2
/-- a list of values, new objects among them: what a display's targets take -/
inductive Pend where
  | fz (d : D) | nw (d : D)
def pend (c : Cf) : Rv → Option (Pend × Cf)
  | .fz d => some (.fz d, c)
  | .nw (.tup ds) => some (.fz (.tup ds), c)
  | .nw d => some (.nw d, c)
  | .loc i => match c.ρ[i]? with
    | some (.ow d) => some (.fz d, { c with ρ := c.ρ.set i (.fz d) })
    | some (.fz d) => some (.fz d, c)
    | _ => none
/-- T: the addresses of the new ones -/
inductive PendR (K : Fg) (mg : Mg) (η : List Addr) (M : Hp) : List V → List Pend → List (Addr × D) → Prop
  | nil : PendR K mg η M [] [] []
  | fz {v : V} {vs : List V} {d : D} {ps : List Pend} {T : List (Addr × D)} : Rep K mg η M v d → PendR K mg η M vs ps T → PendR K mg η M (v :: vs) (.fz d :: ps) T
  | nw {a : Addr} {vs : List V} {d : D} {ps : List Pend} {T : List (Addr × D)} : PendR K mg η M vs ps T → PendR K mg η M (.ref a :: vs) (.nw d :: ps) ((a, d) :: T)
def mPend : List Em → Cf → Res (List Pend)
  | [], c => .ok [] c
  | m :: ms, c => (m c).bind fun r c1 => match pend c1 r with
    | some (p, c2) => (mPend ms c2).bind fun ps c3 => .ok (p :: ps) c3
    | none => .stuck
inductive ExL (X : Cx) : List Expr → List Em → Prop
  | nil : ExL X [] []
  | cons {e : Expr} {es : List Expr} {m : Em} {ms : List Em} : Ex X e m → starEach (e :: es) X.env = (false, eval e X.env) :: starEach es X.env → ExL X es ms → ExL X (e :: es) (m :: ms)
theorem exl_cons {es : List Expr} {ms : List Em} (h : Ex X e me) (hs : ExL X es ms) (hst : starEach (e :: es) X.env = (false, eval e X.env) :: starEach es X.env := by rfl) : ExL X (e :: es) (me :: ms) := .cons h hst hs
theorem PendR.mono {K : Fg} {mg : Mg} (x : Ext η M η' M') : ∀ {vs : List V} {ps : List Pend} {T : List (Addr × D)}, PendR K mg η M vs ps T → PendR K mg η' M' vs ps T
  | _, _, _, .nil => .nil
  | _, _, _, .fz h hs => .fz (h.mono x) (PendR.mono x hs)
  | _, _, _, .nw hs => .nw (PendR.mono x hs)
/-- T0: temporaries from before; behind: those and the new ones -/
theorem mPend_ok {es : List Expr} {ms : List Em} (L : ExL X es ms) : ∀ {T0 : List (Addr × D)} {E : En} {η : List Addr} {M H : Hp} {c : Cf} {σ : St}, SR X.K X.mg E η M c σ H → Tmp X.K X.mg E η M c σ H T0 →
    Out X (fun E η M c σ H vs ps => ∃ T, PendR X.K X.mg η M vs ps T ∧ Tmp X.K X.mg E η M c σ H (T ++ T0)) (Wa X es σ H) E η M σ (mPend ms c) := by
  induction L with
  | nil => exact fun {T0 E η M H c σ} s tm => out_ok s (fun Q hq => pa_wa pa_nil hq) ⟨[], .nil, tm⟩
  | @cons e es m ms he hst L ih =>
    intro T0 E η M H c σ s tm
    refine Out.bind (fun x H1 Q => Wa X es σ H1 fun xs H2 => Q (x :: xs) H2) (out_tmp he s tm) (fun Q hq => pa_wa (pa_cons we_pe wa_pa hst) hq) fun r c1 v η1 M1 H1 s1 x1 ⟨z1, t1, n1⟩ => ?_
    cases e1 : pend c1 r with
    | none => trivial
    | some q =>
      obtain ⟨p, c2⟩ := q
      dsimp only
      -- the frozen kinds
      have fzc : ∀ {d : D} {M2 : Hp} {c2 : Cf}, SR X.K X.mg E η1 M2 c2 σ H1 → Ext η1 M1 η1 M2 → Tmp X.K X.mg E η1 M2 c2 σ H1 T0 → Rep X.K X.mg η1 M2 v d →
          Out X (fun E η M c σ H vs ps => ∃ T, PendR X.K X.mg η M vs ps T ∧ Tmp X.K X.mg E η M c σ H (T ++ T0)) (fun Q => Wa X es σ H1 fun xs H2 => Q (v :: xs) H2) E η1 M1 σ ((mPend ms c2).bind fun ps c3 => .ok (.fz d :: ps) c3) := by
        intro d M2 c2 s2 x2 t2 r2
        refine out_ext x2 (Out.bind (fun xs H2 Q => Q (v :: xs) H2) (ih s2 t2) (fun Q hq => hq) fun ps c3 vs η3 M3 H3 s3 x3 ⟨T, h3, t3⟩ => ?_)
        exact out_ok s3 (fun Q hq => hq) ⟨T, .fz (r2.mono x3) h3, t3⟩
      cases r with
      | fz d => cases e1; exact fzc s1 .refl t1 z1
      | loc i =>
        unfold pend at e1
        dsimp only at e1
        have z1 : σ[i]? = some (some v) := z1
        cases q : c1.ρ[i]? with
        | none => rw [q] at e1; cases e1
        | some sl =>
          rw [q] at e1
          cases sl with
          | un => cases e1
          | fz d =>
            cases e1
            obtain ⟨w, g1, r1⟩ := s1.slot i _ q
            rw [z1] at g1; cases g1
            exact fzc s1 .refl t1 r1
          | ow d =>
            cases e1
            obtain ⟨a, M2, g1, x2, s2, r2, f2⟩ := s1.freezeSlot' q
            rw [z1] at g1; cases g1
            refine fzc s2 x2 ⟨fun p hp => ?_, t1.nd⟩ r2
            obtain ⟨h1, h2, h3, h4, h5⟩ := t1.ok p hp
            have hpa : p.1 ≠ a := fun z => h4 ⟨i, d, q, by rw [z1, z]⟩
            refine ⟨by rw [f2 _ hpa]; exact h1, h2, h3, fun ⟨j, d', k1, k2⟩ => ?_, h5.mono x2 fun _ z => z⟩
            · have k1 : (c1.ρ.set i (.fz d))[j]? = some (.ow d') := k1
              by_cases hj : j = i
              · subst hj
                rw [List.getElem?_set_self (List.getElem?_eq_some_iff.mp q).1] at k1; cases k1
              · rw [List.getElem?_set_ne (Ne.symm hj)] at k1
                exact h4 ⟨j, d', k1, k2⟩
      | nw d =>
        obtain ⟨a, rfl, h1, h2, h3, h4, h5⟩ := id z1
        by_cases ht : ∃ ds, d = .tup ds
        · obtain ⟨ds, rfl⟩ := ht
          cases e1
          obtain ⟨o, ho⟩ := h5.ex
          obtain ⟨s2, x2⟩ := s1.freeze h1 h2 h3 h4 ho
          refine fzc s2 x2 ⟨fun p hp => ?_, t1.nd⟩ (h5.frozen x2 ho upd_same)
          obtain ⟨k1, k2, k3, k4, k5⟩ := t1.ok p hp
          have hpa : p.1 ≠ a := fun z => n1 a _ rfl rfl (z ▸ List.mem_map_of_mem hp)
          exact ⟨by rw [upd_ne hpa]; exact k1, k2, k3, k4, k5.mono x2 fun _ z => z⟩
        · have e1 : some (Pend.nw d, c1) = some (p, c2) := by
            cases d <;> first | exact e1 | exact absurd ⟨_, rfl⟩ ht
          cases e1
          have t2 : Tmp X.K X.mg E η1 M1 c1 σ H1 ((a, d) :: T0) := by
            refine ⟨fun p hp => ?_, ?_⟩
            · rcases List.mem_cons.mp hp with rfl | hp
              · exact ⟨h1, h2, h3, h4, h5⟩
              · exact t1.ok p hp
            · rw [List.map_cons, List.nodup_cons]
              exact ⟨n1 a d rfl rfl, t1.nd⟩
          refine Out.bind (fun xs H2 Q => Q (V.ref a :: xs) H2) (ih s1 t2) (fun Q hq => hq) fun ps c3 vs η3 M3 H3 s3 x3 ⟨T, h3, t3⟩ => ?_
          refine out_ok s3 (fun Q hq => hq) ⟨(a, d) :: T, .nw h3, ⟨fun p hp => t3.ok p ?_, ?_⟩⟩
          · simp only [List.cons_append, List.mem_cons, List.mem_append] at hp ⊢
            rcases hp with hp | hp | hp
            · exact .inr (.inl hp)
            · exact .inl hp
            · exact .inr (.inr hp)
          · have nd := t3.nd
            simp only [List.map_append, List.map_cons, List.cons_append] at nd ⊢
            exact (List.perm_middle.nodup_iff).mp nd
end
end LH
/-! LHLoop: targets, loops, comprehensions. -/
namespace LH
open PySem PySem.Spec PyProof.Rows L2

/-! ### names as targets -/
def setL : St → List Nat → List V → St
  | σ, i :: is, v :: vs => setL (σ.set i (some v)) is vs
  | σ, _, _ => σ
def putL : List Nat → List Pend → Cf → Option Cf
  | [], [], c => some c
  | i :: is, .fz d :: ps, c => if i < c.ρ.length then putL is ps { c with ρ := c.ρ.set i (.fz d) } else none
  | i :: is, .nw d :: ps, c => if i < c.ρ.length then putL is ps { c with ρ := c.ρ.set i (.ow d) } else none
  | _, _, _ => none
def fzL : List Nat → List D → Cf → Option Cf
  | [], [], c => some c
  | i :: is, d :: ds, c => if i < c.ρ.length then fzL is ds { c with ρ := c.ρ.set i (.fz d) } else none
  | _, _, _ => none
section
variable {K : Fg} {mg : Mg} {E : En} {η η' : List Addr} {M M' H H' : Hp} {c c' : Cf} {σ σ' : St}
theorem own_set {i : Nat} {sl : Sl} {v : V} {a : Addr} (hn : ∀ d, sl ≠ .ow d) (h : Own { c with ρ := c.ρ.set i sl } (σ.set i (some v)) a) : Own c σ a := by
  obtain ⟨j, d, h1, h2⟩ := h
  have h1 : (c.ρ.set i sl)[j]? = some (.ow d) := h1
  by_cases hj : j = i
  · subst hj
    by_cases hl : j < c.ρ.length
    · rw [List.getElem?_set_self hl] at h1
      exact absurd (Option.some.inj h1) (hn d)
    · rw [List.getElem?_eq_none (by simpa using hl)] at h1; cases h1
  · rw [List.getElem?_set_ne (Ne.symm hj)] at h1 h2
    exact ⟨j, d, h1, h2⟩
theorem own_setOw {i : Nat} {d : D} {a b : Addr} (hne : b ≠ a) (h : Own { c with ρ := c.ρ.set i (.ow d) } (σ.set i (some (.ref a))) b) : Own c σ b := by
  obtain ⟨j, d', h1, h2⟩ := h
  have h1 : (c.ρ.set i (.ow d))[j]? = some (.ow d') := h1
  by_cases hj : j = i
  · subst hj
    by_cases hl : j < σ.length
    · rw [List.getElem?_set_self hl] at h2
      exact absurd (by cases h2; rfl) hne
    · rw [List.getElem?_eq_none (by simpa using hl)] at h2; cases h2
  · rw [List.getElem?_set_ne (Ne.symm hj)] at h1 h2
    exact ⟨j, d', h1, h2⟩
theorem putL_ok {vs : List V} {ps : List Pend} {T : List (Addr × D)} (hp : PendR K mg η M vs ps T) : ∀ {is : List Nat} {c c' : Cf} {σ : St}, SR K mg E η M c σ H → Tmp K mg E η M c σ H T → putL is ps c = some c' →
    SR K mg E η M c' (setL σ is vs) H ∧ vs.length = is.length := by
  induction hp with
  | nil =>
    intro is c c' σ s tm e
    cases is with
    | nil => cases e; exact ⟨s, rfl⟩
    | cons i is => cases e
  | @fz v vs d ps T r rs ih =>
    intro is c c' σ s tm e
    cases is with
    | nil => cases e
    | cons i is =>
      unfold putL at e
      by_cases hi : i < c.ρ.length
      · rw [if_pos hi] at e
        obtain ⟨q1, q2⟩ := ih (is := is) (s.setFz hi r) ⟨fun p hp => by
          obtain ⟨h1, h2, h3, h4, h5⟩ := tm.ok p hp
          exact ⟨h1, h2, h3, fun z => h4 (own_set (sl := .fz d) (fun _ z => by cases z) z), h5⟩, tm.nd⟩ e
        exact ⟨q1, congrArg Nat.succ q2⟩
      · rw [if_neg hi] at e; cases e
  | @nw a vs d ps T rs ih =>
    intro is c c' σ s tm e
    cases is with
    | nil => cases e
    | cons i is =>
      unfold putL at e
      by_cases hi : i < c.ρ.length
      · rw [if_pos hi] at e
        obtain ⟨h1, h2, h3, h4, h5⟩ := tm.ok (a, d) List.mem_cons_self
        have nd := tm.nd
        rw [List.map_cons, List.nodup_cons] at nd
        have s1 : SR K mg E η M { c with ρ := c.ρ.set i (.ow d) } (σ.set i (some (.ref a))) H := by
          refine s.setSlot hi ⟨a, rfl, h1, h2, h3, h5⟩ ?_
          intro t b _ hb j d' hj z q
          cases hb
          exact h4 ⟨j, d', z, q⟩
        obtain ⟨q1, q2⟩ := ih (is := is) s1 ⟨fun p hp => by
          obtain ⟨h1, h2, h3, h4, h5⟩ := tm.ok p (List.mem_cons_of_mem _ hp)
          refine ⟨h1, h2, h3, fun z => h4 (own_setOw (fun z => ?_) z), h5⟩
          have hm : p.1 ∈ T.map (·.1) := List.mem_map_of_mem hp
          rw [z] at hm
          exact nd.1 hm, nd.2⟩ e
        exact ⟨q1, congrArg Nat.succ q2⟩
      · rw [if_neg hi] at e; cases e
theorem setL_get : ∀ {is : List Nat} {vs : List V} {σ : St} {j : Nat}, j ∉ is → (setL σ is vs)[j]? = σ[j]?
  | [], _, σ, j, _ => by unfold setL; rfl
  | i :: is, [], σ, j, _ => by unfold setL; rfl
  | i :: is, v :: vs, σ, j, h => by
    unfold setL
    have hne : i ≠ j := fun z => h (by rw [z]; exact List.mem_cons_self)
    rw [setL_get fun z => h (List.mem_cons_of_mem _ z), List.getElem?_set_ne hne]
theorem setL_length : ∀ {is : List Nat} {vs : List V} {σ : St}, (setL σ is vs).length = σ.length
  | [], _, σ => by unfold setL; rfl
  | i :: is, [], σ => by unfold setL; rfl
  | i :: is, v :: vs, σ => by unfold setL; rw [setL_length, List.length_set]
theorem fzL_ok : ∀ {is : List Nat} {vs : List V} {ds : List D} {c c' : Cf} {σ : St}, SR K mg E η M c σ H → RepL K mg η M vs ds → fzL is ds c = some c' → SR K mg E η M c' (setL σ is vs) H ∧ vs.length = is.length
  | [], _, _, c, c', σ, s, .nil, e => by cases e; exact ⟨s, rfl⟩
  | [], _, _, c, c', σ, s, .cons _ _, e => by cases e
  | _ :: _, _, _, c, c', σ, s, .nil, e => by cases e
  | i :: is, _, _, c, c', σ, s, .cons r rs, e => by
    unfold fzL at e
    by_cases hi : i < c.ρ.length
    · rw [if_pos hi] at e
      obtain ⟨q1, q2⟩ := fzL_ok (is := is) (s.setFz hi r) rs e
      exact ⟨q1, congrArg Nat.succ q2⟩
    · rw [if_neg hi] at e; cases e
end
def gNames : List Nat → TGs
  | [] => gNil
  | i :: is => gCons (gName i) (gNames is)
theorem gNames_of : ∀ {is : List Nat} {vs : List V} {σ : St} {H : Hp} {Q : St → Hp → Prop}, vs.length = is.length → Q (setL σ is vs) H → gNames is vs σ H Q
  | [], [], σ, H, Q, _, h => ⟨rfl, h⟩
  | i :: is, v :: vs, σ, H, Q, hl, h => ⟨v, vs, rfl, gNames_of (is := is) (by simpa using hl) h⟩
/-- names at slots -/
inductive NmL (X : Cx) : List Expr → List Nat → Prop
  | nil : NmL X [] []
  | cons {x : Str} {p : Pos} {es : List Expr} {i : Nat} {is : List Nat} : PG X (.Name x p) (gName i) → NmL X es is → NmL X (.Name x p :: es) (i :: is)
theorem nml_pgs {X : Cx} {es : List Expr} {is : List Nat} (h : NmL X es is) : PGs X es (gNames is) := by
  induction h with
  | nil => exact pgs_nil
  | cons h _ ih => exact pgs_cons h ih
theorem nml_cons {X : Cx} {es : List Expr} {x : Str} {p : Pos} {is : List Nat} (i : Nat) (hN : X.N.Nodup) (h : NmL X es is) (hi : X.N[i]? = some x := by rfl) (hx : Loc X.env.scope x := by first | exact Or.inl rfl | exact Or.inr rfl) (hf : X.fn x = true ∨ X.env.scope.names.lookup x = some .local := by first | exact .inl rfl | exact .inr rfl | assumption) :
    NmL X (.Name x p :: es) (i :: is) := .cons (pg_name hN hi hx hf) h

section
variable {X : Cx} {E : En} {η η' : List Addr} {M M' H H' : Hp} {c c' : Cf} {σ σ' : St} {e tg it : Expr} {es ts : List Expr} {me : Em} {ms : List Em} {pos tpos epos : Pos} {is : List Nat}
/-- a, b, .. = e, f, .. : a tuple is made and taken apart -/
def sPend (is : List Nat) (ms : List Em) : Sm := fun c => (mPend ms c).bind fun ps c1 => if ps.length ≤ sizeLine then (match putL is ps c1 with
  | some c2 => .ok .nx c2
  | none => .stuck) else .stuck
theorem PendR.length {K : Fg} {mg : Mg} : ∀ {vs : List V} {ps : List Pend} {T : List (Addr × D)}, PendR K mg η M vs ps T → vs.length = ps.length
  | _, _, _, .nil => rfl
  | _, _, _, .fz _ hs => congrArg Nat.succ (PendR.length hs)
  | _, _, _, .nw hs => congrArg Nat.succ (PendR.length hs)
theorem out_pend {tw' : Ends → Prop} (L : ExL X es ms) (s : SR X.K X.mg E η M c σ H) (imp : ∀ Z : Ends, Wa X es σ H (fun vs H1 => vs.length = is.length ∧ vs.length ≤ sizeLine ∧ (∀ p, H1 p = none → Z.nx (setL σ is vs) (upd H1 p (.tup vs))) ∧ Z.nx (setL σ is vs) H1) → tw' Z) : OutS X tw' E η M (sPend is ms c) := by
  refine OutS.bind (fun vs H1 Z => vs.length = is.length ∧ vs.length ≤ sizeLine ∧ (∀ p, H1 p = none → Z.nx (setL σ is vs) (upd H1 p (.tup vs))) ∧ Z.nx (setL σ is vs) H1) (mPend_ok (T0 := []) L s ⟨fun p hp => absurd hp (by simp), by simp⟩) imp fun ps c1 vs η1 M1 H1 s1 x1 ⟨T, h1, t1⟩ Z g => ?_
  rw [List.append_nil] at t1
  by_cases hl : ps.length ≤ sizeLine
  · rw [if_pos hl] at g
    cases e1 : putL is ps c1 with
    | none => rw [e1] at g; exact g.elim
    | some c2 =>
      rw [e1] at g
      obtain ⟨s2, l2⟩ := putL_ok h1 s1 t1 e1
      exact ⟨l2, by rw [h1.length]; exact hl, fun p hp => g _ η1 M1 _ (s2.alloc hp) .refl, g _ η1 M1 H1 s2 .refl⟩
  · rw [if_neg hl] at g; exact g.elim
theorem sx_tupN {k k2 : Nat} (hc : X.calm = true) (N : NmL X ts is) (L : ExL X es ms) (hn : (assignEach ts X.env).length = is.length := by rfl) (hst : (assignEach ts X.env).findIdx? (·.1) = none := by rfl)
    (hs : swapsWithSole [.Tuple ts k tpos] (.Tuple es k2 epos) pos.line X.env = pure false := by rfl) (hw : swappedStores [.Tuple ts k tpos] (.Tuple es k2 epos) X.env = pure none := by rfl)
    (h1 : (assignEach [.Tuple ts k tpos] X.env).map (·.2) = [assign (.Tuple ts k tpos) X.env] := by rfl) : Sx X (.Assign [.Tuple ts k tpos] (.Tuple es k2 epos) pos) (sPend is ms) := by
  refine ⟨fun E η M c σ H s => ?_⟩
  refine out_pend L s fun Z hq => ps_ws (ps_asg (pe_tup wa_pa) (pg_tup hc (nml_pgs N) hn hst) hs hw h1) ?_
  intro pp pins st I
  exact thn (hq pp pins st I) fun us s2 ⟨vs, H2, I2, r2, q1, q2, q3, q4⟩ => ⟨vs, H2, I2, r2, q2, fun p hp => ⟨p, vs, rfl, .of upd_same, q1, gNames_of q1 (q3 p hp)⟩⟩
theorem sx_tup2 {x y : Str} {px py : Pos} {a b : Expr} {k k2 : Nat} (i j : Nat) (hc : X.calm = true) (hN : X.N.Nodup) (L : ExL X [a, b] ms) (hi : X.N[i]? = some x := by rfl) (hj : X.N[j]? = some y := by rfl) (hij : i ≠ j := by decide)
    (hx : X.env.scope.names.lookup x = some .local := by rfl) (hy : X.env.scope.names.lookup y = some .local := by rfl)
    (hw : swappedStores [.Tuple [.Name x px, .Name y py] k tpos] (.Tuple [a, b] k2 epos) X.env = pure (some [x, y]) := by rfl)
    (hs : swapsWithSole [.Tuple [.Name x px, .Name y py] k tpos] (.Tuple [a, b] k2 epos) pos.line X.env = pure false := by rfl) :
    Sx X (.Assign [.Tuple [.Name x px, .Name y py] k tpos] (.Tuple [a, b] k2 epos) pos) (sPend [i, j] ms) := by
  refine ⟨fun E η M c σ H s => ?_⟩
  refine out_pend L s fun Z hq => ps_ws (ps_par hc hN hi hj hij hx hy wa_pa hw hs) ?_
  intro pp pins st I
  refine thn (hq pp pins st I) fun us s2 ⟨vs, H2, I2, r2, q1, q2, q3, q4⟩ => ⟨vs, H2, I2, r2, ?_⟩
  match vs, q1 with
  | [v, w], _ => exact ⟨v, w, rfl, q4⟩
/-- a, b, .. = e, e a tuple -/
def sUnp (is : List Nat) (me : Em) : Sm := fun c => (me c).bind fun r c1 => match toVal c1 r with
  | some (.tup ds, c2) => (match fzL is ds c2 with
    | some c3 => .ok .nx c3
    | none => .stuck)
  | _ => .stuck
theorem sx_unp {k : Nat} (hc : X.calm = true) (N : NmL X ts is) (he : Ex X e me) (hn : (assignEach ts X.env).length = is.length := by rfl) (hst : (assignEach ts X.env).findIdx? (·.1) = none := by rfl)
    (hs : swapsWithSole [.Tuple ts k tpos] e pos.line X.env = pure false := by rfl) (hw : swappedStores [.Tuple ts k tpos] e X.env = pure none := by rfl)
    (h1 : (assignEach [.Tuple ts k tpos] X.env).map (·.2) = [assign (.Tuple ts k tpos) X.env] := by rfl) : Sx X (.Assign [.Tuple ts k tpos] e pos) (sUnp is me) := by
  refine ⟨fun E η M c σ H s => ?_⟩
  refine OutS.bind (fun v H1 Z => gTup X.K is.length (gNames is) v σ H1 Z.nx) (he E η M c σ H s) (fun Z hq => ps_ws (ps_asg we_pe (pg_tup hc (nml_pgs N) hn hst) hs hw h1) hq) fun r c1 v η1 M1 H1 s1 x1 z1 Z g => ?_
  cases e1 : toVal c1 r with
  | none => rw [e1] at g; exact g.elim
  | some q =>
    obtain ⟨d, c2⟩ := q
    rw [e1] at g
    cases d with
    | tup ds =>
      dsimp only at g
      cases e2 : fzL is ds c2 with
      | none => rw [e2] at g; exact g.elim
      | some c3 =>
        rw [e2] at g
        obtain ⟨M2, s2, x2, r2⟩ := toVal_ok s1 z1 e1
        cases r2 with
        | tup hq hr =>
          obtain ⟨s3, l3⟩ := fzL_ok s2 hr e2
          exact ⟨_, _, rfl, SqT.of (s2.sub _ _ hq), l3, gNames_of l3 (g _ η1 M2 H1 s3 x2)⟩
    | _ => exact g.elim

/-! ### targets of loops -/
def Tgt (X : Cx) (tg : Expr) (g : D → Cf → Option Cf) (js : List Nat) : Prop :=
  ∀ E η M c σ H v d c', SR X.K X.mg E η M c σ H → Rep X.K X.mg η M v d → g d c = some c' →
    ∀ Q : St → Hp → Prop, (∀ σ', SR X.K X.mg E η M c' σ' H → (∀ j, j ∉ js → σ'[j]? = σ[j]?) → σ'.length = σ.length → Q σ' H) → Wg X tg v σ H Q
def gFz (i : Nat) (d : D) (c : Cf) : Option Cf := if i < c.ρ.length then some { c with ρ := c.ρ.set i (.fz d) } else none
theorem tg_name {x : Str} {p : Pos} (i : Nat) (hN : X.N.Nodup) (hi : X.N[i]? = some x := by rfl) (hx : Loc X.env.scope x := by first | exact Or.inl rfl | exact Or.inr rfl) (hf : X.fn x = true ∨ X.env.scope.names.lookup x = some .local := by first | exact .inl rfl | exact .inr rfl | assumption) :
    Tgt X (.Name x p) (gFz i) [i] := by
  intro E η M c σ H v d c' s r e Q hQ
  unfold gFz at e
  by_cases hl : i < c.ρ.length
  · rw [if_pos hl] at e; cases e
    exact pg_wg (pg_name hN hi hx hf) (hQ _ (s.setFz hl r) (fun j hj => by rw [List.getElem?_set_ne fun z => hj (by simp [z])]) (by simp))
  · rw [if_neg hl] at e; cases e
def Tgts (X : Cx) (ts : List Expr) (g : List D → Cf → Option Cf) (js : List Nat) : Prop :=
  ∃ t : TGs, PGs X ts t ∧ ∀ E η M c σ H vs ds c', SR X.K X.mg E η M c σ H → RepL X.K X.mg η M vs ds → g ds c = some c' →
    ∀ Q : St → Hp → Prop, (∀ σ', SR X.K X.mg E η M c' σ' H → (∀ j, j ∉ js → σ'[j]? = σ[j]?) → σ'.length = σ.length → Q σ' H) → t vs σ H Q
def gN : List D → Cf → Option Cf
  | [], c => some c
  | _, _ => none
def gC (g : D → Cf → Option Cf) (gs : List D → Cf → Option Cf) : List D → Cf → Option Cf
  | d :: ds, c => (g d c).bind fun c1 => gs ds c1
  | _, _ => none
theorem tgs_nil : Tgts X [] gN [] := ⟨gNil, pgs_nil, fun E η M c σ H vs ds c' s r e Q hQ => by
  cases r with
  | nil => cases e; exact ⟨rfl, hQ σ s (fun _ _ => rfl) rfl⟩
  | cons _ _ => cases e⟩
theorem tgs_cons {g : D → Cf → Option Cf} {gs : List D → Cf → Option Cf} {js ks : List Nat} (h : Tgt X e g js) (hs : Tgts X ts gs ks)
    (hz : (assignEach (e :: ts) X.env).map (·.2) = assign e X.env :: (assignEach ts X.env).map (·.2) := by rfl) : Tgts X (e :: ts) (gC g gs) (js ++ ks) := by
  obtain ⟨t, p, q⟩ := hs
  refine ⟨_, pgs_cons wg_pg p hz, fun E η M c σ H vs ds c' s r e1 Q hQ => ?_⟩
  cases r with
  | nil => cases e1
  | @cons v vs d ds r rs =>
    unfold gC at e1
    dsimp only at e1
    cases e2 : g d c with
    | none => rw [e2] at e1; cases e1
    | some c1 =>
      rw [e2] at e1
      refine ⟨v, vs, rfl, h E η M c σ H v d c1 s r e2 _ fun σ1 s1 k1 l1 => ?_⟩
      exact q E η M c1 σ1 H vs ds c' s1 rs e1 Q fun σ2 s2 k2 l2 => hQ σ2 s2 (fun j hj => by
        rw [List.mem_append, not_or] at hj
        rw [k2 j hj.2, k1 j hj.1]) (l2.trans l1)
def gT (gs : List D → Cf → Option Cf) : D → Cf → Option Cf
  | .tup ds, c => gs ds c
  | _, _ => none
theorem tg_tup {k : Nat} {gs : List D → Cf → Option Cf} {js : List Nat} (n : Nat) (hc : X.calm = true) (h : Tgts X ts gs js) (hl : ∀ ds c c', gs ds c = some c' → ds.length = n)
    (hn : (assignEach ts X.env).length = n := by rfl) (hst : (assignEach ts X.env).findIdx? (·.1) = none := by rfl) : Tgt X (.Tuple ts k pos) (gT gs) js := by
  obtain ⟨t, p, q⟩ := h
  intro E η M c σ H v d c' s r e1 Q hQ
  cases d with
  | tup ds =>
    cases r with
    | tup hq hr => exact pg_wg (pg_tup hc p hn hst) ⟨_, _, rfl, SqT.of (s.sub _ _ hq), by rw [hr.length]; exact hl _ _ _ e1, q E η M c σ H _ ds c' s hr e1 Q hQ⟩
  | _ => cases e1
theorem gN_len : ∀ (ds : List D) (c c' : Cf), gN ds c = some c' → ds.length = 0
  | [], _, _, _ => rfl
  | _ :: _, _, _, e => by cases e
theorem gC_len {g : D → Cf → Option Cf} {gs : List D → Cf → Option Cf} {n : Nat} (h : ∀ ds c c', gs ds c = some c' → ds.length = n) : ∀ (ds : List D) (c c' : Cf), gC g gs ds c = some c' → ds.length = n + 1
  | [], _, _, e => by cases e
  | d :: ds, c, c', e => by
    unfold gC at e
    dsimp only at e
    cases e2 : g d c with
    | none => rw [e2] at e; cases e
    | some c1 => rw [e2] at e; simp [h ds c1 c' e]

/-! ### what is walked -/
/-- an item that comes: Rep, or a new pair -/
def Yl (K : Fg) (mg : Mg) (η : List Addr) (M H : Hp) (x : V) (H' : Hp) (d : D) : Prop :=
  (H' = H ∧ Rep K mg η M x d) ∨ ∃ p xs ds, H p = none ∧ x = .ref p ∧ H' = upd H p (.tup xs) ∧ RepL K mg η M xs ds ∧ d = .tup ds
def JOk (K : Fg) (mg : Mg) (η : List Addr) (M : Hp) (J : It) (ds : List D) : Prop :=
  ∀ i H, Same M H → (∀ d, ds[i]? = some d → J.go i H ∧ ∀ x H', J.yld i H x H' → Yl K mg η M H x H' d) ∧ (ds.length ≤ i → J.stop i H)
def RJ (K : Fg) (mg : Mg) : Rl It (List D) := fun _ η M _ _ _ J ds => JOk K mg η M J ds
structure Ix (X : Cx) (tg it : Expr) (m : Cf → Res (List D)) : Prop where
  run : ∀ E η M c σ H, SR X.K X.mg E η M c σ H → Out X (RJ X.K X.mg) (Wi X tg it σ H) E η M σ (m c)
instance {X : Cx} {tg it : Expr} {m : Cf → Res (List D)} : CoeFun (Ix X tg it m) (fun _ => ∀ E η M c σ H, SR X.K X.mg E η M c σ H → Out X (RJ X.K X.mg) (Wi X tg it σ H) E η M σ (m c)) := ⟨Ix.run⟩
/-- a list, a tuple -/
def mIt (me : Em) : Cf → Res (List D) := fun c => (me c).bind fun r c1 => match toVal c1 r with
  | some (.lst ds, c2) => .ok ds c2
  | _ => .stuck
def mItT (me : Em) : Cf → Res (List D) := fun c => (me c).bind fun r c1 => match toVal c1 r with
  | some (.tup ds, c2) => .ok ds c2
  | _ => .stuck
theorem jok_list {K : Fg} {mg : Mg} {a : Addr} {xs : List V} {ds : List D} (h : SqL K M a xs) (r : RepL K mg η M xs ds) : JOk K mg η M (Itl K a) ds := by
  intro i H hs
  have h' : SqL K H a xs := hs.seq h
  refine ⟨fun d e => ?_, fun hl => ⟨xs, h', by rw [r.length]; exact hl⟩⟩
  obtain ⟨v, e1, r1⟩ := r.getD' e
  exact ⟨⟨xs, v, h', e1⟩, fun x H' ⟨y1, y2⟩ => .inl ⟨y1, by
    have := y2 xs h'
    rw [e1] at this; cases this
    exact r1⟩⟩
theorem jok_tup {K : Fg} {mg : Mg} {a : Addr} {xs : List V} {ds : List D} (h : SqT K M a xs) (r : RepL K mg η M xs ds) : JOk K mg η M (Itt K a) ds := by
  intro i H hs
  have h' : SqT K H a xs := SqT.same hs h
  refine ⟨fun d e => ?_, fun hl => ⟨xs, h', by rw [r.length]; exact hl⟩⟩
  obtain ⟨v, e1, r1⟩ := r.getD' e
  exact ⟨⟨xs, v, h', e1⟩, fun x H' ⟨y1, y2⟩ => .inl ⟨y1, by
    have := y2 xs h'
    rw [e1] at this; cases this
    exact r1⟩⟩
theorem ix_lst (he : Ex X e me) : Ix X tg e (mIt me) := by
  refine ⟨fun E η M c σ H s => ?_⟩
  refine Out.bind (fun (v : V) H1 (R : It → Hp → Prop) => ∃ a, v = .ref a ∧ (∃ xs, SqL X.K H1 a xs) ∧ R (Itl X.K a) H1) (he E η M c σ H s) (fun Q hq => pi_wi (pi_list we_pe) hq) fun r c1 v η1 M1 H1 s1 x1 z1 => ?_
  cases e1 : toVal c1 r with
  | none => trivial
  | some q =>
    obtain ⟨d, c2⟩ := q
    cases d with
    | lst ds =>
      obtain ⟨M2, s2, x2, r2⟩ := toVal_ok s1 z1 e1
      cases r2 with
      | lst hq hr => exact out_ext x2 (out_ok (v := Itl X.K _) s2 (fun Q hQ => ⟨_, rfl, ⟨_, .of (s2.sub _ _ hq)⟩, hQ⟩) (jok_list (.of hq) hr))
    | _ => trivial
theorem ix_tuple (he : Ex X e me) : Ix X tg e (mItT me) := by
  refine ⟨fun E η M c σ H s => ?_⟩
  refine Out.bind (fun (v : V) H1 (R : It → Hp → Prop) => ∃ a, v = .ref a ∧ (∃ xs, SqT X.K H1 a xs) ∧ R (Itt X.K a) H1) (he E η M c σ H s) (fun Q hq => pi_wi (pi_tup we_pe) hq) fun r c1 v η1 M1 H1 s1 x1 z1 => ?_
  cases e1 : toVal c1 r with
  | none => trivial
  | some q =>
    obtain ⟨d, c2⟩ := q
    cases d with
    | tup ds =>
      obtain ⟨M2, s2, x2, r2⟩ := toVal_ok s1 z1 e1
      cases r2 with
      | tup hq hr => exact out_ext x2 (out_ok (v := Itt X.K _) s2 (fun Q hQ => ⟨_, rfl, ⟨_, .of (s2.sub _ _ hq)⟩, hQ⟩) (jok_tup (.of hq) hr))
    | _ => trivial
/-- ranges -/
def rangeD (lo : Int) (n : Nat) : List D := (List.range n).map fun (i : Nat) => D.int (lo + (i : Int))
theorem rangeD_get {lo : Int} {n i : Nat} {d : D} (h : (rangeD lo n)[i]? = some d) : i < n ∧ d = .int (lo + i) := by
  unfold rangeD at h
  rw [List.getElem?_map] at h
  by_cases hi : i < n
  · rw [List.getElem?_range hi] at h
    cases h; exact ⟨hi, rfl⟩
  · rw [List.getElem?_eq_none (by simpa using hi)] at h; cases h
theorem jok_range {K : Fg} {mg : Mg} {lo : Int} {n : Nat} : JOk K mg η M (Itr lo n) (rangeD lo n) := by
  intro i H hs
  refine ⟨fun d e => ?_, fun hl => (show n ≤ i from by simpa [rangeD] using hl)⟩
  obtain ⟨h1, rfl⟩ := rangeD_get e
  exact ⟨h1, fun x H' ⟨y1, y2⟩ => .inl ⟨y1, by subst y2; exact .int _⟩⟩
def mRng1 (ms : Cf → Res (List Rv)) : Cf → Res (List D) := fun c => (ms c).bind fun rs c1 => match views c1 rs with
  | some [.int j] => if -(2 ^ 62) ≤ j ∧ j < 2 ^ 62 then .ok (rangeD 0 j.toNat) c1 else .stuck
  | _ => .stuck
def mRng2 (ms : Cf → Res (List Rv)) : Cf → Res (List D) := fun c => (ms c).bind fun rs c1 => match views c1 rs with
  | some [.int i, .int j] => if -(2 ^ 62) ≤ i ∧ i < 2 ^ 62 ∧ -(2 ^ 62) ≤ j ∧ j < 2 ^ 62 then .ok (rangeD i (j - i).toNat) c1 else .stuck
  | _ => .stuck
theorem ix_range1 {a : Expr} {p : Pos} {ms : Cf → Res (List Rv)} (hm : X.mg "range" = none) (ha : Ax X [a] ms) (hg : Gl X "range" := by rfl) (hs : starEach [a] X.env = [(false, eval a X.env)] := by rfl) : Ix X tg (.Call (.Name "range" p) [a] [] pos) (mRng1 ms) := by
  refine ⟨fun E η M c σ H s => ?_⟩
  refine Out.bind (R := RVs X.K X.mg) (fun vs H1 (R : It → Hp → Prop) => ∃ j : Int, vs = [V.int j] ∧ -(2 ^ 62) ≤ j ∧ j < 2 ^ 62 ∧ R (Itr 0 j.toNat) H1) (ha E η M c σ H s) (fun Q hq => pi_wi (pi_range1 hg hm wa_pa hs) hq) fun rs c1 vs η1 M1 H1 s1 x1 z1 => ?_
  cases e1 : views c1 rs with
  | none => trivial
  | some ds =>
    have q := views_ok s1 z1.2 e1
    match ds, q with
    | [], _ => trivial
    | [.int j], .cons q .nil =>
      dsimp only
      by_cases h : -(2 ^ 62) ≤ j ∧ j < 2 ^ 62
      · rw [if_pos h]
        exact out_ok (v := Itr 0 j.toNat) s1 (fun Q hQ => ⟨j, by rw [q.int], h.1, h.2, hQ⟩) jok_range
      · rw [if_neg h]; trivial
    | .int _ :: _ :: _, _ => trivial
    | .non :: _, _ => trivial
    | .bl _ :: _, _ => trivial
    | .str _ :: _, _ => trivial
    | .lst _ :: _, _ => trivial
    | .tup _ :: _, _ => trivial
    | .ro _ :: _, _ => trivial
    | .dct _ :: _, _ => trivial
    | .dcT _ :: _, _ => trivial
    | .obj _ _ :: _, _ => trivial
    | .exc _ _ :: _, _ => trivial
    | .fn _ :: _, _ => trivial
    | .hdl _ :: _, _ => trivial
theorem ix_range2 {a b : Expr} {p : Pos} {ms : Cf → Res (List Rv)} (hm : X.mg "range" = none) (ha : Ax X [a, b] ms) (hg : Gl X "range" := by rfl) (hs : starEach [a, b] X.env = [(false, eval a X.env), (false, eval b X.env)] := by rfl) (hs2 : starEach [b] X.env = [(false, eval b X.env)] := by rfl) : Ix X tg (.Call (.Name "range" p) [a, b] [] pos) (mRng2 ms) := by
  refine ⟨fun E η M c σ H s => ?_⟩
  refine Out.bind (R := RVs X.K X.mg) (fun vs H1 (R : It → Hp → Prop) => ∃ i j : Int, vs = [V.int i, V.int j] ∧ (-(2 ^ 62) ≤ i ∧ i < 2 ^ 62 ∧ -(2 ^ 62) ≤ j ∧ j < 2 ^ 62) ∧ R (Itr i (j - i).toNat) H1) (ha E η M c σ H s) (fun Q hq => pi_wi (pi_range2 hg hm wa_pa hs hs2) hq) fun rs c1 vs η1 M1 H1 s1 x1 z1 => ?_
  cases e1 : views c1 rs with
  | none => trivial
  | some ds =>
    have q := views_ok s1 z1.2 e1
    split
    · rename_i i j heq
      cases heq
      by_cases h : -(2 ^ 62) ≤ i ∧ i < 2 ^ 62 ∧ -(2 ^ 62) ≤ j ∧ j < 2 ^ 62
      · rw [if_pos h]
        cases q with
        | cons q1 q2 =>
          cases q2 with
          | cons q2 q3 =>
            cases q3
            exact out_ok (v := Itr i (j - i).toNat) s1 (fun Q hQ => ⟨i, j, by rw [q1.int, q2.int], h, hQ⟩) jok_range
      · rw [if_neg h]; trivial
    · trivial

/-! ### for, while -/
def forD (g : D → Cf → Option Cf) (body : Sm) : List D → Cf → Res Fl
  | [], c => .ok .nx c
  | d :: ds, c => match g d c with
    | none => .stuck
    | some c1 => match body c1 with
      | .ok .nx c2 => forD g body ds c2
      | .ok .ct c2 => forD g body ds c2
      | .ok .bk c2 => .ok .nx c2
      | r => r
def sFor (mi : Cf → Res (List D)) (g : D → Cf → Option Cf) (body : Sm) : Sm := fun c => (mi c).bind fun ds c1 => forD g body ds c1
theorem sx_for {body : List Stmt} {mi : Cf → Res (List D)} {g : D → Cf → Option Cf} {js : List Nat} {mb : Sm} (hp : PassesOwn (model X.prog X.w) X.A X.env X.xe) (hc : X.calm = true) (hi : Ix X tg it mi) (hg : Tgt X tg g js) (hb : Bx X body mb)
    (hs : ∀ x, foldedSetIterable it X.env x = pure x := by intro _; rfl) : Sx X (.For tg it body [] pos) (sFor mi g mb) := by
  refine ⟨fun E η M c σ H s => ?_⟩
  refine OutS.bind (fun (J : It) H1 Z => ∃ W : Nat → Nat → St → Hp → Prop, (∃ m, W 0 m σ H1) ∧ ∀ i m σ H, W i m σ H →
    (J.stop i H ∧ Z.nx σ H) ∨ (J.go i H ∧ ∃ N : St → Hp → Prop, (∀ σ' H', N σ' H' → ∃ m', m' < m ∧ W (i + 1) m' σ' H') ∧ ∀ x H', J.yld i H x H' → Wg X tg x σ H' fun σ2 H2 => Wss X body { Z with nx := N, ct := N, bk := Z.nx } σ2 H2))
    (hi E η M c σ H s) (fun Z hq => ps_ws (ps_for hp hc wi_pi wg_pg wss_pss hs) hq) fun ds c1 J η1 M1 H1 s1 x1 j1 Z gd => ?_
  generalize hF : forD g mb ds c1 = F at gd
  refine ⟨fun i m σ' H' => m = ds.length - i ∧ i ≤ ds.length ∧ ∃ η' M' c', SR X.K X.mg E η' M' c' σ' H' ∧ Ext η1 M1 η' M' ∧ forD g mb (ds.drop i) c' = F, ⟨_, rfl, Nat.zero_le _, η1, M1, c1, s1, .refl, hF⟩, ?_⟩
  rintro i m σ2 H2 ⟨rfl, hi2, η2, M2, c2, s2, x2, e2⟩
  have hsame : Same M1 H2 := x2.m.trans s2.sub
  by_cases hlt : i < ds.length
  · have ed : ds.drop i = ds[i] :: ds.drop (i + 1) := List.drop_eq_getElem_cons hlt
    obtain ⟨q1, q2⟩ := (j1 i H2 hsame).1 ds[i] (List.getElem?_eq_getElem hlt)
    rw [ed] at e2
    refine .inr ⟨q1, fun σ' H' => ∃ η' M' c', SR X.K X.mg E η' M' c' σ' H' ∧ Ext η1 M1 η' M' ∧ forD g mb (ds.drop (i + 1)) c' = F, fun σ' H' ⟨η', M', c', h1, h2, h3⟩ => ⟨ds.length - (i + 1), by omega, rfl, hlt, η', M', c', h1, h2, h3⟩, fun x H' y => ?_⟩
    unfold forD at e2
    cases e3 : g ds[i] c2 with
    | none => rw [e3] at e2; subst e2; exact gd.elim
    | some c3 =>
      rw [e3] at e2
      dsimp only at e2
      -- the item's place
      have item : ∃ M3, SR X.K X.mg E η2 M3 c2 σ2 H' ∧ Ext η2 M2 η2 M3 ∧ Rep X.K X.mg η2 M3 x ds[i] := by
        rcases q2 x H' y with ⟨rfl, r⟩ | ⟨p, xs, ts, hp, rfl, rfl, r, ed'⟩
        · exact ⟨M2, s2, .refl, r.mono x2⟩
        · obtain ⟨f1, f2, f3, f4⟩ := s2.free hp
          obtain ⟨s3, x3⟩ := (s2.alloc (o := .tup xs) hp).freeze f1 f2 f3 f4 upd_same
          exact ⟨_, s3, x3, by rw [ed']; exact .tup upd_same (r.mono (x2.trans x3))⟩
      obtain ⟨M3, s3, x3, r3⟩ := item
      refine hg E η2 M3 c2 σ2 H' x ds[i] c3 s3 r3 e3 _ fun σ4 s4 _ _ => ?_
      refine hb E η2 M3 c3 σ4 H' s4 _ ?_
      cases e4 : mb c3 with
      | stuck => rw [e4] at e2; subst e2; exact gd.elim
      | err y c4 => rw [e4] at e2; subst e2; exact Good.ext (x2.trans x3) gd
      | ok fl c4 =>
        rw [e4] at e2
        cases fl with
        | nx => exact fun σ5 η5 M5 H5 s5 x5 => ⟨η5, M5, c4, s5, (x2.trans x3).trans x5, e2⟩
        | ct => exact fun σ5 η5 M5 H5 s5 x5 => ⟨η5, M5, c4, s5, (x2.trans x3).trans x5, e2⟩
        | bk => subst e2; exact fun σ5 η5 M5 H5 s5 x5 => gd σ5 η5 M5 H5 s5 ((x2.trans x3).trans x5)
        | rt r => subst e2; exact fun v σ5 η5 M5 H5 s5 x5 z5 => gd v σ5 η5 M5 H5 s5 ((x2.trans x3).trans x5) z5
  · have e : i = ds.length := by omega
    subst e
    rw [List.drop_length] at e2
    subst e2
    exact .inl ⟨(j1 _ H2 hsame).2 (Nat.le_refl _), gd σ2 η2 M2 H2 s2 x2⟩
def whD (t : Cf → Res Bool) (body : Sm) : Nat → Cf → Res Fl
  | 0, _ => .stuck
  | n + 1, c => match t c with
    | .stuck => .stuck
    | .err x c1 => .err x c1
    | .ok false c1 => .ok .nx c1
    | .ok true c1 => match body c1 with
      | .ok .nx c2 => whD t body n c2
      | .ok .ct c2 => whD t body n c2
      | .ok .bk c2 => .ok .nx c2
      | r => r
def sWh (n : Nat) (t : Cf → Res Bool) (body : Sm) : Sm := fun c => whD t body n c
theorem sx_while {cd : Expr} {body : List Stmt} {t : Cf → Res Bool} {mb : Sm} (n : Nat) (hp : PassesOwn (model X.prog X.w) X.A X.env X.xe) (ht : Tx X cd t) (hb : Bx X body mb) : Sx X (.While cd body [] pos) (sWh n t mb) := by
  refine ⟨fun E η M c σ H s Z gd => ?_⟩
  refine ps_ws (ps_while hp wt_pt wss_pss) ?_
  generalize hF : sWh n t mb c = F at gd
  refine ⟨fun m σ' H' => ∃ η' M' c', SR X.K X.mg E η' M' c' σ' H' ∧ Ext η M η' M' ∧ whD t mb m c' = F, ⟨n, η, M, c, s, .refl, hF⟩, ?_⟩
  rintro m σ2 H2 ⟨η2, M2, c2, s2, x2, e2⟩
  cases m with
  | zero => unfold whD at e2; subst e2; exact gd.elim
  | succ m =>
    unfold whD at e2
    have o := ht E η2 M2 c2 σ2 H2 s2
    cases e3 : t c2 with
    | stuck => rw [e3] at e2; subst e2; exact gd.elim
    | err y c3 =>
      rw [e3] at e2 o; subst e2
      obtain ⟨W, tk, gd⟩ := gd
      exact o W _ tk fun cls d η4 M4 H4 s4 x4 z4 => gd cls d σ2 η4 M4 H4 s4 (x2.trans x4) z4
    | ok b c3 =>
      rw [e3] at e2 o
      refine o _ fun b' η4 M4 H4 s4 x4 z4 => ?_
      cases z4
      cases b with
      | false => subst e2; exact (show (if false = true then _ else _) from by rw [if_neg Bool.false_ne_true]; exact gd σ2 η4 M4 H4 s4 (x2.trans x4))
      | true =>
        rw [if_pos rfl]
        refine ⟨fun σ' H' => ∃ η' M' c', SR X.K X.mg E η' M' c' σ' H' ∧ Ext η M η' M' ∧ whD t mb m c' = F, fun σ' H' q => ⟨m, Nat.lt_succ_self m, q⟩, ?_⟩
        refine hb E η4 M4 c3 σ2 H4 s4 _ ?_
        dsimp only at e2
        cases e4 : mb c3 with
        | stuck => rw [e4] at e2; subst e2; exact gd.elim
        | err y c4 => rw [e4] at e2; subst e2; exact Good.ext (x2.trans x4) gd
        | ok fl c4 =>
          rw [e4] at e2
          cases fl with
          | nx => exact fun σ5 η5 M5 H5 s5 x5 => ⟨η5, M5, c4, s5, (x2.trans x4).trans x5, e2⟩
          | ct => exact fun σ5 η5 M5 H5 s5 x5 => ⟨η5, M5, c4, s5, (x2.trans x4).trans x5, e2⟩
          | bk => subst e2; exact fun σ5 η5 M5 H5 s5 x5 => gd σ5 η5 M5 H5 s5 ((x2.trans x4).trans x5)
          | rt r => subst e2; exact fun v σ5 η5 M5 H5 s5 x5 z5 => gd v σ5 η5 M5 H5 s5 ((x2.trans x4).trans x5) z5
end
end LH
/-! LHCall: comprehensions, calls of defs, defs. -/
namespace LH
open PySem PySem.Spec PyProof.Rows L2

def wipeR (ρ : List Sl) : List Nat → List Sl
  | [] => ρ
  | v :: vs => (wipeR ρ vs).set v .un
def restR (ρ0 ρ : List Sl) : List Nat → List Sl
  | [] => ρ
  | v :: vs => (restR ρ0 ρ vs).set v (ρ0.getD v .un)
def noOw (ρ : List Sl) (vs : List Nat) : Bool := vs.all fun v => match ρ.getD v .un with
  | .ow _ => false
  | _ => true
theorem wipeR_length (ρ : List Sl) : ∀ vs, (wipeR ρ vs).length = ρ.length
  | [] => rfl
  | v :: vs => by unfold wipeR; rw [List.length_set, wipeR_length ρ vs]
theorem restR_length (ρ0 ρ : List Sl) : ∀ vs, (restR ρ0 ρ vs).length = ρ.length
  | [] => rfl
  | v :: vs => by unfold restR; rw [List.length_set, restR_length ρ0 ρ vs]
theorem wipeR_get {ρ : List Sl} {i : Nat} {s : Sl} : ∀ {vs : List Nat}, (wipeR ρ vs)[i]? = some s → (i ∈ vs ∧ s = .un) ∨ (i ∉ vs ∧ ρ[i]? = some s)
  | [], h => .inr ⟨by simp, h⟩
  | v :: vs, h => by
    unfold wipeR at h
    by_cases hv : v = i
    · subst hv
      by_cases hl : v < (wipeR ρ vs).length
      · rw [List.getElem?_set_self hl] at h; cases h
        exact .inl ⟨List.mem_cons_self, rfl⟩
      · rw [List.getElem?_eq_none (by simpa using hl)] at h; cases h
    · rw [List.getElem?_set_ne hv] at h
      rcases wipeR_get h with ⟨h1, h2⟩ | ⟨h1, h2⟩
      · exact .inl ⟨List.mem_cons_of_mem _ h1, h2⟩
      · exact .inr ⟨by simp only [List.mem_cons, not_or]; exact ⟨fun z => hv z.symm, h1⟩, h2⟩
theorem restR_get {ρ0 ρ : List Sl} {i : Nat} {s : Sl} : ∀ {vs : List Nat}, (restR ρ0 ρ vs)[i]? = some s → (i ∈ vs ∧ s = ρ0.getD i .un) ∨ (i ∉ vs ∧ ρ[i]? = some s)
  | [], h => .inr ⟨by simp, h⟩
  | v :: vs, h => by
    unfold restR at h
    by_cases hv : v = i
    · subst hv
      by_cases hl : v < (restR ρ0 ρ vs).length
      · rw [List.getElem?_set_self hl] at h; cases h
        exact .inl ⟨List.mem_cons_self, rfl⟩
      · rw [List.getElem?_eq_none (by simpa using hl)] at h; cases h
    · rw [List.getElem?_set_ne hv] at h
      rcases restR_get h with ⟨h1, h2⟩ | ⟨h1, h2⟩
      · exact .inl ⟨List.mem_cons_of_mem _ h1, h2⟩
      · exact .inr ⟨by simp only [List.mem_cons, not_or]; exact ⟨fun z => hv z.symm, h1⟩, h2⟩
theorem wipe_out {σ : St} {i : Nat} : ∀ {vs : List Nat}, i ∉ vs → (wipe σ vs)[i]? = σ[i]?
  | [], _ => rfl
  | v :: vs, h => by
    unfold wipe
    rw [List.getElem?_set_ne fun z => h (by rw [z]; exact List.mem_cons_self), wipe_out fun z => h (List.mem_cons_of_mem _ z)]
theorem wipe_in {σ : St} {i : Nat} : ∀ {vs : List Nat}, i ∈ vs → i < σ.length → (wipe σ vs)[i]? = some none
  | v :: vs, h, hl => by
    unfold wipe
    by_cases hv : v = i
    · subst hv
      rw [List.getElem?_set_self (by rw [wipe_length]; exact hl)]
    · rw [List.getElem?_set_ne hv]
      rcases List.mem_cons.mp h with z | z
      · exact absurd z.symm hv
      · exact wipe_in z hl
theorem wipe_eq {σ σ' : St} {vs : List Nat} (hl : σ'.length = σ.length) (h : ∀ j, j ∉ vs → σ'[j]? = σ[j]?) : wipe σ' vs = wipe σ vs := by
  apply List.ext_getElem?
  intro i
  by_cases hi : i ∈ vs
  · by_cases hlt : i < σ.length
    · rw [wipe_in hi hlt, wipe_in hi (by rw [hl]; exact hlt)]
    · rw [List.getElem?_eq_none (by rw [wipe_length, hl]; omega), List.getElem?_eq_none (by rw [wipe_length]; omega)]
  · rw [wipe_out hi, wipe_out hi, h i hi]
section
variable {K : Fg} {mg : Mg} {E : En} {η η' : List Addr} {M M' H H' : Hp} {c c' : Cf} {σ σ' : St}
/-- slots are forgotten -/
theorem SR.less (s : SR K mg E η M c σ H) {ρ' : List Sl} {σ' : St} (hl : σ'.length = ρ'.length) (h : ∀ (i : Nat) (t : Sl), ρ'[i]? = some t → t = .un ∨ (c.ρ[i]? = some t ∧ σ'[i]? = σ[i]?)) : SR K mg E η M { c with ρ := ρ' } σ' H := by
  refine ⟨s.sub, hl, fun i t e => ?_, fun i j a d d' e1 e2 e3 e4 => ?_, s.hlen, s.hdl, s.hnd, s.fr, s.pre, s.new, s.m0, s.mn⟩
  · rcases h i t e with rfl | ⟨h1, h2⟩
    · trivial
    · rw [h2]; exact s.slot i t h1
  · rcases h i _ e1 with z | ⟨h1, h2⟩
    · cases z
    · rcases h j _ e2 with z | ⟨h3, h4⟩
      · cases z
      · rw [h2] at e3; rw [h4] at e4
        exact s.inj i j a d d' h1 h3 e3 e4
theorem SR.wipe (s : SR K mg E η M c σ H) (vs : List Nat) : SR K mg E η M { c with ρ := wipeR c.ρ vs } (L2.wipe σ vs) H := by
  refine s.less (by rw [wipe_length, wipeR_length, s.len]) fun i t e => ?_
  rcases wipeR_get e with ⟨_, h⟩ | ⟨h1, h2⟩
  · exact .inl h
  · exact .inr ⟨h2, wipe_out h1⟩
/-- behind a block: its own names are as they were ahead of it -/
theorem SR.restore {c0 : Cf} {H0 M0 : Hp} {η0 : List Addr} {vs : List Nat} (s0 : SR K mg E η0 M0 c0 σ H0) (x : Ext η0 M0 η M) (no : noOw c0.ρ vs = true) (s : SR K mg E η M { c with ρ := wipeR c.ρ vs } (L2.wipe σ vs) H) :
    SR K mg E η M { c with ρ := restR c0.ρ c.ρ vs } σ H := by
  have hlen : c.ρ.length = σ.length := by
    have := s.len
    rw [wipe_length] at this
    rw [this]
    exact (wipeR_length _ _).symm
  have nown : ∀ {i : Nat} {d : D}, i ∈ vs → c0.ρ.getD i .un ≠ .ow d := fun {i d} hi z => by
    have := List.all_eq_true.mp no i hi
    rw [z] at this
    cases this
  have out : ∀ {i : Nat} {t : Sl}, i ∉ vs → c.ρ[i]? = some t → (wipeR c.ρ vs)[i]? = some t := fun {i t} hi e => by
    have hl : i < (wipeR c.ρ vs).length := by rw [wipeR_length]; exact (List.getElem?_eq_some_iff.mp e).1
    rcases wipeR_get (List.getElem?_eq_getElem hl) with ⟨h, _⟩ | ⟨_, h⟩
    · exact absurd h hi
    · rw [List.getElem?_eq_getElem hl]
      rw [e] at h
      exact h.symm
  refine ⟨s.sub, by rw [restR_length, hlen], fun i t e => ?_, fun i j a d d' e1 e2 e3 e4 => ?_, s.hlen, s.hdl, s.hnd, s.fr, s.pre, s.new, s.m0, s.mn⟩
  · rcases restR_get e with ⟨h1, h2⟩ | ⟨h1, h2⟩
    · cases q : c0.ρ[i]? with
      | none =>
        have : t = .un := by rw [h2]; simp [q]
        subst this; trivial
      | some u =>
        have hu : t = u := by rw [h2]; simp [q]
        subst hu
        have ok := s0.slot i t q
        cases t with
        | un => trivial
        | fz d => obtain ⟨v, e1, r⟩ := ok; exact ⟨v, e1, r.mono x⟩
        | ow d => exact absurd h2.symm (nown h1)
    · have ok := s.slot i t (out h1 h2)
      rw [wipe_out h1] at ok
      exact ok
  · rcases restR_get e1 with ⟨h1, h2⟩ | ⟨h1, h2⟩
    · exact absurd h2.symm (nown h1)
    · rcases restR_get e2 with ⟨h3, h4⟩ | ⟨h3, h4⟩
      · exact absurd h4.symm (nown h3)
      · exact s.inj i j a d d' (out h1 h2) (out h3 h4) (by rw [wipe_out h1]; exact e3) (by rw [wipe_out h3]; exact e4)
/-- a temporary is written -/
theorem SR.writeTmp (s : SR K mg E η M c σ H) {a : Addr} {o : HO} (h1 : M a = none) (h2 : E.H a = none) (h3 : a ∉ η) (h4 : ¬ Own c σ a) : SR K mg E η M c σ (upd H a o) := by
  refine ⟨fun b u e => by rw [upd_ne (ne_of_none e h1)]; exact s.sub b u e, s.len, fun i t e => ?_, s.inj, s.hlen, fun n b d e1 e2 => ?_, s.hnd, fun b u e n => by rw [upd_ne (ne_of_none e h2)]; exact s.fr b u e n, s.pre, s.new, s.m0, s.mn⟩
  · have q := s.slot i t e
    cases t with
    | un => trivial
    | fz d => exact q
    | ow d =>
      obtain ⟨b, q1, q2, q3, q4, q5⟩ := q
      have hb : b ≠ a := fun z => h4 ⟨i, d, e, by rw [q1, z]⟩
      exact ⟨b, q1, q2, q3, q4, q5.mono .refl fun u z => by rw [upd_ne hb]; exact z⟩
  · obtain ⟨z1, z2⟩ := s.hdl n b d e1 e2
    have hb : b ≠ a := fun z => h3 (z ▸ List.mem_of_getElem? e1)
    exact ⟨z1, z2.mono .refl fun u z => by rw [upd_ne hb]; exact z⟩
end

/-! ### comprehensions -/
def compD (g : D → Cf → Option Cf) (t : Cf → Res Bool) (me : Em) (vs : List Nat) : List D → List D → Cf → Option (List D × Cf)
  | [], acc, c => some (acc, c)
  | d :: ds, acc, c => match g d { c with ρ := wipeR c.ρ vs } with
    | none => none
    | some c1 => match t c1 with
      | .ok false c2 => compD g t me vs ds acc c2
      | .ok true c2 => match me c2 with
        | .ok r c3 => match toVal c3 r with
          | some (v, c4) => if acc.length < sizeLine then compD g t me vs ds (acc ++ [v]) c4 else none
          | none => none
        | _ => none
      | _ => none
def mComp (vs : List Nat) (mi : Cf → Res (List D)) (g : D → Cf → Option Cf) (t : Cf → Res Bool) (me : Em) : Em := fun c => (mi c).bind fun ds c1 =>
  if noOw c1.ρ vs then match compD g t me vs ds [] c1 with
    | some (acc, c2) => .ok (.nw (.lst acc)) { c2 with ρ := restR c1.ρ c2.ρ vs }
    | none => .stuck
  else .stuck
def tmYes : Cf → Res Bool := fun c => .ok true c
section
variable {X : Cx} {E : En} {η η' : List Addr} {M M' H H' : Hp} {c c' : Cf} {σ σ' : St} {e tg it elt : Expr} {es ts ifs : List Expr} {me : Em} {ms : List Em} {pos tpos epos : Pos}
/-- the block's readings, whatever the block -/
abbrev blkC (X : Cx) (scope : Scope) (s : Shared) (H : Hp) (C : Addr) (cl : List (Str × Addr)) (fp : List Addr) : Cx := X.blk s H scope (compEnvC scope cl C X.env) fp
def Web (X : Cx) (scope : Scope) (e : Expr) : TE := fun σ H Q => ∀ s Hb C cl fp, We (blkC X scope s Hb C cl fp) e σ H Q
def Wgb (X : Cx) (scope : Scope) (tg : Expr) : TG := fun v σ H Q => ∀ s Hb C cl fp, Wg (blkC X scope s Hb C cl fp) tg v σ H Q
def Wts (X : Cx) (ifs : List Expr) : TT := fun σ H Q => ∀ pins s, Inv X pins σ H s →
    wpAny (model X.prog X.w) X.A (forIn ifs true fun c r => if r = true then do let ok ← isTrue c X.env (eval c X.env); pure (ForInStep.yield ok) else pure (ForInStep.yield r)) (TP X pins σ Q) X.xe s
theorem wts_pts {ifs : List Expr} : PTs X ifs (Wts X ifs) := ⟨fun pins s σ H Q I h => h pins s I⟩
def Wtb (X : Cx) (scope : Scope) (ifs : List Expr) : TT := fun σ H Q => ∀ s Hb C cl fp, Wts (blkC X scope s Hb C cl fp) ifs σ H Q
structure Txs (X : Cx) (ifs : List Expr) (t : Cf → Res Bool) : Prop where
  run : ∀ E η M c σ H, SR X.K X.mg E η M c σ H → Out X RB (Wts X ifs σ H) E η M σ (t c)
instance {X : Cx} {ifs : List Expr} {t : Cf → Res Bool} : CoeFun (Txs X ifs t) (fun _ => ∀ E η M c σ H, SR X.K X.mg E η M c σ H → Out X RB (Wts X ifs σ H) E η M σ (t c)) := ⟨Txs.run⟩
theorem txs_nil : Txs X [] tmYes := ⟨fun E η M c σ H s => out_ok s (fun Q hq pins st I => (pts_nil (X := X)).run pins st σ H Q I hq) rfl⟩
theorem txs_one {t : Cf → Res Bool} (h : Tx X e t) : Txs X [e] t := ⟨fun E η M c σ H s => (h E η M c σ H s).imp (R' := RB) (fun x => x) (fun Q hq pins st I => (pts_one (X := X) wt_pt).run pins st σ H Q I hq) fun _ _ _ _ _ _ _ z => z⟩

theorem comp_core {scope : Scope} {own : List (Str × Nat)} {mi : Cf → Res (List D)} {g : D → Cf → Option Cf} {js : List Nat} {t : Cf → Res Bool} {tw : VK → Prop}
    (hi : Ix X tg it mi) (hg : ∀ s Hb C cl fp, Tgt (blkC X scope s Hb C cl fp) tg g js) (hj : ∀ j ∈ js, j ∈ own.map (·.2)) (ht : ∀ s Hb C cl fp, Txs (blkC X scope s Hb C cl fp) ifs t)
    (he : ∀ s Hb C cl fp, Ex (blkC X scope s Hb C cl fp) elt me) (s : SR X.K X.mg E η M c σ H)
    (imp : ∀ Q, tLc (Wi X tg it) (Wgb X scope tg) (Wtb X scope ifs) (Web X scope elt) (own.map (·.2)) σ H Q → tw Q) : Out X (RV X.K X.mg) tw E η M σ (mComp (own.map (·.2)) mi g t me c) := by
  generalize hvs : own.map (·.2) = vs at hj imp
  refine Out.bind (fun (J : It) H1 (Q : VK) => ∀ Dn, H1 Dn = none → ∃ W : Nat → Nat → Hp → Prop, (∃ m, W 0 m (upd H1 Dn (.lst []))) ∧ ∀ i m H, W i m H →
    (J.stop i H ∧ Q (.ref Dn) H) ∨ (J.go i H ∧ ∃ Nx : Hp → Prop, (∀ H', Nx H' → ∃ m', m' < m ∧ W (i + 1) m' H') ∧ ∀ x H', J.yld i H x H' → Wgb X scope tg x (L2.wipe σ vs) H' fun σ2 H2 => L2.wipe σ2 vs = L2.wipe σ vs ∧ Wtb X scope ifs σ2 H2 fun b H3 =>
      if b = true then Web X scope elt σ2 H3 fun y H4 => ∃ acc, H4 Dn = some (.lst acc) ∧ acc.length < sizeLine ∧ Nx (upd H4 Dn (.lst (acc ++ [y]))) else Nx H3)) (hi E η M c σ H s) imp fun ds c1 J η1 M1 H1 s1 x1 j1 => ?_
  cases no : noOw c1.ρ vs with
  | false => trivial
  | true =>
    rw [if_pos rfl]
    cases eF : compD g t me vs ds [] c1 with
    | none => trivial
    | some q =>
      obtain ⟨accF, cF⟩ := q
      refine fun Q hQ Dn hDn => ?_
      have hj1 : JOk X.K X.mg η1 M1 J ds := j1
      obtain ⟨f1, f2, f3, f4⟩ := s1.free hDn
      -- the state ahead of turn i
      refine ⟨fun i m H => m = ds.length - i ∧ i ≤ ds.length ∧ ∃ η M c xs acc, SR X.K X.mg E η M { c with ρ := wipeR c.ρ vs } (L2.wipe σ vs) H ∧ Ext η1 M1 η M ∧ H Dn = some (.lst xs) ∧ RepL X.K X.mg η M xs acc ∧
        M Dn = none ∧ Dn ∉ η ∧ ¬ Own { c with ρ := wipeR c.ρ vs } (L2.wipe σ vs) Dn ∧ compD g t me vs (ds.drop i) acc c = some (accF, cF),
        ⟨_, rfl, Nat.zero_le _, η1, M1, c1, [], [], (s1.wipe vs).alloc hDn, .refl, upd_same, .nil, f1, f3, fun z => ((s1.wipe vs).free hDn).2.2.2 z, eF⟩, ?_⟩
      rintro i m H2 ⟨rfl, hi2, η2, M2, c2, xs, acc, s2, x2, hD2, hr2, hM2, hn2, ho2, e2⟩
      have hsame : Same M1 H2 := x2.m.trans s2.sub
      by_cases hlt : i < ds.length
      · have ed : ds.drop i = ds[i] :: ds.drop (i + 1) := List.drop_eq_getElem_cons hlt
        obtain ⟨q1, q2⟩ := (hj1 i H2 hsame).1 ds[i] (List.getElem?_eq_getElem hlt)
        rw [ed] at e2
        unfold compD at e2
        refine .inr ⟨q1, fun H' => ∃ η M c xs acc, SR X.K X.mg E η M { c with ρ := wipeR c.ρ vs } (L2.wipe σ vs) H' ∧ Ext η1 M1 η M ∧ H' Dn = some (.lst xs) ∧ RepL X.K X.mg η M xs acc ∧
          M Dn = none ∧ Dn ∉ η ∧ ¬ Own { c with ρ := wipeR c.ρ vs } (L2.wipe σ vs) Dn ∧ compD g t me vs (ds.drop (i + 1)) acc c = some (accF, cF),
          fun H' h => ⟨ds.length - (i + 1), by omega, rfl, hlt, h⟩, fun x H' y => ?_⟩
        cases e3 : g ds[i] { c2 with ρ := wipeR c2.ρ vs } with
        | none => rw [e3] at e2; cases e2
        | some c3 =>
          rw [e3] at e2
          dsimp only at e2
          have t2 := s2.enter
          have item : ∃ M3, SR X.K X.mg ⟨mask { c2 with ρ := wipeR c2.ρ vs } (L2.wipe σ vs) H2, η2, M2⟩ η2 M3 { c2 with ρ := wipeR c2.ρ vs } (L2.wipe σ vs) H' ∧ Ext η2 M2 η2 M3 ∧ Rep X.K X.mg η2 M3 x ds[i] := by
            rcases q2 x H' y with ⟨rfl, r⟩ | ⟨p, ys, ts, hp, rfl, rfl, r, ed'⟩
            · exact ⟨M2, t2, .refl, r.mono x2⟩
            · obtain ⟨g1, g2, g3, g4⟩ := t2.free hp
              obtain ⟨s3, x3⟩ := (t2.alloc (o := .tup ys) hp).freeze g1 g2 g3 g4 upd_same
              exact ⟨_, s3, x3, by rw [ed']; exact .tup upd_same (r.mono (x2.trans x3))⟩
          obtain ⟨M3, s3, x3, r3⟩ := item
          intro bs bH bC bcl bfp
          refine hg bs bH bC bcl bfp _ η2 M3 _ _ H' x ds[i] c3 s3 r3 e3 _ fun σ4 s4 k4 l4 => ?_
          have hw : L2.wipe σ4 vs = L2.wipe σ vs := by
            have h1 : L2.wipe σ4 vs = L2.wipe (L2.wipe σ vs) vs := wipe_eq l4 fun j hjn => k4 j fun z => hjn (hj j z)
            have h2 : L2.wipe (L2.wipe σ vs) vs = L2.wipe σ vs := wipe_eq (wipe_length _ _) fun j hjn => wipe_out hjn
            rw [h1, h2]
          refine ⟨hw, fun ts tH tC tcl tfp => ?_⟩
          -- the end of a turn
          have fin : ∀ {η5 : List Addr} {M5 H5 : Hp} {c5 : Cf}, SR X.K X.mg ⟨mask { c2 with ρ := wipeR c2.ρ vs } (L2.wipe σ vs) H2, η2, M2⟩ η5 M5 c5 σ4 H5 → Ext η2 M2 η5 M5 →
              SR X.K X.mg E η5 M5 { c5 with ρ := wipeR c5.ρ vs } (L2.wipe σ vs) H5 ∧ H5 Dn = some (.lst xs) ∧ M5 Dn = none ∧ Dn ∉ η5 ∧ ¬ Own { c5 with ρ := wipeR c5.ρ vs } (L2.wipe σ vs) Dn := fun {η5 M5 H5 c5} s5 x5 => by
            obtain ⟨s6, fr⟩ := s2.leave s5
            obtain ⟨k1, k2⟩ := SR.leave_own s5 hD2 hn2 ho2
            have s7 := s6.wipe vs
            rw [hw] at s7
            refine ⟨s7, fr.h Dn _ hD2 hn2 ho2, fr.m Dn _ hD2 ho2 hM2, k2, fun ⟨j, d, o1, o2⟩ => ?_⟩
            rcases wipeR_get o1 with ⟨_, z⟩ | ⟨z1, z2⟩
            · cases z
            · rw [← hw, wipe_out z1] at o2
              exact k1 ⟨j, d, z2, o2⟩
          have o := ht ts tH tC tcl tfp _ η2 M3 c3 σ4 H' s4
          cases e4 : t c3 with
          | stuck => rw [e4] at e2; cases e2
          | err w c4 => rw [e4] at e2; cases e2
          | ok b c4 =>
            rw [e4] at e2 o
            refine o _ fun b' η5 M5 H5 s5 x5 z5 => ?_
            cases z5
            cases b with
            | false =>
              rw [if_neg Bool.false_ne_true]
              obtain ⟨g1, g2, g3, g4, g5⟩ := fin s5 (x3.trans x5)
              exact ⟨η5, M5, c4, xs, acc, g1, x2.trans (x3.trans x5), g2, hr2.mono (x3.trans x5), g3, g4, g5, e2⟩
            | true =>
              rw [if_pos rfl]
              intro es eH eC ecl efp
              have oe := he es eH eC ecl efp _ η5 M5 c4 σ4 H5 s5
              dsimp only at e2
              cases e6 : me c4 with
              | stuck => rw [e6] at e2; cases e2
              | err w c6 => rw [e6] at e2; cases e2
              | ok r c6 =>
                rw [e6] at e2 oe
                dsimp only at e2
                cases e7 : toVal c6 r with
                | none => rw [e7] at e2; cases e2
                | some pq =>
                  obtain ⟨d7, c7⟩ := pq
                  rw [e7] at e2
                  dsimp only at e2
                  by_cases hz : acc.length < sizeLine
                  · rw [if_pos hz] at e2
                    refine oe _ fun v η6 M6 H6 s6 x6 z6 => ?_
                    obtain ⟨M7, s7, x7, r7⟩ := toVal_ok s6 z6 e7
                    have x8 := x3.trans (x5.trans (x6.trans x7))
                    obtain ⟨g1, g2, g3, g4, g5⟩ := fin s7 x8
                    refine ⟨xs, g2, by rw [hr2.length]; exact hz, η6, M7, c7, xs ++ [v], acc ++ [d7], ?_, x2.trans x8, upd_same, (hr2.mono x8).append (.cons r7 .nil), g3, g4, g5, e2⟩
                    exact g1.writeTmp g3 f2 g4 g5
                  · rw [if_neg hz] at e2; cases e2
      · have e : i = ds.length := by omega
        subst e
        rw [List.drop_length] at e2
        cases e2
        refine .inl ⟨(hj1 _ H2 hsame).2 (Nat.le_refl _), hQ _ η2 M2 H2 (s1.restore x2 no s2) x2 ⟨Dn, rfl, hM2, f2, hn2, fun ⟨j, d, o1, o2⟩ => ?_, xs, hD2, hr2⟩⟩
        rcases restR_get o1 with ⟨z1, z2⟩ | ⟨z1, z2⟩
        · have := List.all_eq_true.mp no j z1
          rw [← z2] at this; cases this
        · refine ho2 ⟨j, d, ?_, by rw [wipe_out z1]; exact o2⟩
          have hl : j < (wipeR cF.ρ vs).length := by rw [wipeR_length]; exact (List.getElem?_eq_some_iff.mp z2).1
          rcases wipeR_get (List.getElem?_eq_getElem hl) with ⟨h, _⟩ | ⟨_, h⟩
          · exact absurd h z1
          · show (wipeR cF.ρ vs)[j]? = _
            rw [List.getElem?_eq_getElem hl]
            rw [z2] at h
            exact h.symm
theorem ex_comp {scope : Scope} (own : List (Str × Nat)) {mi : Cf → Res (List D)} {g : D → Cf → Option Cf} {js : List Nat} {t : Cf → Res Bool} (hc : X.calm = true) (hN : X.N.Nodup) (ok : BlkOk X.N X.env.scope scope own)
    (hi : Ix X tg it mi) (hg : ∀ s Hb C cl fp, Tgt (blkC X scope s Hb C cl fp) tg g js) (ht : ∀ s Hb C cl fp, Txs (blkC X scope s Hb C cl fp) ifs t) (he : ∀ s Hb C cl fp, Ex (blkC X scope s Hb C cl fp) elt me)
    (hj : ∀ j ∈ js, j ∈ own.map (·.2) := by decide) (hs : ∀ x, foldedSetIterable it X.env x = pure x := by intro _; rfl) : Ex X (.ListComp elt [⟨tg, it, ifs, 0⟩] scope pos) (mComp (own.map (·.2)) mi g t me) := by
  refine ⟨fun E η M c σ H s => ?_⟩
  refine comp_core hi hg hj ht he s fun Q hq => pe_we (pe_lc hc hN wi_pi ok (fun s H C cl fp => ⟨fun pins st σ H v u Q I r h => h s _ C cl fp pins st u I r⟩) (fun s H C cl fp => ⟨fun pins st σ H Q I h => h s _ C cl fp pins st I⟩) (fun s H C cl fp => ⟨fun pins st σ H Q I h => h s _ C cl fp pins st I⟩) hs) hq
def CompR (X : Cx) (tg it : Expr) (ifs : List Expr) (elt : Expr) (scope : Scope) (own : List (Str × Nat)) (σ : St) (H : Hp) (Q : VK) : Prop := tLc (Wi X tg it) (Wgb X scope tg) (Wtb X scope ifs) (Web X scope elt) (own.map (·.2)) σ H Q
/-- y = [..] on one line, y a local -/
theorem sx_setComp {scope : Scope} (i : Nat) (own : List (Str × Nat)) {y : Str} {py spos : Pos} {mi : Cf → Res (List D)} {g : D → Cf → Option Cf} {js : List Nat} {t : Cf → Res Bool} (hc : X.calm = true) (hN : X.N.Nodup) (ok : BlkOk X.N X.env.scope scope own)
    (hi : Ix X tg it mi) (hg : ∀ s Hb C cl fp, Tgt (blkC X scope s Hb C cl fp) tg g js) (ht : ∀ s Hb C cl fp, Txs (blkC X scope s Hb C cl fp) ifs t) (he : ∀ s Hb C cl fp, Ex (blkC X scope s Hb C cl fp) elt me)
    (hsw : swapsWith (.ListComp elt [⟨tg, it, ifs, 0⟩] scope pos) (some (.Name y py)) spos.line X.env = pure true)
    (hy : X.N[i]? = some y := by rfl) (hyl : X.env.scope.names.lookup y = some .local := by rfl) (hj : ∀ j ∈ js, j ∈ own.map (·.2) := by decide) (hs : ∀ x, foldedSetIterable it X.env x = pure x := by intro _; rfl) :
    Sx X (.Assign [.Name y py] (.ListComp elt [⟨tg, it, ifs, 0⟩] scope pos) spos) (sSet i (mComp (own.map (·.2)) mi g t me)) := by
  refine ⟨fun E η M c σ H s => ?_⟩
  have key : Out X (RV X.K X.mg) (CompR X tg it ifs elt scope own σ H) E η M σ (mComp (own.map (·.2)) mi g t me c) := comp_core hi hg hj ht he s fun Q hq => hq
  refine out_put key fun Z hq => ?_
  have hq : tAsg (tLc (Wi X tg it) (Wgb X scope tg) (Wtb X scope ifs) (Web X scope elt) (own.map (·.2))) (gName i) Z σ H := hq
  exact ps_ws (ps_setLc hc hN hy hyl hsw wi_pi ok (fun s H C cl fp => ⟨fun pins st σ H v u Q I r h => h s _ C cl fp pins st u I r⟩) (fun s H C cl fp => ⟨fun pins st σ H Q I h => h s _ C cl fp pins st I⟩) (fun s H C cl fp => ⟨fun pins st σ H Q I h => h s _ C cl fp pins st I⟩) hs) hq
end

/-! ### rooms and promises at a known stack of displays -/
structure RmG (k : Nat) (A : Around) : Prop where
  rm : Room k A
  gd : A.guards = some []
theorem RmG.mono {j k : Nat} {A : Around} (r : RmG k A) (h : j ≤ k) : RmG j A := ⟨r.rm.mono h, r.gd⟩
theorem RmG.deeper {k : Nat} {A : Around} (r : RmG (k + 1) A) (env : Env) : RmG k (A.deeper env) := ⟨r.rm.deeper env, r.gd⟩
/-- as FnOk, at a known stack of displays -/
structure FnG (P : Program) (w : World) (K : Fg) (mg : Mg) (base : Heap) (CX : CXT) (k : Nat) (f : Addr) (fd : FuncData) (ps : List Str) (sp : Sp) : Prop where
  len : ∀ vs H Q E, sp vs H Q E → vs.length = ps.length
  run : ∀ (A : Around) (outer : List Env) (s : Shared) (H : Hp) (args : Args) (us : List Value) (vs : List V) (Q : VK) (E : XK), RmG k A → Env0 P w K mg base A outer s H → BindsTo s fd args (ps.zip us) → Vals vs us → sp vs H Q E →
    codeAny (model P w) A (.call (.ref f) args) (CR CX outer P w H s Q E) s
theorem FnG.mono {P : Program} {w : World} {K : Fg} {mg : Mg} {base : Heap} {CX : CXT} {j k : Nat} {f : Addr} {fd : FuncData} {ps : List Str} {sp : Sp} (F : FnG P w K mg base CX j f fd ps sp) (h : j ≤ k) : FnG P w K mg base CX k f fd ps sp :=
  ⟨F.len, fun A outer s H args us vs Q E hr => F.run A outer s H args us vs Q E (hr.mono h)⟩
/-- the callee runs; what it lets out passes at these slots -/
theorem runG {X : Cx} {CX : CXT} {k : Nat} {f : Addr} {fd : FuncData} {ps : List Str} {ds : List Value} {dvs : List V} {sp : Sp} {E : XK} {pins : List (Addr × Obj)} {σ : St} {H : Hp} {s : Shared} {Q : VK} {us : List Value} {vs : List V} (F : FnG X.prog X.w X.K X.mg X.base CX k f fd ps sp) (hr : RmG k X.A)
    (hb : Binds X.K fd ps ds) (hd : Vals dvs ds) (hx : PassesAt CX X σ E) (I : Inv X pins σ H s) (r : Vals vs us) (h : sp (vs ++ dvs) H Q E) : wpAny (model X.prog X.w) X.A (call (.ref f) us) (EP X pins σ Q) X.xe s := by
  have r2 := r.append hd
  have hl : (us ++ ds).length = ps.length := by rw [← r2.length]; exact F.len _ _ _ _ h
  refine wpAny_call (codeAny_mono (F.run X.A X.stack s H ⟨us, []⟩ (us ++ ds) (vs ++ dvs) Q E hr I.env0 (hb s us I.kIn hl) r2 h) fun o s' hq => ?_)
  match o, hq with
  | .error e, hq => exact hx pins H s e s' I hq
  | .ok (.ret u), hq => exact I.after hq
/-- a def of the text, by its body -/
theorem fnG_of {P : Program} {w : World} {K : Fg} {mg : Mg} {base : Heap} {x qual : Str} {st : Stmt} {f : Addr} {fd : FuncData} {N ps : List Str} {k : Nat} {sp : Sp} (F : Fun K x qual st f fd) (S : FnScope N ps (defScope st)) (len : ∀ vs H Q E, sp vs H Q E → vs.length = ps.length)
    (hbody : ∀ (cdv : Value) (A : Around) (outer : List Env) (s : Shared) (H : Hp) (vs : List V) (Q : VK) (E : XK), RmG k (A.deeper (envOfC qual (defScope st) s.heap.objs.size f cdv)) → sp vs H Q E →
      ∃ t, PSs (cxOf (L2.CX P w) P w K mg base N qual (defScope st) f cdv A outer s H E) (defBody st) t ∧ t { nx := fun _ H' => Q .non H', rt := Q } (start N vs) H) : FnG P w K mg base (L2.CX P w) (k + 1) f fd ps sp := by
  obtain ⟨oc, od, kV, doc, pm, an, cdv, ct, osl, rfl, lk, hcd⟩ := F.ex
  refine ⟨len, fun A outer s H args us vs Q E hr e0 hb r hsp => ?_⟩
  have hl := len _ _ _ _ hsp
  have keep : ∀ b o, base.get? b = some o → s.heap.get? b = some o := fun b o e => (e0.bs b o e).1
  have KX : K.In s.heap := e0.mod.kin.keeps keep
  have lim : s.heap.NoLimit := e0.mod.nolimit.keeps keep
  have hkind : ∀ y ∈ ps.zip us, (defScope st).names.lookup y.1 = some .local ∨ ((defScope st).names.lookup y.1 = some .cell ∧ ((cellsFrom (s.heap.objs.size + 1) (defScope st).names []).lookup y.1).isSome = true) := fun ⟨n, v⟩ hy => by
    rcases S.par n (List.of_mem_zip hy).1 with q | q
    · exact .inl q
    · exact .inr ⟨q, PySem.W.cellsFrom_some _ _ _ (.inl q)⟩
  refine codeAny_call_function hr.rm.depth (KX _ _ lk) rfl S.co S.gen rfl (PySem.W.codeRec_of KX hcd) (hb _ _ _ _ ?_)
  refine wpAny_newFunctionEnv_cells S.kind hkind fun env he s1 x => ?_
  subst he
  refine ⟨lim.keeps x.toInCall.keep, codeAny_func ?_⟩
  obtain ⟨t, ht, hq⟩ := hbody cdv A outer s H vs Q E (hr.deeper _) hsp
  have I : Inv (cxOf (L2.CX P w) P w K mg base N qual (defScope st) f cdv A outer s H E) [] (start N vs) H s1 := inv_start S hr.rm.hd e0 hl r x
  refine wpAny_mono (ht.run [] s1 (start N vs) H _ I hq) (fun fl s' hs => ?_) fun e s' hs => hs
  have fin : ∀ {σ' : St} {H' : Hp} {v : V} {u : Value}, Inv (cxOf (L2.CX P w) P w K mg base N qual (defScope st) f cdv A outer s H E) [] σ' H' s' → RelV v u → Q v H' → CE outer P w H s Q u s' :=
    fun {σ' H' v u} J rv q => ⟨v, H', J.os, J.bare, J.base, J.hok, rv, q⟩
  cases fl with
  | ret u =>
    obtain ⟨v, σ', H', J, rv, q⟩ := hs
    exact fin J rv q
  | next =>
    obtain ⟨σ', H', J, q⟩ := hs
    exact fin (v := V.non) (u := Value.none) J rfl q
  | brk =>
    obtain ⟨_, _, _, q⟩ := hs
    exact False.elim q
  | cont =>
    obtain ⟨_, _, _, q⟩ := hs
    exact False.elim q

/-! ### defs -/
abbrev Fm := List D → List D → Res Rv
/-- what a def promises: it runs as F -/
def spF (K : Fg) (mg : Mg) (n : Nat) (F : Fm) : Sp := fun vs H Q Ex => vs.length = n ∧ ∃ η M ds S, SR K mg ⟨H, η, M⟩ η M ⟨[], S⟩ [] H ∧ RepL K mg η M vs ds ∧
  match F ds S with
  | .stuck => False
  | .ok r c' => ∀ v η' M' H', SR K mg ⟨H, η, M⟩ η' M' ⟨[], c'.S⟩ [] H' → RvR K mg ⟨H, η, M⟩ η' M' ⟨[], c'.S⟩ [] H' v r → Q v H'
  | .err x c' => ∀ cls d η' M' H', SR K mg ⟨H, η, M⟩ η' M' ⟨[], c'.S⟩ [] H' → XR K mg η' M' cls d x → Ex cls d H'
/-- the value that leaves a def -/
def leaveR (c : Cf) : Rv → Option Rv
  | .fz d => some (.fz d)
  | .nw d => some (.nw d)
  | .loc i => match c.ρ[i]? with
    | some (.ow d) => some (.nw d)
    | some (.fz d) => some (.fz d)
    | _ => none
def runF (nN : Nat) (mb : Sm) : Fm := fun ds S => match mb ⟨ds.map Sl.fz ++ List.replicate (nN - ds.length) .un, S⟩ with
  | .ok .nx c => .ok (.fz .non) ⟨[], c.S⟩
  | .ok (.rt r) c => match leaveR c r with
    | some r' => .ok r' ⟨[], c.S⟩
    | none => .stuck
  | .err x c => .err x ⟨[], c.S⟩
  | _ => .stuck
section
variable {P : Program} {w : World} {K : Fg} {mg : Mg} {base : Heap} {E : En} {η η' : List Addr} {M M' H H' : Hp} {c c' : Cf} {σ σ' : St}
theorem SR.bare (s : SR K mg E η M c σ H) : SR K mg E η M ⟨[], c.S⟩ [] H :=
  ⟨s.sub, rfl, fun i t e => by simp at e, fun i j a d d' e => by simp at e, s.hlen, s.hdl, s.hnd, s.fr, s.pre, s.new, s.m0, s.mn⟩
theorem own_bare {S : List D} {a : Addr} : ¬ Own ⟨[], S⟩ [] a := fun ⟨i, d, e, _⟩ => by simp at e
theorem SR.start {vs : List V} {ds S : List D} (s : SR K mg E η M ⟨[], S⟩ [] H) (r : RepL K mg η M vs ds) (n : Nat) : SR K mg E η M ⟨ds.map Sl.fz ++ List.replicate (n - ds.length) .un, S⟩ (vs.map some ++ List.replicate (n - vs.length) none) H := by
  refine ⟨s.sub, by simp [r.length], fun i t e => ?_, fun i j a d d' e => ?_, s.hlen, s.hdl, s.hnd, s.fr, s.pre, s.new, s.m0, s.mn⟩
  · have e : (ds.map Sl.fz ++ List.replicate (n - ds.length) .un)[i]? = some t := e
    by_cases hi : i < ds.length
    · rw [List.getElem?_append_left (by simpa using hi), List.getElem?_map, List.getElem?_eq_getElem hi] at e
      cases e
      obtain ⟨v, e1, r1⟩ := r.getD' (List.getElem?_eq_getElem hi)
      refine ⟨v, ?_, r1⟩
      rw [List.getElem?_append_left (by simpa [r.length] using hi), List.getElem?_map, e1]
      rfl
    · rw [List.getElem?_append_right (by simpa using hi), List.getElem?_replicate] at e
      split at e
      · cases e; trivial
      · cases e
  · have e : (ds.map Sl.fz ++ List.replicate (n - ds.length) .un)[i]? = some (.ow d) := e
    by_cases hi : i < ds.length
    · rw [List.getElem?_append_left (by simpa using hi), List.getElem?_map, List.getElem?_eq_getElem hi] at e
      cases e
    · rw [List.getElem?_append_right (by simpa using hi), List.getElem?_replicate] at e
      split at e <;> cases e
theorem leaveR_ok {v : V} {r r' : Rv} (s : SR K mg E η M c σ H) (h : RvR K mg E η M c σ H v r) (e : leaveR c r = some r') : RvR K mg E η M ⟨[], c.S⟩ [] H v r' := by
  cases r with
  | fz d => cases e; exact h
  | nw d =>
    cases e
    obtain ⟨a, rfl, h1, h2, h3, h4, h5⟩ := h
    exact ⟨a, rfl, h1, h2, h3, own_bare, h5⟩
  | loc i =>
    unfold leaveR at e
    dsimp only at e
    have h : σ[i]? = some (some v) := h
    cases q : c.ρ[i]? with
    | none => rw [q] at e; cases e
    | some sl =>
      rw [q] at e
      cases sl with
      | un => cases e
      | fz d =>
        cases e
        obtain ⟨w, e1, r1⟩ := s.slot i _ q
        rw [h] at e1; cases e1
        exact r1
      | ow d =>
        cases e
        obtain ⟨a, e1, q1, q2, q3, q4⟩ := s.slot i _ q
        rw [h] at e1; cases e1
        exact ⟨a, rfl, q1, q2, q3, own_bare, q4⟩
/-- THE RULE for a def -/
theorem fn_run {x qual : Str} {st : Stmt} {f : Addr} {fd : FuncData} {N ps : List Str} {k : Nat} {mb : Sm} (F : Fun K x qual st f fd) (S : FnScope N ps (defScope st))
    (hb : ∀ (cdv : Value) (A : Around) (outer : List Env) (s : Shared) (H : Hp) (Ex : XK), RmG k (A.deeper (envOfC qual (defScope st) s.heap.objs.size f cdv)) → Bx (cxOf (L2.CX P w) P w K mg base N qual (defScope st) f cdv A outer s H Ex) (defBody st) mb) :
    FnG P w K mg base (L2.CX P w) (k + 1) f fd ps (spF K mg ps.length (runF N.length mb)) := by
  refine fnG_of F S (fun vs H Q Ex h => h.1) (fun cdv A outer s H vs Q Ex hr h => ?_)
  obtain ⟨hl, η, M, ds, St0, s0, r0, h⟩ := h
  refine ⟨Wss _ (defBody st), wss_pss, ?_⟩
  have s1 := SR.start s0 r0 N.length
  refine hb cdv A outer s H Ex hr _ η M _ _ H s1 _ ?_
  unfold runF at h
  cases e : mb ⟨ds.map Sl.fz ++ List.replicate (N.length - ds.length) .un, St0⟩ with
  | stuck => rw [e] at h; exact h.elim
  | err y c1 =>
    rw [e] at h
    exact ⟨_, takes_of rfl rfl rfl rfl, fun cls d σ' η' M' H' s' x' z' => h cls d η' M' H' s'.bare z'⟩
  | ok fl c1 =>
    rw [e] at h
    cases fl with
    | nx => exact fun σ' η' M' H' s' x' => h .non η' M' H' s'.bare Rep.non
    | bk => exact h.elim
    | ct => exact h.elim
    | rt r =>
      refine fun v σ' η' M' H' s' x' z' => ?_
      dsimp only at h
      cases e2 : leaveR c1 r with
      | none => rw [e2] at h; exact h.elim
      | some r' =>
        rw [e2] at h
        exact h v η' M' H' s'.bare (leaveR_ok (c := c1) s' z' e2)
/-- a def that runs as F, as the module's name x -/
structure Fn (P : Program) (w : World) (K : Fg) (mg : Mg) (base : Heap) (x : Str) (k n : Nat) (F : Fm) : Prop where
  ex : ∃ f fd ps, mg x = some (.ref f) ∧ PySem.W.keepIn K (.ref f) = true ∧ Binds K fd ps [] ∧ FnG P w K mg base (L2.CX P w) k f fd ps (spF K mg n F)
/-- behind a call -/
theorem SR.called {S' : List D} (s : SR K mg E η M c σ H) (t : SR K mg ⟨H, η, M⟩ η' M' ⟨[], S'⟩ [] H') : SR K mg E η' M' ⟨c.ρ, S'⟩ σ H' := by
  have x := t.ext
  have x : Ext η M η' M' := x
  have ek : ∀ {a o}, E.H a = some o → a ∉ E.η → H a = some o ∧ a ∉ η := fun {a o} e n => by
    refine ⟨s.fr a o e n, fun z => ?_⟩
    rcases s.new a z with q | q
    · exact n q
    · rw [q] at e; cases e
  obtain ⟨r, er⟩ := s.pre
  obtain ⟨r', er'⟩ := t.pre
  refine ⟨t.sub, s.len, fun i sl e => ?_, s.inj, t.hlen, t.hdl, t.hnd, fun a o e n => ?_, ⟨r ++ r', by rw [er']; show η ++ r' = _; rw [er, List.append_assoc]⟩, fun a h => ?_, s.m0.trans t.m0, fun a h1 h2 => ?_⟩
  · have q := s.slot i sl e
    cases sl with
    | un => trivial
    | fz d => obtain ⟨v, e1, r1⟩ := q; exact ⟨v, e1, r1.mono x⟩
    | ow d =>
      obtain ⟨a, e1, q1, q2, q3, q4⟩ := q
      obtain ⟨o, ho⟩ := q4.ex
      refine ⟨a, e1, t.mn a q1 (by show H a ≠ none; rw [ho]; simp), q2, fun z => ?_, q4.mono x fun u hu => t.fr a u hu q3⟩
      rcases t.new a z with z | z
      · exact q3 z
      · have z : H a = none := z
        rw [ho] at z; cases z
  · obtain ⟨k1, k2⟩ := ek e n
    exact t.fr a o k1 k2
  · rcases t.new a h with q | q
    · exact s.new a q
    · have q : H a = none := q
      exact .inr (s.free q).2.1
  · refine t.mn a (s.mn a h1 h2) ?_
    show H a ≠ none
    by_cases hb : a ∈ E.η
    · obtain ⟨_, u, eu⟩ := s.hsome (s.ext.mem hb)
      rw [eu]; simp
    · cases qe : E.H a with
      | none => exact absurd qe h2
      | some o => rw [(ek qe hb).1]; simp
theorem RvR.called {S' : List D} {v : V} {r : Rv} (s : SR K mg E η M c σ H) (t : SR K mg ⟨H, η, M⟩ η' M' ⟨[], S'⟩ [] H') (h : RvR K mg ⟨H, η, M⟩ η' M' ⟨[], S'⟩ [] H' v r) : RvR K mg E η' M' ⟨c.ρ, S'⟩ σ H' v r := by
  cases r with
  | fz d => exact h
  | loc i => have h : ([] : St)[i]? = some (some v) := h; simp at h
  | nw d =>
    obtain ⟨a, rfl, h1, h2, h3, h4, h5⟩ := h
    have h2 : H a = none := h2
    obtain ⟨k1, k2, k3, k4⟩ := s.free h2
    exact ⟨a, rfl, h1, k2, h3, k4, h5⟩
end
def mCall (n : Nat) (F : Fm) (ms : Cf → Res (List Rv)) : Em := fun c => (ms c).bind fun rs c1 => match vals c1 rs with
  | some (ds, c2) => if ds.length = n then (match F ds c2.S with
    | .ok r c3 => .ok r ⟨c2.ρ, c3.S⟩
    | .err x c3 => .err x ⟨c2.ρ, c3.S⟩
    | .stuck => .stuck) else .stuck
  | none => .stuck
section
variable {X : Cx} {E : En} {η η' : List Addr} {M M' H H' : Hp} {c c' : Cf} {σ σ' : St} {e : Expr} {es : List Expr} {p pos : Pos} {x : Str}
/-- the call itself -/
theorem out_fn {n : Nat} {F : Fm} {vs : List V} {ds : List D} {tw : VK → Prop} (s : SR X.K X.mg E η M c σ H) (r : RepL X.K X.mg η M vs ds) (hl : vs.length = n)
    (i1 : ∀ Q, spF X.K X.mg n F vs H Q E0 → tw Q) (i2 : ∀ (W : WX) Q, Takes X W → spF X.K X.mg n F vs H Q (fun cls d H' => W cls d σ H') → tw Q) :
    Out X (RV X.K X.mg) tw E η M σ (match F ds c.S with | .ok r c3 => .ok r ⟨c.ρ, c3.S⟩ | .err x c3 => .err x ⟨c.ρ, c3.S⟩ | .stuck => .stuck) := by
  have s0 : SR X.K X.mg ⟨H, η, M⟩ η M ⟨[], c.S⟩ [] H :=
    ⟨s.sub, rfl, fun i t e => by simp at e, fun i j a d d' e => by simp at e, s.hlen, s.hdl, s.hnd, fun a o e _ => e, ⟨[], by simp⟩, fun a h => .inl h, Same.refl M, fun a h _ => h⟩
  cases e1 : F ds c.S with
  | stuck => trivial
  | ok r c3 =>
    refine fun Q hQ => i1 Q ⟨hl, η, M, ds, c.S, s0, by assumption, ?_⟩
    rw [e1]
    exact fun v η' M' H' t z => hQ v η' M' H' (s.called t) (show Ext η M η' M' from t.ext) (z.called s t)
  | err y c3 =>
    refine fun W Q tk hQ => i2 W Q tk ⟨hl, η, M, ds, c.S, s0, by assumption, ?_⟩
    rw [e1]
    exact fun cls d η' M' H' t z => hQ cls d η' M' H' (s.called t) (show Ext η M η' M' from t.ext) z
theorem ex_call {k n : Nat} {F : Fm} {ms : Cf → Res (List Rv)} (h : Fn X.prog X.w X.K X.mg X.base x k n F) (hr : RmG k X.A) (ha : Ax X (e :: es) ms) (hg : Gl X x := by rfl) (hdb : (x == ("__debug__" : Str)) = false := by decide)
    (he : starEach (e :: es) X.env = (false, eval e X.env) :: starEach es X.env := by rfl) (hpl : (backTo pos (starEach es X.env)).any (·.1) = false := by rfl) : Ex X (.Call (.Name x p) (e :: es) [] pos) (mCall n F ms) := by
  obtain ⟨f, fd, ps, hm, hk, hb, hF⟩ := h
  refine ⟨fun E η M c σ H s => ?_⟩
  refine Out.bind (R := RVs X.K X.mg) (fun vs H1 Q => spF X.K X.mg n F vs H1 Q E0 ∨ ∃ W, Takes X W ∧ spF X.K X.mg n F vs H1 Q (fun cls d H' => W cls d σ H')) (ha E η M c σ H s) (fun Q hq => ?_) fun rs c1 vs η1 M1 H1 s1 x1 z1 => ?_
  · intro pins st I
    refine wpAny_Call_Name_kw (ld_glob I hg hm ?_ hdb)
    refine PySem.W.callWith_K (h₀ := X.base) I.ok.mod.kin hk (thn (hq pos pins st I) fun us s1 ⟨vs, H1, I1, r, q⟩ => ⟨I1.kIn, ?_⟩) he hpl
    rcases q with q | ⟨W, tk, q⟩
    · exact runG (dvs := []) hF hr hb .nil (fun pins => passL pins σ) I1 r (by rw [List.append_nil]; exact q)
    · exact runG (dvs := []) hF hr hb .nil (passAt tk σ) I1 r (by rw [List.append_nil]; exact q)
  · cases e1 : vals c1 rs with
    | none => trivial
    | some q =>
      obtain ⟨ds, c2⟩ := q
      dsimp only
      by_cases hl : ds.length = n
      · rw [if_pos hl]
        obtain ⟨M2, s2, x2, r2⟩ := vals_ok s1 z1.1 z1.2 e1
        exact out_ext x2 (out_fn s2 r2 (by rw [r2.length]; exact hl) (fun Q hq => .inl hq) fun W Q tk hq => .inr ⟨W, tk, hq⟩)
      · rw [if_neg hl]; trivial
end
end LH
/-! LHOps: operators, subscripts, built-in calls and methods, on trees. -/
namespace LH
open PySem PySem.Spec PyProof.Rows L2

section
variable {X : Cx} {E : En} {η η' : List Addr} {M M' H H' : Hp} {c c' : Cf} {σ σ' : St} {v : V} {d : D} {Q : VK}
/-- posts -/
def Pst (X : Cx) (E : En) (η : List Addr) (M : Hp) (c : Cf) (σ : St) (r : Rv) (Q : VK) : Prop := ∀ v η' M' H', SR X.K X.mg E η' M' c σ H' → Ext η M η' M' → RvR X.K X.mg E η' M' c σ H' v r → Q v H'
theorem pst_fz (s : SR X.K X.mg E η M c σ H) (h : Pst X E η M c σ (.fz d) Q) (r : Rep X.K X.mg η M v d) : Q v H := h v η M H s .refl r
theorem pst_nw (s : SR X.K X.mg E η M c σ H) (h : Pst X E η M c σ (.nw d) Q) {o : HO} (r : ∀ p, H p = none → At X.K X.mg η M (upd H p o) p d) : ∀ p, H p = none → Q (.ref p) (upd H p o) := fun p hp => by
  obtain ⟨f1, f2, f3, f4⟩ := s.free hp
  exact h _ η M _ (s.alloc hp) .refl ⟨p, rfl, f1, f2, f3, f4, r p hp⟩
end

/-! ### comparing data -/
mutual
def toPy : D → Option PyData
  | .non => some .none
  | .bl b => some (.bool b)
  | .int i => some (.int i)
  | .str x => some (.str x)
  | .lst xs => (toPyL xs).map .list
  | .tup xs => (toPyL xs).map .tuple
  | _ => none
def toPyL : List D → Option (List PyData)
  | [] => some []
  | x :: xs => match toPy x, toPyL xs with
    | some d, some ds => some (d :: ds)
    | _, _ => none
end
mutual
theorem rep_dp {K : Fg} {mg : Mg} {η : List Addr} {M H : Hp} (hs : Same M H) : ∀ {d : D} {v : V} {p : PyData}, Rep K mg η M v d → toPy d = some p → Dp K H v p
  | .non, _, _, .non, e => by cases e; exact .non
  | .bl b, _, _, .bl _, e => by cases e; exact .bl b
  | .int i, _, _, .int _, e => by cases e; exact .int i
  | .str x, _, _, .str _, e => by cases e; exact .str x
  | .lst ds, _, _, .lst h hs', e => by
    unfold toPy at e
    cases q : toPyL ds with
    | none => rw [q] at e; cases e
    | some ps => rw [q] at e; cases e; exact .lst (.of (hs _ _ h)) (repL_dp hs hs' q)
  | .tup ds, _, _, .tup h hs', e => by
    unfold toPy at e
    cases q : toPyL ds with
    | none => rw [q] at e; cases e
    | some ps => rw [q] at e; cases e; exact .tup (.of (hs _ _ h)) (repL_dp hs hs' q)
  | .ro _, _, _, .ro _ _, e => by cases e
  | .dct _, _, _, .dct _ _ _, e => by cases e
  | .dcT _, _, _, .dcT _ _ _, e => by cases e
  | .obj _ _, _, _, .obj _ _ _ _, e => by cases e
  | .hdl _, _, _, .hdl _, e => by cases e
  | .exc _ _, _, _, .exc _ _ _ _ _, e => by cases e
  | .fn _, _, _, .fn _, e => by cases e
theorem repL_dp {K : Fg} {mg : Mg} {η : List Addr} {M H : Hp} (hs : Same M H) : ∀ {ds : List D} {vs : List V} {ps : List PyData}, RepL K mg η M vs ds → toPyL ds = some ps → DpAll K H vs ps
  | [], _, _, .nil, e => by cases e; exact .nil
  | d :: ds, _, _, .cons h hs', e => by
    unfold toPyL at e
    cases q1 : toPy d with
    | none => rw [q1] at e; cases e
    | some p =>
      cases q2 : toPyL ds with
      | none => rw [q1, q2] at e; cases e
      | some ps => rw [q1, q2] at e; cases e; exact .cons (rep_dp hs h q1) (repL_dp hs hs' q2)
end
theorem vw_dp {K : Fg} {mg : Mg} {η : List Addr} {M H : Hp} (hs : Same M H) {d : D} {v : V} {p : PyData} (h : VwR K mg η M H v d) (e : toPy d = some p) : Dp K H v p := by
  rcases h with h | ⟨a, rfl, h⟩
  · exact rep_dp hs h e
  · cases d with
    | lst ds =>
      obtain ⟨xs, hx, r⟩ := h
      unfold toPy at e
      cases q : toPyL ds with
      | none => rw [q] at e; cases e
      | some ps => rw [q] at e; cases e; exact .lst (.of hx) (repL_dp hs r q)
    | ro _ => cases e
    | dct _ => cases e
    | dcT _ => cases e
    | obj _ _ => cases e
    | _ => exact h.elim
/-! Python's == of such data -/
mutual
def eqD : D → D → Bool
  | .non, .non => true
  | .bl a, .bl b => a == b
  | .bl a, .int j => (if a then 1 else 0) == j
  | .int i, .bl b => i == (if b then 1 else 0)
  | .int i, .int j => i == j
  | .str x, .str y => x == y
  | .lst xs, .lst ys => eqL xs ys
  | .tup xs, .tup ys => eqL xs ys
  | _, _ => false
def eqL : List D → List D → Bool
  | [], [] => true
  | x :: xs, y :: ys => eqD x y && eqL xs ys
  | _, _ => false
end
/-! plain data, and how deep -/
mutual
def pln : D → Bool
  | .non => true
  | .bl _ => true
  | .int _ => true
  | .str x => PyData.strOk x
  | .lst xs => plnL xs
  | .tup xs => plnL xs
  | _ => false
def plnL : List D → Bool
  | [] => true
  | x :: xs => pln x && plnL xs
end
mutual
def dep : D → Nat
  | .lst xs => depL xs + 1
  | .tup xs => depL xs + 1
  | _ => 0
def depL : List D → Nat
  | [] => 0
  | x :: xs => max (dep x) (depL xs)
end
mutual
theorem pln_py : ∀ {d : D}, pln d = true → ∃ p, toPy d = some p ∧ p.canLay0 = true ∧ p.depth = dep d
  | .non, _ => ⟨.none, rfl, rfl, rfl⟩
  | .bl b, _ => ⟨.bool b, rfl, rfl, rfl⟩
  | .int i, _ => ⟨.int i, rfl, rfl, rfl⟩
  | .str x, h => ⟨.str x, rfl, (show PyData.strOk x = true from h), rfl⟩
  | .lst xs, h => by
    obtain ⟨ps, h1, h2, h3⟩ := plnL_py (ds := xs) h
    exact ⟨.list ps, by unfold toPy; rw [h1]; rfl, h2, by unfold PyData.depth dep; rw [h3]⟩
  | .tup xs, h => by
    obtain ⟨ps, h1, h2, h3⟩ := plnL_py (ds := xs) h
    exact ⟨.tuple ps, by unfold toPy; rw [h1]; rfl, h2, by unfold PyData.depth dep; rw [h3]⟩
  | .ro _, h => by cases h
  | .dct _, h => by cases h
  | .dcT _, h => by cases h
  | .obj _ _, h => by cases h
  | .hdl _, h => by cases h
  | .exc _ _, h => by cases h
  | .fn _, h => by cases h
theorem plnL_py : ∀ {ds : List D}, plnL ds = true → ∃ ps, toPyL ds = some ps ∧ PyData.canLayAll0 ps = true ∧ PyData.depthAll ps = depL ds
  | [], _ => ⟨[], rfl, rfl, rfl⟩
  | d :: ds, h => by
    unfold plnL at h
    rw [Bool.and_eq_true] at h
    obtain ⟨p, h1, h2, h3⟩ := pln_py h.1
    obtain ⟨ps, h4, h5, h6⟩ := plnL_py h.2
    exact ⟨p :: ps, by unfold toPyL; rw [h1, h4], by unfold PyData.canLayAll0; rw [h2, h5]; rfl, by unfold PyData.depthAll depL; rw [h3, h6]⟩
end
mutual
theorem eqD_py : ∀ {d e : D} {p q : PyData}, toPy d = some p → toPy e = some q → PyData.eqv p q = eqD d e := by
  intro d e p q h1 h2
  cases d with
  | lst xs =>
    unfold toPy at h1
    cases q1 : toPyL xs with
    | none => rw [q1] at h1; cases h1
    | some ps =>
      rw [q1] at h1; cases h1
      cases e with
      | lst ys =>
        unfold toPy at h2
        cases q2 : toPyL ys with
        | none => rw [q2] at h2; cases h2
        | some qs =>
          rw [q2] at h2; cases h2
          show PyData.eqvAll ps qs = eqL xs ys
          exact eqL_py q1 q2
      | tup ys =>
        unfold toPy at h2
        cases q2 : toPyL ys with
        | none => rw [q2] at h2; cases h2
        | some qs => rw [q2] at h2; cases h2; rfl
      | non => cases h2; rfl
      | bl b => cases h2; rfl
      | int b => cases h2; rfl
      | str b => cases h2; rfl
      | _ => cases h2
  | tup xs =>
    unfold toPy at h1
    cases q1 : toPyL xs with
    | none => rw [q1] at h1; cases h1
    | some ps =>
      rw [q1] at h1; cases h1
      cases e with
      | tup ys =>
        unfold toPy at h2
        cases q2 : toPyL ys with
        | none => rw [q2] at h2; cases h2
        | some qs =>
          rw [q2] at h2; cases h2
          show PyData.eqvAll ps qs = eqL xs ys
          exact eqL_py q1 q2
      | lst ys =>
        unfold toPy at h2
        cases q2 : toPyL ys with
        | none => rw [q2] at h2; cases h2
        | some qs => rw [q2] at h2; cases h2; rfl
      | non => cases h2; rfl
      | bl b => cases h2; rfl
      | int b => cases h2; rfl
      | str b => cases h2; rfl
      | _ => cases h2
  | non =>
    cases h1
    cases e with
    | lst ys =>
      unfold toPy at h2
      cases q2 : toPyL ys with
      | none => rw [q2] at h2; cases h2
      | some qs => rw [q2] at h2; cases h2; rfl
    | tup ys =>
      unfold toPy at h2
      cases q2 : toPyL ys with
      | none => rw [q2] at h2; cases h2
      | some qs => rw [q2] at h2; cases h2; rfl
    | non => cases h2; rfl
    | bl b => cases h2; rfl
    | int b => cases h2; rfl
    | str b => cases h2; rfl
    | _ => cases h2
  | bl a =>
    cases h1
    cases e with
    | lst ys =>
      unfold toPy at h2
      cases q2 : toPyL ys with
      | none => rw [q2] at h2; cases h2
      | some qs => rw [q2] at h2; cases h2; rfl
    | tup ys =>
      unfold toPy at h2
      cases q2 : toPyL ys with
      | none => rw [q2] at h2; cases h2
      | some qs => rw [q2] at h2; cases h2; rfl
    | non => cases h2; rfl
    | bl b => cases h2; rfl
    | int b => cases h2; rfl
    | str b => cases h2; rfl
    | _ => cases h2
  | int a =>
    cases h1
    cases e with
    | lst ys =>
      unfold toPy at h2
      cases q2 : toPyL ys with
      | none => rw [q2] at h2; cases h2
      | some qs => rw [q2] at h2; cases h2; rfl
    | tup ys =>
      unfold toPy at h2
      cases q2 : toPyL ys with
      | none => rw [q2] at h2; cases h2
      | some qs => rw [q2] at h2; cases h2; rfl
    | non => cases h2; rfl
    | bl b => cases h2; rfl
    | int b => cases h2; rfl
    | str b => cases h2; rfl
    | _ => cases h2
  | str a =>
    cases h1
    cases e with
    | lst ys =>
      unfold toPy at h2
      cases q2 : toPyL ys with
      | none => rw [q2] at h2; cases h2
      | some qs => rw [q2] at h2; cases h2; rfl
    | tup ys =>
      unfold toPy at h2
      cases q2 : toPyL ys with
      | none => rw [q2] at h2; cases h2
      | some qs => rw [q2] at h2; cases h2; rfl
    | non => cases h2; rfl
    | bl b => cases h2; rfl
    | int b => cases h2; rfl
    | str b => cases h2; rfl
    | _ => cases h2
  | _ => cases h1
theorem eqL_py : ∀ {ds es : List D} {ps qs : List PyData}, toPyL ds = some ps → toPyL es = some qs → PyData.eqvAll ps qs = eqL ds es := by
  intro ds es ps qs h1 h2
  cases ds with
  | nil =>
    cases h1
    cases es with
    | nil => cases h2; rfl
    | cons e es =>
      unfold toPyL at h2
      cases q1 : toPy e with
      | none => rw [q1] at h2; cases h2
      | some p =>
        cases q2 : toPyL es with
        | none => rw [q1, q2] at h2; cases h2
        | some qs' => rw [q1, q2] at h2; cases h2; rfl
  | cons d ds =>
    unfold toPyL at h1
    cases q1 : toPy d with
    | none => rw [q1] at h1; cases h1
    | some p =>
      cases q2 : toPyL ds with
      | none => rw [q1, q2] at h1; cases h1
      | some ps' =>
        rw [q1, q2] at h1; cases h1
        cases es with
        | nil => cases h2; rfl
        | cons e es =>
          unfold toPyL at h2
          cases q3 : toPy e with
          | none => rw [q3] at h2; cases h2
          | some p' =>
            cases q4 : toPyL es with
            | none => rw [q3, q4] at h2; cases h2
            | some qs' =>
              rw [q3, q4] at h2; cases h2
              show (PyData.eqv p p' && PyData.eqvAll ps' qs') = (eqD d e && eqL ds es)
              rw [eqD_py q1 q3, eqL_py q2 q4]
end
/-- data that == compares here -/
def okq (d : D) : Bool := pln d && decide (dep d ≤ 64)
theorem okq_py {d : D} (h : okq d = true) : ∃ p, toPy d = some p ∧ SeqAt.shaped p = true := by
  unfold okq at h
  rw [Bool.and_eq_true] at h
  obtain ⟨p, h1, h2, h3⟩ := pln_py h.1
  refine ⟨p, h1, ?_⟩
  unfold SeqAt.shaped
  rw [h2, h3, h.2]
  rfl
def gEq (a b : D) : Option Rv := if okq a && okq b then some (.fz (.bl (eqD a b))) else match a, b with
  | .str x, .str y => some (.fz (.bl (x == y)))
  | _, _ => none
def gNe (a b : D) : Option Rv := if okq a && okq b then some (.fz (.bl (!eqD a b))) else match a, b with
  | .str x, .str y => some (.fz (.bl (!(x == y))))
  | _, _ => none
section
variable {X : Cx}
theorem o_eq (hu : X.A.units + 64 < cLine) : Op2 X (Wo X (compareOp .Eq)) gEq := by
  intro E η M c σ H x y dx dy r s h1 h2 e Q hQ
  unfold gEq at e
  split at e
  · rename_i hq
    cases e
    rw [Bool.and_eq_true] at hq
    obtain ⟨p, p1, p2⟩ := okq_py hq.1
    obtain ⟨q, q1, q2⟩ := okq_py hq.2
    exact op_wo (op_eqD hu) ⟨p, q, vw_dp s.sub h1 p1, vw_dp s.sub h2 q1, p2, q2, by rw [eqD_py p1 q1]; exact pst_fz s hQ (.bl _)⟩
  · split at e
    · cases e
      rw [h1.str, h2.str]
      exact op_wo op_eq ⟨rfl, by rw [dec_str]; exact pst_fz s hQ (.bl _)⟩
    · cases e
theorem o_ne (hu : X.A.units + 64 < cLine) : Op2 X (Wo X (compareOp .NotEq)) gNe := by
  intro E η M c σ H x y dx dy r s h1 h2 e Q hQ
  unfold gNe at e
  split at e
  · rename_i hq
    cases e
    rw [Bool.and_eq_true] at hq
    obtain ⟨p, p1, p2⟩ := okq_py hq.1
    obtain ⟨q, q1, q2⟩ := okq_py hq.2
    exact op_wo (op_neD hu) ⟨p, q, vw_dp s.sub h1 p1, vw_dp s.sub h2 q1, p2, q2, by rw [eqD_py p1 q1]; exact pst_fz s hQ (.bl _)⟩
  · split at e
    · cases e
      rw [h1.str, h2.str]
      exact op_wo op_ne ⟨rfl, by rw [dec_str]; exact pst_fz s hQ (.bl _)⟩
    · cases e
/-- x in a list or a tuple of data, a sign in a text, a key in a dict -/
def gIn (neg : Bool) (a b : D) : Option Rv := match b with
  | .tup ys => if okq a && okq b then some (.fz (.bl ((ys.any fun z => eqD z a) != neg))) else none
  | .lst ys => if okq a && okq b then some (.fz (.bl ((ys.any fun z => eqD z a) != neg))) else none
  | .str z => match a with
    | .str x => if x.cps.size = 1 then some (.fz (.bl ((decide (x.cps.toList.getD 0 0 ∈ z.cps.toList)) != neg))) else none
    | _ => none
  | _ => none
theorem eqv_any : ∀ {ys : List D} {ps : List PyData} {a : D} {p : PyData}, toPyL ys = some ps → toPy a = some p → (ps.any fun z => PyData.eqv z p) = (ys.any fun z => eqD z a)
  | [], _, _, _, h1, _ => by cases h1; rfl
  | y :: ys, ps, a, p, h1, h2 => by
    unfold toPyL at h1
    cases q1 : toPy y with
    | none => rw [q1] at h1; cases h1
    | some p1 =>
      cases q2 : toPyL ys with
      | none => rw [q1, q2] at h1; cases h1
      | some ps' =>
        rw [q1, q2] at h1; cases h1
        simp only [List.any_cons]
        rw [eqD_py q1 h2, eqv_any q2 h2]
theorem str_one {x : Str} (h : x.cps.size = 1) : x = ⟨#[x.cps.toList.getD 0 0]⟩ := by
  obtain ⟨⟨l⟩⟩ := x
  match l, h with
  | [a], _ => rfl
theorem in_tuple_reads {prog : Program} {w : World} {A : Around} {E : Value → Shared → Prop} {s : Shared} {c x : Value} {xs : List PyData} {d : PyData} {as bs : List Addr} {Q : Value → Shared → Prop} (rc : Reads s.heap c (.tuple xs) as) (rx : Reads s.heap x d bs) (hxs : PyData.canLayAll0 xs = true) (hd : d.canLay0 = true)
    (hu : A.units + 1 + min (PyData.depthAll xs) d.depth < cLine) (h : Q (.bool (xs.any fun y => PyData.eqv y d)) s) : wpAny (model prog w) A (compareOp .In x c) Q E s := by
  cases rc with
  | tuple h1 h2 h3 h4 => exact SeqAt.in_tupleAt _ ⟨_, h1, h2, _, h3⟩ (SeqAt.items_eqAt h4 rx hxs hd hu) (by rw [SeqAt.any_by_data h4 hxs]; exact h)
theorem notIn_tuple_reads {prog : Program} {w : World} {A : Around} {E : Value → Shared → Prop} {s : Shared} {c x : Value} {xs : List PyData} {d : PyData} {as bs : List Addr} {Q : Value → Shared → Prop} (rc : Reads s.heap c (.tuple xs) as) (rx : Reads s.heap x d bs) (hxs : PyData.canLayAll0 xs = true) (hd : d.canLay0 = true)
    (hu : A.units + 1 + min (PyData.depthAll xs) d.depth < cLine) (h : Q (.bool (!xs.any fun y => PyData.eqv y d)) s) : wpAny (model prog w) A (compareOp .NotIn x c) Q E s := by
  cases rc with
  | tuple h1 h2 h3 h4 => exact SeqAt.notIn_tupleAt _ ⟨_, h1, h2, _, h3⟩ (SeqAt.items_eqAt h4 rx hxs hd hu) (by rw [SeqAt.any_by_data h4 hxs]; exact h)
def rInT (K : PySem.W.Frag) (neg : Bool) : R2 := fun x y H Q => ∃ d ds, Dp K H x d ∧ Dp K H y (.tuple ds) ∧ SeqAt.shaped d = true ∧ SeqAt.shaped (.tuple ds) = true ∧ Q (.bl ((ds.any fun z => PyData.eqv z d) != neg)) H
theorem op_inT (hu : X.A.units + 65 < cLine) : OpR X (compareOp .In) (rInT X.K false) := by
  intro pins s σ H x y v u Q I rx ry h
  obtain ⟨d, ds, hd, he, sd, se, q⟩ := h
  obtain ⟨as, r1⟩ := Dp.reads I d x v hd rx
  obtain ⟨bs, r2⟩ := Dp.reads I (.tuple ds) y u he ry
  exact in_tuple_reads r2 r1 (SeqAt.canLay_of_shaped se) (SeqAt.canLay_of_shaped sd) (room_in_shaped sd hu) ⟨.bl _, H, I, rfl, by simpa using q⟩
theorem op_notInT (hu : X.A.units + 65 < cLine) : OpR X (compareOp .NotIn) (rInT X.K true) := by
  intro pins s σ H x y v u Q I rx ry h
  obtain ⟨d, ds, hd, he, sd, se, q⟩ := h
  obtain ⟨as, r1⟩ := Dp.reads I d x v hd rx
  obtain ⟨bs, r2⟩ := Dp.reads I (.tuple ds) y u he ry
  exact notIn_tuple_reads r2 r1 (SeqAt.canLay_of_shaped se) (SeqAt.canLay_of_shaped sd) (room_in_shaped sd hu) ⟨.bl _, H, I, rfl, by simpa using q⟩
theorem o_in (hu : X.A.units + 65 < cLine) : Op2 X (Wo X (compareOp .In)) (gIn false) := by
  intro E η M c σ H x y dx dy r s h1 h2 e Q hQ
  unfold gIn at e
  cases dy with
  | tup ys =>
    dsimp only at e
    split at e
    · rename_i hq
      cases e
      rw [Bool.and_eq_true] at hq
      obtain ⟨p, p1, p2⟩ := okq_py hq.1
      obtain ⟨q, q1, q2⟩ := okq_py hq.2
      have q1' := q1
      unfold toPy at q1'
      cases q3 : toPyL ys with
      | none => rw [q3] at q1'; cases q1'
      | some ps =>
        rw [q3] at q1'; cases q1'
        exact op_wo (op_inT hu) ⟨p, ps, vw_dp s.sub h1 p1, vw_dp s.sub h2 q1, p2, q2, by rw [eqv_any q3 p1]; exact pst_fz s hQ (.bl _)⟩
    · cases e
  | lst ys =>
    dsimp only at e
    split at e
    · rename_i hq
      cases e
      rw [Bool.and_eq_true] at hq
      obtain ⟨p, p1, p2⟩ := okq_py hq.1
      obtain ⟨q, q1, q2⟩ := okq_py hq.2
      have q1' := q1
      unfold toPy at q1'
      cases q3 : toPyL ys with
      | none => rw [q3] at q1'; cases q1'
      | some ps =>
        rw [q3] at q1'; cases q1'
        exact op_wo (op_inD hu) ⟨p, ps, vw_dp s.sub h1 p1, vw_dp s.sub h2 q1, p2, q2, by rw [eqv_any q3 p1]; exact pst_fz s hQ (by simpa using Rep.bl _)⟩
    · cases e
  | str z =>
    cases dx with
    | str x' =>
      dsimp only at e
      split at e
      · rename_i hl
        cases e
        have e1 := h1.str
        rw [str_one hl] at e1
        exact op_wo op_in_sign ⟨_, z, e1, h2.str, pst_fz s hQ (by simpa using Rep.bl _)⟩
      · cases e
    | _ => cases e
  | _ => cases e
theorem o_notin (hu : X.A.units + 65 < cLine) : Op2 X (Wo X (compareOp .NotIn)) (gIn true) := by
  intro E η M c σ H x y dx dy r s h1 h2 e Q hQ
  unfold gIn at e
  cases dy with
  | tup ys =>
    dsimp only at e
    split at e
    · rename_i hq
      cases e
      rw [Bool.and_eq_true] at hq
      obtain ⟨p, p1, p2⟩ := okq_py hq.1
      obtain ⟨q, q1, q2⟩ := okq_py hq.2
      have q1' := q1
      unfold toPy at q1'
      cases q3 : toPyL ys with
      | none => rw [q3] at q1'; cases q1'
      | some ps =>
        rw [q3] at q1'; cases q1'
        exact op_wo (op_notInT hu) ⟨p, ps, vw_dp s.sub h1 p1, vw_dp s.sub h2 q1, p2, q2, by rw [eqv_any q3 p1]; exact pst_fz s hQ (.bl _)⟩
    · cases e
  | lst ys =>
    dsimp only at e
    split at e
    · rename_i hq
      cases e
      rw [Bool.and_eq_true] at hq
      obtain ⟨p, p1, p2⟩ := okq_py hq.1
      obtain ⟨q, q1, q2⟩ := okq_py hq.2
      have q1' := q1
      unfold toPy at q1'
      cases q3 : toPyL ys with
      | none => rw [q3] at q1'; cases q1'
      | some ps =>
        rw [q3] at q1'; cases q1'
        exact op_wo (op_notInD hu) ⟨p, ps, vw_dp s.sub h1 p1, vw_dp s.sub h2 q1, p2, q2, by rw [eqv_any q3 p1]; exact pst_fz s hQ (by simpa using Rep.bl _)⟩
    · cases e
  | str z =>
    cases dx with
    | str x' =>
      dsimp only at e
      split at e
      · rename_i hl
        cases e
        have e1 := h1.str
        rw [str_one hl] at e1
        exact op_wo op_notIn_sign ⟨_, z, e1, h2.str, pst_fz s hQ (by simpa using Rep.bl _)⟩
      · cases e
    | _ => cases e
  | _ => cases e

/-! ### numbers -/
def gCmpI (p : Int → Int → Bool) (a b : D) : Option Rv := match a, b with
  | .int i, .int j => some (.fz (.bl (p i j)))
  | _, _ => none
theorem o_cmpI {f : Value → Value → Sem Value} {p : Int → Int → Bool} (h : OpR X f (rI0 fun i j => .bl (p i j))) : Op2 X (Wo X f) (gCmpI p) := by
  intro E η M c σ H x y dx dy r s h1 h2 e Q hQ
  unfold gCmpI at e
  split at e
  · cases e
    exact op_wo h ⟨_, _, h1.int, h2.int, pst_fz s hQ (.bl _)⟩
  · cases e
theorem o_lt : Op2 X (Wo X (compareOp .Lt)) (gCmpI fun i j => decide (i < j)) := o_cmpI op_lt
theorem o_le : Op2 X (Wo X (compareOp .LtE)) (gCmpI fun i j => decide (i ≤ j)) := o_cmpI op_le
theorem o_gt : Op2 X (Wo X (compareOp .Gt)) (gCmpI fun i j => decide (j < i)) := o_cmpI op_gt
theorem o_ge : Op2 X (Wo X (compareOp .GtE)) (gCmpI fun i j => decide (j ≤ i)) := o_cmpI op_ge
/-- a + b -/
def gAdd (a b : D) : Option Rv := match a, b with
  | .int i, .int j => some (.fz (.int (i + j)))
  | .str x, .str y => if x.length + y.length ≤ sizeLine then some (.fz (.str (x ++ y))) else none
  | .lst xs, .lst ys => if xs.length + ys.length ≤ sizeLine then some (.nw (.lst (xs ++ ys))) else none
  | .tup xs, .tup ys => if xs.length + ys.length ≤ sizeLine then some (.fz (.tup (xs ++ ys))) else none
  | _, _ => none
theorem o_add : Op2 X (Wo X (binaryOp .Add)) gAdd := by
  intro E η M c σ H x y dx dy r s h1 h2 e Q hQ
  unfold gAdd at e
  split at e
  · cases e
    exact op_wo op_add ⟨_, _, h1.int, h2.int, pst_fz s hQ (.int _)⟩
  · split at e
    · cases e
      exact op_wo op_add_str ⟨_, _, h1.str, h2.str, by assumption, pst_fz s hQ (.str _)⟩
    · cases e
  · split at e
    · cases e
      obtain ⟨a, xs, rfl, q1, r1⟩ := h1.lst s.sub
      obtain ⟨b, ys, rfl, q2, r2⟩ := h2.lst s.sub
      exact op_wo op_cat ⟨a, b, xs, ys, rfl, rfl, q1, q2, by rw [r1.length, r2.length]; assumption, pst_nw s hQ fun p hp => ⟨_, upd_same, r1.append r2⟩⟩
    · cases e
  · split at e
    · cases e
      obtain ⟨a, xs, rfl, q1, r1⟩ := h1.tup s.sub
      obtain ⟨b, ys, rfl, q2, r2⟩ := h2.tup s.sub
      refine op_wo op_catA ⟨a, b, xs, ys, rfl, rfl, .of q1, .of q2, by rw [r1.length, r2.length]; assumption, fun hx => ?_, fun hx hy => ?_, fun hx hy p hp => ?_⟩
      · subst hx
        cases r1
        exact pst_fz s hQ h2.rtup
      · subst hy
        cases r2
        rw [List.append_nil] at hQ
        exact pst_fz s hQ h1.rtup
      · obtain ⟨f1, f2, f3, f4⟩ := s.free hp
        obtain ⟨s3, x3⟩ := (s.alloc (o := .tup (xs ++ ys)) hp).freeze f1 f2 f3 f4 upd_same
        exact hQ _ η _ _ s3 x3 (.tup upd_same ((r1.append r2).mono x3))
    · cases e
  · cases e
end
end LH
/-! LHOps2: more operators, subscripts, slices, built-in calls, methods of lists and dicts, on trees. -/
namespace LH
open PySem PySem.Spec PyProof.Rows L2
theorem RepL.rep {K : Fg} {mg : Mg} {η : List Addr} {M : Hp} {vs : List V} {ds : List D} (h : RepL K mg η M vs ds) : ∀ k : Nat, RepL K mg η M (List.replicate k vs).flatten (List.replicate k ds).flatten
  | 0 => by simpa using RepL.nil
  | k + 1 => by
    simp only [List.replicate_succ, List.flatten_cons]
    exact h.append (RepL.rep h k)
section
variable {X : Cx}

/-! ### numbers -/
def gSub (a b : D) : Option Rv := match a, b with
  | .int i, .int j => some (.fz (.int (i - j)))
  | _, _ => none
theorem o_sub : Op2 X (Wo X (binaryOp .Sub)) gSub := by
  intro E η M c σ H x y dx dy r s h1 h2 e Q hQ
  unfold gSub at e
  split at e
  · cases e; exact op_wo op_sub ⟨_, _, h1.int, h2.int, pst_fz s hQ (.int _)⟩
  · cases e
def gMul (a b : D) : Option Rv := match a, b with
  | .int i, .int j => if i.natAbs.log2 + j.natAbs.log2 < 1000000 then some (.fz (.int (i * j))) else none
  | .lst xs, .int k => if -(2 ^ 63) ≤ k ∧ k < 2 ^ 63 ∧ xs.length * k.toNat ≤ sizeLine then some (.nw (.lst (List.replicate k.toNat xs).flatten)) else none
  | _, _ => none
theorem o_mul : Op2 X (Wo X (binaryOp .Mult)) gMul := by
  intro E η M c σ H x y dx dy r s h1 h2 e Q hQ
  unfold gMul at e
  split at e
  · split at e
    · cases e
      rename_i hl
      exact op_wo op_mulW ⟨_, _, h1.int, h2.int, hl, pst_fz s hQ (.int _)⟩
    · cases e
  · split at e
    · cases e
      rename_i hl
      obtain ⟨a, xs, rfl, q1, r1⟩ := h1.lst s.sub
      exact op_wo op_rep ⟨a, _, xs, rfl, h2.int, q1, hl.1, hl.2.1, by rw [r1.length]; exact hl.2.2, pst_nw s hQ fun p hp => ⟨_, upd_same, r1.rep _⟩⟩
    · cases e
  · cases e
def gFdiv (a b : D) : Option Rv := match a, b with
  | .int i, .int j => if 0 < j ∧ j.natAbs.log2 < 9000 then some (.fz (.int (i / j))) else none
  | _, _ => none
theorem o_fdiv : Op2 X (Wo X (binaryOp .FloorDiv)) gFdiv := by
  intro E η M c σ H x y dx dy r s h1 h2 e Q hQ
  unfold gFdiv at e
  split at e
  · split at e
    · cases e
      rename_i hl
      exact op_wo op_fdivW ⟨_, _, h1.int, h2.int, hl, pst_fz s hQ (.int _)⟩
    · cases e
  · cases e
def gMod (a b : D) : Option Rv := match a, b with
  | .int i, .int j => if 0 < j then some (.fz (.int (i % j))) else none
  | _, _ => none
theorem o_mod : Op2 X (Wo X (binaryOp .Mod)) gMod := by
  intro E η M c σ H x y dx dy r s h1 h2 e Q hQ
  unfold gMod at e
  split at e
  · split at e
    · cases e
      rename_i hl
      exact op_wo op_mod ⟨_, _, h1.int, h2.int, hl, pst_fz s hQ (.int _)⟩
    · cases e
  · cases e
def gPow (a b : D) : Option Rv := match a, b with
  | .int i, .int j => if 0 ≤ j ∧ j ≤ 1000000 ∧ i.natAbs < 2 ^ 64 then some (.fz (.int (i ^ j.toNat))) else none
  | _, _ => none
theorem o_pow : Op2 X (Wo X (binaryOp .Pow)) gPow := by
  intro E η M c σ H x y dx dy r s h1 h2 e Q hQ
  unfold gPow at e
  split at e
  · split at e
    · cases e
      rename_i hl
      exact op_wo op_pow ⟨_, _, h1.int, h2.int, hl, pst_fz s hQ (.int _)⟩
    · cases e
  · cases e
def gNeg (a : D) : Option Rv := match a with
  | .int i => some (.fz (.int (-i)))
  | _ => none
theorem u_neg : Op1 X (Wu X (unaryOp .USub)) gNeg := by
  intro E η M c σ H x dx r s h1 e Q hQ
  unfold gNeg at e
  split at e
  · cases e; exact un_wu un_neg ⟨_, h1.int, pst_fz s hQ (.int _)⟩
  · cases e
/-- is None, is not None -/
def isNon : D → Bool
  | .non => true
  | _ => false
theorem vw_non {K : Fg} {mg : Mg} {η : List Addr} {M H : Hp} {v : V} {d : D} (h : VwR K mg η M H v d) : decide (v = .non) = isNon d := by
  cases d with
  | non => rw [h.non]; rfl
  | bl b => rw [h.bl]; rfl
  | int b => rw [h.int]; rfl
  | str b => rw [h.str]; rfl
  | _ =>
    rcases h with h | ⟨a, rfl, h⟩
    · cases h <;> rfl
    · rfl
def gIsN (neg : Bool) (a : D) : Option Rv := some (.fz (.bl (isNon a != neg)))
variable {a : Expr} {ma : Em} {pos pos' : Pos} {j : Nat}
theorem ex_isN (ha : Ex X a ma) : Ex X (.Compare a [.Is] [.Constant .none j pos'] pos) (mUn (gIsN false) ma) := by
  refine ⟨fun E η M c σ H s => ?_⟩
  refine Out.bind (fun (x : V) H1 (Q : VK) => Q (.bl (decide (x = .non))) H1) (ha E η M c σ H s) (fun Q hq => pe_we (pe_cmp (pc_isN we_pe) rfl) hq) fun ra c1 x η1 M1 H1 s1 x1 z1 => ?_
  unfold m1
  cases e1 : view c1 ra with
  | none => trivial
  | some d =>
    have e2 := vw_non (view_ok s1 z1 e1)
    exact out_ok s1 (fun Q hq => by rw [e2]; exact hq) (by simp only [RV, RvR]; simpa using Rep.bl _)
theorem ex_notN (ha : Ex X a ma) : Ex X (.Compare a [.IsNot] [.Constant .none j pos'] pos) (mUn (gIsN true) ma) := by
  refine ⟨fun E η M c σ H s => ?_⟩
  refine Out.bind (fun (x : V) H1 (Q : VK) => Q (.bl (!decide (x = .non))) H1) (ha E η M c σ H s) (fun Q hq => pe_we (pe_cmp (pc_notN we_pe) rfl) hq) fun ra c1 x η1 M1 H1 s1 x1 z1 => ?_
  unfold m1
  cases e1 : view c1 ra with
  | none => trivial
  | some d =>
    have e2 := vw_non (view_ok s1 z1 e1)
    exact out_ok s1 (fun Q hq => by rw [e2]; exact hq) (by simp only [RV, RvR]; simpa using Rep.bl _)
/-- a test that is a value of truth and no more -/
theorem tx_val (ha : Ex X a ma) (he : ∀ whole, isTrue a X.env whole = (do let v ← whole; standAt a.pos; holding [v] (truthy v)) := by intro _; rfl) : Tx X a (mBool ma) :=
  ⟨fun E η M c σ H s => out_bool (ha E η M c σ H s) fun Q hq => pt_wt (pt_val we_pe he) hq⟩
theorem tx_isN (ha : Ex X a ma) : Tx X (.Compare a [.Is] [.Constant .none j pos'] pos) (mBool (mUn (gIsN false) ma)) := by
  refine ⟨fun E η M c σ H s => ?_⟩
  have h : Out X (RV X.K X.mg) (tIsN (We X a) σ H) E η M σ (mUn (gIsN false) ma c) := by
    refine Out.bind (fun (x : V) H1 (Q : VK) => Q (.bl (decide (x = .non))) H1) (ha E η M c σ H s) (fun Q hq => hq) fun ra c1 x η1 M1 H1 s1 x1 z1 => ?_
    unfold m1
    cases e1 : view c1 ra with
    | none => trivial
    | some d =>
      have e2 := vw_non (view_ok s1 z1 e1)
      exact out_ok s1 (fun Q hq => by rw [e2]; exact hq) (by simp only [RV, RvR]; simpa using Rep.bl _)
  exact out_bool h fun Q hq => pt_wt (pt_cmp (pc_isN we_pe) rfl) hq
theorem tx_notN (ha : Ex X a ma) : Tx X (.Compare a [.IsNot] [.Constant .none j pos'] pos) (mBool (mUn (gIsN true) ma)) := by
  refine ⟨fun E η M c σ H s => ?_⟩
  have h : Out X (RV X.K X.mg) (tNotN (We X a) σ H) E η M σ (mUn (gIsN true) ma c) := by
    refine Out.bind (fun (x : V) H1 (Q : VK) => Q (.bl (!decide (x = .non))) H1) (ha E η M c σ H s) (fun Q hq => hq) fun ra c1 x η1 M1 H1 s1 x1 z1 => ?_
    unfold m1
    cases e1 : view c1 ra with
    | none => trivial
    | some d =>
      have e2 := vw_non (view_ok s1 z1 e1)
      exact out_ok s1 (fun Q hq => by rw [e2]; exact hq) (by simp only [RV, RvR]; simpa using Rep.bl _)
  exact out_bool h fun Q hq => pt_wt (pt_cmp (pc_notN we_pe) rfl) hq

/-! ### subscripts -/
def keyD : D → Option Key
  | .int i => some (.inl i)
  | .str x => some (.inr x)
  | _ => none
def keysD : List D → Option (List Key)
  | [] => some []
  | d :: ds => match keyD d, keysD ds with
    | some k, some ks => some (k :: ks)
    | _, _ => none
def getK {κ : Type} [DecidableEq κ] (kvs : List (κ × D)) (k : κ) : Option D := (kvs.find? fun kv => decide (kv.1 = k)).map (·.2)
def setK {κ : Type} [DecidableEq κ] (kvs : List (κ × D)) (k : κ) (d : D) : List (κ × D) := if (kvs.any fun kv => decide (kv.1 = k)) = true then kvs.map (fun kv => if kv.1 = k then (kv.1, d) else kv) else kvs ++ [(k, d)]
section
variable {K : Fg} {mg : Mg} {η : List Addr} {M H : Hp}
theorem rep_key {v : V} {d : D} {k : Key} (h : VwR K mg η M H v d) (e : keyD d = some k) : v = kV k := by
  cases d with
  | int i => cases e; exact h.int
  | str i => cases e; exact h.str
  | _ => cases e
theorem repL_keys : ∀ {ds : List D} {vs : List V} {ks : List Key}, RepL K mg η M vs ds → keysD ds = some ks → vs = ks.map kV
  | [], _, _, .nil, e => by cases e; rfl
  | d :: ds, _, _, .cons h hs, e => by
    unfold keysD at e
    cases q1 : keyD d with
    | none => rw [q1] at e; cases e
    | some k =>
      cases q2 : keysD ds with
      | none => rw [q1, q2] at e; cases e
      | some ks =>
        rw [q1, q2] at e; cases e
        rw [rep_key (H := M) (.inl h) q1, repL_keys hs q2]
        rfl
theorem rep_getK {κ : Type} [DecidableEq κ] {k : κ} : ∀ {kvs : List (κ × V)} {eds : List (κ × D)}, kvs.map (·.1) = eds.map (·.1) → RepL K mg η M (kvs.map (·.2)) (eds.map (·.2)) →
    (∀ d, getK eds k = some d → ∃ v, valV kvs k = some v ∧ Rep K mg η M v d) ∧ (getK eds k = none → valV kvs k = none)
  | [], [], _, _ => ⟨fun d e => (nomatch e), fun _ => rfl⟩
  | (k1, v) :: kvs, (k2, d) :: eds, hk, hr => by
    simp only [List.map_cons, List.cons.injEq] at hk
    obtain ⟨rfl, hk⟩ := hk
    simp only [List.map_cons] at hr
    cases hr with
    | cons h hs =>
      obtain ⟨i1, i2⟩ := rep_getK (k := k) hk hs
      by_cases e : k1 = k
      · have e1 : getK ((k1, d) :: eds) k = some d := by simp [getK, e]
        have e2 : valV ((k1, v) :: kvs) k = some v := valV_pos e
        rw [e1, e2]
        refine ⟨fun d' hd => ?_, fun z => nomatch z⟩
        cases hd
        exact ⟨v, rfl, h⟩
      · have e1 : getK ((k1, d) :: eds) k = getK eds k := by simp [getK, e]
        have e2 : valV ((k1, v) :: kvs) k = valV kvs k := valV_neg e
        rw [e1, e2]
        exact ⟨i1, i2⟩
  | [], _ :: _, hk, _ => by simp at hk
  | _ :: _, [], hk, _ => by simp at hk
theorem any_keys {κ : Type} [DecidableEq κ] {k : κ} : ∀ {kvs : List (κ × V)} {eds : List (κ × D)}, kvs.map (·.1) = eds.map (·.1) → (kvs.any fun kv => decide (kv.1 = k)) = (eds.any fun kv => decide (kv.1 = k))
  | [], [], _ => rfl
  | (k1, v) :: kvs, (k2, d) :: eds, hk => by
    simp only [List.map_cons, List.cons.injEq] at hk
    obtain ⟨rfl, hk⟩ := hk
    simp only [List.any_cons]
    rw [any_keys (k := k) hk]
  | [], _ :: _, hk => by simp at hk
  | _ :: _, [], hk => by simp at hk
theorem rep_setK {κ : Type} [DecidableEq κ] {k : κ} {v : V} {d : D} (rd : Rep K mg η M v d) {kvs : List (κ × V)} {eds : List (κ × D)} (hk : kvs.map (·.1) = eds.map (·.1)) (hr : RepL K mg η M (kvs.map (·.2)) (eds.map (·.2))) :
    (putK kvs k v).map (·.1) = (setK eds k d).map (·.1) ∧ RepL K mg η M ((putK kvs k v).map (·.2)) ((setK eds k d).map (·.2)) := by
  unfold putK setK
  rw [any_keys (k := k) hk]
  cases (eds.any fun kv => decide (kv.1 = k)) with
  | true =>
    rw [if_pos rfl]
    have aux : ∀ {kvs : List (κ × V)} {eds : List (κ × D)}, kvs.map (·.1) = eds.map (·.1) → RepL K mg η M (kvs.map (·.2)) (eds.map (·.2)) →
        (kvs.map fun kv => if kv.1 = k then (kv.1, v) else kv).map (·.1) = (eds.map fun kv => if kv.1 = k then (kv.1, d) else kv).map (·.1) ∧
        RepL K mg η M ((kvs.map fun kv => if kv.1 = k then (kv.1, v) else kv).map (·.2)) ((eds.map fun kv => if kv.1 = k then (kv.1, d) else kv).map (·.2)) := by
      intro kvs
      induction kvs with
      | nil =>
        intro eds hk hr
        cases eds with
        | nil => exact ⟨rfl, .nil⟩
        | cons _ _ => simp at hk
      | cons p kvs ih =>
        intro eds hk hr
        cases eds with
        | nil => simp at hk
        | cons q eds =>
          obtain ⟨k1, v1⟩ := p
          obtain ⟨k2, d1⟩ := q
          simp only [List.map_cons, List.cons.injEq] at hk
          obtain ⟨rfl, hk⟩ := hk
          simp only [List.map_cons] at hr
          cases hr with
          | cons h hs =>
            obtain ⟨i1, i2⟩ := ih hk hs
            simp only [List.map_cons]
            by_cases e : k1 = k
            · simp only [e, if_true]
              exact ⟨by rw [i1], .cons rd i2⟩
            · simp only [e, if_false]
              exact ⟨by rw [i1], .cons h i2⟩
    exact aux hk hr
  | false =>
    rw [if_neg Bool.false_ne_true, if_neg Bool.false_ne_true]
    simp only [List.map_append, List.map_cons, List.map_nil]
    exact ⟨by rw [hk], hr.append (.cons rd .nil)⟩
theorem keys_len {κ : Type} {kvs : List (κ × V)} {eds : List (κ × D)} (hk : kvs.map (·.1) = eds.map (·.1)) : kvs.length = eds.length := by
  have := congrArg List.length hk
  simpa using this
end
/-- d[y] by values -/
theorem ix_dict (hu : X.A.units + 1 < cLine) : IxR X (fun x y H Q => ∃ a v, x = .ref a ∧ DGet H a y (some v) ∧ Q v H) := by
  intro value slice pins s σ H x y v u Q I rx ry h hs
  obtain ⟨a, z, rfl, g, q⟩ := h
  cases rx
  have hT := dict_typeIs I g
  unfold subscriptTail
  refine wpAny_bind ?_
  rw [getitemInPython_of_ne hT.not_modules]
  refine wpAny_bind (wpAny_specialOf hT PySem.F.slot_dict_getitem.lookup ?_)
  have fin : wpAny (model X.prog X.w) X.A (subscripted slice false (.ref a) u) (fun r s₃ => wpAny (model X.prog X.w) X.A (letTemporaryGo value (.ref a) r >>= fun _ => pure r) (EP X pins σ Q) X.xe s₃) X.xe s := by
    rw [hs]
    exact wpAny_operating (d_getItem hu I g ry fun w' s3 I3 rw' => wpAny_bind (wpAny_letTemporaryGo (wpAny_pure ⟨z, H, I3, rw', q⟩)))
  first
    | exact wpAny_pure (wpAny_bind fin)
    | exact wpAny_bind (wpAny_pure (wpAny_bind fin))
    | exact wpAny_bind fin
def gIx (a b : D) : Option Rv := match a with
  | .lst xs => match b with
    | .int i => (atI xs i).map .fz
    | _ => none
  | .ro xs => match b with
    | .int i => (atI xs i).map .fz
    | _ => none
  | .tup xs => match b with
    | .int i => (atI xs i).map .fz
    | _ => none
  | .str z => match b with
    | .int i => if z.length ≤ sizeLine then (atI z.cps.toList i).map fun c => .fz (.str ⟨#[c]⟩) else none
    | _ => none
  | .dct kvs => match keyD b with
    | some k => (getK kvs k).map .fz
    | none => none
  | .dcT kvs => match b with
    | .tup ds => match keysD ds with
      | some ks => (getK kvs ks).map .fz
      | none => none
    | _ => none
  | _ => none
theorem repL_at {K : Fg} {mg : Mg} {η : List Addr} {M : Hp} {vs : List V} {ds : List D} {i : Int} {d : D} (r : RepL K mg η M vs ds) (e : atI ds i = some d) : ∃ v, atI vs i = some v ∧ Rep K mg η M v d := by
  unfold atI at e ⊢
  rw [r.length]
  cases q : ixN ds.length i with
  | none => rw [q] at e; cases e
  | some j =>
    rw [q] at e
    obtain ⟨v, h1, h2⟩ := r.getD' (show ds[j]? = some d from e)
    exact ⟨v, h1, h2⟩
theorem o_ix (hu : X.A.units + 1 < cLine) : Op2 X (Wi2 X) gIx := by
  intro E η M c σ H x y dx dy r s h1 h2 e Q hQ
  unfold gIx at e
  cases dx with
  | lst xs =>
    cases dy with
    | int i =>
      obtain ⟨d, e1, rfl⟩ := Option.map_eq_some_iff.mp e
      obtain ⟨a, ys, rfl, q1, r1⟩ := h1.lst s.sub
      obtain ⟨v, hv, rv⟩ := repL_at r1 e1
      exact ix_wi ix_list ⟨a, ys, i, v, rfl, h2.int, .of q1, hv, pst_fz s hQ rv⟩
    | _ => cases e
  | ro xs =>
    cases dy with
    | int i =>
      obtain ⟨d, e1, rfl⟩ := Option.map_eq_some_iff.mp e
      obtain ⟨a, ys, rfl, q1, r1⟩ := h1.ro s.sub
      obtain ⟨v, hv, rv⟩ := repL_at r1 e1
      exact ix_wi ix_list ⟨a, ys, i, v, rfl, h2.int, q1, hv, pst_fz s hQ rv⟩
    | _ => cases e
  | tup xs =>
    cases dy with
    | int i =>
      obtain ⟨d, e1, rfl⟩ := Option.map_eq_some_iff.mp e
      obtain ⟨a, ys, rfl, q1, r1⟩ := h1.tup s.sub
      obtain ⟨v, hv, rv⟩ := repL_at r1 e1
      exact ix_wi ix_tup ⟨a, ys, i, v, rfl, h2.int, .of q1, hv, pst_fz s hQ rv⟩
    | _ => cases e
  | str z =>
    cases dy with
    | int i =>
      dsimp only at e
      split at e
      · obtain ⟨d, e1, rfl⟩ := Option.map_eq_some_iff.mp e
        exact ix_wi ix_str ⟨z, i, d, h1.str, h2.int, by assumption, e1, pst_fz s hQ (.str _)⟩
      · cases e
    | _ => cases e
  | dct kvs =>
    dsimp only at e
    cases q : keyD dy with
    | none => rw [q] at e; cases e
    | some k =>
      rw [q] at e
      obtain ⟨d, e1, rfl⟩ := Option.map_eq_some_iff.mp e
      obtain ⟨a, vs, rfl, q1, q2, q3⟩ := h1.dct s.sub
      obtain ⟨v, hv, rv⟩ := (rep_getK q2 q3).1 d e1
      exact ix_wi (ix_dict hu) ⟨a, v, rfl, by rw [rep_key h2 q, ← hv]; exact DGet.k q1, pst_fz s hQ rv⟩
  | dcT kvs =>
    cases dy with
    | tup ds =>
      dsimp only at e
      cases q : keysD ds with
      | none => rw [q] at e; cases e
      | some ks =>
        rw [q] at e
        obtain ⟨d, e1, rfl⟩ := Option.map_eq_some_iff.mp e
        obtain ⟨a, vs, rfl, q1, q2, q3⟩ := h1.dcT s.sub
        obtain ⟨b, ys, rfl, k1, k2⟩ := h2.tup s.sub
        obtain ⟨v, hv, rv⟩ := (rep_getK q2 q3).1 d e1
        rw [repL_keys k2 q] at k1
        exact ix_wi (ix_dict hu) ⟨a, v, rfl, by rw [← hv]; exact DGet.t q1 k1, pst_fz s hQ rv⟩
    | _ => cases e
  | _ => cases e

/-! ### slices -/
def cutL {α : Type} (xs : List α) (lo hi : Option Int) : List α := (xs.drop (HT.sIx xs.length 0 lo)).take (HT.sIx xs.length xs.length hi - HT.sIx xs.length 0 lo)
theorem repL_cut {K : Fg} {mg : Mg} {η : List Addr} {M : Hp} {vs : List V} {ds : List D} (r : RepL K mg η M vs ds) (lo hi : Option Int) : RepL K mg η M (cutV vs lo hi) (cutL ds lo hi) := by
  unfold cutV cutL
  rw [r.length]
  exact (r.drop _).take _
theorem cutL_whole {α : Type} {xs : List α} {lo hi : Option Int} (h : HT.sIx xs.length 0 lo = 0 ∧ HT.sIx xs.length xs.length hi = xs.length) : cutL xs lo hi = xs := by
  unfold cutL
  rw [h.1, h.2]
  simp
def gSl (a : D) (lo hi : Option Int) : Option Rv := match a with
  | .lst xs => some (.nw (.lst (cutL xs lo hi)))
  | .ro xs => some (.nw (.lst (cutL xs lo hi)))
  | .tup xs => some (.fz (.tup (cutL xs lo hi)))
  | .str z => if z.length ≤ sizeLine then some (.fz (.str (cutS z lo hi))) else none
  | _ => none
def Wsl (X : Cx) : V → Option Int → Option Int → Hp → VK → Prop := fun x lo hi H Q => ∃ r, SlR X r ∧ r x lo hi H Q
theorem wsl_sl : SlR X (Wsl X) := by
  intro pins s σ H x v vl vu lo hi sl Q I rx hs pl pu h
  obtain ⟨r, hr, q⟩ := h
  exact hr pins s σ H x v vl vu lo hi sl Q I rx hs pl pu q
/-- an optional part of a slice -/
def Px (X : Cx) (e : Option Expr) (m : Cf → Res (Option Int)) : Prop := ∃ t, PO X e t ∧ ∀ E η M c σ H, SR X.K X.mg E η M c σ H → Out X (fun _ _ _ _ _ _ a b => a = b) (t σ H) E η M σ (m c)
def pNo : Cf → Res (Option Int) := fun c => .ok none c
def pSome (me : Em) : Cf → Res (Option Int) := fun c => (me c).bind fun r c1 => match view c1 r with
  | some (.int i) => .ok (some i) c1
  | _ => .stuck
theorem px_none : Px X none pNo := ⟨_, po_none, fun E η M c σ H s => out_ok s (fun Q hq => hq) rfl⟩
theorem px_some (ha : Ex X a ma) : Px X (some a) (pSome ma) := by
  refine ⟨_, po_some we_pe, fun E η M c σ H s => ?_⟩
  refine Out.bind (fun (x : V) H1 (Q : Option Int → Hp → Prop) => ∃ i, x = V.int i ∧ Q (some i) H1) (ha E η M c σ H s) (fun Q hq => hq) fun r c1 x η1 M1 H1 s1 x1 z1 => ?_
  cases e1 : view c1 r with
  | none => trivial
  | some d =>
    cases d with
    | int i => exact out_ok s1 (fun Q hq => ⟨i, (view_ok s1 z1 e1).int, hq⟩) rfl
    | _ => trivial
def mSl (me : Em) (lo hi : Cf → Res (Option Int)) : Em := fun c => (me c).st.bind fun r c1 => (lo c1).bind fun l c2 => (hi c2).bind fun h c3 => match view c3 r with
  | some d => match gSl d l h with
    | some r' => .ok r' c3
    | none => .stuck
  | none => .stuck
theorem ex_slice {lo hi : Option Expr} {p2 : Pos} {ml mh : Cf → Res (Option Int)} (ha : Ex X a ma) (hl : Px X lo ml) (hh : Px X hi mh) : Ex X (.Subscript a (.Slice lo hi none p2) pos) (mSl ma ml mh) := by
  obtain ⟨tl, pl, ql⟩ := hl
  obtain ⟨th, ph, qh⟩ := hh
  refine ⟨fun E η M c σ H s => ?_⟩
  refine Out.bind (R := RVst X.K X.mg) (fun x H1 Q => tl σ H1 fun l H2 => th σ H2 fun u H3 => Wsl X x l u H3 Q) (out_st (ha E η M c σ H s)) (fun Q hq => pe_we (pe_slice wsl_sl we_pe pl ph) hq) fun r c1 x η1 M1 H1 s1 x1 z1 => ?_
  refine Out.bind (fun l H2 Q => th σ H2 fun u H3 => Wsl X x l u H3 Q) (ql E η1 M1 c1 σ H1 s1) (fun Q hq => hq) fun l c2 l' η2 M2 H2 s2 x2 z2 => ?_
  cases z2
  refine Out.bind (fun u H3 Q => Wsl X x l u H3 Q) (qh E η2 M2 c2 σ H2 s2) (fun Q hq => hq) fun u c3 u' η3 M3 H3 s3 x3 z3 => ?_
  cases z3
  cases e1 : view c3 r with
  | none => trivial
  | some d =>
    dsimp only
    cases e2 : gSl d l u with
    | none => trivial
    | some r' =>
      intro Q hQ
      have vw := view_ok s3 (z1.2.keep (x2.trans x3) z1.1) e1
      unfold gSl at e2
      cases d with
      | lst ds =>
        cases e2
        obtain ⟨b, ys, rfl, q1, r1⟩ := vw.lst s3.sub
        exact ⟨_, sl_list, b, ys, rfl, .of q1, pst_nw s3 hQ fun p hp => ⟨_, upd_same, repL_cut r1 _ _⟩⟩
      | ro ds =>
        cases e2
        obtain ⟨b, ys, rfl, q1, r1⟩ := vw.ro s3.sub
        exact ⟨_, sl_list, b, ys, rfl, q1, pst_nw s3 hQ fun p hp => ⟨_, upd_same, repL_cut r1 _ _⟩⟩
      | tup ds =>
        cases e2
        obtain ⟨b, ys, rfl, q1, r1⟩ := vw.tup s3.sub
        refine ⟨_, sl_tupA, b, ys, rfl, .of q1, fun hw => ?_, fun _ p hp => ?_⟩
        · rw [cutL_whole (by rw [← r1.length]; exact hw)] at hQ
          exact pst_fz s3 hQ vw.rtup
        · obtain ⟨f1, f2, f3, f4⟩ := s3.free hp
          obtain ⟨s4, x4⟩ := (s3.alloc (o := .tup (cutV ys l u)) hp).freeze f1 f2 f3 f4 upd_same
          exact hQ _ η3 _ _ s4 x4 (.tup upd_same ((repL_cut r1 _ _).mono x4))
      | str z =>
        dsimp only at e2
        split at e2
        · cases e2
          exact ⟨_, sl_str, z, vw.str, by assumption, pst_fz s3 hQ (.str _)⟩
        · cases e2
      | _ => cases e2

/-! ### built-in calls -/
def g1 (g : D → Option Rv) : List D → Option Rv
  | [d] => g d
  | _ => none
def g2 (g : D → D → Option Rv) : List D → Option Rv
  | [d, e] => g d e
  | _ => none
theorem opN1 {f : Value} {g : D → Option Rv} (h : ∀ E η M c σ H x dx r, SR X.K X.mg E η M c σ H → VwR X.K X.mg η M H x dx → g dx = some r → ∀ Q : VK, Pst X E η M c σ r Q → Wc X f [x] H Q) : OpN X (Wc X f) (g1 g) := by
  intro E η M c σ H xs ds r s hp e Q hQ
  match ds, hp, e with
  | [d], .cons h1 .nil, e => exact h E η M c σ H _ d r s h1 e Q hQ
  | [], _, e => cases e
  | _ :: _ :: _, _, e => cases e
theorem opN2 {f : Value} {g : D → D → Option Rv} (h : ∀ E η M c σ H x y dx dy r, SR X.K X.mg E η M c σ H → VwR X.K X.mg η M H x dx → VwR X.K X.mg η M H y dy → g dx dy = some r → ∀ Q : VK, Pst X E η M c σ r Q → Wc X f [x, y] H Q) : OpN X (Wc X f) (g2 g) := by
  intro E η M c σ H xs ds r s hp e Q hQ
  match ds, hp, e with
  | [d, d'], .cons h1 (.cons h2 .nil), e => exact h E η M c σ H _ _ d d' r s h1 h2 e Q hQ
  | [], _, e => cases e
  | [_], _, e => cases e
  | _ :: _ :: _ :: _, _, e => cases e
def gLen (d : D) : Option Rv := match d with
  | .str y => if y.length ≤ sizeLine then some (.fz (.int y.length)) else none
  | .lst xs => some (.fz (.int xs.length))
  | .ro xs => some (.fz (.int xs.length))
  | .tup xs => some (.fz (.int xs.length))
  | .dct xs => some (.fz (.int xs.length))
  | _ => none
theorem c_len : OpN X (Wc X (.builtin "len")) (g1 gLen) := by
  refine opN1 fun E η M c σ H x dx r s h1 e Q hQ => ?_
  unfold gLen at e
  cases dx with
  | str y =>
    dsimp only at e
    split at e
    · cases e; exact call_wc call_len ⟨_, _, rfl, by rw [h1.str]; exact ⟨by assumption, rfl⟩, pst_fz s hQ (.int _)⟩
    · cases e
  | lst ds =>
    cases e
    obtain ⟨a, xs, rfl, q, r⟩ := h1.lst s.sub
    exact call_wc call_len ⟨_, _, rfl, .inl ⟨xs, .of q, rfl⟩, by rw [r.length]; exact pst_fz s hQ (.int _)⟩
  | ro ds =>
    cases e
    obtain ⟨a, xs, rfl, q, r⟩ := h1.ro s.sub
    exact call_wc call_len ⟨_, _, rfl, .inl ⟨xs, q, rfl⟩, by rw [r.length]; exact pst_fz s hQ (.int _)⟩
  | tup ds =>
    cases e
    obtain ⟨a, xs, rfl, q, r⟩ := h1.tup s.sub
    exact call_wc call_len ⟨_, _, rfl, .inr ⟨xs, .of q, rfl⟩, by rw [r.length]; exact pst_fz s hQ (.int _)⟩
  | dct ds =>
    cases e
    obtain ⟨a, kvs, rfl, q, k, r⟩ := h1.dct s.sub
    exact call_wc call_lenD ⟨a, kvs, rfl, q, by rw [keys_len k]; exact pst_fz s hQ (.int _)⟩
  | _ => cases e
def gAbs (d : D) : Option Rv := match d with
  | .int i => some (.fz (.int (if i < 0 then -i else i)))
  | _ => none
theorem c_abs : OpN X (Wc X (.builtin "abs")) (g1 gAbs) := by
  refine opN1 fun E η M c σ H x dx r s h1 e Q hQ => ?_
  unfold gAbs at e
  split at e
  · cases e; exact call_wc call_abs ⟨_, by rw [h1.int], pst_fz s hQ (.int _)⟩
  · cases e
def gInt (d : D) : Option Rv := match d with
  | .int i => some (.fz (.int i))
  | .bl b => some (.fz (.int (if b then 1 else 0)))
  | _ => none
theorem c_int : OpN X (Wc X (.type "int")) (g1 gInt) := by
  refine opN1 fun E η M c σ H x dx r s h1 e Q hQ => ?_
  unfold gInt at e
  split at e
  · cases e; exact call_wc call_int1 (.inl ⟨_, by rw [h1.int], pst_fz s hQ (.int _)⟩)
  · cases e; exact call_wc call_int1 (.inr ⟨_, by rw [h1.bl], pst_fz s hQ (.int _)⟩)
  · cases e
def gList (d : D) : Option Rv := match d with
  | .lst xs => some (.nw (.lst xs))
  | .ro xs => some (.nw (.lst xs))
  | .tup xs => some (.nw (.lst xs))
  | _ => none
theorem c_list : OpN X (Wc X (.type "list")) (g1 gList) := by
  refine opN1 fun E η M c σ H x dx r s h1 e Q hQ => ?_
  unfold gList at e
  split at e
  · cases e
    obtain ⟨a, xs, rfl, q, r⟩ := h1.lst s.sub
    exact call_wc call_list_of ⟨a, xs, rfl, .inl (.of q), pst_nw s hQ fun p hp => ⟨_, upd_same, r⟩⟩
  · cases e
    obtain ⟨a, xs, rfl, q, r⟩ := h1.ro s.sub
    exact call_wc call_list_of ⟨a, xs, rfl, .inl q, pst_nw s hQ fun p hp => ⟨_, upd_same, r⟩⟩
  · cases e
    obtain ⟨a, xs, rfl, q, r⟩ := h1.tup s.sub
    exact call_wc call_list_of ⟨a, xs, rfl, .inr (.of q), pst_nw s hQ fun p hp => ⟨_, upd_same, r⟩⟩
  · cases e
def gTuple (d : D) : Option Rv := match d with
  | .lst xs => some (.fz (.tup xs))
  | .tup xs => some (.fz (.tup xs))
  | _ => none
theorem c_tuple : OpN X (Wc X (.type "tuple")) (g1 gTuple) := by
  refine opN1 fun E η M c σ H x dx r s h1 e Q hQ => ?_
  unfold gTuple at e
  split at e
  · cases e
    obtain ⟨a, xs, rfl, q, r⟩ := h1.lst s.sub
    refine call_wc call_tuple_of ⟨a, xs, rfl, .inl ⟨.of q, fun p hp => ?_⟩⟩
    obtain ⟨f1, f2, f3, f4⟩ := s.free hp
    obtain ⟨s4, x4⟩ := (s.alloc (o := .tup xs) hp).freeze f1 f2 f3 f4 upd_same
    exact hQ _ η _ _ s4 x4 (.tup upd_same (r.mono x4))
  · cases e
    obtain ⟨a, xs, rfl, q, r⟩ := h1.tup s.sub
    exact call_wc call_tuple_of ⟨a, xs, rfl, .inr ⟨.of q, pst_fz s hQ h1.rtup⟩⟩
  · cases e
/-- lists of truths, of ints -/
def blsD : List D → Option (List Bool)
  | [] => some []
  | .bl b :: ds => (blsD ds).map (b :: ·)
  | _ => none
def intsD : List D → Option (List Int)
  | [] => some []
  | .int b :: ds => (intsD ds).map (b :: ·)
  | _ => none
def strsD : List D → Option (List Str)
  | [] => some []
  | .str b :: ds => (strsD ds).map (b :: ·)
  | _ => none
theorem repL_bls {K : Fg} {mg : Mg} {η : List Addr} {M : Hp} : ∀ {ds : List D} {vs : List V} {bs : List Bool}, RepL K mg η M vs ds → blsD ds = some bs → vs = bs.map V.bl
  | [], _, _, .nil, e => by cases e; rfl
  | .bl b :: ds, _, _, .cons (.bl _) hs, e => by
    obtain ⟨bs, e1, rfl⟩ := Option.map_eq_some_iff.mp (show (blsD ds).map (b :: ·) = some _ from e)
    rw [repL_bls hs e1]; rfl
  | .non :: _, _, _, _, e | .int _ :: _, _, _, _, e | .str _ :: _, _, _, _, e | .lst _ :: _, _, _, _, e | .ro _ :: _, _, _, _, e | .tup _ :: _, _, _, _, e | .dct _ :: _, _, _, _, e | .dcT _ :: _, _, _, _, e | .obj _ _ :: _, _, _, _, e | .hdl _ :: _, _, _, _, e | .exc _ _ :: _, _, _, _, e | .fn _ :: _, _, _, _, e => by cases e
theorem repL_ints {K : Fg} {mg : Mg} {η : List Addr} {M : Hp} : ∀ {ds : List D} {vs : List V} {bs : List Int}, RepL K mg η M vs ds → intsD ds = some bs → vs = bs.map V.int
  | [], _, _, .nil, e => by cases e; rfl
  | .int b :: ds, _, _, .cons (.int _) hs, e => by
    obtain ⟨bs, e1, rfl⟩ := Option.map_eq_some_iff.mp (show (intsD ds).map (b :: ·) = some _ from e)
    rw [repL_ints hs e1]; rfl
  | .non :: _, _, _, _, e | .bl _ :: _, _, _, _, e | .str _ :: _, _, _, _, e | .lst _ :: _, _, _, _, e | .ro _ :: _, _, _, _, e | .tup _ :: _, _, _, _, e | .dct _ :: _, _, _, _, e | .dcT _ :: _, _, _, _, e | .obj _ _ :: _, _, _, _, e | .hdl _ :: _, _, _, _, e | .exc _ _ :: _, _, _, _, e | .fn _ :: _, _, _, _, e => by cases e
theorem repL_strs {K : Fg} {mg : Mg} {η : List Addr} {M : Hp} : ∀ {ds : List D} {vs : List V} {bs : List Str}, RepL K mg η M vs ds → strsD ds = some bs → vs = bs.map V.str
  | [], _, _, .nil, e => by cases e; rfl
  | .str b :: ds, _, _, .cons (.str _) hs, e => by
    obtain ⟨bs, e1, rfl⟩ := Option.map_eq_some_iff.mp (show (strsD ds).map (b :: ·) = some _ from e)
    rw [repL_strs hs e1]; rfl
  | .non :: _, _, _, _, e | .bl _ :: _, _, _, _, e | .int _ :: _, _, _, _, e | .lst _ :: _, _, _, _, e | .ro _ :: _, _, _, _, e | .tup _ :: _, _, _, _, e | .dct _ :: _, _, _, _, e | .dcT _ :: _, _, _, _, e | .obj _ _ :: _, _, _, _, e | .hdl _ :: _, _, _, _, e | .exc _ _ :: _, _, _, _, e | .fn _ :: _, _, _, _, e => by cases e
def gAny (d : D) : Option Rv := match d with
  | .lst xs => (blsD xs).map fun bs => .fz (.bl (bs.any id))
  | _ => none
def gAll (d : D) : Option Rv := match d with
  | .lst xs => (blsD xs).map fun bs => .fz (.bl (bs.all id))
  | _ => none
theorem c_any (hc : X.calm = true) : OpN X (Wc X (.builtin "any")) (g1 gAny) := by
  refine opN1 fun E η M c σ H x dx r s h1 e Q hQ => ?_
  unfold gAny at e
  split at e
  · obtain ⟨bs, e1, rfl⟩ := Option.map_eq_some_iff.mp e
    obtain ⟨a, xs, rfl, q, r⟩ := h1.lst s.sub
    have := repL_bls r e1
    subst this
    exact call_wc (cr_any hc) ⟨a, bs, rfl, .of q, pst_fz s hQ (.bl _)⟩
  · cases e
theorem c_all (hc : X.calm = true) : OpN X (Wc X (.builtin "all")) (g1 gAll) := by
  refine opN1 fun E η M c σ H x dx r s h1 e Q hQ => ?_
  unfold gAll at e
  split at e
  · obtain ⟨bs, e1, rfl⟩ := Option.map_eq_some_iff.mp e
    obtain ⟨a, xs, rfl, q, r⟩ := h1.lst s.sub
    have := repL_bls r e1
    subst this
    exact call_wc (cr_all hc) ⟨a, bs, rfl, .of q, pst_fz s hQ (.bl _)⟩
  · cases e
def gSum (d : D) : Option Rv := match d with
  | .lst xs => (intsD xs).map fun bs => .fz (.int bs.sum)
  | _ => none
theorem c_sum (hc : X.calm = true) : OpN X (Wc X (.builtin "sum")) (g1 gSum) := by
  refine opN1 fun E η M c σ H x dx r s h1 e Q hQ => ?_
  unfold gSum at e
  split at e
  · obtain ⟨bs, e1, rfl⟩ := Option.map_eq_some_iff.mp e
    obtain ⟨a, xs, rfl, q, r⟩ := h1.lst s.sub
    have := repL_ints r e1
    subst this
    exact call_wc (cr_sum hc) ⟨a, bs, rfl, .of q, pst_fz s hQ (.int _)⟩
  · cases e
def gMax2 (a b : D) : Option Rv := match a, b with
  | .int i, .int j => some (.fz (.int (if j > i then j else i)))
  | _, _ => none
def gMin2 (a b : D) : Option Rv := match a, b with
  | .int i, .int j => some (.fz (.int (if j < i then j else i)))
  | _, _ => none
theorem c_max2 (hc : X.calm = true) : OpN X (Wc X (.builtin "max")) (g2 gMax2) := by
  refine opN2 fun E η M c σ H x y dx dy r s h1 h2 e Q hQ => ?_
  unfold gMax2 at e
  split at e
  · cases e; exact call_wc (call_max2 hc) ⟨_, _, by rw [h1.int, h2.int], pst_fz s hQ (.int _)⟩
  · cases e
theorem c_min2 (hc : X.calm = true) : OpN X (Wc X (.builtin "min")) (g2 gMin2) := by
  refine opN2 fun E η M c σ H x y dx dy r s h1 h2 e Q hQ => ?_
  unfold gMin2 at e
  split at e
  · cases e; exact call_wc (call_min2 hc) ⟨_, _, by rw [h1.int, h2.int], pst_fz s hQ (.int _)⟩
  · cases e
end
end LH
/-! LHMut: what changes: lists and dicts by their methods, stores by place, op= ; dict displays, get, in. -/
namespace LH
open PySem PySem.Spec PyProof.Rows L2
/-- the content of a place -/
def cont (c : Cf) : Rv → Option D
  | .loc i => match c.ρ[i]? with
    | some (.ow d) => some d
    | _ => none
  | .fz (.hdl n) => c.S[n]?
  | _ => none
def putB (c : Cf) (r : Rv) (d : D) : Option Cf := match r with
  | .loc i => some { c with ρ := c.ρ.set i (.ow d) }
  | .fz (.hdl n) => some { c with S := c.S.set n d }
  | _ => none
section
variable {K : Fg} {mg : Mg} {E : En} {η η' : List Addr} {M M' H H' : Hp} {c c' : Cf} {σ σ' : St} {v : V} {r : Rv} {d : D}
theorem cont_ok (s : SR K mg E η M c σ H) (h : RvR K mg E η M c σ H v r) (e : cont c r = some d) :
    ∃ a, v = .ref a ∧ M a = none ∧ At K mg η M H a d ∧ ∀ o d' c', At K mg η M (upd H a o) a d' → putB c r d' = some c' → SR K mg E η M c' σ (upd H a o) := by
  cases r with
  | nw t => cases e
  | loc i =>
    unfold cont at e
    dsimp only at e
    cases q : c.ρ[i]? with
    | none => rw [q] at e; cases e
    | some sl =>
      rw [q] at e
      cases sl with
      | ow t =>
        cases e
        obtain ⟨a, e1, q1, q2, q3, q4⟩ := s.slot i _ q
        have h : σ[i]? = some (some v) := h
        rw [h] at e1; cases e1
        refine ⟨a, rfl, q1, q4, fun o d' c' ha hp => ?_⟩
        cases hp
        exact s.writeSlot q h ha
      | _ => cases e
  | fz t =>
    cases t with
    | hdl n =>
      cases h with
      | hdl hn =>
        obtain ⟨q1, q2⟩ := s.hdl n _ d hn e
        refine ⟨_, rfl, q1, q2, fun o d' c' ha hp => ?_⟩
        cases hp
        exact s.writeHdl hn e ha
    | _ => cases e
theorem cont_settled (e : cont c r = some d) : Settled r := by
  cases r with
  | nw t => cases e
  | _ => trivial
end
def tyD (T : String) : D → Bool
  | .lst _ => T == "list"
  | .dct _ => T == "dict"
  | .dcT _ => T == "dict"
  | _ => false
theorem tyD_ok {K : Fg} {mg : Mg} {η : List Addr} {M H : Hp} {a : Addr} {d : D} {T : String} (h : At K mg η M H a d) (e : tyD T d = true) : tyV K T (.ref a) H := by
  cases d with
  | lst ds => obtain ⟨xs, hx, _⟩ := h; exact .inl ⟨by simpa [tyD] using e, xs, .of hx⟩
  | dct ds => obtain ⟨xs, hx, _⟩ := h; exact .inr (.inr (.inl ⟨by simpa [tyD] using e, .inl ⟨xs, hx⟩⟩))
  | dcT ds => obtain ⟨xs, hx, _⟩ := h; exact .inr (.inr (.inl ⟨by simpa [tyD] using e, .inr ⟨xs, hx⟩⟩))
  | _ => cases e
/-- a method that changes its object -/
def OpM (X : Cx) (id : String) (g : D → List D → Option (D × D)) : Prop :=
  ∀ η M H a xs d ds d' res, Same M H → At X.K X.mg η M H a d → RepL X.K X.mg η M xs ds → g d ds = some (d', res) →
    ∀ Q : VK, (∀ v o, At X.K X.mg η M (upd H a o) a d' → Rep X.K X.mg η M v res → Q v (upd H a o)) → Wm X id (.ref a) xs H Q
def mMut (T : String) (g : D → List D → Option (D × D)) (mo : Em) (ms : Cf → Res (List Rv)) : Em := fun c => (mo c).bind fun r c1 =>
  match cont c1 r with
  | none => .stuck
  | some d1 => if tyD T d1 then (ms c1).bind fun rs c2 => (match vals c2 rs with
    | none => .stuck
    | some (ds, c3) => match cont c3 r with
      | none => .stuck
      | some d => match g d ds with
        | none => .stuck
        | some (d', res) => match putB c3 r d' with
          | none => .stuck
          | some c4 => .ok (.fz res) c4) else .stuck
/-- .. without arguments: also of a new object that nobody keeps -/
def mMut0 (T : String) (g : D → List D → Option (D × D)) (mo : Em) : Em := fun c => (mo c).bind fun r c1 =>
  match r with
  | .nw d => if tyD T d then (match g d [] with
    | none => .stuck
    | some (_, res) => .ok (.fz res) c1) else .stuck
  | r => match cont c1 r with
    | none => .stuck
    | some d => if tyD T d then (match g d [] with
      | none => .stuck
      | some (d', res) => match putB c1 r d' with
        | none => .stuck
        | some c4 => .ok (.fz res) c4) else .stuck
section
variable {X : Cx} {E : En} {η η' : List Addr} {M M' H H' : Hp} {c c' : Cf} {σ σ' : St} {o e a b : Expr} {es : List Expr} {mo me ma mb : Em} {ms : Cf → Res (List Rv)} {name : Str} {apos cpos pos pos' : Pos} {T id : String} {g : D → List D → Option (D × D)}
theorem ex_mut (hm : OpM X id g) (pa : PlainAttrs T) (slot : Slot T name id) (hty : typeOf (.builtin id) = pure (.type "method_descriptor")) (ho : Ex X o mo) (ha : Ax X (e :: es) ms)
    (hbase : attributeBase o name X.env (eval o X.env) = eval o X.env := by rfl)
    (hfew : ((backTo cpos (starEach (e :: es) X.env)).all (fun x => !x.1) && (backToKw cpos (keywordEach [] X.env)).all (fun x => x.1.isSome)
      && decide ((e :: es).length + ([] : List Keyword).length + (if ([] : List Keyword).isEmpty then 0 else 1) < 30)) = true := by rfl)
    (hline : (apos.endLine == cpos.line) = true := by rfl) (hs : starEach (e :: es) X.env = (false, eval e X.env) :: starEach es X.env := by rfl) (hplain : (backTo cpos (starEach es X.env)).any (·.1) = false := by rfl) :
    Ex X (.Call (.Attribute o name apos) (e :: es) [] cpos) (mMut T g mo ms) := by
  refine ⟨fun E η M c σ H s => ?_⟩
  refine Out.bind (fun x H1 Q => tyV X.K T x H1 ∧ Wa X (e :: es) σ H1 fun xs H2 => Wm X id x xs H2 Q) (ho E η M c σ H s) (fun Q hq => pe_we (pe_bm pa slot hty wm_mt we_pe wa_pa hbase hfew hline hs hplain) hq) fun r c1 x η1 M1 H1 s1 x1 z1 => ?_
  cases e1 : cont c1 r with
  | none => trivial
  | some d1 =>
    dsimp only
    cases ht : tyD T d1 with
    | false => rw [if_neg Bool.false_ne_true]; trivial
    | true =>
      rw [if_pos rfl]
      obtain ⟨a1, rfl, _, ha1, _⟩ := cont_ok s1 z1 e1
      refine Out.bind (R := RVs X.K X.mg) (fun xs H2 Q => Wm X id (.ref a1) xs H2 Q) (ha E η1 M1 c1 σ H1 s1) (fun Q hq => ⟨tyD_ok ha1 ht, hq⟩) fun rs c2 xs η2 M2 H2 s2 x2 z2 => ?_
      cases e2 : vals c2 rs with
      | none => trivial
      | some q =>
        obtain ⟨ds, c3⟩ := q
        dsimp only
        cases e3 : cont c3 r with
        | none => trivial
        | some d =>
          dsimp only
          cases e4 : g d ds with
          | none => trivial
          | some p =>
            obtain ⟨d', res⟩ := p
            dsimp only
            cases e5 : putB c3 r d' with
            | none => trivial
            | some c4 =>
              obtain ⟨M3, s3, x3, r3⟩ := vals_ok s2 z2.1 z2.2 e2
              obtain ⟨a2, ea, _, ha2, wr⟩ := cont_ok s3 (z1.keep (c' := c3) (x2.trans x3) (cont_settled e1)) e3
              cases ea
              refine out_ext x3 fun Q hQ => hm η2 M3 H2 a1 xs d ds d' res s3.sub ha2 r3 e4 Q fun v o hA hr => ?_
              exact hQ v η2 M3 _ (wr o d' c4 hA e5) .refl hr
theorem ex_mut0 (hm : OpM X id g) (pa : PlainAttrs T) (slot : Slot T name id) (hty : typeOf (.builtin id) = pure (.type "method_descriptor")) (ho : Ex X o mo)
    (hbase : attributeBase o name X.env (eval o X.env) = eval o X.env := by rfl) (hline : (apos.endLine == cpos.line) = true := by rfl) : Ex X (.Call (.Attribute o name apos) [] [] cpos) (mMut0 T g mo) := by
  refine ⟨fun E η M c σ H s => ?_⟩
  refine Out.bind (fun x H1 Q => tyV X.K T x H1 ∧ Wm X id x [] H1 Q) (ho E η M c σ H s) (fun Q hq => pe_we (pe_bm0 pa slot hty wm_mt we_pe hbase hline) hq) fun r c1 x η1 M1 H1 s1 x1 z1 => ?_
  have plain : Settled r → Out X (RV X.K X.mg) (fun Q => tyV X.K T x H1 ∧ Wm X id x [] H1 Q) E η1 M1 σ (match cont c1 r with
    | none => .stuck
    | some d => if tyD T d then (match g d [] with
      | none => .stuck
      | some (d', res) => match putB c1 r d' with
        | none => .stuck
        | some c4 => .ok (.fz res) c4) else .stuck) := fun _ => by
    cases e1 : cont c1 r with
    | none => trivial
    | some d =>
      dsimp only
      cases ht : tyD T d with
      | false => rw [if_neg Bool.false_ne_true]; trivial
      | true =>
        rw [if_pos rfl]
        cases e4 : g d [] with
        | none => trivial
        | some p =>
          obtain ⟨d', res⟩ := p
          dsimp only
          cases e5 : putB c1 r d' with
          | none => trivial
          | some c4 =>
            obtain ⟨a1, rfl, _, ha1, wr⟩ := cont_ok s1 z1 e1
            exact fun Q hQ => ⟨tyD_ok ha1 ht, hm η1 M1 H1 a1 [] d [] d' res s1.sub ha1 .nil e4 Q fun v o hA hr => hQ v η1 M1 _ (wr o d' c4 hA e5) .refl hr⟩
  cases r with
  | loc i => exact plain trivial
  | fz d => exact plain trivial
  | nw d =>
    dsimp only
    cases ht : tyD T d with
    | false => rw [if_neg Bool.false_ne_true]; trivial
    | true =>
      rw [if_pos rfl]
      cases e4 : g d [] with
      | none => trivial
      | some p =>
        obtain ⟨d', res⟩ := p
        obtain ⟨a1, rfl, h1, h2, h3, h4, h5⟩ := z1
        exact fun Q hQ => ⟨tyD_ok h5 ht, hm η1 M1 H1 a1 [] d [] d' res s1.sub h5 .nil e4 Q fun v o hA hr => hQ v η1 M1 _ (s1.writeTmp h1 h2 h3 h4) .refl hr⟩

/-! ### the methods -/
def gAppend (d : D) (ds : List D) : Option (D × D) := match d, ds with
  | .lst xs, [y] => if xs.length < sizeLine then some (.lst (xs ++ [y]), .non) else none
  | _, _ => none
theorem m_append : OpM X "list.append" gAppend := by
  intro η M H a xs d ds d' res hs hA hr e Q hQ
  unfold gAppend at e
  split at e
  · split at e
    · cases e
      obtain ⟨ys, hy, r⟩ := hA
      cases hr with
      | cons h1 h2 =>
        cases h2
        exact mt_wm mt_append ⟨a, ys, _, rfl, rfl, hy, by rw [r.length]; assumption, hQ _ _ ⟨_, upd_same, r.append (.cons h1 .nil)⟩ .non⟩
    · cases e
  · cases e
def gExtend (d : D) (ds : List D) : Option (D × D) := match d, ds with
  | .lst xs, [.lst ys] => if xs.length + ys.length ≤ sizeLine then some (.lst (xs ++ ys), .non) else none
  | _, _ => none
theorem m_extend : OpM X "list.extend" gExtend := by
  intro η M H a xs d ds d' res hs hA hr e Q hQ
  unfold gExtend at e
  split at e
  · split at e
    · cases e
      obtain ⟨ys, hy, r⟩ := hA
      cases hr with
      | cons h1 h2 =>
        cases h2
        cases h1 with
        | lst hq hr' => exact mt_wm mt_extend ⟨a, _, ys, _, rfl, rfl, hy, hs _ _ hq, by rw [r.length, hr'.length]; assumption, hQ _ _ ⟨_, upd_same, r.append hr'⟩ .non⟩
    · cases e
  · cases e
def gPop (d : D) (ds : List D) : Option (D × D) := match d, ds with
  | .lst xs, [] => (xs[xs.length - 1]?).map fun y => (.lst xs.dropLast, y)
  | .lst xs, [.int i] => if -(2 ^ 63) ≤ i ∧ i < 2 ^ 63 then (seqIndex? i xs.length).bind fun k => (xs[k]?).map fun y => (.lst (xs.eraseIdx k), y) else none
  | _, _ => none
theorem RepL.dropLast {K : Fg} {mg : Mg} {η : List Addr} {M : Hp} {ds : List D} {vs : List V} (h : RepL K mg η M vs ds) : RepL K mg η M vs.dropLast ds.dropLast := by
  rw [List.dropLast_eq_take, List.dropLast_eq_take, h.length]
  exact h.take _
theorem m_pop : OpM X "list.pop" gPop := by
  intro η M H a xs d ds d' res hs hA hr e Q hQ
  unfold gPop at e
  split at e
  · obtain ⟨y, e1, e2⟩ := Option.map_eq_some_iff.mp e
    cases e2
    obtain ⟨ys, hy, r⟩ := hA
    cases hr
    obtain ⟨v, hv, rv⟩ := r.getD' e1
    exact mt_wm mt_pop ⟨a, ys, v, rfl, rfl, hy, by rw [r.length]; exact hv, hQ _ _ ⟨_, upd_same, r.dropLast⟩ rv⟩
  · split at e
    · rename_i hb
      obtain ⟨k, e0, e'⟩ := Option.bind_eq_some_iff.mp e
      obtain ⟨y, e1, e2⟩ := Option.map_eq_some_iff.mp e'
      cases e2
      obtain ⟨ys, hy, r⟩ := hA
      cases hr with
      | cons h1 h2 =>
        cases h2
        cases h1
        obtain ⟨v, hv, rv⟩ := r.getD' e1
        exact mt_wm mt_popAt ⟨a, ys, _, k, v, rfl, rfl, hy, hb.1, hb.2, by rw [r.length]; exact e0, hv, hQ _ _ ⟨_, upd_same, r.eraseIdx k⟩ rv⟩
    · cases e
  · cases e
def gReverse (d : D) (ds : List D) : Option (D × D) := match d, ds with
  | .lst xs, [] => some (.lst xs.reverse, .non)
  | _, _ => none
theorem m_reverse : OpM X "list.reverse" gReverse := by
  intro η M H a xs d ds d' res hs hA hr e Q hQ
  unfold gReverse at e
  split at e
  · cases e
    obtain ⟨ys, hy, r⟩ := hA
    cases hr
    exact mt_wm mt_reverse ⟨a, ys, rfl, rfl, hy, hQ _ _ ⟨_, upd_same, r.reverse⟩ .non⟩
  · cases e
def gClear (d : D) (ds : List D) : Option (D × D) := match d, ds with
  | .lst xs, [] => some (.lst [], .non)
  | _, _ => none
theorem m_clear : OpM X "list.clear" gClear := by
  intro η M H a xs d ds d' res hs hA hr e Q hQ
  unfold gClear at e
  split at e
  · cases e
    obtain ⟨ys, hy, r⟩ := hA
    cases hr
    exact mt_wm mt_clear ⟨a, ys, rfl, rfl, hy, hQ _ _ ⟨_, upd_same, .nil⟩ .non⟩
  · cases e

/-! ### stores by place -/
/-- o[i] = v: g content key value -/
def sPut (g : D → D → D → Option D) (mv mo mi : Em) : Sm := fun c => (mv c).st.bind fun rv c1 => (mo c1).st.bind fun ro c2 => (mi c2).bind fun ri c3 =>
  match view c3 ri with
  | none => .stuck
  | some di => match toVal c3 rv with
    | none => .stuck
    | some (dv, c4) => match cont c4 ro with
      | none => .stuck
      | some d => match g d di dv with
        | none => .stuck
        | some d' => match putB c4 ro d' with
          | none => .stuck
          | some c5 => .ok .nx c5
theorem out_sPut {g : D → D → D → Option D} {mv mo mi : Em} {value o i : Expr} {tw : Ends → Prop} (k : V → V → V → Hp → Ends → Prop)
    (hv : Ex X value mv) (ho : Ex X o mo) (hi : Ex X i mi) (s : SR X.K X.mg E η M c σ H)
    (imp : ∀ Z : Ends, We X value σ H (fun v H1 => We X o σ H1 fun x H2 => We X i σ H2 fun y H3 => k v x y H3 Z) → tw Z)
    (hk : ∀ η M H a v y d di dv d', Same M H → At X.K X.mg η M H a d → VwR X.K X.mg η M H y di → Rep X.K X.mg η M v dv → g d di dv = some d' → ∀ Z : Ends, (∀ o, At X.K X.mg η M (upd H a o) a d' → Z.nx σ (upd H a o)) → k v (.ref a) y H Z) :
    OutS X tw E η M (sPut g mv mo mi c) := by
  refine OutS.bind (R := RVst X.K X.mg) (fun v H1 Z => We X o σ H1 fun x H2 => We X i σ H2 fun y H3 => k v x y H3 Z) (out_st (hv E η M c σ H s)) imp fun rv c1 v η1 M1 H1 s1 x1 z1 => ?_
  refine OutS.bind (R := RVst X.K X.mg) (fun x H2 Z => We X i σ H2 fun y H3 => k v x y H3 Z) (out_st (ho E η1 M1 c1 σ H1 s1)) (fun Z hq => hq) fun ro c2 x η2 M2 H2 s2 x2 z2 => ?_
  refine OutS.bind (fun y H3 Z => k v x y H3 Z) (hi E η2 M2 c2 σ H2 s2) (fun Z hq => hq) fun ri c3 y η3 M3 H3 s3 x3 z3 Z gd => ?_
  cases e1 : view c3 ri with
  | none => rw [e1] at gd; exact gd.elim
  | some di =>
    rw [e1] at gd
    dsimp only at gd
    cases e2 : toVal c3 rv with
    | none => rw [e2] at gd; exact gd.elim
    | some q =>
      obtain ⟨dv, c4⟩ := q
      rw [e2] at gd
      dsimp only at gd
      cases e3 : cont c4 ro with
      | none => rw [e3] at gd; exact gd.elim
      | some d =>
        rw [e3] at gd
        dsimp only at gd
        cases e4 : g d di dv with
        | none => rw [e4] at gd; exact gd.elim
        | some d' =>
          rw [e4] at gd
          dsimp only at gd
          cases e5 : putB c4 ro d' with
          | none => rw [e5] at gd; exact gd.elim
          | some c5 =>
            rw [e5] at gd
            have vy := view_ok s3 z3 e1
            obtain ⟨M4, s4, x4, r4⟩ := toVal_ok s3 (z1.2.keep (x2.trans x3) z1.1) e2
            obtain ⟨a, rfl, _, ha, wr⟩ := cont_ok s4 (z2.2.keep (c' := c4) (x3.trans x4) z2.1) e3
            exact hk η3 M4 H3 a v y d di dv d' s4.sub ha (vy.mono x4 fun _ _ z => z) r4 e4 Z fun o hA => gd σ η3 M4 _ (wr o d' c5 hA e5) x4
def gDput (d di dv : D) : Option D := match d with
  | .dct kvs => match keyD di with
    | some k => if kvs.length < sizeLine then some (.dct (setK kvs k dv)) else none
    | none => none
  | .dcT kvs => match di with
    | .tup ds => match keysD ds with
      | some ks => if kvs.length < sizeLine then some (.dcT (setK kvs ks dv)) else none
      | none => none
    | _ => none
  | _ => none
theorem sx_dput {value i : Expr} {mv mi : Em} (hu : X.A.units + 1 < cLine) (ho : Ex X o mo) (hi : Ex X i mi) (hv : Ex X value mv) (hs : swapsWith value (some (.Subscript o i pos')) pos.line X.env = pure false := by rfl) :
    Sx X (.Assign [.Subscript o i pos'] value pos) (sPut gDput mv mo mi) := by
  refine ⟨fun E η M c σ H s => ?_⟩
  refine out_sPut (fun v x y H3 Z => ∃ a H4, x = .ref a ∧ DPut H3 a y v H4 ∧ Z.nx σ H4) hv ho hi s (fun Z hq => ps_ws (ps_dput hu we_pe we_pe we_pe hs) hq) fun η M H a v y d di dv d' hs hA hy hr e Z hz => ?_
  unfold gDput at e
  cases d with
  | dct kvs =>
    dsimp only at e
    cases q : keyD di with
    | none => rw [q] at e; cases e
    | some k =>
      rw [q] at e
      dsimp only at e
      split at e
      · cases e
        obtain ⟨vs, h1, h2, h3⟩ := hA
        obtain ⟨k1, k2⟩ := rep_setK (k := k) hr h2 h3
        rw [rep_key hy q]
        exact ⟨a, _, rfl, DPut.k h1 (by rw [keys_len h2]; assumption), hz _ ⟨_, upd_same, k1, k2⟩⟩
      · cases e
  | dcT kvs =>
    cases di with
    | tup ds =>
      dsimp only at e
      cases q : keysD ds with
      | none => rw [q] at e; cases e
      | some ks =>
        rw [q] at e
        dsimp only at e
        split at e
        · cases e
          obtain ⟨vs, h1, h2, h3⟩ := hA
          obtain ⟨k1, k2⟩ := rep_setK (k := ks) hr h2 h3
          obtain ⟨b, ys, rfl, g1, g2⟩ := hy.tup hs
          rw [repL_keys g2 q] at g1
          exact ⟨a, _, rfl, DPut.t h1 g1 (by rw [keys_len h2]; assumption), hz _ ⟨_, upd_same, k1, k2⟩⟩
        · cases e
    | _ => cases e
  | _ => cases e
def gLput (d di dv : D) : Option D := match d, di with
  | .lst xs, .int k => (ixN xs.length k).map fun j => .lst (xs.set j dv)
  | _, _ => none
theorem sx_lput {value i : Expr} {mv mi : Em} (ho : Ex X o mo) (hi : Ex X i mi) (hv : Ex X value mv)
    (ha : ∀ v, assign (.Subscript o i pos') X.env v = (do
      let ov ← holding [v] (eval o X.env)
      let iv ← holding [v, ov] (eval i X.env)
      standAt pos'
      holding [v, ov, iv] (setItem ov iv v)
      release [v, ov, iv] []) := by intro _; rfl)
    (hs : swapsWithSole [.Subscript o i pos'] value pos.line X.env = pure false := by rfl) (hw : swappedStores [.Subscript o i pos'] value X.env = pure none := by rfl)
    (h1 : (assignEach [.Subscript o i pos'] X.env).map (·.2) = [assign (.Subscript o i pos') X.env] := by rfl) :
    Sx X (.Assign [.Subscript o i pos'] value pos) (sPut gLput mv mo mi) := by
  refine ⟨fun E η M c σ H s => ?_⟩
  refine out_sPut (fun v x y H3 Z => rSetL x y v H3 fun H4 => Z.nx σ H4) hv ho hi s (fun Z hq => ps_ws (ps_asg we_pe (pg_sub we_pe we_pe set_list ha) hs hw h1) hq) fun η M H a v y d di dv d' hs hA hy hr e Z hz => ?_
  unfold gLput at e
  split at e
  · obtain ⟨j, e1, e2⟩ := Option.map_eq_some_iff.mp e
    cases e2
    obtain ⟨xs, h1, h2⟩ := hA
    rw [hy.int]
    exact ⟨a, xs, _, j, rfl, rfl, h1, by rw [h2.length]; exact e1, hz _ ⟨_, upd_same, h2.set j hr⟩⟩
  · cases e

/-! ### op= at a name -/
def sAug (i : Nat) (g : D → D → Option Rv) (me : Em) : Sm := fun c => match c.ρ[i]? with
  | some (.fz d0) => (me c).st.bind fun r c1 => (m2 g (.fz d0) r c1).bind fun r2 c2 => match putR i r2 c2 with
    | some c3 => .ok .nx c3
    | none => .stuck
  | _ => .stuck
theorem sx_aug {x : Str} {op : Operator} {g : D → D → Option Rv} (i : Nat) (hN : X.N.Nodup) (hg : Op2 X (Wo X (inplaceOp op)) g) (he : Ex X e me) (hi : X.N[i]? = some x := by rfl) (hx : Loc X.env.scope x := by first | exact Or.inl rfl | exact Or.inr rfl) (hf : X.fn x = true ∨ X.env.scope.names.lookup x = some .local := by first | exact .inl rfl | exact .inr rfl | assumption) :
    Sx X (.AugAssign (.Name x pos') op e pos) (sAug i g me) := by
  refine ⟨fun E η M c σ H s Z gd => ?_⟩
  unfold sAug at gd
  cases q : c.ρ[i]? with
  | none => rw [q] at gd; exact gd.elim
  | some sl =>
    rw [q] at gd
    cases sl with
    | fz d0 =>
      dsimp only at gd
      obtain ⟨x0, hx0, r0⟩ := s.slot i _ q
      have key : OutS X (fun Z => We X e σ H fun y H1 => Wo X (inplaceOp op) x0 y H1 fun z H2 => Z.nx (σ.set i (some z)) H2) E η M ((me c).st.bind fun r c1 => (m2 g (.fz d0) r c1).bind fun r2 c2 => match putR i r2 c2 with | some c3 => .ok .nx c3 | none => .stuck) := by
        refine OutS.bind (R := RVst X.K X.mg) (fun y H1 Z => Wo X (inplaceOp op) x0 y H1 fun z H2 => Z.nx (σ.set i (some z)) H2) (out_st (he E η M c σ H s)) (fun Z hq => hq) fun r c1 y η1 M1 H1 s1 x1 z1 => ?_
        have o := out_m2 hg s1 (show RvR X.K X.mg E η1 M1 c1 σ H1 x0 (.fz d0) from r0.mono x1) z1.2
        exact out_put o fun Z hq => hq
      have h := key Z gd
      exact ps_ws (ps_aug hN hi hx we_pe (fun pins s σ H x y v u Q I r1 r2 h => wo_op pins s σ H x y v u Q I r1 r2 h) hf) ⟨x0, hx0, h⟩
    | _ => exact gd.elim
def gIAdd (a b : D) : Option Rv := match a, b with
  | .int i, .int j => some (.fz (.int (i + j)))
  | .str x, .str y => if x.length + y.length ≤ sizeLine then some (.fz (.str (x ++ y))) else none
  | _, _ => none
theorem i_add : Op2 X (Wo X (inplaceOp .Add)) gIAdd := by
  intro E η M c σ H x y dx dy r s h1 h2 e Q hQ
  unfold gIAdd at e
  split at e
  · cases e; exact op_wo iop_add ⟨_, _, h1.int, h2.int, pst_fz s hQ (.int _)⟩
  · split at e
    · cases e; exact op_wo iop_add_str ⟨_, _, h1.str, h2.str, by assumption, pst_fz s hQ (.str _)⟩
    · cases e
  · cases e
theorem i_sub : Op2 X (Wo X (inplaceOp .Sub)) gSub := by
  intro E η M c σ H x y dx dy r s h1 h2 e Q hQ
  unfold gSub at e
  split at e
  · cases e; exact op_wo iop_sub ⟨_, _, h1.int, h2.int, pst_fz s hQ (.int _)⟩
  · cases e

/-! ### k in d -/
def gInD (neg : Bool) (a b : D) : Option Rv := match b with
  | .dct kvs => match keyD a with
    | some k => some (.fz (.bl ((getK kvs k).isSome != neg)))
    | none => none
  | .dcT kvs => match a with
    | .tup ds => match keysD ds with
      | some ks => some (.fz (.bl ((getK kvs ks).isSome != neg)))
      | none => none
    | _ => none
  | _ => none
theorem dget_of {x y : V} {di d : D} {neg : Bool} {r : Rv} (hs : Same M H) (h1 : VwR X.K X.mg η M H x di) (h2 : VwR X.K X.mg η M H y d) (e : gInD neg di d = some r) : ∃ a o, y = .ref a ∧ DGet H a x o ∧ r = .fz (.bl (o.isSome != neg)) := by
  unfold gInD at e
  cases d with
  | dct kvs =>
    dsimp only at e
    cases q : keyD di with
    | none => rw [q] at e; cases e
    | some k =>
      rw [q] at e
      cases e
      obtain ⟨a, vs, rfl, q1, q2, q3⟩ := h2.dct hs
      obtain ⟨i1, i2⟩ := rep_getK (k := k) q2 q3
      refine ⟨a, valV vs k, rfl, by rw [rep_key h1 q]; exact DGet.k q1, ?_⟩
      cases g : getK kvs k with
      | none => rw [i2 g]; rfl
      | some d => obtain ⟨v, hv, _⟩ := i1 d g; rw [hv]; rfl
  | dcT kvs =>
    cases di with
    | tup ds =>
      dsimp only at e
      cases q : keysD ds with
      | none => rw [q] at e; cases e
      | some k =>
        rw [q] at e
        cases e
        obtain ⟨a, vs, rfl, q1, q2, q3⟩ := h2.dcT hs
        obtain ⟨i1, i2⟩ := rep_getK (k := k) q2 q3
        obtain ⟨b, ys, rfl, g1, g2⟩ := h1.tup hs
        rw [repL_keys g2 q] at g1
        refine ⟨a, valV vs k, rfl, DGet.t q1 g1, ?_⟩
        cases g : getK kvs k with
        | none => rw [i2 g]; rfl
        | some d => obtain ⟨v, hv, _⟩ := i1 d g; rw [hv]; rfl
    | _ => cases e
  | _ => cases e
theorem ex_inD (hu : X.A.units + 1 < cLine) (ha : Ex X a ma) (hb : Ex X b mb) (h1 : behindInMarks .In b = false := by rfl) : Ex X (.Compare a [.In] [b] pos) (mBin (gInD false) ma mb) :=
  ex_two (w := fun x y H Q => ∃ p o, y = .ref p ∧ DGet H p x o ∧ Q (.bl o.isSome) H) (fun E η M c σ H x y dx dy r s h1 h2 e Q hQ => by
    obtain ⟨p, o, e1, e2, e3⟩ := dget_of s.sub h1 h2 e
    subst e3
    exact ⟨p, o, e1, e2, by simpa using pst_fz s hQ (.bl _)⟩) (pe_cmp (pc_din hu we_pe we_pe) h1) (fun _ _ _ h => h) ha hb
theorem ex_notinD (hu : X.A.units + 1 < cLine) (ha : Ex X a ma) (hb : Ex X b mb) (h1 : behindInMarks .NotIn b = false := by rfl) : Ex X (.Compare a [.NotIn] [b] pos) (mBin (gInD true) ma mb) :=
  ex_two (w := fun x y H Q => ∃ p o, y = .ref p ∧ DGet H p x o ∧ Q (.bl (!o.isSome)) H) (fun E η M c σ H x y dx dy r s h1 h2 e Q hQ => by
    obtain ⟨p, o, e1, e2, e3⟩ := dget_of s.sub h1 h2 e
    subst e3
    exact ⟨p, o, e1, e2, by simpa using pst_fz s hQ (.bl _)⟩) (pe_cmp (pc_dnotin hu we_pe we_pe) h1) (fun _ _ _ h => h) ha hb
end
end LH
/-! LHEnd: a law's end; repr. -/
namespace LH
open PySem PySem.Spec PyProof.Rows L2

/-! ### the law's own call -/
theorem repL_intsN {K : Fg} {mg : Mg} {η : List Addr} {M : Hp} : ∀ ns : List Int, RepL K mg η M (ns.map V.int) (ns.map D.int)
  | [] => .nil
  | n :: ns => .cons (.int n) (repL_intsN ns)
theorem sr_first {K : Fg} {mg : Mg} (H : Hp) : SR K mg ⟨H, [], H⟩ [] H ⟨[], []⟩ [] H :=
  ⟨Same.refl H, rfl, fun i t e => by simp at e, fun i j a d d' e => by simp at e, rfl, fun n a d e => by simp at e, List.nodup_nil, fun a o e _ => e, ⟨[], rfl⟩, fun a h => .inl h, Same.refl H, fun a h _ => h⟩
/-- the law, run with a script: True -/
def LawTrue (n : Nat) (F : Fm) : Prop := ∀ ns : List Int, ns.length ≤ n → ∃ c, F [.ro (ns.map D.int)] [] = .ok (.fz (.bl true)) c
theorem law_callG {P : Program} {w : World} {K : Fg} {mg mb : Mg} {k n : Nat} {fa a : Addr} {fd : FuncData} {x : Str} {F : Fm} {s₁ : Shared} {vs : List Value} {ns : List Int}
    (KX : K.In s₁.heap) (hns : s₁.heap.Ns mainGlobals mg) (hb : s₁.heap.Ns builtinsNs mb) (hbb : ∀ x : Str, x ≠ "__name__" → mb x = bootBuiltins x) (hlim : s₁.heap.NoLimit) (hg : s₁.gens = #[])
    (ha : s₁.heap.get? a = some { cls := .type "list", data := .seq vs.toArray }) (hi : IntsAre vs ns) (hl : ns.length ≤ sizeLine) (hn : ns.length ≤ n) (hr : RmG k callerA)
    (G : ∀ base : Heap, K.In base → base.Ns mainGlobals mg → FnG P w K mg base (L2.CX P w) k fa fd [x] (spF K mg 1 F)) (hbind : ∀ (s : Shared) (u : Value), BindsTo s fd ⟨[u], []⟩ [(x, u)]) (L : LawTrue n F) :
    codeAny (model P w) callerA (.call (.ref fa) ⟨[.ref a], []⟩) (fun r s' => r = .ok (.ret (.bool true)) ∧ OldK s₁.heap s'.heap ∧ s'.os = s₁.os ∧ AllBare s'.gens) s₁ := by
  have rv := vals_ints hi
  have go : ∀ H : Hp, Only H → SqL K H a (ns.map V.int) → HOk P w H s₁.heap → (∀ b, H b ≠ none → b = a ∧ K.lookup a = none) →
      codeAny (model P w) callerA (.call (.ref fa) ⟨[.ref a], []⟩) (fun r s' => r = .ok (.ret (.bool true)) ∧ OldK s₁.heap s'.heap ∧ s'.os = s₁.os ∧ AllBare s'.gens) s₁ := by
    intro H hO hS hok hA
    have off : ∀ {b : Addr} {o : Obj}, s₁.heap.get? b = some o → (H b ≠ none → o ≠ { cls := .type "list", data := .seq vs.toArray }) → (hidT s₁.heap H).get? b = some o := fun {b o} e hz => hidT_get e (by
      cases q : H b with
      | none => rfl
      | some u =>
        have hb : H b ≠ none := by rw [q]; simp
        obtain rfl := (hA b hb).1
        rw [ha] at e
        exact absurd (Option.some.inj e).symm (hz hb))
    have nsK : ∀ {b : Addr} {m : Str → Option Value}, s₁.heap.Ns b m → (hidT s₁.heap H).Ns b m := fun {b m} ⟨o, es, ep, e, d, r⟩ => ⟨o, es, ep, off e (fun _ z => by subst z; cases d), d, r⟩
    have hKb : K.In (hidT s₁.heap H) := fun b o e => hidT_get (KX b o e) (by
      cases q : H b with
      | none => rfl
      | some u =>
        obtain ⟨rfl, z⟩ := hA b (by rw [q]; simp)
        rw [z] at e; cases e)
    have hM : Mod K mg (hidT s₁.heap H) := ⟨hKb, nsK hns, ⟨mb, nsK hb, hbb⟩, let ⟨mc, h1, h2⟩ := hlim; ⟨mc, nsK h1, h2⟩⟩
    have e0 : Env0 P w K mg (hidT s₁.heap H) callerA [] s₁ H := ⟨rfl, hM, fun b o e => of_hidT e, Nat.le_of_eq (hidT_size _ _), trivial, fun b hb => absurd (show b ∈ ([] : List Addr) from hb) (by simp), hok, .of_eq hg⟩
    obtain ⟨c, hc⟩ := L ns hn
    have hsp : spF K mg 1 F [.ref a] H (fun v _ => v = .bl true) fun _ _ _ => False := by
      refine ⟨rfl, [], H, [.ro (ns.map D.int)], [], sr_first H, .cons (.ro hS (repL_intsN ns)) .nil, ?_⟩
      rw [hc]
      intro v η' M' H' _ z
      cases z
      rfl
    refine codeAny_mono ((G _ hKb (nsK hns)).run callerA [] s₁ H ⟨[.ref a], []⟩ [.ref a] [.ref a] _ _ hr e0 (hbind s₁ (.ref a)) (.cons rfl .nil) hsp) fun r s' h => ?_
    cases r with
    | error e =>
      obtain ⟨_, _, _, _, _, _, _, _, _, _, _, _, z⟩ := h
      exact z.elim
    | ok fl =>
      cases fl with
      | next => exact False.elim h
      | brk => exact False.elim h
      | cont => exact False.elim h
      | ret u =>
        obtain ⟨v, H', os, bare, un, hok', r', q⟩ := h
        have q' : v = .bl true := q
        subst q'
        obtain rfl : u = Value.bool true := r'
        refine ⟨rfl, OldK.of_keep fun b o e => ?_, os, bare⟩
        cases q : H b with
        | none => exact un.keep b o e q (by intro z; exact absurd (show b ∈ ([] : List Addr) from z) (by simp)) (by simp)
        | some u =>
          rcases hO b with z | ⟨ob, xs, z⟩
          · rw [q] at z; cases z
          · obtain ⟨e1, _⟩ := hok b _ z
            obtain ⟨e2, _⟩ := hok' b _ (un.frzs b ob _ z)
            rw [e] at e1; cases e1
            exact e2
  cases hk : K.lookup a with
  | some o =>
    have e := KX a o hk
    rw [ha] at e
    cases e
    exact go (fun _ => none) (fun _ => .inl rfl) (.inr ⟨_, vs.toArray, _, hk, rfl, rfl, rfl, by rw [List.size_toArray, hi.length]; exact hl, by simpa using rv⟩) (fun b u z => nomatch (show (none : Option HO) = some u from z)) (fun b z => absurd rfl z)
  | none =>
    have hH : ∀ b, (fun b => if b = a then some (.frz { cls := .type "list", data := .seq vs.toArray } (.lst (ns.map V.int))) else none : Hp) b ≠ none → b = a := fun b z => by
      by_cases hb : b = a
      · exact hb
      · exact absurd (if_neg hb) z
    refine go (fun b => if b = a then some (.frz { cls := .type "list", data := .seq vs.toArray } (.lst (ns.map V.int))) else none) (fun b => ?_) (.inl (.inr ⟨_, if_pos rfl⟩)) (fun b u z => ?_) (fun b z => ⟨hH b z, hk⟩)
    · by_cases hb : b = a
      · exact .inr ⟨_, _, if_pos hb⟩
      · exact .inl (if_neg hb)
    · by_cases hb : b = a
      · have z' := (if_pos hb).symm.trans z
        cases z'
        subst hb
        exact ⟨ha, by rw [List.length_map]; exact hl, vs, _, rv, ha⟩
      · have z' := (if_neg hb).symm.trans z
        cases z'
theorem walkG {l : PySem.W.OpenLaw} {n k : Nat} {q : Program} {loose : List Str} {XP : (Str → Option Value) → Heap → Prop} {YP : World → Heap → Prop} {d : DefRec} {K : Params → Fg} {F : Fm} {x : Str}
    (hn : l.most = some n) (hn2 : n ≤ sizeLine) (hdf : d.params.defaults = []) (hr : RmG k callerA) (hY : ∀ (w : World) (h : Heap), YP w h → (K w.params).In h) (L : LawTrue n F)
    (G : ∀ (w : World) (mg : Str → Option Value) (fa : Addr) (h : Heap), (K w.params).In h → h.Ns mainGlobals mg → mg d.name = some (.ref fa) →
      ∃ fd : FuncData, (∀ (s : Shared) (u : Value), BindsTo s fd ⟨[u], []⟩ [(x, u)]) ∧
        ∀ base : Heap, (K w.params).In base → base.Ns mainGlobals mg → FnG l.prog w (K w.params) mg base (L2.CX l.prog w) k fa fd [x] (spF (K w.params) mg 1 F)) :
    PySem.W.WalkO q loose XP YP l.row.toRowW d [] (fun f vs => PySem.call f vs) := by
  refine Att.attach_call hn hdf fun w s₀ s₁ mg mb fa o pm cd doc a vs ns T Y ho hd hcd hmg hobj hints hlen hg => ?_
  have KX := hY w _ Y
  obtain ⟨fd, hb, hF⟩ := G w mg fa _ KX T.T.g hmg
  exact law_callG KX T.T.g T.T.b T.T.builtins T.T.nolimit hg hobj hints (Nat.le_trans hlen hn2) hlen hr hF hb L

/-! ### repr -/
def shownP (p : PyData) : Option Str := if p.showable && !p.hasDict && decide (p.depth ≤ 64) && decide (p.shown.length ≤ sizeLine) then some p.shown else none
def shownD (d : D) : Option Str := (toPy d).bind shownP
def gRepr (d : D) : Option Rv := (shownD d).map fun t => .fz (.str t)
section
variable {X : Cx}
theorem call_reprD (hg : X.A.guards = some []) (hu : X.A.units + 66 < cLine) : CallR X (.builtin "repr") (fun xs H Q => ∃ v p t, xs = [v] ∧ Dp X.K H v p ∧ shownP p = some t ∧ Q (.str t) H) := by
  intro pins s σ H xs us Q I r h
  obtain ⟨v, p, t, rfl, hd, ht, q⟩ := h
  obtain ⟨u, rfl, ru⟩ := vals1 r
  obtain ⟨as, hr⟩ := Dp.reads I p v u hd ru
  unfold shownP at ht
  split at ht
  · rename_i hc
    cases ht
    simp only [Bool.and_eq_true, Bool.not_eq_true', decide_eq_true_eq] at hc
    obtain ⟨⟨⟨h1, h2⟩, h3⟩, h4⟩ := hc
    have fin : ∀ tk, EP X pins σ Q (.str p.shown tk) { s with toks := s.toks + 1 } := fun tk => ⟨.str _, H, I.tok _, ⟨tk, rfl⟩, q⟩
    cases hr with
    | none => exact PySem.P.repr_of_none (fin _)
    | bool b => exact PySem.P.repr_of_bool (by have := fin s.toks; cases b <;> simpa [PyData.shown] using this)
    | int i t => exact PySem.P.repr_of_int (by simpa [PyData.showable] using h1) (fin _)
    | str x t => exact PySem.P.repr_of_str (fin _) (by simpa [PyData.shown] using h4)
    | list a1 a2 a3 a4 =>
      exact repr_of_reads' (.list a1 a2 a3 a4) h1 (fun z => by rw [h2] at z; cases z) hg (by omega) (fun _ _ e => e) (fun h' tu tk hk => ⟨.str _, H, I.kept hk, ⟨tu, rfl⟩, q⟩) h4
    | tuple a1 a2 a3 a4 =>
      exact repr_of_reads' (.tuple a1 a2 a3 a4) h1 (fun z => by rw [h2] at z; cases z) hg (by omega) (fun _ _ e => e) (fun h' tu tk hk => ⟨.str _, H, I.kept hk, ⟨tu, rfl⟩, q⟩) h4
    | dict a1 a2 a3 a4 a5 =>
      exact repr_of_reads' (.dict a1 a2 a3 a4 a5) h1 (fun z => by rw [h2] at z; cases z) hg (by omega) (fun _ _ e => e) (fun h' tu tk hk => ⟨.str _, H, I.kept hk, ⟨tu, rfl⟩, q⟩) h4
  · cases ht
theorem c_repr (hg : X.A.guards = some []) (hu : X.A.units + 66 < cLine) : OpN X (Wc X (.builtin "repr")) (g1 gRepr) := by
  refine opN1 fun E η M c σ H x dx r s h1 e Q hQ => ?_
  unfold gRepr shownD at e
  cases q : toPy dx with
  | none => rw [q] at e; cases e
  | some p =>
    rw [q] at e
    cases q2 : shownP p with
    | none =>
      have e : (shownP p).map _ = _ := e
      rw [q2] at e; cases e
    | some t =>
      have e : (shownP p).map (fun t => Rv.fz (.str t)) = _ := e
      rw [q2] at e; cases e
      exact call_wc (call_reprD hg hu) ⟨_, p, t, rfl, vw_dp s.sub h1 q, q2, pst_fz s hQ (.str _)⟩
end
end LH
/-! LHSort: sorted of data. -/
namespace LHS
open PySem PySem.W PySem.Calls PyProof.Rows PySem.SeqAt
section
variable {prog : Program} {w : World} {A : Around} {E : Value → Shared → Prop} {s : Shared}
theorem keyLt'_general (x y : Value) : keyLt' general' x y = oneLt' false x y := rfl
theorem call_tuple_lt {Q : Value → Shared → Prop} {l b : Addr} {items items2 : Array Value} {e r : Nat → Bool} (hl : s.heap.IsTuple l items) (hb : s.heap.IsTuple b items2)
    (he : ∀ j (h1 : j < items.size) (h2 : j < items2.size), EqAt A.in1 s items[j] items2[j] (e j)) (hr : ∀ j (h1 : j < items.size) (h2 : j < items2.size), e j = false → RcLt A.in1 s items[j] items2[j] (r j))
    (h : Q (.bool (firstLt e r (decide (items.size < items2.size)) (List.range (min items.size items2.size)))) s) : wpAny (model prog w) A (call (.builtin "tuple.__lt__") [.ref l, .ref b]) Q E s := by
  obtain ⟨⟨cls, dd, data, sl⟩, ho, hc, n, hd⟩ := id hl
  obtain ⟨⟨cls2, dd2, data2, sl2⟩, ho2, hc2, n2, hd2⟩ := id hb
  simp only at hc hd hc2 hd2
  subst hc hd hc2 hd2
  exact call_meets F.slot_tuple_lt ⟨_, ho, rfl⟩ F.entry_tuple_lt (F.args_tuple_lt_2 _ _) (tuple_ltAt l b items items2 n n2 dd dd2 sl sl2 e r) ⟨ho, ho2, he, hr, h⟩
/-- two tuples, asked by their own slot -/
theorem oneLt_tup {xs ys : List PyData} {a b : Value} {as bs : List Addr} {Q : Bool → Shared → Prop} (ra : Reads s.heap a (.tuple xs) as) (rb : Reads s.heap b (.tuple ys) bs) (h : alike (.tuple xs) (.tuple ys) = true)
    (hu : A.units + min (PyData.tuple xs).depth (PyData.tuple ys).depth < cLine) (hq : Q (dataLt (.tuple xs) (.tuple ys)) s) : wpAny (model prog w) A (oneLt' true a b) Q E s := by
  have hal : alikeAll xs ys = true := by simpa [alike] using h
  cases ra with
  | @tuple l o vs n _ as₁ h1 h2 h3 h4 =>
    cases rb with
    | @tuple l' o' vs' n' _ bs₁ k1 k2 k3 k4 =>
      have n1 : vs.size = xs.length := by simpa using ReadsAll.length _ _ _ h4
      have n2 : vs'.size = ys.length := by simpa using ReadsAll.length _ _ _ k4
      rw [dataLt_tuple, ← firstLt_toks xs ys hal, ← n1, ← n2] at hq
      rw [oneLt'_eq]
      simp only [if_true]
      refine wpAny_bind (wpAny_cRoomFor (room_here hu) ?_)
      refine wpAny_bind (wpAny_callSpecialIfBound?_slot (T := "tuple") ⟨_, h1, h2⟩ F.slot_tuple_lt (call_tuple_lt (e := pairEq xs ys) (r := fun j => dataLt (xs.getD j .none) (ys.getD j .none)) ⟨_, h1, h2, _, h3⟩ ⟨_, k1, k2, _, k3⟩ (fun j j1 j2 => ?_) (fun j j1 j2 hj => ?_) ?_))
      · have := eqAt_alikeAll xs ys A.in1 s vs.toList vs'.toList _ _ h4 k4 hal (room_in hu) j (by simpa using j1) (by simpa using j2)
        simpa using this
      · have := rcLt_alikeAll xs ys A.in1 s vs.toList vs'.toList _ _ h4 k4 hal (room_in hu) j (by simpa using j1) (by simpa using j2) hj
        simpa using this
      · exact wpAny_truthy_bool hq
end
section
variable {M : Model} {A : Around} {E : Value → Shared → Prop} {s : Shared}
def ne0 : PyData → Bool
  | .tuple [] => false
  | _ => true
/-- the first items of tuples -/
theorem firsts_tups : ∀ (vs : List Value) (ds : List PyData) {Q : List (Option Value) → Shared → Prop}, EachIs (fun v d => ∃ as, Reads s.heap v d as) vs ds → (∀ d ∈ ds, ∃ xs, d = .tuple xs) →
    (∀ os : List (Option Value), os.map (·.isSome) = ds.map ne0 → Q os s) → wpAny M A (vs.mapM firstOfTuple') Q E s
  | [], _, _, .nil, _, h => by rw [List.mapM_nil]; exact wpAny_pure (h [] rfl)
  | _, _, Q, .cons (a := v) (b := d) (as := vs) (bs := ds) ⟨as, r⟩ t, hd, h => by
    obtain ⟨xs, rfl⟩ := hd _ (List.mem_cons_self ..)
    cases r with
    | @tuple a o vs' n _ as₁ h1 h2 h3 h4 =>
      rw [List.mapM_cons]
      refine wpAny_bind ?_
      rw [kas_first_eq]
      refine wpAny_bind (Looks.here (show Looks M s.heap (typeOf (.ref a)) o.cls from (Looks.ld h1).andThen .now) ?_)
      rw [h2, if_neg (by first | decide | simp)]
      refine wpAny_bind (listItems_at h1 h3 (wpAny_pure ?_))
      refine wpAny_bind (firsts_tups vs ds (Q := fun bs s' => wpAny M A (pure (vs'[0]? :: bs)) Q E s') t (fun d hm => hd d (List.mem_cons_of_mem _ hm)) fun os hl => wpAny_pure (h _ ?_))
      rw [List.map_cons, List.map_cons, hl]
      congr 1
      rw [← Array.getElem?_toList]
      cases q : vs'.toList with
      | nil => rw [q] at h4; cases h4; rfl
      | cons x l => rw [q] at h4; cases h4; rfl
def kd0 (ds : List PyData) : SortKind := match ds with
  | d :: _ => if ne0 d then general' else oneType'
  | [] => general'
theorem kind_tups {vs : List Value} {ds : List PyData} (e : EachIs (fun v d => ∃ as, Reads s.heap v d as) vs ds) (hd : ∀ d ∈ ds, ∃ xs, d = .tuple xs) (h0 : .tuple [] ∈ ds) {Q : SortKind → Shared → Prop} (h1 : Q (kd0 ds) s) : wpAny M A (keyKind' vs.toArray) Q E s := by
  rw [keyKind'_eq, List.mapM_toArray, map_eq_pure_bind]
  refine wpAny_bind (wpAny_bind (firsts_tups vs ds e hd fun os hz => wpAny_pure ?_))
  have hall : (os.toArray.all fun x => x.isSome) = false := by
    have e1 : os.all (fun x => x.isSome) = (os.map (·.isSome)).all id := by simp [List.all_map]
    have e2 : (ds.map ne0).all id = false := by
      rw [List.all_eq_false]
      exact ⟨false, List.mem_map.mpr ⟨_, h0, rfl⟩, by simp⟩
    rw [List.all_toArray, e1, hz, e2]
  rw [if_neg (by rw [hall]; simp)]
  cases ds with
  | nil => exact absurd h0 (by simp)
  | cons d0 ds =>
    cases os with
    | nil => cases hz
    | cons o os =>
      simp only [List.map_cons, List.cons.injEq] at hz
      have e0 : ((o :: os).toArray[0]?.bind id) = o := by simp
      rw [e0, hz.1]
      unfold kd0 at h1
      dsimp only at h1
      cases q : ne0 d0 with
      | true =>
        rw [q] at h1
        simp only [if_true] at h1 ⊢
        exact wpAny_pure h1
      | false =>
        rw [q] at h1
        simp only [Bool.false_eq_true, if_false] at h1 ⊢
        rw [oneTypeOnly'_eq, List.mapM_toArray, map_eq_pure_bind]
        refine wpAny_bind (wpAny_bind (wpAny_bind (kas_mapM (r := Value.type "tuple") _ (fun v hv Q' hq => ?_) (wpAny_pure ?_))))
        · obtain ⟨d, hm, as, r⟩ := e.left v hv
          obtain ⟨xs, rfl⟩ := hd d hm
          exact (looks_reads r).here hq
        · cases e with
          | cons e1 e2 =>
            rename_i v vs
            have h0' : (List.map (fun _ => Value.type "tuple") (v :: vs)).toArray[0]? = some (Value.type "tuple") := by simp
            have hall2 : ((List.map (fun _ => Value.type "tuple") (v :: vs)).toArray.all fun x => x == Value.type "tuple") = true := by
              simp only [List.all_toArray, List.all_map, List.all_eq_true]
              intro _ _
              exact beq_self_eq_true (Value.type "tuple")
            rw [h0']
            simp only [hall2, if_true]
            exact wpAny_pure (wpAny_pure h1)
end
section
variable {prog : Program} {w : World} {A : Around} {s : Shared}
/-- alike data, none of them None -/
theorem sortsAny {vs : List Value} {ds : List PyData} (e : EachIs (fun v d => ∃ as, Reads s.heap v d as) vs ds) (hal : AllAlike ds) (hn : ∀ d ∈ ds, d ≠ .none) (hu : ∀ d, d ∈ ds → A.units + d.depth < cLine) : SortsAt prog w A s (dataKind s.heap ds) vs := by
  by_cases ht : ∃ xs, PyData.tuple xs ∈ ds
  · obtain ⟨xs0, h0⟩ := ht
    have hd : ∀ d ∈ ds, ∃ xs, d = .tuple xs := fun d hm => by
      have q := hal d hm _ h0
      cases d with
      | tuple xs => exact ⟨xs, rfl⟩
      | _ => exact absurd q (by simp [alike])
    by_cases h1 : PyData.tuple [] ∈ ds
    · have room : ∀ {d d' : PyData}, d ∈ ds → A.units + min d.depth d'.depth < cLine := fun {d d'} hd => Nat.lt_of_le_of_lt (Nat.add_le_add_left (Nat.min_le_left _ _) _) (hu d hd)
      have key : ∀ v ∈ vs, ∃ a, (dataKind s.heap ds).keyOf v = some a := fun v hv => by
        obtain ⟨d, hd, as, r⟩ := e.left v hv
        exact ⟨_, dataKind_some hal hd r⟩
      have gen : H.LtAt prog w A s (dataKind s.heap ds) general' := by
        intro E x y a b Q ha hb hq
        obtain ⟨d, as, hd1, ra, rfl⟩ := dataKind_inv ha
        obtain ⟨d', as', hd2, rb, rfl⟩ := dataKind_inv hb
        rw [keyLt'_general]
        exact oneLt_alike (fun z => by cases z) ra rb (hal d hd1 d' hd2) (hn d hd1) (room hd1) hq
      have one : H.LtAt prog w A s (dataKind s.heap ds) oneType' := by
        intro E x y a b Q ha hb hq
        obtain ⟨d, as, hd1, ra, rfl⟩ := dataKind_inv ha
        obtain ⟨d', as', hd2, rb, rfl⟩ := dataKind_inv hb
        rw [keyLt'_oneType]
        obtain ⟨xs, rfl⟩ := hd d hd1
        obtain ⟨ys, rfl⟩ := hd d' hd2
        exact oneLt_tup ra rb (hal _ hd1 _ hd2) (room hd1) hq
      refine ⟨key, kd0 ds, ?_, fun _ E Q hq => kind_tups e hd h1 hq⟩
      unfold kd0
      split
      · split
        · exact gen
        · exact one
      · exact gen
    · exact SortsAt.data e hal (.inl fun d hm => by
        obtain ⟨xs, rfl⟩ := hd d hm
        cases xs with
        | nil => exact absurd hm h1
        | cons x r => exact ⟨x, r, rfl⟩) hu
  · exact SortsAt.data e hal (.inr fun d hm => ⟨hn d hm, fun xs z => ht ⟨xs, by rw [← z]; exact hm⟩⟩) hu
end
end LHS
namespace LH
open PySem PySem.Spec PyProof.Rows L2 PySem.W
section
variable {α β γ : Type}
theorem each_vals {S : V → β → Prop} : ∀ {xs : List V} {us : List Value} {bs : List β}, EachIs S xs bs → Vals xs us → EachIs (fun v b => ∃ x, RelV x v ∧ S x b) us bs
  | _, _, _, .nil, .nil => .nil
  | _, _, _, .cons h t, .cons r rs => .cons ⟨_, r, h⟩ (each_vals t rs)
theorem vals_each {S : V → β → Prop} : ∀ {us : List Value} {bs : List β}, EachIs (fun v b => ∃ x, RelV x v ∧ S x b) us bs → ∃ xs, Vals xs us ∧ EachIs S xs bs
  | _, _, .nil => ⟨[], .nil, .nil⟩
  | _, _, .cons ⟨x, r, h⟩ t => by
    obtain ⟨xs, h1, h2⟩ := vals_each t
    exact ⟨x :: xs, .cons r h1, .cons h h2⟩
theorem each_repL {K : Fg} {mg : Mg} {η : List Addr} {M : Hp} : ∀ {xs : List V} {ds : List D}, EachIs (Rep K mg η M) xs ds → RepL K mg η M xs ds
  | _, _, .nil => .nil
  | _, _, .cons h t => .cons h (each_repL t)
theorem repL_each {K : Fg} {mg : Mg} {η : List Addr} {M : Hp} : ∀ {xs : List V} {ds : List D}, RepL K mg η M xs ds → EachIs (Rep K mg η M) xs ds
  | _, _, .nil => .nil
  | _, _, .cons h t => .cons h (repL_each t)
end
def notNon : PyData → Bool
  | .none => false
  | _ => true
section
variable {X : Cx}
theorem call_sortedD {β : Type} (enc : β → PyData) (hu : X.A.units + 70 < cLine) : CallR X (.builtin "sorted") (fun xs H Q => ∃ (a : Addr) (vs : List V) (bs : List β) (S : V → β → Prop), xs = [.ref a] ∧ SqL X.K H a vs ∧ EachIs S vs bs ∧ (∀ x b, S x b → Dp X.K H x (enc b)) ∧
    AllAlike (bs.map enc) ∧ (∀ b ∈ bs, notNon (enc b) = true ∧ (enc b).depth ≤ 64) ∧ ∀ out p, EachIs S out (bs.mergeSort (dataLe false enc)) → H p = none → Q (.ref p) (upd H p (.lst out))) := by
  intro pins s σ H xs us Q I r h
  obtain ⟨a, vs, bs, S, rfl, hs, he, hd, hal, hb, q⟩ := h
  obtain rfl := Vals.ref1 r
  obtain ⟨its, rv, hl, hz⟩ := I.list hs
  have e1 := each_vals he rv
  have len : its.length = bs.length := e1.length
  have er : EachIs (fun v b => ∃ as, Reads s.heap v (enc b) as) its bs := e1.mono fun v b ⟨x, r1, r2⟩ => Dp.reads I _ _ _ (hd x b r2) r1
  have er' : EachIs (fun v b => ∃ as, Reads (sortingHeap (copyHeap s.heap its) (s.heap.objs.size + 1) its) v (enc b) as) its bs := er.mono fun _ _ ⟨as, r⟩ => ⟨as, PyProof.Rows.Reads.keeps (fun _ _ => sorting_copy_old) r⟩
  have hz' : its.length ≤ sizeLine := by rw [← rv.length]; exact hz
  refine sorted_vals hl.isList (LHS.sortsAny (s := { s with heap := sortingHeap (copyHeap s.heap its) (s.heap.objs.size + 1) its }) (each_map (R := fun v d => ∃ as, Reads (sortingHeap (copyHeap s.heap its) (s.heap.objs.size + 1) its) v d as) enc er') hal (fun d hd z => ?_) (fun d hd => ?_)) hz' ?_
  · obtain ⟨b, hb1, rfl⟩ := List.mem_map.mp hd
    have := (hb b hb1).1
    rw [z] at this; cases this
  · obtain ⟨b, hb1, rfl⟩ := List.mem_map.mp hd
    have := (hb b hb1).2
    show X.A.units + 1 + 1 + _ < _
    omega
  · have eo := sortVals_data false e1 er' hal
    obtain ⟨out, k1, k2⟩ := vals_each eo
    obtain ⟨ep, he'⟩ := PyProof.Rows.sortedAll_at s.heap its (sortVals (dataKind (sortingHeap (copyHeap s.heap its) (s.heap.objs.size + 1) its) (bs.map enc)) false its its).toArray
    have hlen : out.length ≤ sizeLine := by
      rw [k1.length, eo.length, List.length_mergeSort, ← len]
      exact hz'
    exact ⟨.ref _, upd H (s.heap.objs.size + 1) (.lst out), I.laid (t' := s.toks) (fun _ _ => PyProof.Rows.sortedAll_old) (Nat.le_succ _) ⟨hlen, _, ep, k1, by simpa using he'⟩, rfl, q out _ k2 (I.hok.fresh (Nat.le_succ _))⟩
end

/-! ### sorted -/
def encD (d : D) : PyData := (toPy d).getD .none
def okSort (ds : List D) : Bool := (ds.all fun d => (toPy d).isSome && notNon (encD d) && decide ((encD d).depth ≤ 64)) && ds.all fun d => ds.all fun d' => alike (encD d) (encD d')
def sortD (ds : List D) : Option (List D) := if okSort ds then some (ds.mergeSort (dataLe false encD)) else none
def gSorted (d : D) : Option Rv := match d with
  | .lst xs => (sortD xs).map fun ys => .nw (.lst ys)
  | .ro xs => (sortD xs).map fun ys => .nw (.lst ys)
  | _ => none
section
variable {X : Cx}
theorem sort_run {E : En} {η : List Addr} {M H : Hp} {c : Cf} {σ : St} {a : Addr} {xs : List V} {ds ys : List D} {Q : VK} (hu : X.A.units + 70 < cLine) (s : SR X.K X.mg E η M c σ H) (hq : SqL X.K H a xs) (r : RepL X.K X.mg η M xs ds) (e : sortD ds = some ys) (hQ : Pst X E η M c σ (.nw (.lst ys)) Q) : Wc X (.builtin "sorted") [.ref a] H Q := by
  unfold sortD at e
  split at e
  · rename_i hc
    cases e
    unfold okSort at hc
    simp only [Bool.and_eq_true, List.all_eq_true, decide_eq_true_eq] at hc
    obtain ⟨h1, h2⟩ := hc
    refine call_wc (call_sortedD encD hu) ⟨a, xs, ds, fun x d => Rep X.K X.mg η M x d ∧ d ∈ ds, rfl, hq, each_mem (repL_each r), fun x d ⟨z, zm⟩ => ?_, fun p hp p' hp' => ?_, fun d hm => ⟨(h1 d hm).1.2, (h1 d hm).2⟩, fun out p ho hp => ?_⟩
    · obtain ⟨p, hp⟩ := Option.isSome_iff_exists.mp (h1 d zm).1.1
      have := rep_dp s.sub z hp
      unfold encD
      rw [hp]
      exact this
    · obtain ⟨d, hd, rfl⟩ := List.mem_map.mp hp
      obtain ⟨d', hd', rfl⟩ := List.mem_map.mp hp'
      exact h2 d hd d' hd'
    · exact pst_nw s hQ (fun p hp => ⟨_, upd_same, each_repL (ho.mono fun _ _ z => z.1)⟩) p hp
  · cases e
theorem c_sorted (hu : X.A.units + 70 < cLine) : OpN X (Wc X (.builtin "sorted")) (g1 gSorted) := by
  refine opN1 fun E η M c σ H x dx r s h1 e Q hQ => ?_
  unfold gSorted at e
  split at e
  · rename_i ds
    obtain ⟨a, xs, rfl, q, r⟩ := h1.lst s.sub
    cases e2 : sortD ds with
    | none => rw [e2] at e; cases e
    | some ys => rw [e2] at e; cases e; exact sort_run hu s (.of q) r e2 hQ
  · rename_i ds
    obtain ⟨a, xs, rfl, q, r⟩ := h1.ro s.sub
    cases e2 : sortD ds with
    | none => rw [e2] at e; cases e
    | some ys => rw [e2] at e; cases e; exact sort_run hu s q r e2 hQ
  · cases e
end
end LH
/-! LHSortKey: sorted(xs, key=len) of tuples. -/
namespace LH
open PySem PySem.Spec PyProof.Rows L2 PySem.W
/-- a call with these keyword values -/
def Wck (X : Cx) (f : Value) (kw : List (Str × Value)) : List V → Hp → VK → Prop := fun xs H Q => ∀ pins s σ us, Inv X pins σ H s → Vals xs us → wpAny (model X.prog X.w) X.A (call f us kw) (EP X pins σ Q) X.xe s
abbrev kwLen : List (Str × Value) := [(Str.ofString "key", .builtin "len")]
def lenD : D → Option Nat
  | .tup xs => some xs.length
  | _ => none
def keyLen (d : D) : PyData := .int ((lenD d).getD 0 : Nat)
def gSortLen (d : D) : Option Rv := match d with
  | .lst xs => if xs.all fun x => (lenD x).isSome then some (.nw (.lst (xs.mergeSort (dataLe false keyLen)))) else none
  | _ => none
section
variable {X : Cx}
theorem c_sortLen (hu : X.A.units + 70 < cLine) : OpN X (Wck X (.builtin "sorted") kwLen) (g1 gSortLen) := by
  intro E η M c σ H xs ds r s hp e Q hQ
  match ds, hp, e with
  | [], _, e => cases e
  | _ :: _ :: _, _, e => cases e
  | [d], .cons (a := x) h1 .nil, e =>
    have e : gSortLen d = some r := e
    unfold gSortLen at e
    cases d with
    | lst ds =>
      dsimp only at e
      obtain ⟨a, xs, rfl, q, rr⟩ := h1.lst s.sub
      split at e
      · rename_i hc
        cases e
        rw [List.all_eq_true] at hc
        intro pins st σ' us I r
        obtain rfl := Vals.ref1 r
        obtain ⟨its, rv, hl, hz⟩ := I.list (SqL.of q)
        have e1 := each_vals (each_mem (repL_each rr)) rv
        have len : its.length = ds.length := e1.length
        have e2 : EachIs (fun v (d : D) => (∃ x, RelV x v ∧ Rep X.K X.mg η M x d) ∧ ∃ a its, v = .ref a ∧ IsTup st.heap a its ∧ its.size ≤ sizeLine ∧ keyLen d = .int its.size) its ds := e1.mono fun v d ⟨x, r1, r2, hm⟩ => by
          refine ⟨⟨x, r1, r2⟩, ?_⟩
          obtain ⟨n, hn⟩ := Option.isSome_iff_exists.mp (hc d hm)
          cases d with
          | tup zs =>
            cases r2 with
            | tup hM rz =>
              rename_i a zs'
              cases r1
              obtain ⟨jts, r', pl, hz'⟩ := I.tuple (.of (s.sub _ _ hM))
              refine ⟨a, _, rfl, pl, by simpa using (by rw [← r'.length]; exact hz' : jts.length ≤ sizeLine), ?_⟩
              show PyData.int ((zs.length : Nat) : Int) = .int _
              rw [← rz.length, r'.length]
              simp
          | _ => cases hn
        have hs : sizeLine = 16777216 := sizeLine_eq
        refine sorted_key_data (b := false) keyLen hl.isList e2 (AllAlike.of fun _ _ => by simp [keyLen, alike]) (.inr fun d hd => ?_) (by rw [← len, ← rv.length]; exact hz) (fun d _ => ?_) (ksk_s1 _ _) (fun _ => ksk_l1 _ _) (fun _ => ksk_t4 _ _) (fun v d ⟨_, a', jts, ev, ht, hj, ek⟩ hd h tk kp => ?_) fun out cc h' tk kp hf hD hlen eo => ?_
        · obtain ⟨d', _, rfl⟩ := List.mem_map.mp hd
          exact ⟨by simp [keyLen], by simp [keyLen]⟩
        · have : (keyLen d).depth = 0 := by simp [keyLen, PyData.depth]
          omega
        · subst ev
          refine len_tuple (ht.keeps kp) (by omega) ?_
          exact ⟨h, _, rfl, fun _ _ z => z, by rw [ek]; exact .int _ _⟩
        · obtain ⟨out', k1, k2⟩ := vals_each (eo.mono fun _ _ z => z.1)
          have hlen' : out'.length ≤ sizeLine := by
            rw [k1.length, hlen, ← len, ← rv.length]
            exact hz
          refine ⟨.ref _, upd H (st.heap.objs.size + 1) (.lst out'), I.laid (t' := tk) kp (Nat.le_succ _) ⟨hlen', _, _, k1, hD⟩, rfl, ?_⟩
          exact pst_nw s hQ (fun p hp => ⟨_, upd_same, each_repL k2⟩) _ (I.hok.fresh (Nat.le_succ _))
      · cases e
    | _ => cases e
variable {e : Expr} {m : Em} {p p2 pos kp : Pos} {ms : Cf → Res (List Rv)}
theorem ex_sortLen (hu : X.A.units + 70 < cLine) (h1 : X.mg "sorted" = none) (h2 : X.mg "len" = none) (g1' : Gl X "sorted" := by rfl) (g2' : Gl X "len" := by rfl) (ha : Ax X [e] ms)
    (he : backTo pos (starEach [e] X.env) = (false, eval e X.env) :: backTo pos (starEach [] X.env) := by rfl) (hpl : (backTo pos (starEach [e] X.env)).any (·.1) = false := by rfl) :
    Ex X (.Call (.Name "sorted" p) [e] [⟨some "key", .Name "len" p2, kp⟩] pos) (mCB (LH.g1 gSortLen) ms) := ⟨fun E η M c σ H s => out_mCB (c_sortLen hu) ha s fun Q hq => by
  intro pins st I
  have hq : Wa X [e] σ H (fun vs H1 => Wck X (.builtin "sorted") kwLen vs H1 Q) := hq
  refine wpAny_Call_Name_kw (ld_blt I g1' h1 (u := .builtin "sorted") (by decide +kernel) ?_)
  refine PyProof.Rows.callWith_kw (thn (hq pos pins st I) fun us s1 ⟨vs, H1, I1, r1, q1⟩ => ?_) he hpl
  show wpAny _ _ (evalAll ((do let v ← eval (.Name "len" p2) X.env; standAt pos; pure v) :: [])) _ _ s1
  refine wpAny_evalAll_cons (wpAny_bind (ld_blt I1 g2' h2 PySem.boot_len (wpAny_bind (wpAny_standAt (wpAny_pure (wpAny_evalAll_nil ?_))))))
  exact q1 pins s1 σ us I1 r1⟩
end
end LH
/-! LHDict: displays of dicts. -/
namespace LH
open PySem PySem.Spec PyProof.Rows L2
section
variable {X : Cx} {E : En} {η η' : List Addr} {M M' H H' : Hp} {c c' c1 c2 : Cf} {σ σ' : St} {pos : Pos}
/-- a value stays; what is held stays too -/
theorem toVal_tmp {T : List (Addr × D)} {v : V} {r : Rv} {d : D} (s : SR X.K X.mg E η M c σ H) (z : RvR X.K X.mg E η M c σ H v r) (t : Tmp X.K X.mg E η M c σ H T) (n : ∀ a d, v = .ref a → r = .nw d → a ∉ T.map (·.1)) (e : toVal c r = some (d, c2)) :
    ∃ M2, SR X.K X.mg E η M2 c2 σ H ∧ Ext η M η M2 ∧ Rep X.K X.mg η M2 v d ∧ Tmp X.K X.mg E η M2 c2 σ H T := by
  cases r with
  | fz d => cases e; exact ⟨M, s, .refl, z, t⟩
  | nw d =>
    cases e
    obtain ⟨a, rfl, h1, h2, h3, h4, h5⟩ := z
    obtain ⟨o, ho⟩ := h5.ex
    obtain ⟨s2, x2⟩ := s.freeze h1 h2 h3 h4 ho
    refine ⟨_, s2, x2, h5.frozen x2 ho upd_same, ⟨fun p hp => ?_, t.nd⟩⟩
    obtain ⟨k1, k2, k3, k4, k5⟩ := t.ok p hp
    have hpa : p.1 ≠ a := fun z => n a _ rfl rfl (z ▸ List.mem_map_of_mem hp)
    exact ⟨by rw [upd_ne hpa]; exact k1, k2, k3, k4, k5.mono x2 fun _ z => z⟩
  | loc i =>
    unfold toVal at e
    dsimp only at e
    have z1 : σ[i]? = some (some v) := z
    cases q : c.ρ[i]? with
    | none => rw [q] at e; cases e
    | some sl =>
      rw [q] at e
      cases sl with
      | un => cases e
      | fz d =>
        cases e
        obtain ⟨w, g1, r1⟩ := s.slot i _ q
        rw [z1] at g1; cases g1
        exact ⟨M, s, .refl, r1, t⟩
      | ow d =>
        cases e
        obtain ⟨a, M2, g1, x2, s2, r2, f2⟩ := s.freezeSlot' q
        rw [z1] at g1; cases g1
        refine ⟨M2, s2, x2, r2, ⟨fun p hp => ?_, t.nd⟩⟩
        obtain ⟨h1, h2, h3, h4, h5⟩ := t.ok p hp
        have hpa : p.1 ≠ a := fun z => h4 ⟨i, d, q, by rw [z1, z]⟩
        refine ⟨by rw [f2 _ hpa]; exact h1, h2, h3, fun ⟨j, d', k1, k2⟩ => ?_, h5.mono x2 fun _ z => z⟩
        have k1 : (c.ρ.set i (.fz d))[j]? = some (.ow d') := k1
        by_cases hj : j = i
        · subst hj
          rw [List.getElem?_set_self (List.getElem?_eq_some_iff.mp q).1] at k1; cases k1
        · rw [List.getElem?_set_ne (Ne.symm hj)] at k1
          exact h4 ⟨j, d', k1, k2⟩
def mPairs : List (Key × Em) → Cf → Res (List (Key × D))
  | [], c => .ok [] c
  | (k, m) :: ps, c => (m c).bind fun r c1 => match toVal c1 r with
    | some (d, c2) => (mPairs ps c2).bind fun kvs c3 => .ok ((k, d) :: kvs) c3
    | none => .stuck
inductive PrL (X : Cx) : List (Option Expr) → List Expr → List (Key × Em) → Prop
  | nil : PrL X [] [] []
  | int {ks : List (Option Expr)} {vs : List Expr} {ps : List (Key × Em)} {i : Int} {j : Nat} {p : Pos} {v : Expr} {m : Em} : Ex X v m → PrL X ks vs ps → PrL X (some (.Constant (.int i) j p) :: ks) (v :: vs) ((.inl i, m) :: ps)
  | str {ks : List (Option Expr)} {vs : List Expr} {ps : List (Key × Em)} {x : Str} {j : Nat} {p : Pos} {v : Expr} {m : Em} : Ex X v m → PrL X ks vs ps → PrL X (some (.Constant (.str x) j p) :: ks) (v :: vs) ((.inr x, m) :: ps)
def PrR (X : Cx) (T : List (Addr × D)) : Rl (List (V × V)) (List (Key × D)) := fun E η M c σ H pvs kvs => ∃ kv : List (Key × V), pvs = kv.map (fun p => (kV p.1, p.2)) ∧ kv.map (·.1) = kvs.map (·.1) ∧ RepL X.K X.mg η M (kv.map (·.2)) (kvs.map (·.2)) ∧ Tmp X.K X.mg E η M c σ H T
theorem prL_ok {keys : List (Option Expr)} {values : List Expr} {ps : List (Key × Em)} (L : PrL X keys values ps) : ∃ trs, (∀ pos, PPs X pos keys values trs) ∧
    ∀ {T : List (Addr × D)} {E : En} {η : List Addr} {M H : Hp} {c : Cf} {σ : St}, SR X.K X.mg E η M c σ H → Tmp X.K X.mg E η M c σ H T → Out X (PrR X T) (fun Q => tPairs trs σ H Q) E η M σ (mPairs ps c) := by
  have step : ∀ {v : Expr} {m : Em} {ps : List (Key × Em)} {trs : List (TE × TE)} {k : Key}, Ex X v m →
      (∀ {T : List (Addr × D)} {E : En} {η : List Addr} {M H : Hp} {c : Cf} {σ : St}, SR X.K X.mg E η M c σ H → Tmp X.K X.mg E η M c σ H T → Out X (PrR X T) (fun Q => tPairs trs σ H Q) E η M σ (mPairs ps c)) →
      ∀ {T : List (Addr × D)} {E : En} {η : List Addr} {M H : Hp} {c : Cf} {σ : St}, SR X.K X.mg E η M c σ H → Tmp X.K X.mg E η M c σ H T → Out X (PrR X T) (fun Q => We X v σ H fun y H2 => tPairs trs σ H2 fun ps H3 => Q ((kV k, y) :: ps) H3) E η M σ (mPairs ((k, m) :: ps) c) := by
    intro v m ps trs k hv ih T E η M H c σ s t
    refine Out.bind (fun y H2 Q => tPairs trs σ H2 fun ps H3 => Q ((kV k, y) :: ps) H3) (out_tmp hv s t) (fun Q hq => hq) fun r c1 y η1 M1 H1 s1 x1 ⟨z1, t1, n1⟩ => ?_
    cases e1 : toVal c1 r with
    | none => trivial
    | some q =>
      obtain ⟨d, c2⟩ := q
      dsimp only
      obtain ⟨M2, s2, x2, r2, t2⟩ := toVal_tmp s1 z1 t1 n1 e1
      refine out_ext x2 (Out.bind (fun ps H3 Q => Q ((kV k, y) :: ps) H3) (ih s2 t2) (fun Q hq => hq) fun kvs c3 pvs η3 M3 H3 s3 x3 ⟨kv, g1, g2, g3, g4⟩ => ?_)
      exact out_ok s3 (fun Q hq => hq) ⟨(k, y) :: kv, by rw [g1]; rfl, by simp [g2], .cons (r2.mono x3) g3, g4⟩
  induction L with
  | nil => exact ⟨[], fun pos => pps_nil, fun {T E η M H c σ} s t => out_ok s (fun Q hq => hq) ⟨[], rfl, rfl, .nil, t⟩⟩
  | int hv L ih =>
    obtain ⟨trs, h1, h2⟩ := ih
    exact ⟨(tC (.int _), We X _) :: trs, fun pos => pps_cons pe_int we_pe (h1 pos), fun {T E η M H c σ} s t => step (k := .inl _) hv h2 s t⟩
  | str hv L ih =>
    obtain ⟨trs, h1, h2⟩ := ih
    exact ⟨(tC (.str _), We X _) :: trs, fun pos => pps_cons pe_str we_pe (h1 pos), fun {T E η M H c σ} s t => step (k := .inr _) hv h2 s t⟩
def mergeD (kvs acc : List (Key × D)) : List (Key × D) := kvs.foldl (fun acc kv => setK acc kv.1 kv.2) acc
def mDisp (ps : List (Key × Em)) : Em := fun c => (mPairs ps c).bind fun kvs c1 => if kvs.length ≤ 15 then .ok (.nw (.dct (mergeD kvs []))) c1 else .stuck
theorem merge_rep {K : Fg} {mg : Mg} : ∀ {kv : List (Key × V)} {kvs : List (Key × D)} {av : List (Key × V)} {ad : List (Key × D)}, kv.map (·.1) = kvs.map (·.1) → RepL K mg η M (kv.map (·.2)) (kvs.map (·.2)) → av.map (·.1) = ad.map (·.1) → RepL K mg η M (av.map (·.2)) (ad.map (·.2)) →
    (kv.foldl (fun acc p => putK acc p.1 p.2) av).map (·.1) = (mergeD kvs ad).map (·.1) ∧ RepL K mg η M ((kv.foldl (fun acc p => putK acc p.1 p.2) av).map (·.2)) ((mergeD kvs ad).map (·.2))
  | [], [], av, ad, _, _, h3, h4 => ⟨h3, h4⟩
  | (k, v) :: kv, (k', d) :: kvs, av, ad, h1, .cons r rs, h3, h4 => by
    simp only [List.map_cons, List.cons.injEq] at h1
    obtain ⟨rfl, h1⟩ := h1
    have := rep_setK (k := k) r h3 h4
    exact merge_rep (kv := kv) (kvs := kvs) h1 rs this.1 this.2
  | [], _ :: _, _, _, h1, _, _, _ => by simp at h1
  | _ :: _, [], _, _, h1, _, _, _ => by simp at h1
theorem ex_disp {keys : List (Option Expr)} {values : List Expr} {ps : List (Key × Em)} (L : PrL X keys values ps) (hall : keys.all (·.isSome) = true := by rfl) (hl : keys.length = values.length := by rfl) (h0 : keys ≠ [] := by (intro h; cases h)) (h15 : keys.length ≤ 15 := by decide) : Ex X (.Dict keys values pos) (mDisp ps) := by
  obtain ⟨trs, h1, h2⟩ := prL_ok L
  refine ⟨fun E η M c σ H s => ?_⟩
  -- the new dict's place is any free one
  unfold mDisp
  have key : ∀ p, H p = none → Out X (PrR X [(p, .dct [])]) (fun Q => tPairs trs σ (upd H p (.dK [])) Q) E η M σ (mPairs ps c) := fun p hp => by
    obtain ⟨f1, f2, f3, f4⟩ := s.free hp
    refine h2 (s.alloc hp) ⟨fun q hq => ?_, by simp⟩
    obtain rfl := List.mem_singleton.mp hq
    exact ⟨f1, f2, f3, f4, [], upd_same, rfl, .nil⟩
  cases e : mPairs ps c with
  | stuck => trivial
  | err y c1 =>
    refine fun W Q tk hq => pe_we (pe_disp (h1 pos) hall hl h0 h15) fun p hp => ?_
    have o := key p hp
    rw [e] at o
    exact o W _ tk hq
  | ok kvs c1 =>
    show Out X _ _ E η M σ (if kvs.length ≤ 15 then _ else _)
    by_cases hk : kvs.length ≤ 15
    · rw [if_pos hk]
      refine fun Q hQ => pe_we (pe_disp (h1 pos) hall hl h0 h15) fun p hp => ?_
      have o := key p hp
      rw [e] at o
      refine o _ fun pvs η' M' H' s' x' ⟨kv, g1, g2, g3, g4⟩ => ?_
      obtain ⟨k1, k2, k3, k4, k5⟩ := g4.ok (p, .dct []) (List.mem_singleton.mpr rfl)
      obtain ⟨kvs0, a1, a2, a3⟩ := k5
      have z0 : kvs0 = [] := by simpa using a2
      subst z0
      have len : kv.length = kvs.length := by have := congrArg List.length g2; simpa using this
      obtain ⟨m1, m2⟩ := merge_rep (kv := kv) (kvs := kvs) (av := []) (ad := []) g2 g3 rfl .nil
      refine ⟨a1, kv, g1, by omega, hQ _ η' M' _ (s'.writeTmp k1 k2 k3 k4) x' ⟨p, rfl, k1, k2, k3, k4, _, upd_same, m1, m2⟩⟩
    · rw [if_neg hk]; trivial
end
end LH
/-! LHIter: walks over lists and tuples by one rule. -/
namespace LH
open PySem PySem.Spec PyProof.Rows L2
section
variable {X : Cx} {tg e : Expr} {me : Em} {σ : St} {H : Hp}
def signsD (x : Str) : List D := x.cps.toList.map fun c => D.str ⟨#[c]⟩
theorem jok_str {K : Fg} {mg : Mg} {η : List Addr} {M : Hp} (x : Str) : JOk K mg η M (Its x) (signsD x) := by
  intro i H hs
  refine ⟨fun d e => ?_, fun hl => (show x.cps.size ≤ i from by simpa [signsD] using hl)⟩
  unfold signsD at e
  rw [List.getElem?_map] at e
  obtain ⟨c, h1, rfl⟩ := Option.map_eq_some_iff.mp e
  have h1' : x.cps[i]? = some c := by rw [← Array.getElem?_toList]; exact h1
  refine ⟨(Array.getElem?_eq_some_iff.mp h1').1, fun v H' ⟨y1, c', h2, y3⟩ => .inl ⟨y1, ?_⟩⟩
  rw [h1'] at h2; cases h2
  subst y3
  exact .str _
theorem wi_seq {R : It → Hp → Prop} (h : We X e σ H fun x H1 => (∃ a, x = .ref a ∧ (∃ xs, SqL X.K H1 a xs) ∧ R (Itl X.K a) H1) ∨ (∃ a, x = .ref a ∧ (∃ xs, SqT X.K H1 a xs) ∧ R (Itt X.K a) H1) ∨ ∃ y, x = .str y ∧ R (Its y) H1) : Wi X tg e σ H R := by
  intro pins s I
  refine thn (h pins s I) fun v s1 ⟨x, H1, I1, r1, q1⟩ => ?_
  rcases q1 with ⟨a, rfl, ⟨xs, hq⟩, q⟩ | ⟨a, rfl, ⟨xs, hq⟩, q⟩ | ⟨y, rfl, q⟩
  · cases r1
    obtain ⟨its, rv, p, hz⟩ := I1.list hq
    refine wpAny_pyIter_list p.isList ?_
    refine ⟨s1.heap.objs.size, [s1.heap.objs.size], _, _, H1, rfl, I1.kept (t' := s1.toks) fun b o e => Heap.get?_push_of_some _ e, turn_list a _, ⟨_, Heap.get?_push_size _ rfl, rfl, rfl⟩, fun b hb => ?_, q⟩
    obtain rfl : b = s1.heap.objs.size := by simpa using hb
    exact I1.fpOk (Nat.le_refl _) (I1.hok.fresh (Nat.le_refl _))
  · cases r1
    obtain ⟨its, rv, p, hz⟩ := I1.tuple hq
    refine wpAny_pyIter_tuple (show s1.heap.IsTuple a its.toArray from p) ?_
    refine ⟨s1.heap.objs.size, [s1.heap.objs.size], _, _, H1, rfl, I1.kept (t' := s1.toks) fun b o e => Heap.get?_push_of_some _ e, turn_tuple a _, ⟨_, Heap.get?_push_size _ rfl, rfl, rfl⟩, fun b hb => ?_, q⟩
    obtain rfl : b = s1.heap.objs.size := by simpa using hb
    exact I1.fpOk (Nat.le_refl _) (I1.hok.fresh (Nat.le_refl _))
  · obtain ⟨t, rfl⟩ := r1
    cases ha : y.cps.all (· < 128)
    · exact wpAny_pyIter_wide ha (pi_one (tk := s1.toks) I1 _ (turn_str _ y t "str_iterator" (.inr rfl)) ⟨_, Heap.get?_push_size _ rfl, rfl, rfl⟩ q)
    · exact wpAny_pyIter_ascii ha (pi_one (tk := s1.toks) I1 _ (turn_str _ y t "str_ascii_iterator" (.inl rfl)) ⟨_, Heap.get?_push_size _ rfl, rfl, rfl⟩ q)
def mSeq (me : Em) : Cf → Res (List D) := fun c => (me c).bind fun r c1 => match toVal c1 r with
  | some (.lst ds, c2) => .ok ds c2
  | some (.ro ds, c2) => .ok ds c2
  | some (.tup ds, c2) => .ok ds c2
  | some (.str x, c2) => .ok (signsD x) c2
  | _ => .stuck
theorem ix_seq (he : Ex X e me) : Ix X tg e (mSeq me) := by
  refine ⟨fun E η M c σ H s => ?_⟩
  refine Out.bind (fun (v : V) H1 (R : It → Hp → Prop) => (∃ a, v = .ref a ∧ (∃ xs, SqL X.K H1 a xs) ∧ R (Itl X.K a) H1) ∨ (∃ a, v = .ref a ∧ (∃ xs, SqT X.K H1 a xs) ∧ R (Itt X.K a) H1) ∨ ∃ y, v = .str y ∧ R (Its y) H1) (he E η M c σ H s) (fun Q hq => wi_seq hq) fun r c1 v η1 M1 H1 s1 x1 z1 => ?_
  cases e1 : toVal c1 r with
  | none => trivial
  | some q =>
    obtain ⟨d, c2⟩ := q
    obtain ⟨M2, s2, x2, r2⟩ := toVal_ok s1 z1 e1
    cases d with
    | lst ds =>
      cases r2 with
      | lst hq hr => exact out_ext x2 (out_ok (v := Itl X.K _) s2 (fun Q hQ => .inl ⟨_, rfl, ⟨_, .of (s2.sub _ _ hq)⟩, hQ⟩) (jok_list (.of hq) hr))
    | ro ds =>
      cases r2 with
      | ro hq hr => exact out_ext x2 (out_ok (v := Itl X.K _) s2 (fun Q hQ => .inl ⟨_, rfl, ⟨_, s2.sub.seq hq⟩, hQ⟩) (jok_list hq hr))
    | tup ds =>
      cases r2 with
      | tup hq hr => exact out_ext x2 (out_ok (v := Itt X.K _) s2 (fun Q hQ => .inr (.inl ⟨_, rfl, ⟨_, .of (s2.sub _ _ hq)⟩, hQ⟩)) (jok_tup (.of hq) hr))
    | str y =>
      cases r2 with
      | str _ => exact out_ext x2 (out_ok (v := Its y) s2 (fun Q hQ => .inr (.inr ⟨_, rfl, hQ⟩)) (jok_str y))
    | _ => trivial
theorem hU {k n : Nat} {A : Around} (r : RmG k A) (h : n ≤ 200) : A.units + n < cLine := by have := r.rm.un; omega
end
theorem fn_runE {P : Program} {w : World} {K : Fg} {mg : Mg} {base : Heap} {x qual : Str} {st : Stmt} {f : Addr} {fd : FuncData} {N ps : List Str} {k n : Nat} {mb : Sm} {G : Fm} (F : Fun K x qual st f fd) (S : FnScope N ps (defScope st)) (hn : ps.length = n) (hG : G = runF N.length mb)
    (hb : ∀ (cdv : Value) (A : Around) (outer : List Env) (s : Shared) (H : Hp) (Ex : XK), RmG k (A.deeper (envOfC qual (defScope st) s.heap.objs.size f cdv)) → Bx (cxOf (L2.CX P w) P w K mg base N qual (defScope st) f cdv A outer s H Ex) (defBody st) mb) :
    FnG P w K mg base (L2.CX P w) (k + 1) f fd ps (spF K mg n G) := by
  subst hn hG
  exact fn_run F S hb
end LH
/-! LHPure: what a mirror computes. -/
namespace LH
open PySem PySem.Spec PyProof.Rows L2
/-- r ends well, with Q -/
def wE {α : Type} (r : Res α) (Q : α → Cf → Prop) : Prop := match r with
  | .ok a c => Q a c
  | _ => False
def oE {α : Type} (o : Option α) (P : α → Prop) : Prop := match o with
  | some a => P a
  | none => False
section
variable {α β : Type} {c : Cf} {m ma mb : Em} {g1 : D → Option Rv} {g : D → D → Option Rv} {ms : Cf → Res (List Rv)} {t u : Cf → Res Bool}
theorem wE_mono {x : Res α} {Q Q' : α → Cf → Prop} (h : wE x Q) (k : ∀ a c, Q a c → Q' a c) : wE x Q' := by
  cases x with
  | ok a c => exact k a c h
  | _ => exact h
theorem wE_ex {x : Res α} {Q : α → Cf → Prop} (h : wE x Q) : ∃ a c, x = .ok a c ∧ Q a c := by
  cases x with
  | ok a c => exact ⟨a, c, rfl, h⟩
  | _ => exact h.elim
@[simp] theorem wE_ok {a : α} {Q : α → Cf → Prop} : wE (.ok a c) Q = Q a c := propext Iff.rfl
@[simp] theorem wE_stuck {Q : α → Cf → Prop} : wE (.stuck : Res α) Q = False := propext Iff.rfl
@[simp] theorem wE_bind {x : Res β} {f : β → Cf → Res α} {Q : α → Cf → Prop} : wE (x.bind f) Q = wE x fun b c => wE (f b c) Q := by cases x <;> rfl
@[simp] theorem wE_st {x : Res Rv} {Q : Rv → Cf → Prop} : wE x.st Q = wE x fun r c => Q (settle r) c := by cases x <;> rfl
@[simp] theorem oE_some {a : α} {P : α → Prop} : oE (some a) P = P a := propext Iff.rfl
@[simp] theorem oE_none {P : α → Prop} : oE (none : Option α) P = False := propext Iff.rfl
theorem wE_opt {o : Option β} {f : β → Res α} {Q : α → Cf → Prop} : wE (match o with | some b => f b | none => .stuck) Q = oE o fun b => wE (f b) Q := by cases o <;> rfl
@[simp] theorem settle_fz {d : D} : settle (.fz d) = .fz d := rfl
@[simp] theorem settle_nw {d : D} : settle (.nw d) = .fz d := rfl
@[simp] theorem settle_loc {i : Nat} : settle (.loc i) = .loc i := rfl
@[simp] theorem view_non : view c (.fz .non) = some .non := rfl
@[simp] theorem view_bl {b : Bool} : view c (.fz (.bl b)) = some (.bl b) := rfl
@[simp] theorem view_int {i : Int} : view c (.fz (.int i)) = some (.int i) := rfl
@[simp] theorem view_str {x : Str} : view c (.fz (.str x)) = some (.str x) := rfl
@[simp] theorem view_lst {x : List D} : view c (.fz (.lst x)) = some (.lst x) := rfl
@[simp] theorem view_tup {x : List D} : view c (.fz (.tup x)) = some (.tup x) := rfl
@[simp] theorem view_ro {x : List D} : view c (.fz (.ro x)) = some (.ro x) := rfl
@[simp] theorem view_dct {x : List (Key × D)} : view c (.fz (.dct x)) = some (.dct x) := rfl
@[simp] theorem view_obj {n : Str} {x : List (Str × D)} : view c (.fz (.obj n x)) = some (.obj n x) := rfl
@[simp] theorem view_hdl {n : Nat} : view c (.fz (.hdl n)) = c.S[n]? := rfl
@[simp] theorem view_nw {d : D} : view c (.nw d) = some d := rfl
@[simp] theorem view_loc {i : Nat} {ρ : List Sl} {S : List D} : view ⟨ρ, S⟩ (.loc i) = match ρ[i]? with
    | some (.ow d) => some d
    | some (.fz (.hdl n)) => S[n]?
    | some (.fz d) => some d
    | _ => none := rfl
@[simp] theorem toVal_fz {d : D} : toVal c (.fz d) = some (d, c) := rfl
@[simp] theorem toVal_nw {d : D} : toVal c (.nw d) = some (d, c) := rfl
@[simp] theorem toVal_loc {i : Nat} {ρ : List Sl} {S : List D} : toVal ⟨ρ, S⟩ (.loc i) = match ρ[i]? with
    | some (.ow d) => some (d, ⟨ρ.set i (.fz d), S⟩)
    | some (.fz d) => some (d, ⟨ρ, S⟩)
    | _ => none := rfl
@[simp] theorem wE_mVar {i : Nat} {ρ : List Sl} {S : List D} {Q : Rv → Cf → Prop} : wE (mVar i ⟨ρ, S⟩) Q = match ρ[i]? with
    | some (.fz d) => Q (.fz d) ⟨ρ, S⟩
    | some (.ow _) => Q (.loc i) ⟨ρ, S⟩
    | _ => False := by
  unfold mVar
  dsimp only
  cases ρ[i]? with
  | none => rfl
  | some s => cases s <;> rfl
@[simp] theorem wE_mC {d : D} {Q : Rv → Cf → Prop} : wE (mC d c) Q = Q (.fz d) c := propext Iff.rfl
@[simp] theorem wE_m2 {a b : Rv} {Q : Rv → Cf → Prop} : wE (m2 g a b c) Q = oE (view c a) fun x => oE (view c b) fun y => oE (g x y) fun r => Q r c := by
  unfold m2
  cases view c a with
  | none => rfl
  | some x => cases view c b with
    | none => rfl
    | some y =>
      show wE (match g x y with | some r => .ok r c | none => .stuck) Q = oE (g x y) fun r => Q r c
      cases g x y <;> rfl
@[simp] theorem wE_m1 {a : Rv} {Q : Rv → Cf → Prop} : wE (m1 g1 a c) Q = oE (view c a) fun x => oE (g1 x) fun r => Q r c := by
  unfold m1
  cases view c a with
  | none => rfl
  | some x =>
    show wE (match g1 x with | some r => .ok r c | none => .stuck) Q = oE (g1 x) fun r => Q r c
    cases g1 x <;> rfl
@[simp] theorem wE_mBin {Q : Rv → Cf → Prop} : wE (mBin g ma mb c) Q = wE (ma c) fun a c1 => wE (mb c1) fun b c2 => wE (m2 g (settle a) (settle b) c2) Q := by simp [mBin]
@[simp] theorem wE_mUn {Q : Rv → Cf → Prop} : wE (mUn g1 ma c) Q = wE (ma c) fun a c1 => wE (m1 g1 a c1) Q := by simp [mUn]
@[simp] theorem wE_maNil {Q : List Rv → Cf → Prop} : wE (maNil c) Q = Q [] c := propext Iff.rfl
@[simp] theorem wE_maCons {Q : List Rv → Cf → Prop} : wE (maCons m ms c) Q = wE (m c) fun r c1 => wE (ms c1) fun rs c2 => Q (settle r :: rs) c2 := by simp [maCons]
@[simp] theorem wE_mCB {G : List D → Option Rv} {Q : Rv → Cf → Prop} : wE (mCB G ms c) Q = wE (ms c) fun rs c1 => oE (views c1 rs) fun ds => oE (G ds) fun r => Q r c1 := by
  unfold mCB
  rw [wE_bind]
  congr 1
  funext rs c1
  cases views c1 rs with
  | none => rfl
  | some ds =>
    show wE (match G ds with | some r => .ok r c1 | none => .stuck) Q = oE (G ds) fun r => Q r c1
    cases G ds <;> rfl
@[simp] theorem views_nil : views c [] = some [] := rfl
@[simp] theorem views_cons {r : Rv} {rs : List Rv} : views c (r :: rs) = (view c r).bind fun d => (views c rs).map fun ds => d :: ds := by
  show (match view c r, views c rs with | some d, some ds => some (d :: ds) | _, _ => none) = _
  cases view c r <;> cases views c rs <;> rfl
@[simp] theorem vals_nil : vals c [] = some ([], c) := rfl
@[simp] theorem vals_cons {r : Rv} {rs : List Rv} : vals c (r :: rs) = (toVal c r).bind fun p => (vals p.2 rs).map fun q => (p.1 :: q.1, q.2) := by
  show (match toVal c r with | some (d, c1) => (match vals c1 rs with | some (ds, c2) => some (d :: ds, c2) | none => none) | none => none) = _
  cases toVal c r with
  | none => rfl
  | some p =>
    obtain ⟨d, c1⟩ := p
    dsimp only [Option.bind_some]
    cases vals c1 rs <;> rfl
@[simp] theorem wE_mCall {n : Nat} {F : Fm} {Q : Rv → Cf → Prop} : wE (mCall n F ms c) Q = wE (ms c) fun rs c1 => oE (vals c1 rs) fun p => p.1.length = n ∧ wE (F p.1 p.2.S) fun r c3 => Q r ⟨p.2.ρ, c3.S⟩ := by
  unfold mCall
  rw [wE_bind]
  congr 1
  funext rs c1
  cases vals c1 rs with
  | none => rfl
  | some p =>
    obtain ⟨ds, c2⟩ := p
    show wE (if ds.length = n then _ else _) Q = (ds.length = n ∧ _)
    by_cases h : ds.length = n
    · rw [if_pos h]
      cases F ds c2.S <;> simp [h, wE]
    · rw [if_neg h]; simp [h]
@[simp] theorem wE_mTup {Q : Rv → Cf → Prop} : wE (mTup ms c) Q = wE (ms c) fun rs c1 => oE (vals c1 rs) fun p => p.1.length ≤ sizeLine ∧ Q (.fz (.tup p.1)) p.2 := by
  unfold mTup
  rw [wE_bind]
  congr 1
  funext rs c1
  cases vals c1 rs with
  | none => rfl
  | some p =>
    obtain ⟨ds, c2⟩ := p
    show wE (if ds.length ≤ sizeLine then _ else _) Q = (ds.length ≤ sizeLine ∧ _)
    by_cases h : ds.length ≤ sizeLine
    · rw [if_pos h]; simp [h]
    · rw [if_neg h]; simp [h]
@[simp] theorem wE_mLst {Q : Rv → Cf → Prop} : wE (mLst ms c) Q = wE (ms c) fun rs c1 => oE (vals c1 rs) fun p => p.1.length ≤ sizeLine ∧ Q (.nw (.lst p.1)) p.2 := by
  unfold mLst
  rw [wE_bind]
  congr 1
  funext rs c1
  cases vals c1 rs with
  | none => rfl
  | some p =>
    obtain ⟨ds, c2⟩ := p
    show wE (if ds.length ≤ sizeLine then _ else _) Q = (ds.length ≤ sizeLine ∧ _)
    by_cases h : ds.length ≤ sizeLine
    · rw [if_pos h]; simp [h]
    · rw [if_neg h]; simp [h]
/-! tests -/
@[simp] theorem wE_mBool {Q : Bool → Cf → Prop} : wE (mBool ma c) Q = wE (ma c) fun a c1 => oE (view c1 a) fun d => match d with | .bl b => Q b c1 | _ => False := by
  unfold mBool
  rw [wE_bind]
  congr 1
  funext a c1
  cases view c1 a with
  | none => rfl
  | some d => cases d <;> rfl
@[simp] theorem wE_mTruth {Q : Bool → Cf → Prop} : wE (mTruth ma c) Q = wE (ma c) fun a c1 => oE (view c1 a) fun d => oE (truthD d) fun b => Q b c1 := by
  unfold mTruth
  rw [wE_bind]
  congr 1
  funext a c1
  cases view c1 a with
  | none => rfl
  | some d =>
    show wE (match truthD d with | some b => .ok b c1 | none => .stuck) Q = oE (truthD d) fun b => Q b c1
    cases truthD d <;> rfl
@[simp] theorem wE_tmAnd {Q : Bool → Cf → Prop} : wE (tmAnd t u c) Q = wE (t c) fun b c1 => if b = true then wE (u c1) Q else Q false c1 := by
  unfold tmAnd
  rw [wE_bind]
  congr 1
  funext b c1
  cases b <;> simp
@[simp] theorem wE_tmOr {Q : Bool → Cf → Prop} : wE (tmOr t u c) Q = wE (t c) fun b c1 => if b = true then Q true c1 else wE (u c1) Q := by
  unfold tmOr
  rw [wE_bind]
  congr 1
  funext b c1
  cases b <;> simp
@[simp] theorem wE_tmNot {Q : Bool → Cf → Prop} : wE (tmNot t c) Q = wE (t c) fun b c1 => Q (!b) c1 := by simp [tmNot]
@[simp] theorem wE_tmYes {Q : Bool → Cf → Prop} : wE (tmYes c) Q = Q true c := propext Iff.rfl
theorem wE_ite {p : Prop} [Decidable p] {a b : Res α} {Q : α → Cf → Prop} : wE (if p then a else b) Q = if p then wE a Q else wE b Q := by split <;> rfl
@[simp] theorem wE_mIfE {Q : Rv → Cf → Prop} : wE (mIfE t ma mb c) Q = wE (t c) fun b c1 => if b = true then wE (ma c1) Q else wE (mb c1) Q := by
  simp [mIfE, wE_ite]
@[simp] theorem wE_mNot {Q : Rv → Cf → Prop} : wE (mNot ma c) Q = wE (ma c) fun a c1 => oE (view c1 a) fun d => match d with | .bl b => Q (.fz (.bl (!b))) c1 | _ => False := by
  unfold mNot
  rw [wE_bind]
  congr 1
  funext a c1
  cases view c1 a with
  | none => rfl
  | some d => cases d <;> rfl
/-! iterables -/
@[simp] theorem wE_mSeq {Q : List D → Cf → Prop} : wE (mSeq m c) Q = wE (m c) fun r c1 => oE (toVal c1 r) fun p => match p.1 with | .lst ds => Q ds p.2 | .ro ds => Q ds p.2 | .tup ds => Q ds p.2 | .str x => Q (signsD x) p.2 | _ => False := by
  unfold mSeq
  rw [wE_bind]
  congr 1
  funext a c1
  cases toVal c1 a with
  | none => rfl
  | some p =>
    obtain ⟨d, c2⟩ := p
    cases d <;> rfl
@[simp] theorem wE_mRng1 {Q : List D → Cf → Prop} : wE (mRng1 ms c) Q = wE (ms c) fun rs c1 => oE (views c1 rs) fun ds => match ds with | [.int j] => (-(2 ^ 62) ≤ j ∧ j < 2 ^ 62) ∧ Q (rangeD 0 j.toNat) c1 | _ => False := by
  unfold mRng1
  rw [wE_bind]
  congr 1
  funext rs c1
  cases views c1 rs with
  | none => rfl
  | some ds =>
    show wE (match some ds with | some [.int j] => if -(2 ^ 62) ≤ j ∧ j < 2 ^ 62 then .ok (rangeD 0 j.toNat) c1 else .stuck | _ => .stuck) Q = (match ds with | [.int j] => (-(2 ^ 62) ≤ j ∧ j < 2 ^ 62) ∧ Q (rangeD 0 j.toNat) c1 | _ => False)
    split
    · rename_i j e
      cases e
      rw [wE_ite]
      by_cases h : -(2 ^ 62) ≤ j ∧ j < 2 ^ 62
      · rw [if_pos h]; simp only [wE_ok]; exact propext ⟨fun z => ⟨h, z⟩, fun z => z.2⟩
      · rw [if_neg h]; simp only [wE_stuck]; exact (propext ⟨fun z => z.elim, fun z => h z.1⟩)
    · rename_i h
      split
      · exact absurd rfl (h _)
      · rfl
/-! statements -/
@[simp] theorem wE_bNil {Q : Fl → Cf → Prop} : wE (bNil c) Q = Q .nx c := propext Iff.rfl
@[simp] theorem wE_bCons {m1 m2 : Sm} {Q : Fl → Cf → Prop} : wE (bCons m1 m2 c) Q = wE (m1 c) fun fl c1 => match fl with | .nx => wE (m2 c1) Q | fl => Q fl c1 := by
  unfold bCons
  cases m1 c with
  | ok fl c1 => cases fl <;> rfl
  | _ => rfl
@[simp] theorem wE_sDrop {Q : Fl → Cf → Prop} : wE (sDrop m c) Q = wE (m c) fun _ c1 => Q .nx c1 := by simp [sDrop]
@[simp] theorem wE_sRet {Q : Fl → Cf → Prop} : wE (sRet m c) Q = wE (m c) fun r c1 => Q (.rt r) c1 := by simp [sRet]
@[simp] theorem wE_sIf {m1 m2 : Sm} {Q : Fl → Cf → Prop} : wE (sIf t m1 m2 c) Q = wE (t c) fun b c1 => if b = true then wE (m1 c1) Q else wE (m2 c1) Q := by
  simp [sIf, wE_ite]
@[simp] theorem wE_sSet {i : Nat} {Q : Fl → Cf → Prop} : wE (sSet i m c) Q = wE (m c) fun r c1 => oE (putR i r c1) fun c2 => Q .nx c2 := by
  unfold sSet
  rw [wE_bind]
  congr 1
  funext r c1
  cases putR i r c1 <;> rfl
@[simp] theorem wE_sSetH {i : Nat} {Q : Fl → Cf → Prop} : wE (sSetH i m c) Q = wE (m c) fun r c1 => oE (putH i r c1) fun c2 => Q .nx c2 := by
  unfold sSetH
  rw [wE_bind]
  congr 1
  funext r c1
  cases putH i r c1 <;> rfl
@[simp] theorem putR_fz {i : Nat} {d : D} {ρ : List Sl} {S : List D} : putR i (.fz d) ⟨ρ, S⟩ = if i < ρ.length then some ⟨ρ.set i (.fz d), S⟩ else none := rfl
@[simp] theorem putR_nwl {i : Nat} {d : List D} {ρ : List Sl} {S : List D} : putR i (.nw (.lst d)) ⟨ρ, S⟩ = if i < ρ.length then some ⟨ρ.set i (.ow (.lst d)), S⟩ else none := rfl
@[simp] theorem putR_nwt {i : Nat} {d : List D} {ρ : List Sl} {S : List D} : putR i (.nw (.tup d)) ⟨ρ, S⟩ = if i < ρ.length then some ⟨ρ.set i (.fz (.tup d)), S⟩ else none := rfl
@[simp] theorem putR_nwd {i : Nat} {d : List (Key × D)} {ρ : List Sl} {S : List D} : putR i (.nw (.dct d)) ⟨ρ, S⟩ = if i < ρ.length then some ⟨ρ.set i (.ow (.dct d)), S⟩ else none := rfl
@[simp] theorem putR_loc {i j : Nat} {ρ : List Sl} {S : List D} : putR i (.loc j) ⟨ρ, S⟩ = if i < ρ.length then (match ρ[j]? with
      | some (.ow d) => some ⟨(ρ.set j (.fz d)).set i (.fz d), S⟩
      | some (.fz d) => some ⟨ρ.set i (.fz d), S⟩
      | _ => none) else none := rfl
@[simp] theorem putH_nw {i : Nat} {d : D} {ρ : List Sl} {S : List D} : putH i (.nw d) ⟨ρ, S⟩ = if i < ρ.length then some ⟨ρ.set i (.fz (.hdl S.length)), S ++ [d]⟩ else none := rfl
@[simp] theorem wE_sUnp {is : List Nat} {Q : Fl → Cf → Prop} : wE (sUnp is m c) Q = wE (m c) fun r c1 => oE (toVal c1 r) fun p => match p.1 with | .tup ds => oE (fzL is ds p.2) fun c3 => Q .nx c3 | _ => False := by
  unfold sUnp
  rw [wE_bind]
  congr 1
  funext r c1
  cases toVal c1 r with
  | none => rfl
  | some p =>
    obtain ⟨d, c2⟩ := p
    cases d with
    | tup ds =>
      show wE (match fzL is ds c2 with | some c3 => .ok .nx c3 | none => .stuck) Q = oE (fzL is ds c2) fun c3 => Q .nx c3
      cases fzL is ds c2 <;> rfl
    | _ => rfl
@[simp] theorem fzL_nil : fzL [] [] c = some c := rfl
@[simp] theorem fzL_cons {i : Nat} {is : List Nat} {d : D} {ds : List D} {ρ : List Sl} {S : List D} : fzL (i :: is) (d :: ds) ⟨ρ, S⟩ = if i < ρ.length then fzL is ds ⟨ρ.set i (.fz d), S⟩ else none := rfl
@[simp] theorem mPend_nil {Q : List Pend → Cf → Prop} : wE (mPend [] c) Q = Q [] c := propext Iff.rfl
@[simp] theorem mPend_cons {l : List Em} {Q : List Pend → Cf → Prop} : wE (mPend (m :: l) c) Q = wE (m c) fun r c1 => oE (pend c1 r) fun p => wE (mPend l p.2) fun ps c3 => Q (p.1 :: ps) c3 := by
  show wE ((m c).bind _) Q = _
  rw [wE_bind]
  congr 1
  funext r c1
  cases pend c1 r with
  | none => rfl
  | some p => obtain ⟨p, c2⟩ := p; simp
@[simp] theorem wE_sPend {is : List Nat} {l : List Em} {Q : Fl → Cf → Prop} : wE (sPend is l c) Q = wE (mPend l c) fun ps c1 => ps.length ≤ sizeLine ∧ oE (putL is ps c1) fun c2 => Q .nx c2 := by
  unfold sPend
  rw [wE_bind]
  congr 1
  funext ps c1
  rw [wE_ite]
  by_cases h : ps.length ≤ sizeLine
  · rw [if_pos h]
    cases putL is ps c1 <;> simp [h]
  · rw [if_neg h]; simp [h]
@[simp] theorem pend_fz {d : D} : pend c (.fz d) = some (.fz d, c) := rfl
@[simp] theorem pend_nwl {d : List D} : pend c (.nw (.lst d)) = some (.nw (.lst d), c) := rfl
@[simp] theorem pend_loc {i : Nat} {ρ : List Sl} {S : List D} : pend ⟨ρ, S⟩ (.loc i) = match ρ[i]? with
    | some (.ow d) => some (.fz d, ⟨ρ.set i (.fz d), S⟩)
    | some (.fz d) => some (.fz d, ⟨ρ, S⟩)
    | _ => none := rfl
@[simp] theorem putL_nil : putL [] [] c = some c := rfl
@[simp] theorem putL_fz {i : Nat} {is : List Nat} {d : D} {ds : List Pend} {ρ : List Sl} {S : List D} : putL (i :: is) (.fz d :: ds) ⟨ρ, S⟩ = if i < ρ.length then putL is ds ⟨ρ.set i (.fz d), S⟩ else none := rfl
@[simp] theorem putL_nw {i : Nat} {is : List Nat} {d : D} {ds : List Pend} {ρ : List Sl} {S : List D} : putL (i :: is) (.nw d :: ds) ⟨ρ, S⟩ = if i < ρ.length then putL is ds ⟨ρ.set i (.ow d), S⟩ else none := rfl
/-! methods that change -/
@[simp] theorem wE_mMut {T : String} {G : D → List D → Option (D × D)} {Q : Rv → Cf → Prop} : wE (mMut T G m ms c) Q = wE (m c) fun r c1 => oE (cont c1 r) fun d1 => tyD T d1 = true ∧ wE (ms c1) fun rs c2 => oE (vals c2 rs) fun p => oE (cont p.2 r) fun d => oE (G d p.1) fun q => oE (putB p.2 r q.1) fun c4 => Q (.fz q.2) c4 := by
  unfold mMut
  rw [wE_bind]
  congr 1
  funext r c1
  cases cont c1 r with
  | none => rfl
  | some d1 =>
    show wE (if tyD T d1 = true then _ else _) Q = (tyD T d1 = true ∧ _)
    by_cases h : tyD T d1 = true
    · rw [if_pos h, wE_bind]
      simp only [h, true_and]
      congr 1
      funext rs c2
      cases vals c2 rs with
      | none => rfl
      | some p =>
        obtain ⟨ds, c3⟩ := p
        simp only [oE_some]
        cases cont c3 r with
        | none => rfl
        | some d =>
          simp only [oE_some]
          cases G d ds with
          | none => rfl
          | some q =>
            obtain ⟨d', res⟩ := q
            simp only [oE_some]
            cases putB c3 r d' <;> rfl
    · rw [if_neg h]; simp [h]
@[simp] theorem cont_loc {i : Nat} {ρ : List Sl} {S : List D} : cont ⟨ρ, S⟩ (.loc i) = match ρ[i]? with
    | some (.ow d) => some d
    | _ => none := rfl
@[simp] theorem cont_hdl {n : Nat} : cont c (.fz (.hdl n)) = c.S[n]? := rfl
@[simp] theorem putB_loc {i : Nat} {d : D} {ρ : List Sl} {S : List D} : putB ⟨ρ, S⟩ (.loc i) d = some ⟨ρ.set i (.ow d), S⟩ := rfl
@[simp] theorem putB_hdl {n : Nat} {d : D} {ρ : List Sl} {S : List D} : putB ⟨ρ, S⟩ (.fz (.hdl n)) d = some ⟨ρ, S.set n d⟩ := rfl
@[simp] theorem wE_sPut {G : D → D → D → Option D} {mv mo mi : Em} {Q : Fl → Cf → Prop} : wE (sPut G mv mo mi c) Q = wE (mv c) fun rv c1 => wE (mo c1) fun ro c2 => wE (mi c2) fun ri c3 => oE (view c3 ri) fun di => oE (toVal c3 (settle rv)) fun p => oE (cont p.2 (settle ro)) fun d => oE (G d di p.1) fun d' => oE (putB p.2 (settle ro) d') fun c5 => Q .nx c5 := by
  unfold sPut
  rw [wE_bind, wE_st]
  congr 1
  funext rv c1
  rw [wE_bind, wE_st]
  congr 1
  funext ro c2
  rw [wE_bind]
  congr 1
  funext ri c3
  cases view c3 ri with
  | none => rfl
  | some di =>
    simp only [oE_some]
    cases toVal c3 (settle rv) with
    | none => rfl
    | some p =>
      obtain ⟨dv, c4⟩ := p
      simp only [oE_some]
      cases cont c4 (settle ro) with
      | none => rfl
      | some d =>
        simp only [oE_some]
        cases G d di dv with
        | none => rfl
        | some d' =>
          simp only [oE_some]
          cases putB c4 (settle ro) d' <;> rfl
/-! displays, slices -/
@[simp] theorem wE_mPairs_nil {Q : List (Key × D) → Cf → Prop} : wE (mPairs [] c) Q = Q [] c := propext Iff.rfl
@[simp] theorem wE_mPairs_cons {k : Key} {ps : List (Key × Em)} {Q : List (Key × D) → Cf → Prop} : wE (mPairs ((k, m) :: ps) c) Q = wE (m c) fun r c1 => oE (toVal c1 r) fun p => wE (mPairs ps p.2) fun kvs c3 => Q ((k, p.1) :: kvs) c3 := by
  show wE ((m c).bind _) Q = _
  rw [wE_bind]
  congr 1
  funext r c1
  cases toVal c1 r with
  | none => rfl
  | some p => obtain ⟨d, c2⟩ := p; simp
@[simp] theorem wE_mDisp {ps : List (Key × Em)} {Q : Rv → Cf → Prop} : wE (mDisp ps c) Q = wE (mPairs ps c) fun kvs c1 => kvs.length ≤ 15 ∧ Q (.nw (.dct (mergeD kvs []))) c1 := by
  unfold mDisp
  rw [wE_bind]
  congr 1
  funext kvs c1
  rw [wE_ite]
  by_cases h : kvs.length ≤ 15
  · rw [if_pos h]; simp [h]
  · rw [if_neg h]; simp [h]
/-! defs -/
theorem wE_runF {n : Nat} {mb : Sm} {ds S : List D} {Q : Rv → Cf → Prop} (h : wE (mb ⟨ds.map Sl.fz ++ List.replicate (n - ds.length) .un, S⟩) fun fl c => match fl with
    | .nx => Q (.fz .non) ⟨[], c.S⟩
    | .rt r => oE (leaveR c r) fun r' => Q r' ⟨[], c.S⟩
    | _ => False) : wE (runF n mb ds S) Q := by
  unfold runF
  cases e : mb ⟨ds.map Sl.fz ++ List.replicate (n - ds.length) .un, S⟩ with
  | ok fl c =>
    rw [e] at h
    cases fl with
    | rt r =>
      have h : oE (leaveR c r) fun r' => Q r' ⟨[], c.S⟩ := h
      dsimp only
      cases q : leaveR c r with
      | none => rw [q] at h; exact h
      | some r' => rw [q] at h; exact h
    | _ => exact h
  | _ => rw [e] at h; exact h
@[simp] theorem leaveR_fz {d : D} : leaveR c (.fz d) = some (.fz d) := rfl
@[simp] theorem leaveR_nw {d : D} : leaveR c (.nw d) = some (.nw d) := rfl
@[simp] theorem leaveR_loc {i : Nat} {ρ : List Sl} {S : List D} : leaveR ⟨ρ, S⟩ (.loc i) = match ρ[i]? with
    | some (.ow d) => some (.nw d)
    | some (.fz d) => some (.fz d)
    | _ => none := rfl
/-! loops -/
theorem wE_for_inv {g : D → Cf → Option Cf} {body : Sm} {R : Rv → Cf → Prop} (I : Nat → Cf → Prop) : ∀ {ds : List D} {k : Nat} {c : Cf},
    (∀ i d c, ds[i]? = some d → I (k + i) c → oE (g d c) fun c1 => wE (body c1) fun fl c2 => match fl with | .nx => I (k + i + 1) c2 | .ct => I (k + i + 1) c2 | .rt r => R r c2 | .bk => False) → I k c →
    wE (forD g body ds c) fun fl c' => (fl = .nx ∧ I (k + ds.length) c') ∨ ∃ r, fl = .rt r ∧ R r c'
  | [], k, c, h, hI => .inl ⟨rfl, hI⟩
  | d :: ds, k, c, h, hI => by
    have h0 := h 0 d c rfl hI
    unfold forD
    cases e : g d c with
    | none => rw [e] at h0; exact h0.elim
    | some c1 =>
      rw [e] at h0
      have h0 : wE (body c1) fun fl c2 => match fl with | .nx => I (k + 0 + 1) c2 | .ct => I (k + 0 + 1) c2 | .rt r => R r c2 | .bk => False := h0
      dsimp only
      have nxt : ∀ c2, I (k + 1) c2 → wE (forD g body ds c2) fun fl c' => (fl = .nx ∧ I (k + (d :: ds).length) c') ∨ ∃ r, fl = .rt r ∧ R r c' := fun c2 h2 => by
        have := wE_for_inv (g := g) (body := body) (R := R) I (ds := ds) (k := k + 1) (c := c2) (fun i d' c' e' hi => by
          have := h (i + 1) d' c' (by simpa using e') (by rw [show k + (i + 1) = k + 1 + i by omega]; exact hi)
          rw [show k + (i + 1) = k + 1 + i by omega] at this
          exact this) h2
        rw [List.length_cons, show k + (ds.length + 1) = k + 1 + ds.length by omega]
        exact this
      cases e2 : body c1 with
      | ok fl c2 =>
        rw [e2] at h0
        cases fl with
        | nx => exact nxt c2 h0
        | ct => exact nxt c2 h0
        | rt r => exact .inr ⟨r, rfl, h0⟩
        | bk => exact h0.elim
      | _ => rw [e2] at h0; exact h0.elim
theorem wE_for {mi : Cf → Res (List D)} {g : D → Cf → Option Cf} {body : Sm} {Q : Fl → Cf → Prop} : wE (sFor mi g body c) Q = wE (mi c) fun ds c1 => wE (forD g body ds c1) Q := by simp [sFor]
/-- a while loop: the measure falls -/
theorem wE_wh {body : Sm} {R : Rv → Cf → Prop} {Z : Cf → Prop} (I : Nat → Cf → Prop) (h : ∀ m c, I m c → wE (t c) fun b c1 => if b = true then wE (body c1) fun fl c2 => match fl with
      | .nx => ∃ m', m = m' + 1 ∧ I m' c2
      | .rt r => R r c2
      | _ => False else Z c1) : ∀ {n m : Nat} {c : Cf}, m < n → I m c → wE (whD t body n c) fun fl c' => (fl = .nx ∧ Z c') ∨ ∃ r, fl = .rt r ∧ R r c'
  | 0, _, _, hn, _ => absurd hn (by omega)
  | n + 1, m, c, hn, hI => by
    have h0 := h m c hI
    unfold whD
    cases e : t c with
    | ok b c1 =>
      rw [e] at h0
      cases b with
      | false => exact .inl ⟨rfl, h0⟩
      | true =>
        have h0 : wE (body c1) fun fl c2 => match fl with | .nx => ∃ m', m = m' + 1 ∧ I m' c2 | .rt r => R r c2 | _ => False := h0
        dsimp only
        cases e2 : body c1 with
        | ok fl c2 =>
          rw [e2] at h0
          cases fl with
          | nx =>
            obtain ⟨m', rfl, h2⟩ := h0
            exact wE_wh I h (by omega) h2
          | rt r => exact .inr ⟨r, rfl, h0⟩
          | _ => exact h0.elim
        | _ => rw [e2] at h0; exact h0.elim
    | _ => rw [e] at h0; exact h0.elim
/-! comprehensions -/
theorem comp_inv {g : D → Cf → Option Cf} {me : Em} {vs : List Nat} (I : List D → List D → Cf → Prop) (h : ∀ d ds acc c, I acc (d :: ds) c → oE (g d { c with ρ := wipeR c.ρ vs }) fun c1 => wE (t c1) fun b c2 =>
      if b = true then wE (me c2) fun r c3 => oE (toVal c3 r) fun p => acc.length < sizeLine ∧ I (acc ++ [p.1]) ds p.2 else I acc ds c2) :
    ∀ {ds acc : List D} {c : Cf}, I acc ds c → oE (compD g t me vs ds acc c) fun p => I p.1 [] p.2
  | [], acc, c, hI => hI
  | d :: ds, acc, c, hI => by
    have h0 := h d ds acc c hI
    unfold compD
    cases e : g d { c with ρ := wipeR c.ρ vs } with
    | none => rw [e] at h0; exact h0.elim
    | some c1 =>
      rw [e] at h0
      simp only [oE_some] at h0
      dsimp only
      cases e2 : t c1 with
      | ok b c2 =>
        rw [e2] at h0
        cases b with
        | false => exact comp_inv I h (by simpa using h0)
        | true =>
          simp only [wE_ok, if_true] at h0
          dsimp only
          cases e3 : me c2 with
          | ok r c3 =>
            rw [e3] at h0
            simp only [wE_ok] at h0
            dsimp only
            cases e4 : toVal c3 r with
            | none => rw [e4] at h0; exact h0.elim
            | some p =>
              obtain ⟨v, c4⟩ := p
              rw [e4] at h0
              simp only [oE_some] at h0
              dsimp only
              rw [if_pos h0.1]
              exact comp_inv I h h0.2
          | _ => rw [e3] at h0; exact h0.elim
      | _ => rw [e2] at h0; exact h0.elim
theorem wE_mComp {vs : List Nat} {mi : Cf → Res (List D)} {g : D → Cf → Option Cf} {me : Em} {Q : Rv → Cf → Prop} : wE (mComp vs mi g t me c) Q = wE (mi c) fun ds c1 => noOw c1.ρ vs = true ∧ oE (compD g t me vs ds [] c1) fun p => Q (.nw (.lst p.1)) { p.2 with ρ := restR c1.ρ p.2.ρ vs } := by
  unfold mComp
  rw [wE_bind]
  congr 1
  funext ds c1
  rw [wE_ite]
  by_cases h : noOw c1.ρ vs = true
  · rw [if_pos h]
    cases compD g t me vs ds [] c1 <;> simp [h]
  · rw [if_neg h]; simp [h]
/-- one name, nothing changed: a filter and a map -/
theorem comp_pure {j : Nat} {me : Em} {p : D → Bool} {f : D → D} {ρ : List Sl} {S : List D} {s0 : Sl} {ds : List D} {Q : Rv → Cf → Prop} (hj : ρ[j]? = some s0) (h0 : ∀ d, s0 ≠ .ow d) (hl : ds.length ≤ sizeLine)
    (ht : ∀ d ∈ ds, wE (t ⟨ρ.set j (.fz d), S⟩) fun b c => b = p d ∧ c = ⟨ρ.set j (.fz d), S⟩)
    (hm : ∀ d ∈ ds, p d = true → wE (me ⟨ρ.set j (.fz d), S⟩) fun r c => toVal c r = some (f d, ⟨ρ.set j (.fz d), S⟩))
    (hQ : Q (.nw (.lst ((ds.filter p).map f))) ⟨ρ, S⟩) : noOw ρ [j] = true ∧ oE (compD (gFz j) t me [j] ds [] ⟨ρ, S⟩) fun q => Q (.nw (.lst q.1)) { q.2 with ρ := restR ρ q.2.ρ [j] } := by
  have hjl : j < ρ.length := (List.getElem?_eq_some_iff.mp hj).1
  have gd : ρ.getD j .un = s0 := by rw [List.getD_eq_getElem?_getD, hj]; rfl
  refine ⟨?_, ?_⟩
  · unfold noOw
    simp only [List.all_cons, List.all_nil, Bool.and_true]
    rw [gd]
    cases s0 with
    | ow d => exact absurd rfl (h0 d)
    | _ => rfl
  · have key := comp_inv (g := gFz j) (t := t) (me := me) (vs := [j]) (fun acc rest c => ∃ done x, done ++ rest = ds ∧ acc = (done.filter p).map f ∧ c = ⟨ρ.set j x, S⟩) (fun d rest acc c ⟨done, x, e1, e2, e3⟩ => by
      subst e3
      have hd : d ∈ ds := by rw [← e1]; simp
      have ew : wipeR (ρ.set j x) [j] = ρ.set j .un := by simp [wipeR, List.set_set]
      rw [ew]
      unfold gFz
      rw [if_pos (by simpa using hjl)]
      simp only [oE_some, List.set_set]
      refine wE_mono (ht d hd) fun b c ⟨hb, hc⟩ => ?_
      subst hb hc
      cases hp : p d with
      | false =>
        rw [if_neg (by simp)]
        exact ⟨done ++ [d], _, by simp [e1], by simp [e2, List.filter_append, hp], rfl⟩
      | true =>
        rw [if_pos rfl]
        refine wE_mono (hm d hd hp) fun r c hv => ?_
        rw [hv]
        refine ⟨?_, done ++ [d], _, by simp [e1], by simp [e2, List.filter_append, hp], rfl⟩
        rw [e2, List.length_map]
        have h1 := List.length_filter_le p done
        have h2 : done.length + (d :: rest).length = ds.length := by rw [← e1]; simp
        rw [List.length_cons] at h2
        omega) (ds := ds) (acc := []) (c := ⟨ρ, S⟩) ⟨[], s0, rfl, rfl, by
          congr 1
          apply List.ext_getElem?
          intro k
          by_cases hk : k = j
          · subst hk; rw [List.getElem?_set_self hjl, hj]
          · rw [List.getElem?_set_ne (Ne.symm hk)]⟩
    cases e : compD (gFz j) t me [j] ds [] ⟨ρ, S⟩ with
    | none => rw [e] at key; exact key.elim
    | some q =>
      obtain ⟨acc, c2⟩ := q
      rw [e] at key
      obtain ⟨done, x, e1, e2, e3⟩ := key
      simp only [List.append_nil] at e1
      simp only at e3
      subst e1
      show Q (.nw (.lst acc)) { c2 with ρ := restR ρ c2.ρ [j] }
      have e2 : acc = (done.filter p).map f := e2
      rw [e2, e3]
      have er : restR ρ (ρ.set j x) [j] = ρ := by
        simp only [restR, List.set_set, gd]
        apply List.ext_getElem?
        intro k
        by_cases hk : k = j
        · subst hk; rw [List.getElem?_set_self hjl, hj]
        · rw [List.getElem?_set_ne (Ne.symm hk)]
      show Q _ ⟨restR ρ (ρ.set j x) [j], S⟩
      rw [er]
      exact hQ
end
end LH
/-! LHMore: three names at once, chains of two comparisons. -/
namespace LH
open PySem PySem.Spec PyProof.Rows L2
section
variable {X : Cx} {a b d : Expr} {ma mb mc : Em} {ms : List Em} {pos tpos epos : Pos}
theorem sx_tup3 {x y z : Str} {px py pz : Pos} {k k2 : Nat} (i j l : Nat) (hc : X.calm = true) (hN : X.N.Nodup) (L : ExL X [a, b, d] ms) (hi : X.N[i]? = some x := by rfl) (hj : X.N[j]? = some y := by rfl) (hl : X.N[l]? = some z := by rfl) (hij : i ≠ j := by decide) (hil : i ≠ l := by decide) (hjl : j ≠ l := by decide)
    (hx : X.env.scope.names.lookup x = some .local := by rfl) (hy : X.env.scope.names.lookup y = some .local := by rfl) (hz : X.env.scope.names.lookup z = some .local := by rfl)
    (hw : swappedStores [.Tuple [.Name x px, .Name y py, .Name z pz] k tpos] (.Tuple [a, b, d] k2 epos) X.env = pure (some [x, y, z]) := by rfl)
    (hs : swapsWithSole [.Tuple [.Name x px, .Name y py, .Name z pz] k tpos] (.Tuple [a, b, d] k2 epos) pos.line X.env = pure false := by rfl) :
    Sx X (.Assign [.Tuple [.Name x px, .Name y py, .Name z pz] k tpos] (.Tuple [a, b, d] k2 epos) pos) (sPend [i, j, l] ms) := by
  refine ⟨fun E η M c σ H s => ?_⟩
  refine out_pend L s fun Z hq => ps_ws (ps_par3 hc hN hi hj hl hij hil hjl hx hy hz wa_pa hw hs) ?_
  intro pp pins st I
  refine thn (hq pp pins st I) fun us s2 ⟨vs, H2, I2, r2, q1, q2, q3, q4⟩ => ⟨vs, H2, I2, r2, ?_⟩
  match vs, q1 with
  | [u, v, w], _ => exact ⟨u, v, w, rfl, q4⟩
def mChain (g g' : D → D → Option Rv) (ma mb mc : Em) : Em := fun c => (ma c).st.bind fun ra c1 => (mb c1).st.bind fun rb c2 => (m2 g ra rb c2).bind fun rk c3 => match view c3 rk with
  | some (.bl true) => (mc c3).st.bind fun rc c4 => m2 g' rb rc c4
  | some (.bl false) => .ok (.fz (.bl false)) c3
  | _ => .stuck
theorem out_chain {op op' : CmpOp} {g g' : D → D → Option Rv} (hg : Op2 X (Wo X (compareOp op)) g) (hg' : Op2 X (Wo X (compareOp op')) g') (ha : Ex X a ma) (hb : Ex X b mb) (hc : Ex X d mc) {E : En} {η : List Addr} {M H : Hp} {c : Cf} {σ : St} (s : SR X.K X.mg E η M c σ H) :
    Out X (RV X.K X.mg) (tChain (Wo X (compareOp op)) (Wo X (compareOp op')) (We X a) (We X b) (We X d) σ H) E η M σ (mChain g g' ma mb mc c) := by
  refine Out.bind (R := RVst X.K X.mg) (fun x H1 Q => We X b σ H1 fun y H2 => Wo X (compareOp op) x y H2 fun z H3 => ∃ k, z = .bl k ∧ (if k = true then We X d σ H3 fun w' H4 => Wo X (compareOp op') y w' H4 Q else Q (.bl false) H3)) (out_st (ha E η M c σ H s)) (fun Q hq => hq) fun ra c1 x η1 M1 H1 s1 x1 z1 => ?_
  refine Out.bind (R := RVst X.K X.mg) (fun y H2 Q => Wo X (compareOp op) x y H2 fun z H3 => ∃ k, z = .bl k ∧ (if k = true then We X d σ H3 fun w' H4 => Wo X (compareOp op') y w' H4 Q else Q (.bl false) H3)) (out_st (hb E η1 M1 c1 σ H1 s1)) (fun Q hq => hq) fun rb c2 y η2 M2 H2 s2 x2 z2 => ?_
  refine Out.bind (fun z H3 Q => ∃ k, z = .bl k ∧ (if k = true then We X d σ H3 fun w' H4 => Wo X (compareOp op') y w' H4 Q else Q (.bl false) H3)) (out_m2 hg s2 (z1.2.keep x2 z1.1) z2.2) (fun Q hq => hq) fun rk c3 z η3 M3 H3 s3 x3 z3 => ?_
  cases e1 : view c3 rk with
  | none => trivial
  | some dk =>
    cases dk with
    | bl k =>
      have ez := (view_ok s3 z3 e1).bl
      subst ez
      cases k with
      | false => exact out_ok s3 (fun Q hq => ⟨false, rfl, by rw [if_neg (by simp)]; exact hq⟩) (show RV X.K X.mg E η3 M3 c3 σ H3 (.bl false) (.fz (.bl false)) from Rep.bl false)
      | true =>
        have o : Out X (RV X.K X.mg) (fun Q => We X d σ H3 fun w' H4 => Wo X (compareOp op') y w' H4 Q) E η3 M3 σ ((mc c3).st.bind fun rc c4 => m2 g' rb rc c4) := by
          refine Out.bind (R := RVst X.K X.mg) (fun w' H4 Q => Wo X (compareOp op') y w' H4 Q) (out_st (hc E η3 M3 c3 σ H3 s3)) (fun Q hq => hq) fun rc c4 w' η4 M4 H4 s4 x4 z4 => ?_
          exact out_m2 hg' s4 (z2.2.keep (x3.trans x4) z2.1) z4.2
        exact o.imp (fun x => x) (fun Q hq => ⟨true, rfl, by rw [if_pos rfl]; exact hq⟩) fun _ _ _ _ _ _ _ z => z
    | _ => trivial
theorem ex_chain {op op' : CmpOp} {g g' : D → D → Option Rv} (hg : Op2 X (Wo X (compareOp op)) g) (hg' : Op2 X (Wo X (compareOp op')) g') (ha : Ex X a ma) (hb : Ex X b mb) (hc : Ex X d mc) (hm : lastMarks [op, op'] [b, d] = false := by with_unfolding_all rfl) : Ex X (.Compare a [op, op'] [b, d] pos) (mChain g g' ma mb mc) :=
  ⟨fun E η M c σ H s => (out_chain hg hg' ha hb hc s).imp (fun x => x) (fun Q hq => pe_we (pe_chain wo_op wo_op we_pe we_pe we_pe hm) hq) fun _ _ _ _ _ _ _ z => z⟩
theorem tx_chain {op op' : CmpOp} {g g' : D → D → Option Rv} (hg : Op2 X (Wo X (compareOp op)) g) (hg' : Op2 X (Wo X (compareOp op')) g') (ha : Ex X a ma) (hb : Ex X b mb) (hc : Ex X d mc) (hm : lastMarks [op, op'] [b, d] = false := by with_unfolding_all rfl) : Tx X (.Compare a [op, op'] [b, d] pos) (mBool (mChain g g' ma mb mc)) :=
  ⟨fun E η M c σ H s => out_bool (out_chain hg hg' ha hb hc s) fun Q hq => pt_wt (pt_chain wo_op wo_op we_pe we_pe we_pe hm) hq⟩
end
end LH
/-! LHObj: fields of objects. -/
namespace LH
open PySem PySem.Spec PyProof.Rows L2
/-- the classes of these names have no attribute of their own called f -/
def FldOk (K : Fg) (mg : Mg) (cs : List Str) (f : Str) : Prop := ∀ c ∈ cs, ∀ C, mg c = some (.ref C) → Cls K C ∧ NoAttr K C f
theorem lookup_rep {K : Fg} {mg : Mg} {η : List Addr} {M : Hp} {f : Str} {d : D} : ∀ {fs : List (Str × V)} {fds : List (Str × D)}, fs.map (·.1) = fds.map (·.1) → RepL K mg η M (fs.map (·.2)) (fds.map (·.2)) → fds.lookup f = some d → ∃ v, fs.lookup f = some v ∧ Rep K mg η M v d
  | [], [], _, _, e => by cases e
  | [], _ :: _, h, _, _ => by simp at h
  | _ :: _, [], h, _, _ => by simp at h
  | (g, v) :: fs, (g', x) :: fds, h, .cons r rs, e => by
    simp only [List.map_cons, List.cons.injEq] at h
    obtain ⟨rfl, h⟩ := h
    rw [List.lookup_cons] at e ⊢
    cases q : f == g with
    | true =>
      rw [q] at e
      simp only [if_true] at e ⊢
      cases e
      exact ⟨v, rfl, r⟩
    | false =>
      rw [q] at e
      simp only [Bool.false_eq_true, if_false] at e ⊢
      exact lookup_rep h rs e
def putFd (f : Str) (d : D) : List (Str × D) → List (Str × D)
  | [] => [(f, d)]
  | (g, x) :: r => if g = f then (g, d) :: r else (g, x) :: putFd f d r
theorem putF_rep {K : Fg} {mg : Mg} {η : List Addr} {M : Hp} {f : Str} {v : V} {d : D} (r : Rep K mg η M v d) : ∀ {fs : List (Str × V)} {fds : List (Str × D)}, fs.map (·.1) = fds.map (·.1) → RepL K mg η M (fs.map (·.2)) (fds.map (·.2)) →
    (putF f v fs).map (·.1) = (putFd f d fds).map (·.1) ∧ RepL K mg η M ((putF f v fs).map (·.2)) ((putFd f d fds).map (·.2))
  | [], [], _, _ => ⟨rfl, .cons r .nil⟩
  | [], _ :: _, h, _ => by simp at h
  | _ :: _, [], h, _ => by simp at h
  | (g, y) :: fs, (g', x) :: fds, h, .cons r1 rs => by
    simp only [List.map_cons, List.cons.injEq] at h
    obtain ⟨rfl, h⟩ := h
    unfold putF putFd
    by_cases q : g = f
    · rw [if_pos q, if_pos q]
      exact ⟨by simp [h], .cons r rs⟩
    · rw [if_neg q, if_neg q]
      obtain ⟨h1, h2⟩ := putF_rep r h rs
      exact ⟨by simp [h1], .cons r1 h2⟩
def gFld (cs : List Str) (f : Str) (d : D) : Option Rv := match d with
  | .obj c fds => if c ∈ cs then (fds.lookup f).map .fz else none
  | _ => none
def gStF (cs : List Str) (f : Str) (d dv : D) : Option D := match d with
  | .obj c fds => if c ∈ cs ∧ fds.length < 1000 then some (.obj c (putFd f dv fds)) else none
  | _ => none
def sFldS (g : D → D → Option D) (mv mo : Em) : Sm := fun c => (mv c).st.bind fun rv c1 => (mo c1).st.bind fun ro c2 => match toVal c2 rv with
  | none => .stuck
  | some (dv, c3) => match cont c3 ro with
    | none => .stuck
    | some d => match g d dv with
      | none => .stuck
      | some d' => match putB c3 ro d' with
        | none => .stuck
        | some c4 => .ok .nx c4
section
variable {X : Cx} {o value : Expr} {mo mv : Em} {pos pos' : Pos} {cs : List Str} {f : Str}
theorem ex_fld (hk : FldOk X.K X.mg cs f) (ho : Ex X o mo) (hb : attributeBase o f X.env (eval o X.env) = eval o X.env := by rfl) : Ex X (.Attribute o f pos) (mUn (gFld cs f) mo) := by
  refine ⟨fun E η M c σ H s => ?_⟩
  refine Out.bind (fun (x : V) H1 (Q : VK) => ∃ a C dx fs v, x = .ref a ∧ H1 a = some (.ins C dx fs) ∧ Cls X.K C ∧ NoAttr X.K C f ∧ fs.lookup f = some v ∧ Q v H1) (ho E η M c σ H s) (fun Q hq => pe_we (pe_fld we_pe hb) hq) fun ra c1 x η1 M1 H1 s1 x1 z1 => ?_
  unfold m1
  cases e1 : view c1 ra with
  | none => trivial
  | some d =>
    dsimp only
    cases e2 : gFld cs f d with
    | none => trivial
    | some r =>
      unfold gFld at e2
      cases d with
      | obj n fds =>
        dsimp only at e2
        split at e2
        · rename_i hc
          obtain ⟨dv, h1, rfl⟩ := Option.map_eq_some_iff.mp e2
          obtain ⟨a, C, dx, fs, rfl, k1, k2, k3, k4⟩ := (view_ok s1 z1 e1).obj s1.sub
          obtain ⟨v, k5, k6⟩ := lookup_rep k3 k4 h1
          obtain ⟨q1, q2⟩ := hk n hc C k1
          exact out_ok s1 (fun Q hq => ⟨a, C, dx, fs, v, rfl, k2, q1, q2, k5, hq⟩) (show RV X.K X.mg E η1 M1 c1 σ H1 v (.fz dv) from k6)
        · cases e2
      | _ => cases e2
theorem sx_fld (hk : FldOk X.K X.mg cs f) (ho : Ex X o mo) (hv : Ex X value mv) (hs : swapsWith value (some (.Attribute o f pos')) pos.line X.env = pure false := by rfl) : Sx X (.Assign [.Attribute o f pos'] value pos) (sFldS (gStF cs f) mv mo) := by
  refine ⟨fun E η M c σ H s => ?_⟩
  refine OutS.bind (R := RVst X.K X.mg) (fun y H1 Z => We X o σ H1 fun x H2 => ∃ a C dx fs, x = .ref a ∧ H2 a = some (.ins C dx fs) ∧ Cls X.K C ∧ NoAttr X.K C f ∧ fs.length < 1000 ∧ Z.nx σ (upd H2 a (.ins C dx (putF f y fs)))) (out_st (hv E η M c σ H s)) (fun Z hq => ps_ws (ps_fld we_pe we_pe hs) hq) fun rv c1 y η1 M1 H1 s1 x1 z1 => ?_
  refine OutS.bind (R := RVst X.K X.mg) (fun x H2 Z => ∃ a C dx fs, x = .ref a ∧ H2 a = some (.ins C dx fs) ∧ Cls X.K C ∧ NoAttr X.K C f ∧ fs.length < 1000 ∧ Z.nx σ (upd H2 a (.ins C dx (putF f y fs)))) (out_st (ho E η1 M1 c1 σ H1 s1)) (fun Z hq => hq) fun ro c2 x η2 M2 H2 s2 x2 z2 Z gd => ?_
  cases e2 : toVal c2 rv with
  | none => rw [e2] at gd; exact gd.elim
  | some q =>
    obtain ⟨dv, c3⟩ := q
    rw [e2] at gd
    dsimp only at gd
    cases e3 : cont c3 ro with
    | none => rw [e3] at gd; exact gd.elim
    | some d =>
      rw [e3] at gd
      dsimp only at gd
      cases e4 : gStF cs f d dv with
      | none => rw [e4] at gd; exact gd.elim
      | some d' =>
        rw [e4] at gd
        dsimp only at gd
        cases e5 : putB c3 ro d' with
        | none => rw [e5] at gd; exact gd.elim
        | some c4 =>
          rw [e5] at gd
          dsimp only at gd
          obtain ⟨M3, s3, x3, r3⟩ := toVal_ok s2 (z1.2.keep x2 z1.1) e2
          obtain ⟨a, rfl, _, ha, wr⟩ := cont_ok s3 (z2.2.keep (c' := c3) x3 z2.1) e3
          unfold gStF at e4
          cases d with
          | obj n fds =>
            dsimp only at e4
            split at e4
            · rename_i hc
              cases e4
              obtain ⟨C, dx, fs, k1, k2, k3, k4⟩ := ha
              obtain ⟨q1, q2⟩ := hk n hc.1 C k1
              obtain ⟨p1, p2⟩ := putF_rep (f := f) r3 k3 k4
              have len : fs.length = fds.length := by have := congrArg List.length k3; simpa using this
              exact ⟨a, C, dx, fs, rfl, k2, q1, q2, by omega, gd σ η2 M3 _ (wr _ (.obj n (putFd f dv fds)) _ ⟨C, dx, _, k1, upd_same, p1, p2⟩ e5) x3⟩
            · cases e4
          | _ => cases e4
end
end LH
/-! LHMeth: methods called. -/
namespace LH
open PySem PySem.Spec PyProof.Rows L2
/-- a method that runs as F -/
structure FnM (P : Program) (w : World) (K : Fg) (mg : Mg) (base : Heap) (cn m : Str) (k n : Nat) (F : Fm) : Prop where
  ex : ∃ C f fd ps, mg cn = some (.ref C) ∧ Cls K C ∧ Meth K C m f ∧ Binds K fd ps [] ∧ FnG P w K mg base (L2.CX P w) k f fd ps (spF K mg n F)
def mMeth (cn m : Str) (n : Nat) (F : Fm) (mo : Em) (ms : Cf → Res (List Rv)) : Em := fun c => (mo c).st.bind fun ro c1 => match view c1 ro with
  | some (.obj c' fds) => if c' = cn ∧ fds.lookup m = none then (ms c1).bind fun rs c2 => (match vals c2 (ro :: rs) with
    | some (ds, c3) => if ds.length = n then (match F ds c3.S with
      | .ok r c4 => .ok r ⟨c3.ρ, c4.S⟩
      | .err x c4 => .err x ⟨c3.ρ, c4.S⟩
      | .stuck => .stuck) else .stuck
    | none => .stuck) else .stuck
  | _ => .stuck
theorem lookup_none {f : Str} {fs : List (Str × V)} {fds : List (Str × D)} (h : fs.map (·.1) = fds.map (·.1)) (e : fds.lookup f = none) : fs.lookup f = none := by
  induction fs generalizing fds with
  | nil => rfl
  | cons p fs ih =>
    cases fds with
    | nil => simp at h
    | cons q fds =>
      obtain ⟨g, v⟩ := p
      obtain ⟨g', x⟩ := q
      simp only [List.map_cons, List.cons.injEq] at h
      obtain ⟨rfl, h⟩ := h
      rw [List.lookup_cons] at e ⊢
      cases q : f == g with
      | true => rw [q] at e; simp at e
      | false =>
        rw [q] at e
        simp only [Bool.false_eq_true, if_false] at e ⊢
        exact ih h e
section
variable {X : Cx} {o e : Expr} {es : List Expr} {mo : Em} {ms : Cf → Res (List Rv)} {apos pos : Pos} {cn m : Str} {k n : Nat} {F : Fm} {pl : Sem Bool}
/-- what a call of a method wants, behind its arguments -/
def WfM (X : Cx) (n : Nat) (F : Fm) (σ : St) (vs : List V) (H : Hp) (Q : VK) : Prop := spF X.K X.mg n F vs H Q E0 ∨ ∃ W, Takes X W ∧ spF X.K X.mg n F vs H Q (fun cls d H' => W cls d σ H')
theorem out_meth {tw : VK → Prop} {C : Addr} (ta : St → Hp → (List V → Hp → Prop) → Prop) (hC : X.mg cn = some (.ref C)) (ho : Ex X o mo) (ha : ∀ (E : En) (η : List Addr) (M : Hp) (c : Cf) (σ : St) (H : Hp), SR X.K X.mg E η M c σ H → Out X (RVs X.K X.mg) (ta σ H) E η M σ (ms c)) {E : En} {η : List Addr} {M H : Hp} {c : Cf} {σ : St} (s : SR X.K X.mg E η M c σ H)
    (imp : ∀ Q : VK, We X o σ H (fun x H1 => ∃ a dx fs, x = .ref a ∧ H1 a = some (.ins C dx fs) ∧ fs.lookup m = none ∧ ta σ H1 (fun vs H2 => WfM X n F σ (x :: vs) H2 Q)) → tw Q) :
    Out X (RV X.K X.mg) tw E η M σ (mMeth cn m n F mo ms c) := by
  refine Out.bind (R := RVst X.K X.mg) (fun x H1 Q => ∃ a dx fs, x = .ref a ∧ H1 a = some (.ins C dx fs) ∧ fs.lookup m = none ∧ ta σ H1 (fun vs H2 => WfM X n F σ (x :: vs) H2 Q)) (out_st (ho E η M c σ H s)) imp fun ro c1 x η1 M1 H1 s1 x1 z1 => ?_
  cases e1 : view c1 ro with
  | none => trivial
  | some d =>
    cases d with
    | obj c' fds =>
      dsimp only
      by_cases hc : c' = cn ∧ fds.lookup m = none
      · rw [if_pos hc]
        obtain ⟨rfl, hl⟩ := hc
        obtain ⟨a, C', dx, fs, rfl, k1, k2, k3, k4⟩ := (view_ok s1 z1.2 e1).obj s1.sub
        rw [hC] at k1
        cases k1
        have o2 : Out X (RV X.K X.mg) (fun Q => ta σ H1 (fun vs H2 => WfM X n F σ (.ref a :: vs) H2 Q)) E η1 M1 σ ((ms c1).bind fun rs c2 => (match vals c2 (ro :: rs) with
            | some (ds, c3) => if ds.length = n then (match F ds c3.S with
              | .ok r c4 => .ok r ⟨c3.ρ, c4.S⟩
              | .err x c4 => .err x ⟨c3.ρ, c4.S⟩
              | .stuck => .stuck) else .stuck
            | none => .stuck)) := by
          refine Out.bind (R := RVs X.K X.mg) (fun vs H2 Q => WfM X n F σ (.ref a :: vs) H2 Q) (ha E η1 M1 c1 σ H1 s1) (fun Q hq => hq) fun rs c2 vs η2 M2 H2 s2 x2 z2 => ?_
          cases e3 : vals c2 (ro :: rs) with
          | none => trivial
          | some q =>
            obtain ⟨ds, c3⟩ := q
            dsimp only
            by_cases hn : ds.length = n
            · rw [if_pos hn]
              obtain ⟨M3, s3, x3, r3⟩ := vals_ok (vs := .ref a :: vs) s2 (fun r hr => (List.mem_cons.mp hr).elim (fun z => z ▸ z1.1) (z2.1 r)) (.cons (z1.2.keep x2 z1.1) z2.2) e3
              exact out_ext x3 (out_fn s3 r3 (by rw [r3.length]; exact hn) (fun Q hq => .inl hq) fun W Q tk hq => .inr ⟨W, tk, hq⟩)
            · rw [if_neg hn]; trivial
        exact o2.imp (fun x => x) (fun Q hq => ⟨a, dx, fs, rfl, k2, lookup_none k3 hl, hq⟩) fun _ _ _ _ _ _ _ z => z
      · rw [if_neg hc]; trivial
    | _ => trivial
theorem run_wfm {f : Addr} {fd : FuncData} {ps : List Str} {pins : List (Addr × Obj)} {σ : St} {H : Hp} {s : Shared} {Q : VK} {us : List Value} {vs : List V} (hF : FnG X.prog X.w X.K X.mg X.base (L2.CX X.prog X.w) k f fd ps (spF X.K X.mg n F)) (hr : RmG k X.A) (hb : Binds X.K fd ps []) (I : Inv X pins σ H s) (r : Vals vs us)
    (h : WfM X n F σ vs H Q) : wpAny (model X.prog X.w) X.A (call (.ref f) us) (EP X pins σ Q) X.xe s := by
  rcases h with q | ⟨W, tk, q⟩
  · exact runG (dvs := []) hF hr hb .nil (fun pins => passL pins σ) I r (by rw [List.append_nil]; exact q)
  · exact runG (dvs := []) hF hr hb .nil (passAt tk σ) I r (by rw [List.append_nil]; exact q)
theorem ex_meth (h : FnM X.prog X.w X.K X.mg X.base cn m k n F) (hr : RmG k X.A) (ho : Ex X o mo) (ha : Ax X (e :: es) ms)
    (hst : starEach (e :: es) X.env = (false, eval e X.env) :: starEach es X.env := by rfl) (hpl : (backTo pos (starEach es X.env)).any (·.1) = false := by rfl)
    (ht : eval (.Call (.Attribute o m apos) (e :: es) [] pos) X.env = (do
      let ov ← eval o X.env
      standAt apos.atName
      let (f, first) ← holding [ov] (getMethod ov m pl)
      callWith pos f first (backTo pos (starEach (e :: es) X.env)) (backToKw pos (keywordEach [] X.env))) := by rfl) : Ex X (.Call (.Attribute o m apos) (e :: es) [] pos) (mMeth cn m n F mo ms) := by
  obtain ⟨C, f, fd, ps, hC, hcl, hm, hb, hF⟩ := h
  refine ⟨fun E η M c σ H s => ?_⟩
  refine out_meth (Wa X (e :: es)) hC ho ha s fun Q hq => ?_
  intro pins st I
  refine PySem.W.methodCall_KW (pl := pl) (thn (hq pins st I) fun u s1 ⟨x, H1, I1, rx, a, dx, fs, ex, ea, l, q⟩ => ?_) ht
  subst ex
  obtain rfl : u = Value.ref a := rx
  refine getmeth_ok I1 ea hcl hm l ?_
  refine PySem.W.callWith_K (first := [.ref a]) (h₀ := X.base) I.ok.mod.kin hm.kp (thn (q pos pins s1 I1) fun us s2 ⟨vs, H2, I2, r, q2⟩ => ⟨I2.kIn, ?_⟩) hst hpl
  exact run_wfm (us := .ref a :: us) (vs := .ref a :: vs) hF hr hb I2 (.cons rfl r) q2
theorem ex_meth0 (h : FnM X.prog X.w X.K X.mg X.base cn m k n F) (hr : RmG k X.A) (ho : Ex X o mo)
    (ht : eval (.Call (.Attribute o m apos) [] [] pos) X.env = (do
      let ov ← eval o X.env
      standAt apos.atName
      let (f, first) ← holding [ov] (getMethod ov m pl)
      callWith pos f first (backTo pos (starEach [] X.env)) (backToKw pos (keywordEach [] X.env))) := by rfl) : Ex X (.Call (.Attribute o m apos) [] [] pos) (mMeth cn m n F mo maNil) := by
  obtain ⟨C, f, fd, ps, hC, hcl, hm, hb, hF⟩ := h
  refine ⟨fun E η M c σ H s => ?_⟩
  refine out_meth (ms := maNil) (fun _ H Q => Q [] H) hC ho (fun E η M c σ H s => out_ok s (fun Q hq => hq) ⟨fun r hr => by simp at hr, .nil⟩) s fun Q hq => ?_
  intro pins st I
  refine PySem.W.methodCall_KW (pl := pl) (thn (hq pins st I) fun u s1 ⟨x, H1, I1, rx, a, dx, fs, ex, ea, l, q⟩ => ?_) ht
  subst ex
  obtain rfl : u = Value.ref a := rx
  refine getmeth_ok I1 ea hcl hm l ?_
  exact PySem.W.callWith_K0 (first := [.ref a]) I1.kIn hm.kp (run_wfm (us := [.ref a]) (vs := [.ref a]) hF hr hb I1 (.cons rfl .nil) q)
end
end LH
/-! LHMake: new objects, kept as trees. -/
namespace LH
open PySem PySem.Spec PyProof.Rows L2
/-! no handle n within -/
mutual
def noH (n : Nat) : D → Bool
  | .hdl k => k != n
  | .lst xs => noHL n xs
  | .ro xs => noHL n xs
  | .tup xs => noHL n xs
  | .dct kvs => noHK n kvs
  | .dcT kvs => noHT n kvs
  | .obj _ fs => noHF n fs
  | .exc _ fs => noHF n fs
  | _ => true
def noHL (n : Nat) : List D → Bool
  | [] => true
  | x :: xs => noH n x && noHL n xs
def noHK (n : Nat) : List (Key × D) → Bool
  | [] => true
  | (_, x) :: xs => noH n x && noHK n xs
def noHT (n : Nat) : List (List Key × D) → Bool
  | [] => true
  | (_, x) :: xs => noH n x && noHT n xs
def noHF (n : Nat) : List (Str × D) → Bool
  | [] => true
  | (_, x) :: xs => noH n x && noHF n xs
end
theorem noHK_map {n : Nat} : ∀ {kvs : List (Key × D)}, noHK n kvs = noHL n (kvs.map (·.2))
  | [] => rfl
  | (_, x) :: xs => by show (noH n x && noHK n xs) = (noH n x && noHL n _); rw [noHK_map]
theorem noHT_map {n : Nat} : ∀ {kvs : List (List Key × D)}, noHT n kvs = noHL n (kvs.map (·.2))
  | [] => rfl
  | (_, x) :: xs => by show (noH n x && noHT n xs) = (noH n x && noHL n _); rw [noHT_map]
theorem noHF_map {n : Nat} : ∀ {kvs : List (Str × D)}, noHF n kvs = noHL n (kvs.map (·.2))
  | [] => rfl
  | (_, x) :: xs => by show (noH n x && noHF n xs) = (noH n x && noHL n _); rw [noHF_map]
section
variable {K : Fg} {mg : Mg} {η : List Addr} {M H : Hp} {x : Addr}
mutual
theorem rep_drop : ∀ {v : V} {d : D}, Rep K mg (η ++ [x]) M v d → noH η.length d = true → Rep K mg η M v d
  | _, _, .non, _ => .non
  | _, _, .bl b, _ => .bl b
  | _, _, .int i, _ => .int i
  | _, _, .str y, _ => .str y
  | _, .lst ds, .lst h r, e => .lst h (repL_drop r (by simpa [noH] using e))
  | _, .ro ds, .ro h r, e => .ro h (repL_drop r (by simpa [noH] using e))
  | _, .tup ds, .tup h r, e => .tup h (repL_drop r (by simpa [noH] using e))
  | _, .dct ds, .dct h k r, e => .dct h k (repL_drop r (by rw [← noHK_map]; simpa [noH] using e))
  | _, .dcT ds, .dcT h k r, e => .dcT h k (repL_drop r (by rw [← noHT_map]; simpa [noH] using e))
  | _, .obj _ ds, .obj c h k r, e => .obj c h k (repL_drop r (by rw [← noHF_map]; simpa [noH] using e))
  | _, .exc _ ds, .exc c h h2 k r, e => .exc c h h2 k (repL_drop r (by rw [← noHF_map]; simpa [noH] using e))
  | _, .fn _, .fn h, _ => .fn h
  | _, .hdl n, .hdl h, e => .hdl (by
    have hn : n ≠ η.length := by simpa [noH] using e
    have hl := (List.getElem?_eq_some_iff.mp h).1
    rw [List.length_append, List.length_singleton] at hl
    rw [List.getElem?_append_left (by omega)] at h
    exact h)
theorem repL_drop : ∀ {vs : List V} {ds : List D}, RepL K mg (η ++ [x]) M vs ds → noHL η.length ds = true → RepL K mg η M vs ds
  | _, _, .nil, _ => .nil
  | _, d :: ds, .cons r rs, e => by
    have e : (noH η.length d && noHL η.length ds) = true := e
    rw [Bool.and_eq_true] at e
    exact .cons (rep_drop r e.1) (repL_drop rs e.2)
end
theorem at_drop {a : Addr} {d : D} (h : At K mg (η ++ [x]) M H a d) (e : noH η.length d = true) : At K mg η M H a d := by
  cases d with
  | lst ds => obtain ⟨xs, h1, r⟩ := h; exact ⟨xs, h1, repL_drop r (by simpa [noH] using e)⟩
  | dct ds => obtain ⟨xs, h1, k, r⟩ := h; exact ⟨xs, h1, k, repL_drop r (by rw [← noHK_map]; simpa [noH] using e)⟩
  | dcT ds => obtain ⟨xs, h1, k, r⟩ := h; exact ⟨xs, h1, k, repL_drop r (by rw [← noHT_map]; simpa [noH] using e)⟩
  | obj c ds => obtain ⟨C, dx, xs, h0, h1, k, r⟩ := h; exact ⟨C, dx, xs, h0, h1, k, repL_drop r (by rw [← noHF_map]; simpa [noH] using e)⟩
  | _ => exact h.elim
end
theorem RmG.make {k : Nat} {A : Around} (r : RmG (k + 1) A) (C : Addr) (us : List Value) (kw : List (Str × Value)) : RmG k (A.under (.builtin "type.__call__" ⟨.ref C :: us, kw⟩)) := ⟨r.rm.make C us kw, by
  have e : (A.under (.builtin "type.__call__" ⟨.ref C :: us, kw⟩)).guards = pushGuards (Code.guards (.builtin "type.__call__" ⟨.ref C :: us, kw⟩)) A.guards := rfl
  have z : guardIds.contains "type.__call__" = false := by decide +kernel
  have z2 : Code.guards (.builtin "type.__call__" ⟨.ref C :: us, kw⟩) = [] := by
    unfold Code.guards
    rw [if_neg]
    show ¬ guardIds.contains "type.__call__" = true
    rw [z]; simp
  rw [e, z2, r.gd]
  rfl⟩
/-- a class that is made by its name; F: its __init__ -/
structure FnI (P : Program) (w : World) (K : Fg) (mg : Mg) (base : Heap) (cn : Str) (k n : Nat) (F : Fm) : Prop where
  ex : ∃ C f fd ps, mg cn = some (.ref C) ∧ Mk K C f ∧ Binds K fd ps [] ∧ FnG P w K mg base (L2.CX P w) k f fd ps (spF K mg n F)
section
variable {X : Cx} {e : Expr} {es : List Expr} {ms : Cf → Res (List Rv)} {p pos : Pos} {cn : Str} {k n : Nat} {F : Fm}
/-- what making wants: the object stands new, its __init__ runs, None comes back -/
def WfI (X : Cx) (C : Addr) (n : Nat) (F : Fm) (σ : St) (vs : List V) (H : Hp) (Q : VK) : Prop :=
  (∀ x dx, H x = none → H dx = none → dx ≠ x → spF X.K X.mg n F (.ref x :: vs) (upd (upd H dx (.own x)) x (.ins C dx [])) (fun v H2 => v = .non ∧ Q (.ref x) H2) E0) ∨
  ∃ W, Takes X W ∧ ∀ x dx, H x = none → H dx = none → dx ≠ x → spF X.K X.mg n F (.ref x :: vs) (upd (upd H dx (.own x)) x (.ins C dx [])) (fun v H2 => v = .non ∧ Q (.ref x) H2) (fun cls d H' => W cls d σ H')
theorem run_mk {CX : CXT} {C f : Addr} {fd : FuncData} {ps : List Str} {sp : Sp} {E : XK} {pins : List (Addr × Obj)} {σ : St} {H : Hp} {s : Shared} {Q : VK} {us : List Value} {vs : List V} (Mc : Mk X.K C f) (hF : FnG X.prog X.w X.K X.mg X.base CX k f fd ps sp) (hr : RmG (k + 1) X.A) (hb : Binds X.K fd ps []) (hx : PassesAt CX X σ E)
    (I : Inv X pins σ H s) (r : Vals vs us) (h : ∀ x dx, H x = none → H dx = none → dx ≠ x → sp (.ref x :: vs) (upd (upd H dx (.own x)) x (.ins C dx [])) (fun v H2 => v = .non ∧ Q (.ref x) H2) E) :
    wpAny (model X.prog X.w) X.A (call (.ref C) us) (EP X pins σ Q) X.xe s := by
  have hq := h (s.heap.objs.size + 1) s.heap.objs.size (I.hok.fresh (Nat.le_succ _)) (I.hok.fresh (Nat.le_refl _)) (Nat.ne_of_lt (Nat.lt_succ_self _))
  have J := Inv.made (C := C) I
  have rr : Vals (V.ref (s.heap.objs.size + 1) :: vs) (Value.ref (s.heap.objs.size + 1) :: us) := .cons rfl r
  have hl : (Value.ref (s.heap.objs.size + 1) :: us ++ []).length = ps.length := by
    rw [List.append_nil, ← rr.length]
    exact hF.len _ _ _ _ hq
  have bb := hb _ (Value.ref (s.heap.objs.size + 1) :: us) J.kIn hl
  rw [List.append_nil] at bb
  refine wpAny_call (make_map (f := f) I.kIn Mc.makes Mc.init (beq_iff_eq.mp Mc.fn) (codeAny_mono (hF.run _ X.stack _ _ ⟨Value.ref (s.heap.objs.size + 1) :: us, []⟩ _ _ _ E (hr.make C us []) (J.env0.make C us []) bb rr hq) fun o s' ho => ?_))
  match o, ho with
  | .error e, ho => exact hx pins _ _ e s' J ho
  | .ok (.ret u), ho =>
    obtain ⟨v, H', I3, rv, ev, q3⟩ := J.after ho
    subst ev
    exact ⟨rv, ⟨V.ref (s.heap.objs.size + 1), H', I3, rfl, q3⟩⟩
def mkRes (cn : Str) (F : Fm) (ds : List D) (c : Cf) : Res Rv := match F (.hdl c.S.length :: ds) (c.S ++ [.obj cn []]) with
  | .ok (.fz .non) c3 => if c3.S.length = c.S.length + 1 ∧ c3.S.all (noH c.S.length) = true then (match c3.S[c.S.length]? with
    | some d => .ok (.nw d) ⟨c.ρ, c3.S.take c.S.length⟩
    | none => .stuck) else .stuck
  | .err x c3 => .err x ⟨c.ρ, c3.S⟩
  | _ => .stuck
theorem out_mk {C : Addr} (hC : X.mg cn = some (.ref C)) {E : En} {η : List Addr} {M H : Hp} {c : Cf} {σ : St} {vs : List V} {ds : List D} (s : SR X.K X.mg E η M c σ H) (r : RepL X.K X.mg η M vs ds) (hl : vs.length + 1 = n) :
    Out X (RV X.K X.mg) (fun Q => WfI X C n F σ vs H Q) E η M σ (mkRes cn F ds c) := by
  have base : ∀ x dx, H x = none → H dx = none → dx ≠ x → SR X.K X.mg E (η ++ [x]) M ⟨c.ρ, c.S ++ [.obj cn []]⟩ σ (upd (upd H dx (.own x)) x (.ins C dx [])) ∧ RepL X.K X.mg (η ++ [x]) M (.ref x :: vs) (.hdl c.S.length :: ds) := fun x dx hx hdx hne => by
    obtain ⟨f1, f2, f3, f4⟩ := s.free hx
    have a2 : SR X.K X.mg E η M c σ (upd (upd H dx (.own x)) x (.ins C dx [])) := (s.alloc (o := .own x) hdx).alloc (by rw [upd_ne (Ne.symm hne)]; exact hx)
    obtain ⟨s1, x1⟩ := a2.newHdl (d := .obj cn []) f1 f2 f3 f4 ⟨C, dx, [], hC, upd_same, rfl, .nil⟩
    refine ⟨s1, .cons (.hdl ?_) (r.mono x1)⟩
    rw [← s.hlen, List.getElem?_append_right (Nat.le_refl _)]
    simp
  have inner : ∀ {x dx : Addr}, SR X.K X.mg E (η ++ [x]) M ⟨c.ρ, c.S ++ [.obj cn []]⟩ σ (upd (upd H dx (.own x)) x (.ins C dx [])) → SR X.K X.mg ⟨upd (upd H dx (.own x)) x (.ins C dx []), η ++ [x], M⟩ (η ++ [x]) M ⟨[], c.S ++ [.obj cn []]⟩ [] (upd (upd H dx (.own x)) x (.ins C dx [])) := fun {x dx} s1 =>
    ⟨s1.sub, rfl, fun i t e => by simp at e, fun i j a d d' e => by simp at e, s1.hlen, s1.hdl, s1.hnd, fun a o e _ => e, ⟨[], by simp⟩, fun a h => .inl h, Same.refl M, fun a h _ => h⟩
  unfold mkRes
  cases eF : F (.hdl c.S.length :: ds) (c.S ++ [.obj cn []]) with
  | stuck => trivial
  | err y c3 =>
    refine fun W Q tk hQ => .inr ⟨W, tk, fun x dx hx hdx hne => ?_⟩
    obtain ⟨s1, r1⟩ := base x dx hx hdx hne
    refine ⟨hl, η ++ [x], M, _, _, inner s1, r1, ?_⟩
    rw [eF]
    exact fun cls d η' M' H' t z => hQ cls d η' M' H' (s1.called t) (Ext.trans ⟨Same.refl M, [x], rfl⟩ (show Ext (η ++ [x]) M η' M' from t.ext)) z
  | ok rr c3 =>
    cases rr with
    | fz dd =>
      cases dd with
      | non =>
        dsimp only
        by_cases hc : c3.S.length = c.S.length + 1 ∧ c3.S.all (noH c.S.length) = true
        · rw [if_pos hc]
          obtain ⟨hlen, hall⟩ := hc
          rw [List.all_eq_true] at hall
          cases ed : c3.S[c.S.length]? with
          | none => trivial
          | some d =>
            refine fun Q hQ => .inl fun x dx hx hdx hne => ?_
            obtain ⟨s1, r1⟩ := base x dx hx hdx hne
            obtain ⟨f1, f2, f3, f4⟩ := s.free hx
            refine ⟨hl, η ++ [x], M, _, _, inner s1, r1, ?_⟩
            rw [eF]
            intro v η' M' H' t z
            cases z
            refine ⟨rfl, ?_⟩
            have hη : η' = η ++ [x] := by
              obtain ⟨q, eq⟩ := t.pre
              have eq : η' = (η ++ [x]) ++ q := eq
              have l1 : η'.length = c3.S.length := t.hlen
              rw [eq] at l1
              simp only [List.length_append, List.length_singleton] at l1
              have h0 : q.length = 0 := by have := s.hlen; omega
              rw [eq, List.length_eq_zero_iff.mp h0, List.append_nil]
            subst hη
            have s3 := s1.called t
            have hidx : (η ++ [x])[c.S.length]? = some x := by
              rw [← s.hlen, List.getElem?_append_right (Nat.le_refl _)]; simp
            have xM : Ext η M η M' := ⟨t.m0, [], by simp⟩
            have noD : ∀ {k : Nat} {t' : D}, c3.S[k]? = some t' → noH η.length t' = true := fun {k t'} e => by
              rw [s.hlen]; exact hall t' (List.mem_of_getElem? e)
            have nx : ∀ {a : Addr} {o : HO}, H a = some o → a ≠ x ∧ a ≠ dx := fun {a o} e => ⟨ne_of_none e hx, ne_of_none e hdx⟩
            have sF : SR X.K X.mg E η M' ⟨c.ρ, c3.S.take c.S.length⟩ σ H' := by
              refine ⟨s3.sub, s.len, fun i sl e => ?_, s.inj, ?_, fun k a t' e1 e2 => ?_, s.hnd, s3.fr, s.pre, s.new, s3.m0, s3.mn⟩
              · have q := s.slot i sl e
                cases sl with
                | un => trivial
                | fz d => obtain ⟨v, e1, r1⟩ := q; exact ⟨v, e1, r1.mono xM⟩
                | ow d =>
                  obtain ⟨a, e1, q1, q2, q3, q4⟩ := q
                  obtain ⟨o, ho⟩ := q4.ex
                  obtain ⟨n1, n2⟩ := nx ho
                  have h1 : ∀ u, H a = some u → upd (upd H dx (.own x)) x (.ins C dx []) a = some u := fun u hu => by rw [upd_ne n1, upd_ne n2]; exact hu
                  exact ⟨a, e1, t.mn a q1 (by show upd (upd H dx (.own x)) x (.ins C dx []) a ≠ none; rw [h1 o ho]; simp), q2, q3, q4.mono xM fun u hu => t.fr a u (h1 u hu) (by
                    intro z
                    rcases List.mem_append.mp z with z | z
                    · exact q3 z
                    · exact n1 (List.mem_singleton.mp z))⟩
              · show η.length = (c3.S.take c.S.length).length
                rw [List.length_take, s.hlen]; omega
              · have hk : k < η.length := (List.getElem?_eq_some_iff.mp e1).1
                have e2 : (c3.S.take c.S.length)[k]? = some t' := e2
                rw [List.getElem?_take_of_lt (by rw [← s.hlen]; exact hk)] at e2
                obtain ⟨p1, p2⟩ := t.hdl k a t' (by rw [List.getElem?_append_left hk]; exact e1) e2
                exact ⟨p1, at_drop p2 (noD e2)⟩
            obtain ⟨p1, p2⟩ := t.hdl c.S.length x d hidx ed
            exact hQ _ η M' H' sF xM ⟨x, rfl, p1, f2, f3, f4, at_drop p2 (noD ed)⟩
        · rw [if_neg hc]; trivial
      | _ => trivial
    | _ => trivial
def mMake (cn : Str) (n : Nat) (F : Fm) (ms : Cf → Res (List Rv)) : Em := fun c => (ms c).bind fun rs c1 => match vals c1 rs with
  | some (ds, c2) => if ds.length + 1 = n then mkRes cn F ds c2 else .stuck
  | none => .stuck
theorem ex_make (h : FnI X.prog X.w X.K X.mg X.base cn k n F) (hr : RmG (k + 1) X.A) (ha : Ax X (e :: es) ms) (hg : Gl X cn := by rfl) (hdb : (cn == ("__debug__" : Str)) = false := by decide)
    (he : starEach (e :: es) X.env = (false, eval e X.env) :: starEach es X.env := by rfl) (hpl : (backTo pos (starEach es X.env)).any (·.1) = false := by rfl) : Ex X (.Call (.Name cn p) (e :: es) [] pos) (mMake cn n F ms) := by
  obtain ⟨C, f, fd, ps, hC, hm, hb, hF⟩ := h
  refine ⟨fun E η M c σ H s => ?_⟩
  refine Out.bind (R := RVs X.K X.mg) (fun vs H1 Q => WfI X C n F σ vs H1 Q) (ha E η M c σ H s) (fun Q hq => ?_) fun rs c1 vs η1 M1 H1 s1 x1 z1 => ?_
  · intro pins st I
    refine wpAny_Call_Name_kw (ld_glob I hg hC ?_ hdb)
    refine PySem.W.callWith_K (h₀ := X.base) I.ok.mod.kin hm.kp (thn (hq pos pins st I) fun us s1 ⟨vs, H1, I1, r, q⟩ => ⟨I1.kIn, ?_⟩) he hpl
    rcases q with q | ⟨W, tk, q⟩
    · exact run_mk hm hF hr hb (fun pins => passL pins σ) I1 r q
    · exact run_mk hm hF hr hb (passAt tk σ) I1 r q
  · cases e1 : vals c1 rs with
    | none => trivial
    | some q =>
      obtain ⟨ds, c2⟩ := q
      dsimp only
      by_cases hl : ds.length + 1 = n
      · rw [if_pos hl]
        obtain ⟨M2, s2, x2, r2⟩ := vals_ok s1 z1.1 z1.2 e1
        exact out_ext x2 (out_mk hC s2 r2 (by rw [r2.length]; exact hl))
      · rw [if_neg hl]; trivial
end
theorem fldOk_nil {K : Fg} {mg : Mg} {f : Str} : FldOk K mg [] f := fun c h => by simp at h
theorem fldOk_cons {K : Fg} {mg : Mg} {f c : Str} {cs : List Str} {C : Addr} (h : mg c = some (.ref C)) (hc : Cls K C) (hn : NoAttr K C f) (t : FldOk K mg cs f) : FldOk K mg (c :: cs) f := fun c' h' C' hC' => by
  rcases List.mem_cons.mp h' with rfl | h'
  · rw [h] at hC'
    cases hC'
    exact ⟨hc, hn⟩
  · exact t c' h' C' hC'
end LH
/-! LHText: texts put together, taken apart. -/
namespace LH
open PySem PySem.Spec PyProof.Rows L2
def mM1 (g : D → D → Option Rv) (mo me : Em) : Em := fun c => (mo c).st.bind fun ro c1 => match view c1 ro with
  | some (.str _) => (me c1).st.bind fun re c2 => m2 g ro re c2
  | _ => .stuck
section
variable {X : Cx} {o e a : Expr} {mo me : Em} {apos pos : Pos}
theorem ex_str1 {r : V → List V → Hp → VK → Prop} {g : D → D → Option Rv} (hg : Op2 X (fun x y H Q => r x [y] H Q) g) (p : PE X e (tM1 r (We X o) (We X a))) (ho : Ex X o mo) (ha : Ex X a me) : Ex X e (mM1 g mo me) := by
  refine ⟨fun E η M c σ H s => ?_⟩
  refine Out.bind (R := RVst X.K X.mg) (fun x H1 Q => (∃ t, x = .str t) ∧ We X a σ H1 fun y H2 => r x [y] H2 Q) (out_st (ho E η M c σ H s)) (fun Q hq => pe_we p hq) fun ro c1 x η1 M1 H1 s1 x1 z1 => ?_
  cases e1 : view c1 ro with
  | none => trivial
  | some d =>
    cases d with
    | str t =>
      have ex := (view_ok s1 z1.2 e1).str
      have o2 : Out X (RV X.K X.mg) (fun Q => We X a σ H1 fun y H2 => r x [y] H2 Q) E η1 M1 σ ((me c1).st.bind fun re c2 => m2 g ro re c2) := by
        refine Out.bind (R := RVst X.K X.mg) (fun y H2 Q => r x [y] H2 Q) (out_st (ha E η1 M1 c1 σ H1 s1)) (fun Q hq => hq) fun re c2 y η2 M2 H2 s2 x2 z2 => ?_
        exact out_m2 (w := fun x y H Q => r x [y] H Q) hg s2 (z1.2.keep x2 z1.1) z2.2
      exact o2.imp (fun x => x) (fun Q hq => ⟨⟨t, ex⟩, hq⟩) fun _ _ _ _ _ _ _ z => z
    | _ => trivial
def gJoin (a b : D) : Option Rv := match a, b with
  | .str x, .lst ds => (strsD ds).bind fun ys => if (ys.map (·.length)).sum + ys.length * x.length ≤ 16777216 then some (.fz (.str (Txt.join x ys))) else none
  | .str x, .tup ds => (strsD ds).bind fun ys => if (ys.map (·.length)).sum + ys.length * x.length ≤ 16777216 then some (.fz (.str (Txt.join x ys))) else none
  | _, _ => none
theorem ex_join (ho : Ex X o mo) (ha : Ex X a me) (hs : starEach [a] X.env = [(false, eval a X.env)] := by rfl) (hbase : attributeBase o "join" X.env (eval o X.env) = eval o X.env := by rfl) (hline : (apos.endLine == pos.line) = true := by rfl) :
    Ex X (.Call (.Attribute o "join" apos) [a] [] pos) (mM1 gJoin mo me) := by
  refine ex_str1 (fun E η M c σ H x y dx dy r s h1 h2 e Q hQ => ?_) (pe_join we_pe we_pe hs hbase hline) ho ha
  unfold gJoin at e
  split at e
  · obtain ⟨ys, e1, e2⟩ := Option.bind_eq_some_iff.mp e
    split at e2
    · cases e2
      obtain ⟨p, xs, rfl, q, rr⟩ := h2.lst s.sub
      rw [repL_strs rr e1] at q
      exact ⟨_, p, ys, h1.str, rfl, .inl (.of q), by assumption, pst_fz s hQ (.str _)⟩
    · cases e2
  · obtain ⟨ys, e1, e2⟩ := Option.bind_eq_some_iff.mp e
    split at e2
    · cases e2
      obtain ⟨p, xs, rfl, q, rr⟩ := h2.tup s.sub
      rw [repL_strs rr e1] at q
      exact ⟨_, p, ys, h1.str, rfl, .inr (.of q), by assumption, pst_fz s hQ (.str _)⟩
    · cases e2
  · cases e
theorem repL_strsN {K : Fg} {mg : Mg} {η : List Addr} {M : Hp} : ∀ ys : List Str, RepL K mg η M (ys.map V.str) (ys.map D.str)
  | [] => .nil
  | y :: ys => .cons (.str y) (repL_strsN ys)
def gSplit (a b : D) : Option Rv := match a, b with
  | .str x, .str y => if (y.length == 0) = false ∧ x.length + 2 ≤ sizeLine then some (.nw (.lst ((Txt.split x y).map D.str))) else none
  | _, _ => none
theorem ex_split (ho : Ex X o mo) (ha : Ex X a me) (hs : starEach [a] X.env = [(false, eval a X.env)] := by rfl) (hbase : attributeBase o "split" X.env (eval o X.env) = eval o X.env := by rfl) (hline : (apos.endLine == pos.line) = true := by rfl) :
    Ex X (.Call (.Attribute o "split" apos) [a] [] pos) (mM1 gSplit mo me) := by
  refine ex_str1 (fun E η M c σ H x y dx dy r s h1 h2 e Q hQ => ?_) (pe_split we_pe we_pe hs hbase hline) ho ha
  unfold gSplit at e
  split at e
  · split at e
    · rename_i hc
      cases e
      exact ⟨_, _, h1.str, by rw [h2.str], hc.1, hc.2, pst_nw s hQ fun p hp => ⟨_, upd_same, repL_strsN _⟩⟩
    · cases e
  · cases e
end
end LH
/-! LHGet: d.get(k). -/
namespace LH
open PySem PySem.Spec PyProof.Rows L2
def isDct : D → Bool
  | .dct _ => true
  | .dcT _ => true
  | _ => false
def gGet (d di : D) : Option Rv := match d with
  | .dct kvs => match keyD di with
    | some k => some (.fz ((getK kvs k).getD .non))
    | none => none
  | .dcT kvs => match di with
    | .tup ds => match keysD ds with
      | some ks => some (.fz ((getK kvs ks).getD .non))
      | none => none
    | _ => none
  | _ => none
def mGet1 (mo me : Em) : Em := fun c => (mo c).st.bind fun ro c1 => match view c1 ro with
  | some d => if isDct d then (me c1).st.bind fun re c2 => m2 gGet ro re c2 else .stuck
  | none => .stuck
section
variable {X : Cx} {o e : Expr} {mo me : Em} {apos cpos : Pos} {η : List Addr} {M H : Hp}
theorem isD_of {x : V} {d : D} (hs : Same M H) (h : VwR X.K X.mg η M H x d) (e : isDct d = true) : ∃ a, x = .ref a ∧ IsD H a := by
  cases d with
  | dct kvs => obtain ⟨a, vs, rfl, q1, q2, q3⟩ := h.dct hs; exact ⟨a, rfl, .inl ⟨vs, .inl q1⟩⟩
  | dcT kvs => obtain ⟨a, vs, rfl, q1, q2, q3⟩ := h.dcT hs; exact ⟨a, rfl, .inr ⟨vs, .inl q1⟩⟩
  | _ => cases e
theorem get_of {x y : V} {d di : D} {r : Rv} (hs : Same M H) (h1 : VwR X.K X.mg η M H x d) (h2 : VwR X.K X.mg η M H y di) (e : gGet d di = some r) : ∃ a o dv, x = .ref a ∧ DGet H a y o ∧ r = .fz dv ∧ Rep X.K X.mg η M (o.getD .non) dv := by
  unfold gGet at e
  cases d with
  | dct kvs =>
    dsimp only at e
    cases q : keyD di with
    | none => rw [q] at e; cases e
    | some k =>
      rw [q] at e
      cases e
      obtain ⟨a, vs, rfl, q1, q2, q3⟩ := h1.dct hs
      obtain ⟨i1, i2⟩ := rep_getK (k := k) q2 q3
      refine ⟨a, valV vs k, _, rfl, by rw [rep_key h2 q]; exact DGet.k q1, rfl, ?_⟩
      cases g : getK kvs k with
      | none => rw [i2 g]; exact .non
      | some d => obtain ⟨v, hv, hr⟩ := i1 d g; rw [hv]; exact hr
  | dcT kvs =>
    cases di with
    | tup ds =>
      dsimp only at e
      cases q : keysD ds with
      | none => rw [q] at e; cases e
      | some k =>
        rw [q] at e
        cases e
        obtain ⟨a, vs, rfl, q1, q2, q3⟩ := h1.dcT hs
        obtain ⟨i1, i2⟩ := rep_getK (k := k) q2 q3
        obtain ⟨b, ys, rfl, g1, g2⟩ := h2.tup hs
        rw [repL_keys g2 q] at g1
        refine ⟨a, valV vs k, _, rfl, DGet.t q1 g1, rfl, ?_⟩
        cases g : getK kvs k with
        | none => rw [i2 g]; exact .non
        | some d => obtain ⟨v, hv, hr⟩ := i1 d g; rw [hv]; exact hr
    | _ => cases e
  | _ => cases e
theorem ex_get1 (hu : X.A.units + 1 < cLine) (ho : Ex X o mo) (he : Ex X e me) (m : M1 X o "get" apos e cpos) : Ex X (.Call (.Attribute o "get" apos) [e] [] cpos) (mGet1 mo me) := by
  refine ⟨fun E η M c σ H s => ?_⟩
  refine Out.bind (R := RVst X.K X.mg) (fun x H1 Q => ∃ a, x = .ref a ∧ IsD H1 a ∧ We X e σ H1 fun y H2 => ∃ o, DGet H2 a y o ∧ Q (o.getD .non) H2) (out_st (ho E η M c σ H s)) (fun Q hq => pe_we (pe_dget1 hu we_pe we_pe m) hq) fun ro c1 x η1 M1 H1 s1 x1 z1 => ?_
  cases e1 : view c1 ro with
  | none => trivial
  | some d =>
    dsimp only
    by_cases hd : isDct d = true
    · rw [if_pos hd]
      obtain ⟨a, rfl, hD⟩ := isD_of s1.sub (view_ok s1 z1.2 e1) hd
      have o2 : Out X (RV X.K X.mg) (fun Q => We X e σ H1 fun y H2 => ∃ o, DGet H2 a y o ∧ Q (o.getD .non) H2) E η1 M1 σ ((me c1).st.bind fun re c2 => m2 gGet ro re c2) := by
        refine Out.bind (R := RVst X.K X.mg) (fun y H2 Q => ∃ o, DGet H2 a y o ∧ Q (o.getD .non) H2) (out_st (he E η1 M1 c1 σ H1 s1)) (fun Q hq => hq) fun re c2 y η2 M2 H2 s2 x2 z2 => ?_
        refine (out_m2 (x := .ref a) (y := y) (w := fun x y H Q => ∃ a o, x = .ref a ∧ DGet H a y o ∧ Q (o.getD .non) H) (fun E η M c σ H x y dx dy r s h1 h2 e Q hQ => ?_) s2 (z1.2.keep x2 z1.1) z2.2).imp (fun x => x) (fun Q hq => ?_) fun _ _ _ _ _ _ _ z => z
        · obtain ⟨a', o', dv, ea, hg, er, hr⟩ := get_of s.sub h1 h2 e
          subst er
          exact ⟨a', o', ea, hg, pst_fz s hQ hr⟩
        · obtain ⟨a', o', ea, hg, hq⟩ := hq
          cases ea
          exact ⟨o', hg, hq⟩
      exact o2.imp (fun x => x) (fun Q hq => ⟨a, rfl, hD, hq⟩) fun _ _ _ _ _ _ _ z => z
    · rw [if_neg hd]; trivial
end
end LH
/-! LHIsi: isinstance(e, T), T a built-in type, e plain data. -/
namespace LH
open PySem PySem.Spec PyProof.Rows L2
def tyN : D → Option String
  | .non => some "NoneType"
  | .bl _ => some "bool"
  | .int _ => some "int"
  | .str _ => some "str"
  | .lst _ => some "list"
  | .tup _ => some "tuple"
  | .dct _ => some "dict"
  | _ => none
def gIsi (T : String) (d : D) : Option Rv := (tyN d).bind fun a => (kitB a T).map fun b => .fz (.bl b)
section
variable {X : Cx} {η : List Addr} {M H : Hp}
theorem tyX_of {x : V} {d : D} {a : String} (hs : Same M H) (h : VwR X.K X.mg η M H x d) (e : tyN d = some a) : TyX X.K H x (.type a) := by
  cases d with
  | non => cases e; rw [h.non]; exact .base (by constructor)
  | bl b => cases e; rw [h.bl]; exact .base (by constructor)
  | int b => cases e; rw [h.int]; exact .base (by constructor)
  | str b => cases e; rw [h.str]; exact .base (by constructor)
  | lst ds => cases e; obtain ⟨p, xs, rfl, q, r⟩ := h.lst hs;  exact .base (by constructor; exact q)
  | tup ds => cases e; obtain ⟨p, xs, rfl, q, r⟩ := h.tup hs;  exact .base (by constructor; exact q)
  | dct ds => cases e; obtain ⟨p, xs, rfl, q, r⟩ := h.dct hs;  exact .base (by constructor; exact q)
  | _ => cases e
theorem isi_op {T : String} : Op1 X (fun x H Q => rIsi X.K [x, .ty T] H Q) (gIsi T) := by
  intro E η M c σ H x dx r s h1 e Q hQ
  unfold gIsi at e
  obtain ⟨a, e1, e2⟩ := Option.bind_eq_some_iff.mp e
  obtain ⟨b, e3, rfl⟩ := Option.map_eq_some_iff.mp e2
  exact ⟨x, .ty T, .type a, .type T, b, rfl, .ty T, tyX_of s.sub h1 e1, kit_ty e3, pst_fz s hQ (.bl b)⟩
theorem ex_isi {T : String} {y : Str} {e : Expr} {me : Em} {p p2 pos : Pos} (hi : X.mg "isinstance" = none) (hy : X.mg y = none) (hv : bootBuiltins y = some (.type T)) (he : Ex X e me) (hg : Gl X "isinstance" := by rfl) (hg2 : Gl X y := by rfl) (hn : y ≠ "__name__" := by decide) (hd : (y == ("__debug__" : Str)) = false := by decide)
    (h1 : starEach [e, .Name y p2] X.env = (false, eval e X.env) :: starEach [.Name y p2] X.env := by rfl) (h2 : starEach [.Name y p2] X.env = (false, eval (.Name y p2) X.env) :: starEach [] X.env := by rfl) (hpl : (backTo pos (starEach [.Name y p2] X.env)).any (·.1) = false := by rfl) :
    Ex X (.Call (.Name "isinstance" p) [e, .Name y p2] [] pos) (mUn (gIsi T) me) := by
  refine ⟨fun E η M c σ H s => ?_⟩
  refine Out.bind (fun x H1 Q => rIsi X.K [x, .ty T] H1 Q) (he E η M c σ H s) (fun Q hq => pe_we (pe_callB call_isi hg hi (by decide +kernel) (pa_cons we_pe (pa_cons (pe_bltn (v := .ty T) hg2 hy hv rfl hn hd) pa_nil h2) h1) (by decide) (by decide) h1 hpl) hq) fun ra c1 x η1 M1 H1 s1 x1 z1 => out_m1 (w := fun x H Q => rIsi X.K [x, .ty T] H Q) isi_op s1 z1
end
end LH
/-! LHGet2: d.get(k, x). -/
namespace LH
open PySem PySem.Spec PyProof.Rows L2
def gGetO (d di : D) : Option (Option D) := match d with
  | .dct kvs => (keyD di).map fun k => getK kvs k
  | .dcT kvs => match di with
    | .tup ds => (keysD ds).map fun ks => getK kvs ks
    | _ => none
  | _ => none
def mGet2 (mo me mf : Em) : Em := fun c => (mo c).st.bind fun ro c1 => match view c1 ro with
  | some d => if isDct d then (me c1).st.bind fun re c2 => (mf c2).st.bind fun rf c3 => (match toVal c3 rf with
    | some (dz, c4) => (match view c4 ro, view c4 re with
      | some d, some di => (match gGetO d di with
        | some o => .ok (.fz (o.getD dz)) c4
        | none => .stuck)
      | _, _ => .stuck)
    | none => .stuck) else .stuck
  | none => .stuck
section
variable {X : Cx} {o e f : Expr} {mo me mf : Em} {apos cpos : Pos} {η : List Addr} {M H : Hp}
theorem getO_of {x y : V} {d di : D} {r : Option D} (hs : Same M H) (h1 : VwR X.K X.mg η M H x d) (h2 : VwR X.K X.mg η M H y di) (e : gGetO d di = some r) : ∃ a ov, x = .ref a ∧ DGet H a y ov ∧ (r = none → ov = none) ∧ ∀ dv, r = some dv → ∃ v, ov = some v ∧ Rep X.K X.mg η M v dv := by
  unfold gGetO at e
  cases d with
  | dct kvs =>
    obtain ⟨k, q, rfl⟩ := Option.map_eq_some_iff.mp e
    obtain ⟨a, vs, rfl, q1, q2, q3⟩ := h1.dct hs
    obtain ⟨i1, i2⟩ := rep_getK (k := k) q2 q3
    exact ⟨a, valV vs k, rfl, by rw [rep_key h2 q]; exact DGet.k q1, i2, i1⟩
  | dcT kvs =>
    cases di with
    | tup ds =>
      obtain ⟨k, q, rfl⟩ := Option.map_eq_some_iff.mp e
      obtain ⟨a, vs, rfl, q1, q2, q3⟩ := h1.dcT hs
      obtain ⟨i1, i2⟩ := rep_getK (k := k) q2 q3
      obtain ⟨b, ys, rfl, g1, g2⟩ := h2.tup hs
      rw [repL_keys g2 q] at g1
      exact ⟨a, valV vs k, rfl, DGet.t q1 g1, i2, i1⟩
    | _ => cases e
  | _ => cases e
theorem ex_get2 (hu : X.A.units + 1 < cLine) (ho : Ex X o mo) (he : Ex X e me) (hf : Ex X f mf) (m : M2 X o "get" apos e f cpos) : Ex X (.Call (.Attribute o "get" apos) [e, f] [] cpos) (mGet2 mo me mf) := by
  refine ⟨fun E η M c σ H s => ?_⟩
  refine Out.bind (R := RVst X.K X.mg) (fun x H1 Q => ∃ a, x = .ref a ∧ IsD H1 a ∧ We X e σ H1 fun y H2 => We X f σ H2 fun z H3 => ∃ o, DGet H3 a y o ∧ Q (o.getD z) H3) (out_st (ho E η M c σ H s)) (fun Q hq => pe_we (pe_dget2 hu we_pe we_pe we_pe m) hq) fun ro c1 x η1 M1 H1 s1 x1 z1 => ?_
  cases e1 : view c1 ro with
  | none => trivial
  | some d =>
    dsimp only
    by_cases hd : isDct d = true
    · rw [if_pos hd]
      obtain ⟨a, rfl, hD⟩ := isD_of s1.sub (view_ok s1 z1.2 e1) hd
      have o2 : Out X (RV X.K X.mg) (fun Q => We X e σ H1 fun y H2 => We X f σ H2 fun z H3 => ∃ o, DGet H3 a y o ∧ Q (o.getD z) H3) E η1 M1 σ ((me c1).st.bind fun re c2 => (mf c2).st.bind fun rf c3 => (match toVal c3 rf with
          | some (dz, c4) => (match view c4 ro, view c4 re with
            | some d, some di => (match gGetO d di with
              | some o => .ok (.fz (o.getD dz)) c4
              | none => .stuck)
            | _, _ => .stuck)
          | none => .stuck)) := by
        refine Out.bind (R := RVst X.K X.mg) (fun y H2 Q => We X f σ H2 fun z H3 => ∃ o, DGet H3 a y o ∧ Q (o.getD z) H3) (out_st (he E η1 M1 c1 σ H1 s1)) (fun Q hq => hq) fun re c2 y η2 M2 H2 s2 x2 z2 => ?_
        refine Out.bind (R := RVst X.K X.mg) (fun z H3 Q => ∃ o, DGet H3 a y o ∧ Q (o.getD z) H3) (out_st (hf E η2 M2 c2 σ H2 s2)) (fun Q hq => hq) fun rf c3 z η3 M3 H3 s3 x3 z3 => ?_
        cases e2 : toVal c3 rf with
        | none => trivial
        | some q =>
          obtain ⟨dz, c4⟩ := q
          dsimp only
          obtain ⟨M4, s4, x4, r4⟩ := toVal_ok s3 z3.2 e2
          cases e3 : view c4 ro with
          | none => trivial
          | some d' =>
            cases e4 : view c4 re with
            | none => trivial
            | some di =>
              dsimp only
              cases e5 : gGetO d' di with
              | none => trivial
              | some oo =>
                have v1 := view_ok s4 (z1.2.keep (c' := c4) (x2.trans (x3.trans x4)) z1.1) e3
                have v2 := view_ok s4 (z2.2.keep (c' := c4) (x3.trans x4) z2.1) e4
                obtain ⟨a', ov, ea, hg, k1, k2⟩ := getO_of s4.sub v1 v2 e5
                cases ea
                refine out_ext x4 (out_ok (v := ov.getD z) s4 (fun Q hq => ⟨ov, hg, hq⟩) ?_)
                cases oo with
                | none => rw [k1 rfl]; exact r4
                | some dv => obtain ⟨v, ev, hr⟩ := k2 dv rfl; rw [ev]; exact hr
      exact o2.imp (fun x => x) (fun Q hq => ⟨a, rfl, hD, hq⟩) fun _ _ _ _ _ _ _ z => z
    · rw [if_neg hd]; trivial
end
end LH
/-! LHExc: raise, try. -/
namespace LH
open PySem PySem.Spec PyProof.Rows L2
section
variable {X : Cx} {pins : List (Addr × Obj)} {σ : St} {H : Hp} {s sI : Shared}
/-- a caught exception is tracked -/
theorem inv_track {a C d : Addr} {oe : Obj} {vs : Array Value} (I : Inv X pins σ H s) (J : Inv X pins σ H sI) (hex : X.ex = []) (na : H a = none) (nI : sI.heap.get? a = none) (he : s.heap.get? a = some oe) (hz : Zc (.ref C) (some d) oe) (hd : oe.data = .fields vs) (nL : a ≠ X.env.locals) :
    Inv X pins σ (upd H a (ExV C d a)) s := by
  have n0 : ∀ b o, X.s_0.heap.get? b = some o → b ≠ a := fun b o e z => by
    obtain ⟨o', q⟩ := J.base.there b o e (by rw [hex]; simp)
    rw [z, nI] at q; cases q
  refine ⟨I.ok, I.os, I.bare, ⟨I.base.keep, I.base.slot, fun b o e n hx => by rw [upd_ne (n0 b o e)]; exact I.base.free b o e n hx, I.base.there, fun b xs e => by rw [upd_ne (ne_of_none (I.base.tups b xs e) na)]; exact I.base.tups b xs e,
    fun b o u e => by rw [upd_ne (ne_of_none (I.base.frzs b o u e) na)]; exact I.base.frzs b o u e, fun b ps e => ?_⟩, I.loc, I.cell, by rw [upd_ne (Ne.symm nL)]; exact I.free, fun x c e => ?_, fun p hp => ?_, fun b u e => ?_, I.len⟩
  · obtain ⟨m, q⟩ := I.base.tbls b ps e
    exact ⟨m, by rw [upd_ne (ne_of_none q na)]; exact q⟩
  · have hc : c ≠ a := fun z => by
      obtain ⟨v, o, q, _⟩ := J.cell x c e
      rw [z, nI] at q; cases q
    rw [upd_ne hc]; exact I.freeC x c e
  · obtain ⟨e, n, ne, nf, dd⟩ := I.pin p hp
    have hc : p.1 ≠ a := fun z => by
      have q := (J.pin p hp).1
      rw [z, nI] at q; cases q
    exact ⟨e, by rw [upd_ne hc]; exact n, ne, nf, dd⟩
  · by_cases hb : b = a
    · subst hb
      rw [upd_same] at e
      cases e
      exact ⟨⟨oe, vs, he, hz, hd⟩, ⟨oe, he⟩, fun h1 h2 ⟨o, v, q, r⟩ k => ⟨o, v, k o q, r⟩⟩
    · rw [upd_ne hb] at e
      exact (I.hok b u e).stay (fun c v _ q => q) (fun c q => by rw [upd_ne (ne_of_none q na)]; exact q) fun c xs q => by rw [upd_ne (ne_of_none q na)]; exact q
end
/-! ### the mirror -/
structure Hm where
  yes : List Str
  no : List Str
  slot : Option Nat
  m : Sm
def unsl (i : Nat) : Res Fl → Res Fl
  | .ok (.rt (.loc j)) c => if j = i then .stuck else .ok (.rt (.loc j)) { c with ρ := c.ρ.set i .un }
  | .ok fl c => .ok fl { c with ρ := c.ρ.set i .un }
  | _ => .stuck
def nox : Res Fl → Res Fl
  | .err _ _ => .stuck
  | r => r
def runHs : List Hm → Xc → Cf → Res Fl
  | [], x, c => .err x c
  | h :: r, x, c => if x.cls ∈ h.yes then (match h.slot with
      | none => nox (h.m c)
      | some i => if i < c.ρ.length then unsl i (h.m { c with ρ := c.ρ.set i (.fz (.exc x.cls x.fs)) }) else .stuck)
    else if x.cls ∈ h.no then runHs r x c else .stuck
def sTry (mb : Sm) (hs : List Hm) : Sm := fun c => match mb c with
  | .err x c1 => runHs hs x c1
  | r => r
/-- the clause's class takes these, not those -/
structure XTest (X : Cx) (x : Str) (yes no : List Str) : Prop where
  ex : ∃ cv, Names X x cv ∧ (∀ c ∈ yes, ∃ C, X.mg c = some (.ref C) ∧ PySem.W.exmOne X.K (.ref C) cv = some true) ∧ ∀ c ∈ no, ∃ C, X.mg c = some (.ref C) ∧ PySem.W.exmOne X.K (.ref C) cv = some false
inductive HsOk (X : Cx) : List ExceptHandler → List Hm → Prop
  | nil : HsOk X [] []
  | only {x : Str} {np pos' : Pos} {b₀ : Stmt} {suite : List Stmt} {hds : List ExceptHandler} {yes no : List Str} {m : Sm} {l : List Hm} (ht : XTest X x yes no) (hsu : ∀ a pn, Bx (X.suite a pn) (b₀ :: suite) m) (r : HsOk X hds l) :
      HsOk X (.ExceptHandler (some (.Name x np)) none (b₀ :: suite) pos' :: hds) (⟨yes, no, none, m⟩ :: l)
  | as {x n : Str} {i : Nat} {np pos' : Pos} {b₀ : Stmt} {suite : List Stmt} {hds : List ExceptHandler} {yes no : List Str} {m : Sm} {l : List Hm} (ht : XTest X x yes no) (hi : X.N[i]? = some n) (hln : X.env.kindOf n = some .local) (hsu : ∀ a pn, Bx (X.suite a pn) (b₀ :: suite) m) (r : HsOk X hds l) :
      HsOk X (.ExceptHandler (some (.Name x np)) (some n) (b₀ :: suite) pos' :: hds) (⟨yes, no, some i, m⟩ :: l)
section
variable {X : Cx} {E : En} {η η' : List Addr} {M M' H H' : Hp} {c c' : Cf} {σ σ' : St} {Z : Ends} {F : Res Fl}
theorem good_nox (h : Good X E η M (nox F) Z) : ∀ {Y : Cx}, Y.K = X.K → Y.mg = X.mg → Good Y E η M F Z := by
  intro Y e1 e2
  cases F with
  | stuck => exact h.elim
  | err x c => exact h.elim
  | ok fl c =>
    cases fl <;> (unfold Good EndR at h ⊢; rw [e1, e2]; exact h)
/-- the ends of a suite: slot i goes -/
def endsUn (i : Nat) (D : Ends) : Ends := { nx := fun σ' H' => D.nx (σ'.set i none) H', rt := D.rt, bk := fun σ' H' => D.bk (σ'.set i none) H', ct := fun σ' H' => D.ct (σ'.set i none) H' }
theorem SR.unset {K : Fg} {mg : Mg} (s : SR K mg E η M c σ H) (i : Nat) : SR K mg E η M { c with ρ := c.ρ.set i .un } (σ.set i none) H :=
  s.less (by simp [s.len]) fun j t e => by
    by_cases hj : j = i
    · subst hj
      by_cases hl : j < c.ρ.length
      · rw [List.getElem?_set_self hl] at e; cases e; exact .inl rfl
      · rw [List.getElem?_eq_none (by simpa using hl)] at e; cases e
    · rw [List.getElem?_set_ne (Ne.symm hj)] at e ⊢
      exact .inr ⟨e, rfl⟩
theorem own_unset {i : Nat} {a : Addr} (h : Own { c with ρ := c.ρ.set i .un } (σ.set i none) a) : Own c σ a := by
  obtain ⟨j, d, h1, h2⟩ := h
  have h1 : (c.ρ.set i .un)[j]? = some (.ow d) := h1
  by_cases hj : j = i
  · subst hj
    by_cases hl : j < c.ρ.length
    · rw [List.getElem?_set_self hl] at h1; cases h1
    · rw [List.getElem?_eq_none (by simpa using hl)] at h1; cases h1
  · rw [List.getElem?_set_ne (Ne.symm hj)] at h1 h2
    exact ⟨j, d, h1, h2⟩
theorem good_unsl {i : Nat} (h : Good X E η M (unsl i F) Z) : ∀ {Y : Cx}, Y.K = X.K → Y.mg = X.mg → ∃ Z' : Ends, Good Y E η M F Z' ∧ (∀ σ H, Z'.nx σ H → Z.nx (σ.set i none) H) ∧ (∀ σ H, Z'.bk σ H → Z.bk (σ.set i none) H) ∧ (∀ σ H, Z'.ct σ H → Z.ct (σ.set i none) H) ∧ ∀ v H, Z'.rt v H → Z.rt v H := by
  intro Y e1 e2
  refine ⟨endsUn i Z, ?_, fun _ _ h => h, fun _ _ h => h, fun _ _ h => h, fun _ _ h => h⟩
  cases F with
  | stuck => exact h.elim
  | err x c => exact h.elim
  | ok fl c =>
    cases fl with
    | nx => unfold Good EndR at h ⊢; rw [e1, e2]; exact fun σ1 η1 M1 H1 s1 x1 => h _ η1 M1 H1 (s1.unset i) x1
    | bk => unfold Good EndR at h ⊢; rw [e1, e2]; exact fun σ1 η1 M1 H1 s1 x1 => h _ η1 M1 H1 (s1.unset i) x1
    | ct => unfold Good EndR at h ⊢; rw [e1, e2]; exact fun σ1 η1 M1 H1 s1 x1 => h _ η1 M1 H1 (s1.unset i) x1
    | rt r =>
      cases r with
      | loc j =>
        unfold unsl at h
        dsimp only at h
        by_cases hj : j = i
        · rw [if_pos hj] at h; exact h.elim
        · rw [if_neg hj] at h
          unfold Good EndR at h ⊢
          rw [e1, e2]
          refine fun v σ1 η1 M1 H1 s1 x1 z1 => h v _ η1 M1 H1 (s1.unset i) x1 ?_
          show (σ1.set i none)[j]? = some (some v)
          rw [List.getElem?_set_ne (Ne.symm hj)]
          exact z1
      | fz d => unfold Good EndR at h ⊢; rw [e1, e2]; exact fun v σ1 η1 M1 H1 s1 x1 z1 => h v _ η1 M1 H1 (s1.unset i) x1 z1
      | nw d =>
        unfold Good EndR at h ⊢
        rw [e1, e2]
        refine fun v σ1 η1 M1 H1 s1 x1 z1 => h v _ η1 M1 H1 (s1.unset i) x1 ?_
        obtain ⟨a, ea, k1, k2, k3, k4, k5⟩ := z1
        exact ⟨a, ea, k1, k2, k3, fun z => k4 (own_unset z), k5⟩
theorem sx_try {body : List Stmt} {hd0 : ExceptHandler} {hds : List ExceptHandler} {pos : Pos} {mb : Sm} {l : List Hm} (hN : X.N.Nodup)
    (hb : ∀ pn xe, PassesOwn (model X.prog X.w) X.A X.env xe → Bx (X.tr pn xe) body mb) (hh : HsOk X (hd0 :: hds) l) (hs : X.stack = X.env :: X.outer := by rfl) (hf : X.env.frame = some X.env.locals := by rfl) (hex : X.ex = [] := by rfl) :
    Sx X (.Try body (hd0 :: hds) [] [] pos) (sTry mb l) := by
  refine ⟨fun E η M c σ H s Z g pins st I => ?_⟩
  have ok := I.ok
  have hfr : X.A.frames = some (X.env :: X.outer) := by rw [ok.frames, hs]
  refine wpAny_Try_except ?_
  refine wpAny_mono ((hb (X.pn ++ pins) (fun e s₁ => wpAny (model X.prog X.w) X.A (noteFrame e X.env) (fun _ s₂ => wpAny (model X.prog X.w) X.A (setFlight e none) (fun _ s₃ =>
    wpAny (model X.prog X.w) X.A (handleBy e X.env (hd0 :: hds)) (SP X pins Z) X.xe s₃) X.xe s₂) X.xe s₁) PassesOwn.looking) E η M c σ H s Z ?_ [] st (I.toTry _)) (fun f s1 hsp => ?_) (fun e s1 he => he)
  · -- what the body's ends want
    unfold sTry at g
    cases e1 : mb c with
    | stuck => rw [e1] at g; exact g.elim
    | ok fl c1 =>
      rw [e1] at g
      cases fl <;> exact g
    | err x c1 =>
      rw [e1] at g
      dsimp only at g
      refine ⟨fun cls d σ1 H1 => ∃ η1 M1, SR X.K X.mg E η1 M1 c1 σ1 H1 ∧ Ext η M η1 M1 ∧ XR X.K X.mg η1 M1 cls d x, fun u s' xx => ?_, fun cls d σ1 η1 M1 H1 s1 x1 z1 => ⟨η1, M1, s1, x1, z1⟩⟩
      obtain ⟨a, B, sI, pins', σ', H', cls, d, rfl, J', nb, up, sky, na, os, ag, η1, M1, s1, x1, dd, fs, z1, z2, z3, z4, z5⟩ := xx
      have J : Inv X pins σ' H' sI := J'.ofTry ok
      have sky' : Sky B (X.env :: X.outer) a (Zc cls d) X.env.locals s'.heap := by rw [← hs]; exact sky
      show wpAny (model X.prog X.w) X.A (noteFrame (.ref a) X.env) _ _ _
      refine Sky.land Zc.steady hfr hf sky' fun h3 fl3 up3 => ?_
      have J3 : Inv X pins σ' H' { s' with heap := h3 } := J.landed nb fl3.1 (up.trans up3) os ag
      obtain ⟨oe3, vs3, he3, hz3, hd3⟩ := fl3.there
      have nfr : a ∉ frs (X.env :: X.outer) := fun hm => by
        obtain ⟨_, o', e', hnf⟩ := fl3.2.2.1.mem hm
        rw [he3] at e'; cases e'
        exact hnf _ hd3
      have nL : a ≠ X.env.locals := fun z => nfr (List.mem_filterMap.mpr ⟨X.env, List.mem_cons_self, by rw [hf, z]⟩)
      have nF : a ∉ X.fs := fun hm => by
        obtain ⟨e, he, q⟩ := List.mem_filterMap.mp hm
        exact nfr (List.mem_filterMap.mpr ⟨e, List.mem_cons_of_mem _ he, q⟩)
      have nI : sI.heap.get? a = none := by
        cases q : sI.heap.get? a with
        | none => rfl
        | some o =>
          have z := nb a o q (by rw [hs]; exact nfr)
          rw [fl3.2.1] at z; cases z
      have S3 := J3.suite he3 hd3 na nL nF
      have go : ∀ {hds' : List ExceptHandler} {l' : List Hm}, HsOk X hds' l' → Good X E η M (runHs l' x c1) Z →
          wpAny (model X.prog X.w) X.A (handleBy (.ref a) X.env hds') (SP X pins Z) X.xe { s' with heap := h3 } := by
        intro hds' l' hk
        have pick : ∀ {y : Str} {np : Pos} {yes no : List Str} {n : Option Str} {b₀ : Stmt} {suite : List Stmt} {pos' : Pos} {rest : List ExceptHandler}, XTest X y yes no → x.cls ∈ yes ∨ x.cls ∈ no →
            (x.cls ∈ yes → (∃ C, cls = .ref C) → codeAny (model X.prog X.w) (X.A.mark (some (.ref a))) (.handlers (.ref a) [.ExceptHandler none n (b₀ :: suite) pos'] X.env) (fun r s₂ => match r with
              | .ok f => (match n with
                | none => SP X pins Z f s₂
                | some n => wpAny (model X.prog X.w) X.A (do bindName X.env n .none; unbindBehindTheSuite X.env n pos') (fun _ s₃ => SP X pins Z f s₃) X.xe s₂)
              | .error x => cameBackBy (model X.prog X.w) X.A X.env X.xe x s₂) { s' with heap := h3 }) →
            (x.cls ∈ no → wpAny (model X.prog X.w) X.A (handleBy (.ref a) X.env rest) (SP X pins Z) X.xe { s' with heap := h3 }) →
            wpAny (model X.prog X.w) X.A (handleBy (.ref a) X.env (.ExceptHandler (some (.Name y np)) n (b₀ :: suite) pos' :: rest)) (SP X pins Z) X.xe { s' with heap := h3 } := by
          intro y np yes no n b₀ suite pos' rest ht hyn hy hn
          obtain ⟨cv, hc, t1, t2⟩ := ht.ex
          have hm : ∃ C b, cls = .ref C ∧ PySem.W.exmOne X.K cls cv = some b ∧ (b = true → x.cls ∈ yes) ∧ (b = false → x.cls ∈ no) := by
            rcases hyn with h | h
            · obtain ⟨C, m1, m2⟩ := t1 _ h
              rw [z1] at m1; cases m1
              exact ⟨C, true, rfl, m2, fun _ => h, fun z => (nomatch z)⟩
            · obtain ⟨C, m1, m2⟩ := t2 _ h
              rw [z1] at m1; cases m1
              exact ⟨C, false, rfl, m2, fun z => (nomatch z), fun _ => h⟩
          obtain ⟨C, b, ec, hb1, hyes, hno⟩ := hm
          refine wpAny_handleBy_cons (codeAny_handlers_test ?_) (by intro q; cases q)
          have LT : PySem.W.Looks (model X.prog X.w) h3 (typeOf (.ref a)) cls := fun A Q E s k q => wpAny_typeOf_ref (k _ _ he3) (by rw [hz3.1]; exact q)
          have LM := PySem.W.exm_one (M := model X.prog X.w) (J3.kIn) LT hb1
          have test : ∀ {Q : Value → Shared → Prop} {E : Value → Shared → Prop}, Q cv { s' with heap := h3 } → wpAny (model X.prog X.w) (X.A.mark (some (.ref a))) (eval (.Name y np) X.env) Q E { s' with heap := h3 } := fun {Q E} q => by
            obtain ⟨hg, hdbg, hm | ⟨hm, hv, hnn⟩⟩ := hc
            · exact ld_glob (X := X.suite a ((a, oe3) :: (X.pn ++ pins))) S3 hg hm q hdbg
            · exact ld_blt (X := X.suite a ((a, oe3) :: (X.pn ++ pins))) S3 hg hm hv q hnn hdbg
          refine test (LM.here ?_)
          cases b with
          | true => exact hy (hyes rfl) ⟨C, ec⟩
          | false => exact hn (hno rfl)
        induction hk with
        | nil =>
          intro gd
          obtain ⟨Wout, tk, w⟩ := gd
          refine wpAny_handleBy_nil ?_
          obtain ⟨k1, k2, k3, oe, vs, T, oT, ts', he, hz, hd, h1, hr⟩ := id fl3
          unfold PySem.passOn
          refine wpAny_bind (wpAny_field he hd h1 ?_)
          rw [if_neg (show ¬ ((Value.ref T == Value.none) = true) from by simp)]
          have fin : wpAny (model X.prog X.w) X.A (setFlight (.ref a) X.env.frame) (fun _ s4 => wpAny (model X.prog X.w) X.A (throw (.ref a) : Sem Flow) (SP X pins Z) X.xe s4) X.xe { s' with heap := h3 } := by
            rw [hf]
            refine HandSPX.setFlight_upZ fl3 fun h4 hh4 up4 => wpAny_throw (tk _ _ ?_)
            exact ⟨a, B, sI, pins, σ', H', cls, d, rfl, J, nb, (up.trans up3).trans up4, .inr (.inr (by rw [hs]; exact hh4)), na, os, ag, w cls d σ' η1 M1 H' s1 x1 ⟨dd, fs, z1, z2, z3, z4, z5⟩⟩
          first
            | exact wpAny_bind (wpAny_pure (wpAny_bind fin))
            | exact wpAny_bind fin
        | @only y np pos' b₀ suite hds2 yes no m l2 ht hsu r ih =>
          intro gd
          unfold runHs at gd
          by_cases h1 : x.cls ∈ yes
          · rw [if_pos h1] at gd
            dsimp only at gd
            refine pick ht (.inl h1) (fun _ _ => ?_) (fun h2 => ?_)
            · refine codeAny_handlers_suite ?_
              refine HandSPX.lands_againZ fl3 fun h4 fl4 up4 => ?_
              have J4 : Inv X pins σ' H' { s' with heap := h4 } := J.landed nb fl4.1 ((up.trans up3).trans up4) os ag
              obtain ⟨oe4, vs4, he4, hz4, hd4⟩ := fl4.there
              have S4 := J4.suite he4 hd4 na nL nF
              refine wpAny_mono (hsu a ((a, oe4) :: (X.pn ++ pins)) E η1 M1 c1 σ' H' s1 Z (good_nox (Good.ext x1 gd) rfl rfl) [] _ S4) (fun f s6 hsp => ?_) (fun _ _ z => False.elim z)
              cases f with
              | next =>
                obtain ⟨σ6, H6, S6, q6⟩ := hsp
                exact ⟨_, _, S6.unsuite ok, q6⟩
              | brk =>
                obtain ⟨σ6, H6, S6, q6⟩ := hsp
                exact ⟨_, _, S6.unsuite ok, q6⟩
              | cont =>
                obtain ⟨σ6, H6, S6, q6⟩ := hsp
                exact ⟨_, _, S6.unsuite ok, q6⟩
              | ret u =>
                obtain ⟨v6, σ6, H6, S6, r6, q6⟩ := hsp
                exact ⟨_, _, _, S6.unsuite ok, r6, q6⟩
            · obtain ⟨_, _, t1, t2⟩ := ht.ex
              obtain ⟨C, m1, m2⟩ := t1 _ h1
              obtain ⟨C', m3, m4⟩ := t2 _ h2
              rw [m1] at m3; cases m3
              rw [m2] at m4; cases m4
          · rw [if_neg h1] at gd
            by_cases h2 : x.cls ∈ no
            · rw [if_pos h2] at gd
              exact pick ht (.inr h2) (fun z => absurd z h1) fun _ => ih gd
            · rw [if_neg h2] at gd; exact gd.elim
        | @as y n i np pos' b₀ suite hds2 yes no m l2 ht hi hln hsu r ih =>
          intro gd
          unfold runHs at gd
          by_cases h1 : x.cls ∈ yes
          · rw [if_pos h1] at gd
            dsimp only at gd
            by_cases hil : i < c1.ρ.length
            · rw [if_pos hil] at gd
              refine pick ht (.inl h1) (fun _ ⟨C, ec⟩ => ?_) (fun h2 => ?_)
              · subst ec
                subst z2
                refine codeAny_handlers_suite_as ?_
                refine HandSPX.lands_againZ fl3 fun h4 fl4 up4 => ?_
                have J4 : Inv X pins σ' H' { s' with heap := h4 } := J.landed nb fl4.1 ((up.trans up3).trans up4) os ag
                obtain ⟨oe4, vs4, he4, hz4, hd4⟩ := fl4.there
                have T4 := inv_track J4 J hex na nI he4 hz4 hd4 nL
                have S4 : Inv (X.suite a (X.pn ++ pins)) [] σ' (upd H' a (ExV C dd a)) { s' with heap := h4 } :=
                  ⟨T4.ok.suite _ _, T4.os, T4.bare, T4.base, T4.loc, T4.cell, T4.free, T4.freeC, fun p hp => T4.pin p (by rw [List.append_nil] at hp; exact hp), T4.hok, T4.len⟩
                refine store_ok (X := X.suite a (X.pn ++ pins)) (v := .ref a) S4 hN hi (.inl hln) rfl (fun s5 S5 => ?_) (.inr hln)
                -- the state with the exception
                obtain ⟨f1, f2, f3, f4⟩ := s1.free na
                have sA := s1.alloc (o := ExV C dd a) na
                obtain ⟨sB, xB⟩ := sA.freeze f1 f2 f3 f4 upd_same
                have rep : Rep X.K X.mg η1 (upd M1 a (ExV C dd a)) (.ref a) (.exc x.cls x.fs) := .exc z1 upd_same (by rw [upd_ne (ne_of_none z3 f1)]; exact z3) z4 (z5.mono xB)
                have sC := sB.setFz hil rep
                obtain ⟨Z', gZ, w1, w2, w3, w4⟩ := good_unsl (Y := X.suite a (X.pn ++ pins)) (Good.ext (x1.trans xB) gd) rfl rfl
                refine wpAny_mono (hsu a (X.pn ++ pins) E η1 _ _ _ _ sC Z' gZ [] s5 S5) (fun f s6 hsp => ?_) (fun _ _ z => False.elim z)
                have end_ : ∀ {σ6 : St} {H6 : Hp} {Q : Shared → Prop}, Inv (X.suite a (X.pn ++ pins)) [] σ6 H6 s6 → (∀ s7, Inv X pins (σ6.set i none) H6 s7 → Q s7) →
                    wpAny (model X.prog X.w) X.A (do bindName X.env n .none; unbindBehindTheSuite X.env n pos') (fun _ s7 => Q s7) X.xe s6 := fun {σ6 H6 Q} S6 hq =>
                  gone_ok (X := X) (pins := pins) ⟨ok, S6.os, S6.bare, S6.base, S6.loc, S6.cell, S6.free, S6.freeC, fun p hp => S6.pin p (by rw [List.append_nil]; exact hp), S6.hok, S6.len⟩ hN hi hln hq
                cases f with
                | next =>
                  obtain ⟨σ6, H6, S6, q6⟩ := hsp
                  exact end_ S6 fun s7 J7 => ⟨_, _, J7, w1 _ _ q6⟩
                | brk =>
                  obtain ⟨σ6, H6, S6, q6⟩ := hsp
                  exact end_ S6 fun s7 J7 => ⟨_, _, J7, w2 _ _ q6⟩
                | cont =>
                  obtain ⟨σ6, H6, S6, q6⟩ := hsp
                  exact end_ S6 fun s7 J7 => ⟨_, _, J7, w3 _ _ q6⟩
                | ret u =>
                  obtain ⟨v6, σ6, H6, S6, r6, q6⟩ := hsp
                  exact end_ S6 fun s7 J7 => ⟨_, _, _, J7, r6, w4 _ _ q6⟩
              · obtain ⟨_, _, t1, t2⟩ := ht.ex
                obtain ⟨C, m1, m2⟩ := t1 _ h1
                obtain ⟨C', m3, m4⟩ := t2 _ h2
                rw [m1] at m3; cases m3
                rw [m2] at m4; cases m4
            · rw [if_neg hil] at gd; exact gd.elim
          · rw [if_neg h1] at gd
            by_cases h2 : x.cls ∈ no
            · rw [if_pos h2] at gd
              exact pick ht (.inr h2) (fun z => absurd z h1) fun _ => ih gd
            · rw [if_neg h2] at gd; exact gd.elim
      exact go hh g
  · cases f with
    | next =>
      obtain ⟨σ', H', J', q⟩ := hsp
      exact wpAny_execs_nil ⟨σ', H', J'.ofTry ok, q⟩
    | brk =>
      obtain ⟨σ', H', J', q⟩ := hsp
      exact ⟨σ', H', J'.ofTry ok, q⟩
    | cont =>
      obtain ⟨σ', H', J', q⟩ := hsp
      exact ⟨σ', H', J'.ofTry ok, q⟩
    | ret u =>
      obtain ⟨v, σ', H', J', r, q⟩ := hsp
      exact ⟨v, σ', H', J'.ofTry ok, r, q⟩
end
end LH
/-! LHExcB: own exception classes under ValueError, LookupError, KeyError, IndexError, OverflowError. -/
namespace LH
open PySem PySem.Spec PyProof.Rows L2
open PySem.W PySem.Calls PySem.HandSPX
open Builtin Builtin.ObjectAttr
def tailsX : List (List Value) := [[.type "ValueError", .type "Exception", .type "BaseException", .type "object"], [.type "LookupError", .type "Exception", .type "BaseException", .type "object"],
  [.type "KeyError", .type "LookupError", .type "Exception", .type "BaseException", .type "object"], [.type "IndexError", .type "LookupError", .type "Exception", .type "BaseException", .type "object"],
  [.type "OverflowError", .type "ArithmeticError", .type "Exception", .type "BaseException", .type "object"]]
theorem tailsX_cases {l : List Value} (h : l ∈ tailsX) : (∀ self, refuseLoop self "__setattr__" l = pure ()) ∧ l.contains (.type "object") = true ∧ l.isEmpty = false ∧ l.contains (.type "AttributeError") = false ∧ l.contains (.type "NameError") = false ∧ l.contains (.type "BaseException") = true := by
  simp only [tailsX, List.mem_cons, List.not_mem_nil, or_false] at h
  rcases h with rfl | rfl | rfl | rfl | rfl
  · exact ⟨fun self => by kernel_rfl, by decide +kernel, rfl, by decide +kernel, by decide +kernel, by decide +kernel⟩
  · exact ⟨fun self => by kernel_rfl, by decide +kernel, rfl, by decide +kernel, by decide +kernel, by decide +kernel⟩
  · exact ⟨fun self => by kernel_rfl, by decide +kernel, rfl, by decide +kernel, by decide +kernel, by decide +kernel⟩
  · exact ⟨fun self => by kernel_rfl, by decide +kernel, rfl, by decide +kernel, by decide +kernel, by decide +kernel⟩
  · exact ⟨fun self => by kernel_rfl, by decide +kernel, rfl, by decide +kernel, by decide +kernel, by decide +kernel⟩
/-- what an exception's making asks of the built-in class whose __new__ it is -/
structure MkX (bm : List Value) (newId : String) : Prop where
  ex : ∃ B initId bmB, ExcBaseFacts B newId initId bmB ∧ bm.contains (.type B) = true
  tl : bm ∈ tailsX
theorem mkX_VE : MkX [.type "ValueError", .type "Exception", .type "BaseException", .type "object"] "ValueError.__new__" := ⟨⟨_, _, _, F.excBase_ValueError, by decide +kernel⟩, by simp [tailsX]⟩
theorem mkX_LE : MkX [.type "LookupError", .type "Exception", .type "BaseException", .type "object"] "LookupError.__new__" := ⟨⟨_, _, _, F.excBase_LookupError, by decide +kernel⟩, by simp [tailsX]⟩
theorem mkX_KE : MkX [.type "KeyError", .type "LookupError", .type "Exception", .type "BaseException", .type "object"] "LookupError.__new__" := ⟨⟨_, _, _, F.excBase_LookupError, by decide +kernel⟩, by simp [tailsX]⟩
theorem mkX_IE : MkX [.type "IndexError", .type "LookupError", .type "Exception", .type "BaseException", .type "object"] "IndexError.__new__" := ⟨⟨_, _, _, F.excBase_IndexError, by decide +kernel⟩, by simp [tailsX]⟩
theorem mkX_OE : MkX [.type "OverflowError", .type "ArithmeticError", .type "Exception", .type "BaseException", .type "object"] "OverflowError.__new__" := ⟨⟨_, _, _, F.excBase_OverflowError, by decide +kernel⟩, by simp [tailsX]⟩
/-! ### the making -/
section
variable {M : Model} {A : Around} {E : Value → Shared → Prop} {h : Heap} {g : Array GenState} {d : Drawn} {t : Nat} {os : OsState}
variable {nm q : Str} {C N : Addr} {bs bm bmB : List Value} {hdct : Bool} {sn : List Str} {sub : List Value} {ab : Bool} {col : Option Bool} {dd : Option Addr} {k0 k1 k2 k3 k5 : Option Value} {B newId initId : String}
theorem check_newG (F : ExcBaseFacts B newId initId bmB) (hB : bm.contains (.type B) = true) {rest : List Value} {Q : Unit → Shared → Prop}
    (hC : h.get? C = some (excClassObj nm q C N bs bm hdct sn sub ab col dd k0 k1 k2 k3 k5 newId)) (hq : Q () ⟨h, g, d, t, os⟩) : wpAny M A (checkBuiltinCall newId ⟨.ref C :: rest, []⟩) Q E ⟨h, g, d, t, os⟩ := by
  have hcont : (Value.ref C :: bm).contains (.type B) = true := by rw [List.contains_cons, hB, Bool.or_true]
  have hstar := F.noStar
  simp only [checkBuiltinCall, F.newKind, F.newSplit, F.newRow]
  repeat (first | refine wpAny_loadPart_at hC ?_ | (refine wpAny_isSubtype_exc hC ?_; rw [hcont]) | refine wpAny_staticBase_exc hC ?_ | refine wpAny_madeBy_exc hC ?_ | simp only [bne_self_eq_false, Bool.false_eq_true, if_false] | wp_step)
  exact hq
end
section
variable {prog : Program} {w : World} {A : Around} {E : Value → Shared → Prop} {R : Result → Shared → Prop} {h : Heap} {g : Array GenState} {d : Drawn} {t : Nat} {os : OsState}
variable {nm q : Str} {C N : Addr} {bs bm bmB : List Value} {hdct : Bool} {sn : List Str} {sub : List Value} {ab : Bool} {col : Option Bool} {dd : Option Addr} {k0 k1 k2 k3 k5 : Option Value} {B newId initId : String}
theorem newG (F : ExcBaseFacts B newId initId bmB) (hB : bm.contains (.type B) = true) (hA : bm.contains (.type "AttributeError") = false) (hNm : bm.contains (.type "NameError") = false) {rest : List Value}
    (hC : h.get? C = some (excClassObj nm q C N bs bm hdct sn sub ab col dd k0 k1 k2 k3 k5 newId))
    (hq : R (.ok (.ret (.ref (h.objs.size + 1)))) ⟨(h.push { cls := .type "tuple", data := .seq rest.toArray }).push
      { cls := .ref C, data := .fields #[.ref h.objs.size, .none, .none, .none, .bool false, .none] }, g, d, t, os⟩) (hrest : rest.length ≤ sizeLine) :
    codeAny (model prog w) A (.builtin newId ⟨.ref C :: rest, []⟩) R ⟨h, g, d, t, os⟩ := by
  have hends := F.ends
  have hcB : (Value.ref C :: bm).contains (.type B) = true := by rw [List.contains_cons, hB, Bool.or_true]
  have hcA : (Value.ref C :: bm).contains (.type "AttributeError") = false := by rw [List.contains_cons, hA]; rfl
  have hcN : (Value.ref C :: bm).contains (.type "NameError") = false := by rw [List.contains_cons, hNm]; rfl
  refine PySem.codeAny_builtinAt F.entry ?_
  unfold Builtin.«BaseException.__new__»
  refine PySem.wpAt_bind ?_
  show PySem.wpAt _ _ _ (stack >>= _) _ _ _
  refine PySem.wpAt_bind (PySem.wpAt_stack fun p below => PySem.wpAt_of_wpAny ?_)
  wp_walk
  refine PySem.wpAt_of_wpAny ?_
  rw [F.owner]
  repeat (first | with_reducible refine wpAny_madeHere_exc F.canon hC ?_ | with_reducible refine wpAny_loadPart_at hC ?_ | (with_reducible refine wpAny_isSubtype_exc hC ?_; first | rw [hcB] | rw [hcA] | rw [hcN]) | wp_step)
  show R _ _
  rw [Heap.size_push]
  exact hq
theorem type_callG (F : ExcBaseFacts B newId initId bmB) (hB : bm.contains (.type B) = true) (hA : bm.contains (.type "AttributeError") = false) (hNm : bm.contains (.type "NameError") = false) {rest : List Value} {fI : Addr} {Q : Fin → Shared → Prop}
    (hC : h.get? C = some (excClassObj nm q C N bs bm hdct sn sub ab col dd k0 k1 k2 k3 k5 newId))
    (hi : W.Looks (model prog w) h (typeLookup (.ref C) "__init__") (some (.ref fI))) (hb : ∀ self, W.Looks (model prog w) h (bindSpecial (.ref fI) self) (.ref fI, [self])) (hrest : rest.length ≤ sizeLine)
    (hq : codeAny (model prog w) A (.call (.ref fI) ⟨.ref (h.objs.size + 1) :: rest, []⟩)
      (fun r s' => match r with | .ok (.ret v) => v = .none ∧ Q (.done (.ret (.ref (h.objs.size + 1)))) s' | .ok _ => False | .error e => E e s')
      ⟨(h.push (W.kdv_tup rest)).push (excO C h.objs.size), g, d, t, os⟩) :
    wpAny (model prog w) A (Builtin.«type.__call__» ⟨.ref C :: rest, []⟩) Q E ⟨h, g, d, t, os⟩ := by
  repeat (first | with_reducible refine wpAny_loadPart_at hC ?_ | with_reducible refine wpAny_madeBy_exc hC ?_ | wp_step)
  refine codeAny_call_builtin_code (Code.quiet_builtin _ F.quiet) (check_newG F hB hC ?_)
  refine newG F hB hA hNm hC ?_ hrest
  show wpAny _ _ _ _ _ _
  have k : ∀ b o, h.get? b = some o → ((h.push (W.kdv_tup rest)).push (excO C h.objs.size)).get? b = some o := fun b o e => Heap.get?_push_of_some _ (Heap.get?_push_of_some _ e)
  have hC₁ := k _ _ hC
  have hget : ((h.push (W.kdv_tup rest)).push (excO C h.objs.size)).get? (h.objs.size + 1) = some (excO C h.objs.size) := by heap_get
  have hcC : (Value.ref C :: bm).contains (.ref C) = true := by simp
  have i1 := hi.keeps k
  have b1 := (hb (.ref (h.objs.size + 1))).keeps k
  unfold isInstance
  repeat (first | with_reducible refine wpAny_loadPart_at hget ?_ | (with_reducible refine wpAny_isSubtype_exc hC₁ ?_; rw [hcC]) | wp_step)
  show wpAny _ _ (typeLookup (.ref C) _) _ _ _
  refine i1.at ?_
  refine wpAny_holding (wpAny_bind (b1.at ?_))
  refine wpAny_bind (wpAny_call (codeAny_mono hq fun r s' z => ?_))
  rcases r with e | (v | _ | _ | _) <;> first | exact z | exact z.elim | skip
  obtain ⟨rfl, z⟩ := z
  first
    | exact wpAny_pure (wpAny_pure z)
    | (wp_walk; exact z)
theorem call_ownG (F : ExcBaseFacts B newId initId bmB) (hB : bm.contains (.type B) = true) (hA : bm.contains (.type "AttributeError") = false) (hNm : bm.contains (.type "NameError") = false) {rest : List Value} {fI : Addr}
    (hC : h.get? C = some (excClassObj nm q C N bs bm hdct sn sub ab col dd k0 k1 k2 k3 k5 newId))
    (hi : W.Looks (model prog w) h (typeLookup (.ref C) "__init__") (some (.ref fI))) (hb : ∀ self, W.Looks (model prog w) h (bindSpecial (.ref fI) self) (.ref fI, [self])) (hrest : rest.length ≤ sizeLine)
    (hq : codeAny (model prog w) (A.under (.builtin "type.__call__" ⟨.ref C :: rest, []⟩)) (.call (.ref fI) ⟨.ref (h.objs.size + 1) :: rest, []⟩) (W.InitBack (h.objs.size + 1) R)
      ⟨(h.push (W.kdv_tup rest)).push (excO C h.objs.size), g, d, t, os⟩) :
    codeAny (model prog w) A (.call (.ref C) ⟨rest, []⟩) R ⟨h, g, d, t, os⟩ := by
  have f1 := tc_lookup
  have f2 := tc_bind (.ref C)
  have hTy : (⟨h, g, d, t, os⟩ : Shared).TypeIs (.ref C) "type" := ⟨_, hC, rfl⟩
  refine codeAny_of_tree ?_
  show wpAny _ _ (callAny (.ref C) _) _ _ _
  repeat (any_goals (first | assumption | with_reducible refine wpAny_loadPart_at hC ?_ | wp_step))
  refine ⟨rfl, ?_⟩
  refine codeAny_call_builtin_at (Code.quiet_builtin _ (by decide +kernel)) entry_typeCall (wpAny_check_type_call_sub hC (type_callG F hB hA hNm hC hi hb hrest ?_))
  refine codeAny_mono hq fun r s' z => ?_
  rcases r with e | (v | _ | _ | _) <;> exact z
end
/-! ### self.f = v -/
section
variable {prog : Program} {w : World} {A : Around} {E : Value → Shared → Prop} {R : Result → Shared → Prop} {hp : Heap} {g : Array GenState} {d : Drawn} {t : Nat} {os : OsState}
theorem pass_ref {C : Addr} {bm : List Value} (h : bm ∈ tailsX) (self : Value) : refuseLoop self "__setattr__" (.ref C :: bm) = pure () := by
  rw [refuseLoop_ref]
  exact (tailsX_cases h).1 self
theorem osa_newG {K : W.Frag} {name : Str} {tk : Tok} {v : Value} {x C : Addr} {fv : Array Value} {cd : ClassData} {bm : List Value}
    (X : K.In hp) (hx : hp.get? x = some { cls := .ref C, data := .fields fv }) (hcd : W.clsIn K C = some cd) (hmro : cd.mro = .ref C :: bm) (hm : bm ∈ tailsX) (hh : cd.hasDict = true) (ha : W.findIn K (.ref C) name = some none)
    (hq : ∀ h' tk' dx, (∀ b o, b ≠ x → hp.get? b = some o → h'.get? b = some o) → hp.objs.size ≤ dx → dx ≠ x → h'.get? x = some { cls := .ref C, dict := some dx, data := .fields fv } →
      h'.Ns1 dx (fun y => if y = name then some v else none) → R (.ok (.ret .none)) ⟨h', g, d, tk', os⟩) :
    codeAny (model prog w) A (.call (.builtin "object.__setattr__") ⟨[.ref x, .str name tk, v], []⟩) R ⟨hp, g, d, t, os⟩ := by
  have I : W.InstAt hp x { cls := .ref C, data := .fields fv } C none := ⟨hx, rfl, rfl, trivial⟩
  have SF := F.store_object
  have hob : cd.mro.contains (.type "object") = true := by rw [hmro, List.contains_cons, (tailsX_cases hm).2.1, Bool.or_true]
  have ne : cd.mro.isEmpty = false := by rw [hmro]; rfl
  have hxs : x ≠ hp.objs.size := Nat.ne_of_lt (Heap.lt_size hx)
  have sub : W.Looks (model prog w) hp (isInstance (.ref x) (.type "object")) true := I.type.andThen (W.looks_mroIn X (by unfold W.mroIn; rw [hcd, Option.bind_some, if_neg (by rw [ne]; decide), hob]))
  refine codeAny_call_builtin SF.slot.plain SF.entry (@W.check_slot (model prog w) _ _ ⟨hp, g, d, t, os⟩ "object.__setattr__" "object" "__setattr__" (.ref x) [.str name tk, v] [] _ SF.kind SF.split sub (SF.args (.ref x) (.str name tk) v) ?_)
  have hmr : W.Looks (model prog w) hp (mroOf (.ref C)) cd.mro := (W.looks_clsIn X hcd).andThen .now
  have L3 : W.Looks (model prog w) hp (storeTaker? none) none := .now
  have hcls : W.Looks (model prog w) hp (classData C) cd := W.looks_clsIn X hcd
  rw [W.osa_eq, refuse_eq]
  refine wpAny_bind (wpAny_bind (I.type.at (wpAny_bind (hmr.at ?_))))
  rw [hmro, pass_ref hm]
  refine wpAny_pure (wpAny_bind (I.type.at (wpAny_bind ((W.looks_findIn X ha).at (wpAny_bind (L3.at ?_))))))
  show wpAny _ _ (storeInOwnDict (.ref x) (.ref C) (.str name tk) name v false) _ _ _
  obtain ⟨nm, bs, mro, ns, qn, hd, sn, sb, ab, col, del⟩ := cd
  dsimp only at hh
  subst hh
  unfold storeInOwnDict ownDictForStores
  repeat (first | with_reducible refine store_in_new ?_ ?_ | with_reducible refine wpAny_loadPart_at hx ?_ | with_reducible refine hcls.at ?_ | wp_step)
  · exact ⟨_, #[], _, (Heap.get?_update_ne _ _ _ _ hxs.symm).trans (Heap.get?_push_at rfl rfl), rfl, fun e he => absurd he (by simp), fun _ => rfl⟩
  · intro h' tk' hn' hs
    have hx₁ : (hp.push { cls := .type "dict", data := .dict #[] }).get? x = some { cls := .ref C, data := .fields fv } := Heap.get?_push_of_some _ hx
    refine hq h' tk' hp.objs.size (fun b o hb ho => ?_) (Nat.le_refl _) hxs.symm ?_ hn'
    · exact (hs.2 b (Nat.ne_of_lt (Heap.lt_size ho))).trans ((Heap.get?_update_ne _ _ _ _ hb).trans (Heap.get?_push_of_some _ ho))
    · exact (hs.2 x hxs).trans (Heap.get?_update_self _ hx₁ rfl)
theorem osa_oldG {K : W.Frag} {name : Str} {tk : Tok} {v : Value} {x C dx : Addr} {fv : Array Value} {cd : ClassData} {m0 : Str → Option Value} {nl : List Str} {bm : List Value}
    (X : K.In hp) (hx : hp.get? x = some { cls := .ref C, dict := some dx, data := .fields fv }) (hns : hp.Ns1 dx m0) (hw : Within m0 nl) (hz : nl.length ≤ 1000) (hcd : W.clsIn K C = some cd) (hmro : cd.mro = .ref C :: bm) (hm : bm ∈ tailsX) (hh : cd.hasDict = true)
    (ha : W.findIn K (.ref C) name = some none)
    (hq : ∀ h' tk', (∀ b o, b ≠ dx → hp.get? b = some o → h'.get? b = some o) → h'.Ns1 dx (fun y => if y = name then some v else m0 y) → R (.ok (.ret .none)) ⟨h', g, d, tk', os⟩) :
    codeAny (model prog w) A (.call (.builtin "object.__setattr__") ⟨[.ref x, .str name tk, v], []⟩) R ⟨hp, g, d, t, os⟩ := by
  obtain ⟨oD, esD, epD, hoD, hdD, _⟩ := hns.count hw
  have I : W.InstAt hp x { cls := .ref C, dict := some dx, data := .fields fv } C (some oD) := ⟨hx, rfl, rfl, hoD⟩
  have SF := F.store_object
  have hob : cd.mro.contains (.type "object") = true := by rw [hmro, List.contains_cons, (tailsX_cases hm).2.1, Bool.or_true]
  have ne : cd.mro.isEmpty = false := by rw [hmro]; rfl
  have sub : W.Looks (model prog w) hp (isInstance (.ref x) (.type "object")) true := I.type.andThen (W.looks_mroIn X (by unfold W.mroIn; rw [hcd, Option.bind_some, if_neg (by rw [ne]; decide), hob]))
  refine codeAny_call_builtin SF.slot.plain SF.entry (@W.check_slot (model prog w) _ _ ⟨hp, g, d, t, os⟩ "object.__setattr__" "object" "__setattr__" (.ref x) [.str name tk, v] [] _ SF.kind SF.split sub (SF.args (.ref x) (.str name tk) v) ?_)
  have hmr : W.Looks (model prog w) hp (mroOf (.ref C)) cd.mro := (W.looks_clsIn X hcd).andThen .now
  have L3 : W.Looks (model prog w) hp (storeTaker? none) none := .now
  have hcls : W.Looks (model prog w) hp (classData C) cd := W.looks_clsIn X hcd
  rw [W.osa_eq, refuse_eq]
  refine wpAny_bind (wpAny_bind (I.type.at (wpAny_bind (hmr.at ?_))))
  rw [hmro, pass_ref hm]
  refine wpAny_pure (wpAny_bind (I.type.at (wpAny_bind ((W.looks_findIn X ha).at (wpAny_bind (L3.at ?_))))))
  show wpAny _ _ (storeInOwnDict (.ref x) (.ref C) (.str name tk) name v false) _ _ _
  obtain ⟨nm, bs, mro, ns, qn, hd, sn, sb, ab, col, del⟩ := cd
  dsimp only at hh
  subst hh
  unfold storeInOwnDict ownDictForStores
  repeat (first | with_reducible refine PySem.OEX.store_in_old hns hw hz ?_ | with_reducible refine wpAny_loadPart_at hx ?_ | with_reducible refine hcls.at ?_ | wp_step)
  intro h' tk' hn' hs
  exact hq h' tk' (fun b o hb ho => (hs.2 b hb).trans ho) hn'
end
/-- what the written part says of the class -/
structure OexG (K : PySem.W.Frag) (C : Addr) : Prop where
  cls : ∃ nm q N bs bm sn sub ab col dd k0 k1 k2 k3 k5 newId, K.lookup C = some (excClassObj nm q C N bs bm true sn sub ab col dd k0 k1 k2 k3 k5 newId) ∧ MkX bm newId
  sa : PySem.W.findIn K (.ref C) "__setattr__" = some (some (.builtin "object.__setattr__"))
  exC : PySem.W.subIn K (.ref C) (.type "BaseException") = some true
  tyC : PySem.W.typeIn K (.ref C) = some (.type "type")
  kC : PySem.W.keepIn K (.ref C) = true
section
variable {X : Cx} {pins : List (Addr × Obj)} {σ : L2.St} {H : Hp} {s : Shared} {a C dx : Addr} {f : Str} {y : L2.V} {u : Value} {fs : List (Str × L2.V)} {Q : Unit → Shared → Prop} {E : Value → Shared → Prop} {A : Around}
theorem ost_newG (T : OexG X.K C) (I : Inv X pins σ H s) (e : H a = some (exo a C none)) (hno : PySem.W.findIn X.K (.ref C) f = some none) (ry : RelV y u)
    (h : ∀ dx s', H dx = none → dx ≠ a → Inv X pins σ (upd (upd H dx (exd dx [(f, y)])) a (exo a C (some dx))) s' → Q () s') : wpAny (model X.prog X.w) A (setAttr (.ref a) f u) Q E s := by
  obtain ⟨nm, q, N, bs, bm, sn, sub, ab, col, dd, k0, k1, k2, k3, k5, newId, hC, hbm⟩ := T.cls
  have hcl : PySem.W.clsIn X.K C = some { name := nm, bases := bs, mro := .ref C :: bm, ns := N, qualname := q, hasDict := true, slotNames := sn, subclasses := sub, abstract := ab, collection := col, hasDel := false } := by unfold PySem.W.clsIn; rw [hC] <;> rfl
  obtain ⟨t1, ho⟩ := exo_at I.hok e
  obtain ⟨hp, g, d, t, os⟩ := s
  refine PySem.W.set_plain I.kIn (ox := { cls := .ref C, dict := none, data := .fields #[.ref t1, .none, .none, .none, .bool false, .none] }) (od := none) ⟨ho, rfl, rfl, trivial⟩ T.sa ?_
  refine osa_newG I.kIn ho hcl rfl hbm.tl rfl hno (fun h' tk' dx k dn dne hx hn => ?_)
  have hnd : H dx = none := I.hok.fresh dn
  have nd : ∀ {b : Addr} {o : Obj}, hp.get? b = some o → b ≠ dx := fun {b o} q => Nat.ne_of_lt (Nat.lt_of_lt_of_le (Heap.lt_size q) dn)
  have na : ∀ {b : Addr}, H b = none → b ≠ a := fun {b} n z => by
    rw [z, e] at n
    cases n
  have Un1 : Un X.fs [] H (upd (upd H dx (exd dx [(f, y)])) a (exo a C (some dx))) hp h' := {
    keep := fun b o q n _ _ => k b o (na n) q
    slot := fun b o q n _ _ => ⟨o.slots, k b o (na n) q⟩
    free := fun b o q n _ => by rw [upd_ne (na n), upd_ne (nd q)]; exact n
    there := fun b o q _ => by
      by_cases hb : b = a
      · exact ⟨_, by rw [hb]; exact hx⟩
      · exact ⟨o, k b o hb q⟩
    tups := fun b xs q => by rw [upd_ne (at_ne e q exo_tup), upd_ne (ne_of_none q hnd)]; exact q
    frzs := fun b o v q => by rw [upd_ne (at_ne e q exo_frz), upd_ne (ne_of_none q hnd)]; exact q
    tbls := fun b ps q => ⟨#[], by rw [upd_ne (at_ne e q exo_tbl), upd_ne (ne_of_none q hnd), q]; simp⟩ }
  refine h dx _ hnd dne (I.un (t' := tk') Un1 fun b o q => ?_)
  by_cases hb : b = a
  · subst hb
    rw [upd_same] at q
    cases q
    exact exo_ok hx
  · rw [upd_ne hb] at q
    by_cases hd : b = dx
    · subst hd
      rw [upd_same] at q
      cases q
      exact exd_ok hn (relO_put (fs := []) ry fun g => True.intro)
    · rw [upd_ne hd] at q
      exact (I.hok b o q).stay (fun c v hc z => k c v (by
          rcases hc with hc | hc
          · rw [hc]
            exact hb
          · exact at_ne e hc exo_own) z)
        (fun c hc => by rw [upd_ne (at_ne e hc exo_own), upd_ne (ne_of_none hc hnd)]; exact hc) (fun c xs hc => by rw [upd_ne (at_ne e hc exo_tup), upd_ne (ne_of_none hc hnd)]; exact hc)
theorem ost_oldG (T : OexG X.K C) (I : Inv X pins σ H s) (e : H a = some (exo a C (some dx))) (ed : H dx = some (exd dx fs)) (hl : fs.length ≤ 900) (hno : PySem.W.findIn X.K (.ref C) f = some none) (ry : RelV y u)
    (h : ∀ s', Inv X pins σ (upd H dx (exd dx ((f, y) :: fs))) s' → Q () s') : wpAny (model X.prog X.w) A (setAttr (.ref a) f u) Q E s := by
  obtain ⟨nm, q, N, bs, bm, sn, sub, ab, col, dd, k0, k1, k2, k3, k5, newId, hC, hbm⟩ := T.cls
  have hcl : PySem.W.clsIn X.K C = some { name := nm, bases := bs, mro := .ref C :: bm, ns := N, qualname := q, hasDict := true, slotNames := sn, subclasses := sub, abstract := ab, collection := col, hasDel := false } := by unfold PySem.W.clsIn; rw [hC] <;> rfl
  obtain ⟨t1, ho⟩ := exo_at I.hok e
  obtain ⟨mA, hns, rel⟩ := exd_at I.hok ed
  have hw := within_of rel
  obtain ⟨hp, g, d, t, os⟩ := s
  obtain ⟨oD, _, _, hoD, _, _⟩ := hns.count hw
  refine PySem.W.set_plain I.kIn (ox := { cls := .ref C, dict := some dx, data := .fields #[.ref t1, .none, .none, .none, .bool false, .none] }) (od := some oD) ⟨ho, rfl, rfl, hoD⟩ T.sa ?_
  refine osa_oldG I.kIn ho hns hw (by rw [List.length_map]; omega) hcl rfl hbm.tl rfl hno (fun h' tk' k hn => ?_)
  have hd : ∃ o, h'.get? dx = some o := by
    obtain ⟨o, _, _, e', _⟩ := hn
    exact ⟨o, e'⟩
  exact h _ (I.write (t' := tk') (x := dx) (e := dx) (o := exd dx ((f, y) :: fs)) (by rw [ed]; exact True.intro) (.inl rfl) k hd (exd_ok hn (relO_put ry rel)))
end
def tOstG (K : PySem.W.Frag) (f : Str) (to te : TE) : TS := fun D σ H => te σ H fun y H1 => to σ H1 fun x H2 => ∃ a C : Addr, x = .ref a ∧ OexG K C ∧ PySem.W.findIn K (.ref C) f = some none ∧
  ((H2 a = some (exo a C none) ∧ ∀ dx, H2 dx = none → dx ≠ a → D.nx σ (upd (upd H2 dx (exd dx [(f, y)])) a (exo a C (some dx)))) ∨
    ∃ (dx : Addr) (fs : List (Str × L2.V)), H2 a = some (exo a C (some dx)) ∧ H2 dx = some (exd dx fs) ∧ fs.length ≤ 900 ∧ D.nx σ (upd H2 dx (exd dx ((f, y) :: fs))))
section
variable {X : Cx} {o e : Expr} {es : List Expr} {to te : TE} {ta : TA} {f : Str} {p p' p1 p2 pos : Pos}
theorem ps_ostG (ho : PE X o to) (he : PE X e te) (hs : swapsWith e (some (.Attribute o f p')) pos.line X.env = pure false := by rfl) : PS X (.Assign [.Attribute o f p'] e pos) (tOstG X.K f to te) := by
  refine ⟨fun pins s σ H D I h => ?_⟩
  refine plainObj_wpAny_Assign_Attribute (thn (he.run pins s σ H _ I h) fun v s1 ⟨y, H1, I1, r1, q1⟩ => thn (ho.run pins s1 σ H1 _ I1 q1) fun u s2 ⟨x, H2, I2, r2, a, C, ex, T, hno, q⟩ => ?_) hs
  subst ex
  obtain rfl : u = Value.ref a := r2
  rcases q with ⟨ea, q⟩ | ⟨dx, fs, ea, ed, hl, q⟩
  · exact ost_newG T I2 ea hno r1 fun dx s' n ne J => ⟨σ, _, J, q dx n ne⟩
  · exact ost_oldG T I2 ea ed hl hno r1 fun s' J => ⟨σ, _, J, q⟩
theorem pmk_oexG {CX : CXT} {x : Str} {C fI : Addr} {k : Nat} {fd : FuncData} {ps : List Str} {sp : Sp} {ds : List Value} {dvs : List L2.V} (T : OexG X.K C) (iC : PySem.W.findIn X.K (.ref C) "__init__" = some (some (.ref fI))) (tI : PySem.W.typeIn X.K (.ref fI) = some (.type "function"))
    (F1 : FnOk X.prog X.w X.K X.mg X.base CX k fI fd ps sp) (hr : Room (k + 1) X.A) (hb : Binds X.K fd ps ds) (hd : Vals dvs ds) (hx : Passes CX X (fun _ _ _ => False)) (hg : Gl X x) (hm : X.mg x = some (.ref C)) (ha : PA X (e :: es) ta)
    (hdb : (x == ("__debug__" : Str)) = false := by decide) (he : starEach (e :: es) X.env = (false, eval e X.env) :: starEach es X.env := by rfl) (hpl : (backTo pos (starEach es X.env)).any (·.1) = false := by rfl) :
    PMk X (.Call (.Name x p) (e :: es) [] pos) (tMkO C sp dvs ta) := by
  intro pins s σ H Q I h
  obtain ⟨nm, q, N, bs, bm, sn, sub, ab, col, dd, k0, k1, k2, k3, k5, newId, hC, hbm⟩ := T.cls
  obtain ⟨⟨B, initId, bmB, FB, hB⟩, htl⟩ := hbm
  obtain ⟨_, _, _, hA, hNm, _⟩ := tailsX_cases htl
  refine wpAny_Call_Name_kw (ld_glob I hg hm ?_ hdb)
  refine PySem.W.callWith_K (h₀ := X.base) I.ok.mod.kin T.kC (thn (ha.run pos pins s σ H _ I h) fun us s1 ⟨vs, H1, I1, r1, hz, q1⟩ => ⟨I1.kIn, ?_⟩) he hpl
  show wpAny _ _ (call (.ref C) us) _ _ _
  obtain ⟨hp, g, dr, tk, os⟩ := s1
  have hsz : hp.objs.size ≤ hp.objs.size + 1 := Nat.le_succ _
  have hn : H1 (hp.objs.size + 1) = none := I1.hok.fresh hsz
  have hq := q1 (hp.objs.size + 1) hn
  have kk : ∀ b o, hp.get? b = some o → ((hp.push (PySem.W.kdv_tup us)).push (PySem.HandSPX.excO C hp.objs.size)).get? b = some o := fun b o e => Heap.get?_push_of_some _ (Heap.get?_push_of_some _ e)
  have hget : ((hp.push (PySem.W.kdv_tup us)).push (PySem.HandSPX.excO C hp.objs.size)).get? (hp.objs.size + 1) = some (PySem.HandSPX.excO C hp.objs.size) := by heap_get
  have I2 : Inv X pins σ (upd H1 (hp.objs.size + 1) (exo (hp.objs.size + 1) C none)) ⟨(hp.push (PySem.W.kdv_tup us)).push (PySem.HandSPX.excO C hp.objs.size), g, dr, tk, os⟩ :=
    I1.laid (t' := tk) (a := hp.objs.size + 1) (o := exo (hp.objs.size + 1) C none) (h' := (hp.push (PySem.W.kdv_tup us)).push (PySem.HandSPX.excO C hp.objs.size)) kk hsz (exo_ok hget)
  have r2 : Vals (L2.V.ref (hp.objs.size + 1) :: (vs ++ dvs)) (Value.ref (hp.objs.size + 1) :: (us ++ ds)) := .cons rfl (r1.append hd)
  have hl : (Value.ref (hp.objs.size + 1) :: us ++ ds).length = ps.length := by
    have e := r2.length
    rw [F1.len _ _ _ _ hq] at e
    exact e.symm
  have hus : us.length ≤ sizeLine := by
    rw [← Paired.length r1, sizeLine_eq]
    omega
  refine wpAny_call (call_ownG FB hB hA hNm (I1.kIn _ _ hC) (PySem.W.looks_findIn I1.kIn iC) (fun self => PySem.W.bind_fn I1.kIn self tI) hus
    (codeAny_mono (F1.run _ X.stack _ _ ⟨Value.ref (hp.objs.size + 1) :: us, []⟩ (Value.ref (hp.objs.size + 1) :: (us ++ ds)) _ _ (fun _ _ _ => False) (hr.make C us []) (I2.env0.make C us []) (hb _ (Value.ref (hp.objs.size + 1) :: us) I2.kIn hl) r2 hq) fun r s' hq' => ?_))
  cases r with
  | error er => exact hx pins σ _ _ er s' I2 hq'
  | ok fl =>
    cases fl with
    | ret u =>
      obtain ⟨v, H2, os2, bare2, un2, hok2, rv, ev, d, fs, ea, ed, hd1, q2⟩ := hq'
      subst ev
      obtain ⟨h2, g2, d2, t2, os'⟩ := s'
      exact ⟨rv, mk_end (raises_own T.exC T.tyC) I1 hsz kk un2 hok2 os2 bare2 ea ed hd1 q2⟩
    | next => exact False.elim hq'
    | brk => exact False.elim hq'
    | cont => exact False.elim hq'
end
end LH
/-! LHRaise: raise; fields and kinds of caught exceptions. -/
namespace LH
open PySem PySem.Spec PyProof.Rows L2
/-- what an exception's __init__ keeps: every argument in a field of its own -/
def spX (K : Fg) (C : Addr) (fs : List Str) : Sp := fun vs H Q _ => ∃ (a : Addr) (ys : List V), vs = .ref a :: ys ∧ ys.length = fs.length ∧ OexG K C ∧ (∀ f ∈ fs, PySem.W.findIn K (.ref C) f = some none) ∧ H a = some (exo a C none) ∧
  ∀ (d : Addr) (H2 : Hp), H2 a = some (exo a C (some d)) → H2 d = some (exd d (fs.zip ys).reverse) → H d = none → (∀ b o, b ≠ a → H b = some o → H2 b = some o) → Q .non H2
theorem spX_len {K : Fg} {C : Addr} {fs : List Str} {n : Nat} (hn : fs.length + 1 = n) : ∀ vs H Q E, spX K C fs vs H Q E → vs.length = n := fun vs H Q E ⟨a, ys, e, hl, _⟩ => by
  rw [e, List.length_cons, hl, hn]
/-- an exception class that keeps its arguments -/
structure FnX (P : Program) (w : World) (K : Fg) (mg : Mg) (base : Heap) (cn : Str) (fs : List Str) : Prop where
  ex : ∃ C fI fd ps, mg cn = some (.ref C) ∧ OexG K C ∧ PySem.W.findIn K (.ref C) "__init__" = some (some (.ref fI)) ∧ PySem.W.typeIn K (.ref fI) = some (.type "function") ∧ Binds K fd ps [] ∧ (∀ f ∈ fs, PySem.W.findIn K (.ref C) f = some none) ∧
    FnOk P w K mg base (L2.CX P w) 1 fI fd ps (spX K C fs)
theorem takes_all {X : Cx} : Takes X (fun cls d σ H => ∃ W, Takes X W ∧ W cls d σ H) := fun u s' ⟨a, B, sI, pins, σ, H, cls, d, e, I, nb, up, sky, na, os, ag, W, tk, w⟩ =>
  tk u s' ⟨a, B, sI, pins, σ, H, cls, d, e, I, nb, up, sky, na, os, ag, w⟩
def sRaise (cn : Str) (fs : List Str) (ms : Cf → Res (List Rv)) : Sm := fun c => (ms c).bind fun rs c1 => match vals c1 rs with
  | some (ds, c2) => if ds.length = fs.length then .err ⟨cn, (fs.zip ds).reverse⟩ c2 else .stuck
  | none => .stuck
theorem zip_keys {α : Type} : ∀ {fs : List Str} {xs : List α}, xs.length = fs.length → (fs.zip xs).map (·.1) = fs ∧ (fs.zip xs).map (·.2) = xs
  | [], [], _ => ⟨rfl, rfl⟩
  | [], _ :: _, h => by simp at h
  | _ :: _, [], h => by simp at h
  | f :: fs, x :: xs, h => by
    obtain ⟨h1, h2⟩ := zip_keys (fs := fs) (xs := xs) (by simpa using h)
    exact ⟨by simp [List.zip_cons_cons, h1], by simp [List.zip_cons_cons, h2]⟩
section
variable {X : Cx} {e : Expr} {es : List Expr} {ms : Cf → Res (List Rv)} {p pos pos2 : Pos} {cn : Str} {fs : List Str}
theorem sx_raise (h : FnX X.prog X.w X.K X.mg X.base cn fs) (hr : RmG 2 X.A) (hz : fs.length ≤ 900) (ha : Ax X (e :: es) ms) (hc : X.calm = true := by rfl) (hg : Gl X cn := by rfl) (hdb : (cn == ("__debug__" : Str)) = false := by decide)
    (he : starEach (e :: es) X.env = (false, eval e X.env) :: starEach es X.env := by rfl) (hpl : (backTo pos (starEach es X.env)).any (·.1) = false := by rfl) : Sx X (.Raise (some (.Call (.Name cn p) (e :: es) [] pos)) none pos2) (sRaise cn fs ms) := by
  obtain ⟨C, fI, fd, ps, hm, T, iC, tI, hb, hno, F⟩ := h
  refine ⟨fun E η M c σ H s => ?_⟩
  refine OutS.bind (R := RVs X.K X.mg) (fun vs H1 Z => vs.length ≤ 1000 ∧ ∀ a, H1 a = none → spX X.K C fs (.ref a :: (vs ++ [])) (upd H1 a (exo a C none))
    (fun v H2 => v = .non ∧ ∃ (d : Addr) (fs : List (Str × V)), H2 a = some (exo a C (some d)) ∧ H2 d = some (exd d fs) ∧ H1 d = none ∧ ∃ W, Takes X W ∧ W (.ref C) (some d) σ (upd (del H2 a) d (.xd fs))) (fun _ _ _ => False)) (ha E η M c σ H s) (fun Z hq => ?_) fun rs c1 vs η1 M1 H1 s1 x1 z1 Z gd => ?_
  · exact ps_ws (ps_raise hc takes_all (pmk_oexG T iC tI F hr.rm hb .nil passL hg hm wa_pa hdb he hpl)) hq
  · cases e1 : vals c1 rs with
    | none => rw [e1] at gd; exact gd.elim
    | some q =>
      obtain ⟨ds, c2⟩ := q
      rw [e1] at gd
      dsimp only at gd
      by_cases hl : ds.length = fs.length
      · rw [if_pos hl] at gd
        obtain ⟨W, tk, hW⟩ := gd
        obtain ⟨M2, s2, x2, r2⟩ := vals_ok s1 z1.1 z1.2 e1
        have hvl : vs.length = fs.length := by rw [r2.length]; exact hl
        refine ⟨by rw [hvl]; omega, fun a na => ⟨a, vs, by rw [List.append_nil], hvl, T, hno, upd_same, fun d H2 ea ed hd k => ?_⟩⟩
        have hda : d ≠ a := fun z => by rw [z, upd_same] at hd; cases hd
        have hd1 : H1 d = none := by rw [upd_ne hda] at hd; exact hd
        refine ⟨rfl, d, _, ea, ed, hd1, W, tk, ?_⟩
        have sH : SR X.K X.mg E η1 M2 c2 σ (upd (del H2 a) d (.xd (fs.zip vs).reverse)) := s2.heap fun b o hb => by
          have n1 : b ≠ a := ne_of_none hb na
          rw [upd_ne (ne_of_none hb hd1), del_ne n1]
          exact k b o n1 (by rw [upd_ne n1]; exact hb)
        obtain ⟨f1, f2, f3, f4⟩ := s2.free hd1
        obtain ⟨s3, x3⟩ := sH.freeze f1 f2 f3 f4 upd_same
        obtain ⟨k1, k2⟩ := zip_keys hvl
        obtain ⟨k3, k4⟩ := zip_keys hl
        refine hW _ _ σ η1 _ _ s3 (x2.trans x3) ⟨d, (fs.zip vs).reverse, hm, rfl, upd_same, ?_, ?_⟩
        · rw [List.map_reverse, List.map_reverse, k1, k3]
        · rw [List.map_reverse, List.map_reverse, k2, k4]
          exact (r2.mono x3).reverse
      · rw [if_neg hl] at gd; exact gd.elim
end
/-! ### fields of caught exceptions -/
def FldX (K : Fg) (mg : Mg) (cs : List Str) (f : Str) : Prop := ∀ c ∈ cs, ∃ C, mg c = some (.ref C) ∧ XfC K C ∧ PySem.W.findIn K (.ref C) f = some none
theorem fldX_nil {K : Fg} {mg : Mg} {f : Str} : FldX K mg [] f := fun c h => by simp at h
theorem fldX_cons {K : Fg} {mg : Mg} {f c : Str} {cs : List Str} {C : Addr} (h : mg c = some (.ref C)) (hc : XfC K C) (hn : PySem.W.findIn K (.ref C) f = some none) (t : FldX K mg cs f) : FldX K mg (c :: cs) f := fun c' h' => by
  rcases List.mem_cons.mp h' with rfl | h'
  · exact ⟨C, h, hc, hn⟩
  · exact t c' h'
def gXf (cs : List Str) (f : Str) (d : D) : Option Rv := match d with
  | .exc c fds => if c ∈ cs then (fds.lookup f).map .fz else none
  | _ => none
theorem VwR.exc {K : Fg} {mg : Mg} {η : List Addr} {M H : Hp} (hs : Same M H) {n : Str} {ds : List (Str × D)} {v : V} (h : VwR K mg η M H v (.exc n ds)) :
    ∃ a C dd fs, v = .ref a ∧ mg n = some (.ref C) ∧ H a = some (ExV C dd a) ∧ H dd = some (.xd fs) ∧ fs.map (·.1) = ds.map (·.1) ∧ RepL K mg η M (fs.map (·.2)) (ds.map (·.2)) := by
  rcases h with h | ⟨a, e, h⟩
  · cases h with
    | exc g h1 h2 k r => exact ⟨_, _, _, _, rfl, g, hs _ _ h1, hs _ _ h2, k, r⟩
  · exact h.elim
theorem exv_inst {X : Cx} {pins : List (Addr × Obj)} {σ : St} {H : Hp} {s : Shared} {a C dd : Addr} {fs : List (Str × V)} (I : Inv X pins σ H s) (ha : H a = some (ExV C dd a)) (hd : H dd = some (.xd fs)) :
    ∃ (oe od : Obj) (mA : Str → Option Value), PySem.W.InstAt s.heap a oe C (some od) ∧ (∀ f, PySem.W.lookIn f od = some (mA f)) ∧ ∀ f, RelO (fs.lookup f) (mA f) := by
  have hA : ObjOk X.prog X.w H s.heap a (.ext fun h => ∃ (oe : Obj) (vs : Array Value), h.get? a = some oe ∧ Zc (.ref C) (some dd) oe ∧ oe.data = .fields vs) := I.hok a _ ha
  obtain ⟨⟨oe, vs, e1, hz, e2⟩, _, _⟩ := hA
  have hx : ObjOk X.prog X.w H s.heap dd (.xd fs) := I.hok dd _ hd
  obtain ⟨mA, hns, hr⟩ := hx
  obtain ⟨od, ho, hl⟩ := lookIn_ns hns
  exact ⟨oe, od, mA, ⟨e1, hz.1, by unfold PySem.W.notCls; rw [e2] <;> rfl, by rw [hz.2]; exact ho⟩, hl, hr⟩
section
variable {X : Cx} {e : Expr} {me : Em} {pos : Pos} {cs : List Str} {f : Str}
theorem ex_xf (hk : FldX X.K X.mg cs f) (he : Ex X e me) (hb : attributeBase e f X.env (eval e X.env) = eval e X.env := by rfl) : Ex X (.Attribute e f pos) (mUn (gXf cs f) me) := by
  refine ⟨fun E η M c σ H s => ?_⟩
  refine Out.bind (fun (x : V) H1 (Q : VK) => ∃ a C dd fs v, x = .ref a ∧ H1 a = some (ExV C dd a) ∧ H1 dd = some (.xd fs) ∧ XfC X.K C ∧ PySem.W.findIn X.K (.ref C) f = some none ∧ fs.lookup f = some v ∧ Q v H1) (he E η M c σ H s) (fun Q hq => ?_) fun ra c1 x η1 M1 H1 s1 x1 z1 => ?_
  · intro pins st I
    refine attr_of hb (thn (hq pins st I) fun u s1 hh => ?_)
    obtain ⟨x, H1, I1, rx, a, C, dd, fs, v, ex, ha, hd, T, hno, l, q⟩ := hh
    subst ex
    obtain rfl : u = Value.ref a := rx
    obtain ⟨oe, od, mA, J, hl, hr⟩ := exv_inst I1 ha hd
    obtain ⟨u, hu, ru⟩ := RelO.some_of (v := v) (o := mA f) (by rw [← l]; exact hr f)
    exact HandSPX.exc_get I1.kIn J T.ga T.gg T.exC (PySem.W.findObj_own T.hdC hno rfl (by rw [hl, hu])) (handed_of ru) ⟨v, H1, I1.tok _, ru, q⟩
  · unfold m1
    cases e1 : view c1 ra with
    | none => trivial
    | some d =>
      dsimp only
      cases e2 : gXf cs f d with
      | none => trivial
      | some r =>
        unfold gXf at e2
        cases d with
        | exc n fds =>
          dsimp only at e2
          split at e2
          · rename_i hc
            obtain ⟨dv, h1, rfl⟩ := Option.map_eq_some_iff.mp e2
            obtain ⟨a, C, dd, fs, rfl, k1, k2, k3, k4, k5⟩ := (view_ok s1 z1 e1).exc s1.sub
            obtain ⟨v, k6, k7⟩ := lookup_rep k4 k5 h1
            obtain ⟨C', q0, q1, q2⟩ := hk n hc
            rw [k1] at q0; cases q0
            exact out_ok s1 (fun Q hq => ⟨a, C, dd, fs, v, rfl, k2, k3, q1, q2, k6, hq⟩) (show RV X.K X.mg E η1 M1 c1 σ H1 v (.fz dv) from k7)
          · cases e2
        | _ => cases e2
end
/-! ### isinstance, of any data, of own and built-in classes, one or several -/
/-- what an exception's class must say so that isinstance asks its instances rightly -/
structure KitE (K : Fg) (C : Addr) : Prop where
  cl : (PySem.W.clsIn K C).isSome = true
  ga : PySem.W.findIn K (.ref C) "__getattribute__" = some (some (.builtin "BaseException.__getattribute__"))
  gt : PySem.W.findIn K (.ref C) "__getattr__" = some none
  sb : PySem.W.subIn K (.ref C) (.type "BaseException") = some true
  ca : PySem.W.findIn K (.ref C) "__class__" = some (some (.builtin "object.__class__"))
  sp : PySem.W.specialIn K (.builtin "object.__class__") "__get__" = some (some (.builtin "getset_descriptor.__get__"))
  tk : PySem.W.takesIn K (.builtin "object.__class__") = some true
  mr : PySem.W.mroIn K C (.type "object") = some true
/-- the same of an own class's instances -/
structure KitI (K : Fg) (C : Addr) : Prop where
  cls : Cls K C
  ca : PySem.W.findIn K (.ref C) "__class__" = some (some (.builtin "object.__class__"))
  sp : PySem.W.specialIn K (.builtin "object.__class__") "__get__" = some (some (.builtin "getset_descriptor.__get__"))
  tk : PySem.W.takesIn K (.builtin "object.__class__") = some true
  mr : PySem.W.mroIn K C (.type "object") = some true
/-- classes asked for: kq tells the answer for a type -/
structure KTbl (K : Fg) (mg : Mg) (kq : Value → Option Bool) (tE tO : List (Str × Bool)) (tB : List (String × Bool)) : Prop where
  e : ∀ c b, tE.lookup c = some b → ∃ C, mg c = some (.ref C) ∧ KitE K C ∧ kq (.ref C) = some b
  o : ∀ c b, tO.lookup c = some b → ∃ C, mg c = some (.ref C) ∧ KitI K C ∧ kq (.ref C) = some b
  b : ∀ a b, tB.lookup a = some b → kq (.type a) = some b
def gIs (tE tO : List (Str × Bool)) (tB : List (String × Bool)) (d : D) : Option Rv := match d with
  | .exc c _ => (tE.lookup c).map fun b => .fz (.bl b)
  | .obj c _ => (tO.lookup c).map fun b => .fz (.bl b)
  | d => (tyN d).bind fun a => (tB.lookup a).map fun b => .fz (.bl b)
/-- the value's type is known to the library -/
def KitV (X : Cx) (H : Hp) (v : V) (t : Value) : Prop := ∀ pins σ s u, Inv X pins σ H s → RelV v u → ∃ P : Heap → Prop, PySem.W.KitX X.K u t P ∧ P s.heap ∧ u ≠ .builtin "__main__.__loader__#opaque"
theorem kitV_of {X : Cx} {η : List Addr} {M H : Hp} {kq : Value → Option Bool} {tE tO : List (Str × Bool)} {tB : List (String × Bool)} {v : V} {d : D} {r : Rv} (T : KTbl X.K X.mg kq tE tO tB) (hs : Same M H) (h : VwR X.K X.mg η M H v d) (e : gIs tE tO tB d = some r) :
    ∃ t b, KitV X H v t ∧ kq t = some b ∧ r = .fz (.bl b) := by
  have plain : ∀ {a : String} {b : Bool}, tyN d = some a → tB.lookup a = some b → r = .fz (.bl b) → ∃ t b, KitV X H v t ∧ kq t = some b ∧ r = .fz (.bl b) := fun {a b} h1 h2 h3 =>
    ⟨.type a, b, fun pins σ s u I ru => kit_of I ru (tyX_of hs h h1), T.b a b h2, h3⟩
  have gen : (tyN d).bind (fun a => (tB.lookup a).map fun b => Rv.fz (.bl b)) = some r → ∃ t b, KitV X H v t ∧ kq t = some b ∧ r = .fz (.bl b) := fun e => by
    obtain ⟨a, h1, h2⟩ := Option.bind_eq_some_iff.mp e
    obtain ⟨b, h3, rfl⟩ := Option.map_eq_some_iff.mp h2
    exact plain h1 h3 rfl
  cases d with
  | exc c fds =>
    obtain ⟨b, h1, rfl⟩ := Option.map_eq_some_iff.mp e
    obtain ⟨C, m1, ke, m2⟩ := T.e c b h1
    obtain ⟨a, C', dd, fs, rfl, k1, k2, k3, k4, k5⟩ := h.exc hs
    rw [m1] at k1; cases k1
    refine ⟨.ref C, b, fun pins σ s u I ru => ?_, m2, rfl⟩
    cases (show u = Value.ref a from ru)
    obtain ⟨oe, od, mA, J, hl, hr⟩ := exv_inst I k2 k3
    exact ⟨_, PySem.W.kitx_exc ke.cl ke.ga ke.gt ke.sb ke.ca ke.sp ke.tk ke.mr, J, fun z => nomatch z⟩
  | obj c fds =>
    obtain ⟨b, h1, rfl⟩ := Option.map_eq_some_iff.mp e
    obtain ⟨C, m1, ki, m2⟩ := T.o c b h1
    obtain ⟨a, C', dx, fs, rfl, k1, k2, k3, k4⟩ := h.obj hs
    rw [m1] at k1; cases k1
    exact ⟨.ref C, b, fun pins σ s u I ru => kit_of I ru (.base (.ins k2 ki.cls ki.ca ki.sp ki.tk ki.mr)), m2, rfl⟩
  | non => exact gen e
  | bl _ => exact gen e
  | int _ => exact gen e
  | str _ => exact gen e
  | lst _ => exact gen e
  | tup _ => exact gen e
  | ro _ => exact gen e
  | dct _ => exact gen e
  | dcT _ => exact gen e
  | hdl _ => exact gen e
  | fn _ => exact gen e
section
variable {X : Cx} {e : Expr} {me : Em} {p pos : Pos} {tE tO : List (Str × Bool)} {tB : List (String × Bool)}
/-- a class by its name -/
structure ClsN (X : Cx) (y : Str) (cv : Value) : Prop where
  g : Gl X y
  d : (y == ("__debug__" : Str)) = false
  v : X.mg y = some cv ∨ (X.mg y = none ∧ bootBuiltins y = some cv ∧ y ≠ "__name__")
  c : ∃ v, ClsV v cv
theorem cls_rel {v : V} {cv : Value} (k : ClsV v cv) : RelV v cv := by cases k <;> rfl
theorem pe_cls {y : Str} {cv : Value} {v : V} {py : Pos} (k : ClsN X y cv) (kv : ClsV v cv) : PE X (.Name y py) (tC v) := by
  rcases k.v with h | ⟨h, hv, hn⟩
  · exact pe_glob k.g h (cls_rel kv) k.d
  · exact pe_bltn k.g h hv (cls_rel kv) hn k.d
theorem ex_is1 {y : Str} {cv : Value} {py : Pos} (hi : X.mg "isinstance" = none) (k : ClsN X y cv) (T : KTbl X.K X.mg (fun t => PySem.W.kitOne X.K t cv) tE tO tB) (he : Ex X e me) (hg : Gl X "isinstance" := by rfl)
    (h1 : starEach [e, .Name y py] X.env = (false, eval e X.env) :: starEach [.Name y py] X.env := by rfl) (h2 : starEach [.Name y py] X.env = (false, eval (.Name y py) X.env) :: starEach [] X.env := by rfl) (hpl : (backTo pos (starEach [.Name y py] X.env)).any (·.1) = false := by rfl) :
    Ex X (.Call (.Name "isinstance" p) [e, .Name y py] [] pos) (mUn (gIs tE tO tB) me) := by
  obtain ⟨cV, kv⟩ := k.c
  have hcall : CallR X (.builtin "isinstance") (fun xs H Q => ∃ x t b, xs = [x, cV] ∧ KitV X H x t ∧ PySem.W.kitOne X.K t cv = some b ∧ Q (.bl b) H) := by
    intro pins s σ H xs us Q I r h
    obtain ⟨x, t, b, rfl, kq, eq, q⟩ := h
    obtain ⟨u1, u2, rfl, r1, r2⟩ := vals2 r
    have e2 := kv.eq r2
    subst e2
    obtain ⟨P, Zk, pp, hx⟩ := kq pins σ s u1 I r1
    exact PySem.W.kia_one Zk I.kIn pp eq hx fun tk => ⟨.bl b, H, I.tok tk, rfl, q⟩
  refine ⟨fun E η M c σ H s => ?_⟩
  refine Out.bind (fun x H1 (Q : VK) => ∃ t b, KitV X H1 x t ∧ PySem.W.kitOne X.K t cv = some b ∧ Q (.bl b) H1) (he E η M c σ H s) (fun Q hq => ?_) fun ra c1 x η1 M1 H1 s1 x1 z1 => ?_
  · refine pe_we (pe_callB hcall hg hi (by decide +kernel) (pa_cons we_pe (pa_cons (pe_cls k kv) pa_nil h2) h1) (by decide) (by decide) h1 hpl) ?_
    intro pins st I
    refine thn (hq pins st I) fun u s1 ⟨v, H1, I1, r1, t, b, q1, q2, q3⟩ => ⟨v, H1, I1, r1, v, t, b, rfl, q1, q2, q3⟩
  · unfold m1
    cases e1 : view c1 ra with
    | none => trivial
    | some d =>
      dsimp only
      cases e2 : gIs tE tO tB d with
      | none => trivial
      | some r =>
        obtain ⟨t, b, k1, k2, rfl⟩ := kitV_of T s1.sub (view_ok s1 z1 e1) e2
        exact out_ok s1 (fun Q hq => ⟨t, b, k1, k2, hq⟩) (show RV X.K X.mg E η1 M1 c1 σ H1 (.bl b) (.fz (.bl b)) from Rep.bl b)
/-- names of classes, as a tuple's items -/
inductive ClsL (X : Cx) : List Expr → List Value → Prop
  | nil : ClsL X [] []
  | cons {y : Str} {cv : Value} {py : Pos} {es : List Expr} {cs : List Value} (k : ClsN X y cv) (r : ClsL X es cs) (h : starEach (.Name y py :: es) X.env = (false, eval (.Name y py) X.env) :: starEach es X.env) : ClsL X (.Name y py :: es) (cv :: cs)
theorem clsL_pa {es : List Expr} {cs : List Value} (h : ClsL X es cs) : ∃ vs, Paired ClsV vs cs ∧ PA X es (fun σ H Q => Q vs H) := by
  induction h with
  | nil => exact ⟨[], .nil, pa_nil⟩
  | cons k r h ih =>
    obtain ⟨vs, p, pa⟩ := ih
    obtain ⟨v, kv⟩ := k.c
    exact ⟨v :: vs, .cons kv p, pa_cons (pe_cls k kv) pa h⟩
theorem ex_isT {es : List Expr} {cs : List Value} {n : Nat} {pt : Pos} (hi : X.mg "isinstance" = none) (L : ClsL X es cs) (hl : cs.length ≤ 100) (T : KTbl X.K X.mg (fun t => PySem.W.kitAny X.K t cs) tE tO tB) (he : Ex X e me) (hg : Gl X "isinstance" := by rfl)
    (h1 : starEach [e, .Tuple es n pt] X.env = (false, eval e X.env) :: starEach [.Tuple es n pt] X.env := by rfl) (h2 : starEach [.Tuple es n pt] X.env = (false, eval (.Tuple es n pt) X.env) :: starEach [] X.env := by rfl) (hpl : (backTo pos (starEach [.Tuple es n pt] X.env)).any (·.1) = false := by rfl) :
    Ex X (.Call (.Name "isinstance" p) [e, .Tuple es n pt] [] pos) (mUn (gIs tE tO tB) me) := by
  obtain ⟨vs, pv, pa⟩ := clsL_pa L
  have hcall : CallR X (.builtin "isinstance") (fun xs H Q => ∃ x tp t b, xs = [x, .ref tp] ∧ H tp = some (.tup vs) ∧ KitV X H x t ∧ PySem.W.kitAny X.K t cs = some b ∧ Q (.bl b) H) := by
    intro pins s σ H xs us Q I r h
    obtain ⟨x, tp, t, b, rfl, hT, kq, eq, q⟩ := h
    obtain ⟨u1, u2, rfl, r1, r2⟩ := vals2 r
    cases (show u2 = Value.ref tp from r2)
    obtain ⟨P, Zk, pp, hx⟩ := kq pins σ s u1 I r1
    obtain ⟨_, its, rv, o, h1, h2, n, h3⟩ := (show ObjOk X.prog X.w H s.heap tp (.tup vs) from I.hok tp _ hT)
    have e3 := ClsV.all pv rv
    subst e3
    obtain ⟨oc, od, dt, sl⟩ := o
    simp only at h2 h3
    subst h2 h3
    exact PySem.W.kia_tup Zk I.kIn pp h1 eq hx fun tk => ⟨.bl b, H, I.tok tk, rfl, q⟩
  refine ⟨fun E η M c σ H s => ?_⟩
  refine Out.bind (fun x H1 (Q : VK) => ∀ tp, H1 tp = none → ∃ t b, KitV X (upd H1 tp (.tup vs)) x t ∧ PySem.W.kitAny X.K t cs = some b ∧ Q (.bl b) (upd H1 tp (.tup vs))) (he E η M c σ H s) (fun Q hq => ?_) fun ra c1 x η1 M1 H1 s1 x1 z1 => ?_
  · refine pe_we (pe_callB hcall hg hi (by decide +kernel) (pa_cons we_pe (pa_cons (pe_tup pa) pa_nil h2) h1) (by decide) (by decide) h1 hpl) ?_
    intro pins st I
    refine thn (hq pins st I) fun u s1 ⟨v, H1, I1, r1, q⟩ => ⟨v, H1, I1, r1, ?_, fun tp htp => ?_⟩
    · rw [pv.length, sizeLine_eq]; omega
    · obtain ⟨t, b, q1, q2, q3⟩ := q tp htp
      exact ⟨v, tp, t, b, rfl, upd_same, q1, q2, q3⟩
  · unfold m1
    cases e1 : view c1 ra with
    | none => trivial
    | some d =>
      dsimp only
      cases e2 : gIs tE tO tB d with
      | none => trivial
      | some r =>
        have vw := view_ok s1 z1 e1
        have hr : ∃ b, r = .fz (.bl b) := by
          obtain ⟨t, b, _, _, e⟩ := kitV_of T s1.sub vw e2
          exact ⟨b, e⟩
        obtain ⟨b, rfl⟩ := hr
        intro Q hQ tp htp
        have s2 := s1.alloc (o := .tup vs) htp
        have vw2 : VwR X.K X.mg η1 M1 (upd H1 tp (.tup vs)) x d := vw.mono .refl fun o a ha => by rw [upd_ne (ne_of_none ha htp)]; exact ha
        obtain ⟨t, b', k1, k2, e⟩ := kitV_of T s2.sub vw2 e2
        cases e
        exact ⟨t, b, k1, k2, hQ _ η1 M1 _ s2 .refl (Rep.bl b)⟩
end
end LH
/-! LHEnumT: enumerate(tuple). -/
namespace LH
open PySem PySem.Spec PyProof.Rows L2
open PySem.Sem (wp)
open PySem.AutoSeq1 (wpAny_loadPart')
section
variable {prog : Program} {w : World} {A : Around} {E : Value → Shared → Prop} {s : Shared}
theorem wpAny_nextOf_tuple_item {it t : Addr} {i : Nat} {items} {x : Value} {Q : Value → Shared → Prop} (hit : s.heap.IsTupleIter it t i)
    (ht : s.heap.IsTuple t items) (hx : items[i]? = some x)
    (hQ : ∀ h', h'.IsTupleIter it t (i + 1) → Heap.SameBut it s.heap h' → Q x { s with heap := h' }) :
    wpAny (model prog w) A (Builtin.SmallTypes.nextOf (.ref it)) Q E s := by
  obtain ⟨o, ho, hc, hd⟩ := id hit
  obtain ⟨ol, hol, _, nl, hdl⟩ := ht
  unfold Builtin.SmallTypes.nextOf
  refine wpAny_bind (wpAny_callSpecial?_slot (name := Str.ofString "__next__") hit.typeIs F.slot_tuple_iterator_next
    (wpAny_call_entry F.slot_tuple_iterator_next hit.typeIs F.entry_tuple_iterator_next ?_ (F.args_tuple_iterator_next_1 _)))
  show wpAny _ _ (field (.ref it) 0 >>= _) _ _ s
  refine wpAny_bind (wpAny_field ho hd (x := .ref t) rfl ?_)
  show wpAny _ _ (if (Value.ref t == Value.none) = true then _ else _) _ _ s
  rw [if_neg (show ¬ ((Value.ref t == Value.none) = true) from Bool.false_ne_true)]
  show wpAny _ _ (field (.ref it) 1 >>= _) _ _ s
  refine wpAny_bind (wpAny_field ho hd (x := .int i 0) rfl ?_)
  show wpAny _ _ (seqItems? (.ref t) >>= _) _ _ s
  refine wpAny_bind (wpAny_seqItems hol hdl ?_)
  simp only [Int.toNat_natCast, hx]
  refine wpAny_bind (wpAny_setField ho hd (by simp) (wpAny_pure ⟨x, rfl, wpAny_pure (hQ _ ?_ (Heap.SameBut.update ..))⟩))
  exact ⟨_, Heap.get?_update_self _ ho (Obj.isFreed_of_fields (Obj.data_mapFields hd _)), (Obj.cls_mapFields ..).trans hc, by
    rw [Obj.data_mapFields hd]; simp [rawInt]⟩
theorem wpAny_nextOf_tuple_end {it t : Addr} {i : Nat} {items} {Q : Value → Shared → Prop} (hh : A.handled = none)
    (hit : s.heap.IsTupleIter it t i) (ht : s.heap.IsTuple t items) (hx : items[i]? = none)
    (hE : ∀ h' e, Heap.ExtBut it s.heap h' → (∃ o, h'.get? e = some o ∧ o.cls = .type "StopIteration") → E (.ref e) { s with heap := h' }) :
    wpAny (model prog w) A (Builtin.SmallTypes.nextOf (.ref it)) Q E s := by
  obtain ⟨o, ho, hc, hd⟩ := id hit
  obtain ⟨ol, hol, _, nl, hdl⟩ := ht
  unfold Builtin.SmallTypes.nextOf
  refine wpAny_bind (wpAny_callSpecial?_slot (name := Str.ofString "__next__") hit.typeIs F.slot_tuple_iterator_next
    (wpAny_call_entry F.slot_tuple_iterator_next hit.typeIs F.entry_tuple_iterator_next ?_ (F.args_tuple_iterator_next_1 _)))
  show wpAny _ _ (field (.ref it) 0 >>= _) _ _ s
  refine wpAny_bind (wpAny_field ho hd (x := .ref t) rfl ?_)
  show wpAny _ _ (if (Value.ref t == Value.none) = true then _ else _) _ _ s
  rw [if_neg (show ¬ ((Value.ref t == Value.none) = true) from Bool.false_ne_true)]
  show wpAny _ _ (field (.ref it) 1 >>= _) _ _ s
  refine wpAny_bind (wpAny_field ho hd (x := .int i 0) rfl ?_)
  show wpAny _ _ (seqItems? (.ref t) >>= _) _ _ s
  refine wpAny_bind (wpAny_seqItems hol hdl ?_)
  simp only [Int.toNat_natCast, hx]
  refine wpAny_bind (wpAny_rule (wpAny_bind (wpAny_setField ho hd (by simp) ?_)))
  show wpAny _ _ (newExc (.type "StopIteration") [] >>= _) _ _ _
  refine wpAny_bind ?_
  simp only [newExc, newTuple]
  refine wpAny_bind (wpAny_newObj_type ?_ (by size_fits))
  refine wpAny_bind (m := firstArgMember _ _) (wpAny_of_eq (a := Value.none) (by first | rfl | (simp only [firstArgMember]; rfl)) ?_)
  refine wpAny_newObj_type ?_ (by size_fits)
  simp only [raiseNew]
  refine wpAny_bind (wpAny_handled ?_)
  first | rw [show A.in1.handled = none from hh] | rw [hh]
  refine wpAny_bind (wpAny_pure (wpAny_throw ?_))
  exact hE _ _ (((Heap.SameBut.update ..).extBut.push _).push _) ⟨_, Heap.get?_push_size _ rfl, rfl⟩
theorem tup_ne {h : Heap} {it t : Addr} {i : Nat} {items : Array Value} (hit : h.IsTupleIter it t i) (ht : h.IsTuple t items) : t ≠ it := fun e => by
  subst e
  obtain ⟨o, ho, hc, _⟩ := hit
  obtain ⟨o', ho', hc', _⟩ := ht
  rw [ho] at ho'; cases ho'
  rw [hc] at hc'
  exact absurd hc' (by simp)
theorem draws_tuple {it t : Addr} {items : Array Value} (hh : A.handled = none) : Draws prog w A it [it, t] items.size (fun i x => items[i]? = some x) (fun i h => h.IsTupleIter it t i ∧ h.IsTuple t items) where
  live := fun i h ⟨⟨o, ho, _⟩, _⟩ => ⟨o, ho⟩
  frame := fun i h h' ⟨⟨o, ho, r⟩, ⟨o2, ho2, r2⟩⟩ k => ⟨⟨o, k it (by simp) _ ho, r⟩, ⟨o2, k t (by simp) _ ho2, r2⟩⟩
  item := fun i s Q E hi ⟨h1, h2⟩ hQ => by
    have hx : items[i]? = some items[i] := by simp [hi]
    exact wpAny_nextOf_tuple_item h1 h2 hx fun h' a b => hQ _ h' s.toks hx ⟨a, h2.extBut b.extBut (tup_ne h1 h2)⟩ b
  done := fun s Q E ⟨h1, h2⟩ hE => wpAny_nextOf_tuple_end hh h1 h2 (by simp) hE
theorem meets_enumerate_newT (l : Addr) (items : Array Value) (n : Nat) (dct : Option Addr) (sl : Array (Option Value)) :
    Meets (Builtin.«enumerate.__new__» ⟨[.type "enumerate", .ref l], []⟩) (fun _ R s => s.heap.get? l = some { cls := .type "tuple", dict := dct, data := .seq items n, slots := sl } ∧
      R (.ok (.ret (.ref (s.heap.push { cls := .type "tuple_iterator", data := .fields #[.ref l, .int 0 0] }).objs.size)))
        { s with heap := (s.heap.push { cls := .type "tuple_iterator", data := .fields #[.ref l, .int 0 0] }).push { cls := .type "enumerate", data := .fields #[.none, .bool false, .ref s.heap.objs.size, rawInt 0, .none, .none] } }) :=
  .of_wp fun prog w A R s h => by
    obtain ⟨hp, g, d, tk, os⟩ := s; obtain ⟨hl, h⟩ := h
    have hsub := sub_enumerate
    have hL : Heap.IsTuple (Shared.heap ⟨hp, g, d, tk, os⟩) l items := ⟨_, hl, rfl, n, rfl⟩
    wp_walk using wpAny_loadPart' hl
    refine wpAny_stack_any fun st => wpAny_pure ?_
    split
    · rename_i c _ _ _ _ _
      cases (c == Value.type "enumerate")
      · wp_walk using wpAny_loadPart' hl, wpAny_pyIter_tuple hL
        exact ⟨_, rfl, h⟩
      · wp_walk using wpAny_loadPart' hl, wpAny_pyIter_tuple hL
        exact ⟨_, rfl, h⟩
    · wp_walk using wpAny_loadPart' hl, wpAny_pyIter_tuple hL
      exact ⟨_, rfl, h⟩
theorem call_enumerate_tuple {l : Addr} {items : Array Value} {Q : Value → Shared → Prop} (hL : s.heap.IsTuple l items)
    (h : ∀ h', IsEnum h' (s.heap.objs.size + 1) s.heap.objs.size 0 .none → h'.IsTupleIter s.heap.objs.size l 0 → h'.objs.size = s.heap.objs.size + 2 →
      (∀ b o, s.heap.get? b = some o → h'.get? b = some o) → Q (.ref (s.heap.objs.size + 1)) { s with heap := h' }) :
    wpAny (model prog w) A (call (.type "enumerate") [.ref l]) Q E s := by
  obtain ⟨⟨c, dct, dt, sl⟩, hl, hc, n, hd⟩ := hL
  replace hc : c = .type "tuple" := hc
  replace hd : dt = .seq items n := hd
  subst hc hd
  refine callType_new F.called_enumerate (by decide) (F.typeCall_enumerate_1 _) (F.newCall_enumerate_1 _) (fun obj => F.args_object_init_2 obj _) F.entry_enumerate_new
    (meets_enumerate_newT l items n dct sl) ⟨hl, ?_⟩
  have hz : (s.heap.push { cls := .type "tuple_iterator", data := .fields #[.ref l, .int 0 0] }).objs.size = s.heap.objs.size + 1 := Heap.size_push ..
  show _ ∧ _
  rw [hz]
  have he : IsEnum ((s.heap.push { cls := .type "tuple_iterator", data := .fields #[.ref l, .int 0 0] }).push
      { cls := .type "enumerate", data := .fields #[.none, .bool false, .ref s.heap.objs.size, rawInt 0, .none, .none] }) (s.heap.objs.size + 1) s.heap.objs.size 0 .none := by
    have := Heap.get?_push_size (s.heap.push { cls := .type "tuple_iterator", data := .fields #[.ref l, .int 0 0] })
      (o := { cls := .type "enumerate", data := .fields #[.none, .bool false, .ref s.heap.objs.size, rawInt 0, .none, .none] }) rfl
    rw [hz] at this; exact this
  refine ⟨⟨_, he, rfl⟩, h _ he ⟨_, Heap.get?_push_of_some _ (Heap.get?_push_size _ rfl), rfl, rfl⟩ (by rw [Heap.size_push, hz]) fun b o x => Heap.get?_push_of_some _ (Heap.get?_push_of_some _ x)⟩
end
/-- the tuple at a as it stands at each turn, each item in a new pair -/
def IteT (K : PySem.W.Frag) (a : Addr) : It :=
  ⟨fun i H => ∃ (xs : List V) (x : V), SqT K H a xs ∧ xs[i]? = some x, fun i H v H' => ∃ T x, v = .ref T ∧ H T = none ∧ H' = upd H T (.tup [.int (i : Nat), x]) ∧ ∀ xs, SqT K H a xs → xs[i]? = some x, fun i H => ∃ xs : List V, SqT K H a xs ∧ xs.length ≤ i⟩
theorem enum_ne {h : Heap} {e it t : Addr} {i : Int} {old : Value} {items : Array Value} (he : IsEnum h e it i old) (ht : h.IsTuple t items) : e ≠ t := fun z => by
  subst z
  obtain ⟨o', ho', hc', _⟩ := ht
  have he : h.get? e = some _ := he
  rw [he] at ho'; cases ho'
  exact absurd hc' (by simp)
theorem turn_enumT {P : Program} {w : World} {K : PySem.W.Frag} {elts : List Expr} {kk : Nat} {tpos : Pos} (a e it : Addr) :
    Turn P w K (.Tuple elts kk tpos) (IteT K a) [e, it] e (fun i h => (∃ old, IsEnum h e it ((i : Nat) : Int) old) ∧ h.IsTupleIter it a i ∧ e ≠ it) where
  mem := by simp
  obj := fun i h st b hb => by
    obtain ⟨⟨old, he⟩, ⟨o, ho, hc, hd⟩, _⟩ := st
    have e' : b = e ∨ b = it := by simpa using hb
    rcases e' with z | z
    · rw [z]; exact ⟨_, he, fun v q => nomatch q⟩
    · rw [z]; exact ⟨o, ho, fun v q => by rw [hd] at q; cases q⟩
  keep := fun i h h' st k => by
    obtain ⟨⟨old, he⟩, ⟨o, ho, r⟩, hne⟩ := st
    exact ⟨⟨old, k e (by simp) _ he⟩, ⟨o, k it (by simp) _ ho, r⟩, hne⟩
  item := by
    intro X hP hw hK hc i pins s σ H E I hf st hg
    subst hP hw hK
    obtain ⟨⟨old, he⟩, hit, hne⟩ := st
    obtain ⟨xs, x, hq, hx⟩ := hg
    obtain ⟨its, rv, p, hz⟩ := I.tuple hq
    obtain ⟨u, hu, ru⟩ := rv.get hx
    have p : s.heap.IsTuple a its.toArray := p
    have hel : e < s.heap.objs.size := Heap.lt_size he
    have hil : it < s.heap.objs.size := by obtain ⟨_, q, _⟩ := hit; exact Heap.lt_size q
    have hli : i < its.toArray.size := by
      have := (List.getElem?_eq_some_iff.mp hu).1
      simpa using this
    have hh := I.ok.hd hc
    refine wpAny_pyNext_enum_itemD (draws_tuple (A := X.A.in1) (items := its.toArray) hh) he ⟨hit, p⟩ hli hne (by
      intro z
      have z : e = it ∨ e = a := by simpa using z
      rcases z with z | z
      · exact hne z
      · exact enum_ne he p z) fun u2 h' tk hu2 ho hs2 hT hsz hk => ?_
    have eu : u2 = u := by
      have hu' : its.toArray[i]? = some u := by simpa using hu
      rw [hu'] at hu2; cases hu2; rfl
    subst eu
    obtain ⟨hit', _⟩ := hs2
    refine ⟨_, rfl, wpAny_letOwnedTupleGo_enum (s := { s with heap := h', toks := tk + 1 }) ho fun h'' he' sb => ?_⟩
    have hT2 : h''.get? s.heap.objs.size = some { cls := .type "tuple", data := .seq #[.int i tk, u2] } := (sb.2 _ (Nat.ne_of_gt hel)).trans hT
    have new : ObjOk X.prog X.w (upd H s.heap.objs.size (.tup [.int (i : Nat), x])) h'' s.heap.objs.size (.tup [.int (i : Nat), x]) :=
      ⟨by show 2 ≤ sizeLine; decide, [.int i tk, u2], .cons ⟨_, rfl⟩ (.cons ru .nil), ⟨_, hT2, rfl, _, rfl⟩⟩
    have I1 : Inv X pins σ (upd H s.heap.objs.size (.tup [.int (i : Nat), x])) { s with heap := h'', toks := tk + 1 } :=
      I.turnedNew (ch := [e, it]) (fun b ob hb q => (sb.2 b (fun z => hb (by simp [z]))).trans (hk b ob (fun z => hb (by simp [z])) (fun z => hb (by simp [z])) q)) hf (Nat.le_refl _) new
    refine ⟨.ref s.heap.objs.size, _, I1, rfl, ⟨_, x, rfl, I.hok.fresh (Nat.le_refl _), rfl, fun ys hy => by rw [I.tuple_inj hy hq]; exact hx⟩, ⟨⟨u2, ?_⟩, hit'.extBut sb.extBut (Ne.symm hne), hne⟩, fun b hb => ?_⟩
    · have e1 : ((i + 1 : Nat) : Int) = (i : Int) + 1 := by omega
      rw [e1]; exact he'
    · have hb' : b < s.heap.objs.size := by
        have e' : b = e ∨ b = it := by simpa using hb
        rcases e' with z | z
        · rw [z]; exact hel
        · rw [z]; exact hil
      rw [upd_ne (Nat.ne_of_lt hb')]
      exact (hf b hb).1
  done := by
    intro X hP hw hK hc i pins s σ H E I hf st hg
    subst hP hw hK
    obtain ⟨⟨old, he⟩, hit, hne⟩ := st
    obtain ⟨xs, hq, hx⟩ := hg
    obtain ⟨its, rv, p, hz⟩ := I.tuple hq
    obtain ⟨f0, f1, f2, f3, f4, f5⟩ := hf it (by simp)
    have hl := rv.length
    have p : s.heap.IsTuple a its.toArray := p
    have hh := I.ok.hd hc
    have hT : s.TypeIs (.ref e) "enumerate" := ⟨_, he, rfl⟩
    unfold pyNext
    refine wpAny_bind (wpAny_attempt (wpAny_callSpecial?_slot (name := Str.ofString "__next__") hT F.slot_enumerate_next
      (wpAny_call_entry F.slot_enumerate_next hT F.entry_enumerate_next ?_ (F.args_enumerate_next_1 _))))
    show wpAny _ _ (field (.ref e) 2 >>= _) _ _ _
    refine wpAny_bind (wpAny_field he rfl (x := .ref it) rfl ?_)
    refine wpAny_bind (wpAny_nextOf_tuple_end (A := X.A.in1) hh hit p (by simp; omega) fun h' x he' hx' => ?_)
    obtain ⟨o, ho, hc⟩ := hx'
    refine wpAny_bind (wpAny_isInstance (T := "StopIteration") (b := true) ⟨o, ho, hc⟩ isSubtype_stop ?_)
    exact wpAny_pure ⟨rfl, I.turned (t' := s.toks) (fun b o hb q => he' b o hb q) f0 f1 f3 f4 f5⟩
  self := fun A i s Q E st h => let ⟨⟨_, he⟩, _⟩ := st; wpAny_pyIter_enum he h
def iEnumB (K : PySem.W.Frag) (ta : TA) : TI := fun σ H R => ta σ H fun vs H1 => ∃ a xs, vs = [.ref a] ∧ ((SqL K H1 a xs ∧ R (Ite K a) H1) ∨ (SqT K H1 a xs ∧ R (IteT K a) H1))
theorem pi_enumB {X : Cx} {e : Expr} {ta : TA} {p pos tpos : Pos} {elts : List Expr} {kk : Nat} (hg : Gl X "enumerate") (hm : X.mg "enumerate" = none) (ha : PA X [e] ta) (hs : starEach [e] X.env = [(false, eval e X.env)] := by rfl) :
    PI X (.Tuple elts kk tpos) (.Call (.Name "enumerate" p) [e] [] pos) (iEnumB X.K ta) := by
  refine ⟨fun pins s σ H R I h => ?_⟩
  refine Call_ (ld_blt I hg hm boot_enumerate (PyProof.Rows.callWith_type1 (thn (ha.run pos pins s σ H _ I h) fun us s1 ⟨vs, H1, I1, r1, q1⟩ => ?_) hs rfl))
  obtain ⟨a, xs, ex, q⟩ := q1
  subst ex
  cases r1 with
  | cons r rr =>
    cases rr
    cases r
    have fp : ∀ b ∈ [s1.heap.objs.size + 1, s1.heap.objs.size], s1.heap.objs.size ≤ b := fun b hb => by
      have e' : b = s1.heap.objs.size + 1 ∨ b = s1.heap.objs.size := by simpa using hb
      rcases e' with z | z
      · rw [z]; exact Nat.le_add_right _ _
      · rw [z]; exact Nat.le_refl _
    rcases q with ⟨hq, q⟩ | ⟨hq, q⟩
    · obtain ⟨its, rv, p', hz⟩ := I1.list hq
      refine call_enumerate_list p'.isList fun h' he hit hsz hk => wpAny_pyIter_enum he ?_
      have I2 : Inv X pins σ H1 { s1 with heap := h' } := I1.kept (t' := s1.toks) hk
      exact ⟨s1.heap.objs.size + 1, [s1.heap.objs.size + 1, s1.heap.objs.size], _, _, H1, rfl, I2, turn_enum a (s1.heap.objs.size + 1) s1.heap.objs.size, ⟨⟨.none, he⟩, hit, Nat.succ_ne_self _⟩, fun b hb => I1.fpOk (fp b hb) (I1.hok.fresh (fp b hb)), q⟩
    · obtain ⟨its, rv, p', hz⟩ := I1.tuple hq
      refine call_enumerate_tuple (show s1.heap.IsTuple a its.toArray from p') fun h' he hit hsz hk => wpAny_pyIter_enum he ?_
      have I2 : Inv X pins σ H1 { s1 with heap := h' } := I1.kept (t' := s1.toks) hk
      exact ⟨s1.heap.objs.size + 1, [s1.heap.objs.size + 1, s1.heap.objs.size], _, _, H1, rfl, I2, turn_enumT a (s1.heap.objs.size + 1) s1.heap.objs.size, ⟨⟨.none, he⟩, hit, Nat.succ_ne_self _⟩, fun b hb => I1.fpOk (fp b hb) (I1.hok.fresh (fp b hb)), q⟩
end LH
/-! LHMisc: constants of the module, names that freeze at once, enumerate, in range(..). -/
namespace LH
open PySem PySem.Spec PyProof.Rows L2
section
variable {X : Cx} {E : En} {η η' : List Addr} {M M' H H' : Hp} {c c' : Cf} {σ σ' : St} {pos pos' : Pos} {e tg a b : Expr} {x : Str} {me : Em} {i : Nat}
/-! ### constants -/
theorem ex_kint {n : Int} (hm : ∃ t, X.mg x = some (.int n t)) (hg : Gl X x := by rfl) (hd : (x == ("__debug__" : Str)) = false := by decide) : Ex X (.Name x pos) (mC (.int n)) := by
  obtain ⟨t, hm⟩ := hm
  exact ⟨fun E η M c σ H s => out_ok s (fun Q hq => pe_we (pe_glob (v := .int n) hg hm ⟨t, rfl⟩ hd) hq) (Rep.int n)⟩
theorem ex_kstr {y : Str} (hm : ∃ t, X.mg x = some (.str y t)) (hg : Gl X x := by rfl) (hd : (x == ("__debug__" : Str)) = false := by decide) : Ex X (.Name x pos) (mC (.str y)) := by
  obtain ⟨t, hm⟩ := hm
  exact ⟨fun E η M c σ H s => out_ok s (fun Q hq => pe_we (pe_glob (v := .str y) hg hm ⟨t, rfl⟩ hd) hq) (Rep.str y)⟩
/-! ### a name that is never changed in place holds what stays -/
def sSetF (i : Nat) (me : Em) : Sm := fun c => (me c).bind fun r c1 => match toVal c1 r with
  | some (d, c2) => if i < c2.ρ.length then .ok .nx { c2 with ρ := c2.ρ.set i (.fz d) } else .stuck
  | none => .stuck
theorem out_putF {m : Res Rv} {tw : VK → Prop} {tw' : Ends → Prop} (h : Out X (RV X.K X.mg) tw E η M σ m) (imp : ∀ Z : Ends, tw (fun v H1 => Z.nx (σ.set i (some v)) H1) → tw' Z) :
    OutS X tw' E η M (m.bind fun r c1 => match toVal c1 r with | some (d, c2) => if i < c2.ρ.length then .ok .nx { c2 with ρ := c2.ρ.set i (.fz d) } else .stuck | none => .stuck) := by
  refine OutS.bind (fun v H1 Z => Z.nx (σ.set i (some v)) H1) h imp fun r c1 v η1 M1 H1 s1 x1 z1 Z g => ?_
  cases e1 : toVal c1 r with
  | none => rw [e1] at g; exact g.elim
  | some q =>
    obtain ⟨d, c2⟩ := q
    rw [e1] at g
    dsimp only at g
    by_cases hi : i < c2.ρ.length
    · rw [if_pos hi] at g
      obtain ⟨M2, s2, x2, r2⟩ := toVal_ok s1 z1 e1
      exact g _ η1 M2 H1 (s2.setFz hi r2) x2
    · rw [if_neg hi] at g; exact g.elim
theorem sx_setF (i : Nat) (hN : X.N.Nodup) (he : Ex X e me) (hi : X.N[i]? = some x := by rfl) (hx : Loc X.env.scope x := by first | exact Or.inl rfl | exact Or.inr rfl) (hs : swapsWith e (some (.Name x pos')) pos.line X.env = pure false := by rfl) (hf : X.fn x = true ∨ X.env.scope.names.lookup x = some .local := by first | exact .inl rfl | exact .inr rfl | assumption) :
    Sx X (.Assign [.Name x pos'] e pos) (sSetF i me) := ⟨fun E η M c σ H s => out_putF (he E η M c σ H s) fun Z hq => ps_ws (ps_set hN hi hx we_pe hs hf) hq⟩
/-- y = [..] on one line, y a local that is never changed in place -/
theorem sx_setCompF {it elt : Expr} {ifs : List Expr} {scope : Scope} (i : Nat) (own : List (Str × Nat)) {y : Str} {py spos : Pos} {mi : Cf → Res (List D)} {g : D → Cf → Option Cf} {js : List Nat} {t : Cf → Res Bool} (hc : X.calm = true) (hN : X.N.Nodup) (ok : BlkOk X.N X.env.scope scope own)
    (hi : Ix X tg it mi) (hg : ∀ s Hb C cl fp, Tgt (blkC X scope s Hb C cl fp) tg g js) (ht : ∀ s Hb C cl fp, Txs (blkC X scope s Hb C cl fp) ifs t) (he : ∀ s Hb C cl fp, Ex (blkC X scope s Hb C cl fp) elt me)
    (hsw : swapsWith (.ListComp elt [⟨tg, it, ifs, 0⟩] scope pos) (some (.Name y py)) spos.line X.env = pure true)
    (hy : X.N[i]? = some y := by rfl) (hyl : X.env.scope.names.lookup y = some .local := by rfl) (hj : ∀ j ∈ js, j ∈ own.map (·.2) := by decide) (hs : ∀ x, foldedSetIterable it X.env x = pure x := by intro _; rfl) :
    Sx X (.Assign [.Name y py] (.ListComp elt [⟨tg, it, ifs, 0⟩] scope pos) spos) (sSetF i (mComp (own.map (·.2)) mi g t me)) := by
  refine ⟨fun E η M c σ H s => ?_⟩
  have key : Out X (RV X.K X.mg) (CompR X tg it ifs elt scope own σ H) E η M σ (mComp (own.map (·.2)) mi g t me c) := comp_core hi hg hj ht he s fun Q hq => hq
  refine out_putF key fun Z hq => ?_
  have hq : tAsg (tLc (Wi X tg it) (Wgb X scope tg) (Wtb X scope ifs) (Web X scope elt) (own.map (·.2))) (gName i) Z σ H := hq
  exact ps_ws (ps_setLc hc hN hy hyl hsw wi_pi ok (fun s H C cl fp => ⟨fun pins st σ H v u Q I r h => h s _ C cl fp pins st u I r⟩) (fun s H C cl fp => ⟨fun pins st σ H Q I h => h s _ C cl fp pins st I⟩) (fun s H C cl fp => ⟨fun pins st σ H Q I h => h s _ C cl fp pins st I⟩) hs) hq
/-- slots freeze -/
def frzS : List Nat → Cf → Cf
  | [], c => c
  | i :: is, c => frzS is (match c.ρ[i]? with
    | some (.ow d) => { c with ρ := c.ρ.set i (.fz d) }
    | _ => c)
def sFrz (is : List Nat) (m : Sm) : Sm := fun c => match m c with
  | .ok .nx c1 => .ok .nx (frzS is c1)
  | r => r
theorem frzS_ok {K : Fg} {mg : Mg} : ∀ (is : List Nat) {c : Cf} {M : Hp}, SR K mg E η M c σ H → ∃ M', SR K mg E η M' (frzS is c) σ H ∧ Ext η M η M'
  | [], c, M, s => ⟨M, s, .refl⟩
  | i :: is, c, M, s => by
    unfold frzS
    cases q : c.ρ[i]? with
    | none => exact frzS_ok is s
    | some sl =>
      cases sl with
      | ow d =>
        obtain ⟨a, M1, e1, x1, s1, r1⟩ := s.freezeSlot q
        obtain ⟨M2, s2, x2⟩ := frzS_ok is s1
        exact ⟨M2, s2, x1.trans x2⟩
      | _ => exact frzS_ok is s
theorem sx_frz {st : Stmt} {m : Sm} (is : List Nat) (h : Sx X st m) : Sx X st (sFrz is m) := by
  refine ⟨fun E η M c σ H s Z g => ?_⟩
  refine h E η M c σ H s Z ?_
  unfold sFrz at g
  cases e1 : m c with
  | stuck => rw [e1] at g; exact g
  | err x c1 => rw [e1] at g; exact g
  | ok fl c1 =>
    rw [e1] at g
    cases fl with
    | nx =>
      refine fun σ1 η1 M1 H1 s1 x1 => ?_
      obtain ⟨M2, s2, x2⟩ := frzS_ok is s1
      exact g σ1 η1 M2 H1 s2 (x1.trans x2)
    | bk => exact g
    | ct => exact g
    | rt r => exact g
/-! ### enumerate(xs), a list -/
def enumD (k : Nat) : List D → List D
  | [] => []
  | d :: ds => .tup [.int (k : Nat), d] :: enumD (k + 1) ds
theorem enumD_get : ∀ {ds : List D} {k i : Nat} {t : D}, (enumD k ds)[i]? = some t → ∃ d, ds[i]? = some d ∧ t = .tup [.int ((k + i : Nat) : Int), d]
  | [], _, _, _, h => by simp [enumD] at h
  | d :: ds, k, 0, t, h => by simp [enumD] at h; exact ⟨d, rfl, by rw [← h]; rfl⟩
  | d :: ds, k, i + 1, t, h => by
    have h : (enumD (k + 1) ds)[i]? = some t := by simpa [enumD] using h
    obtain ⟨d', h1, h2⟩ := enumD_get h
    exact ⟨d', by simpa using h1, by rw [h2]; congr 3; omega⟩
theorem enumD_len : ∀ (ds : List D) (k : Nat), (enumD k ds).length = ds.length
  | [], _ => rfl
  | _ :: ds, k => congrArg Nat.succ (enumD_len ds (k + 1))
theorem jok_enum {K : Fg} {mg : Mg} {a : Addr} {xs : List V} {ds : List D} (h : M a = some (.lst xs)) (r : RepL K mg η M xs ds) : JOk K mg η M (Ite K a) (enumD 0 ds) := by
  intro i H hs
  have h' : SqL K H a xs := .of (hs _ _ h)
  refine ⟨fun t e => ?_, fun hl => ⟨xs, h', by rw [r.length, ← enumD_len ds 0]; exact hl⟩⟩
  obtain ⟨d, e1, rfl⟩ := enumD_get e
  obtain ⟨v, e2, r1⟩ := r.getD' e1
  refine ⟨⟨xs, v, h', e2⟩, fun y H' ⟨T, z, q1, q2, q3, q4⟩ => .inr ⟨T, [.int (i : Nat), v], [.int (i : Nat), d], q2, q1, ?_, .cons (.int _) (.cons r1 .nil), by rw [Nat.zero_add]⟩⟩
  have := q4 xs h'
  rw [e2] at this; cases this
  exact q3
def mEnum (ms : Cf → Res (List Rv)) : Cf → Res (List D) := fun c => (ms c).bind fun rs c1 => match vals c1 rs with
  | some ([.lst ds], c2) => .ok (enumD 0 ds) c2
  | some ([.tup ds], c2) => .ok (enumD 0 ds) c2
  | _ => .stuck
theorem jok_enumT {K : Fg} {mg : Mg} {a : Addr} {xs : List V} {ds : List D} (h : M a = some (.tup xs)) (r : RepL K mg η M xs ds) : JOk K mg η M (IteT K a) (enumD 0 ds) := by
  intro i H hs
  have h' : SqT K H a xs := .of (hs _ _ h)
  refine ⟨fun t e => ?_, fun hl => ⟨xs, h', by rw [r.length, ← enumD_len ds 0]; exact hl⟩⟩
  obtain ⟨d, e1, rfl⟩ := enumD_get e
  obtain ⟨v, e2, r1⟩ := r.getD' e1
  refine ⟨⟨xs, v, h', e2⟩, fun y H' ⟨T, z, q1, q2, q3, q4⟩ => .inr ⟨T, [.int (i : Nat), v], [.int (i : Nat), d], q2, q1, ?_, .cons (.int _) (.cons r1 .nil), by rw [Nat.zero_add]⟩⟩
  have := q4 xs h'
  rw [e2] at this; cases this
  exact q3
theorem ix_enum {es : List Expr} {elts : List Expr} {kk : Nat} {p tpos : Pos} {ms : Cf → Res (List Rv)} (hm : X.mg "enumerate" = none) (ha : Ax X [e] ms) (hg : Gl X "enumerate" := by rfl) (hs : starEach [e] X.env = [(false, eval e X.env)] := by rfl) :
    Ix X (.Tuple elts kk tpos) (.Call (.Name "enumerate" p) [e] [] pos) (mEnum ms) := by
  refine ⟨fun E η M c σ H s => ?_⟩
  refine Out.bind (R := RVs X.K X.mg) (fun vs H1 (R : It → Hp → Prop) => ∃ a xs, vs = [V.ref a] ∧ ((SqL X.K H1 a xs ∧ R (Ite X.K a) H1) ∨ (SqT X.K H1 a xs ∧ R (IteT X.K a) H1))) (ha E η M c σ H s) (fun Q hq => pi_wi (pi_enumB hg hm wa_pa hs) hq) fun rs c1 vs η1 M1 H1 s1 x1 z1 => ?_
  cases e1 : vals c1 rs with
  | none => trivial
  | some q =>
    obtain ⟨ds, c2⟩ := q
    obtain ⟨M2, s2, x2, r2⟩ := vals_ok s1 z1.1 z1.2 e1
    match ds, r2 with
    | [.lst ds], .cons (.lst hq hr) .nil => exact out_ext x2 (out_ok (v := Ite X.K _) s2 (fun Q hQ => ⟨_, _, rfl, .inl ⟨.of (s2.sub _ _ hq), hQ⟩⟩) (jok_enum hq hr))
    | [.tup ds], .cons (.tup hq hr) .nil => exact out_ext x2 (out_ok (v := IteT X.K _) s2 (fun Q hQ => ⟨_, _, rfl, .inr ⟨.of (s2.sub _ _ hq), hQ⟩⟩) (jok_enumT hq hr))
    | [], _ => trivial
    | .lst _ :: _ :: _, _ => trivial
    | .non :: _, _ => trivial
    | .bl _ :: _, _ => trivial
    | .int _ :: _, _ => trivial
    | .str _ :: _, _ => trivial
    | .tup _ :: _ :: _, _ => trivial
    | .ro _ :: _, _ => trivial
    | .dct _ :: _, _ => trivial
    | .dcT _ :: _, _ => trivial
    | .obj _ _ :: _, _ => trivial
    | .hdl _ :: _, _ => trivial
    | .exc _ _ :: _, _ => trivial
    | .fn _ :: _, _ => trivial
/-! ### n in range(a, b) -/
theorem op_notin_rng : OpR X (compareOp .NotIn) (fun x y H Q => ∃ i a lo hi, x = V.int i ∧ y = V.ref a ∧ H a = some (.rng lo hi) ∧ Q (.bl (!decide (lo ≤ i ∧ i < hi))) H) := by
  intro pins s σ H x y v u Q I rx ry h
  obtain ⟨i, a, lo, hi, rfl, rfl, ha, q⟩ := h
  obtain ⟨k, rfl⟩ := rx
  obtain rfl : u = Value.ref a := ry
  obtain ⟨t1, t2, t3, ho⟩ := I.hok a _ ha
  show wpAny _ _ (do return Value.bool (!(← contains (Value.ref a) (Value.int i k)))) _ _ s
  refine wpAny_bind (wpAny_contains_slot (T := "range") ⟨_, ho, rfl⟩ F.slot_range_contains (call_meets F.slot_range_contains ⟨_, ho, rfl⟩ F.entry_range_contains (F.args_range_contains_2 _ _) (q_contains a lo hi i t1 t2 t3 k)
    ⟨ho, wpAny_truthy_bool (wpAny_pure ⟨.bl _, H, I, rfl, ?_⟩)⟩))
  rw [place1]
  exact q
def two : List D → Option (Int × Int)
  | [.int lo, .int hi] => some (lo, hi)
  | _ => none
theorem two_ok {ds : List D} {p : Int × Int} (h : two ds = some p) : ds = [.int p.1, .int p.2] := by
  unfold two at h
  split at h
  · cases h; rfl
  · cases h
def mInR (neg : Bool) (me : Em) (ms : Cf → Res (List Rv)) : Em := fun c => (me c).st.bind fun r c1 => (ms c1).bind fun rs c2 => match view c2 r with
  | some (.int i) => (match (views c2 rs).bind two with
    | some p => .ok (.fz (.bl (decide (p.1 ≤ i ∧ i < p.2) != neg))) c2
    | none => .stuck)
  | _ => .stuck
theorem out_inR {tw : VK → Prop} {neg : Bool} {ms : Cf → Res (List Rv)} (he : Ex X e me) (ha : Ax X [a, b] ms) (s : SR X.K X.mg E η M c σ H)
    (imp : ∀ Q : VK, We X e σ H (fun x H1 => Wa X [a, b] σ H1 fun vs H2 => ∃ i lo hi, x = V.int i ∧ vs = [V.int lo, V.int hi] ∧ ∀ p, H2 p = none → Q (.bl (decide (lo ≤ i ∧ i < hi) != neg)) (upd H2 p (.rng lo hi))) → tw Q) :
    Out X (RV X.K X.mg) tw E η M σ (mInR neg me ms c) := by
  refine Out.bind (R := RVst X.K X.mg) (fun x H1 Q => Wa X [a, b] σ H1 fun vs H2 => ∃ i lo hi, x = V.int i ∧ vs = [V.int lo, V.int hi] ∧ ∀ p, H2 p = none → Q (.bl (decide (lo ≤ i ∧ i < hi) != neg)) (upd H2 p (.rng lo hi))) (out_st (he E η M c σ H s)) imp fun r c1 x η1 M1 H1 s1 x1 z1 => ?_
  refine Out.bind (R := RVs X.K X.mg) (fun vs H2 Q => ∃ i lo hi, x = V.int i ∧ vs = [V.int lo, V.int hi] ∧ ∀ p, H2 p = none → Q (.bl (decide (lo ≤ i ∧ i < hi) != neg)) (upd H2 p (.rng lo hi))) (ha E η1 M1 c1 σ H1 s1) (fun Q hq => hq) fun rs c2 vs η2 M2 H2 s2 x2 z2 => ?_
  cases e1 : view c2 r with
  | none => trivial
  | some d =>
    cases d with
    | int i =>
      cases e2 : (views c2 rs).bind two with
      | none => trivial
      | some p =>
        obtain ⟨ds, e3, e4⟩ := Option.bind_eq_some_iff.mp e2
        have v1 := (view_ok s2 (z1.2.keep x2 z1.1) e1).int
        have v2 := views_ok s2 z2.2 e3
        rw [two_ok e4] at v2
        cases v2 with
        | cons q1 r2 =>
          cases r2 with
          | cons q2 r3 =>
            cases r3
            exact fun Q hQ => ⟨i, p.1, p.2, v1, by rw [q1.int, q2.int], fun a ha => hQ _ η2 M2 _ (s2.alloc ha) .refl (Rep.bl _)⟩
    | _ => trivial
theorem in_tOp {op : CmpOp} {p cpos : Pos} {neg : Bool} (hm : X.mg "range" = none) (hg : Gl X "range") (hs : starEach [a, b] X.env = (false, eval a X.env) :: starEach [b] X.env) (hpl : (backTo cpos (starEach [b] X.env)).any (·.1) = false) {Q : VK}
    (hq : We X e σ H (fun x H1 => Wa X [a, b] σ H1 fun vs H2 => ∃ i lo hi, x = V.int i ∧ vs = [V.int lo, V.int hi] ∧ ∀ p, H2 p = none → Q (.bl (decide (lo ≤ i ∧ i < hi) != neg)) (upd H2 p (.rng lo hi)))) :
    tOp (fun x y H Q => ∃ i a lo hi, x = V.int i ∧ y = V.ref a ∧ H a = some (.rng lo hi) ∧ Q (.bl (decide (lo ≤ i ∧ i < hi) != neg)) H) (We X e) (fun σ H Q => Wa X [a, b] σ H fun vs H1 => ∃ i j, vs = [V.int i, V.int j] ∧ ∀ p, H1 p = none → Q (.ref p) (upd H1 p (.rng i j))) σ H Q := by
  intro pins st I
  refine thn (hq pins st I) fun u s1 ⟨v, H1, I1, r1, q⟩ => ⟨v, H1, I1, r1, fun pos pins2 s2 I2 => ?_⟩
  refine thn (q pos pins2 s2 I2) fun us s3 ⟨vs, H2, I3, r3, i, lo, hi, ex, ev, q2⟩ => ⟨vs, H2, I3, r3, lo, hi, ev, fun p hp => ⟨i, p, lo, hi, ex, rfl, upd_same, q2 p hp⟩⟩
theorem ex_inR {op : CmpOp} {p cpos : Pos} {neg : Bool} {ms : Cf → Res (List Rv)} (hop : OpR X (compareOp op) (fun x y H Q => ∃ i a lo hi, x = V.int i ∧ y = V.ref a ∧ H a = some (.rng lo hi) ∧ Q (.bl (decide (lo ≤ i ∧ i < hi) != neg)) H))
    (hm : X.mg "range" = none) (he : Ex X e me) (ha : Ax X [a, b] ms) (hg : Gl X "range" := by rfl) (h1 : behindInMarks op (.Call (.Name "range" p) [a, b] [] cpos) = false := by rfl)
    (hs : starEach [a, b] X.env = (false, eval a X.env) :: starEach [b] X.env := by rfl) (hpl : (backTo cpos (starEach [b] X.env)).any (·.1) = false := by rfl) : Ex X (.Compare e [op] [.Call (.Name "range" p) [a, b] [] cpos] pos) (mInR neg me ms) := ⟨fun E η M c σ H s =>
  out_inR he ha s fun Q hq => pe_we (pe_cmpR hop we_pe (pe_callTy cr_range2 hg hm PyProof.Rows.boot_range wa_pa (by decide) (by decide) hs hpl) h1) (in_tOp (op := op) (p := p) hm hg hs hpl hq)⟩
theorem tx_inR {op : CmpOp} {p cpos : Pos} {neg : Bool} {ms : Cf → Res (List Rv)} (hop : OpR X (compareOp op) (fun x y H Q => ∃ i a lo hi, x = V.int i ∧ y = V.ref a ∧ H a = some (.rng lo hi) ∧ Q (.bl (decide (lo ≤ i ∧ i < hi) != neg)) H))
    (hm : X.mg "range" = none) (he : Ex X e me) (ha : Ax X [a, b] ms) (hg : Gl X "range" := by rfl) (h1 : behindInMarks op (.Call (.Name "range" p) [a, b] [] cpos) = false := by rfl)
    (hs : starEach [a, b] X.env = (false, eval a X.env) :: starEach [b] X.env := by rfl) (hpl : (backTo cpos (starEach [b] X.env)).any (·.1) = false := by rfl) : Tx X (.Compare e [op] [.Call (.Name "range" p) [a, b] [] cpos] pos) (mBool (mInR neg me ms)) := ⟨fun E η M c σ H s =>
  out_bool (out_inR (tw := fun Q => tOp _ _ _ σ H Q) he ha s fun Q hq => in_tOp (op := op) (p := p) hm hg hs hpl hq) fun Q hq => pt_wt (pt_cmpR hop we_pe (pe_callTy cr_range2 hg hm PyProof.Rows.boot_range wa_pa (by decide) (by decide) hs hpl) h1) hq⟩
end
/-! ### classes in except clauses -/
structure XT (K : Fg) (mg : Mg) (x : Str) (yes no : List Str) : Prop where
  ex : ∃ C, mg x = some (.ref C) ∧ (∀ c ∈ yes, ∃ C', mg c = some (.ref C') ∧ PySem.W.exmOne K (.ref C') (.ref C) = some true) ∧ ∀ c ∈ no, ∃ C', mg c = some (.ref C') ∧ PySem.W.exmOne K (.ref C') (.ref C) = some false
theorem XT.test {X : Cx} {x : Str} {yes no : List Str} (h : XT X.K X.mg x yes no) (hg : Gl X x := by rfl) (hd : (x == ("__debug__" : Str)) = false := by decide) : XTest X x yes no := by
  obtain ⟨C, h1, h2, h3⟩ := h
  exact ⟨.ref C, ⟨hg, hd, .inl h1⟩, h2, h3⟩
/-- classes that isinstance asks for -/
structure KT (K : Fg) (mg : Mg) (ys : List Str) (one : Bool) (tE tO : List (Str × Bool)) (tB : List (String × Bool)) : Prop where
  ex : ∃ cs : List Value, Paired (fun y cv => (∃ v, ClsV v cv) ∧ (mg y = some cv ∨ (mg y = none ∧ bootBuiltins y = some cv ∧ y ≠ "__name__"))) ys cs ∧ (one = true → ∃ cv, cs = [cv]) ∧
    KTbl K mg (fun t => if one = true then (match cs with | [cv] => PySem.W.kitOne K t cv | _ => none) else PySem.W.kitAny K t cs) tE tO tB
/-! ### the mirrors, purely -/
section
variable {c : Cf} {m me : Em} {ms : Cf → Res (List Rv)}
theorem wE_sSetF {i : Nat} {Q : Fl → Cf → Prop} : wE (sSetF i m c) Q = wE (m c) fun r c1 => oE (toVal c1 r) fun p => i < p.2.ρ.length ∧ Q .nx { p.2 with ρ := p.2.ρ.set i (.fz p.1) } := by
  unfold sSetF
  rw [wE_bind]
  congr 1
  funext r c1
  cases toVal c1 r with
  | none => rfl
  | some p =>
    obtain ⟨d, c2⟩ := p
    show wE (if i < c2.ρ.length then _ else _) Q = (i < c2.ρ.length ∧ _)
    by_cases h : i < c2.ρ.length
    · rw [if_pos h]; simp [h]
    · rw [if_neg h]; simp [h]
theorem wE_sFrz {is : List Nat} {m : Sm} {Q : Fl → Cf → Prop} : wE (sFrz is m c) Q = wE (m c) fun fl c1 => match fl with | .nx => Q .nx (frzS is c1) | fl => Q fl c1 := by
  unfold sFrz
  cases m c with
  | ok fl c1 => cases fl <;> rfl
  | _ => rfl
theorem wE_mEnum {Q : List D → Cf → Prop} : wE (mEnum ms c) Q = wE (ms c) fun rs c1 => oE (vals c1 rs) fun p => match p.1 with | [.lst ds] => Q (enumD 0 ds) p.2 | [.tup ds] => Q (enumD 0 ds) p.2 | _ => False := by
  unfold mEnum
  rw [wE_bind]
  congr 1
  funext rs c1
  cases vals c1 rs with
  | none => rfl
  | some p =>
    obtain ⟨ds, c2⟩ := p
    cases ds with
    | nil => rfl
    | cons d ds => cases ds with
      | nil => cases d <;> rfl
      | cons d2 ds => cases d <;> rfl
theorem wE_mInR {neg : Bool} {Q : Rv → Cf → Prop} : wE (mInR neg me ms c) Q = wE (me c) fun r c1 => wE (ms c1) fun rs c2 => oE (view c2 (settle r)) fun d => match d with | .int i => oE ((views c2 rs).bind two) fun p => Q (.fz (.bl (decide (p.1 ≤ i ∧ i < p.2) != neg))) c2 | _ => False := by
  unfold mInR
  rw [wE_bind, wE_st]
  congr 1
  funext r c1
  rw [wE_bind]
  congr 1
  funext rs c2
  cases view c2 (settle r) with
  | none => rfl
  | some d =>
    cases d with
    | int i =>
      simp only [oE_some]
      cases (views c2 rs).bind two <;> rfl
    | _ => rfl
end
/-- r ends in an exception, with Q -/
def wX {α : Type} (r : Res α) (Q : Xc → Cf → Prop) : Prop := match r with
  | .err x c => Q x c
  | _ => False
end LH
/-! LHCls: facts of classes, put together. -/
namespace LH
open PySem PySem.Spec PyProof.Rows L2
/-! ### except clauses -/
def XL (K : Fg) (mg : Mg) (C : Addr) (l : List Str) (b : Bool) : Prop := ∀ c ∈ l, ∃ C', mg c = some (.ref C') ∧ PySem.W.exmOne K (.ref C') (.ref C) = some b
theorem xl_nil {K : Fg} {mg : Mg} {C : Addr} {b : Bool} : XL K mg C [] b := fun c h => by simp at h
theorem xl_cons {K : Fg} {mg : Mg} {C C' : Addr} {b : Bool} {c : Str} {l : List Str} (h : mg c = some (.ref C')) (q : PySem.W.exmOne K (.ref C') (.ref C) = some b) (t : XL K mg C l b) : XL K mg C (c :: l) b := fun x hx => by
  rcases List.mem_cons.mp hx with rfl | hx
  · exact ⟨C', h, q⟩
  · exact t x hx
theorem xt_mk {K : Fg} {mg : Mg} {x : Str} {C : Addr} {yes no : List Str} (h : mg x = some (.ref C)) (h1 : XL K mg C yes true) (h2 : XL K mg C no false) : XT K mg x yes no := ⟨C, h, h1, h2⟩
/-! ### isinstance -/
def TE (K : Fg) (mg : Mg) (kq : Value → Option Bool) (l : List (Str × Bool)) : Prop := ∀ c b, l.lookup c = some b → ∃ C, mg c = some (.ref C) ∧ KitE K C ∧ kq (.ref C) = some b
def TO (K : Fg) (mg : Mg) (kq : Value → Option Bool) (l : List (Str × Bool)) : Prop := ∀ c b, l.lookup c = some b → ∃ C, mg c = some (.ref C) ∧ KitI K C ∧ kq (.ref C) = some b
def TB (kq : Value → Option Bool) (l : List (String × Bool)) : Prop := ∀ a b, l.lookup a = some b → kq (.type a) = some b
section
variable {K : Fg} {mg : Mg} {kq : Value → Option Bool}
theorem te_nil : TE K mg kq [] := fun c b h => by simp at h
theorem te_cons {C : Addr} {c : Str} {b : Bool} {l : List (Str × Bool)} (h : mg c = some (.ref C)) (k : KitE K C) (q : kq (.ref C) = some b) (t : TE K mg kq l) : TE K mg kq ((c, b) :: l) := fun x y hx => by
  rw [List.lookup_cons] at hx
  cases e : x == c with
  | true =>
    rw [e] at hx
    simp only at hx
    cases hx
    rw [beq_iff_eq.mp e]
    exact ⟨C, h, k, q⟩
  | false => rw [e] at hx; exact t x y hx
theorem to_nil : TO K mg kq [] := fun c b h => by simp at h
theorem to_cons {C : Addr} {c : Str} {b : Bool} {l : List (Str × Bool)} (h : mg c = some (.ref C)) (k : KitI K C) (q : kq (.ref C) = some b) (t : TO K mg kq l) : TO K mg kq ((c, b) :: l) := fun x y hx => by
  rw [List.lookup_cons] at hx
  cases e : x == c with
  | true =>
    rw [e] at hx
    simp only at hx
    cases hx
    rw [beq_iff_eq.mp e]
    exact ⟨C, h, k, q⟩
  | false => rw [e] at hx; exact t x y hx
theorem tb_nil : TB kq [] := fun c b h => by simp at h
theorem tb_cons {c : String} {b : Bool} {l : List (String × Bool)} (q : kq (.type c) = some b) (t : TB kq l) : TB kq ((c, b) :: l) := fun x y hx => by
  rw [List.lookup_cons] at hx
  cases e : x == c with
  | true =>
    rw [e] at hx
    simp only at hx
    cases hx
    rw [beq_iff_eq.mp e]
    exact q
  | false => rw [e] at hx; exact t x y hx
end
/-- how a class stands at a name -/
def ClsQ (mg : Mg) (y : Str) (cv : Value) : Prop := (∃ v, ClsV v cv) ∧ (mg y = some cv ∨ (mg y = none ∧ bootBuiltins y = some cv ∧ y ≠ "__name__"))
theorem clsQ_own {mg : Mg} {y : Str} {C : Addr} (h : mg y = some (.ref C)) : ClsQ mg y (.ref C) := ⟨⟨.ref C, .own C⟩, .inl h⟩
theorem clsQ_ty {mg : Mg} {y : Str} {T : String} (h : mg y = none) (hb : bootBuiltins y = some (.type T)) (hn : y ≠ "__name__" := by decide) : ClsQ mg y (.type T) := ⟨⟨.ty T, .ty T⟩, .inr ⟨h, hb, hn⟩⟩
structure KT1 (K : Fg) (mg : Mg) (y : Str) (tE tO : List (Str × Bool)) (tB : List (String × Bool)) : Prop where
  ex : ∃ cv, ClsQ mg y cv ∧ KTbl K mg (fun t => PySem.W.kitOne K t cv) tE tO tB
theorem kt1_mk {K : Fg} {mg : Mg} {y : Str} {cv : Value} {tE tO : List (Str × Bool)} {tB : List (String × Bool)} (h : ClsQ mg y cv) (e : TE K mg (fun t => PySem.W.kitOne K t cv) tE) (o : TO K mg (fun t => PySem.W.kitOne K t cv) tO) (b : TB (fun t => PySem.W.kitOne K t cv) tB) : KT1 K mg y tE tO tB := ⟨cv, h, e, o, b⟩
structure KTn (K : Fg) (mg : Mg) (ys : List Str) (tE tO : List (Str × Bool)) (tB : List (String × Bool)) : Prop where
  ex : ∃ cs, Paired (ClsQ mg) ys cs ∧ KTbl K mg (fun t => PySem.W.kitAny K t cs) tE tO tB
theorem ktn_mk {K : Fg} {mg : Mg} {ys : List Str} {cs : List Value} {tE tO : List (Str × Bool)} {tB : List (String × Bool)} (h : Paired (ClsQ mg) ys cs) (e : TE K mg (fun t => PySem.W.kitAny K t cs) tE) (o : TO K mg (fun t => PySem.W.kitAny K t cs) tO) (b : TB (fun t => PySem.W.kitAny K t cs) tB) : KTn K mg ys tE tO tB := ⟨cs, h, e, o, b⟩
/-- the names in a tuple -/
inductive NamesL (X : Cx) : List Expr → List Str → Prop
  | nil : NamesL X [] []
  | cons {y : Str} {py : Pos} {es : List Expr} {ys : List Str} (g : Gl X y) (d : (y == ("__debug__" : Str)) = false) (h : starEach (.Name y py :: es) X.env = (false, eval (.Name y py) X.env) :: starEach es X.env) (r : NamesL X es ys) : NamesL X (.Name y py :: es) (y :: ys)
theorem clsL_of {X : Cx} {es : List Expr} {ys : List Str} (h : NamesL X es ys) : ∀ {cs : List Value}, Paired (ClsQ X.mg) ys cs → ClsL X es cs := by
  induction h with
  | nil => intro cs p; cases p; exact .nil
  | cons g d h r ih =>
    intro cs p
    cases p with
    | cons q p => exact .cons ⟨g, d, q.2, q.1⟩ (ih p) h
section
variable {X : Cx} {e : Expr} {me : Em} {p pos : Pos} {tE tO : List (Str × Bool)} {tB : List (String × Bool)}
theorem ex_isK {y : Str} {py : Pos} (hi : X.mg "isinstance" = none) (k : KT1 X.K X.mg y tE tO tB) (he : Ex X e me) (gy : Gl X y := by rfl) (dy : (y == ("__debug__" : Str)) = false := by decide) (hg : Gl X "isinstance" := by rfl)
    (h1 : starEach [e, .Name y py] X.env = (false, eval e X.env) :: starEach [.Name y py] X.env := by rfl) (h2 : starEach [.Name y py] X.env = (false, eval (.Name y py) X.env) :: starEach [] X.env := by rfl) (hpl : (backTo pos (starEach [.Name y py] X.env)).any (·.1) = false := by rfl) :
    Ex X (.Call (.Name "isinstance" p) [e, .Name y py] [] pos) (mUn (gIs tE tO tB) me) := by
  obtain ⟨cv, q, T⟩ := k
  exact ex_is1 hi ⟨gy, dy, q.2, q.1⟩ T he hg h1 h2 hpl
theorem ex_isN' {es : List Expr} {ys : List Str} {n : Nat} {pt : Pos} (hi : X.mg "isinstance" = none) (L : NamesL X es ys) (hl : ys.length ≤ 100) (k : KTn X.K X.mg ys tE tO tB) (he : Ex X e me) (hg : Gl X "isinstance" := by rfl)
    (h1 : starEach [e, .Tuple es n pt] X.env = (false, eval e X.env) :: starEach [.Tuple es n pt] X.env := by rfl) (h2 : starEach [.Tuple es n pt] X.env = (false, eval (.Tuple es n pt) X.env) :: starEach [] X.env := by rfl) (hpl : (backTo pos (starEach [.Tuple es n pt] X.env)).any (·.1) = false := by rfl) :
    Ex X (.Call (.Name "isinstance" p) [e, .Tuple es n pt] [] pos) (mUn (gIs tE tO tB) me) := by
  obtain ⟨cs, q, T⟩ := k
  exact ex_isT hi (clsL_of L q) (by rw [← Paired.length q]; exact hl) T he hg h1 h2 hpl
end
/-! an argument that is no star -/
theorem st_Name {id p} {r : List Expr} {env : Env} : starEach (.Name id p :: r) env = (false, eval (.Name id p) env) :: starEach r env := rfl
theorem st_Call {f a k p} {r : List Expr} {env : Env} : starEach (.Call f a k p :: r) env = (false, eval (.Call f a k p) env) :: starEach r env := rfl
theorem st_BinOp {a o b p} {r : List Expr} {env : Env} : starEach (.BinOp a o b p :: r) env = (false, eval (.BinOp a o b p) env) :: starEach r env := rfl
theorem st_Constant {c n p} {r : List Expr} {env : Env} : starEach (.Constant c n p :: r) env = (false, eval (.Constant c n p) env) :: starEach r env := rfl
theorem st_Tuple {es n p} {r : List Expr} {env : Env} : starEach (.Tuple es n p :: r) env = (false, eval (.Tuple es n p) env) :: starEach r env := rfl
theorem st_List {es p} {r : List Expr} {env : Env} : starEach (.List es p :: r) env = (false, eval (.List es p) env) :: starEach r env := rfl
theorem st_Subscript {a b p} {r : List Expr} {env : Env} : starEach (.Subscript a b p :: r) env = (false, eval (.Subscript a b p) env) :: starEach r env := rfl
theorem st_Attribute {a n p} {r : List Expr} {env : Env} : starEach (.Attribute a n p :: r) env = (false, eval (.Attribute a n p) env) :: starEach r env := rfl
theorem st_Compare {a o b p} {r : List Expr} {env : Env} : starEach (.Compare a o b p :: r) env = (false, eval (.Compare a o b p) env) :: starEach r env := rfl
theorem st_ListComp {a g s p} {r : List Expr} {env : Env} : starEach (.ListComp a g s p :: r) env = (false, eval (.ListComp a g s p) env) :: starEach r env := rfl
theorem st_IfExp {a b c p} {r : List Expr} {env : Env} : starEach (.IfExp a b c p :: r) env = (false, eval (.IfExp a b c p) env) :: starEach r env := rfl
theorem st_UnaryOp {o a p} {r : List Expr} {env : Env} : starEach (.UnaryOp o a p :: r) env = (false, eval (.UnaryOp o a p) env) :: starEach r env := rfl
theorem st_BoolOp {o a p} {r : List Expr} {env : Env} : starEach (.BoolOp o a p :: r) env = (false, eval (.BoolOp o a p) env) :: starEach r env := rfl
theorem st_Dict {a b p} {r : List Expr} {env : Env} : starEach (.Dict a b p :: r) env = (false, eval (.Dict a b p) env) :: starEach r env := rfl
theorem pl_of {pos : Pos} {l : List (Bool × Sem Value)} (h : l.any (·.1) = false) : (backTo pos l).any (·.1) = false := by
  unfold backTo
  rw [List.any_map]
  exact h
theorem pl_nil {env : Env} : (starEach [] env).any (·.1) = false := rfl
theorem pl_Name {id p} {r : List Expr} {env : Env} (h : (starEach r env).any (·.1) = false) : (starEach (.Name id p :: r) env).any (·.1) = false := by rw [st_Name, List.any_cons, h]; rfl
theorem pl_Call {f a k p} {r : List Expr} {env : Env} (h : (starEach r env).any (·.1) = false) : (starEach (.Call f a k p :: r) env).any (·.1) = false := by rw [st_Call, List.any_cons, h]; rfl
theorem pl_BinOp {a o b p} {r : List Expr} {env : Env} (h : (starEach r env).any (·.1) = false) : (starEach (.BinOp a o b p :: r) env).any (·.1) = false := by rw [st_BinOp, List.any_cons, h]; rfl
theorem pl_Constant {c n p} {r : List Expr} {env : Env} (h : (starEach r env).any (·.1) = false) : (starEach (.Constant c n p :: r) env).any (·.1) = false := by rw [st_Constant, List.any_cons, h]; rfl
theorem pl_Tuple {es n p} {r : List Expr} {env : Env} (h : (starEach r env).any (·.1) = false) : (starEach (.Tuple es n p :: r) env).any (·.1) = false := by rw [st_Tuple, List.any_cons, h]; rfl
theorem pl_List {es p} {r : List Expr} {env : Env} (h : (starEach r env).any (·.1) = false) : (starEach (.List es p :: r) env).any (·.1) = false := by rw [st_List, List.any_cons, h]; rfl
theorem pl_Subscript {a b p} {r : List Expr} {env : Env} (h : (starEach r env).any (·.1) = false) : (starEach (.Subscript a b p :: r) env).any (·.1) = false := by rw [st_Subscript, List.any_cons, h]; rfl
theorem pl_Attribute {a n p} {r : List Expr} {env : Env} (h : (starEach r env).any (·.1) = false) : (starEach (.Attribute a n p :: r) env).any (·.1) = false := by rw [st_Attribute, List.any_cons, h]; rfl
theorem pl_Compare {a o b p} {r : List Expr} {env : Env} (h : (starEach r env).any (·.1) = false) : (starEach (.Compare a o b p :: r) env).any (·.1) = false := by rw [st_Compare, List.any_cons, h]; rfl
theorem pl_ListComp {a g s p} {r : List Expr} {env : Env} (h : (starEach r env).any (·.1) = false) : (starEach (.ListComp a g s p :: r) env).any (·.1) = false := by rw [st_ListComp, List.any_cons, h]; rfl
theorem pl_IfExp {a b c p} {r : List Expr} {env : Env} (h : (starEach r env).any (·.1) = false) : (starEach (.IfExp a b c p :: r) env).any (·.1) = false := by rw [st_IfExp, List.any_cons, h]; rfl
theorem pl_UnaryOp {o a p} {r : List Expr} {env : Env} (h : (starEach r env).any (·.1) = false) : (starEach (.UnaryOp o a p :: r) env).any (·.1) = false := by rw [st_UnaryOp, List.any_cons, h]; rfl
theorem pl_BoolOp {o a p} {r : List Expr} {env : Env} (h : (starEach r env).any (·.1) = false) : (starEach (.BoolOp o a p :: r) env).any (·.1) = false := by rw [st_BoolOp, List.any_cons, h]; rfl
theorem pl_Dict {a b p} {r : List Expr} {env : Env} (h : (starEach r env).any (·.1) = false) : (starEach (.Dict a b p :: r) env).any (·.1) = false := by rw [st_Dict, List.any_cons, h]; rfl
end LH
/-! LHLib: plain laws of the mirrors' words. -/
namespace LH
open PySem PySem.Spec PyProof.Rows L2
/-! ### numbers -/
@[simp] theorem gAdd_int {i j : Int} : gAdd (.int i) (.int j) = some (.fz (.int (i + j))) := rfl
@[simp] theorem gSub_int {i j : Int} : gSub (.int i) (.int j) = some (.fz (.int (i - j))) := rfl
@[simp] theorem gCmpI_int {p : Int → Int → Bool} {i j : Int} : gCmpI p (.int i) (.int j) = some (.fz (.bl (p i j))) := rfl
theorem log2_lt {i : Int} {n : Nat} (h : i.natAbs < 2 ^ n) (hn : 0 < n) : i.natAbs.log2 < n := by
  by_cases h0 : i.natAbs = 0
  · rw [h0]; simpa using hn
  · exact (Nat.log2_lt h0).mpr h
theorem gMul_small {i j : Int} (hi : i.natAbs < 2 ^ 100) (hj : j.natAbs < 2 ^ 100) : gMul (.int i) (.int j) = some (.fz (.int (i * j))) := by
  have h1 := log2_lt hi (by decide)
  have h2 := log2_lt hj (by decide)
  exact if_pos (by omega)
theorem gMod_pos {i j : Int} (h : 0 < j) : gMod (.int i) (.int j) = some (.fz (.int (i % j))) := if_pos h
theorem gFdiv_pos {i j : Int} (h : 0 < j) (h2 : j < 2 ^ 100) : gFdiv (.int i) (.int j) = some (.fz (.int (i / j))) := if_pos ⟨h, Nat.lt_of_lt_of_le (log2_lt (n := 100) (by omega) (by decide)) (by decide)⟩
theorem gNeg_int {i : Int} : gNeg (.int i) = some (.fz (.int (-i))) := rfl
theorem big {n : Nat} (h : n ≤ 16777216) : n ≤ sizeLine := by rw [sizeLine_eq]; exact h
theorem big64 {n : Nat} (h : n ≤ 1000) : n ≤ sizeLine := by rw [sizeLine_eq]; omega
/-! ### places -/
theorem atI_in {α : Type} {xs : List α} {i : Int} (h0 : 0 ≤ i) (h1 : i < xs.length) : ∃ x, atI xs i = some x ∧ x ∈ xs := by
  have hl : i.toNat < xs.length := by omega
  refine ⟨xs[i.toNat], ?_, List.getElem_mem hl⟩
  unfold atI ixN
  simp [h0, h1, hl]
theorem atI_natE {α : Type} {xs : List α} {k : Nat} : atI xs (k : Int) = xs[k]? := by
  unfold atI ixN
  by_cases h : k < xs.length
  · simp [h]
  · have : xs[k]? = none := List.getElem?_eq_none (by omega)
    rw [this]
    simp [h]
theorem ix_int {cells : List Int} {i : Int} (h0 : 0 ≤ i) (h1 : i < cells.length) : ∃ z, gIx (.lst (cells.map D.int)) (.int i) = some (.fz (.int z)) ∧ z ∈ cells := by
  obtain ⟨x, h2, h3⟩ := atI_in (xs := cells.map D.int) h0 (by simpa using h1)
  obtain ⟨z, hz, rfl⟩ := List.mem_map.mp h3
  exact ⟨z, by show (atI (cells.map D.int) i).map Rv.fz = _; rw [h2]; rfl, hz⟩
theorem gIx_lst {xs : List D} {i : Int} : gIx (.lst xs) (.int i) = (atI xs i).map .fz := rfl
theorem gIx_tup {xs : List D} {i : Int} : gIx (.tup xs) (.int i) = (atI xs i).map .fz := rfl
theorem gIx_str {x : Str} {i : Int} (h : x.length ≤ sizeLine) : gIx (.str x) (.int i) = (atI x.cps.toList i).map fun c => .fz (.str ⟨#[c]⟩) := if_pos h
/-! ### lists, texts -/
theorem gLen_lst {xs : List D} : g1 gLen [.lst xs] = some (.fz (.int xs.length)) := rfl
theorem gLen_tup {xs : List D} : g1 gLen [.tup xs] = some (.fz (.int xs.length)) := rfl
theorem gLen_ro {xs : List D} : g1 gLen [.ro xs] = some (.fz (.int xs.length)) := rfl
theorem gLen_str {x : Str} (h : x.length ≤ sizeLine) : g1 gLen [.str x] = some (.fz (.int x.length)) := if_pos h
theorem gAdd_lst {a b : List D} (h : a.length + b.length ≤ sizeLine) : gAdd (.lst a) (.lst b) = some (.nw (.lst (a ++ b))) := if_pos h
theorem gAdd_tup {a b : List D} (h : a.length + b.length ≤ sizeLine) : gAdd (.tup a) (.tup b) = some (.fz (.tup (a ++ b))) := if_pos h
theorem gAdd_str {a b : Str} (h : a.length + b.length ≤ sizeLine) : gAdd (.str a) (.str b) = some (.fz (.str (a ++ b))) := if_pos h
theorem gSl_str {a : Str} {lo hi : Option Int} (h : a.length ≤ sizeLine) : gSl (.str a) lo hi = some (.fz (.str (cutS a lo hi))) := if_pos h
theorem gSl_lst {a : List D} {lo hi : Option Int} : gSl (.lst a) lo hi = some (.nw (.lst (cutL a lo hi))) := rfl
theorem gSl_tup {a : List D} {lo hi : Option Int} : gSl (.tup a) lo hi = some (.fz (.tup (cutL a lo hi))) := rfl
theorem gAppend_ok {a : List D} {y : D} (h : a.length < sizeLine) : gAppend (.lst a) [y] = some (.lst (a ++ [y]), .non) := if_pos h
@[simp] theorem tyD_lst {a : List D} : tyD "list" (.lst a) = true := by simp [tyD]
theorem gList_lst {a : List D} : g1 gList [.lst a] = some (.nw (.lst a)) := rfl
theorem gTuple_lst {a : List D} : g1 gTuple [.lst a] = some (.fz (.tup a)) := rfl
theorem gTuple_tup {a : List D} : g1 gTuple [.tup a] = some (.fz (.tup a)) := rfl
@[simp] theorem truthD_bl {b : Bool} : truthD (.bl b) = some b := rfl
theorem str_beq {x y : Str} : (eqD (.str x) (.str y)) = (x == y) := rfl
theorem gEq_str {x y : Str} : gEq (.str x) (.str y) = some (.fz (.bl (x == y))) := by
  unfold gEq
  split <;> rfl
theorem gNe_str {x y : Str} : gNe (.str x) (.str y) = some (.fz (.bl (!(x == y)))) := by
  unfold gNe
  split <;> rfl
theorem gNe_strS {x : Str} : gNe (.str x) (.str x) = some (.fz (.bl false)) := by rw [gNe_str]; simp
theorem okq_int {i : Int} : okq (.int i) = true := rfl
theorem okq_bl {i : Bool} : okq (.bl i) = true := rfl
theorem okq_non : okq .non = true := rfl
theorem gEq_int {i j : Int} : gEq (.int i) (.int j) = some (.fz (.bl (i == j))) := rfl
theorem gNe_int {i j : Int} : gNe (.int i) (.int j) = some (.fz (.bl (!(i == j)))) := rfl
theorem gInt_bl {b : Bool} : g1 gInt [.bl b] = some (.fz (.int (if b then 1 else 0))) := rfl
theorem gMin_int {i j : Int} : g2 gMin2 [.int i, .int j] = some (.fz (.int (if j < i then j else i))) := rfl
theorem gMax_int {i j : Int} : g2 gMax2 [.int i, .int j] = some (.fz (.int (if j > i then j else i))) := rfl
theorem blsD_map {α : Type} (q : α → Bool) : ∀ xs : List α, blsD (xs.map fun x => D.bl (q x)) = some (xs.map q)
  | [] => rfl
  | x :: xs => by
    show (blsD (xs.map fun x => D.bl (q x))).map (q x :: ·) = _
    rw [blsD_map q xs]; rfl
theorem gAll_map {α : Type} (q : α → Bool) (xs : List α) : g1 gAll [.lst (xs.map fun x => D.bl (q x))] = some (.fz (.bl (xs.all q))) := by
  show (blsD _).map _ = _
  rw [blsD_map]
  simp [List.all_map, Function.comp_def]
theorem gAny_map {α : Type} (q : α → Bool) (xs : List α) : g1 gAny [.lst (xs.map fun x => D.bl (q x))] = some (.fz (.bl (xs.any q))) := by
  show (blsD _).map _ = _
  rw [blsD_map]
  simp [List.any_map, Function.comp_def]
theorem map_length {α β : Type} (f : α → β) (xs : List α) : (xs.map f).length = xs.length := List.length_map ..
theorem filter_true {α : Type} (xs : List α) : xs.filter (fun _ => true) = xs := by simp
/-! ### slices that stay within -/
theorem sIx_to {n d : Nat} {v : Int} (h0 : 0 ≤ v) : HT.sIx n d (some v) = min v.toNat n := by
  show (if v < 0 then _ else _) = _
  rw [if_neg (by omega)]
theorem cutL_to {α : Type} {xs : List α} {v : Int} (h0 : 0 ≤ v) : cutL xs none (some v) = xs.take v.toNat := by
  unfold cutL
  rw [HT.sIx_none, sIx_to h0, List.drop_zero, Nat.sub_zero, ← List.take_eq_take_min]
theorem cutL_from {α : Type} {xs : List α} {v : Int} (h0 : 0 ≤ v) : cutL xs (some v) none = xs.drop v.toNat := by
  unfold cutL
  rw [HT.sIx_none, sIx_to h0]
  by_cases h : v.toNat ≤ xs.length
  · rw [Nat.min_eq_left h, List.take_of_length_le (by simp)]
  · rw [Nat.min_eq_right (by omega), List.drop_of_length_le (Nat.le_refl _), List.drop_of_length_le (by omega), List.take_nil]
theorem cutS_to {x : Str} {v : Int} (h0 : 0 ≤ v) : cutS x none (some v) = ⟨(x.cps.toList.take v.toNat).toArray⟩ := by
  unfold cutS
  have e : x.length = x.cps.toList.length := by simp [Str.length]
  rw [HT.sIx_none, sIx_to h0, List.drop_zero, Nat.sub_zero, e, ← List.take_eq_take_min]
theorem cutS_from {x : Str} {v : Int} (h0 : 0 ≤ v) : cutS x (some v) none = ⟨(x.cps.toList.drop v.toNat).toArray⟩ := by
  unfold cutS
  have e : x.length = x.cps.toList.length := by simp [Str.length]
  rw [HT.sIx_none, sIx_to h0, e]
  by_cases h : v.toNat ≤ x.cps.toList.length
  · rw [Nat.min_eq_left h, List.take_of_length_le (by simp)]
  · rw [Nat.min_eq_right (by omega), List.drop_of_length_le (Nat.le_refl _), List.drop_of_length_le (by omega), List.take_nil]
theorem str_len {x : Str} : x.length = x.cps.toList.length := by simp [Str.length]
theorem len_mk {l : List Nat} : (⟨l.toArray⟩ : Str).length = l.length := by simp [Str.length]
theorem len_app {x y : Str} : (x ++ y).length = x.length + y.length := by
  show (x.cps ++ y.cps).size = _
  rw [Array.size_append]; rfl
theorem tl_app {x y : Str} : (x ++ y).cps.toList = x.cps.toList ++ y.cps.toList := by
  show (x.cps ++ y.cps).toList = _
  simp
/-! ### readings, once more -/
section
variable {c : Cf} {m mo me : Em}
@[simp] theorem wE_pNo {Q : Option Int → Cf → Prop} : wE (pNo c) Q = Q none c := propext Iff.rfl
@[simp] theorem wE_pSome {Q : Option Int → Cf → Prop} : wE (pSome m c) Q = wE (m c) fun r c1 => oE (view c1 r) fun d => match d with | .int i => Q (some i) c1 | _ => False := by
  unfold pSome
  rw [wE_bind]
  congr 1
  funext a c1
  cases view c1 a with
  | none => rfl
  | some d => cases d <;> rfl
@[simp] theorem wE_mSl {lo hi : Cf → Res (Option Int)} {Q : Rv → Cf → Prop} : wE (mSl m lo hi c) Q = wE (m c) fun r c1 => wE (lo c1) fun l c2 => wE (hi c2) fun h c3 => oE (view c3 (settle r)) fun d => oE (gSl d l h) fun r' => Q r' c3 := by
  unfold mSl
  rw [wE_bind, wE_st]
  congr 1
  funext r c1
  rw [wE_bind]
  congr 1
  funext l c2
  rw [wE_bind]
  congr 1
  funext h c3
  cases view c3 (settle r) with
  | none => rfl
  | some d =>
    rw [oE_some]
    dsimp only
    cases gSl d l h <;> rfl
theorem wE_mM1 {g : D → D → Option Rv} {Q : Rv → Cf → Prop} : wE (mM1 g mo me c) Q = wE (mo c) fun ro c1 => oE (view c1 (settle ro)) fun d => match d with | .str _ => wE (me c1) fun re c2 => wE (m2 g (settle ro) (settle re) c2) Q | _ => False := by
  unfold mM1
  rw [wE_bind, wE_st]
  congr 1
  funext r c1
  cases view c1 (settle r) with
  | none => rfl
  | some d => cases d <;> simp
theorem wE_mAnd {ma mb : Em} {Q : Rv → Cf → Prop} : wE (mAnd ma mb c) Q = wE (ma c) fun ra c1 => oE (view c1 ra) fun d => match d with | .bl true => wE (mb c1) Q | .bl false => Q (.fz (.bl false)) c1 | _ => False := by
  unfold mAnd
  rw [wE_bind]
  congr 1
  funext r c1
  cases view c1 r with
  | none => rfl
  | some d => cases d with
    | bl b => cases b <;> rfl
    | _ => rfl
theorem wE_mOr {ma mb : Em} {Q : Rv → Cf → Prop} : wE (mOr ma mb c) Q = wE (ma c) fun ra c1 => oE (view c1 ra) fun d => match d with | .bl false => wE (mb c1) Q | .bl true => Q (.fz (.bl true)) c1 | _ => False := by
  unfold mOr
  rw [wE_bind]
  congr 1
  funext r c1
  cases view c1 r with
  | none => rfl
  | some d => cases d with
    | bl b => cases b <;> rfl
    | _ => rfl
theorem wE_mChain {g g' : D → D → Option Rv} {ma mb mc : Em} {Q : Rv → Cf → Prop} : wE (mChain g g' ma mb mc c) Q = wE (ma c) fun ra c1 => wE (mb c1) fun rb c2 => wE (m2 g (settle ra) (settle rb) c2) fun rk c3 => oE (view c3 rk) fun d => match d with | .bl true => wE (mc c3) fun rc c4 => wE (m2 g' (settle rb) (settle rc) c4) Q | .bl false => Q (.fz (.bl false)) c3 | _ => False := by
  unfold mChain
  rw [wE_bind, wE_st]
  congr 1
  funext ra c1
  rw [wE_bind, wE_st]
  congr 1
  funext rb c2
  rw [wE_bind]
  congr 1
  funext rk c3
  cases view c3 rk with
  | none => rfl
  | some d => cases d with
    | bl b => cases b <;> simp
    | _ => rfl
theorem wE_mDct {Q : Rv → Cf → Prop} : wE (mDct c) Q = Q (.nw (.dct [])) c := propext Iff.rfl
theorem view_exc {n : Str} {x : List (Str × D)} : view c (.fz (.exc n x)) = some (.exc n x) := rfl
/-- a try whose body is known -/
theorem wE_sTry_ok {mb : Sm} {hs : List Hm} {fl : Fl} {c1 : Cf} {Q : Fl → Cf → Prop} (e : mb c = .ok fl c1) (h : Q fl c1) : wE (sTry mb hs c) Q := by
  unfold sTry
  rw [e]
  exact h
theorem wE_sTry_err {mb : Sm} {hs : List Hm} {x : Xc} {c1 : Cf} {Q : Fl → Cf → Prop} (e : mb c = .err x c1) (h : wE (runHs hs x c1) Q) : wE (sTry mb hs c) Q := by
  unfold sTry
  rw [e]
  exact h
end
theorem eq_of {α : Type} {r : Res α} {a : α} {c : Cf} (h : wE r fun x c' => x = a ∧ c' = c) : r = .ok a c := by
  cases r with
  | ok x c' => obtain ⟨rfl, rfl⟩ := h; rfl
  | _ => exact h.elim
theorem frzS_nil {c : Cf} : frzS [] c = c := rfl
theorem frzS_cons {i : Nat} {is : List Nat} {ρ : List Sl} {S : List D} : frzS (i :: is) ⟨ρ, S⟩ = frzS is (match ρ[i]? with | some (.ow d) => ⟨ρ.set i (.fz d), S⟩ | _ => ⟨ρ, S⟩) := rfl
theorem gFz_lt {i : Nat} {d : D} {ρ : List Sl} {S : List D} : gFz i d ⟨ρ, S⟩ = if i < ρ.length then some ⟨ρ.set i (.fz d), S⟩ else none := rfl
theorem gT_tup {gs : List D → Cf → Option Cf} {ds : List D} {c : Cf} : gT gs (.tup ds) c = gs ds c := rfl
theorem gC_cons {g : D → Cf → Option Cf} {gs : List D → Cf → Option Cf} {d : D} {ds : List D} {c : Cf} : gC g gs (d :: ds) c = (g d c).bind fun c1 => gs ds c1 := rfl
theorem gN_nil {c : Cf} : gN [] c = some c := rfl
/-! ### statements one by one, loops -/
theorem wE_seqE {m1 m2 : Sm} {c : Cf} {P : Cf → Prop} {Q : Fl → Cf → Prop} (h : wE (m1 c) fun fl c1 => fl = .nx ∧ P c1) (h2 : ∀ c1, P c1 → wE (m2 c1) Q) : wE (bCons m1 m2 c) Q := by
  rw [wE_bCons]
  refine wE_mono h fun fl c1 ⟨e, hp⟩ => ?_
  subst e
  exact h2 c1 hp
theorem for_E {mi : Cf → Res (List D)} {g : D → Cf → Option Cf} {body : Sm} {c : Cf} {Q : Fl → Cf → Prop} (ds : List D) (I : Nat → Cf → Prop) (R : Rv → Cf → Prop) (hi : wE (mi c) fun ds1 c1 => ds1 = ds ∧ I 0 c1)
    (hs : ∀ i d c, ds[i]? = some d → I i c → oE (g d c) fun c1 => wE (body c1) fun fl c2 => match fl with | .nx => I (i + 1) c2 | .ct => I (i + 1) c2 | .rt r => R r c2 | .bk => False)
    (hn : ∀ c, I ds.length c → Q .nx c) (hr : ∀ r c, R r c → Q (.rt r) c) : wE (sFor mi g body c) Q := by
  rw [wE_for]
  refine wE_mono hi fun ds1 c1 ⟨e, h0⟩ => ?_
  subst e
  refine wE_mono (wE_for_inv (R := R) I (ds := ds1) (k := 0) (c := c1) (fun i d c e hi => ?_) h0) fun fl c' h => ?_
  · have := hs i d c e (by rw [Nat.zero_add] at hi; exact hi)
    rw [Nat.zero_add]
    exact this
  · rcases h with ⟨rfl, h⟩ | ⟨r, rfl, h⟩
    · rw [Nat.zero_add] at h; exact hn c' h
    · exact hr r c' h
/-- a comprehension with one name whose turns change the shared objects alone -/
theorem comp_st {c : Cf} {mi : Cf → Res (List D)} {t : Cf → Res Bool} {j : Nat} {me : Em} {Q : Rv → Cf → Prop} (P : Nat → List D → List D → Prop) (ρ : List Sl) (S : List D) (s0 : Sl) (ds : List D) (hi : wE (mi c) fun ds1 c1 => ds1 = ds ∧ c1 = ⟨ρ, S⟩) (hj : ρ[j]? = some s0) (h0 : ∀ d, s0 ≠ .ow d) (hl : ds.length ≤ sizeLine) (hP : P 0 [] S)
    (hm : ∀ i d acc S', ds[i]? = some d → acc.length ≤ i → P i acc S' → wE (t ⟨ρ.set j (.fz d), S'⟩) fun b c => if b = true then wE (me c) fun r c2 => oE (toVal c2 r) fun p => p.2.ρ = ρ.set j (.fz d) ∧ P (i + 1) (acc ++ [p.1]) p.2.S else c.ρ = ρ.set j (.fz d) ∧ P (i + 1) acc c.S)
    (hQ : ∀ acc S', P ds.length acc S' → acc.length ≤ ds.length → Q (.nw (.lst acc)) ⟨ρ, S'⟩) : wE (mComp [j] mi (gFz j) t me c) Q := by
  have hjl : j < ρ.length := (List.getElem?_eq_some_iff.mp hj).1
  have gd : ρ.getD j .un = s0 := by rw [List.getD_eq_getElem?_getD, hj]; rfl
  rw [wE_mComp]
  refine wE_mono hi fun ds1 c1 ⟨e1, e2⟩ => ?_
  subst e1 e2
  refine ⟨?_, ?_⟩
  · unfold noOw
    simp only [List.all_cons, List.all_nil, Bool.and_true]
    rw [gd]
    cases s0 with
    | ow d => exact absurd rfl (h0 d)
    | _ => rfl
  · have key := comp_inv (g := gFz j) (t := t) (me := me) (vs := [j]) (fun acc rest c => ∃ i x S', rest = ds1.drop i ∧ i ≤ ds1.length ∧ acc.length ≤ i ∧ c = ⟨ρ.set j x, S'⟩ ∧ P i acc S') (fun d rest acc c ⟨i, x, S', e1, hil, e2, e3, e4⟩ => by
      subst e3
      have hlt : i < ds1.length := by
        rcases Nat.lt_or_ge i ds1.length with h | h
        · exact h
        · rw [List.drop_of_length_le h] at e1; cases e1
      have ed : ds1[i]? = some d := by
        rw [List.drop_eq_getElem_cons hlt] at e1
        cases e1
        exact List.getElem?_eq_getElem hlt
      have er : rest = ds1.drop (i + 1) := by
        rw [List.drop_eq_getElem_cons hlt] at e1
        cases e1
        rfl
      have ew : wipeR (ρ.set j x) [j] = ρ.set j .un := by simp [wipeR, List.set_set]
      rw [ew]
      unfold gFz
      rw [if_pos (by simpa using hjl)]
      simp only [oE_some, List.set_set]
      refine wE_mono (hm i d acc S' ed e2 e4) fun b c hb => ?_
      cases b with
      | false =>
        rw [if_neg (by simp)] at hb ⊢
        obtain ⟨hb1, hb2⟩ := hb
        obtain ⟨cr, cs⟩ := c
        have hb1 : cr = _ := hb1
        subst hb1
        exact ⟨i + 1, _, cs, er, hlt, by omega, rfl, hb2⟩
      | true =>
        rw [if_pos rfl] at hb ⊢
        refine wE_mono hb fun r c2 hv => ?_
        cases q : toVal c2 r with
        | none => rw [q] at hv; exact hv.elim
        | some p =>
          rw [q, oE_some] at hv
          obtain ⟨v, pr, ps⟩ := p
          obtain ⟨hv1, hv2⟩ := hv
          have hv1 : pr = _ := hv1
          subst hv1
          rw [oE_some]
          exact ⟨by omega, i + 1, _, ps, er, hlt, by simp; omega, rfl, hv2⟩) (ds := ds1) (acc := []) (c := ⟨ρ, S⟩) ⟨0, s0, S, rfl, Nat.zero_le _, Nat.le_refl _, by
          congr 1
          apply List.ext_getElem?
          intro k
          by_cases hk : k = j
          · subst hk; rw [List.getElem?_set_self hjl, hj]
          · rw [List.getElem?_set_ne (Ne.symm hk)], hP⟩
    cases e : compD (gFz j) t me [j] ds1 [] ⟨ρ, S⟩ with
    | none => rw [e] at key; exact key.elim
    | some q =>
      obtain ⟨acc, c2⟩ := q
      rw [e] at key
      obtain ⟨i, x, S', e1, hil, e2, e3, e4⟩ := key
      have hi2 : i = ds1.length := by
        have := congrArg List.length e1
        simp at this
        omega
      subst hi2
      have e3 : c2 = _ := e3
      subst e3
      have er : restR ρ (ρ.set j x) [j] = ρ := by
        simp only [restR, List.set_set, gd]
        apply List.ext_getElem?
        intro k
        by_cases hk : k = j
        · subst hk; rw [List.getElem?_set_self hjl, hj]
        · rw [List.getElem?_set_ne (Ne.symm hk)]
      show Q (.nw (.lst acc)) ⟨restR ρ (ρ.set j x) [j], S'⟩
      rw [er]
      exact hQ acc S' e4 e2
theorem comp_sd {c : Cf} {mi : Cf → Res (List D)} {t : Cf → Res Bool} {j : Nat} {me : Em} {Q : Rv → Cf → Prop} (ρ : List Sl) (s0 : Sl) (hj : ρ[j]? = some s0) (h0 : ∀ d, s0 ≠ .ow d) (hi : wE (mi c) fun ds c1 => c1.ρ = ρ ∧ ds.length ≤ sizeLine ∧ ∃ P : Nat → List D → List D → Prop, P 0 [] c1.S ∧
      (∀ i d acc S', ds[i]? = some d → acc.length ≤ i → P i acc S' → wE (t ⟨ρ.set j (.fz d), S'⟩) fun b c => if b = true then wE (me c) fun r c2 => oE (toVal c2 r) fun p => p.2.ρ = ρ.set j (.fz d) ∧ P (i + 1) (acc ++ [p.1]) p.2.S else c.ρ = ρ.set j (.fz d) ∧ P (i + 1) acc c.S) ∧
      ∀ acc S', P ds.length acc S' → acc.length ≤ ds.length → Q (.nw (.lst acc)) ⟨ρ, S'⟩) : wE (mComp [j] mi (gFz j) t me c) Q := by
  rw [wE_mComp]
  refine wE_mono hi fun ds c1 ⟨e, hl, P, h1, h2, h3⟩ => ?_
  have := comp_st (mi := fun _ => .ok ds c1) (t := t) (me := me) (c := c1) P ρ c1.S s0 ds ⟨rfl, by obtain ⟨cr, cs⟩ := c1; have e : cr = _ := e; subst e; rfl⟩ hj h0 hl h1 h2 h3
  rw [wE_mComp] at this
  exact this
theorem wE_seqR {m1 m2 : Sm} {c : Cf} {P : Cf → Prop} {Q : Fl → Cf → Prop} (h : wE (m1 c) fun fl c1 => match fl with | .nx => P c1 | fl => Q fl c1) (h2 : ∀ c1, P c1 → wE (m2 c1) Q) : wE (bCons m1 m2 c) Q := by
  rw [wE_bCons]
  refine wE_mono h fun fl c1 hp => ?_
  cases fl with
  | nx => exact h2 c1 hp
  | _ => exact hp
theorem comp_ok {c : Cf} {mi : Cf → Res (List D)} {t : Cf → Res Bool} {j : Nat} {me : Em} (p : D → Bool) (f : D → D) (ρ : List Sl) (S : List D) (s0 : Sl) (ds : List D) {Q : Rv → Cf → Prop} (hi : wE (mi c) fun ds1 c1 => ds1 = ds ∧ c1 = ⟨ρ, S⟩) (hj : ρ[j]? = some s0) (h0 : ∀ d, s0 ≠ .ow d) (hl : ds.length ≤ sizeLine)
    (ht : ∀ d ∈ ds, wE (t ⟨ρ.set j (.fz d), S⟩) fun b c => b = p d ∧ c = ⟨ρ.set j (.fz d), S⟩)
    (hm : ∀ d ∈ ds, p d = true → wE (me ⟨ρ.set j (.fz d), S⟩) fun r c => toVal c r = some (f d, ⟨ρ.set j (.fz d), S⟩))
    (hQ : Q (.nw (.lst ((ds.filter p).map f))) ⟨ρ, S⟩) : wE (mComp [j] mi (gFz j) t me c) Q := by
  rw [wE_mComp]
  refine wE_mono hi fun ds1 c1 ⟨e1, e2⟩ => ?_
  subst e1 e2
  exact comp_pure hj h0 hl ht hm hQ
/-! ### what repr shows -/
structure PP (p : PyData) (w : Nat) : Prop where
  s : p.showable = true
  l : p.leavesShort 13 = true
  d : p.hasDict = false
  w : p.weight ≤ w
structure PPL (p : List PyData) (w : Nat) : Prop where
  s : PyData.showableAll p = true
  l : PyData.leavesShortAll 13 p = true
  d : PyData.hasDictAll p = false
  w : PyData.weightAll p ≤ w
theorem PPL.nil : PPL [] 0 := ⟨rfl, rfl, rfl, by simp [PyData.weightAll]⟩
theorem PPL.cons {x : PyData} {xs : List PyData} {a b : Nat} (h : PP x a) (t : PPL xs b) : PPL (x :: xs) (a + 1 + b) :=
  ⟨by simp [PyData.showableAll, h.s, t.s], by simp [PyData.leavesShortAll, h.l, t.l], by simp [PyData.hasDictAll, h.d, t.d], by have := h.w; have := t.w; simp only [PyData.weightAll]; omega⟩
theorem PPL.tup {xs : List PyData} {b : Nat} (t : PPL xs b) : PP (.tuple xs) b := ⟨by simp [PyData.showable, t.s], by simp [PyData.leavesShort, t.l], by simp [PyData.hasDict, t.d], by simp only [PyData.weight]; exact t.w⟩
theorem PPL.lst {xs : List PyData} {b : Nat} (t : PPL xs b) : PP (.list xs) b := ⟨by simp [PyData.showable, t.s], by simp [PyData.leavesShort, t.l], by simp [PyData.hasDict, t.d], by simp only [PyData.weight]; exact t.w⟩
theorem shown_ok {p : PyData} {w : Nat} (h : PP p w) (hw : w ≤ 2 ^ 20) (hd : p.depth ≤ 64) : shownP p = some p.shown := by
  have hz := PyData.shown_fits (B := 13) (by decide) (by decide) h.l (Nat.le_trans h.w hw)
  unfold shownP
  rw [h.s, h.d]
  simp [hd, hz]
/-- d is shown, of such a weight, so deep -/
structure RD (d : D) (w k : Nat) : Prop where
  ex : ∃ p, toPy d = some p ∧ PP p w ∧ p.depth ≤ k
structure RDL (ds : List D) (w k : Nat) : Prop where
  ex : ∃ ps, toPyL ds = some ps ∧ PPL ps w ∧ PyData.depthAll ps ≤ k
theorem RD.mono {d : D} {w w' k k' : Nat} (h : RD d w k) (hw : w ≤ w') (hk : k ≤ k') : RD d w' k' := by
  obtain ⟨p, h1, h2, h3⟩ := h
  exact ⟨p, h1, ⟨h2.s, h2.l, h2.d, Nat.le_trans h2.w hw⟩, Nat.le_trans h3 hk⟩
theorem RDL.mono {d : List D} {w w' k k' : Nat} (h : RDL d w k) (hw : w ≤ w') (hk : k ≤ k') : RDL d w' k' := by
  obtain ⟨p, h1, h2, h3⟩ := h
  exact ⟨p, h1, ⟨h2.s, h2.l, h2.d, Nat.le_trans h2.w hw⟩, Nat.le_trans h3 hk⟩
theorem RD.non : RD .non 0 0 := ⟨.none, rfl, ⟨rfl, rfl, rfl, Nat.le_refl _⟩, Nat.le_refl _⟩
theorem RD.bl {b : Bool} : RD (.bl b) 0 0 := ⟨.bool b, rfl, ⟨rfl, rfl, rfl, by simp [PyData.weight]⟩, by simp [PyData.depth]⟩
theorem RD.int {n : Int} (h : n.natAbs < 10 ^ 12) : RD (.int n) 40 0 := by
  have h40 : n.natAbs < 2 ^ 40 := Nat.lt_of_lt_of_le h (by decide)
  have hl : n.natAbs.log2 < 40 := log2_lt h40 (by decide)
  refine ⟨.int n, rfl, ⟨?_, ?_, rfl, ?_⟩, by simp [PyData.depth]⟩
  · simp only [PyData.showable, decide_eq_true_eq]; omega
  · simp only [PyData.leavesShort, decide_eq_true_eq]
    exact PyData.shown_int_le h
  · simp only [PyData.weight]
    split <;> omega
theorem RD.str {x : Str} (h : ∀ c ∈ x.cps.toList, c < 1114112) : RD (.str x) x.length 0 := by
  refine ⟨.str x, rfl, ⟨rfl, ?_, rfl, by simp [PyData.weight, Str.length]⟩, by simp [PyData.depth]⟩
  simp only [PyData.leavesShort, List.all_eq_true, decide_eq_true_eq]
  intro c hc
  have := h c hc
  have e : (16 : Nat) ^ 8 = 4294967296 := by decide
  omega
theorem RDL.nil : RDL [] 0 0 := ⟨[], rfl, PPL.nil, by simp [PyData.depthAll]⟩
theorem RDL.cons {d : D} {ds : List D} {a b k : Nat} (h : RD d a k) (t : RDL ds b k) : RDL (d :: ds) (a + 1 + b) k := by
  obtain ⟨p, h1, h2, h3⟩ := h
  obtain ⟨ps, h4, h5, h6⟩ := t
  exact ⟨p :: ps, by unfold toPyL; rw [h1, h4], PPL.cons h2 h5, by unfold PyData.depthAll; omega⟩
theorem RDL.all {w k : Nat} : ∀ {ds : List D}, (∀ d ∈ ds, RD d w k) → RDL ds ((w + 1) * ds.length) k
  | [], _ => RDL.nil.mono (by simp) (Nat.zero_le _)
  | d :: ds, h => (RDL.cons (h d List.mem_cons_self) (RDL.all fun x hx => h x (List.mem_cons_of_mem _ hx))).mono (by rw [List.length_cons, Nat.mul_succ]; omega) (Nat.le_refl _)
theorem RDL.lst {ds : List D} {w k : Nat} (h : RDL ds w k) : RD (.lst ds) w (k + 1) := by
  obtain ⟨p, h1, h2, h3⟩ := h
  exact ⟨.list p, by unfold toPy; rw [h1]; rfl, h2.lst, by unfold PyData.depth; omega⟩
theorem RDL.tup {ds : List D} {w k : Nat} (h : RDL ds w k) : RD (.tup ds) w (k + 1) := by
  obtain ⟨p, h1, h2, h3⟩ := h
  exact ⟨.tuple p, by unfold toPy; rw [h1]; rfl, h2.tup, by unfold PyData.depth; omega⟩
theorem RD.repr {d : D} {w k : Nat} (h : RD d w k) (hw : w ≤ 2 ^ 20) (hk : k ≤ 64) : ∃ t, g1 gRepr [d] = some (.fz (.str t)) := by
  obtain ⟨p, h1, h2, h3⟩ := h
  refine ⟨p.shown, ?_⟩
  show ((toPy d).bind shownP).map (fun t => Rv.fz (.str t)) = _
  rw [h1, Option.bind_some, shown_ok h2 hw (by omega)]
  rfl
theorem rangeD_len {lo : Int} {n : Nat} : (rangeD lo n).length = n := by simp [rangeD]
end LH
/-! LHPen: the pen of the laws. -/
namespace LH
open PySem PySem.Spec PyProof.Rows L2
/-! ### the pen -/
abbrev penKv (cells : List Int) (t r : Int) : List (Key × D) := [(.inr "cells", .lst (cells.map D.int)), (.inr "turn", .int t), (.inr "rest", .int r)]
theorem kx1 : ¬ (("cells" : Str) = "turn") := by decide +kernel
theorem kx2 : ¬ (("cells" : Str) = "rest") := by decide +kernel
theorem kx3 : ¬ (("turn" : Str) = "rest") := by decide +kernel
theorem kx4 : ¬ (("turn" : Str) = "cells") := by decide +kernel
theorem kx5 : ¬ (("rest" : Str) = "cells") := by decide +kernel
theorem kx6 : ¬ (("rest" : Str) = "turn") := by decide +kernel
section
variable {cells : List Int} {t r y : Int}
theorem pen_c : gIx (.dct (penKv cells t r)) (.str "cells") = some (.fz (.lst (cells.map D.int))) := by simp [gIx, keyD, getK]
theorem pen_t : gIx (.dct (penKv cells t r)) (.str "turn") = some (.fz (.int t)) := by simp [gIx, keyD, getK, kx1]
theorem pen_r : gIx (.dct (penKv cells t r)) (.str "rest") = some (.fz (.int r)) := by simp [gIx, keyD, getK, kx2, kx3]
theorem pen_pt : gDput (.dct (penKv cells t r)) (.str "turn") (.int y) = some (.dct (penKv cells y r)) := by
  have : 3 < sizeLine := by rw [sizeLine_eq]; decide
  simp [gDput, keyD, setK, kx1, kx3, kx6, this]
theorem pen_pr : gDput (.dct (penKv cells t r)) (.str "rest") (.int y) = some (.dct (penKv cells t y)) := by
  have : 3 < sizeLine := by rw [sizeLine_eq]; decide
  simp [gDput, keyD, setK, kx2, kx3, this]
end
theorem plnL_ints : ∀ cs : List Int, plnL (cs.map D.int) = true
  | [] => rfl
  | c :: cs => by show (pln (.int c) && plnL (cs.map D.int)) = true; rw [plnL_ints cs]; rfl
theorem depL_ints : ∀ cs : List Int, depL (cs.map D.int) = 0
  | [] => rfl
  | c :: cs => by show max (dep (.int c)) (depL (cs.map D.int)) = 0; rw [depL_ints cs]; rfl
/-- the pen, at its handle -/
structure PenAt (S : List D) (h : Nat) (b : Int) : Prop where
  ex : ∃ cells t r, S[h]? = some (.dct (penKv cells t r)) ∧ cells.length ≤ 63 ∧ 0 ≤ t ∧ t ≤ b ∧ 0 ≤ r
theorem PenAt.mono {S : List D} {h : Nat} {b b' : Int} (p : PenAt S h b) (hb : b ≤ b') : PenAt S h b' := by
  obtain ⟨cells, t, r, h1, h2, h3, h4, h5⟩ := p
  exact ⟨cells, t, r, h1, h2, h3, by omega, h5⟩
theorem prime_ix {i : Int} (h0 : 0 ≤ i) (h1 : i < 5) : ∃ p, gIx (.lst [.int 2147483647, .int 2147483629, .int 2147483587, .int 2147483579, .int 2147483563]) (.int i) = some (.fz (.int p)) ∧ 0 < p ∧ p < 2 ^ 31 := by
  obtain ⟨z, h2, h3⟩ := ix_int (cells := [2147483647, 2147483629, 2147483587, 2147483579, 2147483563]) h0 (by simpa using h1)
  refine ⟨z, h2, ?_⟩
  simp only [List.mem_cons, List.not_mem_nil, or_false] at h3
  omega
theorem gNe_nilI {cells : List Int} : gNe (.lst (cells.map D.int)) (.lst []) = some (.fz (.bl (!cells.isEmpty))) := by
  have h1 : okq (.lst (cells.map D.int)) = true := by
    have e1 : pln (.lst (cells.map D.int)) = plnL (cells.map D.int) := by simp [pln]
    have e2 : dep (.lst (cells.map D.int)) = 1 := by simp [dep, depL_ints]
    unfold okq
    rw [e1, plnL_ints, e2]; rfl
  have h2 : okq (.lst []) = true := by decide
  unfold gNe
  rw [h1, h2]
  cases cells <;> simp [eqD, eqL]
theorem gPow_18 : gPow (.int 10) (.int 18) = some (.fz (.int 1000000000000000000)) := by
  show (if (0 : Int) ≤ 18 ∧ (18 : Int) ≤ 1000000 ∧ (10 : Int).natAbs < 2 ^ 64 then some (Rv.fz (.int (10 ^ (18 : Int).toNat))) else none) = _
  rw [if_pos (by decide)]
  rfl

theorem gSl_63 {ns : List Int} : gSl (.ro (ns.map D.int)) none (some 63) = some (.nw (.lst ((ns.take 63).map D.int))) := by
  show some (Rv.nw (.lst (cutL (ns.map D.int) none (some 63)))) = _
  rw [cutL_to (by decide), ← List.map_take]
  rfl
theorem merge_pen {ns : List Int} : mergeD [((.inr "cells" : Key), D.lst ((ns.take 63).map D.int)), (.inr "turn", .int 0), (.inr "rest", .int 0)] [] = penKv (ns.take 63) 0 0 := by
  simp [mergeD, setK, kx1, kx2, kx3]
end LH
/-! LHList: list(range(..)). -/
namespace LH
open PySem PySem.Spec PyProof.Rows L2
section
variable {X : Cx} {e a b : Expr} {ma mb : Em} {p q pos : Pos}
theorem ex_op2 {w : V → V → Hp → VK → Prop} {g : D → D → Option Rv} (hg : Op2 X w g) (pe : PE X e (fun σ H Q => We X a σ H fun x H1 => We X b σ H1 fun y H2 => w x y H2 Q)) (ha : Ex X a ma) (hb : Ex X b mb) : Ex X e (mBin g ma mb) := by
  refine ⟨fun E η M c σ H s => ?_⟩
  refine Out.bind (R := RVst X.K X.mg) (fun x H1 Q => We X b σ H1 fun y H2 => w x y H2 Q) (out_st (ha E η M c σ H s)) (fun Q hq => pe_we pe hq) fun ro c1 x η1 M1 H1 s1 x1 z1 => ?_
  refine Out.bind (R := RVst X.K X.mg) (fun y H2 Q => w x y H2 Q) (out_st (hb E η1 M1 c1 σ H1 s1)) (fun Q hq => hq) fun re c2 y η2 M2 H2 s2 x2 z2 => ?_
  exact out_m2 (w := w) hg s2 (z1.2.keep x2 z1.1) z2.2
def gListR (x y : D) : Option Rv := match x, y with
  | .int i, .int j => if -(2 ^ 62) ≤ i ∧ i < 2 ^ 62 ∧ -(2 ^ 62) ≤ j ∧ j < 2 ^ 62 ∧ (j - i).toNat ≤ 2 ^ 24 then some (.nw (.lst (rangeD i (j - i).toNat))) else none
  | _, _ => none
theorem repL_rg {K : Fg} {mg : Mg} {η : List Addr} {M : Hp} (i : Int) (n : Nat) : RepL K mg η M ((List.range n).map fun k => V.int (i + (k : Nat))) (rangeD i n) := by
  unfold rangeD
  induction n with
  | zero => exact .nil
  | succ n ih => rw [List.range_succ, List.map_append, List.map_append]; exact ih.append (.cons (.int _) .nil)
theorem ex_listR2 {p2 : Pos} (hc : X.calm = true) (hm : X.mg "range" = none) (hm2 : X.mg "list" = none) (ha : Ex X a ma) (hb : Ex X b mb) (hg : Gl X "range" := by rfl) (hg2 : Gl X "list" := by rfl)
    (na : starEach [a, b] X.env = (false, eval a X.env) :: starEach [b] X.env := by rfl) (nb : starEach [b] X.env = (false, eval b X.env) :: starEach [] X.env := by rfl) (hp : (backTo q (starEach [b] X.env)).any (·.1) = false := by rfl)
    (nc : starEach [.Call (.Name "range" p) [a, b] [] q] X.env = (false, eval (.Call (.Name "range" p) [a, b] [] q) X.env) :: starEach [] X.env := by rfl) :
    Ex X (.Call (.Name "list" p2) [.Call (.Name "range" p) [a, b] [] q] [] pos) (mBin gListR ma mb) := by
  have pe := pe_listRg (p := p2) (pos := pos) hc hg2 hm2 (prg_2 (p := p) (pos := q) hg hm (we_pe (e := a)) (we_pe (e := b)) na nb hp) nc
  refine ex_op2 (w := fun x y H Q => ∃ i j : Int, x = V.int i ∧ y = V.int j ∧ RgOk i j ∧ ∀ q, H q = none → Q (.ref q) (upd H q (.lst (rgV i j)))) (fun E η M c σ H x y dx dy r s h1 h2 e Q hQ => ?_) pe ha hb
  unfold gListR at e
  split at e
  · rename_i i j
    split at e
    · rename_i hr
      cases e
      obtain ⟨r1, r2, r3, r4, r5⟩ := hr
      exact ⟨i, j, h1.int, h2.int, ⟨r1, r2, r3, r4, r5⟩, pst_nw s hQ fun p hp => ⟨_, upd_same, repL_rg i _⟩⟩
    · cases e
  · cases e
end
end LH
/-! LHVals: list(d.values()), dict comprehensions. -/
namespace LH
open PySem PySem.Spec PyProof.Rows L2
section
variable {X : Cx} {o : Expr} {mo : Em} {p pos apos mpos : Pos}
theorem kv_vals {κ : Type} {kvs : List (κ × V)} {vs : List (κ × Value)} (r : KV kvs vs) : Vals (kvs.map (·.2)) (vs.map (·.2)) := by
  unfold KV at r
  induction r with
  | nil => exact .nil
  | cons r t ih => exact .cons r.2 ih
def tListVals (td : L2.TE) : L2.TE := fun σ H Q => td σ H fun x H1 => ∃ a kvs, x = V.ref a ∧ H1 a = some (.dK kvs) ∧ ∀ l, H1 l = none → Q (.ref l) (upd H1 l (.lst (kvs.map (·.2))))
theorem pe_listVals {td : L2.TE} (hc : X.calm = true) (hg : Gl X "list") (hm : X.mg "list" = none) (hd : PE X o td) (hbase : attributeBase o "values" X.env (eval o X.env) = eval o X.env := by rfl) (hline : (apos.endLine == mpos.line) = true := by rfl)
    (hse : starEach [Expr.Call (.Attribute o "values" apos) [] [] mpos] X.env = (false, eval (Expr.Call (.Attribute o "values" apos) [] [] mpos) X.env) :: starEach [] X.env := by rfl) :
    PE X (.Call (.Name "list" p) [.Call (.Attribute o "values" apos) [] [] mpos] [] pos) (tListVals td) := by
  refine ⟨fun pins s σ H Q I h => ?_⟩
  refine Call_ (ld_blt I hg hm boot_list (PyProof.Rows.callWith_type1 (args_cons (wpAny_Call_method0_late hbase hline (thn (hd.run pins s σ H _ I h) fun v s1 ⟨x, H1, I1, r1, a, kvs, ex, ha, q⟩ => ?_)) hse) hse))
  subst ex
  obtain rfl : v = Value.ref a := r1
  obtain ⟨hz, hsys, vs, rel, dof⟩ := dk_of I1.hok ha
  obtain ⟨ep, dat⟩ := dof.dictAt
  have dat' := dat
  obtain ⟨ob, es, ho, ex, hdat, hko, hpr, hnd⟩ := dat'
  refine ⟨"dict", "dict.values", F.plainAttrs_dict, F.slot_dict_values, F.type_dict_values, ⟨ob, ho, ex.1⟩, fun b e => ?_, Calls.callWith_builtin rfl (PySem.evalArgs_none ?_)⟩
  · cases e
    exact ⟨ob, ho, ex.2.1⟩
  refine call_meetsIn F.slot_dict_values ⟨ob, ho, ex.1⟩ F.entry_dict_values (F.args_dict_values_1 _) (meets_dict_values (mixKind X.prog X.w) a hsys) ⟨⟨vs, dof⟩, args_nil ?_⟩
  have k1 : ∀ b u, s1.heap.get? b = some u → (s1.heap.push { cls := .type "dict_values", data := .fields #[.ref a] }).get? b = some u := fun b u e => Heap.get?_push_of_some _ e
  have dat1 : (s1.heap.push { cls := .type "dict_values", data := .fields #[.ref a] }).DictAt (mixKind X.prog X.w) a vs ep := dat.keep k1
  have hl : vs.length = kvs.length := (KV.length rel).symm
  refine PySem.W.kdl_call (PySem.W.kdl_values (knd := mixKind X.prog X.w) (r := s1.heap.objs.size) (d := a) (kvs := vs) (ep := ep)) (I1.ok.hd hc) ⟨⟨_, Heap.get?_push_size _ rfl, rfl, rfl⟩, dat1⟩ (by rw [hl]; exact hz) fun h' tk acc c' hk hL hacc => ?_
  have hv : acc.toList = vs.map (·.2) := PySem.W.kdl_vals_eq acc.toList (by rw [Array.length_toList]; exact hacc.1) fun j v e => hacc.2 j v (by rw [← Array.getElem?_toList]; exact e)
  have I2 : Inv X pins σ H1 { s1 with heap := s1.heap.push { cls := .type "dict_values", data := .fields #[.ref a] } } := I1.kept k1
  refine ⟨.ref (s1.heap.push { cls := .type "dict_values", data := .fields #[.ref a] }).objs.size, _, I2.laid (t' := tk) hk (Nat.le_refl _) (show ObjOk X.prog X.w _ h' _ (.lst (kvs.map (·.2))) from ⟨by rw [List.length_map]; exact hz, acc.toList, c', by rw [hv]; exact kv_vals rel, by rw [Array.toArray_toList]; exact hL⟩), rfl, q _ (I2.hok.fresh (Nat.le_refl _))⟩
theorem ex_op1 {e a : Expr} {ma : Em} {w : V → Hp → VK → Prop} {g : D → Option Rv} (hg : Op1 X w g) (pe : PE X e (fun σ H Q => We X a σ H fun x H1 => w x H1 Q)) (ha : Ex X a ma) : Ex X e (mUn g ma) := by
  refine ⟨fun E η M c σ H s => ?_⟩
  exact Out.bind (fun x H1 Q => w x H1 Q) (ha E η M c σ H s) (fun Q hq => pe_we pe hq) fun ra c1 x η1 M1 H1 s1 x1 z1 => out_m1 hg s1 z1
def gVals : D → Option Rv
  | .dct kvs => some (.nw (.lst (kvs.map (·.2))))
  | _ => none
def wVals (x : V) (H : Hp) (Q : VK) : Prop := ∃ a kvs, x = V.ref a ∧ H a = some (.dK kvs) ∧ ∀ l, H l = none → Q (.ref l) (upd H l (.lst (kvs.map (·.2))))
theorem ex_listVals (hc : X.calm = true) (hm : X.mg "list" = none) (ho : Ex X o mo) (hg : Gl X "list" := by rfl) (hbase : attributeBase o "values" X.env (eval o X.env) = eval o X.env := by rfl) (hline : (apos.endLine == mpos.line) = true := by rfl)
    (hse : starEach [Expr.Call (.Attribute o "values" apos) [] [] mpos] X.env = (false, eval (Expr.Call (.Attribute o "values" apos) [] [] mpos) X.env) :: starEach [] X.env := by rfl) :
    Ex X (.Call (.Name "list" p) [.Call (.Attribute o "values" apos) [] [] mpos] [] pos) (mUn gVals mo) := by
  refine ex_op1 (a := o) (w := wVals) (fun E η M c σ H x dx r s h1 e Q hQ => ?_) (pe_listVals (p := p) (pos := pos) hc hg hm we_pe hbase hline hse) ho
  unfold gVals at e
  split at e
  · cases e
    obtain ⟨a, kvs, rfl, q, hk, hr⟩ := h1.dct s.sub
    exact ⟨a, kvs, rfl, q, pst_nw s hQ fun p hp => ⟨_, upd_same, hr⟩⟩
  · cases e
end
end LH
/-! LHDComp: dict comprehensions. -/
namespace LH
open PySem PySem.Spec PyProof.Rows L2
def RepK (K : Fg) (mg : Mg) (η : List Addr) (M : Hp) (kvs : List (Key × V)) (eds : List (Key × D)) : Prop := kvs.map (·.1) = eds.map (·.1) ∧ RepL K mg η M (kvs.map (·.2)) (eds.map (·.2))
def compDD (g : D → Cf → Option Cf) (t : Cf → Res Bool) (mk me : Em) (vs : List Nat) : List D → List (Key × D) → Cf → Option (List (Key × D) × Cf)
  | [], acc, c => some (acc, c)
  | d :: ds, acc, c => match g d { c with ρ := wipeR c.ρ vs } with
    | none => none
    | some c1 => match t c1 with
      | .ok false c2 => compDD g t mk me vs ds acc c2
      | .ok true c2 => match mk c2 with
        | .ok rk c3 => match view c3 rk with
          | some dk => match keyD dk with
            | some k => match me c3 with
              | .ok r c4 => match toVal c4 r with
                | some (v, c5) => if acc.length < sizeLine then compDD g t mk me vs ds (setK acc k v) c5 else none
                | none => none
              | _ => none
            | none => none
          | none => none
        | _ => none
      | _ => none
def mDComp (vs : List Nat) (mi : Cf → Res (List D)) (g : D → Cf → Option Cf) (t : Cf → Res Bool) (mk me : Em) : Em := fun c => (mi c).bind fun ds c1 =>
  if noOw c1.ρ vs then match compDD g t mk me vs ds [] c1 with
    | some (acc, c2) => .ok (.nw (.dct acc)) { c2 with ρ := restR c1.ρ c2.ρ vs }
    | none => .stuck
  else .stuck
section
variable {X : Cx} {E : En} {η η' : List Addr} {M M' H H' : Hp} {c c' : Cf} {σ σ' : St} {e tg it elt kx : Expr} {es ts ifs : List Expr} {me : Em} {ms : List Em} {pos tpos epos : Pos}
theorem dcomp_core {scope : Scope} {own : List (Str × Nat)} {mi : Cf → Res (List D)} {g : D → Cf → Option Cf} {js : List Nat} {t : Cf → Res Bool} {mk : Em} {tw : VK → Prop}
    (hi : Ix X tg it mi) (hg : ∀ s Hb C cl fp, Tgt (blkC X scope s Hb C cl fp) tg g js) (hj : ∀ j ∈ js, j ∈ own.map (·.2)) (ht : ∀ s Hb C cl fp, Txs (blkC X scope s Hb C cl fp) ifs t)
    (hk : ∀ s Hb C cl fp, Ex (blkC X scope s Hb C cl fp) kx mk) (he : ∀ s Hb C cl fp, Ex (blkC X scope s Hb C cl fp) elt me) (s : SR X.K X.mg E η M c σ H)
    (imp : ∀ Q, tDc (Wi X tg it) (Wgb X scope tg) (Wtb X scope ifs) (Web X scope kx) (Web X scope elt) (own.map (·.2)) σ H Q → tw Q) : Out X (RV X.K X.mg) tw E η M σ (mDComp (own.map (·.2)) mi g t mk me c) := by
  generalize hvs : own.map (·.2) = vs at hj imp
  refine Out.bind (fun (J : It) H1 (Q : VK) => ∀ Dn, H1 Dn = none → ∃ W : Nat → Nat → Hp → Prop, (∃ m, W 0 m (upd H1 Dn (.dK []))) ∧ ∀ i m H, W i m H →
    (J.stop i H ∧ Q (.ref Dn) H) ∨ (J.go i H ∧ ∃ Nx : Hp → Prop, (∀ H', Nx H' → ∃ m', m' < m ∧ W (i + 1) m' H') ∧ ∀ x H', J.yld i H x H' → Wgb X scope tg x (L2.wipe σ vs) H' fun σ2 H2 => L2.wipe σ2 vs = L2.wipe σ vs ∧ Wtb X scope ifs σ2 H2 fun b H3 =>
      if b = true then Web X scope kx σ2 H3 fun y H4 => Web X scope elt σ2 H4 fun z H5 => ∃ kvs k, y = kV k ∧ H5 Dn = some (.dK kvs) ∧ kvs.length < sizeLine ∧ Nx (upd H5 Dn (.dK (putK kvs k z))) else Nx H3)) (hi E η M c σ H s) imp fun ds c1 J η1 M1 H1 s1 x1 j1 => ?_
  cases no : noOw c1.ρ vs with
  | false => trivial
  | true =>
    rw [if_pos rfl]
    cases eF : compDD g t mk me vs ds [] c1 with
    | none => trivial
    | some q =>
      obtain ⟨accF, cF⟩ := q
      refine fun Q hQ Dn hDn => ?_
      have hj1 : JOk X.K X.mg η1 M1 J ds := j1
      obtain ⟨f1, f2, f3, f4⟩ := s1.free hDn
      -- the state ahead of turn i
      refine ⟨fun i m H => m = ds.length - i ∧ i ≤ ds.length ∧ ∃ η M c xs acc, SR X.K X.mg E η M { c with ρ := wipeR c.ρ vs } (L2.wipe σ vs) H ∧ Ext η1 M1 η M ∧ H Dn = some (.dK xs) ∧ RepK X.K X.mg η M xs acc ∧
        M Dn = none ∧ Dn ∉ η ∧ ¬ Own { c with ρ := wipeR c.ρ vs } (L2.wipe σ vs) Dn ∧ compDD g t mk me vs (ds.drop i) acc c = some (accF, cF),
        ⟨_, rfl, Nat.zero_le _, η1, M1, c1, [], [], (s1.wipe vs).alloc hDn,   .refl, upd_same, ⟨rfl, .nil⟩, f1, f3, fun z => ((s1.wipe vs).free hDn).2.2.2 z, eF⟩, ?_⟩
      rintro i m H2 ⟨rfl, hi2, η2, M2, c2, xs, acc, s2, x2, hD2, hr2, hM2, hn2, ho2, e2⟩
      have hsame : Same M1 H2 := x2.m.trans s2.sub
      by_cases hlt : i < ds.length
      · have ed : ds.drop i = ds[i] :: ds.drop (i + 1) := List.drop_eq_getElem_cons hlt
        obtain ⟨q1, q2⟩ := (hj1 i H2 hsame).1 ds[i] (List.getElem?_eq_getElem hlt)
        rw [ed] at e2
        unfold compDD at e2
        refine .inr ⟨q1, fun H' => ∃ η M c xs acc, SR X.K X.mg E η M { c with ρ := wipeR c.ρ vs } (L2.wipe σ vs) H' ∧ Ext η1 M1 η M ∧ H' Dn = some (.dK xs) ∧ RepK X.K X.mg η M xs acc ∧
          M Dn = none ∧ Dn ∉ η ∧ ¬ Own { c with ρ := wipeR c.ρ vs } (L2.wipe σ vs) Dn ∧ compDD g t mk me vs (ds.drop (i + 1)) acc c = some (accF, cF),
          fun H' h => ⟨ds.length - (i + 1), by omega, rfl, hlt, h⟩, fun x H' y => ?_⟩
        cases e3 : g ds[i] { c2 with ρ := wipeR c2.ρ vs } with
        | none => rw [e3] at e2; cases e2
        | some c3 =>
          rw [e3] at e2
          dsimp only at e2
          have t2 := s2.enter
          have item : ∃ M3, SR X.K X.mg ⟨mask { c2 with ρ := wipeR c2.ρ vs } (L2.wipe σ vs) H2, η2, M2⟩ η2 M3 { c2 with ρ := wipeR c2.ρ vs } (L2.wipe σ vs) H' ∧ Ext η2 M2 η2 M3 ∧ Rep X.K X.mg η2 M3 x ds[i] := by
            rcases q2 x H' y with ⟨rfl, r⟩ | ⟨p, ys, ts, hp, rfl, rfl, r, ed'⟩
            · exact ⟨M2, t2, .refl, r.mono x2⟩
            · obtain ⟨g1, g2, g3, g4⟩ := t2.free hp
              obtain ⟨s3, x3⟩ := (t2.alloc (o := .tup ys) hp).freeze g1 g2 g3 g4 upd_same
              exact ⟨_, s3, x3, by rw [ed']; exact .tup upd_same (r.mono (x2.trans x3))⟩
          obtain ⟨M3, s3, x3, r3⟩ := item
          intro bs bH bC bcl bfp
          refine hg bs bH bC bcl bfp _ η2 M3 _ _ H' x ds[i] c3 s3 r3 e3 _ fun σ4 s4 k4 l4 => ?_
          have hw : L2.wipe σ4 vs = L2.wipe σ vs := by
            have h1 : L2.wipe σ4 vs = L2.wipe (L2.wipe σ vs) vs := wipe_eq l4 fun j hjn => k4 j fun z => hjn (hj j z)
            have h2 : L2.wipe (L2.wipe σ vs) vs = L2.wipe σ vs := wipe_eq (wipe_length _ _) fun j hjn => wipe_out hjn
            rw [h1, h2]
          refine ⟨hw, fun ts tH tC tcl tfp => ?_⟩
          -- the end of a turn
          have fin : ∀ {η5 : List Addr} {M5 H5 : Hp} {c5 : Cf}, SR X.K X.mg ⟨mask { c2 with ρ := wipeR c2.ρ vs } (L2.wipe σ vs) H2, η2, M2⟩ η5 M5 c5 σ4 H5 → Ext η2 M2 η5 M5 →
              SR X.K X.mg E η5 M5 { c5 with ρ := wipeR c5.ρ vs } (L2.wipe σ vs) H5 ∧ H5 Dn = some (.dK xs) ∧ M5 Dn = none ∧ Dn ∉ η5 ∧ ¬ Own { c5 with ρ := wipeR c5.ρ vs } (L2.wipe σ vs) Dn := fun {η5 M5 H5 c5} s5 x5 => by
            obtain ⟨s6, fr⟩ := s2.leave s5
            obtain ⟨k1, k2⟩ := SR.leave_own s5 hD2 hn2 ho2
            have s7 := s6.wipe vs
            rw [hw] at s7
            refine ⟨s7, fr.h Dn _ hD2 hn2 ho2, fr.m Dn _ hD2 ho2 hM2, k2, fun ⟨j, d, o1, o2⟩ => ?_⟩
            rcases wipeR_get o1 with ⟨_, z⟩ | ⟨z1, z2⟩
            · cases z
            · rw [← hw, wipe_out z1] at o2
              exact k1 ⟨j, d, z2, o2⟩
          have o := ht ts tH tC tcl tfp _ η2 M3 c3 σ4 H' s4
          cases e4 : t c3 with
          | stuck => rw [e4] at e2; cases e2
          | err w c4 => rw [e4] at e2; cases e2
          | ok b c4 =>
            rw [e4] at e2 o
            refine o _ fun b' η5 M5 H5 s5 x5 z5 => ?_
            cases z5
            cases b with
            | false =>
              rw [if_neg Bool.false_ne_true]
              obtain ⟨g1, g2, g3, g4, g5⟩ := fin s5 (x3.trans x5)
              exact ⟨η5, M5, c4, xs, acc, g1, x2.trans (x3.trans x5), g2, ⟨hr2.1, hr2.2.mono (x3.trans x5)⟩, g3, g4, g5, e2⟩
            | true =>
              rw [if_pos rfl]
              intro es eH eC ecl efp
              have ok := hk es eH eC ecl efp _ η5 M5 c4 σ4 H5 s5
              dsimp only at e2
              cases e8 : mk c4 with
              | stuck => rw [e8] at e2; cases e2
              | err w c6 => rw [e8] at e2; cases e2
              | ok rk c8 =>
                rw [e8] at e2 ok
                dsimp only at e2
                cases e9 : view c8 rk with
                | none => rw [e9] at e2; cases e2
                | some dk =>
                  rw [e9] at e2
                  dsimp only at e2
                  cases e10 : keyD dk with
                  | none => rw [e10] at e2; cases e2
                  | some k =>
                    rw [e10] at e2
                    dsimp only at e2
                    refine ok _ fun vk η8 M8 H8 s8 x8 z8 => ?_
                    have ek : vk = kV k := rep_key (view_ok s8 z8 e9) e10
                    intro fs fH fC fcl ffp
                    have oe := he fs fH fC fcl ffp _ η8 M8 c8 σ4 H8 s8
                    cases e6 : me c8 with
                    | stuck => rw [e6] at e2; cases e2
                    | err w c6 => rw [e6] at e2; cases e2
                    | ok r c6 =>
                      rw [e6] at e2 oe
                      dsimp only at e2
                      cases e7 : toVal c6 r with
                      | none => rw [e7] at e2; cases e2
                      | some pq =>
                        obtain ⟨d7, c7⟩ := pq
                        rw [e7] at e2
                        dsimp only at e2
                        by_cases hz : acc.length < sizeLine
                        · rw [if_pos hz] at e2
                          refine oe _ fun v η6 M6 H6 s6 x6 z6 => ?_
                          obtain ⟨M7, s7, x7, r7⟩ := toVal_ok s6 z6 e7
                          have xx := x3.trans (x5.trans (x8.trans (x6.trans x7)))
                          obtain ⟨g1, g2, g3, g4, g5⟩ := fin s7 xx
                          have hl : xs.length = acc.length := by have := congrArg List.length hr2.1; simpa using this
                          have hr3 := rep_setK (k := k) r7 hr2.1 (hr2.2.mono xx)
                          refine ⟨xs, k, ek, g2, by rw [hl]; exact hz, η6, M7, c7, putK xs k v, setK acc k d7, ?_, x2.trans xx, upd_same, hr3, g3, g4, g5, e2⟩
                          exact g1.writeTmp g3 f2 g4 g5
                        · rw [if_neg hz] at e2; cases e2
      · have e : i = ds.length := by omega
        subst e
        rw [List.drop_length] at e2
        cases e2
        refine .inl ⟨(hj1 _ H2 hsame).2 (Nat.le_refl _), hQ _ η2 M2 H2 (s1.restore x2 no s2) x2 ⟨Dn, rfl, hM2, f2, hn2, fun ⟨j, d, o1, o2⟩ => ?_, xs, hD2, hr2⟩⟩
        rcases restR_get o1 with ⟨z1, z2⟩ | ⟨z1, z2⟩
        · have := List.all_eq_true.mp no j z1
          rw [← z2] at this; cases this
        · refine ho2 ⟨j, d, ?_, by rw [wipe_out z1]; exact o2⟩
          have hl : j < (wipeR cF.ρ vs).length := by rw [wipeR_length]; exact (List.getElem?_eq_some_iff.mp z2).1
          rcases wipeR_get (List.getElem?_eq_getElem hl) with ⟨h, _⟩ | ⟨_, h⟩
          · exact absurd h z1
          · show (wipeR cF.ρ vs)[j]? = _
            rw [List.getElem?_eq_getElem hl]
            rw [z2] at h
            exact h.symm
theorem ex_dcomp {scope : Scope} (own : List (Str × Nat)) {mi : Cf → Res (List D)} {g : D → Cf → Option Cf} {js : List Nat} {t : Cf → Res Bool} {mk : Em} (hc : X.calm = true) (hN : X.N.Nodup) (ok : BlkOk X.N X.env.scope scope own)
    (hi : Ix X tg it mi) (hg : ∀ s Hb C cl fp, Tgt (blkC X scope s Hb C cl fp) tg g js) (ht : ∀ s Hb C cl fp, Txs (blkC X scope s Hb C cl fp) ifs t) (hk : ∀ s Hb C cl fp, Ex (blkC X scope s Hb C cl fp) kx mk) (he : ∀ s Hb C cl fp, Ex (blkC X scope s Hb C cl fp) elt me)
    (hj : ∀ j ∈ js, j ∈ own.map (·.2) := by decide) (hs : ∀ x, foldedSetIterable it X.env x = pure x := by intro _; rfl) : Ex X (.DictComp kx elt [⟨tg, it, ifs, 0⟩] scope pos) (mDComp (own.map (·.2)) mi g t mk me) := by
  refine ⟨fun E η M c σ H s => ?_⟩
  refine dcomp_core hi hg hj ht hk he s fun Q hq => pe_we (pe_dc hc hN wi_pi ok (fun s H C cl fp => ⟨fun pins st σ H v u Q I r h => h s _ C cl fp pins st u I r⟩) (fun s H C cl fp => ⟨fun pins st σ H Q I h => h s _ C cl fp pins st I⟩) (fun s H C cl fp => ⟨fun pins st σ H Q I h => h s _ C cl fp pins st I⟩) (fun s H C cl fp => ⟨fun pins st σ H Q I h => h s _ C cl fp pins st I⟩) hs) hq
end
end LH
/-! LHSortD: sorted of a dict with texts as keys. -/
namespace LH
open PySem PySem.Spec PyProof.Rows L2
def leS (x y : Str) : Bool := decide (x.cps.toList ≤ y.cps.toList)
def sortS (ks : List Str) : List Str := ks.mergeSort leS
theorem leS_trans (x y z : Str) (h1 : leS x y = true) (h2 : leS y z = true) : leS x z = true := by
  unfold leS at *
  rw [decide_eq_true_eq] at *
  exact List.le_trans h1 h2
theorem leS_total (x y : Str) : (leS x y || leS y x) = true := by
  unfold leS
  rw [Bool.or_eq_true, decide_eq_true_eq, decide_eq_true_eq]
  exact List.le_total _ _
theorem leS_anti {x y : Str} (h1 : leS x y = true) (h2 : leS y x = true) : x = y := by
  unfold leS at *
  rw [decide_eq_true_eq] at *
  exact TL.ext_tl (List.le_antisymm h1 h2)
theorem perm_uniq : ∀ {l1 l2 : List Str}, l1.Perm l2 → l1.Pairwise (fun x y => leS x y = true) → l2.Pairwise (fun x y => leS x y = true) → l1 = l2
  | [], l2, hp, _, _ => by rw [List.nil_perm.mp hp]
  | a :: l1, [], hp, _, _ => by cases hp.eq_nil
  | a :: l1, b :: l2, hp, h1, h2 => by
    have e : a = b := by
      rw [List.pairwise_cons] at h1 h2
      have ha : a ∈ b :: l2 := hp.subset List.mem_cons_self
      have hb : b ∈ a :: l1 := hp.symm.subset List.mem_cons_self
      rcases List.mem_cons.mp ha with e | ha
      · exact e
      · rcases List.mem_cons.mp hb with e | hb
        · exact e.symm
        · exact leS_anti (h1.1 b hb) (h2.1 a ha)
    subst e
    rw [perm_uniq (List.Perm.cons_inv hp) (List.Pairwise.of_cons h1) (List.Pairwise.of_cons h2)]
theorem ltCps_lt : ∀ (a b : List Nat), a < b → ltCps a b = true
  | [], [], h => absurd h (List.lt_irrefl _)
  | [], _ :: _, _ => rfl
  | _ :: _, [], h => absurd h (List.not_lt_nil _)
  | a :: r, b :: t, h => by
    show (a < b || (a == b && ltCps r t)) = true
    rcases List.cons_lt_cons_iff.mp h with h | ⟨h, h2⟩
    · simp [h]
    · subst h
      simp [ltCps_lt r t h2]
theorem rising_pw : ∀ (r : List Str) (p : Str), risingS p r = true → (p :: r).Pairwise (fun x y => leS x y = true)
  | [], p, _ => by simp
  | x :: r, p, h => by
    have h : (!ltCps x.cps.toList p.cps.toList && risingS x r) = true := h
    rw [Bool.and_eq_true] at h
    have ih := rising_pw r x h.2
    have hx : leS p x = true := by
      unfold leS
      rw [decide_eq_true_eq]
      intro z
      have h1 := h.1
      have := ltCps_lt _ _ z
      rw [this] at h1
      cases h1
    rw [List.pairwise_cons]
    refine ⟨fun y hy => ?_, ih⟩
    rcases List.mem_cons.mp hy with rfl | hy
    · exact hx
    · exact leS_trans _ _ _ hx ((List.pairwise_cons.mp ih).1 y hy)
theorem sortedS_pw {ys : List Str} (h : sortedS ys = true) : ys.Pairwise (fun x y => leS x y = true) := by
  cases ys with
  | nil => exact .nil
  | cons x r => exact rising_pw r x h
theorem sortS_pw (ks : List Str) : (sortS ks).Pairwise (fun x y => leS x y = true) := List.pairwise_mergeSort leS_trans leS_total ks
theorem sortS_perm (ks : List Str) : (sortS ks).Perm ks := List.mergeSort_perm ks leS
theorem sortS_uniq {ys ks : List Str} (hp : ys.Perm ks) (hs : sortedS ys = true) : ys = sortS ks := perm_uniq (hp.trans (sortS_perm ks).symm) (sortedS_pw hs) (sortS_pw ks)
theorem sortS_self {ys : List Str} (h : ys.Pairwise (fun x y => leS x y = true)) : sortS ys = ys := perm_uniq (sortS_perm ys) (sortS_pw ys) h
def strKs : List (Key × D) → Option (List Str)
  | [] => some []
  | (.inr x, _) :: r => (strKs r).map (x :: ·)
  | (.inl _, _) :: _ => none
theorem strKs_map : ∀ {kvs : List (Key × D)} {ks : List Str}, strKs kvs = some ks → kvs.map (·.1) = ks.map Sum.inr
  | [], ks, h => by cases h; rfl
  | (.inr x, _) :: r, ks, h => by
    have h : (strKs r).map (x :: ·) = some ks := h
    obtain ⟨ks', h1, rfl⟩ := Option.map_eq_some_iff.mp h
    simp only [List.map_cons, strKs_map h1]
  | (.inl _, _) :: _, _, h => by cases h
def gSortedK (d : D) : Option Rv := match d with
  | .dct kvs => (strKs kvs).bind fun ks => if ks.length < 64 then some (.nw (.lst ((sortS ks).map D.str))) else none
  | d => gSorted d
theorem repL_strs2 {K : Fg} {mg : Mg} {η : List Addr} {M : Hp} : ∀ ys : List Str, RepL K mg η M (ys.map V.str) (ys.map D.str)
  | [] => .nil
  | y :: ys => .cons (.str y) (repL_strs2 ys)
theorem c_sortedK {X : Cx} (hc : X.calm = true) (hu : X.A.units + 70 < cLine) : OpN X (Wc X (.builtin "sorted")) (g1 gSortedK) := by
  refine opN1 fun E η M c σ H x dx r s h1 e Q hQ => ?_
  unfold gSortedK at e
  split at e
  · rename_i kvs
    obtain ⟨ks, e1, e2⟩ := Option.bind_eq_some_iff.mp e
    split at e2
    · rename_i hl
      cases e2
      obtain ⟨a, kv, rfl, q, hk, hr⟩ := h1.dct s.sub
      refine call_wc (L2.call_sortedD hc) ⟨a, kv, ks, rfl, .of q, by rw [hk]; exact strKs_map e1, hl, fun ys p hp hs hH => ?_⟩
      rw [sortS_uniq hp hs]
      exact pst_nw s hQ (fun p hp => ⟨_, upd_same, repL_strs2 _⟩) p hH
    · cases e2
  · have h := c_sorted (X := X) hu
    exact (h E η M c σ H [x] [dx] r s (.cons h1 .nil) e Q hQ)
end LH
/-! LHLib2: readings of objects, dict comprehensions, sorted. -/
namespace LH
open PySem PySem.Spec PyProof.Rows L2
section
variable {c : Cf}
theorem wE_sFldS {g : D → D → Option D} {mv mo : Em} {Q : Fl → Cf → Prop} : wE (sFldS g mv mo c) Q = wE (mv c) fun rv c1 => wE (mo c1) fun ro c2 => oE (toVal c2 (settle rv)) fun p => oE (cont p.2 (settle ro)) fun d => oE (g d p.1) fun d' => oE (putB p.2 (settle ro) d') fun c4 => Q .nx c4 := by
  unfold sFldS
  rw [wE_bind, wE_st]
  congr 1
  funext rv c1
  rw [wE_bind, wE_st]
  congr 1
  funext ro c2
  cases toVal c2 (settle rv) with
  | none => rfl
  | some p =>
    obtain ⟨dv, c3⟩ := p
    simp only [oE_some]
    cases cont c3 (settle ro) with
    | none => rfl
    | some d =>
      simp only [oE_some]
      cases g d dv with
      | none => rfl
      | some d' =>
        simp only [oE_some]
        cases putB c3 (settle ro) d' <;> rfl
theorem wE_mMeth {cn m : Str} {n : Nat} {F : Fm} {mo : Em} {ms : Cf → Res (List Rv)} {Q : Rv → Cf → Prop} : wE (mMeth cn m n F mo ms c) Q = wE (mo c) fun ro c1 => oE (view c1 (settle ro)) fun d => match d with
    | .obj c' fds => (c' = cn ∧ fds.lookup m = none) ∧ wE (ms c1) fun rs c2 => oE (vals c2 (settle ro :: rs)) fun p => p.1.length = n ∧ wE (F p.1 p.2.S) fun r c4 => Q r ⟨p.2.ρ, c4.S⟩
    | _ => False := by
  unfold mMeth
  rw [wE_bind, wE_st]
  congr 1
  funext ro c1
  cases view c1 (settle ro) with
  | none => rfl
  | some d =>
    cases d with
    | obj c' fds =>
      simp only [oE_some]
      by_cases h : c' = cn ∧ fds.lookup m = none
      · rw [if_pos h, wE_bind]
        simp only [h, and_self, true_and]
        congr 1
        funext rs c2
        cases vals c2 (settle ro :: rs) with
        | none => rfl
        | some p =>
          obtain ⟨ds, c3⟩ := p
          simp only [oE_some]
          by_cases hl : ds.length = n
          · rw [if_pos hl]
            simp only [hl, true_and]
            cases F ds c3.S <;> rfl
          · rw [if_neg hl]
            simp [hl, wE]
      · rw [if_neg h]
        refine propext ⟨fun z => z.elim, fun z => absurd z.1 h⟩
    | _ => rfl
theorem wE_mMake {cn : Str} {n : Nat} {F : Fm} {ms : Cf → Res (List Rv)} {Q : Rv → Cf → Prop} : wE (mMake cn n F ms c) Q = wE (ms c) fun rs c1 => oE (vals c1 rs) fun p => p.1.length + 1 = n ∧ wE (mkRes cn F p.1 p.2) Q := by
  unfold mMake
  rw [wE_bind]
  congr 1
  funext rs c1
  cases vals c1 rs with
  | none => rfl
  | some p =>
    obtain ⟨ds, c2⟩ := p
    simp only [oE_some]
    by_cases hl : ds.length + 1 = n
    · rw [if_pos hl]; simp only [hl, true_and]
    · rw [if_neg hl]; simp [hl, wE]
theorem wE_mDComp {vs : List Nat} {mi : Cf → Res (List D)} {g : D → Cf → Option Cf} {t : Cf → Res Bool} {mk me : Em} {Q : Rv → Cf → Prop} : wE (mDComp vs mi g t mk me c) Q = wE (mi c) fun ds c1 => noOw c1.ρ vs = true ∧ oE (compDD g t mk me vs ds [] c1) fun p => Q (.nw (.dct p.1)) { p.2 with ρ := restR c1.ρ p.2.ρ vs } := by
  unfold mDComp
  rw [wE_bind]
  congr 1
  funext ds c1
  rw [wE_ite]
  by_cases h : noOw c1.ρ vs = true
  · rw [if_pos h]
    cases compDD g t mk me vs ds [] c1 <;> simp [h]
  · rw [if_neg h]; simp [h]
end
theorem mkRes_ok {cn : Str} {F : Fm} {ds : List D} {c : Cf} {d : D} (h : F (.hdl c.S.length :: ds) (c.S ++ [.obj cn []]) = .ok (.fz .non) ⟨[], c.S ++ [d]⟩) (hS : c.S.all (noH c.S.length) = true) (hd : noH c.S.length d = true) : mkRes cn F ds c = .ok (.nw d) c := by
  unfold mkRes
  rw [h]
  have e1 : (c.S ++ [d]).length = c.S.length + 1 := by simp
  have e2 : (c.S ++ [d]).all (noH c.S.length) = true := by rw [List.all_append, hS]; simp [hd]
  have e3 : (c.S ++ [d])[c.S.length]? = some d := by simp
  dsimp only
  rw [if_pos ⟨e1, e2⟩, e3, List.take_left]
theorem app_get {S : List D} {x : D} : (S ++ [x])[S.length]? = some x := by simp
theorem app_set {S : List D} {x y : D} : (S ++ [x]).set S.length y = S ++ [y] := by simp
theorem setK_new {κ : Type} [DecidableEq κ] {kvs : List (κ × D)} {k : κ} {d : D} (h : k ∉ kvs.map (·.1)) : setK kvs k d = kvs ++ [(k, d)] := by
  unfold setK
  rw [if_neg]
  intro z
  rw [List.any_eq_true] at z
  obtain ⟨p, hp, e⟩ := z
  exact h (List.mem_map.mpr ⟨p, hp, by simpa using e⟩)
/-- a dict comprehension with one name, nothing changed, its keys distinct -/
theorem dcomp_ok {c : Cf} {mi : Cf → Res (List D)} {j : Nat} {mk me : Em} (k : D → Key) (f : D → D) (ρ : List Sl) (S : List D) (s0 : Sl) (ds : List D) {Q : Rv → Cf → Prop} (hi : wE (mi c) fun ds1 c1 => ds1 = ds ∧ c1 = ⟨ρ, S⟩) (hj : ρ[j]? = some s0) (h0 : ∀ d, s0 ≠ .ow d) (hl : ds.length ≤ sizeLine)
    (hk : ∀ d ∈ ds, wE (mk ⟨ρ.set j (.fz d), S⟩) fun r c => c = ⟨ρ.set j (.fz d), S⟩ ∧ (view c r).bind keyD = some (k d))
    (hm : ∀ d ∈ ds, wE (me ⟨ρ.set j (.fz d), S⟩) fun r c => toVal c r = some (f d, ⟨ρ.set j (.fz d), S⟩))
    (hn : (ds.map k).Nodup) (hQ : Q (.nw (.dct (ds.map fun d => (k d, f d)))) ⟨ρ, S⟩) : wE (mDComp [j] mi (gFz j) tmYes mk me c) Q := by
  have hjl : j < ρ.length := (List.getElem?_eq_some_iff.mp hj).1
  have gd : ρ.getD j .un = s0 := by rw [List.getD_eq_getElem?_getD, hj]; rfl
  rw [wE_mDComp]
  refine wE_mono hi fun ds1 c1 ⟨e1, e2⟩ => ?_
  subst e1 e2
  have nw : noOw ρ [j] = true := by
    unfold noOw
    simp only [List.all_cons, List.all_nil, Bool.and_true]
    rw [gd]
    cases s0 with
    | ow d => exact absurd rfl (h0 d)
    | _ => rfl
  refine ⟨nw, ?_⟩
  have key : ∀ (rest done : List D) (x : Sl), done ++ rest = ds1 → ∃ y, compDD (gFz j) tmYes mk me [j] rest (done.map fun d => (k d, f d)) ⟨ρ.set j x, S⟩ = some (ds1.map fun d => (k d, f d), ⟨ρ.set j y, S⟩) := by
    intro rest
    induction rest with
    | nil => intro done x e; rw [List.append_nil] at e; subst e; exact ⟨x, rfl⟩
    | cons d rest ih =>
      intro done x e
      have hd : d ∈ ds1 := by rw [← e]; simp
      have ew : wipeR (ρ.set j x) [j] = ρ.set j .un := by simp [wipeR, List.set_set]
      have eg : gFz j d ⟨ρ.set j .un, S⟩ = some ⟨ρ.set j (.fz d), S⟩ := by
        unfold gFz
        rw [if_pos (by simpa using hjl), List.set_set]
      have kk := hk d hd
      have mm := hm d hd
      unfold compDD
      dsimp only
      rw [ew, eg]
      dsimp only [tmYes]
      cases e3 : mk ⟨ρ.set j (.fz d), S⟩ with
      | stuck => rw [e3] at kk; exact kk.elim
      | err y c => rw [e3] at kk; exact kk.elim
      | ok r c =>
        rw [e3] at kk
        obtain ⟨rfl, kk⟩ := kk
        obtain ⟨dk, v1, v2⟩ := Option.bind_eq_some_iff.mp kk
        dsimp only
        rw [v1]
        dsimp only
        rw [v2]
        dsimp only
        cases e4 : me ⟨ρ.set j (.fz d), S⟩ with
        | stuck => rw [e4] at mm; exact mm.elim
        | err y c => rw [e4] at mm; exact mm.elim
        | ok r4 c4 =>
          rw [e4] at mm
          have mm : toVal c4 r4 = _ := mm
          dsimp only
          rw [mm]
          dsimp only
          have hlt : (done.map fun d => (k d, f d)).length < sizeLine := by
            rw [List.length_map]
            have : ds1.length = done.length + (rest.length + 1) := by rw [← e]; simp
            omega
          rw [if_pos hlt, setK_new]
          · have := ih (done ++ [d]) (.fz d) (by rw [← e]; simp)
            rw [List.map_append] at this
            exact this
          · rw [List.map_map]
            intro z
            have e5 : ds1.map k = done.map k ++ (k d :: rest.map k) := by rw [← e]; simp
            rw [e5, List.nodup_append] at hn
            obtain ⟨p, hp, hp2⟩ := List.mem_map.mp z
            exact hn.2.2 (k d) (List.mem_map.mpr ⟨p, hp, hp2⟩) (k d) List.mem_cons_self rfl
  have e0 : (⟨ρ, S⟩ : Cf) = ⟨ρ.set j s0, S⟩ := by
    congr 1
    apply List.ext_getElem?
    intro i
    by_cases hi : i = j
    · subst hi; rw [List.getElem?_set_self hjl, hj]
    · rw [List.getElem?_set_ne (Ne.symm hi)]
  obtain ⟨y, hy⟩ := key ds1 [] s0 rfl
  rw [← e0] at hy
  have hy' : compDD (gFz j) tmYes mk me [j] ds1 [] ⟨ρ, S⟩ = _ := hy
  rw [hy', oE_some]
  have er : restR ρ (ρ.set j y) [j] = ρ := by
    simp only [restR, List.set_set, gd]
    apply List.ext_getElem?
    intro i
    by_cases hi : i = j
    · subst hi; rw [List.getElem?_set_self hjl, hj]
    · rw [List.getElem?_set_ne (Ne.symm hi)]
  show Q (.nw (.dct (ds1.map fun d => (k d, f d)))) ⟨restR ρ (ρ.set j y) [j], S⟩
  rw [er]
  exact hQ
/-! ### sorted -/
theorem gSorted_id {ds : List D} (h : okSort ds = true) (hp : ds.Pairwise (fun a b => PySem.W.dataLe false encD a b = true)) : g1 gSorted [.lst ds] = some (.nw (.lst ds)) := by
  show (sortD ds).map _ = _
  unfold sortD
  rw [if_pos h, List.mergeSort_of_pairwise hp]
  rfl
theorem dle_str {x y : Str} : PySem.W.dataLe false encD (.str x) (.str y) = leS x y := by
  rw [PySem.W.dataLe_eq]
  show (!PySem.W.dataLt (.str y) (.str x)) = _
  rw [PySem.W.dataLt_str]
  unfold leS
  rw [← decide_not]
  rfl
theorem okSort_strs (xs : List Str) : okSort (xs.map D.str) = true := by
  unfold okSort
  simp only [Bool.and_eq_true, List.all_eq_true]
  refine ⟨fun d hd => ?_, fun d hd d' hd' => ?_⟩
  · obtain ⟨x, _, rfl⟩ := List.mem_map.mp hd
    simp [encD, toPy, notNon, PyData.depth]
  · obtain ⟨x, _, rfl⟩ := List.mem_map.mp hd
    obtain ⟨y, _, rfl⟩ := List.mem_map.mp hd'
    simp [encD, toPy, PySem.W.alike]
theorem sorted_strs_id {xs : List Str} (h : xs.Pairwise (fun x y => leS x y = true)) : g1 gSorted [.lst (xs.map D.str)] = some (.nw (.lst (xs.map D.str))) :=
  gSorted_id (okSort_strs xs) (List.pairwise_map.mpr (h.imp fun {x y} hxy => by rw [dle_str]; exact hxy))
theorem mergeSort_map {α β : Type} {f : α → β} {r : α → α → Bool} {s : β → β → Bool} (h : ∀ a b, s (f a) (f b) = r a b) (xs : List α) : (xs.map f).mergeSort s = (xs.mergeSort r).map f := (List.map_mergeSort (fun a _ b _ => (h a b).symm)).symm
theorem sorted_strs {xs : List Str} : g1 gSorted [.lst (xs.map D.str)] = some (.nw (.lst ((sortS xs).map D.str))) := by
  show (sortD (xs.map D.str)).map _ = _
  unfold sortD
  rw [if_pos (okSort_strs xs), mergeSort_map (r := leS) fun a b => dle_str]
  rfl
end LH
/-! LHReprK: repr of data with dicts. -/
namespace LH
open PySem PySem.Spec PyProof.Rows L2
def keyPy : Key → PyData
  | .inl i => .int i
  | .inr x => .str x
mutual
def toPyK : D → Option PyData
  | .non => some .none
  | .bl b => some (.bool b)
  | .int i => some (.int i)
  | .str x => some (.str x)
  | .lst xs => (toPyKL xs).map .list
  | .tup xs => (toPyKL xs).map .tuple
  | .dct kvs => (toPyKD kvs).map .dict
  | _ => none
def toPyKL : List D → Option (List PyData)
  | [] => some []
  | x :: xs => match toPyK x, toPyKL xs with
    | some d, some ds => some (d :: ds)
    | _, _ => none
def toPyKD : List (Key × D) → Option (List (PyData × PyData))
  | [] => some []
  | (k, x) :: xs => match toPyK x, toPyKD xs with
    | some d, some ds => some ((keyPy k, d) :: ds)
    | _, _ => none
end
mutual
theorem toPyK_of : ∀ {d : D} {p : PyData}, toPy d = some p → toPyK d = some p
  | .non, _, e => by cases e; rfl
  | .bl b, _, e => by cases e; rfl
  | .int i, _, e => by cases e; rfl
  | .str x, _, e => by cases e; rfl
  | .lst xs, _, e => by
    unfold toPy at e
    obtain ⟨ps, h1, rfl⟩ := Option.map_eq_some_iff.mp e
    unfold toPyK
    rw [toPyKL_of h1]; rfl
  | .tup xs, _, e => by
    unfold toPy at e
    obtain ⟨ps, h1, rfl⟩ := Option.map_eq_some_iff.mp e
    unfold toPyK
    rw [toPyKL_of h1]; rfl
  | .ro _, _, e => by cases e
  | .dct _, _, e => by cases e
  | .dcT _, _, e => by cases e
  | .obj _ _, _, e => by cases e
  | .exc _ _, _, e => by cases e
  | .fn _, _, e => by cases e
  | .hdl _, _, e => by cases e
theorem toPyKL_of : ∀ {ds : List D} {ps : List PyData}, toPyL ds = some ps → toPyKL ds = some ps
  | [], _, e => by cases e; rfl
  | d :: ds, _, e => by
    unfold toPyL at e
    cases q1 : toPy d with
    | none => rw [q1] at e; cases e
    | some p =>
      cases q2 : toPyL ds with
      | none => rw [q1, q2] at e; cases e
      | some ps => rw [q1, q2] at e; cases e; unfold toPyKL; rw [toPyK_of q1, toPyKL_of q2]
end
section
variable {X : Cx} {pins : List (Addr × Obj)} {σ : St} {H M : Hp} {s : Shared} {η : List Addr}
/-- every address that is read is tracked -/
def Trk (H : Hp) (as : List Addr) : Prop := ∀ a ∈ as, H a ≠ none
theorem Trk.cons {a : Addr} {as : List Addr} {o : HO} (e : H a = some o) (t : Trk H as) : Trk H (a :: as) := fun b hb => by
  rcases List.mem_cons.mp hb with rfl | hb
  · rw [e]; simp
  · exact t b hb
theorem Trk.append {as bs : List Addr} (t : Trk H as) (u : Trk H bs) : Trk H (as ++ bs) := fun b hb => (List.mem_append.mp hb).elim (t b) (u b)
theorem keys_read {h : Heap} {P : Program} {w : World} : ∀ {es : List DictEntry} {vs : List (Key × Value)}, Pairs (mixKind P w) es vs → ReadsAll h (es.map (·.key)) (vs.map fun p => keyPy p.1) []
  | _, _, .nil => .nil
  | _, _, .cons (e := e) (kv := kv) (es := es) (kvs := kvs) h1 h2 h3 => by
    have h1 : keyIs kv.1 e.key = true := h1
    rw [List.map_cons, List.map_cons]
    refine ReadsAll.cons (as := []) (bs := []) ?_ (keys_read h3)
    rcases keyIs_shape h1 with ⟨i, t, e1, e2⟩ | ⟨x, t, e1, e2⟩
    · rw [e1, e2]; exact .int i t
    · rw [e1, e2]; exact .str x t
theorem pairs_vals {P : Program} {w : World} : ∀ {es : List DictEntry} {vs : List (Key × Value)}, Pairs (mixKind P w) es vs → es.map (·.val) = vs.map (·.2)
  | _, _, .nil => rfl
  | _, _, .cons h1 h2 h3 => by rw [List.map_cons, List.map_cons, h2, pairs_vals h3]
theorem pyKD_keys : ∀ {kvs : List (Key × D)} {ps : List (PyData × PyData)}, toPyKD kvs = some ps → ps.map (·.1) = kvs.map fun p => keyPy p.1
  | [], _, e => by cases e; rfl
  | (k, x) :: xs, _, e => by
    unfold toPyKD at e
    cases q1 : toPyK x with
    | none => rw [q1] at e; cases e
    | some p =>
      cases q2 : toPyKD xs with
      | none => rw [q1, q2] at e; cases e
      | some ps => rw [q1, q2] at e; cases e; rw [List.map_cons, List.map_cons, pyKD_keys q2]
mutual
theorem rep_rd (I : Inv X pins σ H s) (hs : Same M H) : ∀ {d : D} {v : V} {u : Value} {p : PyData}, Rep X.K X.mg η M v d → toPyK d = some p → RelV v u → ∃ as, Reads s.heap u p as ∧ Trk H as
  | .non, _, _, _, .non, e, r => by cases e; cases r; exact ⟨_, .none, fun _ z => by cases z⟩
  | .bl b, _, _, _, .bl _, e, r => by cases e; cases r; exact ⟨_, .bool b, fun _ z => by cases z⟩
  | .int i, _, _, _, .int _, e, r => by cases e; obtain ⟨t, rfl⟩ := r; exact ⟨_, .int i t, fun _ z => by cases z⟩
  | .str x, _, _, _, .str _, e, r => by cases e; obtain ⟨t, rfl⟩ := r; exact ⟨_, .str x t, fun _ z => by cases z⟩
  | .lst ds, _, _, _, .lst (a := a) (xs := xs) h hr, e, r => by
    unfold toPyK at e
    obtain ⟨ps, h1, rfl⟩ := Option.map_eq_some_iff.mp e
    cases r
    obtain ⟨its, rv, ⟨o, n, ho, hc, _, hd⟩, _⟩ := I.list (X := X) (.of (hs _ _ h))
    obtain ⟨as, q, t⟩ := repL_rd I hs hr h1 rv
    exact ⟨_, .list ho hc hd q, t.cons (hs _ _ h)⟩
  | .tup ds, _, _, _, .tup h hr, e, r => by
    unfold toPyK at e
    obtain ⟨ps, h1, rfl⟩ := Option.map_eq_some_iff.mp e
    cases r
    obtain ⟨its, rv, ⟨o, ho, hc, n, hd⟩, _⟩ := I.tuple (X := X) (.of (hs _ _ h))
    obtain ⟨as, q, t⟩ := repL_rd I hs hr h1 rv
    exact ⟨_, .tuple ho hc hd q, t⟩
  | .dct kvs, _, _, _, .dct (a := a) (kvs := kv) h hk hr, e, r => by
    unfold toPyK at e
    obtain ⟨ps, h1, rfl⟩ := Option.map_eq_some_iff.mp e
    cases r
    obtain ⟨hz, hsys, vs, rel, ob, es, ep, ho, ex, hdat, hko, hpr, hnd⟩ := dk_of I.hok (hs _ _ h)
    obtain ⟨as, q, t⟩ := repD_rd I hs (kvs := kvs) hr h1 (kv_vals rel)
    have ek : vs.map (fun p => keyPy p.1) = ps.map (·.1) := by
      rw [pyKD_keys h1]
      have e1 : vs.map (·.1) = kvs.map (·.1) := by rw [← hk]; exact rel.keys.symm
      have e2 := congrArg (List.map keyPy) e1
      rw [List.map_map, List.map_map] at e2
      exact e2
    have q1 : ReadsAll s.heap (es.toList.map (·.key)) (ps.map (·.1)) [] := by rw [← ek]; exact keys_read hpr
    have q2 : ReadsAll s.heap (es.toList.map (·.val)) (ps.map (·.2)) as := by rw [pairs_vals hpr]; exact q
    refine ⟨_, .dict ho ex.1 hdat q1 q2, ?_⟩
    exact Trk.append (Trk.cons (hs _ _ h) fun _ z => by cases z) t
  | .ro _, _, _, _, .ro _ _, e, _ => by cases e
  | .dcT _, _, _, _, .dcT _ _ _, e, _ => by cases e
  | .obj _ _, _, _, _, .obj _ _ _ _, e, _ => by cases e
  | .hdl _, _, _, _, .hdl _, e, _ => by cases e
  | .exc _ _, _, _, _, .exc _ _ _ _ _, e, _ => by cases e
  | .fn _, _, _, _, .fn _, e, _ => by cases e
theorem repL_rd (I : Inv X pins σ H s) (hs : Same M H) : ∀ {ds : List D} {vs : List V} {us : List Value} {ps : List PyData}, RepL X.K X.mg η M vs ds → toPyKL ds = some ps → Vals vs us → ∃ as, ReadsAll s.heap us ps as ∧ Trk H as
  | [], _, _, _, .nil, e, r => by cases e; cases r; exact ⟨_, .nil, fun _ z => by cases z⟩
  | d :: ds, _, _, _, .cons h hr, e, r => by
    unfold toPyKL at e
    cases q1 : toPyK d with
    | none => rw [q1] at e; cases e
    | some p =>
      cases q2 : toPyKL ds with
      | none => rw [q1, q2] at e; cases e
      | some ps =>
        rw [q1, q2] at e
        cases e
        cases r with
        | cons r1 r2 =>
          obtain ⟨as, g1, t1⟩ := rep_rd I hs h q1 r1
          obtain ⟨bs, g2, t2⟩ := repL_rd I hs hr q2 r2
          exact ⟨_, .cons g1 g2, t1.append t2⟩
theorem repD_rd (I : Inv X pins σ H s) (hs : Same M H) : ∀ {kvs : List (Key × D)} {vs : List V} {us : List Value} {ps : List (PyData × PyData)}, RepL X.K X.mg η M vs (kvs.map (·.2)) → toPyKD kvs = some ps → Vals vs us → ∃ as, ReadsAll s.heap us (ps.map (·.2)) as ∧ Trk H as
  | [], _, _, _, .nil, e, r => by cases e; cases r; exact ⟨_, .nil, fun _ z => by cases z⟩
  | (k, d) :: ds, _, _, _, .cons h hr, e, r => by
    unfold toPyKD at e
    cases q1 : toPyK d with
    | none => rw [q1] at e; cases e
    | some p =>
      cases q2 : toPyKD ds with
      | none => rw [q1, q2] at e; cases e
      | some ps =>
        rw [q1, q2] at e
        cases e
        cases r with
        | cons r1 r2 =>
          obtain ⟨as, g1, t1⟩ := rep_rd I hs h q1 r1
          obtain ⟨bs, g2, t2⟩ := repD_rd I hs hr q2 r2
          exact ⟨_, .cons g1 g2, t1.append t2⟩
end
theorem vw_rd (I : Inv X pins σ H s) (hs : Same M H) {d : D} {v : V} {u : Value} {p : PyData} (h : VwR X.K X.mg η M H v d) (e : toPyK d = some p) (r : RelV v u) : ∃ as, Reads s.heap u p as ∧ Trk H as := by
  rcases h with h | ⟨a, rfl, h⟩
  · exact rep_rd I hs h e r
  · cases d with
    | lst ds =>
      obtain ⟨xs, hx, hr⟩ := h
      unfold toPyK at e
      obtain ⟨ps, h1, rfl⟩ := Option.map_eq_some_iff.mp e
      cases r
      obtain ⟨its, rv, ⟨o, n, ho, hc, _, hd⟩, _⟩ := I.list (X := X) (.of hx)
      obtain ⟨as, q, t⟩ := repL_rd I hs hr h1 rv
      exact ⟨_, .list ho hc hd q, t.cons hx⟩
    | dct kvs =>
      obtain ⟨kv, hx, hk, hr⟩ := h
      unfold toPyK at e
      obtain ⟨ps, h1, rfl⟩ := Option.map_eq_some_iff.mp e
      cases r
      obtain ⟨hz, hsys, vs, rel, ob, es, ep, ho, ex, hdat, hko, hpr, hnd⟩ := dk_of I.hok hx
      obtain ⟨as, q, t⟩ := repD_rd I hs (kvs := kvs) hr h1 (kv_vals rel)
      have ek : vs.map (fun p => keyPy p.1) = ps.map (·.1) := by
        rw [pyKD_keys h1]
        have e1 : vs.map (·.1) = kvs.map (·.1) := by rw [← hk]; exact rel.keys.symm
        have e2 := congrArg (List.map keyPy) e1
        rw [List.map_map, List.map_map] at e2
        exact e2
      have q1 : ReadsAll s.heap (es.toList.map (·.key)) (ps.map (·.1)) [] := by rw [← ek]; exact keys_read hpr
      have q2 : ReadsAll s.heap (es.toList.map (·.val)) (ps.map (·.2)) as := by rw [pairs_vals hpr]; exact q
      refine ⟨_, .dict ho ex.1 hdat q1 q2, ?_⟩
      exact Trk.append (Trk.cons hx fun _ z => by cases z) t
    | ro _ => cases e
    | dcT _ => cases e
    | obj _ _ => cases e
    | _ => exact h.elim
/-- the startup's table of modules stands in the base -/
def SysIn (base : Heap) : Prop := ∃ o, base.get? sysModules = some o
theorem sys_free (I : Inv X pins σ H s) (h : SysIn X.base) : H sysModules = none := by
  obtain ⟨o, e⟩ := h
  obtain ⟨e1, e2⟩ := I.ok.bs _ _ e
  exact I.base.free _ _ e1 e2 (I.ok.noex _ _ e)
def shownK (p : PyData) : Option Str := if p.showable && decide (p.depth ≤ 64) && decide (p.shown.length ≤ sizeLine) then some p.shown else none
def gReprK (d : D) : Option Rv := ((toPyK d).bind shownK).map fun t => .fz (.str t)
theorem c_reprK (hsy : SysIn X.base) (hg : X.A.guards = some []) (hu : X.A.units + 66 < cLine) : OpN X (Wc X (.builtin "repr")) (g1 gReprK) := by
  refine opN1 fun E η M c σ H x dx r s h1 e Q hQ => ?_
  unfold gReprK at e
  obtain ⟨t, e1, rfl⟩ := Option.map_eq_some_iff.mp e
  obtain ⟨p, e2, e3⟩ := Option.bind_eq_some_iff.mp e1
  have cr : CallR X (.builtin "repr") (fun xs H' Q => xs = [x] ∧ H' = H ∧ Q (.str t) H) := by
    intro pins s' σ' H' xs us Q I r h
    obtain ⟨rfl, rfl, q⟩ := h
    obtain ⟨u, rfl, ru⟩ := vals1 r
    obtain ⟨as, hr, ht⟩ := vw_rd I s.sub h1 e2 ru
    have hns : sysModules ∉ as := fun z => ht _ z (sys_free I hsy)
    unfold shownK at e3
    split at e3
    · rename_i hc
      cases e3
      simp only [Bool.and_eq_true, decide_eq_true_eq] at hc
      obtain ⟨⟨h1, h3⟩, h4⟩ := hc
      have fin : ∀ tk, EP X pins σ' Q (.str p.shown tk) { s' with toks := s'.toks + 1 } := fun tk => ⟨.str _, H', I.tok _, ⟨tk, rfl⟩, q⟩
      cases hr with
      | none => exact PySem.P.repr_of_none (fin _)
      | bool b => exact PySem.P.repr_of_bool (by have := fin s'.toks; cases b <;> simpa [PyData.shown] using this)
      | int i t => exact PySem.P.repr_of_int (by simpa [PyData.showable] using h1) (fin _)
      | str x t => exact PySem.P.repr_of_str (fin _) (by simpa [PyData.shown] using h4)
      | list a1 a2 a3 a4 =>
        exact repr_of_reads' (.list a1 a2 a3 a4) h1 (fun z => hns) hg (by omega) (fun _ _ e => e) (fun h' tu tk hk => ⟨.str _, H', I.kept hk, ⟨tu, rfl⟩, q⟩) h4
      | tuple a1 a2 a3 a4 =>
        exact repr_of_reads' (.tuple a1 a2 a3 a4) h1 (fun z => hns) hg (by omega) (fun _ _ e => e) (fun h' tu tk hk => ⟨.str _, H', I.kept hk, ⟨tu, rfl⟩, q⟩) h4
      | dict a1 a2 a3 a4 a5 =>
        exact repr_of_reads' (.dict a1 a2 a3 a4 a5) h1 (fun z => hns) hg (by omega) (fun _ _ e => e) (fun h' tu tk hk => ⟨.str _, H', I.kept hk, ⟨tu, rfl⟩, q⟩) h4
    · cases e3
  exact call_wc cr ⟨rfl, rfl, pst_fz s hQ (.str _)⟩
end

/-! ### what repr shows, dicts too -/
structure RK (d : D) (w k : Nat) : Prop where
  ex : ∃ p, toPyK d = some p ∧ p.showable = true ∧ p.leavesShort 13 = true ∧ p.weight ≤ w ∧ p.depth ≤ k
structure RKL (ds : List D) (w k : Nat) : Prop where
  ex : ∃ ps, toPyKL ds = some ps ∧ PyData.showableAll ps = true ∧ PyData.leavesShortAll 13 ps = true ∧ PyData.weightAll ps ≤ w ∧ PyData.depthAll ps ≤ k
structure RKD (kvs : List (Key × D)) (w k : Nat) : Prop where
  ex : ∃ ps, toPyKD kvs = some ps ∧ PyData.showableKv ps = true ∧ PyData.leavesShortKv 13 ps = true ∧ PyData.weightKv ps ≤ w ∧ PyData.depthKv ps ≤ k
theorem RD.rk {d : D} {w k : Nat} (h : RD d w k) : RK d w k := by
  obtain ⟨p, h1, h2, h3⟩ := h
  exact ⟨p, toPyK_of h1, h2.s, h2.l, h2.w, h3⟩
theorem RDL.rk {d : List D} {w k : Nat} (h : RDL d w k) : RKL d w k := by
  obtain ⟨p, h1, h2, h3⟩ := h
  exact ⟨p, toPyKL_of h1, h2.s, h2.l, h2.w, h3⟩
theorem RK.mono {d : D} {w w' k k' : Nat} (h : RK d w k) (hw : w ≤ w') (hk : k ≤ k') : RK d w' k' := by
  obtain ⟨p, h1, h2, h3, h4, h5⟩ := h
  exact ⟨p, h1, h2, h3, Nat.le_trans h4 hw, Nat.le_trans h5 hk⟩
theorem RKL.mono {d : List D} {w w' k k' : Nat} (h : RKL d w k) (hw : w ≤ w') (hk : k ≤ k') : RKL d w' k' := by
  obtain ⟨p, h1, h2, h3, h4, h5⟩ := h
  exact ⟨p, h1, h2, h3, Nat.le_trans h4 hw, Nat.le_trans h5 hk⟩
theorem RKD.mono {d : List (Key × D)} {w w' k k' : Nat} (h : RKD d w k) (hw : w ≤ w') (hk : k ≤ k') : RKD d w' k' := by
  obtain ⟨p, h1, h2, h3, h4, h5⟩ := h
  exact ⟨p, h1, h2, h3, Nat.le_trans h4 hw, Nat.le_trans h5 hk⟩
theorem RKL.nil : RKL [] 0 0 := ⟨[], rfl, rfl, rfl, by simp [PyData.weightAll], by simp [PyData.depthAll]⟩
theorem RKL.cons {d : D} {ds : List D} {a b k : Nat} (h : RK d a k) (t : RKL ds b k) : RKL (d :: ds) (a + 1 + b) k := by
  obtain ⟨p, h1, h2, h3, h4, h5⟩ := h
  obtain ⟨ps, g1, g2, g3, g4, g5⟩ := t
  exact ⟨p :: ps, by unfold toPyKL; rw [h1, g1], by simp [PyData.showableAll, h2, g2], by simp [PyData.leavesShortAll, h3, g3], by simp only [PyData.weightAll]; omega, by unfold PyData.depthAll; omega⟩
theorem RKL.lst {ds : List D} {w k : Nat} (h : RKL ds w k) : RK (.lst ds) w (k + 1) := by
  obtain ⟨ps, g1, g2, g3, g4, g5⟩ := h
  exact ⟨.list ps, by unfold toPyK; rw [g1]; rfl, by simp [PyData.showable, g2], by simp [PyData.leavesShort, g3], by simp only [PyData.weight]; exact g4, by unfold PyData.depth; omega⟩
theorem RKL.tup {ds : List D} {w k : Nat} (h : RKL ds w k) : RK (.tup ds) w (k + 1) := by
  obtain ⟨ps, g1, g2, g3, g4, g5⟩ := h
  exact ⟨.tuple ps, by unfold toPyK; rw [g1]; rfl, by simp [PyData.showable, g2], by simp [PyData.leavesShort, g3], by simp only [PyData.weight]; exact g4, by unfold PyData.depth; omega⟩
theorem RKL.all {w k : Nat} : ∀ {ds : List D}, (∀ d ∈ ds, RK d w k) → RKL ds ((w + 1) * ds.length) k
  | [], _ => RKL.nil.mono (by simp) (Nat.zero_le _)
  | d :: ds, h => (RKL.cons (h d List.mem_cons_self) (RKL.all fun x hx => h x (List.mem_cons_of_mem _ hx))).mono (by rw [List.length_cons, Nat.mul_succ]; omega) (Nat.le_refl _)
theorem RKD.nil : RKD [] 0 0 := ⟨[], rfl, rfl, rfl, by simp [PyData.weightKv], by simp [PyData.depthKv]⟩
theorem RKD.cons {x : Str} {d : D} {ds : List (Key × D)} {a b k : Nat} (hx : ∀ c ∈ x.cps.toList, c < 1114112) (h : RK d a k) (t : RKD ds b k) : RKD ((.inr x, d) :: ds) (x.length + a + 2 + b) k := by
  obtain ⟨p, h1, h2, h3, h4, h5⟩ := h
  obtain ⟨ps, g1, g2, g3, g4, g5⟩ := t
  obtain ⟨q, q1, q2, q3⟩ := (RD.str hx).ex
  cases q1
  have s1 := q2.s
  have s2 := q2.l
  have s3 := q2.w
  exact ⟨(.str x, p) :: ps, by unfold toPyKD; rw [h1, g1]; rfl, by simp [PyData.showableKv, h2, g2, s1], by simp [PyData.leavesShortKv, h3, g3, s2], by simp only [PyData.weightKv]; omega, by unfold PyData.depthKv; omega⟩
theorem RKD.dct {ds : List (Key × D)} {w k : Nat} (h : RKD ds w k) : RK (.dct ds) w (k + 1) := by
  obtain ⟨ps, g1, g2, g3, g4, g5⟩ := h
  exact ⟨.dict ps, by unfold toPyK; rw [g1]; rfl, by simp [PyData.showable, g2], by simp [PyData.leavesShort, g3], by simp only [PyData.weight]; exact g4, by unfold PyData.depth; omega⟩
theorem RK.repr {d : D} {w k : Nat} (h : RK d w k) (hw : w ≤ 2 ^ 20) (hk : k ≤ 64) : ∃ t, g1 gReprK [d] = some (.fz (.str t)) := by
  obtain ⟨p, h1, h2, h3, h4, h5⟩ := h
  refine ⟨p.shown, ?_⟩
  have hz := PyData.shown_fits (B := 13) (by decide) (by decide) h3 (Nat.le_trans h4 hw)
  show ((toPyK d).bind shownK).map (fun t => Rv.fz (.str t)) = _
  rw [h1, Option.bind_some]
  unfold shownK
  have hd : p.depth ≤ 64 := by omega
  simp [h2, hd, hz]
theorem law_callG2 {P : Program} {w : World} {K : Fg} {mg mb : Mg} {k n : Nat} {fa a : Addr} {fd : FuncData} {x : Str} {F : Fm} {s₁ : Shared} {vs : List Value} {ns : List Int}
    (KX : K.In s₁.heap) (hns : s₁.heap.Ns mainGlobals mg) (hb : s₁.heap.Ns builtinsNs mb) (hbb : ∀ x : Str, x ≠ "__name__" → mb x = bootBuiltins x) (hlim : s₁.heap.NoLimit) (hg : s₁.gens = #[])
    (ha : s₁.heap.get? a = some { cls := .type "list", data := .seq vs.toArray }) (hi : IntsAre vs ns) (hl : ns.length ≤ sizeLine) (hn : ns.length ≤ n) (hr : RmG k callerA)
    (hsm : ∃ mm, s₁.heap.Ns sysModules mm) (G : ∀ base : Heap, K.In base → base.Ns mainGlobals mg → SysIn base → FnG P w K mg base (L2.CX P w) k fa fd [x] (spF K mg 1 F)) (hbind : ∀ (s : Shared) (u : Value), BindsTo s fd ⟨[u], []⟩ [(x, u)]) (L : LawTrue n F) :
    codeAny (model P w) callerA (.call (.ref fa) ⟨[.ref a], []⟩) (fun r s' => r = .ok (.ret (.bool true)) ∧ OldK s₁.heap s'.heap ∧ s'.os = s₁.os ∧ AllBare s'.gens) s₁ := by
  have rv := vals_ints hi
  have go : ∀ H : Hp, Only H → SqL K H a (ns.map V.int) → HOk P w H s₁.heap → (∀ b, H b ≠ none → b = a ∧ K.lookup a = none) →
      codeAny (model P w) callerA (.call (.ref fa) ⟨[.ref a], []⟩) (fun r s' => r = .ok (.ret (.bool true)) ∧ OldK s₁.heap s'.heap ∧ s'.os = s₁.os ∧ AllBare s'.gens) s₁ := by
    intro H hO hS hok hA
    have off : ∀ {b : Addr} {o : Obj}, s₁.heap.get? b = some o → (H b ≠ none → o ≠ { cls := .type "list", data := .seq vs.toArray }) → (hidT s₁.heap H).get? b = some o := fun {b o} e hz => hidT_get e (by
      cases q : H b with
      | none => rfl
      | some u =>
        have hb : H b ≠ none := by rw [q]; simp
        obtain rfl := (hA b hb).1
        rw [ha] at e
        exact absurd (Option.some.inj e).symm (hz hb))
    have nsK : ∀ {b : Addr} {m : Str → Option Value}, s₁.heap.Ns b m → (hidT s₁.heap H).Ns b m := fun {b m} ⟨o, es, ep, e, d, r⟩ => ⟨o, es, ep, off e (fun _ z => by subst z; cases d), d, r⟩
    have hKb : K.In (hidT s₁.heap H) := fun b o e => hidT_get (KX b o e) (by
      cases q : H b with
      | none => rfl
      | some u =>
        obtain ⟨rfl, z⟩ := hA b (by rw [q]; simp)
        rw [z] at e; cases e)
    have hM : Mod K mg (hidT s₁.heap H) := ⟨hKb, nsK hns, ⟨mb, nsK hb, hbb⟩, let ⟨mc, h1, h2⟩ := hlim; ⟨mc, nsK h1, h2⟩⟩
    have hSy : SysIn (hidT s₁.heap H) := let ⟨mm, h1⟩ := hsm; let ⟨o, es, ep, e, _⟩ := nsK h1; ⟨o, e⟩
    have e0 : Env0 P w K mg (hidT s₁.heap H) callerA [] s₁ H := ⟨rfl, hM, fun b o e => of_hidT e, Nat.le_of_eq (hidT_size _ _), trivial, fun b hb => absurd (show b ∈ ([] : List Addr) from hb) (by simp), hok, .of_eq hg⟩
    obtain ⟨c, hc⟩ := L ns hn
    have hsp : spF K mg 1 F [.ref a] H (fun v _ => v = .bl true) fun _ _ _ => False := by
      refine ⟨rfl, [], H, [.ro (ns.map D.int)], [], sr_first H, .cons (.ro hS (repL_intsN ns)) .nil, ?_⟩
      rw [hc]
      intro v η' M' H' _ z
      cases z
      rfl
    refine codeAny_mono ((G _ hKb (nsK hns) hSy).run callerA [] s₁ H ⟨[.ref a], []⟩ [.ref a] [.ref a] _ _ hr e0 (hbind s₁ (.ref a)) (.cons rfl .nil) hsp) fun r s' h => ?_
    cases r with
    | error e =>
      obtain ⟨_, _, _, _, _, _, _, _, _, _, _, _, z⟩ := h
      exact z.elim
    | ok fl =>
      cases fl with
      | next => exact False.elim h
      | brk => exact False.elim h
      | cont => exact False.elim h
      | ret u =>
        obtain ⟨v, H', os, bare, un, hok', r', q⟩ := h
        have q' : v = .bl true := q
        subst q'
        obtain rfl : u = Value.bool true := r'
        refine ⟨rfl, OldK.of_keep fun b o e => ?_, os, bare⟩
        cases q : H b with
        | none => exact un.keep b o e q (by intro z; exact absurd (show b ∈ ([] : List Addr) from z) (by simp)) (by simp)
        | some u =>
          rcases hO b with z | ⟨ob, xs, z⟩
          · rw [q] at z; cases z
          · obtain ⟨e1, _⟩ := hok b _ z
            obtain ⟨e2, _⟩ := hok' b _ (un.frzs b ob _ z)
            rw [e] at e1; cases e1
            exact e2
  cases hk : K.lookup a with
  | some o =>
    have e := KX a o hk
    rw [ha] at e
    cases e
    exact go (fun _ => none) (fun _ => .inl rfl) (.inr ⟨_, vs.toArray, _, hk, rfl, rfl, rfl, by rw [List.size_toArray, hi.length]; exact hl, by simpa using rv⟩) (fun b u z => nomatch (show (none : Option HO) = some u from z)) (fun b z => absurd rfl z)
  | none =>
    have hH : ∀ b, (fun b => if b = a then some (.frz { cls := .type "list", data := .seq vs.toArray } (.lst (ns.map V.int))) else none : Hp) b ≠ none → b = a := fun b z => by
      by_cases hb : b = a
      · exact hb
      · exact absurd (if_neg hb) z
    refine go (fun b => if b = a then some (.frz { cls := .type "list", data := .seq vs.toArray } (.lst (ns.map V.int))) else none) (fun b => ?_) (.inl (.inr ⟨_, if_pos rfl⟩)) (fun b u z => ?_) (fun b z => ⟨hH b z, hk⟩)
    · by_cases hb : b = a
      · exact .inr ⟨_, _, if_pos hb⟩
      · exact .inl (if_neg hb)
    · by_cases hb : b = a
      · have z' := (if_pos hb).symm.trans z
        cases z'
        subst hb
        exact ⟨ha, by rw [List.length_map]; exact hl, vs, _, rv, ha⟩
      · have z' := (if_neg hb).symm.trans z
        cases z'
theorem walkG2 {l : PySem.W.OpenLaw} {n k : Nat} {q : Program} {loose : List Str} {XP : (Str → Option Value) → Heap → Prop} {YP : World → Heap → Prop} {d : DefRec} {K : Params → Fg} {F : Fm} {x : Str}
    (hn : l.most = some n) (hn2 : n ≤ sizeLine) (hdf : d.params.defaults = []) (hr : RmG k callerA) (hi : importsNone q = true) (hY : ∀ (w : World) (h : Heap), YP w h → (K w.params).In h) (L : LawTrue n F)
    (G : ∀ (w : World) (mg : Str → Option Value) (fa : Addr) (h : Heap), (K w.params).In h → h.Ns mainGlobals mg → mg d.name = some (.ref fa) →
      ∃ fd : FuncData, (∀ (s : Shared) (u : Value), BindsTo s fd ⟨[u], []⟩ [(x, u)]) ∧
        ∀ base : Heap, (K w.params).In base → base.Ns mainGlobals mg → SysIn base → FnG l.prog w (K w.params) mg base (L2.CX l.prog w) k fa fd [x] (spF (K w.params) mg 1 F)) :
    PySem.W.WalkO q loose XP YP l.row.toRowW d [] (fun f vs => PySem.call f vs) := by
  refine Att.attach_call hn hdf fun w s₀ s₁ mg mb fa o pm cd doc a vs ns T Y ho hd hcd hmg hobj hints hlen hg => ?_
  have KX := hY w _ Y
  obtain ⟨fd, hb, hF⟩ := G w mg fa _ KX T.T.g hmg
  exact law_callG2 KX T.T.g T.T.b T.T.builtins T.T.nolimit hg hobj hints (Nat.le_trans hlen hn2) hlen hr (let ⟨mm, h1, _⟩ := (T.T.seer hi).mods; ⟨mm, h1⟩) hF hb L
end LH
/-! LHStep: one statement, the state behind it read off. -/
namespace LH
open PySem PySem.Spec PyProof.Rows L2
theorem wE_seqC {m1 m2 : Sm} {c c1 : Cf} {Q : Fl → Cf → Prop} (h : wE (m1 c) fun fl c' => fl = .nx ∧ c' = c1) (h2 : wE (m2 c1) Q) : wE (bCons m1 m2 c) Q :=
  wE_seqE (P := fun c => c = c1) h fun _ e => e ▸ h2
theorem eq_runF {n : Nat} {mb : Sm} {ds S S1 : List D} {r0 : Rv} (h : wE (mb ⟨ds.map Sl.fz ++ List.replicate (n - ds.length) .un, S⟩) fun fl c => match fl with
    | .nx => Rv.fz .non = r0 ∧ c.S = S1
    | .rt r => oE (leaveR c r) fun r' => r' = r0 ∧ c.S = S1
    | _ => False) : runF n mb ds S = .ok r0 ⟨[], S1⟩ := by
  apply eq_of
  apply wE_runF
  refine wE_mono h fun fl c h => ?_
  cases fl with
  | nx => exact ⟨h.1, by rw [h.2]⟩
  | rt r =>
    have h : oE (leaveR c r) fun r' => r' = r0 ∧ c.S = S1 := h
    dsimp only
    cases q : leaveR c r with
    | none => rw [q] at h; exact h
    | some r' =>
      rw [q, oE_some] at h
      rw [oE_some]
      exact ⟨h.1, by rw [h.2]⟩
  | _ => exact h
/-- an own object of a class, without a field of that name -/
def objM (cn m : Str) : D → Bool
  | .obj c fs => decide (c = cn) && (fs.lookup m).isNone
  | _ => false
theorem wE_meth {cn m : Str} {n : Nat} {F : Fm} {mo : Em} {ms : Cf → Res (List Rv)} {c : Cf} {Q : Rv → Cf → Prop} : wE (mMeth cn m n F mo ms c) Q = wE (mo c) fun ro c1 => oE (view c1 (settle ro)) fun d => objM cn m d = true ∧ wE (ms c1) fun rs c2 => oE (vals c2 (settle ro :: rs)) fun p => p.1.length = n ∧ wE (F p.1 p.2.S) fun r c4 => Q r ⟨p.2.ρ, c4.S⟩ := by
  rw [wE_mMeth]
  congr 1
  funext ro c1
  cases view c1 (settle ro) with
  | none => rfl
  | some d =>
    cases d with
    | obj c' fds =>
      have e : (objM cn m (.obj c' fds) = true) = (c' = cn ∧ fds.lookup m = none) := by
        unfold objM
        simp
      simp only [oE_some, e]
    | _ => exact propext ⟨fun z => z.elim, fun z => by cases z.1⟩
theorem lookup_no {m : Str} : ∀ {fs : List (Str × D)}, (fs.map (·.1)).contains m = false → (fs.lookup m).isNone = true
  | [], _ => rfl
  | (k, d) :: fs, h => by
    rw [List.map_cons, List.contains_cons, Bool.or_eq_false_iff] at h
    have hk : (m == k) = false := h.1
    rw [List.lookup_cons, hk]
    exact lookup_no h.2
theorem objM_keys {cn m : Str} {fs : List (Str × D)} {ks : List Str} (e : fs.map (·.1) = ks) (h : ks.contains m = false) : objM cn m (.obj cn fs) = true := by
  show (decide (cn = cn) && (fs.lookup m).isNone) = true
  rw [lookup_no (by rw [e]; exact h)]
  simp
/-! wE behind a word that is never unfolded: terms may then be written against a goal whose state is written out -/
@[irreducible] def WE {α : Type} (r : Res α) (Q : α → Cf → Prop) : Prop := wE r Q
theorem WE_iff {α : Type} {r : Res α} {Q : α → Cf → Prop} : WE r Q = wE r Q := by unfold WE; rfl
theorem WE_of {α : Type} {r : Res α} {Q : α → Cf → Prop} (h : wE r Q) : WE r Q := by rw [WE_iff]; exact h
theorem wE_of {α : Type} {r : Res α} {Q : α → Cf → Prop} (h : WE r Q) : wE r Q := by rw [← WE_iff]; exact h
theorem WE_seqC {m1 m2 : Sm} {c c1 : Cf} {Q : Fl → Cf → Prop} (h : wE (m1 c) fun fl c' => fl = .nx ∧ c' = c1) (h2 : WE (m2 c1) Q) : WE (bCons m1 m2 c) Q := WE_of (wE_seqC h (wE_of h2))
theorem WE_seqE {m1 m2 : Sm} {c : Cf} {P : Cf → Prop} {Q : Fl → Cf → Prop} (h : WE (m1 c) fun fl c1 => fl = .nx ∧ P c1) (h2 : ∀ c1, P c1 → WE (m2 c1) Q) : WE (bCons m1 m2 c) Q := WE_of (wE_seqE (wE_of h) fun c1 h => wE_of (h2 c1 h))
theorem WE_seqR {m1 m2 : Sm} {c : Cf} {P : Cf → Prop} {Q : Fl → Cf → Prop} (h : WE (m1 c) fun fl c1 => match fl with | .nx => P c1 | fl => Q fl c1) (h2 : ∀ c1, P c1 → WE (m2 c1) Q) : WE (bCons m1 m2 c) Q := WE_of (wE_seqR (wE_of h) fun c1 h => wE_of (h2 c1 h))
theorem WE_for {mi : Cf → Res (List D)} {g : D → Cf → Option Cf} {body : Sm} {c : Cf} {Q : Fl → Cf → Prop} (ds : List D) (I : Nat → Cf → Prop) (R : Rv → Cf → Prop) (hi : wE (mi c) fun ds1 c1 => ds1 = ds ∧ I 0 c1)
    (hs : ∀ i d c, ds[i]? = some d → I i c → oE (g d c) fun c1 => WE (body c1) fun fl c2 => match fl with | .nx => I (i + 1) c2 | .ct => I (i + 1) c2 | .rt r => R r c2 | .bk => False)
    (hn : ∀ c, I ds.length c → Q .nx c) (hr : ∀ r c, R r c → Q (.rt r) c) : WE (sFor mi g body c) Q := WE_of (for_E ds I R hi (fun i d c h1 h2 => by
  have := hs i d c h1 h2
  cases e : g d c with
  | none => rw [e] at this; exact this
  | some c1 => rw [e, oE_some] at this; rw [oE_some]; exact wE_of this) hn hr)
theorem WE_mono {α : Type} {r : Res α} {Q Q' : α → Cf → Prop} (h : wE r Q) (k : ∀ a c, Q a c → Q' a c) : WE r Q' := WE_of (wE_mono h k)
end LH
/-! LHEqd: == of plain data. -/
namespace LH
open PySem PySem.Spec PyProof.Rows L2
mutual
theorem eqD_refl : ∀ {d : D}, pln d = true → eqD d d = true
  | .non, _ => rfl
  | .bl b, _ => by simp [eqD]
  | .int i, _ => by simp [eqD]
  | .str x, _ => by simp [eqD]
  | .lst xs, h => by
    simp only [eqD]
    exact eqL_refl (by simpa [pln] using h)
  | .tup xs, h => by
    simp only [eqD]
    exact eqL_refl (by simpa [pln] using h)
  | .ro _, h => by simp [pln] at h
  | .dct _, h => by simp [pln] at h
  | .dcT _, h => by simp [pln] at h
  | .obj _ _, h => by simp [pln] at h
  | .hdl _, h => by simp [pln] at h
  | .exc _ _, h => by simp [pln] at h
  | .fn _, h => by simp [pln] at h
theorem eqL_refl : ∀ {ds : List D}, plnL ds = true → eqL ds ds = true
  | [], _ => rfl
  | d :: ds, h => by
    simp only [plnL, Bool.and_eq_true] at h
    simp only [eqL, Bool.and_eq_true]
    exact ⟨eqD_refl h.1, eqL_refl h.2⟩
end
/-- plain data, so deep -/
structure PL (d : D) (k : Nat) : Prop where
  p : pln d = true
  d : dep d ≤ k
structure PLL (ds : List D) (k : Nat) : Prop where
  p : plnL ds = true
  d : depL ds ≤ k
theorem PL.mono {d : D} {k k' : Nat} (h : PL d k) (hk : k ≤ k') : PL d k' := ⟨h.p, Nat.le_trans h.d hk⟩
theorem PL.non {k : Nat} : PL .non k := ⟨rfl, Nat.zero_le _⟩
theorem PL.bl {b : Bool} {k : Nat} : PL (.bl b) k := ⟨rfl, Nat.zero_le _⟩
theorem PL.int {i : Int} {k : Nat} : PL (.int i) k := ⟨rfl, Nat.zero_le _⟩
theorem PL.str {x : Str} {k : Nat} (h : ∀ c ∈ x.cps.toList, c < 1114112) : PL (.str x) k := ⟨by
  show (x.cps.all (· < 0x110000)) = true
  rw [Array.all_eq_true_iff_forall_mem]
  intro c hc
  have := h c (by simpa using hc)
  simpa using this, Nat.zero_le _⟩
theorem PLL.nil {k : Nat} : PLL [] k := ⟨rfl, Nat.zero_le _⟩
theorem PLL.cons {d : D} {ds : List D} {k : Nat} (h : PL d k) (t : PLL ds k) : PLL (d :: ds) k :=
  ⟨by simp [plnL, h.p, t.p], by simp only [depL]; exact Nat.max_le.mpr ⟨h.d, t.d⟩⟩
theorem PLL.all {k : Nat} : ∀ {ds : List D}, (∀ d ∈ ds, PL d k) → PLL ds k
  | [], _ => .nil
  | d :: ds, h => .cons (h d List.mem_cons_self) (PLL.all fun x hx => h x (List.mem_cons_of_mem _ hx))
theorem PLL.mem {k : Nat} : ∀ {ds : List D}, PLL ds k → ∀ d ∈ ds, PL d k
  | [], _, d, hd => by cases hd
  | x :: ds, h, d, hd => by
    have hp := h.p
    have hq := h.d
    simp only [plnL, Bool.and_eq_true] at hp
    simp only [depL] at hq
    rcases List.mem_cons.mp hd with rfl | hd
    · exact ⟨hp.1, by omega⟩
    · exact PLL.mem ⟨hp.2, by omega⟩ d hd
theorem PLL.app {a b : List D} {k : Nat} (h : PLL a k) (t : PLL b k) : PLL (a ++ b) k := .all fun d hd => by
  rcases List.mem_append.mp hd with hd | hd
  · exact h.mem d hd
  · exact t.mem d hd
theorem PLL.lst {ds : List D} {k : Nat} (h : PLL ds k) : PL (.lst ds) (k + 1) := ⟨by simpa [pln] using h.p, by simp only [dep]; exact Nat.succ_le_succ h.d⟩
theorem PLL.tup {ds : List D} {k : Nat} (h : PLL ds k) : PL (.tup ds) (k + 1) := ⟨by simpa [pln] using h.p, by simp only [dep]; exact Nat.succ_le_succ h.d⟩
theorem PL.okq {d : D} {k : Nat} (h : PL d k) (hk : k ≤ 64) : okq d = true := by
  unfold LH.okq
  rw [h.p, decide_eq_true (Nat.le_trans h.d hk)]; rfl
theorem PL.view {d : D} {k : Nat} {c : Cf} (h : PL d k) : view c (.fz d) = some d := by
  have := h.p
  cases d <;> first | rfl | simp [pln] at this
theorem gEq_pl {a b : D} {k : Nat} (h : PL a k) (h' : PL b k) (hk : k ≤ 64) : gEq a b = some (.fz (.bl (eqD a b))) := by
  unfold gEq; rw [h.okq hk, h'.okq hk]; rfl
theorem gNe_pl {a b : D} {k : Nat} (h : PL a k) (h' : PL b k) (hk : k ≤ 64) : gNe a b = some (.fz (.bl (!eqD a b))) := by
  unfold gNe; rw [h.okq hk, h'.okq hk]; rfl
theorem gNe_same {a : D} {k : Nat} (h : PL a k) (hk : k ≤ 64) : gNe a a = some (.fz (.bl false)) := by
  rw [gNe_pl h h hk, eqD_refl h.p]; rfl
theorem gEq_same {a : D} {k : Nat} (h : PL a k) (hk : k ≤ 64) : gEq a a = some (.fz (.bl true)) := by
  rw [gEq_pl h h hk, eqD_refl h.p]
theorem gNe_emp2 {xs : List D} {k : Nat} (h : PLL xs k) (hk : k + 1 ≤ 64) : gNe (.lst xs) (.lst []) = some (.fz (.bl (!xs.isEmpty))) := by
  rw [gNe_pl h.lst (PLL.nil.lst (k := k)) hk]
  cases xs <;> rfl
theorem gEq_emp2 {xs : List D} {k : Nat} (h : PLL xs k) (hk : k + 1 ≤ 64) : gEq (.lst xs) (.lst []) = some (.fz (.bl xs.isEmpty)) := by
  rw [gEq_pl h.lst (PLL.nil.lst (k := k)) hk]
  cases xs <;> rfl
theorem gIn_plL {a : D} {ys : List D} {k : Nat} {neg : Bool} (h : PL a k) (t : PL (.lst ys) k) (hk : k ≤ 64) : gIn neg a (.lst ys) = some (.fz (.bl ((ys.any fun z => eqD z a) != neg))) := by
  show (if okq a && okq (.lst ys) then _ else none) = _
  rw [h.okq hk, t.okq hk]; rfl
theorem gIn_plT {a : D} {ys : List D} {k : Nat} {neg : Bool} (h : PL a k) (t : PL (.tup ys) k) (hk : k ≤ 64) : gIn neg a (.tup ys) = some (.fz (.bl ((ys.any fun z => eqD z a) != neg))) := by
  show (if okq a && okq (.tup ys) then _ else none) = _
  rw [h.okq hk, t.okq hk]; rfl
end LH
/-! LHComp2: comprehensions over any targets. -/
namespace LH
open PySem PySem.Spec PyProof.Rows L2
theorem comp_gs {α : Type} {c : Cf} {mi : Cf → Res (List D)} {g : D → Cf → Option Cf} {t : Cf → Res Bool} {js : List Nat} {me : Em} {Q : Rv → Cf → Prop} (F : α → D) (st : α → List Sl) (ps : List α) (P : Nat → List D → List D → Prop) (ρ : List Sl)
    (hi : wE (mi c) fun ds1 c1 => ds1 = ps.map F ∧ c1.ρ = ρ ∧ P 0 [] c1.S) (hno : noOw ρ js = true) (hl : ps.length ≤ sizeLine)
    (hw : ∀ a ∈ ps, wipeR (st a) js = wipeR ρ js) (hr0 : restR ρ ρ js = ρ) (hre : ∀ a ∈ ps, restR ρ (st a) js = ρ) (hg : ∀ a ∈ ps, ∀ S, g (F a) ⟨wipeR ρ js, S⟩ = some ⟨st a, S⟩)
    (hm : ∀ i a acc S', ps[i]? = some a → acc.length ≤ i → P i acc S' → wE (t ⟨st a, S'⟩) fun b c => if b = true then wE (me c) fun r c2 => oE (toVal c2 r) fun p => p.2.ρ = st a ∧ P (i + 1) (acc ++ [p.1]) p.2.S else c.ρ = st a ∧ P (i + 1) acc c.S)
    (hQ : ∀ acc S', P ps.length acc S' → acc.length ≤ ps.length → Q (.nw (.lst acc)) ⟨ρ, S'⟩) : wE (mComp js mi g t me c) Q := by
  rw [wE_mComp]
  refine wE_mono hi fun ds1 c1 ⟨e1, e2, h0⟩ => ?_
  subst e1
  obtain ⟨r1, S1⟩ := c1
  have e2 : r1 = ρ := e2
  subst e2
  refine ⟨hno, ?_⟩
  have key := comp_inv (g := g) (t := t) (me := me) (vs := js) (fun acc rest c => ∃ i, rest = (ps.drop i).map F ∧ i ≤ ps.length ∧ acc.length ≤ i ∧ (c.ρ = r1 ∨ ∃ a ∈ ps, c.ρ = st a) ∧ P i acc c.S) (fun d rest acc c ⟨i, h1, h2, h3, h4, h5⟩ => by
    have hlt : i < ps.length := by
      rcases Nat.lt_or_ge i ps.length with h | h
      · exact h
      · rw [List.drop_of_length_le h] at h1; cases h1
    rw [List.drop_eq_getElem_cons hlt, List.map_cons] at h1
    cases h1
    have ham : ps[i] ∈ ps := List.getElem_mem hlt
    have ew : wipeR c.ρ js = wipeR r1 js := by
      rcases h4 with h | ⟨a, ha, h⟩
      · rw [h]
      · rw [h]; exact hw a ha
    rw [ew, hg _ ham, oE_some]
    refine wE_mono (hm i _ acc c.S (List.getElem?_eq_getElem hlt) h3 h5) fun b c2 hb => ?_
    cases b with
    | false =>
      rw [if_neg (by simp)] at hb ⊢
      exact ⟨i + 1, rfl, hlt, by omega, .inr ⟨_, ham, hb.1⟩, hb.2⟩
    | true =>
      rw [if_pos rfl] at hb ⊢
      refine wE_mono hb fun r c3 hv => ?_
      cases q : toVal c3 r with
      | none => rw [q] at hv; exact hv.elim
      | some p =>
        rw [q, oE_some] at hv
        rw [oE_some]
        exact ⟨by omega, i + 1, rfl, hlt, by simp; omega, .inr ⟨_, ham, hv.1⟩, hv.2⟩) (ds := ps.map F) (acc := []) (c := ⟨r1, S1⟩) ⟨0, rfl, Nat.zero_le _, Nat.le_refl _, .inl rfl, h0⟩
  cases e : compD g t me js (ps.map F) [] ⟨r1, S1⟩ with
  | none => rw [e] at key; exact key.elim
  | some q =>
    obtain ⟨acc, c2⟩ := q
    rw [e] at key
    obtain ⟨i, h1, h2, h3, h4, h5⟩ := key
    have hi2 : i = ps.length := by
      have := congrArg List.length h1
      simp at this
      omega
    subst hi2
    rw [oE_some]
    have er : restR r1 c2.ρ js = r1 := by
      rcases h4 with h | ⟨a, ha, h⟩
      · have h : c2.ρ = r1 := h
        rw [h]; exact hr0
      · have h : c2.ρ = st a := h
        rw [h]; exact hre a ha
    show Q (.nw (.lst acc)) ⟨restR r1 c2.ρ js, c2.S⟩
    rw [er]
    exact hQ acc c2.S h5 h3
/-- nothing changed: a filter and a map -/
theorem comp_g {α : Type} {c : Cf} {mi : Cf → Res (List D)} {g : D → Cf → Option Cf} {t : Cf → Res Bool} {js : List Nat} {me : Em} {Q : Rv → Cf → Prop} (F : α → D) (st : α → List Sl) (p : α → Bool) (f : α → D) (ps : List α) (ρ : List Sl) (S : List D)
    (hi : wE (mi c) fun ds1 c1 => ds1 = ps.map F ∧ c1 = ⟨ρ, S⟩) (hno : noOw ρ js = true) (hl : ps.length ≤ sizeLine)
    (hw : ∀ a ∈ ps, wipeR (st a) js = wipeR ρ js) (hr0 : restR ρ ρ js = ρ) (hre : ∀ a ∈ ps, restR ρ (st a) js = ρ) (hg : ∀ a ∈ ps, ∀ S, g (F a) ⟨wipeR ρ js, S⟩ = some ⟨st a, S⟩)
    (ht : ∀ a ∈ ps, wE (t ⟨st a, S⟩) fun b c => b = p a ∧ c = ⟨st a, S⟩)
    (hm : ∀ a ∈ ps, p a = true → wE (me ⟨st a, S⟩) fun r c => oE (toVal c r) fun q => q = (f a, ⟨st a, S⟩))
    (hQ : Q (.nw (.lst ((ps.filter p).map f))) ⟨ρ, S⟩) : wE (mComp js mi g t me c) Q := by
  refine comp_gs F st ps (fun i acc S' => S' = S ∧ acc = ((ps.take i).filter p).map f) ρ (wE_mono hi fun ds c1 ⟨h1, h2⟩ => ⟨h1, by rw [h2], by rw [h2], rfl⟩) hno hl hw hr0 hre hg ?_ ?_
  · rintro i a acc S' ha hacc ⟨rfl, rfl⟩
    have ham := List.mem_of_getElem? ha
    have et : ps.take (i + 1) = ps.take i ++ [a] := by
      rw [List.take_succ, ha]; rfl
    refine wE_mono (ht a ham) fun b c ⟨hb, hc⟩ => ?_
    subst hb hc
    cases hp : p a with
    | false =>
      rw [if_neg (by simp)]
      exact ⟨rfl, rfl, by rw [et, List.filter_append, List.map_append]; simp [hp]⟩
    | true =>
      rw [if_pos rfl]
      refine wE_mono (hm a ham hp) fun r c hv => ?_
      cases q : toVal c r with
      | none => rw [q] at hv; exact hv.elim
      | some v =>
        rw [q, oE_some] at hv
        subst hv
        rw [oE_some]
        exact ⟨rfl, rfl, by rw [et, List.filter_append, List.map_append]; simp [hp]⟩
  · rintro acc S' ⟨rfl, rfl⟩ _
    rw [List.take_length]
    exact hQ
theorem WE_comp_gs {α : Type} {c : Cf} {mi : Cf → Res (List D)} {g : D → Cf → Option Cf} {t : Cf → Res Bool} {js : List Nat} {me : Em} {Q : Rv → Cf → Prop} (F : α → D) (st : α → List Sl) (ps : List α) (P : Nat → List D → List D → Prop) (ρ : List Sl)
    (hi : wE (mi c) fun ds1 c1 => ds1 = ps.map F ∧ c1.ρ = ρ ∧ P 0 [] c1.S) (hno : noOw ρ js = true) (hl : ps.length ≤ sizeLine)
    (hw : ∀ a ∈ ps, wipeR (st a) js = wipeR ρ js) (hr0 : restR ρ ρ js = ρ) (hre : ∀ a ∈ ps, restR ρ (st a) js = ρ) (hg : ∀ a ∈ ps, ∀ S, g (F a) ⟨wipeR ρ js, S⟩ = some ⟨st a, S⟩)
    (hm : ∀ i a acc S', ps[i]? = some a → acc.length ≤ i → P i acc S' → wE (t ⟨st a, S'⟩) fun b c => if b = true then wE (me c) fun r c2 => oE (toVal c2 r) fun p => p.2.ρ = st a ∧ P (i + 1) (acc ++ [p.1]) p.2.S else c.ρ = st a ∧ P (i + 1) acc c.S)
    (hQ : ∀ acc S', P ps.length acc S' → acc.length ≤ ps.length → Q (.nw (.lst acc)) ⟨ρ, S'⟩) : WE (mComp js mi g t me c) Q := WE_of (comp_gs F st ps P ρ hi hno hl hw hr0 hre hg hm hQ)
theorem WE_comp_g {α : Type} {c : Cf} {mi : Cf → Res (List D)} {g : D → Cf → Option Cf} {t : Cf → Res Bool} {js : List Nat} {me : Em} {Q : Rv → Cf → Prop} (F : α → D) (st : α → List Sl) (p : α → Bool) (f : α → D) (ps : List α) (ρ : List Sl) (S : List D)
    (hi : wE (mi c) fun ds1 c1 => ds1 = ps.map F ∧ c1 = ⟨ρ, S⟩) (hno : noOw ρ js = true) (hl : ps.length ≤ sizeLine)
    (hw : ∀ a ∈ ps, wipeR (st a) js = wipeR ρ js) (hr0 : restR ρ ρ js = ρ) (hre : ∀ a ∈ ps, restR ρ (st a) js = ρ) (hg : ∀ a ∈ ps, ∀ S, g (F a) ⟨wipeR ρ js, S⟩ = some ⟨st a, S⟩)
    (ht : ∀ a ∈ ps, wE (t ⟨st a, S⟩) fun b c => b = p a ∧ c = ⟨st a, S⟩)
    (hm : ∀ a ∈ ps, p a = true → wE (me ⟨st a, S⟩) fun r c => oE (toVal c r) fun q => q = (f a, ⟨st a, S⟩))
    (hQ : Q (.nw (.lst ((ps.filter p).map f))) ⟨ρ, S⟩) : WE (mComp js mi g t me c) Q := WE_of (comp_g F st p f ps ρ S hi hno hl hw hr0 hre hg ht hm hQ)
theorem filter_yes {α : Type} (xs : List α) : (xs.filter fun _ => true) = xs := List.filter_eq_self.mpr fun _ _ => rfl
end LH
/-! LHRev: xs[::-1] of lists and tuples. -/
namespace LH
open PySem PySem.Spec PyProof.Rows L2 HT
section
variable {prog : Program} {w : World} {A : Around} {E : Value → Shared → Prop} {s : Shared}
theorem adj_back (n : Nat) : Builtin.Slice.sliceAdjust none none (-1) (n : Int) = ((n : Int) - 1, -1) := by
  unfold Builtin.Slice.sliceAdjust
  simp
theorem plc_back (n : Nat) : Builtin.Slice.slicePlaces ((n : Int) - 1) (-1) (-1) = n := by
  unfold Builtin.Slice.slicePlaces
  have h1 : ¬ ((-1 : Int) > 0) := by decide
  simp only [h1, if_false]
  split
  · simp only [Int.neg_neg, Int.ediv_one]; omega
  · simp; omega
theorem back_items (xs : Array Value) : ((List.range xs.size).filterMap fun (k : Nat) => xs[((xs.size : Int) - 1 + (k : Int) * (-1)).toNat]?) = xs.toList.reverse := by
  have e1 : ∀ k : Nat, ((xs.size : Int) - 1 + (k : Int) * (-1)).toNat = xs.size - 1 - k := fun k => by omega
  have e2 : (fun (k : Nat) => xs[((xs.size : Int) - 1 + (k : Int) * (-1)).toNat]?) = (fun j => xs[j]?) ∘ fun k => xs.size - 1 - k := by
    funext k
    simp only [Function.comp, e1]
  rw [e2, ← List.filterMap_map, PySem.W.krv_range, List.filterMap_reverse, PySem.W.krv_all]
theorem tup_back {t sl : Addr} {items : Array Value} {vl vu vs : Value} {Q : Value → Shared → Prop} (ht : IsTup s.heap t items) (hs : s.heap.IsSliceOf sl vl vu vs) (pl : IsPart vl none) (pu : IsPart vu none) (ps : IsPart vs (some (-1)))
    (h : Q (.ref s.heap.objs.size) { s with heap := s.heap.push { cls := .type "tuple", data := .seq items.toList.reverse.toArray } }) (hsz : items.size ≤ sizeLine) : wpAny (model prog w) A (getItem (.ref t) (.ref sl)) Q E s := by
  have hok : sizeOk (.seq items.toList.reverse.toArray) := by
    show items.toList.reverse.toArray.size ≤ sizeLine
    rw [List.size_toArray, List.length_reverse, Array.length_toList]
    exact hsz
  obtain ⟨oz, hz1, hz2, hz3⟩ := id hs
  have tz : s.TypeIs (.ref sl) "slice" := ⟨oz, hz1, hz2⟩
  unfold getItem
  try with_reducible refine wpAny_holding ?_
  first | refine wpAny_bind (wpAny_pure ?_) | skip
  refine wpAny_bind (wpAny_sequenceKey ht.typeIs (by decide) ?_)
  refine wpAny_bind (wpAny_callSpecial?_slot (name := Str.ofString "__getitem__") ht.typeIs PyProof.Rows.slot_tuple_getitem (wpAny_call_entry PyProof.Rows.slot_tuple_getitem ht.typeIs entry_tuple_getitem ?_ (args_tuple_getitem _ _)))
  show wpAny (model prog w) _ (Builtin.Tuple.tupleItemsOf (.ref t) >>= _) _ E s
  refine wpAny_bind (tupleItemsOf_ ht ?_)
  refine wpAny_bind (wpAny_typeOf tz ?_)
  rw [if_pos (by decide)]
  have app : wpAny (model prog w) A.in1 (Builtin.Slice.sliceApplied (.ref sl) (pure (items.size : Int))) (fun p s1 => p = ((items.size : Int) - 1, -1, items.size) ∧ s1 = s) (fun _ _ => False) s := by
    unfold Builtin.Slice.sliceApplied Builtin.Slice.sliceFields
    refine wpAny_bind (wpAny_bind (wpAny_field hz1 hz3 (x := vl) rfl (wpAny_bind (wpAny_field hz1 hz3 (x := vu) rfl (wpAny_bind (wpAny_field hz1 hz3 (x := vs) rfl (wpAny_pure ?_)))))))
    refine wpAny_bind (slicePart_ ps ?_)
    show wpAny (model prog w) _ (if ((-1 : Int) == 0) = true then _ else _) _ _ s
    rw [if_neg (by decide)]
    refine wpAny_bind (slicePart_ pl (wpAny_bind (slicePart_ pu (wpAny_bind (wpAny_pure ?_)))))
    show wpAny (model prog w) _ (match Builtin.Slice.sliceAdjust none none (-1) (items.size : Int) with | (lo, hi) => pure (lo, (-1 : Int), Builtin.Slice.slicePlaces lo hi (-1))) _ _ s
    rw [adj_back]
    show wpAny (model prog w) _ (pure ((items.size : Int) - 1, (-1 : Int), Builtin.Slice.slicePlaces ((items.size : Int) - 1) (-1) (-1))) _ _ s
    rw [plc_back]
    exact wpAny_pure ⟨rfl, rfl⟩
  refine wpAny_bind (wpAny_mono app (fun p s1 ⟨e1, e2⟩ => ?_) fun _ _ z => z.elim)
  subst e1 e2
  have hno : ¬ (((items.size : Int) - 1 == 0 && (-1 : Int) == 1 && items.size == items.size) = true) := by
    intro q
    rw [Bool.and_eq_true, Bool.and_eq_true] at q
    exact absurd q.1.2 (by decide)
  show wpAny (model prog w) _ (if ((items.size : Int) - 1 == 0 && (-1 : Int) == 1 && items.size == items.size) = true then _ else _) _ _ _
  rw [if_neg hno, back_items]
  first
    | exact wpAny_bind (m := Builtin.Tuple.tupleExact _) (wpAny_newObj_type (wpAny_pure ⟨_, rfl, wpAny_pure h⟩) hok)
    | exact wpAny_bind (m := Builtin.Tuple.tupleExact _) (wpAny_newObj_type (wpAny_bind (wpAny_pure (wpAny_pure ⟨_, rfl, wpAny_pure h⟩))) hok)
    | exact wpAny_bind (wpAny_bind (m := Builtin.Tuple.tupleExact _) (wpAny_newObj_type (wpAny_pure (wpAny_pure ⟨_, rfl, wpAny_pure h⟩)) hok))
    | exact wpAny_bind (wpAny_bind (m := Builtin.Tuple.tupleExact _) (wpAny_newObj_type (wpAny_pure ⟨_, rfl, wpAny_pure h⟩) hok))
end
section
variable {X : Cx} {e : Expr} {me : Em} {te : L2.TE}
/-- of a list a new list, of a tuple a new tuple -/
def tBack (K : Fg) (te : L2.TE) : L2.TE := fun σ H Q => te σ H fun x H1 => ∃ a xs, x = .ref a ∧ ((SqL K H1 a xs ∧ ∀ p, H1 p = none → Q (.ref p) (upd H1 p (.lst xs.reverse))) ∨ (SqT K H1 a xs ∧ ∀ p, H1 p = none → Q (.ref p) (upd H1 p (.tup xs.reverse))))
theorem pe_back {k : Nat} {p1 p2 p3 pos : Pos} (he : PE X e te) : PE X (.Subscript e (.Slice none none (some (.UnaryOp .USub (.Constant (.int 1) k p1) p2)) p3) pos) (tBack X.K te) := by
  refine ⟨fun pins s σ H Q I h => ?_⟩
  refine Subscript_ (thn (he.run pins s σ H _ I h) fun v s1 ⟨x, H1, I1, r1, a, xs, ex, hx⟩ => ?_)
  subst ex
  cases r1
  have hst : PO X (some (.UnaryOp .USub (.Constant (.int 1) k p1) p2)) (tPart (tUn (rU fun i => .int (-i)) (tC (.int 1)))) := po_some (pe_un un_neg pe_int)
  refine wpAny_Slice (thn (po_none.run pins s1 σ H1 (fun o G => o = none ∧ G = H1) I1 ⟨rfl, rfl⟩) fun w1 s2 ⟨l2, H2, I2, pl, z1, z2⟩ => ?_)
  subst z1 z2
  refine thn (po_none.run pins s2 σ _ (fun o G => o = none ∧ G = H2) I2 ⟨rfl, rfl⟩) fun w2 s3 ⟨l3, H3, I3, pu, z1, z2⟩ => ?_
  subst z1 z2
  refine thn (hst.run pins s3 σ _ (fun o G => o = some (-1) ∧ G = H3) I3 ⟨1, rfl, -1, rfl, rfl, rfl⟩) fun w3 s4 ⟨l4, H4, I4, ps, z1, z2⟩ => ?_
  subst z1 z2
  have I5 : Inv X pins σ H4 { s4 with heap := s4.heap.push { cls := .type "slice", data := .fields #[w1, w2, w3] } } := I4.kept (t' := s4.toks) fun b ob q => Heap.get?_push_of_some _ q
  show wpAny (model X.prog X.w) X.A (subscriptTail e (.Slice none none (some (.UnaryOp .USub (.Constant (.int 1) k p1) p2)) p3) (.ref a) (.ref s4.heap.objs.size)) (EP X pins σ Q) X.xe { s4 with heap := s4.heap.push { cls := .type "slice", data := .fields #[w1, w2, w3] } }
  rcases hx with ⟨hx, q⟩ | ⟨hx, q⟩
  · obtain ⟨its, r, ht, hz⟩ := I5.list hx
    have hlen := r.length
    refine tail_any (ops := [.ref a, .ref s4.heap.objs.size]) ht.isList.typeIs (PySem.slot_list_getitem.lookup) ?_ (by with_unfolding_all rfl)
    refine wpAny_getItem_list_slice ht.isList (Heap.IsSliceOf.new _ w1 w2 w3) pl pu ps (by decide) ?_ (by rw [List.size_toArray]; omega)
    rw [PySem.W.krv_pick]
    exact ⟨.ref _, _, I5.laid (t' := s4.toks) (o := .lst xs.reverse) (fun b ob q => Heap.get?_push_of_some _ q) (Nat.le_refl _) ⟨by rw [List.length_reverse]; exact hz, _, 0, r.reverse, Heap.get?_push_size _ rfl⟩, rfl, q _ (I5.hok.fresh (Nat.le_refl _))⟩
  · obtain ⟨its, r, ht, hz⟩ := I5.tuple hx
    have hlen := r.length
    refine tail_any (ops := [.ref a, .ref s4.heap.objs.size]) ht.typeIs (PyProof.Rows.slot_tuple_getitem.lookup) ?_ (by with_unfolding_all rfl)
    refine tup_back ht (Heap.IsSliceOf.new _ w1 w2 w3) pl pu ps ?_ (by rw [List.size_toArray]; omega)
    exact ⟨.ref _, _, I5.laid (t' := s4.toks) (o := .tup xs.reverse) (fun b ob q => Heap.get?_push_of_some _ q) (Nat.le_refl _) ⟨by rw [List.length_reverse]; exact hz, its.reverse, r.reverse, _, Heap.get?_push_size _ rfl, rfl, 0, rfl⟩, rfl, q _ (I5.hok.fresh (Nat.le_refl _))⟩
def gRev (a : D) : Option Rv := match a with
  | .lst xs => some (.nw (.lst xs.reverse))
  | .ro xs => some (.nw (.lst xs.reverse))
  | .tup xs => some (.fz (.tup xs.reverse))
  | _ => none
theorem ex_rev {k : Nat} {p1 p2 p3 pos : Pos} (he : Ex X e me) : Ex X (.Subscript e (.Slice none none (some (.UnaryOp .USub (.Constant (.int 1) k p1) p2)) p3) pos) (mUn gRev me) := by
  refine ⟨fun E η M c σ H s => ?_⟩
  refine Out.bind (fun x H1 (Q : VK) => ∃ (a : Addr) (xs : List V), x = V.ref a ∧ ((SqL X.K H1 a xs ∧ ∀ p, H1 p = none → Q (.ref p) (upd H1 p (.lst xs.reverse))) ∨ (SqT X.K H1 a xs ∧ ∀ p, H1 p = none → Q (.ref p) (upd H1 p (.tup xs.reverse))))) (he E η M c σ H s) (fun Q hq => pe_we (pe_back we_pe) hq) fun r c1 x η1 M1 H1 s1 x1 z1 => ?_
  unfold m1
  cases e1 : view c1 r with
  | none => trivial
  | some d =>
    dsimp only
    cases e2 : gRev d with
    | none => trivial
    | some r' =>
      intro Q hQ
      have vw := view_ok s1 z1 e1
      unfold gRev at e2
      cases d with
      | lst ds =>
        cases e2
        obtain ⟨b, ys, rfl, q1, r1⟩ := vw.lst s1.sub
        exact ⟨b, ys, rfl, .inl ⟨.of q1, pst_nw s1 hQ fun p hp => ⟨_, upd_same, r1.reverse⟩⟩⟩
      | ro ds =>
        cases e2
        obtain ⟨b, ys, rfl, q1, r1⟩ := vw.ro s1.sub
        exact ⟨b, ys, rfl, .inl ⟨q1, pst_nw s1 hQ fun p hp => ⟨_, upd_same, r1.reverse⟩⟩⟩
      | tup ds =>
        cases e2
        obtain ⟨b, ys, rfl, q1, r1⟩ := vw.tup s1.sub
        refine ⟨b, ys, rfl, .inr ⟨.of q1, fun p hp => ?_⟩⟩
        obtain ⟨f1, f2, f3, f4⟩ := s1.free hp
        obtain ⟨s4, x4⟩ := (s1.alloc (o := .tup ys.reverse) hp).freeze f1 f2 f3 f4 upd_same
        exact hQ _ η1 _ _ s4 x4 (.tup upd_same (r1.reverse.mono x4))
      | _ => cases e2
end
end LH
/-! LHOwn: == and != of dicts, of own objects, of lists of them. -/
namespace GB
open PySem PySem.SeqAt
open AutoSeq1 (wpAny_loadPart')
open MeetsSeq MeetsSeq2 MeetsSeq3 SeqRoads2
section
variable {prog : Program} {w : World} {A : Around} {R : Result → Shared → Prop}
/-- at each turn both lists have N items; the i-th two are equal or not, as bs says -/
def Turns (prog : Program) (w : World) (A : Around) (E : Value → Shared → Prop) (l b : Addr) (N : Nat) (bs : Nat → Bool) (I : Nat → Shared → Prop) : Prop :=
  ∀ i s, I i s → ∃ (ys zs : Array Value) (n n2 : Nat), s.heap.get? l = some { cls := .type "list", data := .seq ys n } ∧ s.heap.get? b = some { cls := .type "list", data := .seq zs n2 } ∧ ys.size = N ∧ zs.size = N ∧
    ((∀ j, j < i → bs j = true) → ∀ (h1 : i < ys.size) (h2 : i < zs.size), wpAny (model prog w) A.in1 (eqBool ys[i] zs[i]) (fun r s' => r = bs i ∧ I (i + 1) s') E s)
theorem go (l b : Addr) (N : Nat) (bs : Nat → Bool) (I : Nat → Shared → Prop) (hl : Turns prog w A (fun e s' => R (.error e) s') l b N bs I)
    (yes : ∀ s, (∀ j, j < N → bs j = true) → I N s → R (.ok (.ret (.bool true))) s) (no : ∀ i s, i < N → bs i = false → I (i + 1) s → R (.ok (.ret (.bool false))) s) (k : Nat) :
    ∀ i : Nat, N - i = k → i ≤ N → (∀ j, j < i → bs j = true) → ∀ s, I i s →
      wpAny (model prog w) A.in1 (Builtin.«list.__eq__.loop» ⟨[.ref l, .ref b, rawInt i, rawInt 2], []⟩) (GQ.FinOf prog w A R) (fun e s' => R (.error e) s') s := by
  induction k with
  | zero =>
    intro i hk hi hb s h
    obtain ⟨ys, zs, n, n2, hl1, hb1, hs1, hs2, _⟩ := hl _ _ h
    obtain rfl : i = N := by omega
    have hR : R (.ok (.ret (.bool true))) s := yes s hb h
    obtain ⟨hp, g, d, tk, os⟩ := s
    wp_walk using wpAny_loadPart' hl1, wpAny_loadPart' hb1
    have hi1 : ys[((i : Nat) : Int).toNat]? = none := by simp; omega
    have hi2 : zs[((i : Nat) : Int).toNat]? = none := by simp; omega
    rw [hi1, hi2]
    wp_walk using wpAny_loadPart' hl1, wpAny_loadPart' hb1
    show R (.ok (.ret (.bool (ys.size == zs.size)))) _
    rw [hs1, hs2]
    simpa using hR
  | succ k ih =>
    intro i hk hi hb s h
    obtain ⟨ys, zs, n, n2, hl1, hb1, hs1, hs2, turn⟩ := hl _ _ h
    have hlt : i < ys.size := by omega
    have hlt2 : i < zs.size := by omega
    have ht := turn hb hlt hlt2
    obtain ⟨hp, g, d, tk, os⟩ := s
    wp_walk using wpAny_loadPart' hl1, wpAny_loadPart' hb1
    have hi1 : ys[((i : Nat) : Int).toNat]? = some ys[i] := by simp [hlt]
    have hi2 : zs[((i : Nat) : Int).toNat]? = some zs[i] := by simp [hlt2]
    have hc : ((i : Int) + 1) = ((i + 1 : Nat) : Int) := by omega
    rw [hi1, hi2]
    refine wpAny_bind (wpAny_mono ht (fun r s2 h2 => ?_) fun _ _ x => x)
    obtain ⟨hr, h2⟩ := h2
    subst hr
    cases hbi : bs i with
    | true =>
      have hrec := ih (i + 1) (by omega) (by omega) (fun j hj => by
        rcases Nat.lt_or_ge j i with q | q
        · exact hb j q
        · obtain rfl : j = i := by omega
          exact hbi) s2 h2
      obtain ⟨hp2, g2, d2, tk2, os2⟩ := s2
      wp_walk
      rw [hc]
      exact ⟨plainId_quiet plain_eq_loop _, codeAny_builtin entry_eq_loop (by
        rw [Around.under_plainId plain_eq_loop _]
        exact hrec)⟩
    | false =>
      have hn := no i s2 (by omega) hbi h2
      obtain ⟨ys', zs', m, m2, q1, q2, q3, q4, _⟩ := hl _ _ h2
      obtain ⟨hp2, g2, d2, tk2, os2⟩ := s2
      wp_walk using wpAny_loadPart' q1, wpAny_loadPart' q2
      have e1 : ys'[((i : Nat) : Int).toNat]? = some ys'[i] := by simp
      have e2 : zs'[((i : Nat) : Int).toNat]? = some zs'[i] := by simp
      rw [e1, e2]
      wp_walk
      exact hn
theorem list_same (l b : Addr) (N : Nat) (bs : Nat → Bool) (I : Nat → Shared → Prop) (hl : Turns prog w A (fun e s' => R (.error e) s') l b N bs I)
    (yes : ∀ s, (∀ j, j < N → bs j = true) → I N s → R (.ok (.ret (.bool true))) s) (no : ∀ i s, i < N → bs i = false → I (i + 1) s → R (.ok (.ret (.bool false))) s) {s : Shared} (h : I 0 s) :
    wpAny (model prog w) A.in1 (Builtin.«list.__eq__» ⟨[.ref l, .ref b], []⟩) (GQ.FinOf prog w A R) (fun e s' => R (.error e) s') s := by
  obtain ⟨ys, zs, n, n2, hl1, hb1, hs1, hs2, _⟩ := hl _ _ h
  have hrec := go (A := A) (R := R) l b N bs I hl yes no _ 0 rfl (Nat.zero_le _) (fun j hj => absurd hj (Nat.not_lt_zero _)) s h
  obtain ⟨hp, g, d, tk, os⟩ := s
  have f3 := AutoSeq1.sub_list_list
  have hne : ¬ (ys.size != zs.size) = true := by simp [hs1, hs2]
  wp_walk using wpAny_loadPart' hl1, wpAny_loadPart' hb1
  exact ⟨plainId_quiet plain_eq_loop _, codeAny_builtin entry_eq_loop (by
    rw [Around.under_plainId plain_eq_loop _]
    exact hrec)⟩
theorem list_other (l b : Addr) (ys zs : Array Value) (n n2 : Nat) {s : Shared} (hl1 : s.heap.get? l = some { cls := .type "list", data := .seq ys n }) (hb1 : s.heap.get? b = some { cls := .type "list", data := .seq zs n2 }) (hne : ys.size ≠ zs.size)
    (no : R (.ok (.ret (.bool false))) s) : wpAny (model prog w) A.in1 (Builtin.«list.__eq__» ⟨[.ref l, .ref b], []⟩) (GQ.FinOf prog w A R) (fun e s' => R (.error e) s') s := by
  obtain ⟨hp, g, d, tk, os⟩ := s
  have f3 := AutoSeq1.sub_list_list
  have hne : (ys.size != zs.size) = true := by simpa using hne
  wp_walk using wpAny_loadPart' hl1, wpAny_loadPart' hb1
  exact no
end
section
variable {prog : Program} {w : World} {A : Around} {E : Value → Shared → Prop} {s : Shared}
theorem rc_same {l b : Addr} {N : Nat} {bs : Nat → Bool} {Q : Value → Shared → Prop} (hu : A.units < cLine) (I : Nat → Shared → Prop) (hl : Turns prog w A E l b N bs I)
    (yes : ∀ s, (∀ j, j < N → bs j = true) → I N s → Q (.bool true) s) (no : ∀ i s, i < N → bs i = false → I (i + 1) s → Q (.bool false) s) (h : I 0 s) : wpAny (model prog w) A (richCompare .Eq (.ref l) (.ref b)) Q E s := by
  obtain ⟨ys, zs, n, n2, hl1, hb1, _, _, _⟩ := hl _ _ h
  refine wpAny_richCompare_same_room (op := .Eq) ⟨_, hl1, rfl⟩ ⟨_, hb1, rfl⟩ F.slot_list_eq (GQ.call_here F.slot_list_eq ⟨_, hl1, rfl⟩ F.entry_list_eq (F.args_list_eq_2 _ _) ?_) hu
  exact list_same (R := wants (fun v s' => v ≠ .notImplemented ∧ Q v s') E) l b N bs I hl (fun s' z q => ⟨(fun x => nomatch x), yes s' z q⟩) (fun i s' z1 z2 q => ⟨(fun x => nomatch x), no i s' z1 z2 q⟩) h
theorem rc_other {l b : Addr} {ys zs : Array Value} {n n2 : Nat} {Q : Value → Shared → Prop} (hu : A.units < cLine) (hl1 : s.heap.get? l = some { cls := .type "list", data := .seq ys n }) (hb1 : s.heap.get? b = some { cls := .type "list", data := .seq zs n2 }) (hne : ys.size ≠ zs.size)
    (no : Q (.bool false) s) : wpAny (model prog w) A (richCompare .Eq (.ref l) (.ref b)) Q E s := by
  refine wpAny_richCompare_same_room (op := .Eq) ⟨_, hl1, rfl⟩ ⟨_, hb1, rfl⟩ F.slot_list_eq (GQ.call_here F.slot_list_eq ⟨_, hl1, rfl⟩ F.entry_list_eq (F.args_list_eq_2 _ _) ?_) hu
  exact list_other (R := wants (fun v s' => v ≠ .notImplemented ∧ Q v s') E) l b ys zs n n2 hl1 hb1 hne ⟨(fun x => nomatch x), no⟩
end
end GB
namespace LH
open PySem PySem.Spec PyProof.Rows L2
/-! ### trees without handles -/
mutual
def nohd : D → Bool
  | .hdl _ => false
  | .ro _ => false
  | .exc _ _ => false
  | .fn _ => false
  | .lst xs => nohdL xs
  | .tup xs => nohdL xs
  | .dct kvs => nohdK kvs
  | .dcT kvs => nohdT kvs
  | .obj _ fs => nohdF fs
  | _ => true
def nohdL : List D → Bool
  | [] => true
  | x :: xs => nohd x && nohdL xs
def nohdK : List (Key × D) → Bool
  | [] => true
  | (_, x) :: xs => nohd x && nohdK xs
def nohdT : List (List Key × D) → Bool
  | [] => true
  | (_, x) :: xs => nohd x && nohdT xs
def nohdF : List (Str × D) → Bool
  | [] => true
  | (_, x) :: xs => nohd x && nohdF xs
end
theorem nohdK_map : ∀ kvs : List (Key × D), nohdK kvs = nohdL (kvs.map (·.2))
  | [] => rfl
  | (k, x) :: xs => by simp only [nohdK, List.map_cons, nohdL, nohdK_map xs]
theorem nohdT_map : ∀ kvs : List (List Key × D), nohdT kvs = nohdL (kvs.map (·.2))
  | [] => rfl
  | (k, x) :: xs => by simp only [nohdT, List.map_cons, nohdL, nohdT_map xs]
theorem nohdF_map : ∀ kvs : List (Str × D), nohdF kvs = nohdL (kvs.map (·.2))
  | [] => rfl
  | (k, x) :: xs => by simp only [nohdF, List.map_cons, nohdL, nohdF_map xs]
section
variable {K : Fg} {mg : Mg} {η : List Addr} {M : Hp}
mutual
theorem Rep.bare : ∀ {d : D} {v : V}, Rep K mg η M v d → nohd d = true → Rep K mg [] M v d
  | .non, _, .non, _ => .non
  | .bl _, _, .bl _, _ => .bl _
  | .int _, _, .int _, _ => .int _
  | .str _, _, .str _, _ => .str _
  | .lst _, _, .lst h hs, n => .lst h (RepL.bare hs (by simpa [nohd] using n))
  | .ro _, _, _, n => by simp [nohd] at n
  | .tup _, _, .tup h hs, n => .tup h (RepL.bare hs (by simpa [nohd] using n))
  | .dct kvs, _, .dct h e hs, n => .dct h e (RepL.bare hs (by rw [← nohdK_map]; simpa [nohd] using n))
  | .dcT kvs, _, .dcT h e hs, n => .dcT h e (RepL.bare hs (by rw [← nohdT_map]; simpa [nohd] using n))
  | .obj _ fs, _, .obj g h e hs, n => .obj g h e (RepL.bare hs (by rw [← nohdF_map]; simpa [nohd] using n))
  | .hdl _, _, _, n => by simp [nohd] at n
  | .exc _ _, _, _, n => by simp [nohd] at n
  | .fn _, _, _, n => by simp [nohd] at n
theorem RepL.bare : ∀ {ds : List D} {vs : List V}, RepL K mg η M vs ds → nohdL ds = true → RepL K mg [] M vs ds
  | [], _, .nil, _ => .nil
  | _ :: _, _, .cons h hs, n => by
    simp only [nohdL, Bool.and_eq_true] at n
    exact .cons (Rep.bare h n.1) (RepL.bare hs n.2)
end
end
end LH
/-! LHOwn2: own == as an operator of trees. -/
namespace LH
open PySem PySem.Spec PyProof.Rows L2
/-! ### the same object -/
mutual
/-- class names forgotten -/
def er : D → D
  | .lst xs => .lst (erL xs)
  | .tup xs => .tup (erL xs)
  | .dct kvs => .dct (erK kvs)
  | .dcT kvs => .dcT (erT kvs)
  | .obj _ fs => .obj "" (erF fs)
  | d => d
def erL : List D → List D
  | [] => []
  | x :: xs => er x :: erL xs
def erK : List (Key × D) → List (Key × D)
  | [] => []
  | (k, x) :: xs => (k, er x) :: erK xs
def erT : List (List Key × D) → List (List Key × D)
  | [] => []
  | (k, x) :: xs => (k, er x) :: erT xs
def erF : List (Str × D) → List (Str × D)
  | [] => []
  | (k, x) :: xs => (k, er x) :: erF xs
end
theorem erK_eq : ∀ {a b : List (Key × D)}, a.map (·.1) = b.map (·.1) → erL (a.map (·.2)) = erL (b.map (·.2)) → erK a = erK b
  | [], [], _, _ => rfl
  | [], _ :: _, h, _ => by simp at h
  | _ :: _, [], h, _ => by simp at h
  | (k, x) :: a, (k', x') :: b, h, h2 => by
    simp only [List.map_cons, List.cons.injEq, erL] at h h2
    simp only [erK, h.1, h2.1, erK_eq h.2 h2.2]
theorem erT_eq : ∀ {a b : List (List Key × D)}, a.map (·.1) = b.map (·.1) → erL (a.map (·.2)) = erL (b.map (·.2)) → erT a = erT b
  | [], [], _, _ => rfl
  | [], _ :: _, h, _ => by simp at h
  | _ :: _, [], h, _ => by simp at h
  | (k, x) :: a, (k', x') :: b, h, h2 => by
    simp only [List.map_cons, List.cons.injEq, erL] at h h2
    simp only [erT, h.1, h2.1, erT_eq h.2 h2.2]
theorem erF_eq : ∀ {a b : List (Str × D)}, a.map (·.1) = b.map (·.1) → erL (a.map (·.2)) = erL (b.map (·.2)) → erF a = erF b
  | [], [], _, _ => rfl
  | [], _ :: _, h, _ => by simp at h
  | _ :: _, [], h, _ => by simp at h
  | (k, x) :: a, (k', x') :: b, h, h2 => by
    simp only [List.map_cons, List.cons.injEq, erL] at h h2
    simp only [erF, h.1, h2.1, erF_eq h.2 h2.2]
theorem exv_ne {C d a : Addr} {o : HO} (h : o = ExV C d a) : (∀ xs, o ≠ .lst xs) ∧ (∀ xs, o ≠ .tup xs) ∧ (∀ xs, o ≠ .dK xs) ∧ (∀ xs, o ≠ .dT xs) ∧ ∀ C dx fs, o ≠ .ins C dx fs := by
  subst h
  exact ⟨fun _ z => (by cases z), fun _ z => (by cases z), fun _ z => (by cases z), fun _ z => (by cases z), fun _ _ _ z => (by cases z)⟩
section
variable {K : Fg} {mg : Mg} {M : Hp}
theorem Rep.lst_inv {a : Addr} {xs : List V} {e : D} (h : M a = some (.lst xs)) (r : Rep K mg [] M (.ref a) e) (n : nohd e = true) : ∃ ds, e = .lst ds ∧ RepL K mg [] M xs ds := by
  cases r with
  | lst h2 q => rw [h] at h2; cases h2; exact ⟨_, rfl, q⟩
  | ro _ _ => simp [nohd] at n
  | tup h2 _ => rw [h] at h2; cases h2
  | dct h2 _ _ => rw [h] at h2; cases h2
  | dcT h2 _ _ => rw [h] at h2; cases h2
  | obj _ h2 _ _ => rw [h] at h2; cases h2
  | hdl h2 => simp at h2
  | fn _ => simp [nohd] at n
  | exc _ _ _ _ _ => simp [nohd] at n
theorem Rep.tup_inv {a : Addr} {xs : List V} {e : D} (h : M a = some (.tup xs)) (r : Rep K mg [] M (.ref a) e) (n : nohd e = true) : ∃ ds, e = .tup ds ∧ RepL K mg [] M xs ds := by
  cases r with
  | tup h2 q => rw [h] at h2; cases h2; exact ⟨_, rfl, q⟩
  | ro _ _ => simp [nohd] at n
  | lst h2 _ => rw [h] at h2; cases h2
  | dct h2 _ _ => rw [h] at h2; cases h2
  | dcT h2 _ _ => rw [h] at h2; cases h2
  | obj _ h2 _ _ => rw [h] at h2; cases h2
  | hdl h2 => simp at h2
  | fn _ => simp [nohd] at n
  | exc _ _ _ _ _ => simp [nohd] at n
theorem Rep.dct_inv {a : Addr} {kvs : List (Key × V)} {e : D} (h : M a = some (.dK kvs)) (r : Rep K mg [] M (.ref a) e) (n : nohd e = true) : ∃ ds, e = .dct ds ∧ kvs.map (·.1) = ds.map (·.1) ∧ RepL K mg [] M (kvs.map (·.2)) (ds.map (·.2)) := by
  cases r with
  | dct h2 q1 q2 => rw [h] at h2; cases h2; exact ⟨_, rfl, q1, q2⟩
  | ro _ _ => simp [nohd] at n
  | lst h2 _ => rw [h] at h2; cases h2
  | tup h2 _ => rw [h] at h2; cases h2
  | dcT h2 _ _ => rw [h] at h2; cases h2
  | obj _ h2 _ _ => rw [h] at h2; cases h2
  | hdl h2 => simp at h2
  | fn _ => simp [nohd] at n
  | exc _ _ _ _ _ => simp [nohd] at n
theorem Rep.dcT_inv {a : Addr} {kvs : List (List Key × V)} {e : D} (h : M a = some (.dT kvs)) (r : Rep K mg [] M (.ref a) e) (n : nohd e = true) : ∃ ds, e = .dcT ds ∧ kvs.map (·.1) = ds.map (·.1) ∧ RepL K mg [] M (kvs.map (·.2)) (ds.map (·.2)) := by
  cases r with
  | dcT h2 q1 q2 => rw [h] at h2; cases h2; exact ⟨_, rfl, q1, q2⟩
  | ro _ _ => simp [nohd] at n
  | lst h2 _ => rw [h] at h2; cases h2
  | tup h2 _ => rw [h] at h2; cases h2
  | dct h2 _ _ => rw [h] at h2; cases h2
  | obj _ h2 _ _ => rw [h] at h2; cases h2
  | hdl h2 => simp at h2
  | fn _ => simp [nohd] at n
  | exc _ _ _ _ _ => simp [nohd] at n
theorem Rep.obj_inv {a C dx : Addr} {fs : List (Str × V)} {e : D} (h : M a = some (.ins C dx fs)) (r : Rep K mg [] M (.ref a) e) (n : nohd e = true) : ∃ c ds, e = .obj c ds ∧ fs.map (·.1) = ds.map (·.1) ∧ RepL K mg [] M (fs.map (·.2)) (ds.map (·.2)) := by
  cases r with
  | obj _ h2 q1 q2 => rw [h] at h2; cases h2; exact ⟨_, _, rfl, q1, q2⟩
  | ro _ _ => simp [nohd] at n
  | lst h2 _ => rw [h] at h2; cases h2
  | tup h2 _ => rw [h] at h2; cases h2
  | dct h2 _ _ => rw [h] at h2; cases h2
  | dcT h2 _ _ => rw [h] at h2; cases h2
  | hdl h2 => simp at h2
  | fn _ => simp [nohd] at n
  | exc _ _ _ _ _ => simp [nohd] at n
mutual
theorem Rep.same : ∀ {d : D} {v : V} {e : D}, Rep K mg [] M v d → Rep K mg [] M v e → nohd d = true → nohd e = true → er d = er e
  | .non, _, _, .non, .non, _, _ => rfl
  | .bl _, _, _, .bl _, .bl _, _, _ => rfl
  | .int _, _, _, .int _, .int _, _, _ => rfl
  | .str _, _, _, .str _, .str _, _, _ => rfl
  | .lst xs, _, e, .lst h hs, r, n1, n2 => by
    obtain ⟨ds, rfl, q⟩ := r.lst_inv h n2
    simp only [er, RepL.same hs q (by simpa [nohd] using n1) (by simpa [nohd] using n2)]
  | .tup xs, _, e, .tup h hs, r, n1, n2 => by
    obtain ⟨ds, rfl, q⟩ := r.tup_inv h n2
    simp only [er, RepL.same hs q (by simpa [nohd] using n1) (by simpa [nohd] using n2)]
  | .dct kvs, _, e, .dct h hk hs, r, n1, n2 => by
    obtain ⟨ds, rfl, q1, q2⟩ := r.dct_inv h n2
    have := RepL.same hs q2 (by rw [← nohdK_map]; simpa [nohd] using n1) (by rw [← nohdK_map]; simpa [nohd] using n2)
    simp only [er, erK_eq (hk.symm.trans q1) this]
  | .dcT kvs, _, e, .dcT h hk hs, r, n1, n2 => by
    obtain ⟨ds, rfl, q1, q2⟩ := r.dcT_inv h n2
    have := RepL.same hs q2 (by rw [← nohdT_map]; simpa [nohd] using n1) (by rw [← nohdT_map]; simpa [nohd] using n2)
    simp only [er, erT_eq (hk.symm.trans q1) this]
  | .obj c fs, _, e, .obj g h hk hs, r, n1, n2 => by
    obtain ⟨c', ds, rfl, q1, q2⟩ := r.obj_inv h n2
    have := RepL.same hs q2 (by rw [← nohdF_map]; simpa [nohd] using n1) (by rw [← nohdF_map]; simpa [nohd] using n2)
    simp only [er, erF_eq (hk.symm.trans q1) this]
  | .ro _, _, _, _, _, n1, _ => by simp [nohd] at n1
  | .hdl _, _, _, _, _, n1, _ => by simp [nohd] at n1
  | .exc _ _, _, _, _, _, n1, _ => by simp [nohd] at n1
  | .fn _, _, _, _, _, n1, _ => by simp [nohd] at n1
theorem RepL.same : ∀ {ds : List D} {vs : List V} {es : List D}, RepL K mg [] M vs ds → RepL K mg [] M vs es → nohdL ds = true → nohdL es = true → erL ds = erL es
  | [], _, _, .nil, .nil, _, _ => rfl
  | _ :: _, _, _, .cons h hs, .cons h' hs', n1, n2 => by
    simp only [nohdL, Bool.and_eq_true] at n1 n2
    simp only [erL, Rep.same h h' n1.1 n2.1, RepL.same hs hs' n1.2 n2.2]
end
end
/-! ### the operator -/
abbrev OwnT := List (Str × Fm)
open Classical in
noncomputable def chk (d e : D) (r : Option Bool) : Option Bool := if er d = er e ∧ r ≠ some true then none else r
def goL (f : D → D → Option Bool) : List D → List D → Option Bool
  | [], [] => some true
  | x :: xs, y :: ys => match f x y with
    | some true => goL f xs ys
    | r => r
  | _, _ => none
def hitB (ls : List (Key × D)) (p : Key × D) : Bool := match getK ls p.1 with
  | some v => eqD p.2 v
  | none => false
def eqDct (ks ls : List (Key × D)) : Option Bool := if (ks.all fun p => okq p.2) && (ls.all fun p => okq p.2) then some (ks.length == ls.length && ks.all (hitB ls)) else none
def ownEq (T : OwnT) (c : Str) (d e : D) : Option Bool := if nohd d && nohd e then (match T.lookup c with
    | some F => match F [d, e] [] with
      | .ok (.fz (.bl b)) ⟨_, []⟩ => some b
      | _ => none
    | none => none) else none
noncomputable def eqO (T : OwnT) : Nat → D → D → Option Bool
  | 0, _, _ => none
  | n + 1, d, e => if okq d && okq e then some (eqD d e) else match d, e with
    | .dct ks, .dct ls => eqDct ks ls
    | .lst xs, .lst ys => if nohdL xs && nohdL ys then (if xs.length = ys.length then goL (fun x y => chk x y (eqO T n x y)) xs ys else some false) else none
    | .obj c fs, .obj c' gs => if c = c' then ownEq T c (.obj c fs) (.obj c' gs) else none
    | _, _ => none
/-- the classes of T have these __eq__ -/
structure OwnOk (P : Program) (w : World) (K : Fg) (mg : Mg) (base : Heap) (T : OwnT) (k : Nat) : Prop where
  ex : ∀ c F, T.lookup c = some F → FnM P w K mg base c "__eq__" k 2 F ∧ ∃ C, mg c = some (.ref C) ∧ PySem.W.findIn K (.ref C) "__ne__" = some (some (.builtin "object.__ne__")) ∧ PySem.W.mroIn K C (.type "object") = some true
structure SubG (X : Cx) (n : Nat) (A : Around) : Prop where
  room : RmG n A
  fr : A.frames = X.A.frames
theorem SubG.in1 {X : Cx} {n : Nat} {A : Around} (s : SubG X (n + 1) A) : SubG X n A.in1 := ⟨⟨s.room.rm.in1, s.room.gd⟩, s.fr⟩
theorem SubG.mono {X : Cx} {n m : Nat} {A : Around} (s : SubG X n A) (h : m ≤ n) : SubG X m A := ⟨s.room.mono h, s.fr⟩
theorem SubG.units {X : Cx} {n : Nat} {A : Around} (s : SubG X n A) : A.units + 200 < cLine := by have := s.room.rm.un; omega
/-- only objects were made -/
def Gr (X : Cx) (pins : List (Addr × Obj)) (σ : St) (H : Hp) (s' : Shared) : Prop := ∃ H', Inv X pins σ H' s' ∧ ∀ a o, H a = some o → H' a = some o
section
variable {X : Cx} {T : OwnT} {k n : Nat} {d e : D} {b : Bool}
def RcB (X : Cx) (n : Nat) (d e : D) (b : Bool) : Prop := ∀ (A : Around) (pins : List (Addr × Obj)) (s : Shared) (σ : St) (H : Hp) (x y : V) (u v : Value), SubG X n A → Inv X pins σ H s → RelV x u → RelV y v → Rep X.K X.mg [] H x d → Rep X.K X.mg [] H y e →
  wpAny (model X.prog X.w) A (richCompare .Eq u v) (fun r s' => r = .bool b ∧ Gr X pins σ H s') X.xe s
def EqB (X : Cx) (n : Nat) (d e : D) (b : Bool) : Prop := ∀ (A : Around) (pins : List (Addr × Obj)) (s : Shared) (σ : St) (H : Hp) (x y : V) (u v : Value), SubG X n A → Inv X pins σ H s → RelV x u → RelV y v → Rep X.K X.mg [] H x d → Rep X.K X.mg [] H y e →
  wpAny (model X.prog X.w) A (eqBool u v) (fun r s' => r = b ∧ Gr X pins σ H s') X.xe s
theorem Gr.here {pins : List (Addr × Obj)} {σ : St} {H : Hp} {s : Shared} (I : Inv X pins σ H s) : Gr X pins σ H s := ⟨H, I, fun _ _ h => h⟩
theorem Rep.grow {K : Fg} {mg : Mg} {H H' : Hp} {x : V} {d : D} (r : Rep K mg [] H x d) (h : ∀ a o, H a = some o → H' a = some o) : Rep K mg [] H' x d := r.mono ⟨h, [], by simp⟩
theorem RepL.grow {K : Fg} {mg : Mg} {H H' : Hp} {x : List V} {d : List D} (r : RepL K mg [] H x d) (h : ∀ a o, H a = some o → H' a = some o) : RepL K mg [] H' x d := r.mono ⟨h, [], by simp⟩
/-- plain data -/
theorem reads_q {pins : List (Addr × Obj)} {σ : St} {H : Hp} {s : Shared} {x : V} {u : Value} (I : Inv X pins σ H s) (rx : RelV x u) (r : Rep X.K X.mg [] H x d) (q : okq d = true) : ∃ p as, toPy d = some p ∧ Reads s.heap u p as ∧ SeqAt.shaped p = true := by
  obtain ⟨p, h1, h2⟩ := okq_py q
  obtain ⟨as, h3⟩ := Dp.reads I p x u (rep_dp (Same.refl H) r h1) rx
  exact ⟨p, as, h1, h3, h2⟩
theorem rc_q (hd : okq d = true) (he : okq e = true) : RcB X n d e (eqD d e) := by
  intro A pins s σ H x y u v sb I rx ry r1 r2
  obtain ⟨p, as, e1, q1, h1⟩ := reads_q I rx r1 hd
  obtain ⟨q, bs, e2, q2, h2⟩ := reads_q I ry r2 he
  rw [← eqD_py e1 e2]
  exact SeqAt.rcAt_reads q1 q2 (SeqAt.canLay_of_shaped h1) (SeqAt.canLay_of_shaped h2) (SeqAt.room_of_shaped h1 (by have := sb.units; omega)) X.prog X.w X.xe _ ⟨rfl, Gr.here I⟩
theorem eq_q (hd : okq d = true) (he : okq e = true) : EqB X n d e (eqD d e) := by
  intro A pins s σ H x y u v sb I rx ry r1 r2
  obtain ⟨p, as, e1, q1, h1⟩ := reads_q I rx r1 hd
  obtain ⟨q, bs, e2, q2, h2⟩ := reads_q I ry r2 he
  rw [← eqD_py e1 e2]
  exact SeqAt.eqAt_reads p q A s u v as bs q1 q2 (SeqAt.canLay_of_shaped h1) (SeqAt.canLay_of_shaped h2) (SeqAt.room_of_shaped h1 (by have := sb.units; omega)) X.prog X.w X.xe _ ⟨rfl, Gr.here I⟩
/-- from a rich comparison of references to == of items -/
theorem RcB.eqB (h : RcB X n d e b) (hs : er d = er e → b = true) (n1 : nohd d = true) (n2 : nohd e = true) (f : ∀ {K : Fg} {mg : Mg} {H : Hp} {x : V}, Rep K mg [] H x d → ∃ a, x = .ref a) (f2 : ∀ {K : Fg} {mg : Mg} {H : Hp} {x : V}, Rep K mg [] H x e → ∃ a, x = .ref a) : EqB X n d e b := by
  intro A pins s σ H x y u v sb I rx ry r1 r2
  obtain ⟨a, rfl⟩ := f r1
  obtain ⟨c, rfl⟩ := f2 r2
  obtain rfl : u = Value.ref a := rx
  obtain rfl : v = Value.ref c := ry
  by_cases hab : a = c
  · subst hab
    have := hs (r1.same r2 n1 n2)
    subst this
    exact SeqAt.EqAt.same (A := A) (s := s) (.ref a) X.prog X.w X.xe _ ⟨rfl, Gr.here I⟩
  · refine GQ.eqBool_refG hab (wpAny_mono (h A pins s σ H (.ref a) (.ref c) _ _ sb I rfl rfl r1 r2) (fun r s' q => ?_) fun _ _ x => x)
    exact ⟨b, q.1, rfl, q.2⟩
end
end LH
/-! LHOwn3: own ==: it runs as the trees say. -/
namespace LH
open PySem PySem.Spec PyProof.Rows L2
section
variable {X : Cx} {T : OwnT} {k n : Nat} {d e : D} {b : Bool}
theorem rep_lst {K : Fg} {mg : Mg} {H : Hp} {x : V} {xs : List D} (r : Rep K mg [] H x (.lst xs)) : ∃ a vs, x = .ref a ∧ H a = some (.lst vs) ∧ RepL K mg [] H vs xs := by
  cases r with
  | lst h q => exact ⟨_, _, rfl, h, q⟩
theorem rep_dct {K : Fg} {mg : Mg} {H : Hp} {x : V} {ks : List (Key × D)} (r : Rep K mg [] H x (.dct ks)) : ∃ a kvs, x = .ref a ∧ H a = some (.dK kvs) ∧ kvs.map (·.1) = ks.map (·.1) ∧ RepL K mg [] H (kvs.map (·.2)) (ks.map (·.2)) := by
  cases r with
  | dct h q1 q2 => exact ⟨_, _, rfl, h, q1, q2⟩
theorem rep_obj {K : Fg} {mg : Mg} {H : Hp} {x : V} {c : Str} {fs : List (Str × D)} (r : Rep K mg [] H x (.obj c fs)) : ∃ a C dx ks, x = .ref a ∧ mg c = some (.ref C) ∧ H a = some (.ins C dx ks) ∧ ks.map (·.1) = fs.map (·.1) ∧ RepL K mg [] H (ks.map (·.2)) (fs.map (·.2)) := by
  cases r with
  | obj g h q1 q2 => exact ⟨_, _, _, _, rfl, g, h, q1, q2⟩
theorem goL_bits {f : D → D → Option Bool} : ∀ {xs ys : List D} {b : Bool}, goL f xs ys = some b → xs.length = ys.length → ∃ bs : Nat → Bool,
    (∀ i x y, (∀ j, j < i → bs j = true) → xs[i]? = some x → ys[i]? = some y → f x y = some (bs i)) ∧ ((∀ j, j < xs.length → bs j = true) → b = true) ∧ (∀ i, i < xs.length → bs i = false → (∀ j, j < i → bs j = true) → b = false)
  | [], [], b, h, _ => by
    cases h
    exact ⟨fun _ => true, fun i x y _ h => by simp at h, fun _ => rfl, fun i h => by simp at h⟩
  | [], _ :: _, _, _, h => by simp at h
  | _ :: _, [], _, _, h => by simp at h
  | x :: xs, y :: ys, b, h, hl => by
    unfold goL at h
    cases e : f x y with
    | none => rw [e] at h; cases h
    | some r =>
      rw [e] at h
      cases r with
      | false =>
        cases h
        refine ⟨fun _ => false, fun i x' y' hj h1 h2 => ?_, fun h => ?_, fun _ _ _ _ => rfl⟩
        · cases i with
          | zero =>
            simp at h1 h2
            subst h1 h2
            exact e
          | succ i => exact absurd (hj 0 (by omega)) (by simp)
        · exact absurd (h 0 (by simp)) (by simp)
      | true =>
        obtain ⟨bs, q1, q2, q3⟩ := goL_bits (xs := xs) (ys := ys) h (by simpa using hl)
        refine ⟨fun i => match i with | 0 => true | i + 1 => bs i, fun i x' y' hj h1 h2 => ?_, fun h => ?_, fun i hi h1 hj => ?_⟩
        · cases i with
          | zero =>
            simp at h1 h2
            subst h1 h2
            exact e
          | succ i => exact q1 i x' y' (fun j h => hj (j + 1) (by omega)) (by simpa using h1) (by simpa using h2)
        · exact q2 fun j hj => h (j + 1) (by simpa using hj)
        · cases i with
          | zero => exact absurd h1 (by simp)
          | succ i => exact q3 i (by simpa using hi) h1 fun j h => hj (j + 1) (by omega)
theorem rc_lst {xs ys : List D} {f : D → D → Option Bool} (hl : xs.length = ys.length) (h : goL f xs ys = some b) (hf : ∀ x ∈ xs, ∀ y ∈ ys, ∀ r, f x y = some r → EqB X n x y r) : RcB X (n + 1) (.lst xs) (.lst ys) b := by
  intro A pins s σ H x y u v sb I rx ry r1 r2
  obtain ⟨a, vs, rfl, ha, q1⟩ := rep_lst r1
  obtain ⟨c, ws, rfl, hc, q2⟩ := rep_lst r2
  obtain rfl : u = Value.ref a := rx
  obtain rfl : v = Value.ref c := ry
  obtain ⟨bs, p1, p2, p3⟩ := goL_bits h hl
  have l1 := q1.length
  have l2 := q2.length
  refine GB.rc_same (N := xs.length) (bs := bs) (by have := sb.units; omega) (fun i s' => Gr X pins σ H s' ∧ ∀ j, j + 1 < i → bs j = true) (fun i s' q => ?_) (fun s' hb q => ⟨by rw [p2 hb], q.1⟩) (fun i s' hi hb q => ⟨by rw [p3 i hi hb fun j hj => q.2 j (by omega)], q.1⟩) ⟨Gr.here I, fun j hj => absurd hj (by omega)⟩
  obtain ⟨⟨H1, I1, g1⟩, hpre⟩ := id q
  obtain ⟨z, its, m, rv, ea⟩ := (show ObjOk X.prog X.w H1 s'.heap a (.lst vs) from I1.hok a _ (g1 _ _ ha))
  obtain ⟨z2, its2, m2, rv2, ea2⟩ := (show ObjOk X.prog X.w H1 s'.heap c (.lst ws) from I1.hok c _ (g1 _ _ hc))
  have e1 := rv.length
  have e2 := rv2.length
  refine ⟨its.toArray, its2.toArray, m, m2, ea, ea2, by rw [List.size_toArray]; omega, by rw [List.size_toArray]; omega, fun hj h1 h2 => ?_⟩
  rw [List.size_toArray] at h1 h2
  have k1 : i < vs.length := by omega
  have k2 : i < ws.length := by omega
  obtain ⟨w1, hw1, rw1⟩ := rv.get (List.getElem?_eq_getElem k1)
  obtain ⟨w2, hw2, rw2⟩ := rv2.get (List.getElem?_eq_getElem k2)
  have g5 : its[i]? = some its.toArray[i] := by
    rw [List.getElem?_eq_getElem h1] <;> simp
  have g6 : its2[i]? = some its2.toArray[i] := by
    rw [List.getElem?_eq_getElem h2] <;> simp
  rw [g5] at hw1
  rw [g6] at hw2
  rw [Option.some.inj hw1, Option.some.inj hw2]
  obtain ⟨dx, hdx, rdx⟩ := q1.get (List.getElem?_eq_getElem k1)
  obtain ⟨dy, hdy, rdy⟩ := q2.get (List.getElem?_eq_getElem k2)
  have hfi := hf dx (List.mem_of_getElem? hdx) dy (List.mem_of_getElem? hdy) _ (p1 i dx dy hj hdx hdy)
  refine wpAny_mono (hfi A.in1 pins s' σ H1 _ _ w1 w2 sb.in1 I1 rw1 rw2 (rdx.grow g1) (rdy.grow g1)) (fun r s2 ⟨z1, H2, I2, g2⟩ => ?_) fun _ _ x => x
  exact ⟨z1, ⟨H2, I2, fun a o h => g2 a o (g1 a o h)⟩, fun j h => hj j (by omega)⟩
theorem rc_lens {xs ys : List D} (hl : xs.length ≠ ys.length) : RcB X (n + 1) (.lst xs) (.lst ys) false := by
  intro A pins s σ H x y u v sb I rx ry r1 r2
  obtain ⟨a, vs, rfl, ha, q1⟩ := rep_lst r1
  obtain ⟨c, ws, rfl, hc, q2⟩ := rep_lst r2
  obtain rfl : u = Value.ref a := rx
  obtain rfl : v = Value.ref c := ry
  have l1 := q1.length
  have l2 := q2.length
  obtain ⟨z, its, m, rv, ea⟩ := (show ObjOk X.prog X.w H s.heap a (.lst vs) from I.hok a _ ha)
  obtain ⟨z2, its2, m2, rv2, ea2⟩ := (show ObjOk X.prog X.w H s.heap c (.lst ws) from I.hok c _ hc)
  have e1 := rv.length
  have e2 := rv2.length
  exact GB.rc_other (by have := sb.units; omega) ea ea2 (by rw [List.size_toArray, List.size_toArray]; omega) ⟨rfl, Gr.here I⟩
/-! dicts -/
theorem hits_of {A : Around} {s : Shared} {H : Hp} {pins : List (Addr × Obj)} {σ : St} (I : Inv X pins σ H s) (hu : A.units + 64 < cLine) {ls : List (Key × D)} {lv : List (Key × V)} {vb : List (Key × Value)} (rb : KV lv vb) (hk : lv.map (·.1) = ls.map (·.1)) (hr : RepL X.K X.mg [] H (lv.map (·.2)) (ls.map (·.2))) (hq : ∀ p ∈ ls, okq p.2 = true) :
    ∀ {ks : List (Key × D)} {kv : List (Key × V)} {va : List (Key × Value)}, KV kv va → kv.map (·.1) = ks.map (·.1) → RepL X.K X.mg [] H (kv.map (·.2)) (ks.map (·.2)) → (∀ p ∈ ks, okq p.2 = true) →
      PySem.W.KeqHits A s vb va (ks.all (hitB ls))
  | [], [], [], _, _, _, _ => .nil
  | [], _ :: _, _, _, h, _, _ => by simp at h
  | _ :: _, [], _, _, h, _, _ => by simp at h
  | (kk, dd) :: ks, (kk', x) :: kv, va, rv, h, r, q => by
    simp only [List.map_cons, List.cons.injEq] at h
    obtain ⟨rfl, h⟩ := h
    cases rv with
    | cons hx rv =>
      rename_i p va
      obtain ⟨k3, u⟩ := p
      obtain ⟨hx1, hx2⟩ := hx
      obtain rfl : kk' = k3 := hx1
      have hx2 : RelV x u := hx2
      rw [List.map_cons, List.map_cons] at r
      cases r with
      | cons r0 r =>
        have ih := hits_of I hu rb hk hr hq rv h r fun p hp => q p (List.mem_cons_of_mem _ hp)
        -- what the other dict has at the key
        have look : ∀ {ls : List (Key × D)} {lv : List (Key × V)}, lv.map (·.1) = ls.map (·.1) → RepL X.K X.mg [] H (lv.map (·.2)) (ls.map (·.2)) → (∀ p ∈ ls, okq p.2 = true) →
            (valV lv kk' = none ∧ getK ls kk' = none) ∨ ∃ y d', valV lv kk' = some y ∧ getK ls kk' = some d' ∧ Rep X.K X.mg [] H y d' ∧ okq d' = true := by
          intro ls
          induction ls with
          | nil =>
            intro lv h1 _ _
            cases lv with
            | nil => exact .inl ⟨rfl, rfl⟩
            | cons => simp at h1
          | cons p ls ihl =>
            intro lv h1 h2 h3
            cases lv with
            | nil => simp at h1
            | cons p' lv =>
              obtain ⟨k1, d1⟩ := p
              obtain ⟨k2, y⟩ := p'
              simp only [List.map_cons, List.cons.injEq] at h1
              obtain ⟨rfl, h1⟩ := h1
              rw [List.map_cons, List.map_cons] at h2
              cases h2 with
              | cons h20 h2 =>
                by_cases hk2 : k2 = kk'
                · subst hk2
                  exact .inr ⟨y, d1, by simp [valV], by simp [getK], h20, h3 _ List.mem_cons_self⟩
                · have := ihl h1 h2 fun p hp => h3 p (List.mem_cons_of_mem _ hp)
                  have e1 : valV ((k2, y) :: lv) kk' = valV lv kk' := by simp [valV, hk2]
                  have e2 : getK ((k2, d1) :: ls) kk' = getK ls kk' := by simp [getK, hk2]
                  rw [e1, e2]
                  exact this
        rw [List.all_cons]
        show PySem.W.KeqHits A s vb _ ((match getK ls kk' with | some v => eqD dd v | none => false) && _)
        have rel := KV.val rb kk'
        rcases look hk hr hq with ⟨n1, n2⟩ | ⟨y, d', s1, s2, s3, s4⟩
        · rw [n1] at rel
          have : valueAt vb kk' = none := by
            cases hv : valueAt vb kk' with
            | none => rfl
            | some z => rw [hv] at rel; exact rel.elim
          simp only [n2, Bool.false_and]
          exact .miss this
        · obtain ⟨z, hz, rz⟩ := RelO.some_of (v := y) (o := valueAt vb kk') (by rw [← s1]; exact rel)
          simp only [s2]
          have okd := q _ List.mem_cons_self
          obtain ⟨p1, as, e1, q1, h1⟩ := reads_q I hx2 r0 okd
          obtain ⟨p2, bs, e2, q2, h2⟩ := reads_q I rz s3 s4
          refine .hit hz ?_ ih
          rw [← eqD_py e1 e2]
          exact SeqAt.eqAt_reads p1 p2 A s u z as bs q1 q2 (SeqAt.canLay_of_shaped h1) (SeqAt.canLay_of_shaped h2) (SeqAt.room_of_shaped h1 hu)
theorem rc_dct {ks ls : List (Key × D)} (h : eqDct ks ls = some b) : RcB X (n + 1) (.dct ks) (.dct ls) b := by
  intro A pins s σ H x y u v sb I rx ry r1 r2
  obtain ⟨a, kv, rfl, ha, k1, q1⟩ := rep_dct r1
  obtain ⟨c, lv, rfl, hc, k2, q2⟩ := rep_dct r2
  obtain rfl : u = Value.ref a := rx
  obtain rfl : v = Value.ref c := ry
  unfold eqDct at h
  split at h
  · rename_i hok
    rw [Bool.and_eq_true, List.all_eq_true, List.all_eq_true] at hok
    obtain ⟨_, ya, va, ra, da⟩ := (show ObjOk X.prog X.w H s.heap a (.dK kv) from I.hok a _ ha)
    obtain ⟨_, yb, vb, rb, db⟩ := (show ObjOk X.prog X.w H s.heap c (.dK lv) from I.hok c _ hc)
    have l1 := congrArg List.length k1
    have l2 := congrArg List.length k2
    rw [List.length_map, List.length_map] at l1 l2
    have e1 := ra.length
    have e2 := rb.length
    have hu := sb.units
    refine PySem.W.keq_eq (knd := mixKind X.prog X.w) ya yb da db (by omega) (fun _ => hits_of I (by show A.units + 1 + 64 < cLine; omega) rb k2 q2 hok.2 ra k1 q1 hok.1) ⟨?_, Gr.here I⟩
    cases h
    have : (va.length == vb.length) = (ks.length == ls.length) := by rw [← e1, ← e2, l1, l2]
    rw [this]
  · cases h
theorem rn_dct {ks ls : List (Key × D)} (h : eqDct ks ls = some b) (A : Around) (pins : List (Addr × Obj)) (s : Shared) (σ : St) (H : Hp) (x y : V) (u v : Value) (sb : SubG X (n + 1) A) (I : Inv X pins σ H s) (rx : RelV x u) (ry : RelV y v) (r1 : Rep X.K X.mg [] H x (.dct ks)) (r2 : Rep X.K X.mg [] H y (.dct ls)) :
    wpAny (model X.prog X.w) A (compareOp .NotEq u v) (fun r s' => r = .bool (!b) ∧ Gr X pins σ H s') X.xe s := by
  obtain ⟨a, kv, rfl, ha, k1, q1⟩ := rep_dct r1
  obtain ⟨c, lv, rfl, hc, k2, q2⟩ := rep_dct r2
  obtain rfl : u = Value.ref a := rx
  obtain rfl : v = Value.ref c := ry
  unfold eqDct at h
  split at h
  · rename_i hok
    rw [Bool.and_eq_true, List.all_eq_true, List.all_eq_true] at hok
    obtain ⟨_, ya, va, ra, da⟩ := (show ObjOk X.prog X.w H s.heap a (.dK kv) from I.hok a _ ha)
    obtain ⟨_, yb, vb, rb, db⟩ := (show ObjOk X.prog X.w H s.heap c (.dK lv) from I.hok c _ hc)
    have l1 := congrArg List.length k1
    have l2 := congrArg List.length k2
    rw [List.length_map, List.length_map] at l1 l2
    have e1 := ra.length
    have e2 := rb.length
    have hu := sb.units
    refine PySem.W.keq_ne (knd := mixKind X.prog X.w) ya yb da db (by omega) (fun _ => hits_of I (by show A.units + 1 + 64 < cLine; omega) rb k2 q2 hok.2 ra k1 q1 hok.1) ⟨?_, Gr.here I⟩
    cases h
    have : (va.length == vb.length) = (ks.length == ls.length) := by rw [← e1, ← e2, l1, l2]
    rw [this]
  · cases h
/-! own objects -/
theorem own_call {c : Str} {fs gs : List (Str × D)} (ok : OwnOk X.prog X.w X.K X.mg X.base T k) (h : ownEq T c (.obj c fs) (.obj c gs) = some b) {A : Around} {pins : List (Addr × Obj)} {s : Shared} {σ : St} {H : Hp} {x y : V} {u v : Value} (sb : SubG X k A) (I : Inv X pins σ H s) (rx : RelV x u) (ry : RelV y v)
    (r1 : Rep X.K X.mg [] H x (.obj c fs)) (r2 : Rep X.K X.mg [] H y (.obj c gs)) : ∃ a a2 C dx dy ks ls f, x = .ref a ∧ y = .ref a2 ∧ X.mg c = some (.ref C) ∧ H a = some (.ins C dx ks) ∧ H a2 = some (.ins C dy ls) ∧ Meth X.K C "__eq__" f ∧
      wpAny (model X.prog X.w) A (call (.ref f) [u, v]) (fun r s' => r = .bool b ∧ Gr X pins σ H s') X.xe s := by
  obtain ⟨a, C, dx, ks, rfl, m1, ha, _, _⟩ := rep_obj r1
  obtain ⟨a2, C2, dy, ls, rfl, m2, ha2, _, _⟩ := rep_obj r2
  rw [m1] at m2
  cases m2
  unfold ownEq at h
  split at h
  · cases hT : T.lookup c with
    | none => rw [hT] at h; cases h
    | some F =>
      rw [hT] at h
      dsimp only at h
      obtain ⟨⟨C', f, fd, ps, q1, q2, q3, q4, q5⟩, _⟩ := ok.ex c F hT
      rw [m1] at q1
      cases q1
      refine ⟨a, a2, C, dx, dy, ks, ls, f, rfl, rfl, m1, ha, ha2, q3, ?_⟩
      split at h
      · rename_i b' c' hF
        cases h
        have e0 : Env0 X.prog X.w X.K X.mg X.base A X.stack s H := by
          have e := I.env0
          exact ⟨by rw [sb.fr]; exact e.frames, e.mod, e.bs, e.bsz, e.funs, e.frf, e.hok, e.bare⟩
        have r : Vals [V.ref a, V.ref a2] [u, v] := .cons rx (.cons ry .nil)
        have sr0 : SR X.K X.mg ⟨H, [], H⟩ [] H ⟨[], []⟩ [] H :=
          ⟨Same.refl H, rfl, fun i t e => by simp at e, fun i j a d d' e => by simp at e, rfl, fun n a d e => by simp at e, List.nodup_nil, fun a o e _ => e, ⟨[], rfl⟩, fun a h => by simp at h, Same.refl H, fun a h _ => h⟩
        have hsp : spF X.K X.mg 2 F [V.ref a, V.ref a2] H (fun z H' => z = .bl b ∧ ∀ a o, H a = some o → H' a = some o) E0 := by
          refine ⟨rfl, [], H, [_, _], [], sr0, .cons r1 (.cons r2 .nil), ?_⟩
          rw [hF]
          intro z η' M' H' t rz
          refine ⟨?_, fun a o h => t.fr a o h (by simp)⟩
          have rz : Rep X.K X.mg η' M' z (.bl b) := rz
          cases rz
          rfl
        have hl := q5.len _ _ _ _ hsp
        refine wpAny_call (codeAny_mono (q5.run A X.stack s H ⟨[u, v], []⟩ [u, v] _ _ E0 sb.room e0 (by
          have := q4 s [u, v] I.kIn (by simpa using hl)
          simpa using this) r hsp) fun o s' hq => ?_)
        cases o with
        | error er => exact passL pins σ H s er s' I hq
        | ok fl =>
          cases fl with
          | ret w =>
            obtain ⟨z, H', I', rz, ez, ex⟩ := I.after hq
            subst ez
            cases rz
            exact ⟨rfl, H', I', ex⟩
          | next => exact False.elim hq
          | brk => exact False.elim hq
          | cont => exact False.elim hq
      · cases h
  · cases h
theorem rc_obj {c : Str} {fs gs : List (Str × D)} (ok : OwnOk X.prog X.w X.K X.mg X.base T k) (h : ownEq T c (.obj c fs) (.obj c gs) = some b) : RcB X k (.obj c fs) (.obj c gs) b := by
  intro A pins s σ H x y u v sb I rx ry r1 r2
  obtain ⟨a, a2, C, dx, dy, ks, ls, f, rfl, rfl, mC, ha, hb, hm, hc⟩ := own_call ok h sb I rx ry r1 r2
  obtain rfl : u = Value.ref a := rx
  obtain rfl : v = Value.ref a2 := ry
  obtain ⟨mA, J, _⟩ := ins_get I.hok ha
  obtain ⟨mB, J', _⟩ := ins_get I.hok hb
  obtain ⟨od, J, _⟩ := J.look
  obtain ⟨od', J', _⟩ := J'.look
  obtain ⟨m, hF⟩ := I.fr
  refine PySem.W.cmp_K (op := .Eq) (tb := .ref C) (by have := sb.units; omega) hF I.ok.mod.kin J J'.type (by simp [PySem.W.notFirst]) hm.at_ hm.fn (wpAny_mono hc (fun r s' q => ?_) fun _ _ z => z)
  obtain ⟨q1, q2⟩ := q
  subst q1
  exact ⟨rfl, q2⟩
/-- != of own objects is not == -/
theorem ifBound_objNe {prog : Program} {w : World} {A : Around} {E : Value → Shared → Prop} {s : Shared} {K : Fg} {x C : Addr} {ox : Obj} {od : Option Obj} {args : List Value} {Q : Option Value → Shared → Prop} (Y : K.In s.heap) (I : PySem.W.InstAt s.heap x ox C od) (hs : PySem.W.findIn K (.ref C) "__ne__" = some (some (.builtin "object.__ne__")))
    (h : wpAny (model prog w) A (call (.builtin "object.__ne__") (.ref x :: args)) (fun v => Q (some v)) E s) : wpAny (model prog w) A (callSpecialIfBound? (.ref x) "__ne__" args) Q E s := by
  simp only [callSpecialIfBound?, bindSpecialIfBound?]
  refine wpAny_holding (wpAny_bind (wpAny_bind (wpAny_bind (I.type.here ((PySem.W.looks_findIn Y hs).here ?_)))))
  refine wpAny_bind (wpAny_askSetting (wpAny_ite ?_))
  have last : wpAny (model prog w) A (call (.builtin "object.__ne__") ([.ref x] ++ args) >>= fun v => pure (some v)) Q E s := wpAny_bind (wpAny_mono h (fun v s' z => wpAny_pure z) fun _ _ z => z)
  split
  · exact wpAny_bind (wpAny_of_eq (PySem.F.cmp_object.ne.bind _) (wpAny_pure (by exact last)))
  · exact wpAny_tryCatch (wpAny_bind (wpAny_of_eq (PySem.F.cmp_object.ne.bind _) (wpAny_pure (by exact last))))
theorem objNe_own {prog : Program} {w : World} {A : Around} {E : Value → Shared → Prop} {s : Shared} {K : Fg} {x f C : Addr} {ox : Obj} {od : Option Obj} {y : Value} {Q : Fin → Shared → Prop} (Y : K.In s.heap) (I : PySem.W.InstAt s.heap x ox C od) (hm : Meth K C "__eq__" f) (hu : A.units < cLine)
    (h : wpAny (model prog w) A (call (.ref f) [.ref x, y]) (fun v s' => ∃ b, v = .bool b ∧ Q (.done (.ret (.bool (!b)))) s') E s) : wpAny (model prog w) A (Builtin.«object.__ne__» ⟨[.ref x, y], []⟩) Q E s := by
  obtain ⟨hp, g, d, t, os⟩ := s
  unfold Builtin.«object.__ne__»
  repeat (first
    | with_reducible refine wpAny_cRoomFor hu ?_
    | (refine wpAny_bind (m := callSpecialIfBound? (.ref x) (Str.ofString "__eq__") [y]) (PySem.W.ifBound_K Y I hm.at_ hm.fn (wpAny_mono h (fun v s' hr => by
          obtain ⟨b, rfl, hq⟩ := hr
          repeat (first | exact hq | exact wpAny_pure hq | exact wpAny_truthy_bool hq | (refine wpAny_bind (m := truthy (.bool _)) (wpAny_truthy_bool ?_)) | wp_step)) fun _ _ e => e)))
    | wp_step)
theorem rn_obj {c : Str} {fs gs : List (Str × D)} (ok : OwnOk X.prog X.w X.K X.mg X.base T k) (h : ownEq T c (.obj c fs) (.obj c gs) = some b) (A : Around) (pins : List (Addr × Obj)) (s : Shared) (σ : St) (H : Hp) (x y : V) (u v : Value) (sb : SubG X (k + 1) A) (I : Inv X pins σ H s) (rx : RelV x u) (ry : RelV y v)
    (r1 : Rep X.K X.mg [] H x (.obj c fs)) (r2 : Rep X.K X.mg [] H y (.obj c gs)) : wpAny (model X.prog X.w) A (compareOp .NotEq u v) (fun r s' => r = .bool (!b) ∧ Gr X pins σ H s') X.xe s := by
  obtain ⟨a, a2, C, dx, dy, ks, ls, f, rfl, rfl, mC, ha, hb, hm, hc⟩ := own_call ok h sb.in1 I rx ry r1 r2
  obtain rfl : u = Value.ref a := rx
  obtain rfl : v = Value.ref a2 := ry
  have hF : ∃ F, T.lookup c = some F := by
    unfold ownEq at h
    split at h
    · cases hT : T.lookup c with
      | none => rw [hT] at h; cases h
      | some F => exact ⟨F, rfl⟩
    · cases h
  obtain ⟨F, hT⟩ := hF
  obtain ⟨_, C', m2, hne, hmro⟩ := ok.ex c F hT
  rw [mC] at m2
  cases m2
  obtain ⟨mA, J, _⟩ := ins_get I.hok ha
  obtain ⟨mB, J', _⟩ := ins_get I.hok hb
  obtain ⟨od, J, _⟩ := J.look
  obtain ⟨od', J', _⟩ := J'.look
  have Y := I.kIn
  have hu := sb.units
  have one : wpAny (model X.prog X.w) A (tryCompare (.ref a) "__ne__" (.ref a2)) (fun r s' => r = some (.bool (!b)) ∧ Gr X pins σ H s') X.xe s := by
    unfold tryCompare
    refine wpAny_bind (ifBound_objNe Y J hne (wpAny_call (codeAny_call_builtin PySem.F.cmp_object.ne.plain PySem.F.cmpEntry_ne (PySem.W.check_slot PySem.F.cmpKind_ne PySem.F.cmpSplit_ne (J.type.andThen (PySem.W.looks_mroIn Y hmro)) (PySem.F.cmpArgs_ne _ _)
      (objNe_own (A := A.in1) Y J hm (by show A.units + 1 < cLine; omega) (wpAny_mono hc (fun r s' q => ?_) fun _ _ z => z))))))
    obtain ⟨q1, q2⟩ := q
    subst q1
    exact ⟨b, rfl, wpAny_pure ⟨rfl, q2⟩⟩
  unfold compareOp
  unfold richCompare
  simp only [oneThing_ref]
  refine wpAny_holding (wpAny_bind (wpAny_cRoomFor (by omega) ?_))
  rw [PySem.cmpInfo_NotEq]
  dsimp only
  refine wpAny_bind (J.type.here (wpAny_bind (J'.type.here ?_)))
  rw [show (Value.ref C != Value.ref C) = false from by simp]
  simp only [Bool.false_eq_true, if_false]
  refine wpAny_bind (wpAny_pure ?_)
  simp only [Bool.false_eq_true, if_false]
  refine wpAny_bind (wpAny_mono one (fun r s' q => ?_) fun _ _ z => z)
  obtain ⟨q1, q2⟩ := q
  subst q1
  first | exact wpAny_pure ⟨rfl, q2⟩ | exact wpAny_pure (wpAny_pure ⟨rfl, q2⟩)
end
end LH
/-! LHOwn4: own == and != as operators. -/
namespace LH
open PySem PySem.Spec PyProof.Rows L2
section
variable {X : Cx} {T : OwnT} {k : Nat}
theorem RcB.mono {n m : Nat} {d e : D} {b : Bool} (h : RcB X n d e b) (hn : n ≤ m) : RcB X m d e b := fun A pins s σ H x y u v sb => h A pins s σ H x y u v (sb.mono hn)
theorem chk_ok {d e : D} {r : Option Bool} {b : Bool} (h : chk d e r = some b) : r = some b ∧ (er d = er e → b = true) := by
  unfold chk at h
  split at h
  · cases h
  · rename_i hn
    subst h
    refine ⟨rfl, fun he => ?_⟩
    cases b with
    | true => rfl
    | false => exact absurd ⟨he, by simp⟩ hn
theorem nohdL_mem : ∀ {xs : List D}, nohdL xs = true → ∀ x ∈ xs, nohd x = true
  | [], _, x, h => by cases h
  | y :: xs, n, x, h => by
    simp only [nohdL, Bool.and_eq_true] at n
    rcases List.mem_cons.mp h with rfl | h
    · exact n.1
    · exact nohdL_mem n.2 x h
/-- not flat: always a reference -/
def isR : D → Bool
  | .dct _ => true
  | .lst _ => true
  | .obj _ _ => true
  | _ => false
theorem isR_ref {d : D} (h : isR d = true) {K : Fg} {mg : Mg} {H : Hp} {x : V} (r : Rep K mg [] H x d) : ∃ a, x = .ref a := by
  cases d with
  | dct _ => obtain ⟨a, _, e, _⟩ := rep_dct r; exact ⟨a, e⟩
  | lst _ => obtain ⟨a, _, e, _⟩ := rep_lst r; exact ⟨a, e⟩
  | obj _ _ => obtain ⟨a, _, _, _, e, _⟩ := rep_obj r; exact ⟨a, e⟩
  | _ => cases h
theorem eqO_refs {n : Nat} {d e : D} {b : Bool} (h : eqO T n d e = some b) (hq : ¬ (okq d && okq e) = true) : isR d = true ∧ isR e = true := by
  cases n with
  | zero => cases h
  | succ n =>
    unfold eqO at h
    rw [if_neg hq] at h
    cases d <;> cases e <;> first | exact ⟨rfl, rfl⟩ | (cases h)
theorem eqO_rc (ok : OwnOk X.prog X.w X.K X.mg X.base T k) : ∀ {n : Nat} {d e : D} {b : Bool}, eqO T n d e = some b → RcB X (k + n) d e b
  | 0, _, _, _, h => by cases h
  | n + 1, d, e, b, h => by
    have h0 := h
    unfold eqO at h
    by_cases hq : (okq d && okq e) = true
    · rw [if_pos hq] at h
      cases h
      rw [Bool.and_eq_true] at hq
      exact rc_q hq.1 hq.2
    · rw [if_neg hq] at h
      cases d with
      | dct ks =>
        cases e with
        | dct ls => exact rc_dct (n := k + n) h
        | _ => cases h
      | lst xs =>
        cases e with
        | lst ys =>
          dsimp only at h
          split at h
          · rename_i hn
            rw [Bool.and_eq_true] at hn
            split at h
            · rename_i hl
              refine rc_lst (n := k + n) hl h fun x hx y hy r hr => ?_
              obtain ⟨c1, c2⟩ := chk_ok hr
              by_cases q : (okq x && okq y) = true
              · have e1 : r = eqD x y := by
                  cases n with
                  | zero => cases c1
                  | succ n =>
                    unfold eqO at c1
                    rw [if_pos q] at c1
                    cases c1; rfl
                rw [Bool.and_eq_true] at q
                rw [e1]
                exact eq_q q.1 q.2
              · obtain ⟨z1, z2⟩ := eqO_refs c1 q
                exact (eqO_rc ok c1).eqB c2 (nohdL_mem hn.1 x hx) (nohdL_mem hn.2 y hy) (isR_ref z1) (isR_ref z2)
            · cases h
              exact rc_lens (n := k + n) (by assumption)
          · cases h
        | _ => cases h
      | obj c fs =>
        cases e with
        | obj c' gs =>
          dsimp only at h
          split at h
          · rename_i hc
            subst hc
            exact (rc_obj ok h).mono (by omega)
          · cases h
        | _ => cases h
      | _ => cases h
theorem vw_H {K : Fg} {mg : Mg} {η : List Addr} {M H : Hp} {x : V} {d : D} (hs : Same M H) (h : VwR K mg η M H x d) (n : nohd d = true) : Rep K mg [] H x d := by
  rcases h with h | ⟨a, rfl, h⟩
  · exact (h.mono (⟨hs, [], by simp⟩ : Ext η M η H)).bare n
  · obtain ⟨o, ho⟩ := h.ex
    exact (At.frozen (⟨hs, [], by simp⟩ : Ext η M η H) ho ho h).bare n
noncomputable def gEqO (T : OwnT) (n : Nat) (a b : D) : Option Rv := match gEq a b with
  | some r => some r
  | none => if nohd a && nohd b then (eqO T n a b).map fun z => .fz (.bl z) else none
noncomputable def gNeO (T : OwnT) (n : Nat) (a b : D) : Option Rv := match gNe a b with
  | some r => some r
  | none => if nohd a && nohd b then (match a, b with
    | .dct ks, .dct ls => (eqDct ks ls).map fun z => .fz (.bl (!z))
    | .obj c fs, .obj c' gs => if c = c' then (ownEq T c (.obj c fs) (.obj c' gs)).map fun z => .fz (.bl (!z)) else none
    | _, _ => none) else none
theorem o_eqO {n : Nat} (ok : OwnOk X.prog X.w X.K X.mg X.base T k) (hr : RmG (k + n) X.A) : Op2 X (Wo X (compareOp .Eq)) (gEqO T n) := by
  intro E η M c σ H x y dx dy r s h1 h2 e Q hQ
  unfold gEqO at e
  split at e
  · rename_i r' hg
    cases e
    exact o_eq (by have := hr.rm.un; omega) E η M c σ H x y dx dy r s h1 h2 hg Q hQ
  · split at e
    · rename_i hn
      rw [Bool.and_eq_true] at hn
      obtain ⟨b, hb, rfl⟩ := Option.map_eq_some_iff.mp e
      intro pins s1 σ1 v u I rx ry
      refine wpAny_mono (eqO_rc ok hb X.A pins s1 σ1 H x y v u ⟨hr, rfl⟩ I rx ry (vw_H s.sub h1 hn.1) (vw_H s.sub h2 hn.2)) (fun z s' ⟨ez, H', I', g⟩ => ?_) fun _ _ z => z
      subst ez
      exact ⟨.bl b, H', I', rfl, hQ _ η M H' (s.heap g) .refl (Rep.bl b)⟩
    · cases e
theorem o_neO {n : Nat} (ok : OwnOk X.prog X.w X.K X.mg X.base T k) (hr : RmG (k + n) X.A) (hn1 : 1 ≤ n := by decide) : Op2 X (Wo X (compareOp .NotEq)) (gNeO T n) := by
  intro E η M c σ H x y dx dy r s h1 h2 e Q hQ
  unfold gNeO at e
  split at e
  · rename_i r' hg
    cases e
    exact o_ne (by have := hr.rm.un; omega) E η M c σ H x y dx dy r s h1 h2 hg Q hQ
  · split at e
    · rename_i hn
      rw [Bool.and_eq_true] at hn
      have q1 := vw_H s.sub h1 hn.1
      have q2 := vw_H s.sub h2 hn.2
      have fin : ∀ {b : Bool} {pins : List (Addr × Obj)} {σ1 : St} {s1 : Shared} {v u : Value}, wpAny (model X.prog X.w) X.A (compareOp .NotEq v u) (fun r s' => r = .bool (!b) ∧ Gr X pins σ1 H s') X.xe s1 → r = .fz (.bl (!b)) → wpAny (model X.prog X.w) X.A (compareOp .NotEq v u) (EP X pins σ1 Q) X.xe s1 := fun {b pins σ1 s1 v u} h hr' => by
        refine wpAny_mono h (fun z s' ⟨ez, H', I', g⟩ => ?_) fun _ _ z => z
        subst ez hr'
        exact ⟨.bl (!b), H', I', rfl, hQ _ η M H' (s.heap g) .refl (Rep.bl (!b))⟩
      cases dx with
      | dct ks =>
        cases dy with
        | dct ls =>
          obtain ⟨b, hb, e⟩ := Option.map_eq_some_iff.mp e
          intro pins s1 σ1 v u I rx ry
          exact fin (rn_dct (n := 0) hb X.A pins s1 σ1 H x y v u ⟨hr.mono (by omega), rfl⟩ I rx ry q1 q2) e.symm
        | _ => cases e
      | obj cn fs =>
        cases dy with
        | obj cn' gs =>
          dsimp only at e
          split at e
          · rename_i hc
            subst hc
            obtain ⟨b, hb, e⟩ := Option.map_eq_some_iff.mp e
            intro pins s1 σ1 v u I rx ry
            exact fin (rn_obj ok hb X.A pins s1 σ1 H x y v u ⟨hr.mono (by omega), rfl⟩ I rx ry q1 q2) e.symm
          · cases e
        | _ => cases e
      | _ => cases e
    · cases e
end
theorem own_nil {P : Program} {w : World} {K : Fg} {mg : Mg} {base : Heap} {k : Nat} : OwnOk P w K mg base [] k := ⟨fun c F h => by simp at h⟩
theorem own_cons {P : Program} {w : World} {K : Fg} {mg : Mg} {base : Heap} {k j : Nat} {c : Str} {C : Addr} {F : Fm} {T : OwnT} (f : FnM P w K mg base c "__eq__" j 2 F) (hk : j ≤ k) (m : mg c = some (.ref C)) (ne : PySem.W.findIn K (.ref C) "__ne__" = some (some (.builtin "object.__ne__"))) (mr : PySem.W.mroIn K C (.type "object") = some true)
    (t : OwnOk P w K mg base T k) : OwnOk P w K mg base ((c, F) :: T) k := ⟨fun c' F' h => by
  rw [List.lookup_cons] at h
  cases q : c' == c with
  | true =>
    rw [q] at h
    cases h
    obtain rfl : c' = c := by simpa using q
    obtain ⟨C', f', fd, ps, q1, q2, q3, q4, q5⟩ := f
    exact ⟨⟨C', f', fd, ps, q1, q2, q3, q4, q5.mono hk⟩, C, m, ne, mr⟩
  | false =>
    rw [q] at h
    exact t.ex c' F' h⟩
/-! how they compute -/
theorem gEqO_of {T : OwnT} {n : Nat} {a b : D} {r : Rv} (h : gEq a b = some r) : gEqO T n a b = some r := by unfold gEqO; rw [h]
theorem gNeO_of {T : OwnT} {n : Nat} {a b : D} {r : Rv} (h : gNe a b = some r) : gNeO T n a b = some r := by unfold gNeO; rw [h]
theorem okq_no {d : D} (h : isR d = true) (ho : ∀ xs, d ≠ .lst xs) : okq d = false := by
  cases d with
  | lst xs => exact absurd rfl (ho xs)
  | dct _ => unfold okq; simp [pln]
  | obj _ _ => unfold okq; simp [pln]
  | _ => cases h
theorem ownEq_of {T : OwnT} {c : Str} {d e : D} {F : Fm} {b : Bool} {ρ : List Sl} (hT : T.lookup c = some F) (h1 : nohd d = true) (h2 : nohd e = true) (h : F [d, e] [] = .ok (.fz (.bl b)) ⟨ρ, []⟩) : ownEq T c d e = some b := by
  unfold ownEq
  rw [h1, h2, hT]
  simp [h]
theorem gEqO_obj {T : OwnT} {n : Nat} {c : Str} {fs gs : List (Str × D)} {F : Fm} {b : Bool} {ρ : List Sl} (hT : T.lookup c = some F) (h1 : nohd (.obj c fs) = true) (h2 : nohd (.obj c gs) = true) (h : F [.obj c fs, .obj c gs] [] = .ok (.fz (.bl b)) ⟨ρ, []⟩) : gEqO T (n + 1) (.obj c fs) (.obj c gs) = some (.fz (.bl b)) := by
  have q : okq (.obj c fs) = false := okq_no rfl nofun
  have g : gEq (.obj c fs) (.obj c gs) = none := by unfold gEq; rw [q]; rfl
  unfold gEqO
  rw [g, h1, h2]
  unfold eqO
  rw [q]
  simp [ownEq_of hT h1 h2 h]
theorem gNeO_obj {T : OwnT} {n : Nat} {c : Str} {fs gs : List (Str × D)} {F : Fm} {b : Bool} {ρ : List Sl} (hT : T.lookup c = some F) (h1 : nohd (.obj c fs) = true) (h2 : nohd (.obj c gs) = true) (h : F [.obj c fs, .obj c gs] [] = .ok (.fz (.bl b)) ⟨ρ, []⟩) : gNeO T n (.obj c fs) (.obj c gs) = some (.fz (.bl (!b))) := by
  have q : okq (.obj c fs) = false := okq_no rfl nofun
  have g : gNe (.obj c fs) (.obj c gs) = none := by unfold gNe; rw [q]; rfl
  unfold gNeO
  rw [g, h1, h2]
  simp [ownEq_of hT h1 h2 h]
end LH
/-! LHLenO: len of own objects. -/
namespace LH
open PySem PySem.Spec PyProof.Rows L2
/-- the classes of T have these __len__ -/
structure LenOk (P : Program) (w : World) (K : Fg) (mg : Mg) (base : Heap) (T : OwnT) (k : Nat) : Prop where
  ex : ∀ c F, T.lookup c = some F → FnM P w K mg base c "__len__" k 1 F
def ownLen (T : OwnT) (c : Str) (d : D) : Option Int := if nohd d then (match T.lookup c with
    | some F => match F [d] [] with
      | .ok (.fz (.int n)) ⟨_, []⟩ => if 0 ≤ n ∧ n < 2 ^ 62 then some n else none
      | _ => none
    | none => none) else none
def gLenO (T : OwnT) (d : D) : Option Rv := match d with
  | .obj c fs => (ownLen T c (.obj c fs)).map fun n => .fz (.int n)
  | d => gLen d
section
variable {X : Cx} {T : OwnT} {k : Nat}
theorem cspec_fn {M : Model} {A : Around} {E : Value → Shared → Prop} {s : Shared} {K : Fg} {self : Value} {name : Str} {f : Addr} {args : List Value} {Q : Option Value → Shared → Prop} (Y : K.In s.heap) (sp : PySem.W.Looks M s.heap (specialOf self name) (some (.ref f))) (hf : PySem.W.isFn K (.ref f) = true)
    (hc : wpAny M A (call (.ref f) (self :: args)) (fun v => Q (some v)) E s) : wpAny M A (callSpecial? self name args) Q E s := by
  simp only [callSpecial?]
  refine wpAny_bind (sp.here ?_)
  refine wpAny_holding (wpAny_bind ((PySem.W.bind_fn Y self (beq_iff_eq.mp hf)).here ?_))
  exact wpAny_bind (wpAny_mono hc (fun v s' z => wpAny_pure z) fun _ _ z => z)
theorem len_own {c : Str} {fs : List (Str × D)} {n : Int} (ok : LenOk X.prog X.w X.K X.mg X.base T k) (h : ownLen T c (.obj c fs) = some n) {A : Around} {pins : List (Addr × Obj)} {s : Shared} {σ : St} {H : Hp} {x : V} {u : Value} (sb : SubG X (k + 1) A) (I : Inv X pins σ H s) (rx : RelV x u)
    (r1 : Rep X.K X.mg [] H x (.obj c fs)) : wpAny (model X.prog X.w) A (call (.builtin "len") [u]) (fun r s' => (∃ t, r = .int n t) ∧ Gr X pins σ H s') X.xe s := by
  obtain ⟨a, C, dx, ks, rfl, m1, ha, _, _⟩ := rep_obj r1
  obtain rfl : u = Value.ref a := rx
  unfold ownLen at h
  split at h
  · cases hT : T.lookup c with
    | none => rw [hT] at h; cases h
    | some F =>
      rw [hT] at h
      dsimp only at h
      obtain ⟨C', f, fd, ps, q1, q2, q3, q4, q5⟩ := ok.ex c F hT
      rw [m1] at q1
      cases q1
      split at h
      · rename_i n' c' hF
        split at h
        · rename_i hn
          cases h
          have sb1 := sb.in1
          have e0 : Env0 X.prog X.w X.K X.mg X.base A.in1 X.stack s H := by
            have e := I.env0
            exact ⟨by rw [sb1.fr]; exact e.frames, e.mod, e.bs, e.bsz, e.funs, e.frf, e.hok, e.bare⟩
          have r : Vals [V.ref a] [Value.ref a] := .cons rfl .nil
          have sr0 : SR X.K X.mg ⟨H, [], H⟩ [] H ⟨[], []⟩ [] H :=
            ⟨Same.refl H, rfl, fun i t e => by simp at e, fun i j a d d' e => by simp at e, rfl, fun n a d e => by simp at e, List.nodup_nil, fun a o e _ => e, ⟨[], rfl⟩, fun a h => by simp at h, Same.refl H, fun a h _ => h⟩
          have hsp : spF X.K X.mg 1 F [V.ref a] H (fun z H' => z = .int n ∧ ∀ a o, H a = some o → H' a = some o) E0 := by
            refine ⟨rfl, [], H, [_], [], sr0, .cons r1 .nil, ?_⟩
            rw [hF]
            intro z η' M' H' t rz
            refine ⟨?_, fun a o h => t.fr a o h (by simp)⟩
            have rz : Rep X.K X.mg η' M' z (.int n) := rz
            cases rz
            rfl
          have hl := q5.len _ _ _ _ hsp
          have hcall : wpAny (model X.prog X.w) A.in1 (call (.ref f) [.ref a]) (fun r s' => (∃ t, r = .int n t) ∧ Gr X pins σ H s') X.xe s := by
            refine wpAny_call (codeAny_mono (q5.run A.in1 X.stack s H ⟨[.ref a], []⟩ [.ref a] _ _ E0 sb1.room e0 (by
              have := q4 s [.ref a] I.kIn (by simpa using hl)
              simpa using this) r hsp) fun o s' hq => ?_)
            cases o with
            | error er => exact passL pins σ H s er s' I hq
            | ok fl =>
              cases fl with
              | ret w =>
                obtain ⟨z, H', I', rz, ez, ex⟩ := I.after hq
                subst ez
                obtain ⟨t, rfl⟩ := rz
                exact ⟨⟨t, rfl⟩, H', I', ex⟩
              | next => exact False.elim hq
              | brk => exact False.elim hq
              | cont => exact False.elim hq
          obtain ⟨mA, J, _⟩ := ins_get I.hok ha
          obtain ⟨od, J, _⟩ := J.look
          refine Calls.call_function_entry kind_len plain_len entry_len (args_len1 _) ?_
          unfold Builtin.«len»
          refine wpAny_bind (m := oneArg "len" _) (wpAny_pure ?_)
          refine wpAny_bind (m := callSpecial? (.ref a) (PySem.Str.ofString "__len__")) (cspec_fn I.kIn (J.type.andThen (PySem.W.looks_findIn I.kIn q3.at_)) q3.fn (wpAny_mono hcall (fun r s' hr => ?_) fun _ _ z => z))
          obtain ⟨⟨t, rfl⟩, H', I', g⟩ := hr
          refine wpAny_bind (wpAny_holding (wpAny_pure ?_))
          refine wpAny_bind (wpAny_letGo ?_)
          show wpAny _ _ (if n < 0 then _ else _) _ _ _
          rw [if_neg (by omega)]
          show wpAny _ _ (if n ≥ 2 ^ 63 then _ else _) _ _ _
          rw [if_neg (by omega)]
          exact wpAny_bind (wpAny_mkInt (wpAny_pure ⟨_, rfl, ⟨_, rfl⟩, H', I'.tok _, g⟩))
        · cases h
      · cases h
  · cases h
theorem c_lenO (ok : LenOk X.prog X.w X.K X.mg X.base T k) (hr : RmG (k + 1) X.A) : OpN X (Wc X (.builtin "len")) (g1 (gLenO T)) := by
  refine opN1 fun E η M c σ H x dx r s h1 e Q hQ => ?_
  have old : gLen dx = some r → Wc X (.builtin "len") [x] H Q := fun e => c_len E η M c σ H [x] [dx] r s (.cons h1 .nil) e Q hQ
  unfold gLenO at e
  cases dx with
  | obj cn fs =>
    obtain ⟨n, hn, rfl⟩ := Option.map_eq_some_iff.mp e
    have hno : nohd (.obj cn fs) = true := by
      unfold ownLen at hn
      split at hn
      · assumption
      · cases hn
    intro pins s1 σ1 us I rv
    obtain ⟨u, rfl, ru⟩ := vals1 rv
    refine wpAny_mono (len_own ok hn ⟨hr, rfl⟩ I ru (vw_H s.sub h1 hno)) (fun z s' ⟨⟨t, ez⟩, H', I', g⟩ => ?_) fun _ _ z => z
    subst ez
    exact ⟨.int n, H', I', ⟨t, rfl⟩, hQ _ η M H' (s.heap g) .refl (Rep.int n)⟩
  | _ => exact old e
end
theorem len_nil {P : Program} {w : World} {K : Fg} {mg : Mg} {base : Heap} {k : Nat} : LenOk P w K mg base [] k := ⟨fun c F h => by simp at h⟩
theorem len_cons {P : Program} {w : World} {K : Fg} {mg : Mg} {base : Heap} {k j : Nat} {c : Str} {F : Fm} {T : OwnT} (f : FnM P w K mg base c "__len__" j 1 F) (hk : j ≤ k) (t : LenOk P w K mg base T k) : LenOk P w K mg base ((c, F) :: T) k := ⟨fun c' F' h => by
  rw [List.lookup_cons] at h
  cases q : c' == c with
  | true =>
    rw [q] at h
    cases h
    obtain rfl : c' = c := by simpa using q
    obtain ⟨C', f', fd, ps, q1, q2, q3, q4, q5⟩ := f
    exact ⟨C', f', fd, ps, q1, q2, q3, q4, q5.mono hk⟩
  | false =>
    rw [q] at h
    exact t.ex c' F' h⟩
theorem gLenO_lst {T : OwnT} {xs : List D} : gLenO T (.lst xs) = some (.fz (.int xs.length)) := rfl
theorem gLenO_obj {T : OwnT} {c : Str} {fs : List (Str × D)} {F : Fm} {n : Int} {ρ : List Sl} (hT : T.lookup c = some F) (h1 : nohd (.obj c fs) = true) (h : F [.obj c fs] [] = .ok (.fz (.int n)) ⟨ρ, []⟩) (h0 : 0 ≤ n) (h2 : n < 2 ^ 62) : gLenO T (.obj c fs) = some (.fz (.int n)) := by
  show (ownLen T c (.obj c fs)).map (fun n => Rv.fz (.int n)) = _
  unfold ownLen
  rw [h1, hT]
  simp only [h, if_true, h0, h2, and_self, Option.map_some]
theorem sx_stuck {X : Cx} {st : Stmt} : Sx X st (fun _ => .stuck) := ⟨fun E η M c σ H s => by intro Z gd; exact gd.elim⟩
end LH
/-! LHReprG: what repr shows, numbers of more figures. -/
namespace LH
open PySem PySem.Spec PyProof.Rows L2
structure RG (B : Nat) (d : D) (w k : Nat) : Prop where
  ex : ∃ p, toPyK d = some p ∧ p.showable = true ∧ p.leavesShort B = true ∧ p.weight ≤ w ∧ p.depth ≤ k
structure RGL (B : Nat) (ds : List D) (w k : Nat) : Prop where
  ex : ∃ ps, toPyKL ds = some ps ∧ PyData.showableAll ps = true ∧ PyData.leavesShortAll B ps = true ∧ PyData.weightAll ps ≤ w ∧ PyData.depthAll ps ≤ k
structure RGD (B : Nat) (kvs : List (Key × D)) (w k : Nat) : Prop where
  ex : ∃ ps, toPyKD kvs = some ps ∧ PyData.showableKv ps = true ∧ PyData.leavesShortKv B ps = true ∧ PyData.weightKv ps ≤ w ∧ PyData.depthKv ps ≤ k
section
variable {B w w' k k' a b : Nat} {d : D} {ds : List D} {kvs : List (Key × D)}
theorem RG.mono (h : RG B d w k) (hw : w ≤ w') (hk : k ≤ k') : RG B d w' k' := by
  obtain ⟨p, h1, h2, h3, h4, h5⟩ := h
  exact ⟨p, h1, h2, h3, by omega, by omega⟩
theorem RGL.mono (h : RGL B ds w k) (hw : w ≤ w') (hk : k ≤ k') : RGL B ds w' k' := by
  obtain ⟨p, h1, h2, h3, h4, h5⟩ := h
  exact ⟨p, h1, h2, h3, by omega, by omega⟩
theorem RGD.mono (h : RGD B kvs w k) (hw : w ≤ w') (hk : k ≤ k') : RGD B kvs w' k' := by
  obtain ⟨p, h1, h2, h3, h4, h5⟩ := h
  exact ⟨p, h1, h2, h3, by omega, by omega⟩
theorem RG.non (hB : 8 ≤ B) : RG B .non 0 k := ⟨.none, rfl, rfl, rfl, Nat.le_refl _, by simp [PyData.depth]⟩
theorem RG.bl {z : Bool} (hB : 8 ≤ B) : RG B (.bl z) 0 k := ⟨.bool z, rfl, rfl, rfl, by simp [PyData.weight], by simp [PyData.depth]⟩
theorem RG.int {n : Int} {m j : Nat} (hj : 0 < j) (hB : j + 1 ≤ B) (h : n.natAbs < 10 ^ j) (h2 : n.natAbs < 2 ^ m) (hm : 0 < m) (hm2 : m ≤ 1900) : RG B (.int n) m k := by
  have hl : n.natAbs.log2 < m := log2_lt h2 hm
  refine ⟨.int n, rfl, ?_, ?_, ?_, by simp [PyData.depth]⟩
  · simp only [PyData.showable, decide_eq_true_eq]; omega
  · simp only [PyData.leavesShort, decide_eq_true_eq]
    have e := int_text_length_le10 (k := j) hj h
    show (Str.ofString (toString n)).length ≤ B
    rw [PySem.ofString_length]; omega
  · simp only [PyData.weight]
    split <;> omega
theorem RG.str {x : Str} (hB : 10 ≤ B) (h : ∀ c ∈ x.cps.toList, c < 1114112) : RG B (.str x) x.length k := by
  refine ⟨.str x, rfl, rfl, ?_, by simp [PyData.weight, Str.length], by simp [PyData.depth]⟩
  simp only [PyData.leavesShort, List.all_eq_true, decide_eq_true_eq]
  intro c hc
  have := h c hc
  have e : (16 : Nat) ^ 8 = 4294967296 := by decide
  omega
theorem RGL.nil : RGL B [] 0 k := ⟨[], rfl, rfl, rfl, by simp [PyData.weightAll], by simp [PyData.depthAll]⟩
theorem RGL.cons (h : RG B d a k) (t : RGL B ds b k) : RGL B (d :: ds) (a + 1 + b) k := by
  obtain ⟨p, h1, h2, h3, h4, h5⟩ := h
  obtain ⟨ps, g1, g2, g3, g4, g5⟩ := t
  exact ⟨p :: ps, by unfold toPyKL; rw [h1, g1], by simp [PyData.showableAll, h2, g2], by simp [PyData.leavesShortAll, h3, g3], by simp only [PyData.weightAll]; omega, by unfold PyData.depthAll; omega⟩
theorem RGL.lst (h : RGL B ds w k) : RG B (.lst ds) w (k + 1) := by
  obtain ⟨ps, g1, g2, g3, g4, g5⟩ := h
  exact ⟨.list ps, by unfold toPyK; rw [g1]; rfl, by simp [PyData.showable, g2], by simp [PyData.leavesShort, g3], by simp only [PyData.weight]; exact g4, by unfold PyData.depth; omega⟩
theorem RGL.tup (h : RGL B ds w k) : RG B (.tup ds) w (k + 1) := by
  obtain ⟨ps, g1, g2, g3, g4, g5⟩ := h
  exact ⟨.tuple ps, by unfold toPyK; rw [g1]; rfl, by simp [PyData.showable, g2], by simp [PyData.leavesShort, g3], by simp only [PyData.weight]; exact g4, by unfold PyData.depth; omega⟩
theorem RGL.all : ∀ {ds : List D}, (∀ d ∈ ds, RG B d w k) → RGL B ds ((w + 1) * ds.length) k
  | [], _ => RGL.nil.mono (by simp) (Nat.le_refl _)
  | d :: ds, h => (RGL.cons (h d List.mem_cons_self) (RGL.all fun x hx => h x (List.mem_cons_of_mem _ hx))).mono (by rw [List.length_cons, Nat.mul_succ]; omega) (Nat.le_refl _)
theorem RGL.app : ∀ {xs ys : List D} {a : Nat}, RGL B xs a k → RGL B ys b k → RGL B (xs ++ ys) (a + b) k
  | [], ys, _, _, h => h.mono (by omega) (Nat.le_refl _)
  | x :: xs, ys, a, h, h' => by
    obtain ⟨ps, g1, g2, g3, g4, g5⟩ := h
    unfold toPyKL at g1
    cases e1 : toPyK x with
    | none => rw [e1] at g1; simp at g1
    | some p =>
      cases e2 : toPyKL xs with
      | none => rw [e1, e2] at g1; simp at g1
      | some qs =>
        rw [e1, e2] at g1
        cases g1
        simp only [PyData.showableAll, PyData.leavesShortAll, PyData.weightAll, PyData.depthAll, Bool.and_eq_true] at g2 g3 g4 g5
        have hx : RG B x p.weight k := ⟨p, e1, g2.1, g3.1, Nat.le_refl _, by omega⟩
        have ht : RGL B xs (PyData.weightAll qs) k := ⟨qs, e2, g2.2, g3.2, Nat.le_refl _, by omega⟩
        exact (RGL.cons hx (RGL.app ht h')).mono (by omega) (Nat.le_refl _)
theorem RGD.nil : RGD B [] 0 k := ⟨[], rfl, rfl, rfl, by simp [PyData.weightKv], by simp [PyData.depthKv]⟩
theorem RGD.cons {x : Str} (hB : 10 ≤ B) (hx : ∀ c ∈ x.cps.toList, c < 1114112) (h : RG B d a k) (t : RGD B kvs b k) : RGD B ((.inr x, d) :: kvs) (x.length + a + 2 + b) k := by
  obtain ⟨p, h1, h2, h3, h4, h5⟩ := h
  obtain ⟨ps, g1, g2, g3, g4, g5⟩ := t
  obtain ⟨q, q1, s1, s2, s3, _⟩ := (RG.str (k := 0) hB hx).ex
  cases q1
  exact ⟨(.str x, p) :: ps, by unfold toPyKD; rw [h1, g1]; rfl, by simp [PyData.showableKv, h2, g2, s1], by simp [PyData.leavesShortKv, h3, g3, s2], by simp only [PyData.weightKv]; omega, by unfold PyData.depthKv; simp only [PyData.depth]; omega⟩
theorem RGD.dct (h : RGD B kvs w k) : RG B (.dct kvs) w (k + 1) := by
  obtain ⟨ps, g1, g2, g3, g4, g5⟩ := h
  exact ⟨.dict ps, by unfold toPyK; rw [g1]; rfl, by simp [PyData.showable, g2], by simp [PyData.leavesShort, g3], by simp only [PyData.weight]; exact g4, by unfold PyData.depth; omega⟩
theorem RG.repr (h : RG B d w k) (hB : 8 ≤ B) (hw : (B + 2) * w + B ≤ 16777216) (hk : k ≤ 64) : ∃ t, g1 gReprK [d] = some (.fz (.str t)) := by
  obtain ⟨p, h1, h2, h3, h4, h5⟩ := h
  refine ⟨p.shown, ?_⟩
  have hz := PyData.shown_le B hB p h3
  have hz2 : (B + 2) * p.weight ≤ (B + 2) * w := Nat.mul_le_mul (Nat.le_refl _) h4
  have hz3 : p.shown.length ≤ sizeLine := by rw [sizeLine_eq]; omega
  show ((toPyK d).bind shownK).map (fun t => Rv.fz (.str t)) = _
  rw [h1, Option.bind_some]
  unfold shownK
  have hd : p.depth ≤ 64 := by omega
  simp [h2, hd, hz3]
end
theorem wE_mRng2 {ms : Cf → Res (List Rv)} {c : Cf} {Q : List D → Cf → Prop} : wE (mRng2 ms c) Q = wE (ms c) fun rs c1 => oE (views c1 rs) fun ds => match ds with
  | [.int i, .int j] => (-(2 ^ 62) ≤ i ∧ i < 2 ^ 62 ∧ -(2 ^ 62) ≤ j ∧ j < 2 ^ 62) ∧ Q (rangeD i (j - i).toNat) c1
  | _ => False := by
  unfold mRng2
  rw [wE_bind]
  congr 1
  funext rs c1
  cases views c1 rs with
  | none => rfl
  | some ds =>
    rw [oE_some]
    split
    · rename_i i j e
      cases e
      rw [wE_ite]
      by_cases h : -(2 ^ 62) ≤ i ∧ i < 2 ^ 62 ∧ -(2 ^ 62) ≤ j ∧ j < 2 ^ 62
      · rw [if_pos h]; simp only [wE_ok]; exact propext ⟨fun z => ⟨h, z⟩, fun z => z.2⟩
      · rw [if_neg h]; simp only [wE_stuck]; exact propext ⟨fun z => z.elim, fun z => h z.1⟩
    · rename_i h
      split
      · exact absurd rfl (h _ _)
      · rfl
end LH
/-! LHX: readings that tell of what is raised, too (printed by genx.py). -/
namespace LH
open PySem PySem.Spec PyProof.Rows L2
/-- r ends well, with Q, or raises, with E -/
def wZ {α : Type} (E : Xc → Cf → Prop) (r : Res α) (Q : α → Cf → Prop) : Prop := match r with
  | .ok a c => Q a c
  | .err x c => E x c
  | .stuck => False
section
variable {α β : Type} {E : Xc → Cf → Prop} {c : Cf} {m ma mb mo me mv : Em} {g1 : D → Option Rv} {g : D → D → Option Rv} {ms : Cf → Res (List Rv)} {t u : Cf → Res Bool}
theorem wZ_mono {E' : Xc → Cf → Prop} {x : Res α} {Q Q' : α → Cf → Prop} (h : wZ E x Q) (k : ∀ a c, Q a c → Q' a c) (ke : ∀ x c, E x c → E' x c) : wZ E' x Q' := by
  cases x with
  | ok a c => exact k a c h
  | err y c => exact ke y c h
  | stuck => exact h
theorem wZ_of {x : Res α} {Q : α → Cf → Prop} (h : wE x Q) : wZ E x Q := by
  cases x with
  | ok a c => exact h
  | _ => exact h.elim
theorem wZ_errE {y : Xc} {c1 : Cf} {x : Res α} {Q : α → Cf → Prop} (e : x = .err y c1) (h : E y c1) : wZ E x Q := by rw [e]; exact h
theorem wZ_okE {a : α} {c1 : Cf} {x : Res α} {Q : α → Cf → Prop} (e : x = .ok a c1) (h : Q a c1) : wZ E x Q := by rw [e]; exact h
@[simp] theorem wZ_err {y : Xc} {c1 : Cf} {Q : α → Cf → Prop} : wZ E (.err y c1) Q = E y c1 := propext Iff.rfl
@[simp] theorem wZ_bind {x : Res β} {f : β → Cf → Res α} {Q : α → Cf → Prop} : wZ E (x.bind f) Q = wZ E x fun b c => wZ E (f b c) Q := by cases x <;> rfl
@[simp] theorem wZ_st {x : Res Rv} {Q : Rv → Cf → Prop} : wZ E x.st Q = wZ E x fun r c => Q (settle r) c := by cases x <;> rfl
@[simp] theorem wZ_ok {a : α} {Q : α → Cf → Prop} : wZ E (.ok a c) Q = Q a c := propext Iff.rfl
@[simp] theorem wZ_stuck {Q : α → Cf → Prop} : wZ E (.stuck : Res α) Q = False := propext Iff.rfl
theorem wZ_opt {o : Option β} {f : β → Res α} {Q : α → Cf → Prop} : wZ E (match o with | some b => f b | none => .stuck) Q = oE o fun b => wZ E (f b) Q := by cases o <;> rfl
theorem wZ_ite {p : Prop} [Decidable p] {a b : Res α} {Q : α → Cf → Prop} : wZ E (if p then a else b) Q = if p then wZ E a Q else wZ E b Q := by split <;> rfl
@[simp] theorem wZ_bCons {m1 m2 : Sm} {Q : Fl → Cf → Prop} : wZ E (bCons m1 m2 c) Q = wZ E (m1 c) fun fl c1 => match fl with | .nx => wZ E (m2 c1) Q | fl => Q fl c1 := by
  unfold bCons
  cases m1 c with
  | ok fl c1 => cases fl <;> rfl
  | _ => rfl
@[simp] theorem wZ_sIf {m1 m2 : Sm} {Q : Fl → Cf → Prop} : wZ E (sIf t m1 m2 c) Q = wZ E (t c) fun b c1 => if b = true then wZ E (m1 c1) Q else wZ E (m2 c1) Q := by
  simp [sIf, wZ_ite]
@[simp] theorem wZ_bNil {Q : Fl → Cf → Prop} : wZ E (bNil c) Q = Q .nx c := propext Iff.rfl
@[simp] theorem wZ_mBool {Q : Bool → Cf → Prop} : wZ E (mBool ma c) Q = wZ E (ma c) fun a c1 => oE (view c1 a) fun d => match d with | .bl b => Q b c1 | _ => False := by
  unfold mBool
  rw [wZ_bind]
  congr 1
  funext a c1
  cases view c1 a with
  | none => rfl
  | some d => cases d <;> rfl
@[simp] theorem wZ_mTruth {Q : Bool → Cf → Prop} : wZ E (mTruth ma c) Q = wZ E (ma c) fun a c1 => oE (view c1 a) fun d => oE (truthD d) fun b => Q b c1 := by
  unfold mTruth
  rw [wZ_bind]
  congr 1
  funext a c1
  cases view c1 a with
  | none => rfl
  | some d =>
    show wZ E (match truthD d with | some b => .ok b c1 | none => .stuck) Q = oE (truthD d) fun b => Q b c1
    cases truthD d <;> rfl
@[simp] theorem wZ_tmAnd {Q : Bool → Cf → Prop} : wZ E (tmAnd t u c) Q = wZ E (t c) fun b c1 => if b = true then wZ E (u c1) Q else Q false c1 := by
  unfold tmAnd
  rw [wZ_bind]
  congr 1
  funext b c1
  cases b <;> simp
@[simp] theorem wZ_tmOr {Q : Bool → Cf → Prop} : wZ E (tmOr t u c) Q = wZ E (t c) fun b c1 => if b = true then Q true c1 else wZ E (u c1) Q := by
  unfold tmOr
  rw [wZ_bind]
  congr 1
  funext b c1
  cases b <;> simp
@[simp] theorem wZ_tmNot {Q : Bool → Cf → Prop} : wZ E (tmNot t c) Q = wZ E (t c) fun b c1 => Q (!b) c1 := by simp [tmNot]
@[simp] theorem wZ_mBin {Q : Rv → Cf → Prop} : wZ E (mBin g ma mb c) Q = wZ E (ma c) fun a c1 => wZ E (mb c1) fun b c2 => wZ E (m2 g (settle a) (settle b) c2) Q := by simp [mBin]
@[simp] theorem wZ_mUn {Q : Rv → Cf → Prop} : wZ E (mUn g1 ma c) Q = wZ E (ma c) fun a c1 => wZ E (m1 g1 a c1) Q := by simp [mUn]
@[simp] theorem wZ_m1 {a : Rv} {Q : Rv → Cf → Prop} : wZ E (m1 g1 a c) Q = oE (view c a) fun x => oE (g1 x) fun r => Q r c := by
  unfold m1
  cases view c a with
  | none => rfl
  | some x =>
    show wZ E (match g1 x with | some r => .ok r c | none => .stuck) Q = oE (g1 x) fun r => Q r c
    cases g1 x <;> rfl
@[simp] theorem wZ_mVar {i : Nat} {ρ : List Sl} {S : List D} {Q : Rv → Cf → Prop} : wZ E (mVar i ⟨ρ, S⟩) Q = match ρ[i]? with
    | some (.fz d) => Q (.fz d) ⟨ρ, S⟩
    | some (.ow _) => Q (.loc i) ⟨ρ, S⟩
    | _ => False := by
  unfold mVar
  dsimp only
  cases ρ[i]? with
  | none => rfl
  | some s => cases s <;> rfl
@[simp] theorem wZ_m2 {a b : Rv} {Q : Rv → Cf → Prop} : wZ E (m2 g a b c) Q = oE (view c a) fun x => oE (view c b) fun y => oE (g x y) fun r => Q r c := by
  unfold m2
  cases view c a with
  | none => rfl
  | some x => cases view c b with
    | none => rfl
    | some y =>
      show wZ E (match g x y with | some r => .ok r c | none => .stuck) Q = oE (g x y) fun r => Q r c
      cases g x y <;> rfl
@[simp] theorem wZ_mC {d : D} {Q : Rv → Cf → Prop} : wZ E (mC d c) Q = Q (.fz d) c := propext Iff.rfl
@[simp] theorem wZ_sSet {i : Nat} {Q : Fl → Cf → Prop} : wZ E (sSet i m c) Q = wZ E (m c) fun r c1 => oE (putR i r c1) fun c2 => Q .nx c2 := by
  unfold sSet
  rw [wZ_bind]
  congr 1
  funext r c1
  cases putR i r c1 <;> rfl
@[simp] theorem wZ_sSetH {i : Nat} {Q : Fl → Cf → Prop} : wZ E (sSetH i m c) Q = wZ E (m c) fun r c1 => oE (putH i r c1) fun c2 => Q .nx c2 := by
  unfold sSetH
  rw [wZ_bind]
  congr 1
  funext r c1
  cases putH i r c1 <;> rfl
@[simp] theorem wZ_sPut {G : D → D → D → Option D} {mv mo mi : Em} {Q : Fl → Cf → Prop} : wZ E (sPut G mv mo mi c) Q = wZ E (mv c) fun rv c1 => wZ E (mo c1) fun ro c2 => wZ E (mi c2) fun ri c3 => oE (view c3 ri) fun di => oE (toVal c3 (settle rv)) fun p => oE (cont p.2 (settle ro)) fun d => oE (G d di p.1) fun d' => oE (putB p.2 (settle ro) d') fun c5 => Q .nx c5 := by
  unfold sPut
  rw [wZ_bind, wZ_st]
  congr 1
  funext rv c1
  rw [wZ_bind, wZ_st]
  congr 1
  funext ro c2
  rw [wZ_bind]
  congr 1
  funext ri c3
  cases view c3 ri with
  | none => rfl
  | some di =>
    simp only [oE_some]
    cases toVal c3 (settle rv) with
    | none => rfl
    | some p =>
      obtain ⟨dv, c4⟩ := p
      simp only [oE_some]
      cases cont c4 (settle ro) with
      | none => rfl
      | some d =>
        simp only [oE_some]
        cases G d di dv with
        | none => rfl
        | some d' =>
          simp only [oE_some]
          cases putB c4 (settle ro) d' <;> rfl
@[simp] theorem wZ_sRet {Q : Fl → Cf → Prop} : wZ E (sRet m c) Q = wZ E (m c) fun r c1 => Q (.rt r) c1 := by simp [sRet]
@[simp] theorem wZ_sDrop {Q : Fl → Cf → Prop} : wZ E (sDrop m c) Q = wZ E (m c) fun _ c1 => Q .nx c1 := by simp [sDrop]
@[simp] theorem wZ_sUnp {is : List Nat} {Q : Fl → Cf → Prop} : wZ E (sUnp is m c) Q = wZ E (m c) fun r c1 => oE (toVal c1 r) fun p => match p.1 with | .tup ds => oE (fzL is ds p.2) fun c3 => Q .nx c3 | _ => False := by
  unfold sUnp
  rw [wZ_bind]
  congr 1
  funext r c1
  cases toVal c1 r with
  | none => rfl
  | some p =>
    obtain ⟨d, c2⟩ := p
    cases d with
    | tup ds =>
      show wZ E (match fzL is ds c2 with | some c3 => .ok .nx c3 | none => .stuck) Q = oE (fzL is ds c2) fun c3 => Q .nx c3
      cases fzL is ds c2 <;> rfl
    | _ => rfl
@[simp] theorem wZ_sPend {is : List Nat} {l : List Em} {Q : Fl → Cf → Prop} : wZ E (sPend is l c) Q = wZ E (mPend l c) fun ps c1 => ps.length ≤ sizeLine ∧ oE (putL is ps c1) fun c2 => Q .nx c2 := by
  unfold sPend
  rw [wZ_bind]
  congr 1
  funext ps c1
  rw [wZ_ite]
  by_cases h : ps.length ≤ sizeLine
  · rw [if_pos h]
    cases putL is ps c1 <;> simp [h]
  · rw [if_neg h]; simp [h]
@[simp] theorem mPendZ_nil {Q : List Pend → Cf → Prop} : wZ E (mPend [] c) Q = Q [] c := propext Iff.rfl
@[simp] theorem mPendZ_cons {l : List Em} {Q : List Pend → Cf → Prop} : wZ E (mPend (m :: l) c) Q = wZ E (m c) fun r c1 => oE (pend c1 r) fun p => wZ E (mPend l p.2) fun ps c3 => Q (p.1 :: ps) c3 := by
  show wZ E ((m c).bind _) Q = _
  rw [wZ_bind]
  congr 1
  funext r c1
  cases pend c1 r with
  | none => rfl
  | some p => obtain ⟨p, c2⟩ := p; simp
@[simp] theorem wZ_mLst {Q : Rv → Cf → Prop} : wZ E (mLst ms c) Q = wZ E (ms c) fun rs c1 => oE (vals c1 rs) fun p => p.1.length ≤ sizeLine ∧ Q (.nw (.lst p.1)) p.2 := by
  unfold mLst
  rw [wZ_bind]
  congr 1
  funext rs c1
  cases vals c1 rs with
  | none => rfl
  | some p =>
    obtain ⟨ds, c2⟩ := p
    show wZ E (if ds.length ≤ sizeLine then _ else _) Q = (ds.length ≤ sizeLine ∧ _)
    by_cases h : ds.length ≤ sizeLine
    · rw [if_pos h]; simp [h]
    · rw [if_neg h]; simp [h]
@[simp] theorem wZ_mTup {Q : Rv → Cf → Prop} : wZ E (mTup ms c) Q = wZ E (ms c) fun rs c1 => oE (vals c1 rs) fun p => p.1.length ≤ sizeLine ∧ Q (.fz (.tup p.1)) p.2 := by
  unfold mTup
  rw [wZ_bind]
  congr 1
  funext rs c1
  cases vals c1 rs with
  | none => rfl
  | some p =>
    obtain ⟨ds, c2⟩ := p
    show wZ E (if ds.length ≤ sizeLine then _ else _) Q = (ds.length ≤ sizeLine ∧ _)
    by_cases h : ds.length ≤ sizeLine
    · rw [if_pos h]; simp [h]
    · rw [if_neg h]; simp [h]
@[simp] theorem wZ_mCB {G : List D → Option Rv} {Q : Rv → Cf → Prop} : wZ E (mCB G ms c) Q = wZ E (ms c) fun rs c1 => oE (views c1 rs) fun ds => oE (G ds) fun r => Q r c1 := by
  unfold mCB
  rw [wZ_bind]
  congr 1
  funext rs c1
  cases views c1 rs with
  | none => rfl
  | some ds =>
    show wZ E (match G ds with | some r => .ok r c1 | none => .stuck) Q = oE (G ds) fun r => Q r c1
    cases G ds <;> rfl
@[simp] theorem wZ_mCall {n : Nat} {F : Fm} {Q : Rv → Cf → Prop} : wZ E (mCall n F ms c) Q = wZ E (ms c) fun rs c1 => oE (vals c1 rs) fun p => p.1.length = n ∧ wZ (fun x c3 => E x ⟨p.2.ρ, c3.S⟩) (F p.1 p.2.S) fun r c3 => Q r ⟨p.2.ρ, c3.S⟩ := by
  unfold mCall
  rw [wZ_bind]
  congr 1
  funext rs c1
  cases vals c1 rs with
  | none => rfl
  | some p =>
    obtain ⟨ds, c2⟩ := p
    show wZ E (if ds.length = n then _ else _) Q = (ds.length = n ∧ _)
    by_cases h : ds.length = n
    · rw [if_pos h]
      cases F ds c2.S <;> simp [h, wZ]
    · rw [if_neg h]; simp [h]
@[simp] theorem wZ_mMut {T : String} {G : D → List D → Option (D × D)} {Q : Rv → Cf → Prop} : wZ E (mMut T G m ms c) Q = wZ E (m c) fun r c1 => oE (cont c1 r) fun d1 => tyD T d1 = true ∧ wZ E (ms c1) fun rs c2 => oE (vals c2 rs) fun p => oE (cont p.2 r) fun d => oE (G d p.1) fun q => oE (putB p.2 r q.1) fun c4 => Q (.fz q.2) c4 := by
  unfold mMut
  rw [wZ_bind]
  congr 1
  funext r c1
  cases cont c1 r with
  | none => rfl
  | some d1 =>
    show wZ E (if tyD T d1 = true then _ else _) Q = (tyD T d1 = true ∧ _)
    by_cases h : tyD T d1 = true
    · rw [if_pos h, wZ_bind]
      simp only [h, true_and]
      congr 1
      funext rs c2
      cases vals c2 rs with
      | none => rfl
      | some p =>
        obtain ⟨ds, c3⟩ := p
        simp only [oE_some]
        cases cont c3 r with
        | none => rfl
        | some d =>
          simp only [oE_some]
          cases G d ds with
          | none => rfl
          | some q =>
            obtain ⟨d', res⟩ := q
            simp only [oE_some]
            cases putB c3 r d' <;> rfl
    · rw [if_neg h]; simp [h]
@[simp] theorem wZ_mSeq {Q : List D → Cf → Prop} : wZ E (mSeq m c) Q = wZ E (m c) fun r c1 => oE (toVal c1 r) fun p => match p.1 with | .lst ds => Q ds p.2 | .ro ds => Q ds p.2 | .tup ds => Q ds p.2 | .str x => Q (signsD x) p.2 | _ => False := by
  unfold mSeq
  rw [wZ_bind]
  congr 1
  funext a c1
  cases toVal c1 a with
  | none => rfl
  | some p =>
    obtain ⟨d, c2⟩ := p
    cases d <;> rfl
@[simp] theorem wZ_mRng1 {Q : List D → Cf → Prop} : wZ E (mRng1 ms c) Q = wZ E (ms c) fun rs c1 => oE (views c1 rs) fun ds => match ds with | [.int j] => (-(2 ^ 62) ≤ j ∧ j < 2 ^ 62) ∧ Q (rangeD 0 j.toNat) c1 | _ => False := by
  unfold mRng1
  rw [wZ_bind]
  congr 1
  funext rs c1
  cases views c1 rs with
  | none => rfl
  | some ds =>
    show wZ E (match some ds with | some [.int j] => if -(2 ^ 62) ≤ j ∧ j < 2 ^ 62 then .ok (rangeD 0 j.toNat) c1 else .stuck | _ => .stuck) Q = (match ds with | [.int j] => (-(2 ^ 62) ≤ j ∧ j < 2 ^ 62) ∧ Q (rangeD 0 j.toNat) c1 | _ => False)
    split
    · rename_i j e
      cases e
      rw [wZ_ite]
      by_cases h : -(2 ^ 62) ≤ j ∧ j < 2 ^ 62
      · rw [if_pos h]; simp only [wZ_ok]; exact propext ⟨fun z => ⟨h, z⟩, fun z => z.2⟩
      · rw [if_neg h]; simp only [wZ_stuck]; exact (propext ⟨fun z => z.elim, fun z => h z.1⟩)
    · rename_i h
      split
      · exact absurd rfl (h _)
      · rfl
theorem wZ_for {mi : Cf → Res (List D)} {g : D → Cf → Option Cf} {body : Sm} {Q : Fl → Cf → Prop} : wZ E (sFor mi g body c) Q = wZ E (mi c) fun ds c1 => wZ E (forD g body ds c1) Q := by simp [sFor]
@[simp] theorem wZ_mDisp {ps : List (Key × Em)} {Q : Rv → Cf → Prop} : wZ E (mDisp ps c) Q = wZ E (mPairs ps c) fun kvs c1 => kvs.length ≤ 15 ∧ Q (.nw (.dct (mergeD kvs []))) c1 := by
  unfold mDisp
  rw [wZ_bind]
  congr 1
  funext kvs c1
  rw [wZ_ite]
  by_cases h : kvs.length ≤ 15
  · rw [if_pos h]; simp [h]
  · rw [if_neg h]; simp [h]
@[simp] theorem wZ_mPairs_nil {Q : List (Key × D) → Cf → Prop} : wZ E (mPairs [] c) Q = Q [] c := propext Iff.rfl
@[simp] theorem wZ_mPairs_cons {k : Key} {ps : List (Key × Em)} {Q : List (Key × D) → Cf → Prop} : wZ E (mPairs ((k, m) :: ps) c) Q = wZ E (m c) fun r c1 => oE (toVal c1 r) fun p => wZ E (mPairs ps p.2) fun kvs c3 => Q ((k, p.1) :: kvs) c3 := by
  show wZ E ((m c).bind _) Q = _
  rw [wZ_bind]
  congr 1
  funext r c1
  cases toVal c1 r with
  | none => rfl
  | some p => obtain ⟨d, c2⟩ := p; simp
@[simp] theorem wZ_tmYes {Q : Bool → Cf → Prop} : wZ E (tmYes c) Q = Q true c := propext Iff.rfl
@[simp] theorem wZ_mIfE {Q : Rv → Cf → Prop} : wZ E (mIfE t ma mb c) Q = wZ E (t c) fun b c1 => if b = true then wZ E (ma c1) Q else wZ E (mb c1) Q := by
  simp [mIfE, wZ_ite]
@[simp] theorem wZ_maCons {Q : List Rv → Cf → Prop} : wZ E (maCons m ms c) Q = wZ E (m c) fun r c1 => wZ E (ms c1) fun rs c2 => Q (settle r :: rs) c2 := by simp [maCons]
@[simp] theorem wZ_maNil {Q : List Rv → Cf → Prop} : wZ E (maNil c) Q = Q [] c := propext Iff.rfl
@[simp] theorem wZ_sSetF {i : Nat} {Q : Fl → Cf → Prop} : wZ E (sSetF i m c) Q = wZ E (m c) fun r c1 => oE (toVal c1 r) fun p => i < p.2.ρ.length ∧ Q .nx { p.2 with ρ := p.2.ρ.set i (.fz p.1) } := by
  unfold sSetF
  rw [wZ_bind]
  congr 1
  funext r c1
  cases toVal c1 r with
  | none => rfl
  | some p =>
    obtain ⟨d, c2⟩ := p
    show wZ E (if i < c2.ρ.length then _ else _) Q = (i < c2.ρ.length ∧ _)
    by_cases h : i < c2.ρ.length
    · rw [if_pos h]; simp [h]
    · rw [if_neg h]; simp [h]
@[simp] theorem wZ_sFrz {is : List Nat} {m : Sm} {Q : Fl → Cf → Prop} : wZ E (sFrz is m c) Q = wZ E (m c) fun fl c1 => match fl with | .nx => Q .nx (frzS is c1) | fl => Q fl c1 := by
  unfold sFrz
  cases m c with
  | ok fl c1 => cases fl <;> rfl
  | _ => rfl
@[simp] theorem wZ_mSl {lo hi : Cf → Res (Option Int)} {Q : Rv → Cf → Prop} : wZ E (mSl m lo hi c) Q = wZ E (m c) fun r c1 => wZ E (lo c1) fun l c2 => wZ E (hi c2) fun h c3 => oE (view c3 (settle r)) fun d => oE (gSl d l h) fun r' => Q r' c3 := by
  unfold mSl
  rw [wZ_bind, wZ_st]
  congr 1
  funext r c1
  rw [wZ_bind]
  congr 1
  funext l c2
  rw [wZ_bind]
  congr 1
  funext h c3
  cases view c3 (settle r) with
  | none => rfl
  | some d =>
    rw [oE_some]
    dsimp only
    cases gSl d l h <;> rfl
@[simp] theorem wZ_pNo {Q : Option Int → Cf → Prop} : wZ E (pNo c) Q = Q none c := propext Iff.rfl
@[simp] theorem wZ_pSome {Q : Option Int → Cf → Prop} : wZ E (pSome m c) Q = wZ E (m c) fun r c1 => oE (view c1 r) fun d => match d with | .int i => Q (some i) c1 | _ => False := by
  unfold pSome
  rw [wZ_bind]
  congr 1
  funext a c1
  cases view c1 a with
  | none => rfl
  | some d => cases d <;> rfl
@[simp] theorem wZ_mM1 {g : D → D → Option Rv} {Q : Rv → Cf → Prop} : wZ E (mM1 g mo me c) Q = wZ E (mo c) fun ro c1 => oE (view c1 (settle ro)) fun d => match d with | .str _ => wZ E (me c1) fun re c2 => wZ E (m2 g (settle ro) (settle re) c2) Q | _ => False := by
  unfold mM1
  rw [wZ_bind, wZ_st]
  congr 1
  funext r c1
  cases view c1 (settle r) with
  | none => rfl
  | some d => cases d <;> simp
@[simp] theorem wZ_mAnd {ma mb : Em} {Q : Rv → Cf → Prop} : wZ E (mAnd ma mb c) Q = wZ E (ma c) fun ra c1 => oE (view c1 ra) fun d => match d with | .bl true => wZ E (mb c1) Q | .bl false => Q (.fz (.bl false)) c1 | _ => False := by
  unfold mAnd
  rw [wZ_bind]
  congr 1
  funext r c1
  cases view c1 r with
  | none => rfl
  | some d => cases d with
    | bl b => cases b <;> rfl
    | _ => rfl
@[simp] theorem wZ_mOr {ma mb : Em} {Q : Rv → Cf → Prop} : wZ E (mOr ma mb c) Q = wZ E (ma c) fun ra c1 => oE (view c1 ra) fun d => match d with | .bl false => wZ E (mb c1) Q | .bl true => Q (.fz (.bl true)) c1 | _ => False := by
  unfold mOr
  rw [wZ_bind]
  congr 1
  funext r c1
  cases view c1 r with
  | none => rfl
  | some d => cases d with
    | bl b => cases b <;> rfl
    | _ => rfl
@[simp] theorem wZ_mChain {g g' : D → D → Option Rv} {ma mb mc : Em} {Q : Rv → Cf → Prop} : wZ E (mChain g g' ma mb mc c) Q = wZ E (ma c) fun ra c1 => wZ E (mb c1) fun rb c2 => wZ E (m2 g (settle ra) (settle rb) c2) fun rk c3 => oE (view c3 rk) fun d => match d with | .bl true => wZ E (mc c3) fun rc c4 => wZ E (m2 g' (settle rb) (settle rc) c4) Q | .bl false => Q (.fz (.bl false)) c3 | _ => False := by
  unfold mChain
  rw [wZ_bind, wZ_st]
  congr 1
  funext ra c1
  rw [wZ_bind, wZ_st]
  congr 1
  funext rb c2
  rw [wZ_bind]
  congr 1
  funext rk c3
  cases view c3 rk with
  | none => rfl
  | some d => cases d with
    | bl b => cases b <;> simp
    | _ => rfl
@[simp] theorem wZ_mDct {Q : Rv → Cf → Prop} : wZ E (mDct c) Q = Q (.nw (.dct [])) c := propext Iff.rfl
theorem wZ_meth {cn m : Str} {n : Nat} {F : Fm} {mo : Em} {ms : Cf → Res (List Rv)} {Q : Rv → Cf → Prop} : wZ E (mMeth cn m n F mo ms c) Q = wZ E (mo c) fun ro c1 => oE (view c1 (settle ro)) fun d => objM cn m d = true ∧ wZ E (ms c1) fun rs c2 => oE (vals c2 (settle ro :: rs)) fun p => p.1.length = n ∧ wZ (fun x c4 => E x ⟨p.2.ρ, c4.S⟩) (F p.1 p.2.S) fun r c4 => Q r ⟨p.2.ρ, c4.S⟩ := by
  unfold mMeth
  rw [wZ_bind, wZ_st]
  congr 1
  funext ro c1
  cases view c1 (settle ro) with
  | none => rfl
  | some d =>
    cases d with
    | obj c' fds =>
      have e : (objM cn m (.obj c' fds) = true) = (c' = cn ∧ fds.lookup m = none) := by
        unfold objM
        simp
      simp only [oE_some, e]
      by_cases h : c' = cn ∧ fds.lookup m = none
      · rw [if_pos h, wZ_bind]
        simp only [h, and_self, true_and]
        congr 1
        funext rs c2
        cases vals c2 (settle ro :: rs) with
        | none => rfl
        | some p =>
          obtain ⟨ds, c3⟩ := p
          simp only [oE_some]
          by_cases hl : ds.length = n
          · rw [if_pos hl]
            simp only [hl, true_and]
            cases F ds c3.S <;> rfl
          · rw [if_neg hl]
            simp [hl, wZ]
      · rw [if_neg h]
        refine propext ⟨fun z => z.elim, fun z => absurd z.1 h⟩
    | _ => exact propext ⟨fun z => z.elim, fun z => by cases z.1⟩
@[simp] theorem wZ_mMake {cn : Str} {n : Nat} {F : Fm} {ms : Cf → Res (List Rv)} {Q : Rv → Cf → Prop} : wZ E (mMake cn n F ms c) Q = wZ E (ms c) fun rs c1 => oE (vals c1 rs) fun p => p.1.length + 1 = n ∧ wZ E (mkRes cn F p.1 p.2) Q := by
  unfold mMake
  rw [wZ_bind]
  congr 1
  funext rs c1
  cases vals c1 rs with
  | none => rfl
  | some p =>
    obtain ⟨ds, c2⟩ := p
    simp only [oE_some]
    by_cases hl : ds.length + 1 = n
    · rw [if_pos hl]; simp only [hl, true_and]
    · rw [if_neg hl]; simp [hl, wZ]
theorem wZ_mEnum {Q : List D → Cf → Prop} : wZ E (mEnum ms c) Q = wZ E (ms c) fun rs c1 => oE (vals c1 rs) fun p => match p.1 with | [.lst ds] => Q (enumD 0 ds) p.2 | [.tup ds] => Q (enumD 0 ds) p.2 | _ => False := by
  unfold mEnum
  rw [wZ_bind]
  congr 1
  funext rs c1
  cases vals c1 rs with
  | none => rfl
  | some p =>
    obtain ⟨ds, c2⟩ := p
    cases ds with
    | nil => rfl
    | cons d ds => cases ds with
      | nil => cases d <;> rfl
      | cons d2 ds => cases d <;> rfl
theorem wZ_mInR {neg : Bool} {Q : Rv → Cf → Prop} : wZ E (mInR neg me ms c) Q = wZ E (me c) fun r c1 => wZ E (ms c1) fun rs c2 => oE (view c2 (settle r)) fun d => match d with | .int i => oE ((views c2 rs).bind two) fun p => Q (.fz (.bl (decide (p.1 ≤ i ∧ i < p.2) != neg))) c2 | _ => False := by
  unfold mInR
  rw [wZ_bind, wZ_st]
  congr 1
  funext r c1
  rw [wZ_bind]
  congr 1
  funext rs c2
  cases view c2 (settle r) with
  | none => rfl
  | some d =>
    cases d with
    | int i =>
      simp only [oE_some]
      cases (views c2 rs).bind two <;> rfl
    | _ => rfl
theorem wZ_mRng2 {ms : Cf → Res (List Rv)} {c : Cf} {Q : List D → Cf → Prop} : wZ E (mRng2 ms c) Q = wZ E (ms c) fun rs c1 => oE (views c1 rs) fun ds => match ds with
  | [.int i, .int j] => (-(2 ^ 62) ≤ i ∧ i < 2 ^ 62 ∧ -(2 ^ 62) ≤ j ∧ j < 2 ^ 62) ∧ Q (rangeD i (j - i).toNat) c1
  | _ => False := by
  unfold mRng2
  rw [wZ_bind]
  congr 1
  funext rs c1
  cases views c1 rs with
  | none => rfl
  | some ds =>
    rw [oE_some]
    split
    · rename_i i j e
      cases e
      rw [wZ_ite]
      by_cases h : -(2 ^ 62) ≤ i ∧ i < 2 ^ 62 ∧ -(2 ^ 62) ≤ j ∧ j < 2 ^ 62
      · rw [if_pos h]; simp only [wZ_ok]; exact propext ⟨fun z => ⟨h, z⟩, fun z => z.2⟩
      · rw [if_neg h]; simp only [wZ_stuck]; exact propext ⟨fun z => z.elim, fun z => h z.1⟩
    · rename_i h
      split
      · exact absurd rfl (h _ _)
      · rfl
theorem wZ_sFldS {g : D → D → Option D} {mv mo : Em} {Q : Fl → Cf → Prop} : wZ E (sFldS g mv mo c) Q = wZ E (mv c) fun rv c1 => wZ E (mo c1) fun ro c2 => oE (toVal c2 (settle rv)) fun p => oE (cont p.2 (settle ro)) fun d => oE (g d p.1) fun d' => oE (putB p.2 (settle ro) d') fun c4 => Q .nx c4 := by
  unfold sFldS
  rw [wZ_bind, wZ_st]
  congr 1
  funext rv c1
  rw [wZ_bind, wZ_st]
  congr 1
  funext ro c2
  cases toVal c2 (settle rv) with
  | none => rfl
  | some p =>
    obtain ⟨dv, c3⟩ := p
    simp only [oE_some]
    cases cont c3 (settle ro) with
    | none => rfl
    | some d =>
      simp only [oE_some]
      cases g d dv with
      | none => rfl
      | some d' =>
        simp only [oE_some]
        cases putB c3 (settle ro) d' <;> rfl
theorem wZ_mComp {vs : List Nat} {mi : Cf → Res (List D)} {g : D → Cf → Option Cf} {me : Em} {Q : Rv → Cf → Prop} : wZ E (mComp vs mi g t me c) Q = wZ E (mi c) fun ds c1 => noOw c1.ρ vs = true ∧ oE (compD g t me vs ds [] c1) fun p => Q (.nw (.lst p.1)) { p.2 with ρ := restR c1.ρ p.2.ρ vs } := by
  unfold mComp
  rw [wZ_bind]
  congr 1
  funext ds c1
  rw [wZ_ite]
  by_cases h : noOw c1.ρ vs = true
  · rw [if_pos h]
    cases compD g t me vs ds [] c1 <;> simp [h]
  · rw [if_neg h]; simp [h]
theorem wZ_mDComp {vs : List Nat} {mi : Cf → Res (List D)} {g : D → Cf → Option Cf} {t : Cf → Res Bool} {mk me : Em} {Q : Rv → Cf → Prop} : wZ E (mDComp vs mi g t mk me c) Q = wZ E (mi c) fun ds c1 => noOw c1.ρ vs = true ∧ oE (compDD g t mk me vs ds [] c1) fun p => Q (.nw (.dct p.1)) { p.2 with ρ := restR c1.ρ p.2.ρ vs } := by
  unfold mDComp
  rw [wZ_bind]
  congr 1
  funext ds c1
  rw [wZ_ite]
  by_cases h : noOw c1.ρ vs = true
  · rw [if_pos h]
    cases compDD g t mk me vs ds [] c1 <;> simp [h]
  · rw [if_neg h]; simp [h]

theorem wZ_sRaise {cn : Str} {fs : List Str} {Q : Fl → Cf → Prop} : wZ E (sRaise cn fs ms c) Q = wZ E (ms c) fun rs c1 => oE (vals c1 rs) fun p => p.1.length = fs.length ∧ E ⟨cn, (fs.zip p.1).reverse⟩ p.2 := by
  unfold sRaise
  rw [wZ_bind]
  congr 1
  funext rs c1
  cases vals c1 rs with
  | none => rfl
  | some p =>
    obtain ⟨ds, c2⟩ := p
    show wZ E (if ds.length = fs.length then _ else _) Q = (ds.length = fs.length ∧ _)
    by_cases h : ds.length = fs.length
    · rw [if_pos h]; simp [h, wZ]
    · rw [if_neg h]; simp [h, wZ]
theorem wZ_sTry {mb : Sm} {hs : List Hm} {Q : Fl → Cf → Prop} : wZ E (sTry mb hs c) Q = wZ (fun x c1 => wZ E (runHs hs x c1) Q) (mb c) Q := by
  unfold sTry
  cases mb c <;> rfl
theorem wZ_seqC {m1 m2 : Sm} {c1 : Cf} {Q : Fl → Cf → Prop} (h : wZ E (m1 c) fun fl c' => fl = .nx ∧ c' = c1) (h2 : wZ E (m2 c1) Q) : wZ E (bCons m1 m2 c) Q := by
  rw [wZ_bCons]
  refine wZ_mono h (fun fl c' ⟨e, e2⟩ => ?_) fun _ _ z => z
  subst e e2
  exact h2
theorem wZ_seqE {m1 m2 : Sm} {P : Cf → Prop} {Q : Fl → Cf → Prop} (h : wZ E (m1 c) fun fl c1 => fl = .nx ∧ P c1) (h2 : ∀ c1, P c1 → wZ E (m2 c1) Q) : wZ E (bCons m1 m2 c) Q := by
  rw [wZ_bCons]
  refine wZ_mono h (fun fl c1 ⟨e, hp⟩ => ?_) fun _ _ z => z
  subst e
  exact h2 c1 hp
theorem wZ_seqR {m1 m2 : Sm} {P : Cf → Prop} {Q : Fl → Cf → Prop} (h : wZ E (m1 c) fun fl c1 => match fl with | .nx => P c1 | fl => Q fl c1) (h2 : ∀ c1, P c1 → wZ E (m2 c1) Q) : wZ E (bCons m1 m2 c) Q := by
  rw [wZ_bCons]
  refine wZ_mono h (fun fl c1 hp => ?_) fun _ _ z => z
  cases fl with
  | nx => exact h2 c1 hp
  | _ => exact hp
end
section
variable {E : Xc → Cf → Prop}
theorem forZ_inv {g : D → Cf → Option Cf} {body : Sm} {R : Rv → Cf → Prop} {Z : Cf → Prop} (I : Nat → Cf → Prop) : ∀ {ds : List D} {k : Nat} {c : Cf},
    (∀ i d c, ds[i]? = some d → I (k + i) c → oE (g d c) fun c1 => wZ E (body c1) fun fl c2 => match fl with | .nx => I (k + i + 1) c2 | .ct => I (k + i + 1) c2 | .rt r => R r c2 | .bk => Z c2) → I k c →
    wZ E (forD g body ds c) fun fl c' => (fl = .nx ∧ (I (k + ds.length) c' ∨ Z c')) ∨ ∃ r, fl = .rt r ∧ R r c'
  | [], k, c, h, hI => .inl ⟨rfl, .inl hI⟩
  | d :: ds, k, c, h, hI => by
    have h0 := h 0 d c rfl hI
    unfold forD
    cases e : g d c with
    | none => rw [e] at h0; exact h0.elim
    | some c1 =>
      rw [e] at h0
      have h0 : wZ E (body c1) fun fl c2 => match fl with | .nx => I (k + 0 + 1) c2 | .ct => I (k + 0 + 1) c2 | .rt r => R r c2 | .bk => Z c2 := h0
      dsimp only
      have nxt : ∀ c2, I (k + 1) c2 → wZ E (forD g body ds c2) fun fl c' => (fl = .nx ∧ (I (k + (d :: ds).length) c' ∨ Z c')) ∨ ∃ r, fl = .rt r ∧ R r c' := fun c2 h2 => by
        have := forZ_inv (g := g) (body := body) (R := R) (Z := Z) I (ds := ds) (k := k + 1) (c := c2) (fun i d' c' e' hi => by
          have := h (i + 1) d' c' (by simpa using e') (by rw [show k + (i + 1) = k + 1 + i by omega]; exact hi)
          rw [show k + (i + 1) = k + 1 + i by omega] at this
          exact this) h2
        rw [List.length_cons, show k + (ds.length + 1) = k + 1 + ds.length by omega]
        exact this
      cases e2 : body c1 with
      | ok fl c2 =>
        rw [e2] at h0
        cases fl with
        | nx => exact nxt c2 h0
        | ct => exact nxt c2 h0
        | rt r => exact .inr ⟨r, rfl, h0⟩
        | bk => exact .inl ⟨rfl, .inr h0⟩
      | err x c2 => rw [e2] at h0; exact h0
      | stuck => rw [e2] at h0; exact h0.elim
/-- a for loop that may be left, return, raise -/
theorem for_Z {mi : Cf → Res (List D)} {g : D → Cf → Option Cf} {body : Sm} {c : Cf} {Q : Fl → Cf → Prop} (ds : List D) (I : Nat → Cf → Prop) (R : Rv → Cf → Prop) (Z : Cf → Prop) (hi : wZ E (mi c) fun ds1 c1 => ds1 = ds ∧ I 0 c1)
    (hs : ∀ i d c, ds[i]? = some d → I i c → oE (g d c) fun c1 => wZ E (body c1) fun fl c2 => match fl with | .nx => I (i + 1) c2 | .ct => I (i + 1) c2 | .rt r => R r c2 | .bk => Z c2)
    (hn : ∀ c, I ds.length c → Q .nx c) (hz : ∀ c, Z c → Q .nx c) (hr : ∀ r c, R r c → Q (.rt r) c) : wZ E (sFor mi g body c) Q := by
  rw [wZ_for]
  refine wZ_mono hi (fun ds1 c1 ⟨e, h0⟩ => ?_) fun _ _ z => z
  subst e
  refine wZ_mono (forZ_inv (R := R) (Z := Z) I (ds := ds1) (k := 0) (c := c1) (fun i d c e hi => ?_) h0) (fun fl c' h => ?_) fun _ _ z => z
  · have := hs i d c e (by rw [Nat.zero_add] at hi; exact hi)
    rw [Nat.zero_add]
    exact this
  · rcases h with ⟨rfl, h | h⟩ | ⟨r, rfl, h⟩
    · rw [Nat.zero_add] at h; exact hn c' h
    · exact hz c' h
    · exact hr r c' h
theorem wZ_runF {n : Nat} {mb : Sm} {ds S : List D} {Q : Rv → Cf → Prop} (h : wZ (fun x c => E x ⟨[], c.S⟩) (mb ⟨ds.map Sl.fz ++ List.replicate (n - ds.length) .un, S⟩) fun fl c => match fl with
    | .nx => Q (.fz .non) ⟨[], c.S⟩
    | .rt r => oE (leaveR c r) fun r' => Q r' ⟨[], c.S⟩
    | _ => False) : wZ E (runF n mb ds S) Q := by
  unfold runF
  cases e : mb ⟨ds.map Sl.fz ++ List.replicate (n - ds.length) .un, S⟩ with
  | ok fl c =>
    rw [e] at h
    cases fl with
    | rt r =>
      have h : oE (leaveR c r) fun r' => Q r' ⟨[], c.S⟩ := h
      dsimp only
      cases q : leaveR c r with
      | none => rw [q] at h; exact h
      | some r' => rw [q] at h; exact h
    | _ => exact h
  | err x c => rw [e] at h; exact h
  | stuck => rw [e] at h; exact h
theorem errZ_runF {n : Nat} {mb : Sm} {ds S S1 : List D} {x0 : Xc} (h : wZ (fun x c => x = x0 ∧ c.S = S1) (mb ⟨ds.map Sl.fz ++ List.replicate (n - ds.length) .un, S⟩) fun _ _ => False) : runF n mb ds S = .err x0 ⟨[], S1⟩ := by
  unfold runF
  cases e : mb ⟨ds.map Sl.fz ++ List.replicate (n - ds.length) .un, S⟩ with
  | ok fl c => rw [e] at h; exact h.elim
  | err x c => rw [e] at h; obtain ⟨rfl, h2⟩ := h; rw [← h2]
  | stuck => rw [e] at h; exact h.elim
theorem err_of {α : Type} {r : Res α} {y : Xc} {c : Cf} (h : wZ (fun x c' => x = y ∧ c' = c) r fun _ _ => False) : r = .err y c := by
  cases r with
  | err x c' => obtain ⟨rfl, rfl⟩ := h; rfl
  | ok a c' => exact h.elim
  | stuck => exact h.elim
theorem okZ_of {α : Type} {r : Res α} {a : α} {c : Cf} (h : wZ (fun _ _ => False) r fun x c' => x = a ∧ c' = c) : r = .ok a c := by
  cases r with
  | ok x c' => obtain ⟨rfl, rfl⟩ := h; rfl
  | err x c' => exact h.elim
  | stuck => exact h.elim
/-- all that may come of r -/
theorem wZ_total {α : Type} {r : Res α} (h : r ≠ .stuck) : wZ (fun x c => r = .err x c) r fun a c => r = .ok a c := by
  cases r with
  | ok a c => rfl
  | err x c => rfl
  | stuck => exact absurd rfl h
end
-- names: wZ_bind, wZ_st, wZ_ok, wZ_stuck, wZ_opt, wZ_ite, wZ_bCons, wZ_sIf, wZ_bNil, wZ_mBool, wZ_mTruth, wZ_tmAnd, wZ_tmOr, wZ_tmNot, wZ_mBin, wZ_mUn, wZ_m1, wZ_mVar, wZ_m2, wZ_mC, wZ_sSet, wZ_sSetH, wZ_sPut, wZ_sRet, wZ_sDrop, wZ_sUnp, wZ_sPend, mPendZ_nil, mPendZ_cons, wZ_mLst, wZ_mTup, wZ_mCB, wZ_mCall, wZ_mMut, wZ_mSeq, wZ_mRng1, wZ_for, wZ_mDisp, wZ_mPairs_nil, wZ_mPairs_cons, wZ_tmYes, wZ_mIfE, wZ_maCons, wZ_maNil, wZ_sSetF, wZ_sFrz, wZ_mSl, wZ_pNo, wZ_pSome, wZ_mM1, wZ_mAnd, wZ_mOr, wZ_mChain, wZ_mDct, wZ_meth, wZ_mMake, wZ_mEnum, wZ_mInR, wZ_mRng2, wZ_sFldS, wZ_mComp, wZ_mDComp
end LH
/-! LHFnV: defs as values: handed in by name, called by a local name. -/
namespace LH
open PySem PySem.Spec PyProof.Rows L2
/-- the defs that a value may be: their names, how many they take, what they do -/
abbrev FnT := List (Str × Nat × Fm)
def mCallV (i : Nat) (T : FnT) (ms : Cf → Res (List Rv)) : Em := fun c => match c.ρ[i]? with
  | some (.fz (.fn x)) => match T.lookup x with
    | some p => mCall p.1 p.2 ms c
    | none => .stuck
  | _ => .stuck
section
variable {X : Cx} {E : En} {η η' : List Addr} {M M' H H' : Hp} {c c' : Cf} {σ σ' : St} {e : Expr} {es : List Expr} {p pos : Pos} {x : Str}
theorem ex_fnv {k n : Nat} {F : Fm} (h : Fn X.prog X.w X.K X.mg X.base x k n F) (hg : Gl X x := by rfl) (hdb : (x == ("__debug__" : Str)) = false := by decide) : Ex X (.Name x p) (mC (.fn x)) := by
  obtain ⟨f, fd, ps, hm, _⟩ := h
  exact ⟨fun E η M c σ H s => out_ok s (fun Q hq => pe_we (pe_glob (v := .ref f) hg hm rfl hdb) hq) (Rep.fn hm)⟩
/-- all of a table's defs -/
def FnTk (X : Cx) (k : Nat) (T : FnT) : Prop := ∀ x p, T.lookup x = some p → Fn X.prog X.w X.K X.mg X.base x k p.1 p.2
theorem fnT_nil {k : Nat} : FnTk X k [] := fun x p h => by simp at h
theorem Fn.up {P : Program} {w : World} {K : Fg} {mg : Mg} {base : Heap} {j k n : Nat} {F : Fm} (h : Fn P w K mg base x j n F) (hk : j ≤ k) : Fn P w K mg base x k n F := by
  obtain ⟨f, fd, ps, h1, h2, h3, h4⟩ := h
  exact ⟨f, fd, ps, h1, h2, h3, h4.mono hk⟩
theorem fnT_cons {j k n : Nat} {F : Fm} {T : FnT} (h : Fn X.prog X.w X.K X.mg X.base x j n F) (hk : j ≤ k) (t : FnTk X k T) : FnTk X k ((x, n, F) :: T) := fun y q hy => by
  rw [List.lookup_cons] at hy
  split at hy
  · rename_i e
    cases hy
    rw [eq_of_beq e]
    exact h.up hk
  · exact t y q hy
/-- a def is called by a local name -/
theorem ex_callV {k : Nat} {T : FnT} {ms : Cf → Res (List Rv)} (i : Nat) (hT : FnTk X k T) (hr : RmG k X.A) (ha : Ax X (e :: es) ms) (hN : X.N[i]? = some x := by rfl) (hv : Vis X.env.scope x := by first | exact Or.inl rfl | exact Or.inr (Or.inl rfl) | exact Or.inr (Or.inr rfl))
    (hd : (x == ("__debug__" : Str)) = false := by decide) (hcd : (x == ("__classdict__" : Str)) = false := by decide)
    (he : starEach (e :: es) X.env = (false, eval e X.env) :: starEach es X.env := by rfl) (hpl : (backTo pos (starEach es X.env)).any (·.1) = false := by rfl) : Ex X (.Call (.Name x p) (e :: es) [] pos) (mCallV i T ms) := by
  refine ⟨fun E η M c σ H s => ?_⟩
  unfold mCallV
  cases q0 : c.ρ[i]? with
  | none => trivial
  | some sl => cases sl with
    | un => trivial
    | ow d => trivial
    | fz d => cases d with
      | fn y =>
        dsimp only
        cases q1 : T.lookup y with
        | none => trivial
        | some nF =>
          obtain ⟨n, F⟩ := nF
          dsimp only
          obtain ⟨f, fd, ps, hm, hk, hb, hF⟩ := hT y (n, F) q1
          obtain ⟨v0, hv0, r0⟩ := s.slot i _ q0
          obtain ⟨a0, hm0, rfl⟩ : ∃ a0, X.mg y = some (.ref a0) ∧ v0 = .ref a0 := by
            cases r0 with
            | fn h => exact ⟨_, h, rfl⟩
          have ea : a0 = f := by rw [hm] at hm0; cases hm0; rfl
          subst ea
          refine Out.bind (R := RVs X.K X.mg) (fun vs H1 Q => spF X.K X.mg n F vs H1 Q E0 ∨ ∃ W, Takes X W ∧ spF X.K X.mg n F vs H1 Q (fun cls d H' => W cls d σ H')) (ha E η M c σ H s) (fun Q hq => ?_) fun rs c1 vs η1 M1 H1 s1 x1 z1 => ?_
          · intro pins st I
            refine wpAny_Call_Name_kw (wpAny_mono ((pe_var (X := X) (pos := p) hN hv hd hcd).run pins st σ H (fun v H' => v = .ref a0 ∧ H' = H) I ⟨_, hv0, rfl, rfl⟩) (fun u st2 ⟨v2, H2, I2, r2, e2, e3⟩ => ?_) fun _ _ z => z)
            subst e2 e3
            have : u = Value.ref a0 := r2
            subst this
            refine PySem.W.callWith_K (h₀ := X.base) I2.ok.mod.kin hk (thn (hq pos pins st2 I2) fun us s1 ⟨vs, H1, I1, r, q⟩ => ⟨I1.kIn, ?_⟩) he hpl
            rcases q with q | ⟨W, tk, q⟩
            · exact runG (dvs := []) hF hr hb .nil (fun pins => passL pins σ) I1 r (by rw [List.append_nil]; exact q)
            · exact runG (dvs := []) hF hr hb .nil (passAt tk σ) I1 r (by rw [List.append_nil]; exact q)
          · cases e1 : vals c1 rs with
            | none => trivial
            | some q =>
              obtain ⟨ds, c2⟩ := q
              dsimp only
              by_cases hl : ds.length = n
              · rw [if_pos hl]
                obtain ⟨M2, s2, x2, r2⟩ := vals_ok s1 z1.1 z1.2 e1
                exact out_ext x2 (out_fn s2 r2 (by rw [r2.length]; exact hl) (fun Q hq => .inl hq) fun W Q tk hq => .inr ⟨W, tk, hq⟩)
              · rw [if_neg hl]; trivial
      | _ => trivial
theorem callV_eq {i : Nat} {T : FnT} {ms : Cf → Res (List Rv)} {y : Str} {p : Nat × Fm} (h : c.ρ[i]? = some (.fz (.fn y))) (hT : T.lookup y = some p) : mCallV i T ms c = mCall p.1 p.2 ms c := by
  unfold mCallV
  rw [h]
  dsimp only
  rw [hT]
@[simp] theorem view_fn {n : Str} : view c (.fz (.fn n)) = some (.fn n) := rfl
@[simp] theorem toVal_fn {n : Str} : toVal c (.fz (.fn n)) = some (.fn n, c) := rfl
end
end LH
/-! LHHdl: own objects that are shared from now on; handles that end with the def; repr of data with handles. -/
namespace LH
open PySem PySem.Spec PyProof.Rows L2
section
variable {K : Fg} {mg : Mg} {E : En} {η η' : List Addr} {M M' H H' : Hp} {c c' : Cf} {σ σ' : St}
theorem SR.shareSlot (s : SR K mg E η M c σ H) {i : Nat} {d : D} (h : c.ρ[i]? = some (.ow d)) : ∃ a, SR K mg E (η ++ [a]) M ⟨c.ρ.set i (.fz (.hdl c.S.length)), c.S ++ [d]⟩ σ H ∧ Ext η M (η ++ [a]) M := by
  obtain ⟨a, e1, e2, e3, e4, e5⟩ := s.slot i _ h
  have hi : i < c.ρ.length := (List.getElem?_eq_some_iff.mp h).1
  have s1 : SR K mg E η M { c with ρ := c.ρ.set i .un } σ H := s.kind e1 trivial fun _ _ z => nomatch z
  have no : ¬ Own { c with ρ := c.ρ.set i .un } σ a := by
    rintro ⟨j, d', q1, q2⟩
    have q1 : (c.ρ.set i .un)[j]? = some (.ow d') := q1
    by_cases hj : j = i
    · subst hj
      rw [List.getElem?_set_self hi] at q1; cases q1
    · rw [List.getElem?_set_ne (Ne.symm hj)] at q1
      exact hj (s.inj j i a d' d q1 h q2 e1)
  obtain ⟨s2, x⟩ := s1.newHdl e2 e3 e4 no e5
  refine ⟨a, ?_, x⟩
  have r : Rep K mg (η ++ [a]) M (.ref a) (.hdl c.S.length) := .hdl (by
    rw [← s.hlen, List.getElem?_append_right (Nat.le_refl _)]
    simp)
  have q := s2.kind (sl := .fz (.hdl c.S.length)) e1 ⟨_, rfl, r⟩ fun _ _ z => nomatch z
  have e : (c.ρ.set i Sl.un).set i (.fz (.hdl c.S.length)) = c.ρ.set i (.fz (.hdl c.S.length)) := by rw [List.set_set]
  have q : SR K mg E (η ++ [a]) M ⟨(c.ρ.set i Sl.un).set i (.fz (.hdl c.S.length)), c.S ++ [d]⟩ σ H := q
  rw [e] at q
  exact q
/-- own objects of slots are shared from now on -/
def hdS : List Nat → Cf → Cf
  | [], c => c
  | i :: is, c => hdS is (match c.ρ[i]? with
    | some (.ow d) => ⟨c.ρ.set i (.fz (.hdl c.S.length)), c.S ++ [d]⟩
    | _ => c)
def sHd (is : List Nat) (m : Sm) : Sm := fun c => match m c with
  | .ok .nx c1 => .ok .nx (hdS is c1)
  | r => r
theorem hdS_ok : ∀ (is : List Nat) {c : Cf} {η : List Addr}, SR K mg E η M c σ H → ∃ η', SR K mg E η' M (hdS is c) σ H ∧ Ext η M η' M
  | [], c, η, s => ⟨η, s, .refl⟩
  | i :: is, c, η, s => by
    unfold hdS
    cases q : c.ρ[i]? with
    | none => exact hdS_ok is s
    | some sl =>
      cases sl with
      | ow d =>
        obtain ⟨a, s1, x1⟩ := s.shareSlot q
        obtain ⟨η2, s2, x2⟩ := hdS_ok is s1
        exact ⟨η2, s2, x1.trans x2⟩
      | _ => exact hdS_ok is s
end
section
variable {X : Cx}
theorem sx_hd {st : Stmt} {m : Sm} (is : List Nat) (h : Sx X st m) : Sx X st (sHd is m) := by
  refine ⟨fun E η M c σ H s Z g => ?_⟩
  refine h E η M c σ H s Z ?_
  unfold sHd at g
  cases e1 : m c with
  | stuck => rw [e1] at g; exact g
  | err x c1 => rw [e1] at g; exact g
  | ok fl c1 =>
    rw [e1] at g
    cases fl with
    | nx =>
      refine fun σ1 η1 M1 H1 s1 x1 => ?_
      obtain ⟨η2, s2, x2⟩ := hdS_ok is s1
      exact g σ1 η2 M1 H1 s2 (x1.trans x2)
    | bk => exact g
    | ct => exact g
    | rt r => exact g
@[simp] theorem wE_sHd {is : List Nat} {m : Sm} {c : Cf} {Q : Fl → Cf → Prop} : wE (sHd is m c) Q = wE (m c) fun fl c1 => match fl with | .nx => Q .nx (hdS is c1) | fl => Q fl c1 := by
  unfold sHd
  cases m c with
  | ok fl c1 => cases fl <;> rfl
  | _ => rfl
theorem wZ_sHd {is : List Nat} {m : Sm} {c : Cf} {E : Xc → Cf → Prop} {Q : Fl → Cf → Prop} : wZ E (sHd is m c) Q = wZ E (m c) fun fl c1 => match fl with | .nx => Q .nx (hdS is c1) | fl => Q fl c1 := by
  unfold sHd
  cases m c with
  | ok fl c1 => cases fl <;> rfl
  | _ => rfl
end
/-! ### a handle that ends with the def -/
def drop1 (n : Nat) (r : Rv) (c : Cf) : Option (Rv × Cf) := if c.S.length = n + 1 ∧ c.S.all (noH n) = true then (match r with
  | .fz (.hdl m) => if m = n then (c.S[n]?).map fun d => (.nw d, ⟨c.ρ, c.S.take n⟩) else none
  | .fz d => if noH n d = true then some (.fz d, ⟨c.ρ, c.S.take n⟩) else none
  | .nw d => if noH n d = true then some (.nw d, ⟨c.ρ, c.S.take n⟩) else none
  | .loc _ => none) else none
def dropF (F : Fm) : Fm := fun ds S => match F ds S with
  | .ok r c => if c.S.length = S.length then .ok r c else (match drop1 S.length r c with
    | some p => .ok p.1 p.2
    | none => .stuck)
  | .err x c => if c.S.length = S.length then .err x c else if c.S.length = S.length + 1 ∧ c.S.all (noH S.length) = true ∧ noHF S.length x.fs = true then .err x ⟨c.ρ, c.S.take S.length⟩ else .stuck
  | .stuck => .stuck
section
variable {K : Fg} {mg : Mg} {η : List Addr} {M M' H H' : Hp} {S1 : List D} {x : Addr}
theorem SR.dropHdl (t : SR K mg ⟨H, η, M⟩ (η ++ [x]) M' ⟨[], S1⟩ [] H') (hl : S1.length = η.length + 1) (ha : S1.all (noH η.length) = true) : SR K mg ⟨H, η, M⟩ η M' ⟨[], S1.take η.length⟩ [] H' := by
  rw [List.all_eq_true] at ha
  refine ⟨t.sub, rfl, fun i t e => by simp at e, fun i j a d d' e => by simp at e, ?_, fun k a t' e1 e2 => ?_, ?_, t.fr, ⟨[], by simp⟩, fun a h => .inl h, t.m0, t.mn⟩
  · show η.length = (S1.take η.length).length
    rw [List.length_take]; omega
  · have hk : k < η.length := (List.getElem?_eq_some_iff.mp e1).1
    have e2 : (S1.take η.length)[k]? = some t' := e2
    rw [List.getElem?_take_of_lt hk] at e2
    obtain ⟨p1, p2⟩ := t.hdl k a t' (by rw [List.getElem?_append_left hk]; exact e1) e2
    exact ⟨p1, at_drop p2 (ha t' (List.mem_of_getElem? e2))⟩
  · have := t.hnd
    rw [List.nodup_append] at this
    exact this.1
theorem one_more {η' : List Addr} (t : SR K mg ⟨H, η, M⟩ η' M' ⟨[], S1⟩ [] H') (hl : S1.length = η.length + 1) : ∃ x, η' = η ++ [x] := by
  obtain ⟨q, eq⟩ := t.pre
  have eq : η' = η ++ q := eq
  have l1 : η'.length = S1.length := t.hlen
  rw [eq, List.length_append] at l1
  match q, eq with
  | [x], eq => exact ⟨x, eq⟩
  | [], _ => simp at l1; omega
  | _ :: _ :: _, _ => simp at l1; omega
theorem spF_drop {n : Nat} {F : Fm} {vs : List V} {Q : VK} {Ex : XK} (h : spF K mg n (dropF F) vs H Q Ex) : spF K mg n F vs H Q Ex := by
  obtain ⟨hl, η, M, ds, S, s0, r0, h⟩ := h
  refine ⟨hl, η, M, ds, S, s0, r0, ?_⟩
  have hlen : η.length = S.length := s0.hlen
  unfold dropF at h
  cases e : F ds S with
  | stuck => rw [e] at h; exact h
  | ok r c =>
    rw [e] at h
    dsimp only at h ⊢
    by_cases hc : c.S.length = S.length
    · rw [if_pos hc] at h; exact h
    · rw [if_neg hc] at h
      unfold drop1 at h
      by_cases hd : c.S.length = S.length + 1 ∧ c.S.all (noH S.length) = true
      · rw [if_pos hd] at h
        intro v η' M' H' t z
        rw [← hlen] at hd h
        obtain ⟨x, rfl⟩ := one_more t hd.1
        have t' := t.dropHdl hd.1 hd.2
        cases r with
        | loc i => exact h.elim
        | nw d =>
          dsimp only at h
          by_cases hn : noH η.length d = true
          · rw [if_pos hn] at h
            obtain ⟨a, rfl, q1, q2, q3, q4, q5⟩ := z
            exact h _ η M' H' t' ⟨a, rfl, q1, q2, fun m => q3 (List.mem_append_left _ m), own_bare, at_drop q5 hn⟩
          · rw [if_neg hn] at h; exact h.elim
        | fz d =>
          have plain : (if noH η.length d = true then some (Rv.fz d, (⟨c.ρ, c.S.take η.length⟩ : Cf)) else none : Option (Rv × Cf)) = none ∨ noH η.length d = true := by
            by_cases hn : noH η.length d = true
            · exact .inr hn
            · exact .inl (if_neg hn)
          cases d with
          | hdl m =>
            dsimp only at h
            by_cases hm : m = η.length
            · rw [if_pos hm] at h
              subst hm
              cases ed : c.S[η.length]? with
              | none => rw [ed] at h; exact h.elim
              | some d =>
                rw [ed] at h
                cases z with
                | @hdl _ a hx =>
                  rw [List.getElem?_append_right (Nat.le_refl _)] at hx
                  have hx : x = a := by simpa using hx
                  subst hx
                  obtain ⟨p1, p2⟩ := t.hdl η.length x d (by rw [List.getElem?_append_right (Nat.le_refl _)]; simp) ed
                  have nx : x ∉ η := fun m => by
                    have := t.hnd
                    rw [List.nodup_append] at this
                    exact this.2.2 x m x (List.mem_singleton.mpr rfl) rfl
                  have hx : H x = none := by
                    rcases t.new x (List.mem_append_right _ (List.mem_singleton.mpr rfl)) with q | q
                    · exact absurd q nx
                    · exact q
                  have ha := hd.2
                  rw [List.all_eq_true] at ha
                  exact h _ η M' H' t' ⟨x, rfl, p1, hx, nx, own_bare, at_drop p2 (ha d (List.mem_of_getElem? ed))⟩
            · rw [if_neg hm] at h; exact h.elim
          | _ =>
            dsimp only at h
            rcases plain with hp | hp
            · rw [hp] at h; exact h.elim
            · rw [if_pos hp] at h
              exact h _ η M' H' t' (rep_drop z hp)
      · rw [if_neg hd] at h; exact h.elim
  | err y c =>
    rw [e] at h
    dsimp only at h ⊢
    by_cases hc : c.S.length = S.length
    · rw [if_pos hc] at h; exact h
    · rw [if_neg hc] at h
      by_cases hd : c.S.length = S.length + 1 ∧ c.S.all (noH S.length) = true ∧ noHF S.length y.fs = true
      · rw [if_pos hd] at h
        intro cls d η' M' H' t z
        rw [← hlen] at hd h
        obtain ⟨x, rfl⟩ := one_more t hd.1
        have t' := t.dropHdl hd.1 hd.2.1
        obtain ⟨dd, fs, q1, q2, q3, q4, q5⟩ := z
        exact h cls d η M' H' t' ⟨dd, fs, q1, q2, q3, q4, repL_drop q5 (by rw [← noHF_map]; exact hd.2.2)⟩
      · rw [if_neg hd] at h; exact h.elim
end
theorem fn_drop {P : Program} {w : World} {K : Fg} {mg : Mg} {base : Heap} {CX : CXT} {k n : Nat} {f : Addr} {fd : FuncData} {ps : List Str} {F : Fm} (h : FnG P w K mg base CX k f fd ps (spF K mg n F)) : FnG P w K mg base CX k f fd ps (spF K mg n (dropF F)) :=
  ⟨fun vs H Q E s => h.len vs H Q E (spF_drop s), fun A outer s H args us vs Q E r e b v q => h.run A outer s H args us vs Q E r e b v (spF_drop q)⟩
/-! ### repr of data with handles -/
mutual
def drf (S : List D) : D → Option D
  | .hdl n => match S[n]? with
    | some d => if nohd d = true then some d else none
    | none => none
  | .lst xs => (drfL S xs).map .lst
  | .tup xs => (drfL S xs).map .tup
  | .non => some .non
  | .bl b => some (.bl b)
  | .int i => some (.int i)
  | .str x => some (.str x)
  | .dct kvs => if nohd (.dct kvs) = true then some (.dct kvs) else none
  | _ => none
def drfL (S : List D) : List D → Option (List D)
  | [] => some []
  | x :: xs => match drf S x, drfL S xs with
    | some y, some ys => some (y :: ys)
    | _, _ => none
end
def snap (η : List Addr) (M H : Hp) : Hp := fun a => if a ∈ η then H a else M a
section
variable {K : Fg} {mg : Mg} {E : En} {η : List Addr} {M H : Hp} {c : Cf} {σ : St}
theorem snap_ext (s : SR K mg E η M c σ H) : Ext [] M [] (snap η M H) := ⟨fun a o e => by
  unfold snap
  by_cases h : a ∈ η
  · obtain ⟨z, _⟩ := s.hsome h
    rw [z] at e; cases e
  · rw [if_neg h]; exact e, [], rfl⟩
theorem snap_same (s : SR K mg E η M c σ H) : Same (snap η M H) H := fun a o e => by
  unfold snap at e
  by_cases h : a ∈ η
  · rw [if_pos h] at e; exact e
  · rw [if_neg h] at e; exact s.sub a o e
theorem at_snap (s : SR K mg E η M c σ H) {a : Addr} {d : D} (ha : a ∈ η) (h : At K mg η M H a d) (n : nohd d = true) : Rep K mg [] (snap η M H) (.ref a) d := by
  have x := snap_ext s
  have hs : ∀ {o}, H a = some o → snap η M H a = some o := fun e => by unfold snap; rw [if_pos ha]; exact e
  cases d with
  | lst ds => obtain ⟨xs, e, r⟩ := h; exact .lst (hs e) ((r.bare (by simpa [nohd] using n)).mono x)
  | dct ds => obtain ⟨xs, e, k, r⟩ := h; exact .dct (hs e) k ((r.bare (by rw [← nohdK_map]; simpa [nohd] using n)).mono x)
  | dcT ds => obtain ⟨xs, e, k, r⟩ := h; exact .dcT (hs e) k ((r.bare (by rw [← nohdT_map]; simpa [nohd] using n)).mono x)
  | obj c ds => obtain ⟨C, dx, xs, g, e, k, r⟩ := h; exact .obj g (hs e) k ((r.bare (by rw [← nohdF_map]; simpa [nohd] using n)).mono x)
  | _ => exact h.elim
mutual
theorem rep_snap (s : SR K mg E η M c σ H) : ∀ {d d' : D} {v : V}, Rep K mg η M v d → drf c.S d = some d' → Rep K mg [] (snap η M H) v d'
  | .hdl n, d', _, .hdl hn, e => by
    unfold drf at e
    cases q : c.S[n]? with
    | none => rw [q] at e; cases e
    | some d =>
      rw [q] at e
      dsimp only at e
      by_cases hd : nohd d = true
      · rw [if_pos hd] at e
        cases e
        obtain ⟨_, h2⟩ := s.hdl n _ _ hn q
        exact at_snap s (List.mem_of_getElem? hn) h2 hd
      · rw [if_neg hd] at e; cases e
  | .lst xs, d', _, .lst h hs, e => by
    unfold drf at e
    obtain ⟨ys, h1, rfl⟩ := Option.map_eq_some_iff.mp e
    exact .lst ((snap_ext s).m _ _ h) (repL_snap s hs h1)
  | .tup xs, d', _, .tup h hs, e => by
    unfold drf at e
    obtain ⟨ys, h1, rfl⟩ := Option.map_eq_some_iff.mp e
    exact .tup ((snap_ext s).m _ _ h) (repL_snap s hs h1)
  | .non, d', _, .non, e => by unfold drf at e; cases e; exact .non
  | .bl b, d', _, .bl _, e => by unfold drf at e; cases e; exact .bl _
  | .int i, d', _, .int _, e => by unfold drf at e; cases e; exact .int _
  | .str x, d', _, .str _, e => by unfold drf at e; cases e; exact .str _
  | .dct kvs, d', v, r, e => by
    unfold drf at e
    by_cases hd : nohd (.dct kvs) = true
    · rw [if_pos hd] at e
      cases e
      exact (r.bare hd).mono (snap_ext s)
    · rw [if_neg hd] at e; cases e
  | .ro _, _, _, _, e => by unfold drf at e; cases e
  | .dcT _, _, _, _, e => by unfold drf at e; cases e
  | .obj _ _, _, _, _, e => by unfold drf at e; cases e
  | .exc _ _, _, _, _, e => by unfold drf at e; cases e
  | .fn _, _, _, _, e => by unfold drf at e; cases e
theorem repL_snap (s : SR K mg E η M c σ H) : ∀ {ds ds' : List D} {vs : List V}, RepL K mg η M vs ds → drfL c.S ds = some ds' → RepL K mg [] (snap η M H) vs ds'
  | [], _, _, .nil, e => by unfold drfL at e; cases e; exact .nil
  | d :: ds, _, _, .cons h hs, e => by
    unfold drfL at e
    cases q1 : drf c.S d with
    | none => rw [q1] at e; cases e
    | some y =>
      cases q2 : drfL c.S ds with
      | none => rw [q1, q2] at e; cases e
      | some ys =>
        rw [q1, q2] at e
        cases e
        exact .cons (rep_snap s h q1) (repL_snap s hs q2)
end
end
/-- repr, handles looked through -/
def mReprS (ms : Cf → Res (List Rv)) : Em := fun c => (ms c).bind fun rs c1 => match vals c1 rs with
  | some ([d], c2) => match (drf c2.S d).bind gReprK with
    | some r => .ok r c2
    | none => .stuck
  | _ => .stuck
section
variable {X : Cx} {E : En} {η : List Addr} {M H : Hp} {c : Cf} {σ : St} {e : Expr} {p pos : Pos} {ms : Cf → Res (List Rv)}
theorem wc_reprS (hsy : SysIn X.base) (hg : X.A.guards = some []) (hu : X.A.units + 66 < cLine) {x : V} {d d' : D} {r : Rv} (s : SR X.K X.mg E η M c σ H) (h1 : Rep X.K X.mg η M x d) (ed : drf c.S d = some d') (er : gReprK d' = some r) {Q : VK}
    (hQ : ∀ t, r = .fz (.str t) → Q (.str t) H) : Wc X (.builtin "repr") [x] H Q := by
  unfold gReprK at er
  obtain ⟨t, e1, rfl⟩ := Option.map_eq_some_iff.mp er
  obtain ⟨p, e2, e3⟩ := Option.bind_eq_some_iff.mp e1
  have h1 := rep_snap s h1 ed
  have cr : CallR X (.builtin "repr") (fun xs H' Q => xs = [x] ∧ H' = H ∧ Q (.str t) H) := by
    intro pins s' σ' H' xs us Q I r h
    obtain ⟨rfl, rfl, q⟩ := h
    obtain ⟨u, rfl, ru⟩ := vals1 r
    obtain ⟨as, hr, ht⟩ := vw_rd I (snap_same s) (.inl h1) e2 ru
    have hns : sysModules ∉ as := fun z => ht _ z (sys_free I hsy)
    unfold shownK at e3
    split at e3
    · rename_i hc
      cases e3
      simp only [Bool.and_eq_true, decide_eq_true_eq] at hc
      obtain ⟨⟨h1, h3⟩, h4⟩ := hc
      have fin : ∀ tk, EP X pins σ' Q (.str p.shown tk) { s' with toks := s'.toks + 1 } := fun tk => ⟨.str _, H', I.tok _, ⟨tk, rfl⟩, q⟩
      cases hr with
      | none => exact PySem.P.repr_of_none (fin _)
      | bool b => exact PySem.P.repr_of_bool (by have := fin s'.toks; cases b <;> simpa [PyData.shown] using this)
      | int i t => exact PySem.P.repr_of_int (by simpa [PyData.showable] using h1) (fin _)
      | str x t => exact PySem.P.repr_of_str (fin _) (by simpa [PyData.shown] using h4)
      | list a1 a2 a3 a4 =>
        exact repr_of_reads' (.list a1 a2 a3 a4) h1 (fun z => hns) hg (by omega) (fun _ _ e => e) (fun h' tu tk hk => ⟨.str _, H', I.kept hk, ⟨tu, rfl⟩, q⟩) h4
      | tuple a1 a2 a3 a4 =>
        exact repr_of_reads' (.tuple a1 a2 a3 a4) h1 (fun z => hns) hg (by omega) (fun _ _ e => e) (fun h' tu tk hk => ⟨.str _, H', I.kept hk, ⟨tu, rfl⟩, q⟩) h4
      | dict a1 a2 a3 a4 a5 =>
        exact repr_of_reads' (.dict a1 a2 a3 a4 a5) h1 (fun z => hns) hg (by omega) (fun _ _ e => e) (fun h' tu tk hk => ⟨.str _, H', I.kept hk, ⟨tu, rfl⟩, q⟩) h4
    · cases e3
  exact call_wc cr ⟨rfl, rfl, hQ t rfl⟩
theorem ex_reprS (hsy : SysIn X.base) (hgd : X.A.guards = some []) (hu : X.A.units + 66 < cLine) (hg : Gl X "repr") (hm : X.mg "repr" = none) (hv : bootBuiltins "repr" = some (.builtin "repr")) (ha : Ax X [e] ms)
    (he : starEach [e] X.env = (false, eval e X.env) :: starEach [] X.env := by rfl) (hpl : (backTo pos (starEach [] X.env)).any (·.1) = false := by rfl) : Ex X (.Call (.Name "repr" p) [e] [] pos) (mReprS ms) := by
  refine ⟨fun E η M c σ H s => ?_⟩
  refine Out.bind (R := RVs X.K X.mg) (fun xs H1 Q => Wc X (.builtin "repr") xs H1 Q) (ha E η M c σ H s) (fun Q hq => pe_we (pe_callB wc_call hg hm hv wa_pa (by decide) (by decide) he hpl) hq) fun rs c1 vs η1 M1 H1 s1 x1 z1 => ?_
  cases e1 : vals c1 rs with
  | none => trivial
  | some q =>
    obtain ⟨ds, c2⟩ := q
    obtain ⟨M2, s2, x2, r2⟩ := vals_ok s1 z1.1 z1.2 e1
    match ds, r2 with
    | [], _ => trivial
    | _ :: _ :: _, _ => trivial
    | [d], .cons r2 .nil =>
      dsimp only
      cases e2 : (drf c2.S d).bind gReprK with
      | none => trivial
      | some r =>
        obtain ⟨d', e3, e4⟩ := Option.bind_eq_some_iff.mp e2
        exact fun Q hQ => wc_reprS hsy hgd hu s2 r2 e3 e4 fun t ht => by
          subst ht
          exact hQ _ η1 M2 H1 s2 x2 (.str t)
@[simp] theorem wE_mReprS {Q : Rv → Cf → Prop} : wE (mReprS ms c) Q = wE (ms c) fun rs c1 => oE (vals c1 rs) fun p => match p.1 with | [d] => oE ((drf p.2.S d).bind gReprK) fun r => Q r p.2 | _ => False := by
  unfold mReprS
  rw [wE_bind]
  congr 1
  funext rs c1
  cases vals c1 rs with
  | none => rfl
  | some p =>
    obtain ⟨ds, c2⟩ := p
    match ds with
    | [] => rfl
    | _ :: _ :: _ => rfl
    | [d] =>
      show wE (match (drf c2.S d).bind gReprK with | some r => .ok r c2 | none => .stuck) Q = oE ((drf c2.S d).bind gReprK) fun r => Q r c2
      cases (drf c2.S d).bind gReprK <;> rfl
end
end LH
/-! LHHx: what an expression makes is shared from now on; at a def's end the handles made in it freeze, their objects written in their places. -/
namespace LH
open PySem PySem.Spec PyProof.Rows L2
/-- a new object becomes a handle -/
def mHd (m : Em) : Em := fun c => match m c with
  | .ok (.nw d) c1 => .ok (.fz (.hdl c1.S.length)) ⟨c1.ρ, c1.S ++ [d]⟩
  | r => r
section
variable {X : Cx}
theorem ex_hd {e : Expr} {m : Em} (h : Ex X e m) : Ex X e (mHd m) := by
  refine ⟨fun E η M c σ H s => ?_⟩
  have q := h E η M c σ H s
  unfold mHd
  cases e1 : m c with
  | stuck => trivial
  | err x c1 => rw [e1] at q; exact q
  | ok r c1 =>
    rw [e1] at q
    cases r with
    | fz d => exact q
    | loc i => exact q
    | nw d =>
      intro Q hQ
      refine q Q fun v η' M' H' s' x z => ?_
      obtain ⟨a, rfl, z1, z2, z3, z4, z5⟩ := z
      obtain ⟨s2, x2⟩ := s'.newHdl z1 z2 z3 z4 z5
      exact hQ _ (η' ++ [a]) M' H' s2 (x.trans x2) (.hdl (by
        rw [← s'.hlen, List.getElem?_append_right (Nat.le_refl _)]
        simp))
@[simp] theorem wE_mHd {m : Em} {c : Cf} {Q : Rv → Cf → Prop} : wE (mHd m c) Q = wE (m c) fun r c1 => match r with | .nw d => Q (.fz (.hdl c1.S.length)) ⟨c1.ρ, c1.S ++ [d]⟩ | r => Q r c1 := by
  unfold mHd
  cases m c with
  | ok r c1 => cases r <;> rfl
  | _ => rfl
theorem wZ_mHd {m : Em} {c : Cf} {E : Xc → Cf → Prop} {Q : Rv → Cf → Prop} : wZ E (mHd m c) Q = wZ E (m c) fun r c1 => match r with | .nw d => Q (.fz (.hdl c1.S.length)) ⟨c1.ρ, c1.S ++ [d]⟩ | r => Q r c1 := by
  unfold mHd
  cases m c with
  | ok r c1 => cases r <;> rfl
  | _ => rfl
end
/-! ### data with some handles looked through -/
mutual
def fzIn (g : Nat → Option D) : D → Option D
  | .hdl n => g n
  | .lst xs => (fzInL g xs).map .lst
  | .ro xs => (fzInL g xs).map .ro
  | .tup xs => (fzInL g xs).map .tup
  | .dct kvs => (fzInK g kvs).map .dct
  | .dcT kvs => (fzInT g kvs).map .dcT
  | .obj c fs => (fzInF g fs).map (.obj c)
  | .exc c fs => (fzInF g fs).map (.exc c)
  | .non => some .non
  | .bl b => some (.bl b)
  | .int i => some (.int i)
  | .str x => some (.str x)
  | .fn c => some (.fn c)
def fzInL (g : Nat → Option D) : List D → Option (List D)
  | [] => some []
  | x :: xs => match fzIn g x, fzInL g xs with
    | some y, some ys => some (y :: ys)
    | _, _ => none
def fzInK (g : Nat → Option D) : List (Key × D) → Option (List (Key × D))
  | [] => some []
  | (k, x) :: xs => match fzIn g x, fzInK g xs with
    | some y, some ys => some ((k, y) :: ys)
    | _, _ => none
def fzInT (g : Nat → Option D) : List (List Key × D) → Option (List (List Key × D))
  | [] => some []
  | (k, x) :: xs => match fzIn g x, fzInT g xs with
    | some y, some ys => some ((k, y) :: ys)
    | _, _ => none
def fzInF (g : Nat → Option D) : List (Str × D) → Option (List (Str × D))
  | [] => some []
  | (k, x) :: xs => match fzIn g x, fzInF g xs with
    | some y, some ys => some ((k, y) :: ys)
    | _, _ => none
end
theorem fzInK_map {g : Nat → Option D} : ∀ {ks ls : List (Key × D)}, fzInK g ks = some ls → ks.map (·.1) = ls.map (·.1) ∧ fzInL g (ks.map (·.2)) = some (ls.map (·.2))
  | [], _, h => by unfold fzInK at h; cases h; exact ⟨rfl, rfl⟩
  | (k, x) :: ks, ls, h => by
    unfold fzInK at h
    cases h1 : fzIn g x with
    | none => rw [h1] at h; cases h
    | some y =>
      cases h2 : fzInK g ks with
      | none => rw [h1, h2] at h; cases h
      | some ys =>
        rw [h1, h2] at h
        cases h
        obtain ⟨q1, q2⟩ := fzInK_map h2
        refine ⟨by simp [q1], ?_⟩
        show fzInL g (x :: ks.map (·.2)) = _
        unfold fzInL
        rw [h1, q2]; rfl
theorem fzInT_map {g : Nat → Option D} : ∀ {ks ls : List (List Key × D)}, fzInT g ks = some ls → ks.map (·.1) = ls.map (·.1) ∧ fzInL g (ks.map (·.2)) = some (ls.map (·.2))
  | [], _, h => by unfold fzInT at h; cases h; exact ⟨rfl, rfl⟩
  | (k, x) :: ks, ls, h => by
    unfold fzInT at h
    cases h1 : fzIn g x with
    | none => rw [h1] at h; cases h
    | some y =>
      cases h2 : fzInT g ks with
      | none => rw [h1, h2] at h; cases h
      | some ys =>
        rw [h1, h2] at h
        cases h
        obtain ⟨q1, q2⟩ := fzInT_map h2
        refine ⟨by simp [q1], ?_⟩
        show fzInL g (x :: ks.map (·.2)) = _
        unfold fzInL
        rw [h1, q2]; rfl
theorem fzInF_map {g : Nat → Option D} : ∀ {ks ls : List (Str × D)}, fzInF g ks = some ls → ks.map (·.1) = ls.map (·.1) ∧ fzInL g (ks.map (·.2)) = some (ls.map (·.2))
  | [], _, h => by unfold fzInF at h; cases h; exact ⟨rfl, rfl⟩
  | (k, x) :: ks, ls, h => by
    unfold fzInF at h
    cases h1 : fzIn g x with
    | none => rw [h1] at h; cases h
    | some y =>
      cases h2 : fzInF g ks with
      | none => rw [h1, h2] at h; cases h
      | some ys =>
        rw [h1, h2] at h
        cases h
        obtain ⟨q1, q2⟩ := fzInF_map h2
        refine ⟨by simp [q1], ?_⟩
        show fzInL g (x :: ks.map (·.2)) = _
        unfold fzInL
        rw [h1, q2]; rfl
/-- handles from k on are looked through, to some depth -/
def fzG (S : List D) (k : Nat) : Nat → Nat → Option D
  | 0, n => if n < k then some (.hdl n) else none
  | f + 1, n => if n < k then some (.hdl n) else (S[n]?).bind (fzIn (fzG S k f))
def fzD (S : List D) (k f : Nat) (d : D) : Option D := fzIn (fzG S k f) d
def fzL' (S : List D) (k f : Nat) (ds : List D) : Option (List D) := fzInL (fzG S k f) ds
def dropG (f : Nat) (F : Fm) : Fm := fun ds S => match F ds S with
  | .ok r c => if c.S.length = S.length then .ok r c else (match fzL' c.S S.length f (c.S.take S.length), r with
    | some S', .fz d => (match fzD c.S S.length f d with
      | some d' => .ok (.fz d') ⟨c.ρ, S'⟩
      | none => .stuck)
    | some S', .nw d => (match fzD c.S S.length f d with
      | some d' => .ok (.nw d') ⟨c.ρ, S'⟩
      | none => .stuck)
    | _, _ => .stuck)
  | .err x c => if c.S.length = S.length then .err x c else (match fzL' c.S S.length f (c.S.take S.length), fzInF (fzG c.S S.length f) x.fs with
    | some S', some fs => .err ⟨x.cls, fs⟩ ⟨c.ρ, S'⟩
    | _, _ => .stuck)
  | .stuck => .stuck
/-- the region with the objects of the handles from k on -/
def snapK (η : List Addr) (k : Nat) (M H : Hp) : Hp := fun a => if a ∈ η.drop k then H a else M a
section
variable {K : Fg} {mg : Mg} {E : En} {η : List Addr} {M H : Hp} {c : Cf} {σ : St} {k : Nat}
theorem snapK_ext (s : SR K mg E η M c σ H) {a : Addr} {o : HO} (e : M a = some o) : snapK η k M H a = some o := by
  unfold snapK
  by_cases h : a ∈ η.drop k
  · obtain ⟨z, _⟩ := s.hsome (List.mem_of_mem_drop h)
    rw [z] at e; cases e
  · rw [if_neg h]; exact e
theorem snapK_same (s : SR K mg E η M c σ H) : Same (snapK η k M H) H := fun a o e => by
  unfold snapK at e
  by_cases h : a ∈ η.drop k
  · rw [if_pos h] at e; exact e
  · rw [if_neg h] at e; exact s.sub a o e
theorem snapK_in {a : Addr} (h : a ∈ η.drop k) : snapK η k M H a = H a := by unfold snapK; rw [if_pos h]
theorem fz_lt {f n : Nat} {S : List D} (h : n < k) : fzG S k f n = some (.hdl n) := by
  cases f <;> (unfold fzG; rw [if_pos h])
theorem SqL.snapK {a : Addr} {xs : List V} (s : SR K mg E η M c σ H) (h : SqL K M a xs) : SqL K (snapK η k M H) a xs := by
  have x : Same M (LH.snapK η k M H) := fun a o e => snapK_ext s e
  exact x.seq h
/-- one layer, given the handles -/
def HgOk (K : Fg) (mg : Mg) (η η2 : List Addr) (M M2 : Hp) (g : Nat → Option D) : Prop := ∀ (n : Nat) (v : V) (d' : D), Rep K mg η M v (.hdl n) → g n = some d' → Rep K mg η2 M2 v d'
end
section
variable {K : Fg} {mg : Mg} {η η2 : List Addr} {M M2 : Hp} {g : Nat → Option D}
mutual
theorem rep_layer (x : Same M M2) (hg : HgOk K mg η η2 M M2 g) : ∀ {d d' : D} {v : V}, Rep K mg η M v d → fzIn g d = some d' → Rep K mg η2 M2 v d'
  | .hdl n, d', v, r, e => hg n v d' r (by unfold fzIn at e; exact e)
  | .non, _, _, .non, e => by unfold fzIn at e; cases e; exact .non
  | .bl b, _, _, .bl _, e => by unfold fzIn at e; cases e; exact .bl _
  | .int i, _, _, .int _, e => by unfold fzIn at e; cases e; exact .int _
  | .str s, _, _, .str _, e => by unfold fzIn at e; cases e; exact .str _
  | .fn c, _, _, .fn h, e => by unfold fzIn at e; cases e; exact .fn h
  | .lst xs, _, _, .lst h hs, e => by
    unfold fzIn at e
    obtain ⟨ys, h1, rfl⟩ := Option.map_eq_some_iff.mp e
    exact .lst (x _ _ h) (repL_layer x hg hs h1)
  | .ro xs, _, _, .ro h hs, e => by
    unfold fzIn at e
    obtain ⟨ys, h1, rfl⟩ := Option.map_eq_some_iff.mp e
    exact .ro (x.seq h) (repL_layer x hg hs h1)
  | .tup xs, _, _, .tup h hs, e => by
    unfold fzIn at e
    obtain ⟨ys, h1, rfl⟩ := Option.map_eq_some_iff.mp e
    exact .tup (x _ _ h) (repL_layer x hg hs h1)
  | .dct kvs, _, _, .dct h hk hs, e => by
    unfold fzIn at e
    obtain ⟨ys, h1, rfl⟩ := Option.map_eq_some_iff.mp e
    obtain ⟨q1, q2⟩ := fzInK_map h1
    exact .dct (x _ _ h) (hk.trans q1) (repK_layer x hg hs q2)
  | .dcT kvs, _, _, .dcT h hk hs, e => by
    unfold fzIn at e
    obtain ⟨ys, h1, rfl⟩ := Option.map_eq_some_iff.mp e
    obtain ⟨q1, q2⟩ := fzInT_map h1
    exact .dcT (x _ _ h) (hk.trans q1) (repT_layer x hg hs q2)
  | .obj c fs, _, _, .obj m h hk hs, e => by
    unfold fzIn at e
    obtain ⟨ys, h1, rfl⟩ := Option.map_eq_some_iff.mp e
    obtain ⟨q1, q2⟩ := fzInF_map h1
    exact .obj m (x _ _ h) (hk.trans q1) (repF_layer x hg hs q2)
  | .exc c fs, _, _, .exc m h h2 hk hs, e => by
    unfold fzIn at e
    obtain ⟨ys, h1, rfl⟩ := Option.map_eq_some_iff.mp e
    obtain ⟨q1, q2⟩ := fzInF_map h1
    exact .exc m (x _ _ h) (x _ _ h2) (hk.trans q1) (repF_layer x hg hs q2)
theorem repL_layer (x : Same M M2) (hg : HgOk K mg η η2 M M2 g) : ∀ {ds ds' : List D} {vs : List V}, RepL K mg η M vs ds → fzInL g ds = some ds' → RepL K mg η2 M2 vs ds'
  | [], _, _, .nil, e => by unfold fzInL at e; cases e; exact .nil
  | d :: ds, _, _, .cons h hs, e => by
    unfold fzInL at e
    cases q1 : fzIn g d with
    | none => rw [q1] at e; cases e
    | some y =>
      cases q2 : fzInL g ds with
      | none => rw [q1, q2] at e; cases e
      | some ys =>
        rw [q1, q2] at e
        cases e
        exact .cons (rep_layer x hg h q1) (repL_layer x hg hs q2)
theorem repK_layer (x : Same M M2) (hg : HgOk K mg η η2 M M2 g) : ∀ {kvs : List (Key × D)} {ds' : List D} {vs : List V}, RepL K mg η M vs (kvs.map (·.2)) → fzInL g (kvs.map (·.2)) = some ds' → RepL K mg η2 M2 vs ds'
  | [], _, _, .nil, e => by
    have e : fzInL g [] = some _ := e
    unfold fzInL at e; cases e; exact .nil
  | (key, d) :: ds, _, _, .cons h hs, e => by
    have e : fzInL g (d :: ds.map (·.2)) = some _ := e
    unfold fzInL at e
    cases q1 : fzIn g d with
    | none => rw [q1] at e; cases e
    | some y =>
      cases q2 : fzInL g (ds.map (·.2)) with
      | none => rw [q1, q2] at e; cases e
      | some ys =>
        rw [q1, q2] at e
        cases e
        exact .cons (rep_layer x hg h q1) (repK_layer x hg hs q2)
theorem repT_layer (x : Same M M2) (hg : HgOk K mg η η2 M M2 g) : ∀ {kvs : List (List Key × D)} {ds' : List D} {vs : List V}, RepL K mg η M vs (kvs.map (·.2)) → fzInL g (kvs.map (·.2)) = some ds' → RepL K mg η2 M2 vs ds'
  | [], _, _, .nil, e => by
    have e : fzInL g [] = some _ := e
    unfold fzInL at e; cases e; exact .nil
  | (key, d) :: ds, _, _, .cons h hs, e => by
    have e : fzInL g (d :: ds.map (·.2)) = some _ := e
    unfold fzInL at e
    cases q1 : fzIn g d with
    | none => rw [q1] at e; cases e
    | some y =>
      cases q2 : fzInL g (ds.map (·.2)) with
      | none => rw [q1, q2] at e; cases e
      | some ys =>
        rw [q1, q2] at e
        cases e
        exact .cons (rep_layer x hg h q1) (repT_layer x hg hs q2)
theorem repF_layer (x : Same M M2) (hg : HgOk K mg η η2 M M2 g) : ∀ {kvs : List (Str × D)} {ds' : List D} {vs : List V}, RepL K mg η M vs (kvs.map (·.2)) → fzInL g (kvs.map (·.2)) = some ds' → RepL K mg η2 M2 vs ds'
  | [], _, _, .nil, e => by
    have e : fzInL g [] = some _ := e
    unfold fzInL at e; cases e; exact .nil
  | (key, d) :: ds, _, _, .cons h hs, e => by
    have e : fzInL g (d :: ds.map (·.2)) = some _ := e
    unfold fzInL at e
    cases q1 : fzIn g d with
    | none => rw [q1] at e; cases e
    | some y =>
      cases q2 : fzInL g (ds.map (·.2)) with
      | none => rw [q1, q2] at e; cases e
      | some ys =>
        rw [q1, q2] at e
        cases e
        exact .cons (rep_layer x hg h q1) (repF_layer x hg hs q2)
end
/-- an object that stands in H, its children written anew -/
theorem at_layer {H : Hp} {a : Addr} {d d' : D} (x : Same M M2) (hg : HgOk K mg η η2 M M2 g) (h : At K mg η M H a d) (e : fzIn g d = some d') : At K mg η2 M2 H a d' := by
  cases d with
  | lst xs =>
    obtain ⟨vs, q, r⟩ := h
    unfold fzIn at e
    obtain ⟨ys, h1, rfl⟩ := Option.map_eq_some_iff.mp e
    exact ⟨vs, q, repL_layer x hg r h1⟩
  | dct kvs =>
    obtain ⟨vs, q, hk, r⟩ := h
    unfold fzIn at e
    obtain ⟨ys, h1, rfl⟩ := Option.map_eq_some_iff.mp e
    obtain ⟨q1, q2⟩ := fzInK_map h1
    exact ⟨vs, q, hk.trans q1, repK_layer x hg r q2⟩
  | dcT kvs =>
    obtain ⟨vs, q, hk, r⟩ := h
    unfold fzIn at e
    obtain ⟨ys, h1, rfl⟩ := Option.map_eq_some_iff.mp e
    obtain ⟨q1, q2⟩ := fzInT_map h1
    exact ⟨vs, q, hk.trans q1, repT_layer x hg r q2⟩
  | obj c fs =>
    obtain ⟨C, dx, vs, m, q, hk, r⟩ := h
    unfold fzIn at e
    obtain ⟨ys, h1, rfl⟩ := Option.map_eq_some_iff.mp e
    obtain ⟨q1, q2⟩ := fzInF_map h1
    exact ⟨C, dx, vs, m, q, hk.trans q1, repF_layer x hg r q2⟩
  | _ => exact h.elim
theorem at_rep {H : Hp} {a : Addr} {d : D} (h : At K mg η M H a d) (e : M a = H a) : Rep K mg η M (.ref a) d := by
  cases d with
  | lst xs => obtain ⟨vs, q, r⟩ := h; exact .lst (by rw [e]; exact q) r
  | dct kvs => obtain ⟨vs, q, hk, r⟩ := h; exact .dct (by rw [e]; exact q) hk r
  | dcT kvs => obtain ⟨vs, q, hk, r⟩ := h; exact .dcT (by rw [e]; exact q) hk r
  | obj c fs => obtain ⟨C, dx, vs, m, q, hk, r⟩ := h; exact .obj m (by rw [e]; exact q) hk r
  | _ => exact h.elim
theorem fzInL_get : ∀ {ds ds' : List D} {n : Nat} {d' : D}, fzInL g ds = some ds' → ds'[n]? = some d' → ∃ d, ds[n]? = some d ∧ fzIn g d = some d'
  | [], _, _, _, e, h => by unfold fzInL at e; cases e; simp at h
  | d :: ds, ds', n, d', e, h => by
    unfold fzInL at e
    cases q1 : fzIn g d with
    | none => rw [q1] at e; cases e
    | some y =>
      cases q2 : fzInL g ds with
      | none => rw [q1, q2] at e; cases e
      | some ys =>
        rw [q1, q2] at e
        cases e
        cases n with
        | zero => have h : some y = some d' := h; cases h; exact ⟨d, rfl, q1⟩
        | succ n => exact fzInL_get (n := n) q2 h
theorem fzInL_len : ∀ {ds ds' : List D}, fzInL g ds = some ds' → ds'.length = ds.length
  | [], _, e => by unfold fzInL at e; cases e; rfl
  | d :: ds, ds', e => by
    unfold fzInL at e
    cases q1 : fzIn g d with
    | none => rw [q1] at e; cases e
    | some y =>
      cases q2 : fzInL g ds with
      | none => rw [q1, q2] at e; cases e
      | some ys =>
        rw [q1, q2] at e
        cases e
        simp [fzInL_len q2]
end
section
variable {K : Fg} {mg : Mg} {η η' : List Addr} {M M' H H' : Hp} {S1 : List D} {k : Nat}
theorem hg_ok {E : En} {c : Cf} {σ : St} (s : SR K mg E η M c σ H) : ∀ f, HgOk K mg η (η.take k) M (snapK η k M H) (fzG c.S k f)
  | 0 => fun n v d' r e => by
    unfold fzG at e
    by_cases hn : n < k
    · rw [if_pos hn] at e
      cases e
      cases r with
      | hdl h => exact .hdl (by rw [List.getElem?_take_of_lt hn]; exact h)
    · rw [if_neg hn] at e; cases e
  | f + 1 => fun n v d' r e => by
    unfold fzG at e
    by_cases hn : n < k
    · rw [if_pos hn] at e
      cases e
      cases r with
      | hdl h => exact .hdl (by rw [List.getElem?_take_of_lt hn]; exact h)
    · rw [if_neg hn] at e
      obtain ⟨d, h1, h2⟩ := Option.bind_eq_some_iff.mp e
      cases r with
      | @hdl _ a ha =>
        obtain ⟨_, p2⟩ := s.hdl n a d ha h1
        have hm : a ∈ η.drop k := by
          have : (η.drop k)[n - k]? = some a := by
            rw [List.getElem?_drop]
            have : k + (n - k) = n := by omega
            rw [this]; exact ha
          exact List.mem_of_getElem? this
        have x : Same M (snapK η k M H) := fun a o e => snapK_ext s e
        exact at_rep (at_layer x (hg_ok s f) p2 h2) (snapK_in hm)
/-- the handles from k on end -/
theorem SR.dropAll {S' : List D} {f : Nat} (t : SR K mg ⟨H, η, M⟩ η' M' ⟨[], S1⟩ [] H') (h : fzL' S1 η.length f (S1.take η.length) = some S') : SR K mg ⟨H, η, M⟩ η (snapK η' η.length M' H') ⟨[], S'⟩ [] H' := by
  obtain ⟨q, eq⟩ := t.pre
  have eq : η' = η ++ q := eq
  have etk : η'.take η.length = η := by rw [eq, List.take_left]
  have edr : η'.drop η.length = q := by rw [eq, List.drop_left]
  have hl1 : η'.length = S1.length := t.hlen
  have hS' : S'.length = η.length := by
    have := fzInL_len h
    rw [this, List.length_take, ← hl1, eq, List.length_append]; omega
  have x : Same M' (snapK η' η.length M' H') := fun a o e => snapK_ext t e
  have hg := hg_ok (k := η.length) t f
  rw [etk] at hg
  have nq : ∀ a ∈ q, a ∉ η := fun a ha hm => by
    have := t.hnd
    rw [eq, List.nodup_append] at this
    exact this.2.2 a hm a ha rfl
  have hq : ∀ a ∈ q, H a = none := fun a ha => by
    rcases t.new a (by rw [eq]; exact List.mem_append_right _ ha) with z | z
    · exact absurd z (nq a ha)
    · exact z
  refine ⟨snapK_same t, rfl, fun i t e => by simp at e, fun i j a d d' e => by simp at e, hS'.symm, fun n a d e1 e2 => ?_, ?_, t.fr, ⟨[], by simp⟩, fun a h => .inl h, t.m0.trans x, fun a h1 h2 => ?_⟩
  · obtain ⟨d0, g1, g2⟩ := fzInL_get h e2
    have hn : n < η.length := (List.getElem?_eq_some_iff.mp e1).1
    rw [List.getElem?_take_of_lt hn] at g1
    obtain ⟨p1, p2⟩ := t.hdl n a d0 (by rw [eq, List.getElem?_append_left hn]; exact e1) g1
    refine ⟨?_, at_layer x hg p2 g2⟩
    unfold snapK
    rw [edr, if_neg (fun hm => nq a hm (List.mem_of_getElem? e1))]
    exact p1
  · have := t.hnd
    rw [eq, List.nodup_append] at this
    exact this.1
  · unfold snapK
    rw [edr, if_neg (fun hm => h2 (hq a hm))]
    exact t.mn a h1 h2
theorem spF_dropG {n f : Nat} {F : Fm} {vs : List V} {Q : VK} {Ex : XK} (h : spF K mg n (dropG f F) vs H Q Ex) : spF K mg n F vs H Q Ex := by
  obtain ⟨hl, η, M, ds, S, s0, r0, h⟩ := h
  refine ⟨hl, η, M, ds, S, s0, r0, ?_⟩
  have hlen : η.length = S.length := s0.hlen
  unfold dropG at h
  cases e : F ds S with
  | stuck => rw [e] at h; exact h
  | ok r c =>
    rw [e] at h
    dsimp only at h ⊢
    by_cases hc : c.S.length = S.length
    · rw [if_pos hc] at h; exact h
    · rw [if_neg hc] at h
      intro v η' M' H' t z
      rw [← hlen] at h
      cases hS : fzL' c.S η.length f (c.S.take η.length) with
      | none => rw [hS] at h; exact h.elim
      | some S' =>
        rw [hS] at h
        have t' := t.dropAll hS
        obtain ⟨q, eq⟩ := t.pre
        have eq : η' = η ++ q := eq
        have etk : η'.take η.length = η := by rw [eq, List.take_left]
        have edr : η'.drop η.length = q := by rw [eq, List.drop_left]
        have x : Same M' (snapK η' η.length M' H') := fun a o e => snapK_ext t e
        have hg := hg_ok (k := η.length) t f
        rw [etk] at hg
        cases r with
        | loc i => exact h.elim
        | fz d =>
          dsimp only at h
          cases hd : fzD c.S η.length f d with
          | none => rw [hd] at h; exact h.elim
          | some d' =>
            rw [hd] at h
            exact h _ η _ H' t' (rep_layer x hg z hd)
        | nw d =>
          dsimp only at h
          cases hd : fzD c.S η.length f d with
          | none => rw [hd] at h; exact h.elim
          | some d' =>
            rw [hd] at h
            obtain ⟨a, rfl, q1, q2, q3, q4, q5⟩ := z
            refine h _ η _ H' t' ⟨a, rfl, ?_, q2, fun m => q3 (by rw [eq]; exact List.mem_append_left _ m), own_bare, at_layer x hg q5 hd⟩
            unfold snapK
            rw [edr, if_neg (fun hm => q3 (by rw [eq]; exact List.mem_append_right _ hm))]
            exact q1
  | err y c =>
    rw [e] at h
    dsimp only at h ⊢
    by_cases hc : c.S.length = S.length
    · rw [if_pos hc] at h; exact h
    · rw [if_neg hc] at h
      intro cls d η' M' H' t z
      rw [← hlen] at h
      cases hS : fzL' c.S η.length f (c.S.take η.length) with
      | none => rw [hS] at h; exact h.elim
      | some S' =>
        cases hf : fzInF (fzG c.S η.length f) y.fs with
        | none => rw [hS, hf] at h; exact h.elim
        | some fs' =>
          rw [hS, hf] at h
          have t' := t.dropAll hS
          obtain ⟨q, eq⟩ := t.pre
          have eq : η' = η ++ q := eq
          have etk : η'.take η.length = η := by rw [eq, List.take_left]
          have x : Same M' (snapK η' η.length M' H') := fun a o e => snapK_ext t e
          have hg := hg_ok (k := η.length) t f
          rw [etk] at hg
          obtain ⟨dd, fs, q1, q2, q3, q4, q5⟩ := z
          obtain ⟨g1, g2⟩ := fzInF_map hf
          exact h cls d η _ H' t' ⟨dd, fs, q1, q2, x _ _ q3, q4.trans g1, repF_layer x hg q5 g2⟩
end
theorem fn_dropG {P : Program} {w : World} {K : Fg} {mg : Mg} {base : Heap} {CX : CXT} {k n f' : Nat} {f : Addr} {fd : FuncData} {ps : List Str} {F : Fm} (h : FnG P w K mg base CX k f fd ps (spF K mg n F)) : FnG P w K mg base CX k f fd ps (spF K mg n (dropG f' F)) :=
  ⟨fun vs H Q E s => h.len vs H Q E (spF_dropG s), fun A outer s H args us vs Q E r e b v q => h.run A outer s H args us vs Q E r e b v (spF_dropG q)⟩
end LH
/-! LHInO: `None in xs` and == with other things than own objects, where an own __eq__ is asked. -/
namespace GB
open PySem PySem.SeqAt
open AutoSeq1 (wpAny_loadPart')
open MeetsSeq MeetsSeq2 MeetsSeq3 SeqRoads2
section
variable {prog : Program} {w : World} {A : Around} {R : Result → Shared → Prop}
/-- at each turn the list has N items; the i-th one is equal to x or not, as bs says -/
def TurnsIn (prog : Program) (w : World) (A : Around) (E : Value → Shared → Prop) (l : Addr) (x : Value) (N : Nat) (bs : Nat → Bool) (I : Nat → Shared → Prop) : Prop :=
  ∀ i s, I i s → ∃ (ys : Array Value) (n : Nat), s.heap.get? l = some { cls := .type "list", data := .seq ys n } ∧ ys.size = N ∧
    ((∀ j, j < i → bs j = false) → ∀ (h1 : i < ys.size), wpAny (model prog w) A.in1 (eqBool ys[i] x) (fun r s' => r = bs i ∧ I (i + 1) s') E s)
theorem go_in (l : Addr) (x : Value) (N : Nat) (bs : Nat → Bool) (I : Nat → Shared → Prop) (hl : TurnsIn prog w A (fun e s' => R (.error e) s') l x N bs I)
    (no : ∀ s, (∀ j, j < N → bs j = false) → I N s → R (.ok (.ret (.bool false))) s) (yes : ∀ i s, i < N → bs i = true → I (i + 1) s → R (.ok (.ret (.bool true))) s) (k : Nat) :
    ∀ i : Nat, N - i = k → i ≤ N → (∀ j, j < i → bs j = false) → ∀ s, I i s →
      wpAny (model prog w) A.in1 (Builtin.«list.__contains__.loop» ⟨[.ref l, x, rawInt i], []⟩) (GQ.FinOf prog w A R) (fun e s' => R (.error e) s') s := by
  induction k with
  | zero =>
    intro i hk hi hb s h
    obtain ⟨ys, n, hl1, hs1, _⟩ := hl _ _ h
    obtain rfl : i = N := by omega
    have hR : R (.ok (.ret (.bool false))) s := no s hb h
    obtain ⟨hp, g, d, tk, os⟩ := s
    wp_walk using wpAny_loadPart' hl1
    have hi1 : ys[((i : Nat) : Int).toNat]? = none := by simp; omega
    rw [hi1]
    wp_walk
    exact hR
  | succ k ih =>
    intro i hk hi hb s h
    obtain ⟨ys, n, hl1, hs1, turn⟩ := hl _ _ h
    have hlt : i < ys.size := by omega
    have ht := turn hb hlt
    obtain ⟨hp, g, d, tk, os⟩ := s
    wp_walk using wpAny_loadPart' hl1
    have hi1 : ys[((i : Nat) : Int).toNat]? = some ys[i] := by simp [hlt]
    have hc : ((i : Int) + 1) = ((i + 1 : Nat) : Int) := by omega
    rw [hi1]
    refine wpAny_bind (wpAny_mono ht (fun r s2 h2 => ?_) fun _ _ x => x)
    obtain ⟨hr, h2⟩ := h2
    subst hr
    cases hbi : bs i with
    | false =>
      have hrec := ih (i + 1) (by omega) (by omega) (fun j hj => by
        rcases Nat.lt_or_ge j i with q | q
        · exact hb j q
        · obtain rfl : j = i := by omega
          exact hbi) s2 h2
      obtain ⟨hp2, g2, d2, tk2, os2⟩ := s2
      wp_walk
      rw [hc]
      exact ⟨plainId_quiet plain_contains_loop _, codeAny_builtin entry_contains_loop (by
        rw [Around.under_plainId plain_contains_loop _]
        exact hrec)⟩
    | true =>
      have hn := yes i s2 (by omega) hbi h2
      obtain ⟨hp2, g2, d2, tk2, os2⟩ := s2
      wp_walk
      exact hn
theorem list_in (l : Addr) (x : Value) (N : Nat) (bs : Nat → Bool) (I : Nat → Shared → Prop) (hl : TurnsIn prog w A (fun e s' => R (.error e) s') l x N bs I)
    (no : ∀ s, (∀ j, j < N → bs j = false) → I N s → R (.ok (.ret (.bool false))) s) (yes : ∀ i s, i < N → bs i = true → I (i + 1) s → R (.ok (.ret (.bool true))) s) {s : Shared} (h : I 0 s) :
    wpAny (model prog w) A.in1 (Builtin.«list.__contains__» ⟨[.ref l, x], []⟩) (GQ.FinOf prog w A R) (fun e s' => R (.error e) s') s := by
  obtain ⟨ys, n, hl1, hs1, _⟩ := hl _ _ h
  have hrec := go_in (A := A) (R := R) l x N bs I hl no yes _ 0 rfl (Nat.zero_le _) (fun j hj => absurd hj (Nat.not_lt_zero _)) s h
  obtain ⟨hp, g, d, tk, os⟩ := s
  wp_walk using wpAny_loadPart' hl1
  exact ⟨plainId_quiet plain_contains_loop _, codeAny_builtin entry_contains_loop (by
    rw [Around.under_plainId plain_contains_loop _]
    exact hrec)⟩
end
section
variable {prog : Program} {w : World} {A : Around} {E : Value → Shared → Prop} {s : Shared}
theorem call_in {l : Addr} {x : Value} {N : Nat} {bs : Nat → Bool} {Q : Value → Shared → Prop} (I : Nat → Shared → Prop) (hl : TurnsIn prog w A E l x N bs I)
    (no : ∀ s, (∀ j, j < N → bs j = false) → I N s → Q (.bool false) s) (yes : ∀ i s, i < N → bs i = true → I (i + 1) s → Q (.bool true) s) (h : I 0 s) : wpAny (model prog w) A (call (.builtin "list.__contains__") [.ref l, x]) Q E s := by
  obtain ⟨ys, n, hl1, _, _⟩ := hl _ _ h
  refine GQ.call_here F.slot_list_contains ⟨_, hl1, rfl⟩ F.entry_list_contains (F.args_list_contains_2 _ _) ?_
  exact list_in (R := wants Q E) l x N bs I hl (fun s' z q => no s' z q) (fun i s' z1 z2 q => yes i s' z1 z2 q) h
end
end GB
namespace LH
open PySem PySem.Spec PyProof.Rows L2
section
variable {X : Cx} {T : OwnT} {k n : Nat} {d e : D} {b : Bool}
/-- an own __eq__ called with anything -/
theorem own_callA {c : Str} {fs : List (Str × D)} (ok : OwnOk X.prog X.w X.K X.mg X.base T k) (h : ownEq T c (.obj c fs) e = some b) {A : Around} {pins : List (Addr × Obj)} {s : Shared} {σ : St} {H : Hp} {x y : V} {u v : Value} (sb : SubG X k A) (I : Inv X pins σ H s) (rx : RelV x u) (ry : RelV y v)
    (r1 : Rep X.K X.mg [] H x (.obj c fs)) (r2 : Rep X.K X.mg [] H y e) : ∃ a C dx ks f, x = .ref a ∧ X.mg c = some (.ref C) ∧ H a = some (.ins C dx ks) ∧ Meth X.K C "__eq__" f ∧
      wpAny (model X.prog X.w) A (call (.ref f) [u, v]) (fun r s' => r = .bool b ∧ Gr X pins σ H s') X.xe s := by
  obtain ⟨a, C, dx, ks, rfl, m1, ha, _, _⟩ := rep_obj r1
  unfold ownEq at h
  split at h
  · cases hT : T.lookup c with
    | none => rw [hT] at h; cases h
    | some F =>
      rw [hT] at h
      dsimp only at h
      obtain ⟨⟨C', f, fd, ps, q1, q2, q3, q4, q5⟩, _⟩ := ok.ex c F hT
      rw [m1] at q1
      cases q1
      refine ⟨a, C, dx, ks, f, rfl, m1, ha, q3, ?_⟩
      split at h
      · rename_i b' c' hF
        cases h
        have e0 : Env0 X.prog X.w X.K X.mg X.base A X.stack s H := by
          have e := I.env0
          exact ⟨by rw [sb.fr]; exact e.frames, e.mod, e.bs, e.bsz, e.funs, e.frf, e.hok, e.bare⟩
        have r : Vals [V.ref a, y] [u, v] := .cons rx (.cons ry .nil)
        have sr0 : SR X.K X.mg ⟨H, [], H⟩ [] H ⟨[], []⟩ [] H :=
          ⟨Same.refl H, rfl, fun i t e => by simp at e, fun i j a d d' e => by simp at e, rfl, fun n a d e => by simp at e, List.nodup_nil, fun a o e _ => e, ⟨[], rfl⟩, fun a h => by simp at h, Same.refl H, fun a h _ => h⟩
        have hsp : spF X.K X.mg 2 F [V.ref a, y] H (fun z H' => z = .bl b ∧ ∀ a o, H a = some o → H' a = some o) E0 := by
          refine ⟨rfl, [], H, [_, _], [], sr0, .cons r1 (.cons r2 .nil), ?_⟩
          rw [hF]
          intro z η' M' H' t rz
          refine ⟨?_, fun a o h => t.fr a o h (by simp)⟩
          have rz : Rep X.K X.mg η' M' z (.bl b) := rz
          cases rz
          rfl
        have hl := q5.len _ _ _ _ hsp
        refine wpAny_call (codeAny_mono (q5.run A X.stack s H ⟨[u, v], []⟩ [u, v] _ _ E0 sb.room e0 (by
          have := q4 s [u, v] I.kIn (by simpa using hl)
          simpa using this) r hsp) fun o s' hq => ?_)
        cases o with
        | error er => exact passL pins σ H s er s' I hq
        | ok fl =>
          cases fl with
          | ret w =>
            obtain ⟨z, H', I', rz, ez, ex⟩ := I.after hq
            subst ez
            cases rz
            exact ⟨rfl, H', I', ex⟩
          | next => exact False.elim hq
          | brk => exact False.elim hq
          | cont => exact False.elim hq
      · cases h
  · cases h
/-- an own object against None -/
theorem rc_objN {c : Str} {fs : List (Str × D)} (ok : OwnOk X.prog X.w X.K X.mg X.base T k) (h : ownEq T c (.obj c fs) .non = some b) : RcB X k (.obj c fs) .non b := by
  intro A pins s σ H x y u v sb I rx ry r1 r2
  obtain ⟨a, C, dx, ks, f, rfl, mC, ha, hm, hc⟩ := own_callA ok h sb I rx ry r1 r2
  obtain rfl : u = Value.ref a := rx
  cases r2
  obtain rfl : v = Value.none := ry
  obtain ⟨mA, J, _⟩ := ins_get I.hok ha
  obtain ⟨od, J, _⟩ := J.look
  obtain ⟨m, hF⟩ := I.fr
  refine PySem.W.cmp_K (op := .Eq) (tb := .type "NoneType") (by have := sb.units; omega) hF I.ok.mod.kin J (PySem.W.Looks.of_pure rfl) (by
    have e : PySem.W.subIn X.K (.type "NoneType") (.ref C) = some false := rfl
    unfold PySem.W.notFirst
    rw [e]
    simp) hm.at_ hm.fn (wpAny_mono hc (fun r s' q => ?_) fun _ _ z => z)
  obtain ⟨q1, q2⟩ := q
  subst q1
  exact ⟨rfl, q2⟩
theorem eq_objN {c : Str} {fs : List (Str × D)} (ok : OwnOk X.prog X.w X.K X.mg X.base T k) (h : ownEq T c (.obj c fs) .non = some b) : EqB X k (.obj c fs) .non b := by
  intro A pins s σ H x y u v sb I rx ry r1 r2
  have key := rc_objN ok h A pins s σ H x y u v sb I rx ry r1 r2
  obtain ⟨a, C, dx, ks, rfl, m1, ha, _, _⟩ := rep_obj r1
  obtain rfl : u = Value.ref a := rx
  cases r2
  obtain rfl : v = Value.none := ry
  unfold eqBool
  refine wpAny_holding ?_
  refine wpAny_ite_split (fun hab => absurd (eq_of_beq hab) (fun z => nomatch z)) (fun _ => ?_)
  refine wpAny_bind (wpAny_mono key (fun v s' hv => ?_) fun _ _ x => x)
  obtain ⟨rfl, q⟩ := hv
  exact wpAny_truthy_bool ⟨rfl, q⟩
def bitsN (T : OwnT) : List D → Option (List Bool)
  | [] => some []
  | .obj c fs :: ys => match ownEq T c (.obj c fs) .non, bitsN T ys with
    | some b, some bs => some (b :: bs)
    | _, _ => none
  | .non :: ys => (bitsN T ys).map (true :: ·)
  | _ => none
theorem bitsN_get (ok : OwnOk X.prog X.w X.K X.mg X.base T k) : ∀ {ys : List D} {bs : List Bool}, bitsN T ys = some bs → bs.length = ys.length ∧ ∀ (i : Nat) (y : D), ys[i]? = some y → EqB X k y .non ((bs[i]?).getD false)
  | [], _, h => by unfold bitsN at h; cases h; exact ⟨rfl, fun i y e => by simp at e⟩
  | .obj c fs :: ys, bs, h => by
    unfold bitsN at h
    cases h1 : ownEq T c (.obj c fs) .non with
    | none => rw [h1] at h; cases h
    | some b =>
      cases h2 : bitsN T ys with
      | none => rw [h1, h2] at h; cases h
      | some bs' =>
        rw [h1, h2] at h
        cases h
        obtain ⟨q1, q2⟩ := bitsN_get ok h2
        refine ⟨by simp [q1], fun i y e => ?_⟩
        cases i with
        | zero =>
          have e : some (D.obj c fs) = some y := e
          cases e
          exact eq_objN ok h1
        | succ i => exact q2 i y e
  | .non :: ys, bs, h => by
    unfold bitsN at h
    obtain ⟨bs', h2, rfl⟩ := Option.map_eq_some_iff.mp h
    obtain ⟨q1, q2⟩ := bitsN_get ok h2
    refine ⟨by simp [q1], fun i y e => ?_⟩
    cases i with
    | zero =>
      have e : some D.non = some y := e
      cases e
      exact eq_q rfl rfl
    | succ i => exact q2 i y e
  | .bl _ :: ys, bs, h => by unfold bitsN at h; cases h
  | .int _ :: ys, bs, h => by unfold bitsN at h; cases h
  | .str _ :: ys, bs, h => by unfold bitsN at h; cases h
  | .lst _ :: ys, bs, h => by unfold bitsN at h; cases h
  | .tup _ :: ys, bs, h => by unfold bitsN at h; cases h
  | .ro _ :: ys, bs, h => by unfold bitsN at h; cases h
  | .dct _ :: ys, bs, h => by unfold bitsN at h; cases h
  | .dcT _ :: ys, bs, h => by unfold bitsN at h; cases h
  | .hdl _ :: ys, bs, h => by unfold bitsN at h; cases h
  | .exc _ _ :: ys, bs, h => by unfold bitsN at h; cases h
  | .fn _ :: ys, bs, h => by unfold bitsN at h; cases h
noncomputable def gInO (T : OwnT) (a d : D) : Option Rv := match gIn false a d with
  | some r => some r
  | none => match a, d with
    | .non, .lst ys => if nohdL ys then (bitsN T ys).map fun bs => .fz (.bl (bs.any id)) else none
    | _, _ => none
theorem o_inO (ok : OwnOk X.prog X.w X.K X.mg X.base T k) (hr : RmG (k + 1) X.A) : Op2 X (Wo X (compareOp .In)) (gInO T) := by
  intro E η M c σ H x y dx dy r s h1 h2 e Q hQ
  unfold gInO at e
  split at e
  · rename_i r' hg
    cases e
    exact o_in (by have := hr.rm.un; omega) E η M c σ H x y dx dy r s h1 h2 hg Q hQ
  · split at e
    · rename_i ys _
      split at e
      · rename_i hn
        obtain ⟨bs, hb, rfl⟩ := Option.map_eq_some_iff.mp e
        intro pins s1 σ1 v u I rx ry
        have q1 := vw_H s.sub h1 rfl
        have q2 := vw_H s.sub h2 (by simpa [nohd] using hn)
        obtain ⟨l, vs, rfl, hl, qr⟩ := rep_lst q2
        cases q1
        have rx : v = Value.none := rx
        subst rx
        obtain rfl : u = Value.ref l := ry
        obtain ⟨hlen, hbit⟩ := bitsN_get ok hb
        have lq := qr.length
        have sb : SubG X (k + 1) X.A := ⟨hr, rfl⟩
        have fin : ∀ (z : Bool) (s' : Shared), z = bs.any id → Gr X pins σ1 H s' → EP X pins σ1 Q (.bool z) s' := fun z s' hz ⟨H', I', g⟩ => by
          subst hz
          exact ⟨.bl _, H', I', rfl, hQ _ η M H' (s.heap g) .refl (Rep.bl _)⟩
        have hT : s1.TypeIs (.ref l) "list" := by
          obtain ⟨z, its, m, rv, ea⟩ := (show ObjOk X.prog X.w H s1.heap l (.lst vs) from I.hok l _ hl)
          exact ⟨_, ea, rfl⟩
        show wpAny (model X.prog X.w) X.A (do return Value.bool (← PySem.contains (Value.ref l) Value.none)) (EP X pins σ1 Q) X.xe s1
        refine wpAny_bind (wpAny_contains_slot hT F.slot_list_contains (GB.call_in (N := ys.length) (bs := fun i => (bs[i]?).getD false) (fun i s' => Gr X pins σ1 H s') (fun i s' q => ?_) (fun s' hall q => wpAny_truthy_bool (wpAny_pure (fin _ s' ?_ q))) (fun i s' hi hbi q => wpAny_truthy_bool (wpAny_pure (fin _ s' ?_ q))) (Gr.here I)))
        · obtain ⟨H1, I1, g1⟩ := id q
          obtain ⟨z, its, m, rv, ea⟩ := (show ObjOk X.prog X.w H1 s'.heap l (.lst vs) from I1.hok l _ (g1 _ _ hl))
          have e1 := rv.length
          refine ⟨its.toArray, m, ea, by rw [List.size_toArray]; omega, fun hj h1 => ?_⟩
          rw [List.size_toArray] at h1
          have k1 : i < vs.length := by omega
          obtain ⟨w1, hw1, rw1⟩ := rv.get (List.getElem?_eq_getElem k1)
          have g5 : its[i]? = some its.toArray[i] := by
            rw [List.getElem?_eq_getElem h1] <;> simp
          rw [g5] at hw1
          rw [Option.some.inj hw1]
          obtain ⟨dx, hdx, rdx⟩ := qr.get (List.getElem?_eq_getElem k1)
          refine wpAny_mono (hbit i dx hdx X.A.in1 pins s' σ1 H1 _ V.non w1 .none sb.in1 I1 rw1 rfl (rdx.grow g1) .non) (fun r s2 ⟨z1, H2, I2, g2⟩ => ?_) fun _ _ x => x
          exact ⟨z1, H2, I2, fun a o h => g2 a o (g1 a o h)⟩
        · symm
          rw [List.any_eq_false]
          intro z hz
          obtain ⟨i, hi, rfl⟩ := List.getElem_of_mem hz
          have := hall i (by omega)
          rw [List.getElem?_eq_getElem hi] at this
          simpa using this
        · symm
          rw [List.any_eq_true]
          cases hz : bs[i]? with
          | none => rw [hz] at hbi; cases hbi
          | some z =>
            rw [hz] at hbi
            exact ⟨z, List.mem_of_getElem? hz, hbi⟩
      · cases e
    · cases e
theorem gInO_of {a d : D} {r : Rv} (h : gIn false a d = some r) : gInO T a d = some r := by unfold gInO; rw [h]
end
end LH
/-! LHSortT: sorted of a tuple. -/
namespace PySem.W
open PySem Spec Calls PyProof.Rows
section
variable {prog : Program} {w : World} {A : Around} {E : Value → Shared → Prop} {s : Shared} {κ : PyProof.Rows.KeyKind}
theorem collect_tupT {l : Addr} {vs : List Value} {Q : List Value → Shared → Prop} (hl : PyProof.Rows.IsTup s.heap l vs.toArray)
    (h : Q vs { s with heap := (s.heap.push (seqObj "list" #[] 0)).update s.heap.objs.size (Obj.mapSeq (· ++ vs.toArray)) }) (hsz : vs.length ≤ sizeLine := by size_fits) :
    wpAny (model prog w) A (collect (.ref l)) Q E s := by
  obtain ⟨o, ho, hc, n, hd⟩ := id hl
  unfold collect
  refine wpAny_bind (wpAny_runValue (codeAny_builtin entry_proto_collect' ?_))
  show wpAny _ _ (do again (.builtin "list.__iadd__" ⟨[← newList [], .ref l], []⟩)) _ _ s
  refine wpAny_bind (wpAny_newList (wpAny_pure ⟨Code.quiet_builtin _ (by decide +kernel), codeAny_builtin entry_list_iadd' ?_⟩))
  show wpAny _ _ (Builtin.List.listExtendWith (.ref s.heap.objs.size) (.ref l) (.ref s.heap.objs.size)) _ _ { s with heap := s.heap.push (seqObj "list" #[] 0) }
  unfold Builtin.List.listExtendWith
  have ho' : (s.heap.push (seqObj "list" #[] 0)).get? l = some o := Heap.get?_push_of_some _ ho
  refine wpAny_bind (wpAny_typeOf (T := "tuple") ⟨o, ho', hc⟩ ?_)
  have ht : (Value.type "tuple" == Value.type "tuple") = true := by rfl
  rw [if_pos (by rw [ht]; simp)]
  refine wpAny_bind (listItems_at ho' hd ?_)
  refine wpAny_bind (listItems_at (xs := #[]) (n := 0) (Heap.get?_push_size _ rfl) rfl ?_)
  rw [if_neg (by simp)]
  refine wpAny_bind (listUpdate_at (xs := #[]) (n := 0) (Heap.get?_push_size _ rfl) rfl ?_ (Nat.zero_le _) (by show (#[] ++ vs.toArray).size ≤ sizeLine + 1; simp only [Array.size_append, List.size_toArray, List.length_nil]; omega))
  refine wpAny_pure ?_
  show wpAny (model prog w) A (do
      let o ← load s.heap.objs.size
      match o.data with
      | .seq xs _ => pure xs.toList
      | _ => unsupported "internal:collect") Q E { s with heap := (s.heap.push (seqObj "list" #[] 0)).update s.heap.objs.size (Obj.mapSeq (· ++ vs.toArray)) }
  refine wpAny_bind (wpAny_load (get?_update_seq (Heap.get?_push_size _ rfl) _) ?_)
  show wpAny _ _ (pure ((#[] : Array Value) ++ vs.toArray).toList) Q E _
  rw [show ((#[] : Array Value) ++ vs.toArray).toList = vs by simp]
  exact wpAny_pure h
theorem sorted_valsT {l : Addr} {vs : List Value} {Q : Value → Shared → Prop} (hl : PyProof.Rows.IsTup s.heap l vs.toArray) (S : SortsAt prog w A.in1.in1 { s with heap := sortingHeap (copyHeap s.heap vs) (s.heap.objs.size + 1) vs } κ vs) (hL : vs.length ≤ sizeLine)
    (h : Q (.ref (s.heap.objs.size + 1)) { s with heap := sortedAll s.heap vs (sortVals κ false vs vs).toArray }) : wpAny (model prog w) A (call (.builtin "sorted") [.ref l]) Q E s := by
  have body : ∀ E' : Value → Shared → Prop, wpAny (model prog w) A.in1.in1 (Builtin.«list.sort» ⟨[.ref (s.heap.objs.size + 1)], []⟩) (fun f s' => f = .done (.ret .none) ∧ Q (.ref (s.heap.objs.size + 1)) s') E' { s with heap := copyHeap s.heap vs } :=
    fun _ => list_sort_vals (s := { s with heap := copyHeap s.heap vs }) (copyHeap_at s.heap vs) S hL ⟨rfl, h⟩
  refine call_function_entry_kw kind_sorted plain_sorted entry_sorted (args_sorted1 _) ?_
  unfold Builtin.«sorted»
  refine wpAny_bind (m := checkCount "sorted" 1 1 _) (wpAny_pure ?_)
  refine wpAny_bind (collect_tupT hl ?_ hL)
  refine wpAny_bind (wpAny_newList ?_ hL)
  have hsz : ((s.heap.push (seqObj "list" #[] 0)).update s.heap.objs.size (Obj.mapSeq (· ++ vs.toArray))).objs.size = s.heap.objs.size + 1 := by
    rw [Heap.size_update, size_push']
  show wpAny _ _ _ _ _ { s with heap := copyHeap s.heap vs }
  rw [hsz]
  refine wpAny_bind (wpAny_holding (wpAny_call_entry_kw slot_list_sort ⟨_, copyHeap_at s.heap vs, rfl⟩ entry_list_sort ?body (args_list_sort _)))
  case body =>
    show wpAny (model prog w) A.in1.in1 (Builtin.«list.sort» ⟨[.ref (s.heap.objs.size + 1)], []⟩) _ _ _
    refine wpAny_mono (body _) (fun f s' hf => ?_) fun _ _ e => e
    obtain ⟨rfl, hq⟩ := hf
    exact ⟨_, rfl, wpAny_pure ⟨_, rfl, hq⟩⟩
end
end PySem.W
namespace LH
open PySem PySem.Spec PyProof.Rows L2 PySem.W
section
variable {X : Cx}
theorem call_sortedT {β : Type} (enc : β → PyData) (hu : X.A.units + 70 < cLine) : CallR X (.builtin "sorted") (fun xs H Q => ∃ (a : Addr) (vs : List V) (bs : List β) (S : V → β → Prop), xs = [.ref a] ∧ SqT X.K H a vs ∧ EachIs S vs bs ∧ (∀ x b, S x b → Dp X.K H x (enc b)) ∧
    AllAlike (bs.map enc) ∧ (∀ b ∈ bs, notNon (enc b) = true ∧ (enc b).depth ≤ 64) ∧ ∀ out p, EachIs S out (bs.mergeSort (dataLe false enc)) → H p = none → Q (.ref p) (upd H p (.lst out))) := by
  intro pins s σ H xs us Q I r h
  obtain ⟨a, vs, bs, S, rfl, hs, he, hd, hal, hb, q⟩ := h
  obtain rfl := Vals.ref1 r
  obtain ⟨its, rv, hl, hz⟩ := I.tuple hs
  have e1 := each_vals he rv
  have len : its.length = bs.length := e1.length
  have er : EachIs (fun v b => ∃ as, Reads s.heap v (enc b) as) its bs := e1.mono fun v b ⟨x, r1, r2⟩ => Dp.reads I _ _ _ (hd x b r2) r1
  have er' : EachIs (fun v b => ∃ as, Reads (sortingHeap (copyHeap s.heap its) (s.heap.objs.size + 1) its) v (enc b) as) its bs := er.mono fun _ _ ⟨as, r⟩ => ⟨as, PyProof.Rows.Reads.keeps (fun _ _ => sorting_copy_old) r⟩
  have hz' : its.length ≤ sizeLine := by rw [← rv.length]; exact hz
  refine sorted_valsT hl (LHS.sortsAny (s := { s with heap := sortingHeap (copyHeap s.heap its) (s.heap.objs.size + 1) its }) (each_map (R := fun v d => ∃ as, Reads (sortingHeap (copyHeap s.heap its) (s.heap.objs.size + 1) its) v d as) enc er') hal (fun d hd z => ?_) (fun d hd => ?_)) hz' ?_
  · obtain ⟨b, hb1, rfl⟩ := List.mem_map.mp hd
    have := (hb b hb1).1
    rw [z] at this; cases this
  · obtain ⟨b, hb1, rfl⟩ := List.mem_map.mp hd
    have := (hb b hb1).2
    show X.A.units + 1 + 1 + _ < _
    omega
  · have eo := sortVals_data false e1 er' hal
    obtain ⟨out, k1, k2⟩ := vals_each eo
    obtain ⟨ep, he'⟩ := PyProof.Rows.sortedAll_at s.heap its (sortVals (dataKind (sortingHeap (copyHeap s.heap its) (s.heap.objs.size + 1) its) (bs.map enc)) false its its).toArray
    have hlen : out.length ≤ sizeLine := by
      rw [k1.length, eo.length, List.length_mergeSort, ← len]
      exact hz'
    exact ⟨.ref _, upd H (s.heap.objs.size + 1) (.lst out), I.laid (t' := s.toks) (fun _ _ => PyProof.Rows.sortedAll_old) (Nat.le_succ _) ⟨hlen, _, ep, k1, by simpa using he'⟩, rfl, q out _ k2 (I.hok.fresh (Nat.le_succ _))⟩
def gSortedT (d : D) : Option Rv := match d with
  | .tup xs => (sortD xs).map fun ys => .nw (.lst ys)
  | d => gSorted d
theorem sort_runT {E : En} {η : List Addr} {M H : Hp} {c : Cf} {σ : St} {a : Addr} {xs : List V} {ds ys : List D} {Q : VK} (hu : X.A.units + 70 < cLine) (s : SR X.K X.mg E η M c σ H) (hq : SqT X.K H a xs) (r : RepL X.K X.mg η M xs ds) (e : sortD ds = some ys) (hQ : Pst X E η M c σ (.nw (.lst ys)) Q) : Wc X (.builtin "sorted") [.ref a] H Q := by
  unfold sortD at e
  split at e
  · rename_i hc
    cases e
    unfold okSort at hc
    simp only [Bool.and_eq_true, List.all_eq_true, decide_eq_true_eq] at hc
    obtain ⟨h1, h2⟩ := hc
    refine call_wc (call_sortedT encD hu) ⟨a, xs, ds, fun x d => Rep X.K X.mg η M x d ∧ d ∈ ds, rfl, hq, each_mem (repL_each r), fun x d ⟨z, zm⟩ => ?_, fun p hp p' hp' => ?_, fun d hm => ⟨(h1 d hm).1.2, (h1 d hm).2⟩, fun out p ho hp => ?_⟩
    · obtain ⟨p, hp⟩ := Option.isSome_iff_exists.mp (h1 d zm).1.1
      have := rep_dp s.sub z hp
      unfold encD
      rw [hp]
      exact this
    · obtain ⟨d, hd, rfl⟩ := List.mem_map.mp hp
      obtain ⟨d', hd', rfl⟩ := List.mem_map.mp hp'
      exact h2 d hd d' hd'
    · exact pst_nw s hQ (fun p hp => ⟨_, upd_same, each_repL (ho.mono fun _ _ z => z.1)⟩) p hp
  · cases e
theorem c_sortedT (hu : X.A.units + 70 < cLine) : OpN X (Wc X (.builtin "sorted")) (g1 gSortedT) := by
  refine opN1 fun E η M c σ H x dx r s h1 e Q hQ => ?_
  unfold gSortedT at e
  split at e
  · rename_i ds
    obtain ⟨a, xs, rfl, q, r⟩ := h1.tup s.sub
    cases e2 : sortD ds with
    | none => rw [e2] at e; cases e
    | some ys => rw [e2] at e; cases e; exact sort_runT hu s (.of q) r e2 hQ
  · unfold gSorted at e
    split at e
    · rename_i ds _
      obtain ⟨a, xs, rfl, q, r⟩ := h1.lst s.sub
      cases e2 : sortD ds with
      | none => rw [e2] at e; cases e
      | some ys => rw [e2] at e; cases e; exact sort_run hu s (.of q) r e2 hQ
    · rename_i ds _
      obtain ⟨a, xs, rfl, q, r⟩ := h1.ro s.sub
      cases e2 : sortD ds with
      | none => rw [e2] at e; cases e
      | some ys => rw [e2] at e; cases e; exact sort_run hu s q r e2 hQ
    · cases e
end
end LH
/-! LHTx: f-strings of two parts, str(x), int(text), <= of texts, zip of two lists. -/
namespace LH
open PySem PySem.Spec PyProof.Rows L2
section
variable {X : Cx}
/-- str(x) -/
def gStr (d : D) : Option Rv := match d with
  | .int i => if i.natAbs.log2 < 1920 then some (.fz (.str (Str.ofString (toString i)))) else none
  | .str x => some (.fz (.str x))
  | _ => none
theorem c_str : OpN X (Wc X (.type "str")) (g1 gStr) := by
  refine opN1 fun E η M c σ H x dx r s h1 e Q hQ => ?_
  unfold gStr at e
  split at e
  · split at e
    · rename_i hl
      cases e
      exact call_wc call_str_int ⟨_, by rw [h1.int], hl, pst_fz s hQ (.str _)⟩
    · cases e
  · cases e
    exact call_wc SkE.call_str_str ⟨_, by rw [h1.str], pst_fz s hQ (.str _)⟩
  · cases e
/-- int(x), of a text too -/
def gIntT (d : D) : Option Rv := match d with
  | .str x => if x.length ≤ 640 then (PySem.intText? x).map fun n => .fz (.int n) else none
  | d => gInt d
theorem c_intT : OpN X (Wc X (.type "int")) (g1 gIntT) := by
  refine opN1 fun E η M c σ H x dx r s h1 e Q hQ => ?_
  unfold gIntT at e
  split at e
  · split at e
    · rename_i hl
      obtain ⟨n, hn, rfl⟩ := Option.map_eq_some_iff.mp e
      exact call_wc call_int_str ⟨_, n, by rw [h1.str], hn, hl, pst_fz s hQ (.int _)⟩
    · cases e
  · unfold gInt at e
    split at e
    · cases e; exact call_wc call_int1 (.inl ⟨_, by rw [h1.int], pst_fz s hQ (.int _)⟩)
    · cases e; exact call_wc call_int1 (.inr ⟨_, by rw [h1.bl], pst_fz s hQ (.int _)⟩)
    · cases e
/-- <= of ints, of texts -/
def gLeT (a b : D) : Option Rv := match a, b with
  | .str x, .str y => some (.fz (.bl (!decide (y.cps.toList < x.cps.toList))))
  | a, b => gCmpI (fun i j => decide (i ≤ j)) a b
theorem o_leT : Op2 X (Wo X (compareOp .LtE)) gLeT := by
  intro E η M c σ H x y dx dy r s h1 h2 e Q hQ
  unfold gLeT at e
  split at e
  · cases e
    exact op_wo op_le_str ⟨_, _, h1.str, h2.str, pst_fz s hQ (.bl _)⟩
  · exact o_le E η M c σ H x y _ _ r s h1 h2 e Q hQ
end
section
variable {X : Cx} {e : Expr} {me : Em} {p0 p1 pos : Pos} {j : Nat}
/-- f'x{e}' -/
def gF2 (x : Str) (d : D) : Option Rv := match d with
  | .str y => if x.length + y.length ≤ sizeLine then some (.fz (.str (x ++ y))) else none
  | .int i => if i.natAbs.log2 < 1920 ∧ x.length + (Str.ofString (toString i)).length ≤ sizeLine then some (.fz (.str (x ++ Str.ofString (toString i)))) else none
  | _ => none
theorem empty_app (x : Str) : Str.empty ++ x = x := by
  cases x with
  | mk a =>
    show Str.mk (#[] ++ a) = _
    rw [Array.empty_append]
theorem app_len (x y : Str) : (x ++ y).length = x.length + y.length := by
  show (x.cps ++ y.cps).size = _
  rw [Array.size_append]; rfl
theorem ex_f2 {x : Str} (hx : x.length ≤ sizeLine) (he : Ex X e me) : Ex X (.JoinedStr [.Constant (.str x) j p0, .FormattedValue e (-1) none p1] pos) (mUn (gF2 x) me) := by
  refine ⟨fun E η M c σ H s => ?_⟩
  refine Out.bind (fun (v : V) H1 (Q : VK) => (∃ y : Str, v = .str y ∧ x.length + y.length ≤ sizeLine ∧ Q (.str (x ++ y)) H1) ∨ ∃ i : Int, v = .int i ∧ i.natAbs.log2 < 1920 ∧ x.length + (toString i : Str).length ≤ sizeLine ∧ Q (.str (x ++ toString i)) H1) (he E η M c σ H s) (fun Q hq => ?_) fun ra c1 v η1 M1 H1 s1 x1 z1 => ?_
  · refine pe_we (pe_joined (.cons (we_pe (X := X) (e := .Constant (.str x) j p0)) (.cons (pe_fmt we_pe) .nil))) ?_
    show We X (.Constant (.str x) j p0) σ H fun v H1 => ∃ y : Str, v = .str y ∧ (Str.empty ++ y).length ≤ sizeLine ∧ tJs [tFmt (We X e)] (Str.empty ++ y) σ H1 _
    refine pe_we pe_str ⟨x, rfl, by rw [empty_app]; exact hx, ?_⟩
    rw [empty_app]
    intro pins s I
    refine wpAny_mono (hq pins s I) (fun v' s' hv => ?_) fun _ _ z => z
    obtain ⟨v, H1, I1, rv, h⟩ := hv
    refine ⟨v, H1, I1, rv, ?_⟩
    rcases h with ⟨y, rfl, hl, q⟩ | ⟨i, rfl, hi, hl, q⟩
    · exact .inl ⟨y, rfl, by omega, y, rfl, by rw [app_len]; exact hl, q⟩
    · exact .inr ⟨i, rfl, hi, toString i, rfl, by rw [app_len]; exact hl, q⟩
  · unfold m1
    cases e1 : view c1 ra with
    | none => trivial
    | some d =>
      have e2 := view_ok s1 z1 e1
      cases d with
      | str y =>
        show Out X _ _ E η1 M1 σ (match gF2 x (.str y) with | some r => Res.ok r c1 | none => .stuck)
        unfold gF2
        dsimp only
        by_cases hl : x.length + y.length ≤ sizeLine
        · rw [if_pos hl]
          exact out_ok s1 (fun Q hq => .inl ⟨y, e2.str, hl, hq⟩) (Rep.str _)
        · rw [if_neg hl]; trivial
      | int i =>
        show Out X _ _ E η1 M1 σ (match gF2 x (.int i) with | some r => Res.ok r c1 | none => .stuck)
        unfold gF2
        dsimp only
        by_cases hl : i.natAbs.log2 < 1920 ∧ x.length + (Str.ofString (toString i)).length ≤ sizeLine
        · rw [if_pos hl]
          exact out_ok s1 (fun Q hq => .inr ⟨i, e2.int, hl.1, hl.2, hq⟩) (Rep.str _)
        · rw [if_neg hl]; trivial
      | _ => trivial
end
/-! ### zip of two lists -/
def zipD : List D → List D → List D
  | d :: ds, e :: es => .tup [d, e] :: zipD ds es
  | _, _ => []
theorem zipD_get : ∀ {ds es : List D} {i : Nat} {t : D}, (zipD ds es)[i]? = some t → ∃ d e, ds[i]? = some d ∧ es[i]? = some e ∧ t = .tup [d, e]
  | [], _, _, _, h => by simp [zipD] at h
  | _ :: _, [], _, _, h => by simp [zipD] at h
  | d :: ds, e :: es, 0, t, h => by simp [zipD] at h; exact ⟨d, e, rfl, rfl, h.symm⟩
  | d :: ds, e :: es, i + 1, t, h => by
    have h : (zipD ds es)[i]? = some t := by simpa [zipD] using h
    obtain ⟨d', e', h1, h2, h3⟩ := zipD_get h
    exact ⟨d', e', by simpa using h1, by simpa using h2, h3⟩
theorem zipD_len : ∀ (ds es : List D), (zipD ds es).length = min ds.length es.length
  | [], _ => by simp [zipD]
  | _ :: _, [] => by simp [zipD]
  | d :: ds, e :: es => by simp [zipD, zipD_len ds es]
section
variable {X : Cx} {η : List Addr} {M : Hp}
theorem jok_zip {K : Fg} {mg : Mg} {a b : Addr} {xs ys : List V} {ds es : List D} (h : M a = some (.lst xs)) (h2 : M b = some (.lst ys)) (r : RepL K mg η M xs ds) (r2 : RepL K mg η M ys es) : JOk K mg η M (Itz K a b) (zipD ds es) := by
  intro i H hs
  have ha : SqL K H a xs := .of (hs _ _ h)
  have hb : SqL K H b ys := .of (hs _ _ h2)
  refine ⟨fun t e => ?_, fun hl => ⟨xs, ys, ha, hb, by
    rw [zipD_len] at hl
    rw [r.length, r2.length]
    omega⟩⟩
  obtain ⟨d, f, e1, e2, rfl⟩ := zipD_get e
  obtain ⟨v, q1, p1⟩ := r.getD' e1
  obtain ⟨u, q2, p2⟩ := r2.getD' e2
  refine ⟨⟨xs, ys, v, u, ha, hb, q1, q2⟩, fun y H' ⟨T, x', y', k1, k2, k3, k4, k5⟩ => ?_⟩
  have g1 := k4 xs ha
  have g2 := k5 ys hb
  rw [q1] at g1; cases g1
  rw [q2] at g2; cases g2
  exact .inr ⟨T, [v, u], [d, f], k2, k1, k3, .cons p1 (.cons p2 .nil), rfl⟩
def mZip (ms : Cf → Res (List Rv)) : Cf → Res (List D) := fun c => (ms c).bind fun rs c1 => match vals c1 rs with
  | some ([.lst ds, .lst es], c2) => .ok (zipD ds es) c2
  | _ => .stuck
theorem ix_zip {e1 e2 : Expr} {elts : List Expr} {kk : Nat} {p tpos pos : Pos} {ms : Cf → Res (List Rv)} (hm : X.mg "zip" = none) (ha : Ax X [e1, e2] ms) (hg : Gl X "zip" := by rfl) (he : starEach [e1, e2] X.env = (false, eval e1 X.env) :: starEach [e2] X.env := by rfl) (hpl : (backTo pos (starEach [e2] X.env)).any (·.1) = false := by rfl) :
    Ix X (.Tuple elts kk tpos) (.Call (.Name "zip" p) [e1, e2] [] pos) (mZip ms) := by
  refine ⟨fun E η M c σ H s => ?_⟩
  refine Out.bind (R := RVs X.K X.mg) (fun vs H1 (R : It → Hp → Prop) => ∃ a b xs ys, vs = [V.ref a, V.ref b] ∧ SqL X.K H1 a xs ∧ SqL X.K H1 b ys ∧ R (Itz X.K a b) H1) (ha E η M c σ H s) (fun Q hq => pi_wi (pi_zip hg hm wa_pa he hpl) hq) fun rs c1 vs η1 M1 H1 s1 x1 z1 => ?_
  cases q1 : vals c1 rs with
  | none => trivial
  | some q =>
    obtain ⟨ds, c2⟩ := q
    obtain ⟨M2, s2, x2, r2⟩ := vals_ok s1 z1.1 z1.2 q1
    rcases ds with _ | ⟨d1, _ | ⟨d2, _ | ⟨d3, ds⟩⟩⟩
    · trivial
    · cases d1 <;> trivial
    · cases d1 <;> cases d2 <;> try trivial
      cases r2 with
      | cons r3 r4 =>
        cases r3 with
        | lst hq hr =>
          cases r4 with
          | cons r5 r6 =>
            cases r5 with
            | lst hq2 hr2 =>
              cases r6
              exact out_ext x2 (out_ok (v := Itz X.K _ _) s2 (fun Q hQ => ⟨_, _, _, _, rfl, .of (s2.sub _ _ hq), .of (s2.sub _ _ hq2), hQ⟩) (jok_zip hq hq2 hr hr2))
    · cases d1 <;> cases d2 <;> trivial
theorem wE_mZip {ms : Cf → Res (List Rv)} {c : Cf} {Q : List D → Cf → Prop} (h : wE (ms c) fun rs c1 => ∃ ds es c2, vals c1 rs = some ([.lst ds, .lst es], c2) ∧ Q (zipD ds es) c2) : wE (mZip ms c) Q := by
  obtain ⟨rs, c1, e, ds, es, c2, h1, h2⟩ := wE_ex h
  unfold mZip
  rw [e]
  show wE (match vals c1 rs with | some ([.lst ds, .lst es], c2) => .ok (zipD ds es) c2 | _ => .stuck) Q
  rw [h1]
  exact h2
end
theorem st_JoinedStr {vs p} {r : List Expr} {env : Env} : starEach (.JoinedStr vs p :: r) env = (false, eval (.JoinedStr vs p) env) :: starEach r env := rfl
theorem pl_JoinedStr {vs p} {r : List Expr} {env : Env} (h : (starEach r env).any (·.1) = false) : (starEach (.JoinedStr vs p :: r) env).any (·.1) = false := by rw [st_JoinedStr, List.any_cons, h]; rfl
end LH
/-! LHMakeH: new objects that are shared from their making on; constructors without arguments. -/
namespace LH
open PySem PySem.Spec PyProof.Rows L2
section
variable {X : Cx} {cn : Str} {n k : Nat} {F : Fm} {e : Expr} {es : List Expr} {p pos : Pos} {ms : Cf → Res (List Rv)}
def mkResH (cn : Str) (F : Fm) (ds : List D) (c : Cf) : Res Rv := match F (.hdl c.S.length :: ds) (c.S ++ [.obj cn []]) with
  | .ok (.fz .non) c3 => .ok (.fz (.hdl c.S.length)) ⟨c.ρ, c3.S⟩
  | .err x c3 => .err x ⟨c.ρ, c3.S⟩
  | _ => .stuck
theorem out_mkH {C : Addr} (hC : X.mg cn = some (.ref C)) {E : En} {η : List Addr} {M H : Hp} {c : Cf} {σ : St} {vs : List V} {ds : List D} (s : SR X.K X.mg E η M c σ H) (r : RepL X.K X.mg η M vs ds) (hl : vs.length + 1 = n) :
    Out X (RV X.K X.mg) (fun Q => WfI X C n F σ vs H Q) E η M σ (mkResH cn F ds c) := by
  have base : ∀ x dx, H x = none → H dx = none → dx ≠ x → SR X.K X.mg E (η ++ [x]) M ⟨c.ρ, c.S ++ [.obj cn []]⟩ σ (upd (upd H dx (.own x)) x (.ins C dx [])) ∧ RepL X.K X.mg (η ++ [x]) M (.ref x :: vs) (.hdl c.S.length :: ds) := fun x dx hx hdx hne => by
    obtain ⟨f1, f2, f3, f4⟩ := s.free hx
    have a2 : SR X.K X.mg E η M c σ (upd (upd H dx (.own x)) x (.ins C dx [])) := (s.alloc (o := .own x) hdx).alloc (by rw [upd_ne (Ne.symm hne)]; exact hx)
    obtain ⟨s1, x1⟩ := a2.newHdl (d := .obj cn []) f1 f2 f3 f4 ⟨C, dx, [], hC, upd_same, rfl, .nil⟩
    refine ⟨s1, .cons (.hdl ?_) (r.mono x1)⟩
    rw [← s.hlen, List.getElem?_append_right (Nat.le_refl _)]
    simp
  have inner : ∀ {x dx : Addr}, SR X.K X.mg E (η ++ [x]) M ⟨c.ρ, c.S ++ [.obj cn []]⟩ σ (upd (upd H dx (.own x)) x (.ins C dx [])) → SR X.K X.mg ⟨upd (upd H dx (.own x)) x (.ins C dx []), η ++ [x], M⟩ (η ++ [x]) M ⟨[], c.S ++ [.obj cn []]⟩ [] (upd (upd H dx (.own x)) x (.ins C dx [])) := fun {x dx} s1 =>
    ⟨s1.sub, rfl, fun i t e => by simp at e, fun i j a d d' e => by simp at e, s1.hlen, s1.hdl, s1.hnd, fun a o e _ => e, ⟨[], by simp⟩, fun a h => .inl h, Same.refl M, fun a h _ => h⟩
  unfold mkResH
  cases eF : F (.hdl c.S.length :: ds) (c.S ++ [.obj cn []]) with
  | stuck => trivial
  | err y c3 =>
    refine fun W Q tk hQ => .inr ⟨W, tk, fun x dx hx hdx hne => ?_⟩
    obtain ⟨s1, r1⟩ := base x dx hx hdx hne
    refine ⟨hl, η ++ [x], M, _, _, inner s1, r1, ?_⟩
    rw [eF]
    exact fun cls d η' M' H' t z => hQ cls d η' M' H' (s1.called t) (Ext.trans ⟨Same.refl M, [x], rfl⟩ (show Ext (η ++ [x]) M η' M' from t.ext)) z
  | ok rr c3 =>
    cases rr with
    | fz dd =>
      cases dd with
      | non =>
        refine fun Q hQ => .inl fun x dx hx hdx hne => ?_
        obtain ⟨s1, r1⟩ := base x dx hx hdx hne
        refine ⟨hl, η ++ [x], M, _, _, inner s1, r1, ?_⟩
        rw [eF]
        intro v η' M' H' t z
        cases z
        refine ⟨rfl, ?_⟩
        have xx : Ext η M η' M' := Ext.trans ⟨Same.refl M, [x], rfl⟩ (show Ext (η ++ [x]) M η' M' from t.ext)
        have hidx : (η ++ [x])[c.S.length]? = some x := by
          rw [← s.hlen, List.getElem?_append_right (Nat.le_refl _)]; simp
        exact hQ _ η' M' H' (s1.called t) xx (.hdl ((show Ext (η ++ [x]) M η' M' from t.ext).get hidx))
      | _ => trivial
    | _ => trivial
def mMakeH (cn : Str) (n : Nat) (F : Fm) (ms : Cf → Res (List Rv)) : Em := fun c => (ms c).bind fun rs c1 => match vals c1 rs with
  | some (ds, c2) => if ds.length + 1 = n then mkResH cn F ds c2 else .stuck
  | none => .stuck
theorem ex_makeH (h : FnI X.prog X.w X.K X.mg X.base cn k n F) (hr : RmG (k + 1) X.A) (ha : Ax X (e :: es) ms) (hg : Gl X cn := by rfl) (hdb : (cn == ("__debug__" : Str)) = false := by decide)
    (he : starEach (e :: es) X.env = (false, eval e X.env) :: starEach es X.env := by rfl) (hpl : (backTo pos (starEach es X.env)).any (·.1) = false := by rfl) : Ex X (.Call (.Name cn p) (e :: es) [] pos) (mMakeH cn n F ms) := by
  obtain ⟨C, f, fd, ps, hC, hm, hb, hF⟩ := h
  refine ⟨fun E η M c σ H s => ?_⟩
  refine Out.bind (R := RVs X.K X.mg) (fun vs H1 Q => WfI X C n F σ vs H1 Q) (ha E η M c σ H s) (fun Q hq => ?_) fun rs c1 vs η1 M1 H1 s1 x1 z1 => ?_
  · intro pins st I
    refine wpAny_Call_Name_kw (ld_glob I hg hC ?_ hdb)
    refine PySem.W.callWith_K (h₀ := X.base) I.ok.mod.kin hm.kp (thn (hq pos pins st I) fun us s1 ⟨vs, H1, I1, r, q⟩ => ⟨I1.kIn, ?_⟩) he hpl
    rcases q with q | ⟨W, tk, q⟩
    · exact run_mk hm hF hr hb (fun pins => passL pins σ) I1 r q
    · exact run_mk hm hF hr hb (passAt tk σ) I1 r q
  · cases e1 : vals c1 rs with
    | none => trivial
    | some q =>
      obtain ⟨ds, c2⟩ := q
      dsimp only
      by_cases hl : ds.length + 1 = n
      · rw [if_pos hl]
        obtain ⟨M2, s2, x2, r2⟩ := vals_ok s1 z1.1 z1.2 e1
        exact out_ext x2 (out_mkH hC s2 r2 (by rw [r2.length]; exact hl))
      · rw [if_neg hl]; trivial
def mMake0H (cn : Str) (F : Fm) : Em := fun c => mkResH cn F [] c
theorem ex_make0H (h : FnI X.prog X.w X.K X.mg X.base cn k 1 F) (hr : RmG (k + 1) X.A) (hg : Gl X cn := by rfl) (hdb : (cn == ("__debug__" : Str)) = false := by decide) : Ex X (.Call (.Name cn p) [] [] pos) (mMake0H cn F) := by
  obtain ⟨C, f, fd, ps, hC, hm, hb, hF⟩ := h
  refine ⟨fun E η M c σ H s => ?_⟩
  refine (out_mkH (n := 1) hC s .nil rfl).imp (fun x => x) (fun Q hq => ?_) fun _ _ _ _ _ _ _ z => z
  intro pins st I
  refine wpAny_Call_Name_kw (ld_glob I hg hC ?_ hdb)
  have hq : WfI X C 1 F σ [] H Q := hq
  rcases hq with q | ⟨W, tk, q⟩
  · exact PySem.W.callWith_K0 I.kIn hm.kp (run_mk (us := []) hm hF hr hb (fun pins => passL pins σ) I .nil q)
  · exact PySem.W.callWith_K0 I.kIn hm.kp (run_mk (us := []) hm hF hr hb (passAt tk σ) I .nil q)
theorem wE_mMakeH {c : Cf} {Q : Rv → Cf → Prop} : wE (mMakeH cn n F ms c) Q = wE (ms c) fun rs c1 => oE (vals c1 rs) fun p => p.1.length + 1 = n ∧ wE (mkResH cn F p.1 p.2) Q := by
  unfold mMakeH
  rw [wE_bind]
  congr 1
  funext rs c1
  cases vals c1 rs with
  | none => rfl
  | some p =>
    obtain ⟨ds, c2⟩ := p
    show wE (if ds.length + 1 = n then mkResH cn F ds c2 else .stuck) Q = (ds.length + 1 = n ∧ wE (mkResH cn F ds c2) Q)
    by_cases hl : ds.length + 1 = n
    · rw [if_pos hl]; simp [hl]
    · rw [if_neg hl]; exact propext ⟨fun z => z.elim, fun z => absurd z.1 hl⟩
end
end LH
/-! LHFzB: within a def's own block all handles that the def made freeze. -/
namespace LH
open PySem PySem.Spec PyProof.Rows L2
def fzSl (S : List D) (k f : Nat) : Sl → Option Sl
  | .un => some .un
  | .fz d => (fzD S k f d).map .fz
  | .ow d => (fzD S k f d).map .ow
def fzSls (S : List D) (k f : Nat) : List Sl → Option (List Sl)
  | [] => some []
  | s :: ss => match fzSl S k f s, fzSls S k f ss with
    | some t, some ts => some (t :: ts)
    | _, _ => none
theorem fzSls_get {S : List D} {k f : Nat} : ∀ {ss ts : List Sl} {i : Nat} {t : Sl}, fzSls S k f ss = some ts → ts[i]? = some t → ∃ s, ss[i]? = some s ∧ fzSl S k f s = some t
  | [], _, _, _, e, h => by unfold fzSls at e; cases e; simp at h
  | s :: ss, ts, i, t, e, h => by
    unfold fzSls at e
    cases q1 : fzSl S k f s with
    | none => rw [q1] at e; cases e
    | some y =>
      cases q2 : fzSls S k f ss with
      | none => rw [q1, q2] at e; cases e
      | some ys =>
        rw [q1, q2] at e
        cases e
        cases i with
        | zero => have h : some y = some t := h; cases h; exact ⟨s, rfl, q1⟩
        | succ i => exact fzSls_get (i := i) q2 h
theorem fzSls_len {S : List D} {k f : Nat} : ∀ {ss ts : List Sl}, fzSls S k f ss = some ts → ts.length = ss.length
  | [], _, e => by unfold fzSls at e; cases e; rfl
  | s :: ss, ts, e => by
    unfold fzSls at e
    cases q1 : fzSl S k f s with
    | none => rw [q1] at e; cases e
    | some y =>
      cases q2 : fzSls S k f ss with
      | none => rw [q1, q2] at e; cases e
      | some ys =>
        rw [q1, q2] at e
        cases e
        simp [fzSls_len q2]
theorem fzSl_ow {S : List D} {k f : Nat} {s : Sl} {d : D} (h : fzSl S k f s = some (.ow d)) : ∃ d0, s = .ow d0 ∧ fzD S k f d0 = some d := by
  cases s with
  | un => cases h
  | fz d0 => obtain ⟨_, _, q⟩ := Option.map_eq_some_iff.mp h; cases q
  | ow d0 => obtain ⟨d1, q1, q⟩ := Option.map_eq_some_iff.mp h; cases q; exact ⟨d0, rfl, q1⟩
def fzAll (k f : Nat) (c : Cf) : Option Cf := match fzSls c.S k f c.ρ, fzL' c.S k f (c.S.take k) with
  | some ρ, some S => some ⟨ρ, S⟩
  | _, _ => none
section
variable {K : Fg} {mg : Mg} {E : En} {η : List Addr} {M H : Hp} {c c' : Cf} {σ : St} {k f : Nat}
theorem SR.fzAll (t : SR K mg E η M c σ H) (hk : E.η.length = k) (h : LH.fzAll k f c = some c') : SR K mg E E.η (snapK η k M H) c' σ H := by
  unfold LH.fzAll at h
  cases h1 : fzSls c.S k f c.ρ with
  | none => rw [h1] at h; cases h
  | some ρ' =>
    cases h2 : fzL' c.S k f (c.S.take k) with
    | none => rw [h1, h2] at h; cases h
    | some S' =>
      rw [h1, h2] at h
      cases h
      obtain ⟨q, eq⟩ := t.pre
      have etk : η.take k = E.η := by rw [eq, ← hk, List.take_left]
      have edr : η.drop k = q := by rw [eq, ← hk, List.drop_left]
      have hS' : S'.length = E.η.length := by
        have := fzInL_len h2
        rw [this, List.length_take, ← t.hlen, eq, List.length_append, hk]; omega
      have x : Same M (snapK η k M H) := fun a o e => snapK_ext t e
      have hg := hg_ok (k := k) t f
      rw [etk] at hg
      have nq : ∀ a ∈ q, a ∉ E.η := fun a ha hm => by
        have := t.hnd
        rw [eq, List.nodup_append] at this
        exact this.2.2 a hm a ha rfl
      have hq : ∀ a ∈ q, E.H a = none := fun a ha => by
        rcases t.new a (by rw [eq]; exact List.mem_append_right _ ha) with z | z
        · exact absurd z (nq a ha)
        · exact z
      have sn : ∀ {a : Addr}, M a = none → a ∉ q → snapK η k M H a = none := fun {a} h1 h2 => by
        unfold snapK
        rw [edr, if_neg h2]; exact h1
      refine ⟨snapK_same t, by rw [t.len]; exact (fzSls_len h1).symm, fun i s e => ?_, fun i j a d d' e1 e2 e3 e4 => ?_, hS'.symm, fun n a d e1 e2 => ?_, ?_, t.fr, ⟨[], by simp⟩, fun a h => .inl h, t.m0.trans x, fun a g1 g2 => ?_⟩
      · obtain ⟨s0, p1, p2⟩ := fzSls_get h1 e
        have p := t.slot i s0 p1
        cases s0 with
        | un => cases p2; trivial
        | fz d0 =>
          obtain ⟨d1, r1, r2⟩ := Option.map_eq_some_iff.mp p2
          cases r2
          obtain ⟨v, v1, v2⟩ := p
          exact ⟨v, v1, rep_layer x hg v2 r1⟩
        | ow d0 =>
          obtain ⟨d1, r1, r2⟩ := Option.map_eq_some_iff.mp p2
          cases r2
          obtain ⟨a, z1, z2, z3, z4, z5⟩ := p
          exact ⟨a, z1, sn z2 (fun m => z4 (by rw [eq]; exact List.mem_append_right _ m)), z3, fun m => z4 (by rw [eq]; exact List.mem_append_left _ m), at_layer x hg z5 r1⟩
      · obtain ⟨s1, p1, p2⟩ := fzSls_get h1 e1
        obtain ⟨s2, p3, p4⟩ := fzSls_get h1 e2
        obtain ⟨d1, rfl, _⟩ := fzSl_ow p2
        obtain ⟨d2, rfl, _⟩ := fzSl_ow p4
        exact t.inj i j a d1 d2 p1 p3 e3 e4
      · obtain ⟨d0, g1, g2⟩ := fzInL_get h2 e2
        have hn : n < E.η.length := (List.getElem?_eq_some_iff.mp e1).1
        rw [List.getElem?_take_of_lt (by omega)] at g1
        obtain ⟨p1, p2⟩ := t.hdl n a d0 (by rw [eq, List.getElem?_append_left hn]; exact e1) g1
        exact ⟨sn p1 (fun m => nq a m (List.mem_of_getElem? e1)), at_layer x hg p2 g2⟩
      · have := t.hnd
        rw [eq, List.nodup_append] at this
        exact this.1
      · exact sn (t.mn a g1 g2) (fun m => g2 (hq a m))
end
/-- a block within a def that was entered with k handles -/
structure BxK (X : Cx) (k : Nat) (st : List Stmt) (m : Sm) : Prop where
  run : ∀ E η M c σ H, SR X.K X.mg E η M c σ H → E.η.length = k → ∀ Z, Good X E E.η E.M (m c) Z → Wss X st Z σ H
section
variable {X : Cx} {k f : Nat} {st : Stmt} {rest : List Stmt} {m m2 : Sm}
theorem bxK_of (h : Bx X rest m) : BxK X k rest m := ⟨fun E η M c σ H s hk Z g => h E η M c σ H s Z (Good.ext s.ext g)⟩
theorem bxK_cons (h1 : Sx X st m) (h2 : BxK X k rest m2) : BxK X k (st :: rest) (bCons m m2) := by
  refine ⟨fun E η M c σ H s hk Z g => ?_⟩
  unfold bCons at g
  refine pss_wss (pss_cons ws_ps wss_pss) (h1 E η M c σ H s _ ?_)
  cases e1 : m c with
  | stuck => rw [e1] at g; exact g.elim
  | err x c1 => rw [e1] at g; exact Good.ext s.ext g
  | ok fl c1 =>
    rw [e1] at g
    cases fl with
    | nx => exact fun σ1 η1 M1 H1 s1 x1 => h2.run E η1 M1 c1 σ1 H1 s1 hk Z g
    | bk => exact Good.ext s.ext g
    | ct => exact Good.ext s.ext g
    | rt r => exact Good.ext s.ext g
def bFz (k f : Nat) (m : Sm) : Sm := fun c => match fzAll k f c with
  | some c' => m c'
  | none => .stuck
theorem bxK_fz (h : Bx X rest m) : BxK X k rest (bFz k f m) := by
  refine ⟨fun E η M c σ H s hk Z g => ?_⟩
  unfold bFz at g
  cases e : fzAll k f c with
  | none => rw [e] at g; exact g.elim
  | some c' =>
    rw [e] at g
    have s' := s.fzAll hk e
    exact h E E.η _ c' σ H s' Z (Good.ext s'.ext g)
end
theorem fn_runK {P : Program} {w : World} {K : Fg} {mg : Mg} {base : Heap} {x qual : Str} {st : Stmt} {f : Addr} {fd : FuncData} {N ps : List Str} {k n : Nat} {mb : Nat → Sm} {G : Fm} (F : Fun K x qual st f fd) (S : FnScope N ps (defScope st)) (hn : ps.length = n) (hG : ∀ ds S, G ds S = runF N.length (mb S.length) ds S)
    (hb : ∀ (j : Nat) (cdv : Value) (A : Around) (outer : List Env) (s : Shared) (H : Hp) (Ex : XK), RmG k (A.deeper (envOfC qual (defScope st) s.heap.objs.size f cdv)) → BxK (cxOf (L2.CX P w) P w K mg base N qual (defScope st) f cdv A outer s H Ex) j (defBody st) (mb j)) :
    FnG P w K mg base (L2.CX P w) (k + 1) f fd ps (spF K mg n G) := by
  subst hn
  refine fnG_of F S (fun vs H Q Ex h => h.1) (fun cdv A outer s H vs Q Ex hr h => ?_)
  obtain ⟨hl, η, M, ds, St0, s0, r0, h⟩ := h
  refine ⟨Wss _ (defBody st), wss_pss, ?_⟩
  have s1 := SR.start s0 r0 N.length
  have hlen : η.length = St0.length := s0.hlen
  rw [hG] at h
  refine (hb St0.length cdv A outer s H Ex hr).run _ η M _ _ H s1 hlen _ ?_
  unfold runF at h
  cases e : mb St0.length ⟨ds.map Sl.fz ++ List.replicate (N.length - ds.length) .un, St0⟩ with
  | stuck => rw [e] at h; exact h.elim
  | err y c1 =>
    rw [e] at h
    exact ⟨_, takes_of rfl rfl rfl rfl, fun cls d σ' η' M' H' s' x' z' => h cls d η' M' H' s'.bare z'⟩
  | ok fl c1 =>
    rw [e] at h
    cases fl with
    | nx => exact fun σ' η' M' H' s' x' => h .non η' M' H' s'.bare Rep.non
    | bk => exact h.elim
    | ct => exact h.elim
    | rt r =>
      refine fun v σ' η' M' H' s' x' z' => ?_
      dsimp only at h
      cases e2 : leaveR c1 r with
      | none => rw [e2] at h; exact h.elim
      | some r' =>
        rw [e2] at h
        exact h v η' M' H' s'.bare (leaveR_ok (c := c1) s' z' e2)
end LH
/-! LHMulT: text * int. -/
namespace LH
open PySem PySem.Spec PyProof.Rows L2
section
variable {X : Cx}
theorem op_mul_str : OpR X (binaryOp .Mult) (fun x y H Q => ∃ z n, x = .str z ∧ y = .int n ∧ MulOk z n ∧ Q (.str (Txt.mul z n)) H) := by
  intro pins s σ H x y v u Q I rx ry h
  obtain ⟨z, n, rfl, rfl, hz, q⟩ := h
  obtain ⟨t, rfl⟩ := rx
  obtain ⟨t', rfl⟩ := ry
  exact SB.mul hz (fun t' tk => ⟨.str (Txt.mul z n), H, I.tok _, ⟨_, rfl⟩, q⟩)
theorem mulOk_small {x : Str} {n : Int} (hx : x.length ≤ 100) (h1 : 1 ≤ n) (h2 : n ≤ 100000) : MulOk x n := by
  have hm : (x.length : Int) * n ≤ 100 * 100000 := Int.mul_le_mul (by omega) h2 (by omega) (by omega)
  refine ⟨?_, fun _ _ => ?_, fun _ _ => ?_⟩
  · have a1 : decide (n < -(2 ^ 63 : Int)) = false := by simp; omega
    have a2 : decide (n ≥ 2 ^ 63) = false := by simp; omega
    rw [a1, a2]; rfl
  · have : (x.length : Int) ≤ (2 ^ 63 - 1) / n := Int.le_ediv_of_mul_le (by omega) (by omega)
    omega
  · have hn : ((x.length * n.toNat : Nat) : Int) = (x.length : Int) * n := by
      rw [Int.natCast_mul, Int.toNat_of_nonneg (by omega)]
    unfold Builtin.Str.tooLong
    have : x.length * n.toNat ≤ 10000000 := by omega
    have hs : sizeLine = 16777216 := rfl
    simp
    omega
/-- *, of a text too -/
def gMulT (a b : D) : Option Rv := match a, b with
  | .str x, .int n => if x.length ≤ 100 ∧ 1 ≤ n ∧ n ≤ 100000 then some (.fz (.str (Txt.mul x n))) else none
  | a, b => gMul a b
theorem o_mulT : Op2 X (Wo X (binaryOp .Mult)) gMulT := by
  intro E η M c σ H x y dx dy r s h1 h2 e Q hQ
  unfold gMulT at e
  split at e
  · split at e
    · cases e
      rename_i hl
      exact op_wo op_mul_str ⟨_, _, h1.str, h2.int, mulOk_small hl.1 hl.2.1 hl.2.2, pst_fz s hQ (.str _)⟩
    · cases e
  · exact o_mul E η M c σ H x y _ _ r s h1 h2 e Q hQ
end
end LH
/-! LHEqE: == of a list of anything with an empty list. -/
namespace LH
open PySem PySem.Spec PyProof.Rows L2
section
variable {X : Cx}
theorem op_eq_len (hu : X.A.units + 64 < cLine) : OpR X (compareOp .Eq) (fun x y H Q => ∃ a b xs, x = .ref a ∧ y = .ref b ∧ H a = some (.lst xs) ∧ xs ≠ [] ∧ H b = some (.lst []) ∧ Q (.bl false) H) := by
  intro pins s σ H x y v u Q I rx ry h
  obtain ⟨a, b, xs, rfl, rfl, h1, hne, h2, q⟩ := h
  cases rx
  cases ry
  obtain ⟨z, its, n, r1, hl, e⟩ := I.lstM h1
  obtain ⟨z2, its2, n2, r2, hl2, e2⟩ := I.lstM h2
  refine PySem.P.eq_list_lengths e e2 ?_ (by omega) (fin_bl I q rfl)
  have q2 : its2.length = 0 := hl2.symm
  have q1 : its.length ≠ 0 := by
    rw [← hl]
    intro e
    exact hne (List.length_eq_zero_iff.mp e)
  simpa [q2] using q1
/-- ==; a list of anything with an empty one -/
def gEqE (a b : D) : Option Rv := match gEq a b with
  | some r => some r
  | none => match a, b with
    | .lst (_ :: _), .lst [] => some (.fz (.bl false))
    | _, _ => none
theorem o_eqE (hu : X.A.units + 64 < cLine) : Op2 X (Wo X (compareOp .Eq)) gEqE := by
  intro E η M c σ H x y dx dy r s h1 h2 e Q hQ
  unfold gEqE at e
  split at e
  · rename_i r' er
    cases e
    exact o_eq hu E η M c σ H x y _ _ _ s h1 h2 er Q hQ
  · split at e
    · cases e
      obtain ⟨a, xs, rfl, q1, r1⟩ := h1.lst s.sub
      obtain ⟨b, ys, rfl, q2, r2⟩ := h2.lst s.sub
      have e2 : ys = [] := by
        have := r2.length
        exact List.length_eq_zero_iff.mp this
      subst e2
      refine op_wo (op_eq_len hu) ⟨a, b, xs, rfl, rfl, q1, fun e => ?_, q2, pst_fz s hQ (.bl _)⟩
      have := r1.length
      rw [e] at this
      cases this
    · cases e
end
end LH
/-! LHUnpL: a, b, .. = a list; for a, b, .. over lists. -/
namespace LH
open PySem PySem.Spec PyProof.Rows L2
section
variable {prog : Program} {w : World} {A : Around} {E : Value → Shared → Prop} {s : Shared}
theorem draw_list {it t : Addr} {items : Array Value} (hne : t ≠ it) : ∀ (n i : Nat) (s : Shared) (Q : List Value → Shared → Prop), s.heap.IsListIter it t i → s.heap.IsList t items → i + n ≤ items.size →
    (∀ h', Heap.IsListIter h' it t (i + n) → Heap.SameBut it s.heap h' → Q ((items.toList.drop i).take n) { s with heap := h' }) → wpAny (model prog w) A (draw (.ref it) n) Q E s
  | 0, i, s, Q, hit, _, _, hQ => by
    show wpAny _ _ (pure []) Q E s
    exact wpAny_pure (by simpa using hQ s.heap hit (Heap.SameBut.refl ..))
  | n + 1, i, s, Q, hit, ht, hle, hQ => by
    have hlt : i < items.size := by omega
    show wpAny _ _ (pyNext (.ref it) >>= _) Q E s
    refine wpAny_bind (wpAny_pyNext_list_item hit ht (x := items[i]) (by simp [hlt]) fun h₁ hit₁ hs₁ => ?_)
    refine wpAny_bind (wpAny_holding (draw_list hne n (i + 1) _ _ hit₁ (ht.extBut hs₁.extBut hne) (by omega) fun h₂ hit₂ hs₂ => wpAny_pure ?_))
    have hd : items.toList.drop i = items[i] :: items.toList.drop (i + 1) := by simp [List.drop_eq_getElem_cons, hlt]
    have := hQ h₂ (by rw [show i + (n + 1) = i + 1 + n by omega]; exact hit₂) (hs₁.trans hs₂)
    rw [hd, List.take_succ_cons] at this
    exact this
theorem unpackItems_list {t : Addr} {items : Array Value} {Q : List Value → Shared → Prop} (hh : A.handled = none) (ht : s.heap.IsList t items)
    (hQ : ∀ h', Heap.ExtBut s.heap.objs.size s.heap h' → Q items.toList { s with heap := h' }) : wpAny (model prog w) A (unpackItems (.ref t) items.size none) Q E s := by
  have hlt : t ≠ s.heap.objs.size := by obtain ⟨o, ho, _⟩ := ht; exact Nat.ne_of_lt (Heap.lt_size ho)
  unfold unpackItems
  refine wpAny_bind ?_
  · unfold notIterableAtAll
    refine wpAny_bind (wpAny_specialOf ht.typeIs slot_list_iter.lookup ?_)
    refine wpAny_pure ?_
    simp only [Bool.false_eq_true, if_false]
    refine wpAny_bind (wpAny_holding (wpAny_pyIter_list ht ?_))
    refine wpAny_bind (wpAny_holding (draw_list hlt items.size 0 _ _ ⟨_, Heap.get?_push_size _ rfl, rfl, rfl⟩ (ht.push _) (by omega) fun h₁ hit₁ hs₁ => ?_))
    have hall : List.take items.size (List.drop 0 items.toList) = items.toList := by
      rw [List.drop_zero]; exact List.take_of_length_le (by simp)
    rw [hall]
    rw [if_neg (by simp)]
    have ht₁ : Heap.IsList h₁ t items := (ht.push _).extBut hs₁.extBut hlt
    refine wpAny_bind (wpAny_holding (wpAny_pyNext_list_end hh hit₁ ht₁ (by simp) fun h₂ he₂ => ?_))
    simp only [Option.isSome_none, Bool.false_eq_true, if_false]
    refine wpAny_pure (hQ h₂ fun b o hb e => he₂ b o hb (hs₁.extBut b o hb (Heap.get?_push_of_some _ e)))
theorem unpack_list {t : Addr} {items : Array Value} {targets : List (Bool × (Value → Sem Unit))} {Q : Unit → Shared → Prop} (hh : A.handled = none) (ht : s.heap.IsList t items)
    (hn : targets.length = items.size) (hstar : targets.findIdx? (·.1) = none)
    (h : ∀ h', Heap.ExtBut s.heap.objs.size s.heap h' → wpAny (model prog w) A (assignInOrder (targets.map (·.2)) items.toList) Q E { s with heap := h' }) :
    wpAny (model prog w) A (unpack (.ref t) targets) Q E s := by
  unfold unpack
  rw [hn, hstar]
  exact wpAny_bind (wpAny_holding (unpackItems_list hh ht h))
theorem assign_Tuple_list {env : Env} {elts : List Expr} {x1} {pos : Pos} {t : Addr} {items : Array Value} {Q : Unit → Shared → Prop} (hh : A.handled = none) (ht : s.heap.IsList t items)
    (hn : (assignEach elts env).length = items.size) (hstar : (assignEach elts env).findIdx? (·.1) = none)
    (h : ∀ h', Heap.ExtBut s.heap.objs.size s.heap h' → wpAny (model prog w) A (assignInOrder ((assignEach elts env).map (·.2)) items.toList) Q E { s with heap := h' }) :
    wpAny (model prog w) A (assign (.Tuple elts x1 pos) env (.ref t)) Q E s := by
  rw [assign_Tuple]
  exact wpAny_bind (wpAny_standAt (unpack_list hh ht hn hstar h))
end
section
variable {X : Cx} {ts es : List Expr} {e : Expr} {me : Em} {is : List Nat} {pos tpos : Pos}
def gTupL (K : PySem.W.Frag) (n : Nat) (t : TGs) : TG := fun v σ H Q => ∃ a xs, v = .ref a ∧ SqL K H a xs ∧ xs.length = n ∧ t xs σ H Q
theorem pg_tupL {k : Nat} {t : TGs} {n : Nat} (hc : X.calm = true) (h : PGs X es t)
    (hn : (assignEach es X.env).length = n := by rfl) (hst : (assignEach es X.env).findIdx? (·.1) = none := by rfl) : PG X (.Tuple es k pos) (gTupL X.K n t) := by
  refine ⟨fun pins s σ H v u Q I r hw => ?_⟩
  obtain ⟨a, xs, e1, hq, hl, hw⟩ := hw
  subst e1
  cases r
  obtain ⟨its, rv, ht, hz⟩ := I.list hq
  refine assign_Tuple_list (I.ok.hd hc) ht.isList (by simp [hn, ← hl, rv.length]) hst fun h' hx => ?_
  have I1 : Inv X pins σ H { s with heap := h' } := I.kept (t' := s.toks) fun b o e => hx b o (Nat.ne_of_lt (Heap.lt_size e)) e
  exact h.run pins _ σ H xs _ Q I1 (by simpa using rv) hw
/-- a, b, .. = e, e a list -/
def sUnpL (is : List Nat) (me : Em) : Sm := fun c => (me c).bind fun r c1 => match toVal c1 r with
  | some (.lst ds, c2) => (match fzL is ds c2 with
    | some c3 => .ok .nx c3
    | none => .stuck)
  | _ => .stuck
theorem sx_unpL {k : Nat} (hc : X.calm = true) (N : NmL X ts is) (he : Ex X e me) (hn : (assignEach ts X.env).length = is.length := by rfl) (hst : (assignEach ts X.env).findIdx? (·.1) = none := by rfl)
    (hs : swapsWithSole [.Tuple ts k tpos] e pos.line X.env = pure false := by rfl) (hw : swappedStores [.Tuple ts k tpos] e X.env = pure none := by rfl)
    (h1 : (assignEach [.Tuple ts k tpos] X.env).map (·.2) = [assign (.Tuple ts k tpos) X.env] := by rfl) : Sx X (.Assign [.Tuple ts k tpos] e pos) (sUnpL is me) := by
  refine ⟨fun E η M c σ H s => ?_⟩
  refine OutS.bind (fun v H1 Z => gTupL X.K is.length (gNames is) v σ H1 Z.nx) (he E η M c σ H s) (fun Z hq => ps_ws (ps_asg we_pe (pg_tupL hc (nml_pgs N) hn hst) hs hw h1) hq) fun r c1 v η1 M1 H1 s1 x1 z1 Z g => ?_
  cases e1 : toVal c1 r with
  | none => rw [e1] at g; exact g.elim
  | some q =>
    obtain ⟨d, c2⟩ := q
    rw [e1] at g
    cases d with
    | lst ds =>
      dsimp only at g
      cases e2 : fzL is ds c2 with
      | none => rw [e2] at g; exact g.elim
      | some c3 =>
        rw [e2] at g
        obtain ⟨M2, s2, x2, r2⟩ := toVal_ok s1 z1 e1
        cases r2 with
        | lst hq hr =>
          obtain ⟨s3, l3⟩ := fzL_ok s2 hr e2
          exact ⟨_, _, rfl, SqL.of (s2.sub _ _ hq), l3, gNames_of l3 (g _ η1 M2 H1 s3 x2)⟩
    | _ => exact g.elim
theorem wE_sUnpL {c : Cf} {Q : Fl → Cf → Prop} : wE (sUnpL is me c) Q = wE (me c) fun r c1 => oE (toVal c1 r) fun p => match p.1 with | .lst ds => oE (fzL is ds p.2) fun c3 => Q .nx c3 | _ => False := by
  unfold sUnpL
  rw [wE_bind]
  congr 1
  funext r c1
  cases toVal c1 r with
  | none => rfl
  | some p =>
    obtain ⟨d, c2⟩ := p
    cases d with
    | lst ds => cases h : fzL is ds c2 <;> simp [h]
    | _ => rfl
def gTL (gs : List D → Cf → Option Cf) : D → Cf → Option Cf
  | .lst ds, c => gs ds c
  | _, _ => none
theorem tg_tupL {k : Nat} {gs : List D → Cf → Option Cf} {js : List Nat} (n : Nat) (hc : X.calm = true) (h : Tgts X ts gs js) (hl : ∀ ds c c', gs ds c = some c' → ds.length = n)
    (hn : (assignEach ts X.env).length = n := by rfl) (hst : (assignEach ts X.env).findIdx? (·.1) = none := by rfl) : Tgt X (.Tuple ts k pos) (gTL gs) js := by
  obtain ⟨t, p, q⟩ := h
  intro E η M c σ H v d c' s r e1 Q hQ
  cases d with
  | lst ds =>
    cases r with
    | lst hq hr => exact pg_wg (pg_tupL hc p hn hst) ⟨_, _, rfl, SqL.of (s.sub _ _ hq), by rw [hr.length]; exact hl _ _ _ e1, q E η M c σ H _ ds c' s hr e1 Q hQ⟩
  | _ => cases e1
end
end LH
/-! LHScope: an expression whose value is a whole number, run with all that is shared frozen; then it is shared again. -/
namespace LH
open PySem PySem.Spec PyProof.Rows L2
section
variable {X : Cx} {e : Expr} {m : Em}
def noOwn (ρ : List Sl) : Bool := ρ.all fun s => match s with | .ow _ => false | _ => true
theorem noOwn_get {ρ : List Sl} (h : noOwn ρ = true) {i : Nat} {d : D} : ρ[i]? ≠ some (.ow d) := fun e => by
  have := List.all_eq_true.mp h _ (List.mem_of_getElem? e)
  cases this
/-- all shared things frozen, f deep -/
def mScope (f : Nat) (m : Em) : Em := fun c => if noOwn c.ρ = true then (match fzAll 0 f c with
  | some c' => (match m c' with
    | .ok (.fz (.int i)) c1 => if c1.ρ.length = c.ρ.length then .ok (.fz (.int i)) c else .stuck
    | _ => .stuck)
  | none => .stuck) else .stuck
theorem ex_scope {f : Nat} (h : Ex X e m) : Ex X e (mScope f m) := by
  refine ⟨fun E η M c σ H s => ?_⟩
  unfold mScope
  by_cases hno : noOwn c.ρ = true
  · rw [if_pos hno]
    cases hf : fzAll 0 f c with
    | none => trivial
    | some c' =>
      dsimp only
      let E' : En := ⟨fun a => if a ∈ η then none else H a, [], M⟩
      have s0 : SR X.K X.mg E' η M c σ H := ⟨s.sub, s.len, fun i sl hs => by
          have q := s.slot i sl hs
          cases sl with
          | un => trivial
          | fz d => exact q
          | ow d => exact absurd hs (noOwn_get hno), fun i j a d d' e1 => absurd e1 (noOwn_get hno), s.hlen, s.hdl, s.hnd, fun a o h1 _ => by
          have h1 : (if a ∈ η then none else H a) = some o := h1
          split at h1
          · cases h1
          · exact h1, ⟨η, rfl⟩, fun a ha => .inr (by show (if a ∈ η then none else H a) = none; rw [if_pos ha]), fun a o h => h, fun a h1 _ => h1⟩
      have s1 := s0.fzAll (k := 0) rfl hf
      have q := h E' [] (snapK η 0 M H) c' σ H s1
      cases hm : m c' with
      | stuck => trivial
      | err x c1 => trivial
      | ok r c1 =>
        rw [hm] at q
        cases r with
        | loc i => trivial
        | nw d => trivial
        | fz d =>
          cases d with
          | int i =>
            dsimp only
            by_cases hl : c1.ρ.length = c.ρ.length
            · rw [if_pos hl]
              intro Q hQ
              refine q Q fun v η1 M1 H1 t x z => ?_
              have z : Rep X.K X.mg η1 M1 v (.int i) := z
              have snapA : ∀ a o, a ∈ η → H a = some o → H1 a = some o := fun a o ha ho => by
                have : snapK η 0 M H a = some o := by rw [snapK_in (by simpa using ha)]; exact ho
                exact t.sub a o (x.m a o this)
              have hM : ∀ a o, M a = some o → a ∉ η := fun a o ho ha => by
                obtain ⟨n, hn⟩ := List.getElem?_of_mem ha
                have hl2 : n < c.S.length := by rw [← s.hlen]; exact (List.getElem?_eq_some_iff.mp hn).1
                obtain ⟨q1, _⟩ := s.hdl n a _ hn (List.getElem?_eq_getElem hl2)
                rw [q1] at ho; cases ho
              have hM1 : Same M M1 := fun a o ho => x.m a o (snapK_ext s0 ho)
              let M2 : Hp := fun a => if a ∈ η then none else M1 a
              have m2 : Same M M2 := fun a o ho => by
                show (if a ∈ η then none else M1 a) = some o
                rw [if_neg (hM a o ho)]; exact hM1 a o ho
              have x2 : Ext η M η M2 := ⟨m2, [], by simp⟩
              refine hQ v η M2 H1 ⟨fun a o ho => ?_, s.len, fun i' sl hs => ?_, fun i j a d d' e1 => absurd e1 (noOwn_get hno), s.hlen, fun n a d e1 e2 => ?_, s.hnd, fun a o h1 h2 => ?_, s.pre, s.new, s.m0.trans m2, fun a h1 h2 => ?_⟩ x2 ?_
              · have ho : (if a ∈ η then none else M1 a) = some o := ho
                split at ho
                · cases ho
                · exact t.sub a o ho
              · have q := s.slot i' sl hs
                cases sl with
                | un => trivial
                | fz d =>
                  obtain ⟨v', e1, r⟩ := q
                  exact ⟨v', e1, r.mono x2⟩
                | ow d => exact absurd hs (noOwn_get hno)
              · obtain ⟨_, p2⟩ := s.hdl n a d e1 e2
                have ha := List.mem_of_getElem? e1
                exact ⟨by show (if a ∈ η then none else M1 a) = none; rw [if_pos ha], p2.mono x2 fun o ho => snapA a o ha ho⟩
              · have ho := s.fr a o h1 h2
                by_cases ha : a ∈ η
                · exact snapA a o ha ho
                · exact t.fr a o (by show (if a ∈ η then none else H a) = some o; rw [if_neg ha]; exact ho) (by show a ∉ []; simp)
              · show (if a ∈ η then none else M1 a) = none
                by_cases ha : a ∈ η
                · rw [if_pos ha]
                · rw [if_neg ha]
                  have hn := s.mn a h1 h2
                  have hE : a ∉ E.η := fun z => ha (by
                    obtain ⟨r, er⟩ := s.pre
                    rw [er]; exact List.mem_append_left _ z)
                  cases ho : E.H a with
                  | none => exact absurd ho h2
                  | some o =>
                    have := s.fr a o ho hE
                    exact t.mn a hn (by show (if a ∈ η then none else H a) ≠ none; rw [if_neg ha, this]; simp)
              · cases z
                exact .int i
            · rw [if_neg hl]; trivial
          | _ => trivial
  · rw [if_neg hno]; trivial
theorem wE_mScope {f : Nat} {c c' : Cf} {Q : Rv → Cf → Prop} (hno : noOwn c.ρ = true) (hf : fzAll 0 f c = some c') (h : wE (m c') fun r c1 => ∃ i, r = .fz (.int i) ∧ c1.ρ.length = c.ρ.length ∧ Q (.fz (.int i)) c) : wE (mScope f m c) Q := by
  obtain ⟨r, c1, e, i, h1, h2, h3⟩ := wE_ex h
  unfold mScope
  rw [if_pos hno, hf]
  dsimp only
  rw [e, h1]
  dsimp only
  rw [if_pos h2]
  exact h3
end
end LH
/-! LHLenSet: len(set(list of ints)). -/
namespace LH
open PySem PySem.Spec PyProof.Rows L2
def intsU : List D → Option (List Int)
  | [] => some []
  | .int i :: ds => (intsU ds).map (i :: ·)
  | _ :: _ => none
def uniqI (ns : List Int) : Nat := (firstMet (fun i => ns.getD i 0) ns.length).length
def gLenSet : D → Option Rv
  | .lst ds => (intsU ds).bind fun ns => if ns.length ≤ 4000 then some (.fz (.int (uniqI ns : Nat))) else none
  | _ => none
section
variable {K : Fg} {mg : Mg} {η : List Addr} {M : Hp}
theorem repL_intsU : ∀ {ds : List D} {xs : List V} {ns : List Int}, RepL K mg η M xs ds → intsU ds = some ns → xs = ns.map V.int
  | [], _, _, .nil, e => by cases e; rfl
  | d :: ds, _, ns, .cons h hs, e => by
    cases d with
    | int i =>
      obtain ⟨ms, h1, h2⟩ := Option.map_eq_some_iff.mp (show (intsU ds).map (i :: ·) = some ns from e)
      subst h2
      cases h
      rw [List.map_cons, repL_intsU hs h1]
    | _ => cases e
end
section
variable {X : Cx}
def wLenSet (X : Cx) (x : V) (H : Hp) (Q : VK) : Prop := ∃ (l : Addr) (ns : List Int), x = .ref l ∧ SqL X.K H l (ns.map V.int) ∧ ns.length ≤ 4000 ∧ Q (.int (uniqI ns : Nat)) H
theorem pe_lenSetG {a : Expr} {ta : L2.TE} {p p2 q pos : Pos} (hg : Gl X "len") (hm : X.mg "len" = none) (hg2 : Gl X "set") (hm2 : X.mg "set" = none) (ha : PE X a ta) (hc : X.calm = true := by rfl)
    (na : starEach [a] X.env = (false, eval a X.env) :: starEach [] X.env := by rfl) : PE X (.Call (.Name "len" p) [.Call (.Name "set" p2) [a] [] q] [] pos) (fun σ H Q => ta σ H fun x H1 => wLenSet X x H1 Q) := by
  refine ⟨fun pins s σ H Q I h => ?_⟩
  refine Call_ (ld_blt I hg hm boot_len ?_)
  refine PyProof.Rows.callWith_builtin1 (PyProof.Rows.args_cons ?_ rfl) rfl rfl
  refine Call_ (ld_blt I hg2 hm2 boot_set ?_)
  refine PyProof.Rows.callWith_type1 (PyProof.Rows.args_cons (thn (ha.run pins s σ H _ I h) fun v s1 ⟨x, H1, I1, r1, q1⟩ => PyProof.Rows.args_nil ?_) na) na rfl
  obtain ⟨l, ns, rfl, hq, hl, q1⟩ := q1
  cases r1
  obtain ⟨its, r, pl, hz⟩ := I1.list hq
  have hlen : its.toArray.size = ns.length := by rw [List.size_toArray, ← r.length, List.length_map]
  refine call_set_list (I1.ok.hd hc) pl.isList (by simpa using RZ.intsAre_vals r) (by rw [hlen]; unfold scanBound; omega) fun h' tk hS hk => ?_
  refine PyProof.Rows.args_nil ?_
  rw [hlen] at hS
  have hle := firstMet_length_le (fun i => ns.getD i 0) ns.length
  obtain ⟨o, es, ep, t, ho, hex, hd, _, _, _, hf, hn⟩ := hS
  have I2 : Inv X pins σ H1 { s1 with heap := h', toks := tk } := I1.kept fun b o e => hk b o (Heap.lt_size e) e
  exact call_len_set ho hex hd hf (by rw [hn] <;> omega) ⟨.int (uniqI ns : Nat), H1, I2.tok _, ⟨_, by rw [hn]; rfl⟩, q1⟩
theorem ex_lenSet {a : Expr} {ma : Em} {p p2 q pos : Pos} (hm : X.mg "len" = none) (hm2 : X.mg "set" = none) (ha : Ex X a ma) (hg : Gl X "len" := by rfl) (hg2 : Gl X "set" := by rfl) (hc : X.calm = true := by rfl)
    (na : starEach [a] X.env = (false, eval a X.env) :: starEach [] X.env := by rfl) : Ex X (.Call (.Name "len" p) [.Call (.Name "set" p2) [a] [] q] [] pos) (mUn gLenSet ma) := by
  refine ex_op1 (a := a) (w := wLenSet X) (fun E η M c σ H x dx r s h1 e Q hQ => ?_) (pe_lenSetG hg hm hg2 hm2 we_pe hc na) ha
  unfold gLenSet at e
  split at e
  · obtain ⟨ns, h2, h3⟩ := Option.bind_eq_some_iff.mp e
    split at h3
    · cases h3
      obtain ⟨l, xs, rfl, hq, hr⟩ := h1.lst s.sub
      rw [repL_intsU hr h2] at hq
      exact ⟨l, ns, rfl, .of hq, by assumption, pst_fz s hQ (.int _)⟩
    · cases h3
  · cases e
theorem uniq_rep {a : Int} : uniqI [a, a, a] = 1 := by
  simp [uniqI, firstMet, step_dedup, List.range_succ]
end
end LH
/-! LHExcK: exceptions made as values, with keywords too. -/
namespace LH
open PySem PySem.Spec PyProof.Rows L2
open PySem.HandSPX
section
variable {M : Model} {A : Around} {E : Value → Shared → Prop} {h : Heap} {g : Array GenState} {d : Drawn} {t : Nat} {os : OsState}
variable {nm q : Str} {C N : Addr} {bs bm bmB : List Value} {hdct : Bool} {sn : List Str} {sub : List Value} {ab : Bool} {col : Option Bool} {dd : Option Addr} {k0 k1 k2 k3 k5 : Option Value} {B newId initId : String}
theorem check_newK (F : ExcBaseFacts B newId initId bmB) (hB : bm.contains (.type B) = true) {rest : List Value} {kw : List (Str × Value)} {Q : Unit → Shared → Prop}
    (hC : h.get? C = some (excClassObj nm q C N bs bm hdct sn sub ab col dd k0 k1 k2 k3 k5 newId)) (hq : Q () ⟨h, g, d, t, os⟩) : wpAny M A (checkBuiltinCall newId ⟨.ref C :: rest, kw⟩) Q E ⟨h, g, d, t, os⟩ := by
  have hcont : (Value.ref C :: bm).contains (.type B) = true := by rw [List.contains_cons, hB, Bool.or_true]
  have hstar := F.noStar
  simp only [checkBuiltinCall, F.newKind, F.newSplit, F.newRow]
  repeat (first | refine wpAny_loadPart_at hC ?_ | (refine wpAny_isSubtype_exc hC ?_; rw [hcont]) | refine wpAny_staticBase_exc hC ?_ | refine wpAny_madeBy_exc hC ?_ | simp only [bne_self_eq_false, Bool.false_eq_true, if_false] | wp_step)
  exact hq
end
section
variable {prog : Program} {w : World} {A : Around} {E : Value → Shared → Prop} {R : Result → Shared → Prop} {h : Heap} {g : Array GenState} {d : Drawn} {t : Nat} {os : OsState}
variable {nm q : Str} {C N : Addr} {bs bm bmB : List Value} {hdct : Bool} {sn : List Str} {sub : List Value} {ab : Bool} {col : Option Bool} {dd : Option Addr} {k0 k1 k2 k3 k5 : Option Value} {B newId initId : String}
theorem newK (F : ExcBaseFacts B newId initId bmB) (hB : bm.contains (.type B) = true) (hA : bm.contains (.type "AttributeError") = false) (hNm : bm.contains (.type "NameError") = false) {rest : List Value} {kw : List (Str × Value)}
    (hC : h.get? C = some (excClassObj nm q C N bs bm hdct sn sub ab col dd k0 k1 k2 k3 k5 newId))
    (hq : R (.ok (.ret (.ref (h.objs.size + 1)))) ⟨(h.push { cls := .type "tuple", data := .seq rest.toArray }).push
      { cls := .ref C, data := .fields #[.ref h.objs.size, .none, .none, .none, .bool false, .none] }, g, d, t, os⟩) (hrest : rest.length ≤ sizeLine) :
    codeAny (model prog w) A (.builtin newId ⟨.ref C :: rest, kw⟩) R ⟨h, g, d, t, os⟩ := by
  have hends := F.ends
  have hcB : (Value.ref C :: bm).contains (.type B) = true := by rw [List.contains_cons, hB, Bool.or_true]
  have hcA : (Value.ref C :: bm).contains (.type "AttributeError") = false := by rw [List.contains_cons, hA]; rfl
  have hcN : (Value.ref C :: bm).contains (.type "NameError") = false := by rw [List.contains_cons, hNm]; rfl
  refine PySem.codeAny_builtinAt F.entry ?_
  unfold Builtin.«BaseException.__new__»
  refine PySem.wpAt_bind ?_
  show PySem.wpAt _ _ _ (stack >>= _) _ _ _
  refine PySem.wpAt_bind (PySem.wpAt_stack fun p below => PySem.wpAt_of_wpAny ?_)
  wp_walk
  refine PySem.wpAt_of_wpAny ?_
  rw [F.owner]
  repeat (first | with_reducible refine wpAny_madeHere_exc F.canon hC ?_ | with_reducible refine wpAny_loadPart_at hC ?_ | (with_reducible refine wpAny_isSubtype_exc hC ?_; first | rw [hcB] | rw [hcA] | rw [hcN]) | wp_step)
  show R _ _
  rw [Heap.size_push]
  exact hq
theorem type_callK (F : ExcBaseFacts B newId initId bmB) (hB : bm.contains (.type B) = true) (hA : bm.contains (.type "AttributeError") = false) (hNm : bm.contains (.type "NameError") = false) {rest : List Value} {kw : List (Str × Value)} {fI : Addr} {Q : Fin → Shared → Prop}
    (hC : h.get? C = some (excClassObj nm q C N bs bm hdct sn sub ab col dd k0 k1 k2 k3 k5 newId))
    (hi : W.Looks (model prog w) h (typeLookup (.ref C) "__init__") (some (.ref fI))) (hb : ∀ self, W.Looks (model prog w) h (bindSpecial (.ref fI) self) (.ref fI, [self])) (hrest : rest.length ≤ sizeLine)
    (hq : codeAny (model prog w) A (.call (.ref fI) ⟨.ref (h.objs.size + 1) :: rest, kw⟩)
      (fun r s' => match r with | .ok (.ret v) => v = .none ∧ Q (.done (.ret (.ref (h.objs.size + 1)))) s' | .ok _ => False | .error e => E e s')
      ⟨(h.push (W.kdv_tup rest)).push (excO C h.objs.size), g, d, t, os⟩) :
    wpAny (model prog w) A (Builtin.«type.__call__» ⟨.ref C :: rest, kw⟩) Q E ⟨h, g, d, t, os⟩ := by
  repeat (first | with_reducible refine wpAny_loadPart_at hC ?_ | with_reducible refine wpAny_madeBy_exc hC ?_ | wp_step)
  refine codeAny_call_builtin_code (Code.quiet_builtin _ F.quiet) (check_newK F hB hC ?_)
  refine newK F hB hA hNm hC ?_ hrest
  show wpAny _ _ _ _ _ _
  have k : ∀ b o, h.get? b = some o → ((h.push (W.kdv_tup rest)).push (excO C h.objs.size)).get? b = some o := fun b o e => Heap.get?_push_of_some _ (Heap.get?_push_of_some _ e)
  have hC₁ := k _ _ hC
  have hget : ((h.push (W.kdv_tup rest)).push (excO C h.objs.size)).get? (h.objs.size + 1) = some (excO C h.objs.size) := by heap_get
  have hcC : (Value.ref C :: bm).contains (.ref C) = true := by simp
  have i1 := hi.keeps k
  have b1 := (hb (.ref (h.objs.size + 1))).keeps k
  unfold isInstance
  repeat (first | with_reducible refine wpAny_loadPart_at hget ?_ | (with_reducible refine wpAny_isSubtype_exc hC₁ ?_; rw [hcC]) | wp_step)
  show wpAny _ _ (typeLookup (.ref C) _) _ _ _
  refine i1.at ?_
  refine wpAny_holding (wpAny_bind (b1.at ?_))
  refine wpAny_bind (wpAny_call (codeAny_mono hq fun r s' z => ?_))
  rcases r with e | (v | _ | _ | _) <;> first | exact z | exact z.elim | skip
  obtain ⟨rfl, z⟩ := z
  first
    | exact wpAny_pure (wpAny_pure z)
    | (wp_walk; exact z)
theorem call_ownK (F : ExcBaseFacts B newId initId bmB) (hB : bm.contains (.type B) = true) (hA : bm.contains (.type "AttributeError") = false) (hNm : bm.contains (.type "NameError") = false) {rest : List Value} {kw : List (Str × Value)} {fI : Addr}
    (hC : h.get? C = some (excClassObj nm q C N bs bm hdct sn sub ab col dd k0 k1 k2 k3 k5 newId))
    (hi : W.Looks (model prog w) h (typeLookup (.ref C) "__init__") (some (.ref fI))) (hb : ∀ self, W.Looks (model prog w) h (bindSpecial (.ref fI) self) (.ref fI, [self])) (hrest : rest.length ≤ sizeLine)
    (hq : codeAny (model prog w) (A.under (.builtin "type.__call__" ⟨.ref C :: rest, kw⟩)) (.call (.ref fI) ⟨.ref (h.objs.size + 1) :: rest, kw⟩) (W.InitBack (h.objs.size + 1) R)
      ⟨(h.push (W.kdv_tup rest)).push (excO C h.objs.size), g, d, t, os⟩) :
    codeAny (model prog w) A (.call (.ref C) ⟨rest, kw⟩) R ⟨h, g, d, t, os⟩ := by
  have f1 := tc_lookup
  have f2 := tc_bind (.ref C)
  have hTy : (⟨h, g, d, t, os⟩ : Shared).TypeIs (.ref C) "type" := ⟨_, hC, rfl⟩
  refine codeAny_of_tree ?_
  show wpAny _ _ (callAny (.ref C) _) _ _ _
  repeat (any_goals (first | assumption | with_reducible refine wpAny_loadPart_at hC ?_ | wp_step))
  refine ⟨rfl, ?_⟩
  refine codeAny_call_builtin_at (Code.quiet_builtin _ (by decide +kernel)) entry_typeCall (wpAny_check_type_call_sub hC (type_callK F hB hA hNm hC hi hb hrest ?_))
  refine codeAny_mono hq fun r s' z => ?_
  rcases r with e | (v | _ | _ | _) <;> exact z
end
/-! ### keywords -/
section
variable {X : Cx}
def Wk (X : Cx) (kws : List Keyword) : TA := fun σ H Q => ∀ pos pins s, Inv X pins σ H s → wpAny (model X.prog X.w) X.A (evalAll ((backToKw pos (keywordEach kws X.env)).map (·.2))) (AP X pins σ Q) X.xe s
theorem wk_pk {kws : List Keyword} : PK X kws (Wk X kws) := ⟨fun pos pins s σ H Q I h => h pos pins s I⟩
theorem pk_wk {kws : List Keyword} {t : TA} (p : PK X kws t) {σ : St} {H : Hp} {Q : List V → Hp → Prop} (h : t σ H Q) : Wk X kws σ H Q := fun pos pins s I => p.run pos pins s σ H Q I h
/-- keywords, one behind the other -/
structure Kx (X : Cx) (kws : List Keyword) (m : Cf → Res (List Rv)) : Prop where
  run : ∀ E η M c σ H, SR X.K X.mg E η M c σ H → Out X (RVs X.K X.mg) (Wk X kws σ H) E η M σ (m c)
theorem kx_nil : Kx X [] maNil := ⟨fun E η M c σ H s => out_ok s (fun Q hq => pk_wk pk_nil hq) ⟨fun r hr => by simp at hr, .nil⟩⟩
theorem kx_cons {e : Expr} {m : Em} {kws : List Keyword} {ms : Cf → Res (List Rv)} {nm : Option Str} {kpos : Pos} (he : Ex X e m) (hs : Kx X kws ms) : Kx X (⟨nm, e, kpos⟩ :: kws) (maCons m ms) := by
  refine ⟨fun E η M c σ H s => ?_⟩
  refine Out.bind (R := RVst X.K X.mg) (fun x H1 Q => Wk X kws σ H1 fun xs H2 => Q (x :: xs) H2) (out_st (he E η M c σ H s)) (fun Q hq => pk_wk (pk_cons we_pe wk_pk) hq) fun r c1 x η1 M1 H1 s1 x1 z1 => ?_
  refine Out.bind (R := RVs X.K X.mg) (fun xs H2 Q => Q (x :: xs) H2) (hs.run E η1 M1 c1 σ H1 s1) (fun Q hq => hq) fun rs c2 xs η2 M2 H2 s2 x2 z2 => ?_
  exact out_ok s2 (fun Q hq => hq) ⟨fun q hq => (List.mem_cons.mp hq).elim (fun z => z ▸ z1.1) (z2.1 q), .cons (z1.2.keep x2 z1.1) z2.2⟩
end
/-! ### an exception as a value -/
/-- what its making leaves -/
def mkQ (H1 : Hp) (a C : Addr) (Q : VK) : VK := fun v H2 => v = .non ∧ ∃ (d : Addr) (fs : List (Str × V)), H2 a = some (exo a C (some d)) ∧ H2 d = some (exd d fs) ∧ H1 d = none ∧ Q (.ref a) (upd (upd (del H2 a) d (.xd fs)) a (ExV C d a))
theorem run_oexK {X : Cx} {CX : CXT} {C fI : Addr} {k : Nat} {fd : FuncData} {ps ks : List Str} {sp : Sp} {n : Nat} {g : List Value → List Value → List Value} {gV : List V → List V → List V} {pins : List (Addr × Obj)} {σ : St} {H1 : Hp} {s1 : Shared} {Q : VK} {us ws : List Value} {vs zs : List V}
    (T : OexG X.K C) (iC : PySem.W.findIn X.K (.ref C) "__init__" = some (some (.ref fI))) (tI : PySem.W.typeIn X.K (.ref fI) = some (.type "function"))
    (F1 : FnOk X.prog X.w X.K X.mg X.base CX k fI fd ps sp) (hr : Room (k + 1) X.A) (hb : KBn X.K fd ps (n + 1) ks g gV) (hx : Passes CX X (fun _ _ _ => False)) (I1 : Inv X pins σ H1 s1) (r : Vals vs us) (rz : Vals zs ws) (l1 : vs.length = n) (l2 : zs.length = ks.length) (hus : us.length ≤ sizeLine)
    (h : ∀ a, H1 a = none → sp (gV (.ref a :: vs) zs) (upd H1 a (exo a C none)) (mkQ H1 a C Q) (fun _ _ _ => False)) :
    wpAny (model X.prog X.w) X.A (call (.ref C) us (ks.zip ws)) (EP X pins σ Q) X.xe s1 := by
  obtain ⟨nm, q, N, bs, bm, sn, sub, ab, col, dd, k0, k1, k2, k3, k5, newId, hC, hbm⟩ := T.cls
  obtain ⟨⟨B, initId, bmB, FB, hB⟩, htl⟩ := hbm
  obtain ⟨_, _, _, hA, hNm, _⟩ := tailsX_cases htl
  obtain ⟨hp, gg, dr, tk, os⟩ := s1
  have hsz : hp.objs.size ≤ hp.objs.size + 1 := Nat.le_succ _
  have hn : H1 (hp.objs.size + 1) = none := I1.hok.fresh hsz
  have hq := h (hp.objs.size + 1) hn
  have kk : ∀ b o, hp.get? b = some o → ((hp.push (PySem.W.kdv_tup us)).push (PySem.HandSPX.excO C hp.objs.size)).get? b = some o := fun b o e => Heap.get?_push_of_some _ (Heap.get?_push_of_some _ e)
  have hget : ((hp.push (PySem.W.kdv_tup us)).push (PySem.HandSPX.excO C hp.objs.size)).get? (hp.objs.size + 1) = some (PySem.HandSPX.excO C hp.objs.size) := by heap_get
  have I2 : Inv X pins σ (upd H1 (hp.objs.size + 1) (exo (hp.objs.size + 1) C none)) ⟨(hp.push (PySem.W.kdv_tup us)).push (PySem.HandSPX.excO C hp.objs.size), gg, dr, tk, os⟩ :=
    I1.laid (t' := tk) (a := hp.objs.size + 1) (o := exo (hp.objs.size + 1) C none) (h' := (hp.push (PySem.W.kdv_tup us)).push (PySem.HandSPX.excO C hp.objs.size)) kk hsz (exo_ok hget)
  have r1 : Vals (L2.V.ref (hp.objs.size + 1) :: vs) (Value.ref (hp.objs.size + 1) :: us) := .cons rfl r
  have r2 := hb.rel r1 rz
  have e1 : (Value.ref (hp.objs.size + 1) :: us).length = n + 1 := r1.length.symm.trans (congrArg Nat.succ l1)
  have e2 : ws.length = ks.length := rz.length.symm.trans l2
  refine wpAny_call (call_ownK FB hB hA hNm (I1.kIn _ _ hC) (PySem.W.looks_findIn I1.kIn iC) (fun self => PySem.W.bind_fn I1.kIn self tI) hus
    (codeAny_mono (F1.run _ X.stack _ _ ⟨Value.ref (hp.objs.size + 1) :: us, ks.zip ws⟩ (g (Value.ref (hp.objs.size + 1) :: us) ws) _ _ (fun _ _ _ => False) (hr.make C us (ks.zip ws)) (I2.env0.make C us (ks.zip ws)) (hb.to _ (Value.ref (hp.objs.size + 1) :: us) ws I2.kIn e1 e2) r2 hq) fun r s' hq' => ?_))
  cases r with
  | error er => exact hx pins σ _ _ er s' I2 hq'
  | ok fl =>
    cases fl with
    | ret u =>
      obtain ⟨v, H2, os2, bare2, un2, hok2, rv, ev, d, fs, ea, ed, hd1, q2⟩ := hq'
      subst ev
      obtain ⟨h2, g2, d2, t2, os'⟩ := s'
      obtain ⟨t0, G, J, kG, ge, hoe, na⟩ := mk_end0 (d2 := d2) (t2 := t2) I1 hsz kk un2 hok2 os2 bare2 ea ed hd1
      have hx2 : ∃ (oe : Obj) (vs : Array Value), h2.get? (hp.objs.size + 1) = some oe ∧ Zc (.ref C) (some d) oe ∧ oe.data = .fields vs := ⟨_, _, hoe, ⟨rfl, rfl⟩, rfl⟩
      have new : ObjOk X.prog X.w (upd (upd (del H2 (hp.objs.size + 1)) d (.xd fs)) (hp.objs.size + 1) (ExV C d (hp.objs.size + 1))) h2 (hp.objs.size + 1) (ExV C d (hp.objs.size + 1)) :=
        ⟨hx2, ⟨_, hoe⟩, fun h1 h2' ⟨oe, vs, a1, a2, a3⟩ st => ⟨oe, vs, st _ a1, a2, a3⟩⟩
      exact ⟨rv, .ref (hp.objs.size + 1), _, J.laidN (t' := t2) kG ge na new, rfl, q2⟩
    | next => exact False.elim hq'
    | brk => exact False.elim hq'
    | cont => exact False.elim hq'
end LH
/-! LHExcV: own exceptions made as values, by places or by names. -/
namespace LH
open PySem PySem.Spec PyProof.Rows L2
/-- the keywords' values in the fields' order -/
def permOf {α : Type} (fs ks : List Str) (zs : List α) : List α := fs.filterMap fun f => (ks.zip zs).lookup f
theorem lookup_vals {α β : Type} {R : α → β → Prop} {f : Str} : ∀ {ks : List Str} {xs : List α} {ys : List β}, Paired R xs ys →
    ((ks.zip xs).lookup f = none ∧ (ks.zip ys).lookup f = none) ∨ ∃ x y, (ks.zip xs).lookup f = some x ∧ (ks.zip ys).lookup f = some y ∧ R x y
  | [], _, _, _ => .inl ⟨rfl, rfl⟩
  | _ :: _, _, _, .nil => .inl ⟨rfl, rfl⟩
  | k :: ks, _, _, .cons (a := x) (b := y) h t => by
    rw [List.zip_cons_cons, List.zip_cons_cons, List.lookup_cons, List.lookup_cons]
    cases f == k with
    | true => exact .inr ⟨x, y, rfl, rfl, h⟩
    | false => exact lookup_vals t
theorem permOf_rel {α β : Type} {R : α → β → Prop} {ks : List Str} {xs : List α} {ys : List β} (h : Paired R xs ys) : ∀ fs : List Str, Paired R (permOf fs ks xs) (permOf fs ks ys)
  | [] => .nil
  | f :: fs => by
    unfold permOf
    rw [List.filterMap_cons, List.filterMap_cons]
    rcases lookup_vals (ks := ks) (f := f) h with ⟨e1, e2⟩ | ⟨x, y, e1, e2, r⟩
    · rw [e1, e2]; exact permOf_rel h fs
    · rw [e1, e2]; exact .cons r (permOf_rel h fs)
theorem RepL.pd {K : Fg} {mg : Mg} {η : List Addr} {M : Hp} : ∀ {vs : List V} {ds : List D}, RepL K mg η M vs ds → Paired (Rep K mg η M) vs ds
  | _, _, .nil => .nil
  | _, _, .cons a b => .cons a (RepL.pd b)
theorem RepL.of_pd {K : Fg} {mg : Mg} {η : List Addr} {M : Hp} : ∀ {vs : List V} {ds : List D}, Paired (Rep K mg η M) vs ds → RepL K mg η M vs ds
  | _, _, .nil => .nil
  | _, _, .cons a b => .cons a (RepL.of_pd b)
theorem _root_.L2.Fun.kbn {K : PySem.W.Frag} {x qual : Str} {st : Stmt} {f : Addr} {fd : FuncData} {fs ps ks : List Str} (F : Fun K x qual st f fd)
    (h : ∀ (kV doc pm : Value) (an : Option Addr) (cdv ct : Value) (us ws : List Value), us.length = 1 → ws.length = ks.length → bindArgs (PySem.W.fnOf x qual (defArgs st) (defBody st) (defScope st) .none kV doc pm an cdv ct) ⟨us, ks.zip ws⟩ = pure (ps.zip (us ++ permOf fs ks ws))) :
    KBn K fd ps 1 ks (fun us ws => us ++ permOf fs ks ws) (fun us ws => us ++ permOf fs ks ws) := by
  obtain ⟨oc, od, kV, doc, pm, an, cdv, ct, osl, rfl, lk, hcd⟩ := F.ex
  exact ⟨fun s us ws _ l1 l2 => .of_eq (h kV doc pm an cdv ct us ws l1 l2), fun r1 r2 => r1.append (permOf_rel r2 fs)⟩
/-- an exception class that keeps its arguments, made with keywords -/
structure FnXK (P : Program) (w : World) (K : Fg) (mg : Mg) (base : Heap) (cn : Str) (fs ks : List Str) : Prop where
  ex : ∃ C fI fd ps, mg cn = some (.ref C) ∧ OexG K C ∧ PySem.W.findIn K (.ref C) "__init__" = some (some (.ref fI)) ∧ PySem.W.typeIn K (.ref fI) = some (.type "function") ∧ KBn K fd ps 1 ks (fun us ws => us ++ permOf fs ks ws) (fun us ws => us ++ permOf fs ks ws) ∧ (∀ f ∈ fs, PySem.W.findIn K (.ref C) f = some none) ∧
    FnOk P w K mg base (L2.CX P w) 1 fI fd ps (spX K C fs)
def excRes (cn : Str) (fs : List Str) (ds : List D) (c : Cf) : Res Rv := if ds.length = fs.length then .ok (.fz (.exc cn (fs.zip ds).reverse)) c else .stuck
def mExc (cn : Str) (fs : List Str) (ms : Cf → Res (List Rv)) : Em := fun c => (ms c).bind fun rs c1 => match vals c1 rs with
  | some (ds, c2) => excRes cn fs ds c2
  | none => .stuck
def mExcK (cn : Str) (fs ks : List Str) (ms : Cf → Res (List Rv)) : Em := fun c => (ms c).bind fun rs c1 => match vals c1 rs with
  | some (ds, c2) => if ds.length = ks.length then excRes cn fs (permOf fs ks ds) c2 else .stuck
  | none => .stuck
section
variable {X : Cx} {e : Expr} {es : List Expr} {kws : List Keyword} {ms : Cf → Res (List Rv)} {p pos : Pos} {cn : Str} {fs ks : List Str}
theorem exc_out {E : En} {η : List Addr} {M H : Hp} {c : Cf} {σ : St} {C : Addr} {ys : List V} {ds : List D} {tw : (V → Hp → Prop) → Prop} (hm : X.mg cn = some (.ref C)) (T : OexG X.K C) (hno : ∀ f ∈ fs, PySem.W.findIn X.K (.ref C) f = some none) (s : SR X.K X.mg E η M c σ H) (r : RepL X.K X.mg η M ys ds)
    (himp : ∀ Q : VK, ys.length = fs.length → (∀ a, H a = none → spX X.K C fs (.ref a :: ys) (upd H a (exo a C none)) (mkQ H a C Q) (fun _ _ _ => False)) → tw Q) :
    Out X (RV X.K X.mg) tw E η M σ (excRes cn fs ds c) := by
  unfold excRes
  by_cases hl : ds.length = fs.length
  · rw [if_pos hl]
    intro Q hQ
    have hyl : ys.length = fs.length := by rw [r.length]; exact hl
    refine himp Q hyl fun a na => ⟨a, ys, rfl, hyl, T, hno, upd_same, fun d H2 ea ed hd k => ?_⟩
    have hda : d ≠ a := fun z => by rw [z, upd_same] at hd; cases hd
    have hd1 : H d = none := by rw [upd_ne hda] at hd; exact hd
    refine ⟨rfl, d, _, ea, ed, hd1, ?_⟩
    have sH : SR X.K X.mg E η M c σ (upd (upd (del H2 a) d (.xd (fs.zip ys).reverse)) a (ExV C d a)) := s.heap fun b o hb => by
      have n1 : b ≠ a := ne_of_none hb na
      rw [upd_ne n1, upd_ne (ne_of_none hb hd1), del_ne n1]
      exact k b o n1 (by rw [upd_ne n1]; exact hb)
    obtain ⟨f1, f2, f3, f4⟩ := s.free hd1
    obtain ⟨g1, g2, g3, g4⟩ := s.free na
    obtain ⟨s3, x3⟩ := sH.freeze f1 f2 f3 f4 (by rw [upd_ne hda, upd_same])
    obtain ⟨s4, x4⟩ := s3.freeze (a := a) (o := ExV C d a) (by rw [upd_ne hda.symm]; exact g1) g2 g3 g4 upd_same
    obtain ⟨k1, k2⟩ := zip_keys hyl
    obtain ⟨k3, k4⟩ := zip_keys hl
    refine hQ (.ref a) η _ _ s4 (x3.trans x4) ?_
    refine (show Rep X.K X.mg η _ (.ref a) (.exc cn (fs.zip ds).reverse) from .exc hm upd_same (by rw [upd_ne hda, upd_same]) ?_ ?_)
    · rw [List.map_reverse, List.map_reverse, k1, k3]
    · rw [List.map_reverse, List.map_reverse, k2, k4]
      exact (r.mono (x3.trans x4)).reverse
  · rw [if_neg hl]; trivial
theorem kbn_binds {K : PySem.W.Frag} {fd : FuncData} {ps : List Str} {n : Nat} (hb : L2.Binds K fd ps []) (hn : n = ps.length) : KBn K fd ps n [] (fun us _ => us) (fun us _ => us) := by
  refine ⟨fun s us ws X l1 l2 => ?_, fun r1 _ => r1⟩
  obtain rfl : ws = [] := List.length_eq_zero_iff.mp l2
  have := hb s us X (by rw [List.append_nil, l1, hn])
  rw [List.append_nil] at this
  exact this
theorem ex_exc (h : FnX X.prog X.w X.K X.mg X.base cn fs) (hr : RmG 2 X.A) (hz : fs.length ≤ 900) (ha : Ax X (e :: es) ms) (hg : Gl X cn := by rfl) (hdb : (cn == ("__debug__" : Str)) = false := by decide)
    (he : starEach (e :: es) X.env = (false, eval e X.env) :: starEach es X.env := by rfl) (hpl : (backTo pos (starEach es X.env)).any (·.1) = false := by rfl) : Ex X (.Call (.Name cn p) (e :: es) [] pos) (mExc cn fs ms) := by
  obtain ⟨C, fI, fd, ps, hm, T, iC, tI, hb, hno, F⟩ := h
  refine ⟨fun E η M c σ H s => ?_⟩
  refine Out.bind (R := RVs X.K X.mg) (fun vs H1 (Q : VK) => vs.length = fs.length ∧ ∀ a, H1 a = none → spX X.K C fs (.ref a :: vs) (upd H1 a (exo a C none)) (mkQ H1 a C Q) (fun _ _ _ => False)) (ha E η M c σ H s) (fun Q hq => ?_) fun rs c1 vs η1 M1 H1 s1 x1 z1 => ?_
  · intro pins st I
    refine wpAny_Call_Name_kw (ld_glob I hg hm ?_ hdb)
    refine PySem.W.callWith_K (h₀ := X.base) I.ok.mod.kin T.kC (thn (hq pos pins st I) fun us s1 ⟨vs, H1, I1, r, hl, q⟩ => ⟨I1.kIn, ?_⟩) he hpl
    have hn : vs.length + 1 = ps.length := F.len (.ref s1.heap.objs.size :: vs) _ _ _ (q _ (I1.hok.fresh (Nat.le_refl _)))
    exact run_oexK (ks := []) (ws := []) (zs := []) (n := vs.length) T iC tI F hr.rm (kbn_binds hb hn) passL I1 r .nil rfl rfl (by have := r.length; rw [sizeLine_eq]; simp only [List.nil_append]; omega) q
  · cases e1 : vals c1 rs with
    | none => trivial
    | some q =>
      obtain ⟨ds, c2⟩ := q
      dsimp only
      obtain ⟨M2, s2, x2, r2⟩ := vals_ok s1 z1.1 z1.2 e1
      exact out_ext x2 (exc_out hm T hno s2 r2 fun Q h1 h2 => ⟨h1, h2⟩)
theorem ex_excK (h : FnXK X.prog X.w X.K X.mg X.base cn fs ks) (hr : RmG 2 X.A) (ha : Kx X kws ms) (hg : Gl X cn := by rfl) (hdb : (cn == ("__debug__" : Str)) = false := by decide)
    (hall : (backToKw pos (keywordEach kws X.env)).all (·.1.isSome) = true := by rfl) (hks : (backToKw pos (keywordEach kws X.env)).filterMap (·.1) = ks := by rfl)
    (hpl : ((backTo pos (starEach [] X.env)).any (·.1) || (backToKw pos (keywordEach kws X.env)).any (·.1.isNone)) = false := by rfl) : Ex X (.Call (.Name cn p) [] kws pos) (mExcK cn fs ks ms) := by
  obtain ⟨C, fI, fd, ps, hm, T, iC, tI, hb, hno, F⟩ := h
  refine ⟨fun E η M c σ H s => ?_⟩
  refine Out.bind (R := RVs X.K X.mg) (fun vs H1 (Q : VK) => vs.length = ks.length ∧ ∀ a, H1 a = none → spX X.K C fs (.ref a :: permOf fs ks vs) (upd H1 a (exo a C none)) (mkQ H1 a C Q) (fun _ _ _ => False)) (ha.run E η M c σ H s) (fun Q hq => ?_) fun rs c1 vs η1 M1 H1 s1 x1 z1 => ?_
  · intro pins st I
    refine wpAny_Call_Name_kw (ld_glob I hg hm ?_ hdb)
    refine PySem.W.callWith_KW0 (h₀ := X.base) I.ok.mod.kin T.kC hall ?_ hpl
    refine thn (hq pos pins st I) fun ws s2 ⟨zs, H2, I2, rz, hl, q⟩ => ⟨I2.kIn, ?_⟩
    rw [hks]
    exact run_oexK (us := []) (vs := []) (n := 0) T iC tI F hr.rm hb passL I2 .nil rz rfl hl (Nat.zero_le _) q
  · cases e1 : vals c1 rs with
    | none => trivial
    | some q =>
      obtain ⟨ds, c2⟩ := q
      dsimp only
      obtain ⟨M2, s2, x2, r2⟩ := vals_ok s1 z1.1 z1.2 e1
      by_cases hl : ds.length = ks.length
      · rw [if_pos hl]
        refine out_ext x2 (exc_out hm T hno s2 (RepL.of_pd (permOf_rel r2.pd fs)) fun Q h1 h2 => ⟨by rw [r2.length]; exact hl, h2⟩)
      · rw [if_neg hl]; trivial
theorem ex_call0 {k : Nat} {F : Fm} {x : Str} (h : Fn X.prog X.w X.K X.mg X.base x k 0 F) (hr : RmG k X.A) (hg : Gl X x := by rfl) (hdb : (x == ("__debug__" : Str)) = false := by decide) : Ex X (.Call (.Name x p) [] [] pos) (mCall 0 F maNil) := by
  obtain ⟨f, fd, ps, hm, hk, hb, hF⟩ := h
  refine ⟨fun E η M c σ H s => ?_⟩
  have key : Out X (RV X.K X.mg) (fun Q => spF X.K X.mg 0 F [] H Q E0 ∨ ∃ W, Takes X W ∧ spF X.K X.mg 0 F [] H Q (fun cls d H' => W cls d σ H')) E η M σ (mCall 0 F maNil c) := 
    out_fn (ds := []) s .nil rfl (fun Q hq => .inl hq) fun W Q tk hq => .inr ⟨W, tk, hq⟩
  refine key.imp (fun x => x) (fun Q hq => ?_) fun _ _ _ _ _ _ _ z => z
  intro pins st I
  refine wpAny_Call_Name_kw (ld_glob I hg hm ?_ hdb)
  rcases hq with q | ⟨W, tk, q⟩
  · exact PySem.W.callWith_K0 I.kIn hk (runG (dvs := []) (us := []) hF hr hb .nil (fun pins => passL pins σ) I .nil q)
  · exact PySem.W.callWith_K0 I.kIn hk (runG (dvs := []) (us := []) hF hr hb .nil (passAt tk σ) I .nil q)
end
end LH
namespace LH
open PySem PySem.Spec PyProof.Rows L2
local macro_rules
  | `(tactic| simp! only [$xs,*]) => `(tactic| simp only [wE_bCons, wE_sIf, wE_bNil, wE_mBool, wE_mTruth, wE_tmAnd, wE_tmOr, wE_tmNot, wE_mBin, wE_mUn, wE_m1, wE_mVar, wE_m2, wE_mC, wE_sSet, wE_sSetH, wE_sPut, wE_sRet, wE_sDrop, wE_sUnp, wE_sPend, mPend_nil, mPend_cons, pend_fz, pend_nwl, pend_loc, putL_nil, putL_fz, putL_nw, fzL_nil, fzL_cons, wE_mLst, wE_mTup, wE_mCB, wE_mCall, wE_mMut, wE_mSeq, wE_mRng1, wE_for, wE_mDisp, wE_mPairs_nil, wE_mPairs_cons, wE_tmYes, wE_ok, wE_mIfE, wE_maCons, wE_maNil, views_cons, views_nil, vals_cons, vals_nil, Option.bind_some, Option.map_some, settle_fz, settle_loc, settle_nw, view_hdl, view_int, view_str, view_bl, view_lst, view_tup, view_ro, view_loc, view_nw, view_dct, oE_some, gCmpI_int, gAdd_int, gSub_int, toVal_fz, toVal_nw, toVal_loc, cont_hdl, cont_loc, putB_hdl, putB_loc, putH_nw, putR_fz, putR_nwl, putR_nwt, putR_nwd, putR_loc, leaveR_fz, leaveR_nw, leaveR_loc, List.getElem?_cons_zero, List.getElem?_cons_succ, List.length_cons, List.length_nil, List.set_cons_zero, List.set_cons_succ, decide_true, decide_false, if_true, if_false, Bool.not_true, Bool.not_false, Bool.false_eq_true, true_and, and_true, Nat.reduceAdd, Nat.reduceLT, Nat.reduceLeDiff, Nat.zero_add, reduceIte, and_self, eq_self, wE_sSetF, wE_sFrz, frzS_nil, frzS_cons, wE_mSl, wE_pNo, wE_pSome, wE_mM1, wE_mAnd, wE_mOr, wE_mChain, wE_mDct, truthD_bl, gNeg_int, view_exc, gFz_lt, gT_tup, gC_cons, gN_nil, tyD_lst, oE_none, wE_meth, wE_mMake, $xs,*])
local macro_rules
  | `(tactic| dsimp! only [$xs,*]) => `(tactic| simp only [wZ_bCons, wZ_sIf, wZ_bNil, wZ_mBool, wZ_mTruth, wZ_tmAnd, wZ_tmOr, wZ_tmNot, wZ_mBin, wZ_mUn, wZ_m1, wZ_mVar, wZ_m2, wZ_mC, wZ_sSet, wZ_sSetH, wZ_sPut, wZ_sRet, wZ_sDrop, wZ_sUnp, wZ_sPend, mPendZ_nil, mPendZ_cons, pend_fz, pend_nwl, pend_loc, putL_nil, putL_fz, putL_nw, fzL_nil, fzL_cons, wZ_mLst, wZ_mTup, wZ_mCB, wZ_mCall, wZ_mMut, wZ_mSeq, wZ_mRng1, wZ_for, wZ_mDisp, wZ_mPairs_nil, wZ_mPairs_cons, wZ_tmYes, wZ_ok, wZ_mIfE, wZ_maCons, wZ_maNil, views_cons, views_nil, vals_cons, vals_nil, Option.bind_some, Option.map_some, settle_fz, settle_loc, settle_nw, view_hdl, view_int, view_str, view_bl, view_lst, view_tup, view_ro, view_loc, view_nw, view_dct, oE_some, gCmpI_int, gAdd_int, gSub_int, toVal_fz, toVal_nw, toVal_loc, cont_hdl, cont_loc, putB_hdl, putB_loc, putH_nw, putR_fz, putR_nwl, putR_nwt, putR_nwd, putR_loc, leaveR_fz, leaveR_nw, leaveR_loc, List.getElem?_cons_zero, List.getElem?_cons_succ, List.length_cons, List.length_nil, List.set_cons_zero, List.set_cons_succ, decide_true, decide_false, if_true, if_false, Bool.not_true, Bool.not_false, Bool.false_eq_true, true_and, and_true, Nat.reduceAdd, Nat.reduceLT, Nat.reduceLeDiff, Nat.zero_add, reduceIte, and_self, eq_self, wZ_sSetF, wZ_sFrz, frzS_nil, frzS_cons, wZ_mSl, wZ_pNo, wZ_pSome, wZ_mM1, wZ_mAnd, wZ_mOr, wZ_mChain, wZ_mDct, truthD_bl, gNeg_int, view_exc, gFz_lt, gT_tup, gC_cons, gN_nil, tyD_lst, oE_none, wZ_meth, wZ_mMake, wZ_err, wZ_sRaise, $xs,*])
/-! the defs of the text, printed by gen.py -/
def top (i : Nat) : Stmt := PySem.Challenge.pw_likehouses_k03_refusals_by_their_kinds.main.body.getD i (.Pass ⟨0, 0, 0, 0⟩)
noncomputable section
variable {P : Program} {w : World} {K : Fg} {mg : Mg} {base : Heap}
def gI_ArithmeticError : D → Option Rv := (gIs [("NoMoment", false), ("NoMore", false), ("NoName", false), ("NoStep", false), ("NoText", false), ("NoWay", false), ("Shunned", false), ("TooFar", true), ("TooMany", true)] [] [("NoneType", false)])
def gI_IndexError : D → Option Rv := (gIs [("NoMoment", true), ("NoMore", false), ("NoName", false), ("NoStep", false), ("NoText", false), ("NoWay", false), ("Shunned", false), ("TooFar", false), ("TooMany", false)] [] [("NoneType", false)])
def gI_KeyError : D → Option Rv := (gIs [("NoMoment", false), ("NoMore", false), ("NoName", true), ("NoStep", false), ("NoText", false), ("NoWay", false), ("Shunned", false), ("TooFar", false), ("TooMany", false)] [] [("NoneType", false)])
def gI_LookupError : D → Option Rv := (gIs [("NoMoment", true), ("NoMore", true), ("NoName", true), ("NoStep", false), ("NoText", false), ("NoWay", false), ("Shunned", false), ("TooFar", false), ("TooMany", false)] [] [("NoneType", false)])
def gI_NoMoment : D → Option Rv := (gIs [("NoMoment", true), ("NoMore", false), ("NoName", false), ("NoStep", false), ("NoText", false), ("NoWay", false), ("Shunned", false), ("TooFar", false), ("TooMany", false)] [] [("NoneType", false)])
def gI_NoMore : D → Option Rv := (gIs [("NoMoment", false), ("NoMore", true), ("NoName", false), ("NoStep", false), ("NoText", false), ("NoWay", false), ("Shunned", false), ("TooFar", false), ("TooMany", false)] [] [("NoneType", false)])
def gI_NoName : D → Option Rv := (gIs [("NoMoment", false), ("NoMore", false), ("NoName", true), ("NoStep", false), ("NoText", false), ("NoWay", false), ("Shunned", false), ("TooFar", false), ("TooMany", false)] [] [("NoneType", false)])
def gI_NoStep : D → Option Rv := (gIs [("NoMoment", false), ("NoMore", false), ("NoName", false), ("NoStep", true), ("NoText", false), ("NoWay", false), ("Shunned", false), ("TooFar", false), ("TooMany", false)] [] [("NoneType", false)])
def gI_NoText : D → Option Rv := (gIs [("NoMoment", false), ("NoMore", false), ("NoName", false), ("NoStep", false), ("NoText", true), ("NoWay", false), ("Shunned", false), ("TooFar", false), ("TooMany", false)] [] [("NoneType", false)])
def gI_NoWay : D → Option Rv := (gIs [("NoMoment", false), ("NoMore", false), ("NoName", false), ("NoStep", false), ("NoText", false), ("NoWay", true), ("Shunned", false), ("TooFar", false), ("TooMany", false)] [] [("NoneType", false)])
def gI_OverflowError : D → Option Rv := (gIs [("NoMoment", false), ("NoMore", false), ("NoName", false), ("NoStep", false), ("NoText", false), ("NoWay", false), ("Shunned", false), ("TooFar", true), ("TooMany", true)] [] [("NoneType", false)])
def gI_RuntimeError : D → Option Rv := (gIs [("NoMoment", false), ("NoMore", false), ("NoName", false), ("NoStep", false), ("NoText", false), ("NoWay", false), ("Shunned", false), ("TooFar", false), ("TooMany", false)] [] [("NoneType", false)])
def gI_Shunned : D → Option Rv := (gIs [("NoMoment", false), ("NoMore", false), ("NoName", false), ("NoStep", false), ("NoText", false), ("NoWay", false), ("Shunned", true), ("TooFar", false), ("TooMany", false)] [] [("NoneType", false)])
def gI_TooFar : D → Option Rv := (gIs [("NoMoment", false), ("NoMore", false), ("NoName", false), ("NoStep", false), ("NoText", false), ("NoWay", false), ("Shunned", false), ("TooFar", true), ("TooMany", false)] [] [("NoneType", false)])
def gI_TooMany : D → Option Rv := (gIs [("NoMoment", false), ("NoMore", false), ("NoName", false), ("NoStep", false), ("NoText", false), ("NoWay", false), ("Shunned", false), ("TooFar", false), ("TooMany", true)] [] [("NoneType", false)])
def gI_TypeError : D → Option Rv := (gIs [("NoMoment", false), ("NoMore", false), ("NoName", false), ("NoStep", false), ("NoText", false), ("NoWay", false), ("Shunned", false), ("TooFar", false), ("TooMany", false)] [] [("NoneType", false)])
def gI_ValueError : D → Option Rv := (gIs [("NoMoment", false), ("NoMore", false), ("NoName", false), ("NoStep", true), ("NoText", true), ("NoWay", true), ("Shunned", true), ("TooFar", false), ("TooMany", false)] [] [("NoneType", false)])
def gI_ZeroDivisionError : D → Option Rv := (gIs [("NoMoment", false), ("NoMore", false), ("NoName", false), ("NoStep", false), ("NoText", false), ("NoWay", false), ("Shunned", false), ("TooFar", false), ("TooMany", false)] [] [("NoneType", false)])
theorem scx_NoMoment : FnScope ["self", "asked"] ["self", "asked"] (defScope (inClass (top 6) 0)) := ⟨rfl, rfl, rfl, by decide +kernel, rfl, by decide +kernel, by decide +kernel⟩
theorem ix_NoMoment {C f : Addr} {fd : FuncData} (F : Fun K "__init__" "NoMoment.__init__" (inClass (top 6) 0) f fd) : FnOk P w K mg base (L2.CX P w) 1 f fd ["self", "asked"] (spX K C ["asked"]) :=
  F.okX scx_NoMoment (spX_len rfl) fun cdv A outer s H vs Q E hr hsp => by
    obtain ⟨a, ys, rfl, hl, T, hno, ha, hq⟩ := hsp
    match ys, hl with
    | [y], _ => exact ⟨_, pss_one (ps_ostG (pv 0) (pv 1)), y, rfl, .ref a, rfl, a, C, rfl, T, hno _ (by simp), .inl ⟨ha, fun dx hd hne => hq dx _ upd_same (by rw [upd_ne hne]; exact upd_same) hd fun b o hb e => by rw [upd_ne hb, upd_ne (ne_of_none e hd)]; exact e⟩⟩
theorem scx_NoMore : FnScope ["self", "word"] ["self", "word"] (defScope (inClass (top 7) 0)) := ⟨rfl, rfl, rfl, by decide +kernel, rfl, by decide +kernel, by decide +kernel⟩
theorem ix_NoMore {C f : Addr} {fd : FuncData} (F : Fun K "__init__" "NoMore.__init__" (inClass (top 7) 0) f fd) : FnOk P w K mg base (L2.CX P w) 1 f fd ["self", "word"] (spX K C ["word"]) :=
  F.okX scx_NoMore (spX_len rfl) fun cdv A outer s H vs Q E hr hsp => by
    obtain ⟨a, ys, rfl, hl, T, hno, ha, hq⟩ := hsp
    match ys, hl with
    | [y], _ => exact ⟨_, pss_one (ps_ostG (pv 0) (pv 1)), y, rfl, .ref a, rfl, a, C, rfl, T, hno _ (by simp), .inl ⟨ha, fun dx hd hne => hq dx _ upd_same (by rw [upd_ne hne]; exact upd_same) hd fun b o hb e => by rw [upd_ne hb, upd_ne (ne_of_none e hd)]; exact e⟩⟩
theorem scx_NoName : FnScope ["self", "asked"] ["self", "asked"] (defScope (inClass (top 5) 0)) := ⟨rfl, rfl, rfl, by decide +kernel, rfl, by decide +kernel, by decide +kernel⟩
theorem ix_NoName {C f : Addr} {fd : FuncData} (F : Fun K "__init__" "NoName.__init__" (inClass (top 5) 0) f fd) : FnOk P w K mg base (L2.CX P w) 1 f fd ["self", "asked"] (spX K C ["asked"]) :=
  F.okX scx_NoName (spX_len rfl) fun cdv A outer s H vs Q E hr hsp => by
    obtain ⟨a, ys, rfl, hl, T, hno, ha, hq⟩ := hsp
    match ys, hl with
    | [y], _ => exact ⟨_, pss_one (ps_ostG (pv 0) (pv 1)), y, rfl, .ref a, rfl, a, C, rfl, T, hno _ (by simp), .inl ⟨ha, fun dx hd hne => hq dx _ upd_same (by rw [upd_ne hne]; exact upd_same) hd fun b o hb e => by rw [upd_ne hb, upd_ne (ne_of_none e hd)]; exact e⟩⟩
theorem scx_NoStep : FnScope ["self", "why"] ["self", "why"] (defScope (inClass (top 2) 0)) := ⟨rfl, rfl, rfl, by decide +kernel, rfl, by decide +kernel, by decide +kernel⟩
theorem ix_NoStep {C f : Addr} {fd : FuncData} (F : Fun K "__init__" "NoStep.__init__" (inClass (top 2) 0) f fd) : FnOk P w K mg base (L2.CX P w) 1 f fd ["self", "why"] (spX K C ["why"]) :=
  F.okX scx_NoStep (spX_len rfl) fun cdv A outer s H vs Q E hr hsp => by
    obtain ⟨a, ys, rfl, hl, T, hno, ha, hq⟩ := hsp
    match ys, hl with
    | [y], _ => exact ⟨_, pss_one (ps_ostG (pv 0) (pv 1)), y, rfl, .ref a, rfl, a, C, rfl, T, hno _ (by simp), .inl ⟨ha, fun dx hd hne => hq dx _ upd_same (by rw [upd_ne hne]; exact upd_same) hd fun b o hb e => by rw [upd_ne hb, upd_ne (ne_of_none e hd)]; exact e⟩⟩
theorem scx_NoText : FnScope ["self", "row"] ["self", "row"] (defScope (inClass (top 1) 0)) := ⟨rfl, rfl, rfl, by decide +kernel, rfl, by decide +kernel, by decide +kernel⟩
theorem ix_NoText {C f : Addr} {fd : FuncData} (F : Fun K "__init__" "NoText.__init__" (inClass (top 1) 0) f fd) : FnOk P w K mg base (L2.CX P w) 1 f fd ["self", "row"] (spX K C ["row"]) :=
  F.okX scx_NoText (spX_len rfl) fun cdv A outer s H vs Q E hr hsp => by
    obtain ⟨a, ys, rfl, hl, T, hno, ha, hq⟩ := hsp
    match ys, hl with
    | [y], _ => exact ⟨_, pss_one (ps_ostG (pv 0) (pv 1)), y, rfl, .ref a, rfl, a, C, rfl, T, hno _ (by simp), .inl ⟨ha, fun dx hd hne => hq dx _ upd_same (by rw [upd_ne hne]; exact upd_same) hd fun b o hb e => by rw [upd_ne hb, upd_ne (ne_of_none e hd)]; exact e⟩⟩
theorem scx_NoWay : FnScope ["self", "at", "why"] ["self", "at", "why"] (defScope (inClass (top 3) 0)) := ⟨rfl, rfl, rfl, by decide +kernel, rfl, by decide +kernel, by decide +kernel⟩
theorem ix_NoWay {C f : Addr} {fd : FuncData} (F : Fun K "__init__" "NoWay.__init__" (inClass (top 3) 0) f fd) : FnOk P w K mg base (L2.CX P w) 1 f fd ["self", "at", "why"] (spX K C ["at", "why"]) :=
  F.okX scx_NoWay (spX_len rfl) fun cdv A outer s H vs Q E hr hsp => by
    obtain ⟨a, ys, rfl, hl, T, hno, ha, hq⟩ := hsp
    match ys, hl with
    | [y, z], _ => exact ⟨_, pss_cons (ps_ostG (pv 0) (pv 1)) (pss_one (ps_ostG (pv 0) (pv 2))), y, rfl, .ref a, rfl, a, C, rfl, T, hno _ (by simp), .inl ⟨ha, fun dx hd hne => ⟨z, rfl, .ref a, rfl, a, C, rfl, T, hno _ (by simp), .inr ⟨dx, [("at", y)], upd_same, by rw [upd_ne hne]; exact upd_same, by simp, hq dx _ (by rw [upd_ne (Ne.symm hne)]; exact upd_same) upd_same hd fun b o hb e => by rw [upd_ne (ne_of_none e hd), upd_ne hb, upd_ne (ne_of_none e hd)]; exact e⟩⟩⟩⟩
theorem scx_Shunned : FnScope ["self", "stand"] ["self", "stand"] (defScope (inClass (top 4) 0)) := ⟨rfl, rfl, rfl, by decide +kernel, rfl, by decide +kernel, by decide +kernel⟩
theorem ix_Shunned {C f : Addr} {fd : FuncData} (F : Fun K "__init__" "Shunned.__init__" (inClass (top 4) 0) f fd) : FnOk P w K mg base (L2.CX P w) 1 f fd ["self", "stand"] (spX K C ["stand"]) :=
  F.okX scx_Shunned (spX_len rfl) fun cdv A outer s H vs Q E hr hsp => by
    obtain ⟨a, ys, rfl, hl, T, hno, ha, hq⟩ := hsp
    match ys, hl with
    | [y], _ => exact ⟨_, pss_one (ps_ostG (pv 0) (pv 1)), y, rfl, .ref a, rfl, a, C, rfl, T, hno _ (by simp), .inl ⟨ha, fun dx hd hne => hq dx _ upd_same (by rw [upd_ne hne]; exact upd_same) hd fun b o hb e => by rw [upd_ne hb, upd_ne (ne_of_none e hd)]; exact e⟩⟩
theorem scx_TooFar : FnScope ["self", "house"] ["self", "house"] (defScope (inClass (top 8) 0)) := ⟨rfl, rfl, rfl, by decide +kernel, rfl, by decide +kernel, by decide +kernel⟩
theorem ix_TooFar {C f : Addr} {fd : FuncData} (F : Fun K "__init__" "TooFar.__init__" (inClass (top 8) 0) f fd) : FnOk P w K mg base (L2.CX P w) 1 f fd ["self", "house"] (spX K C ["house"]) :=
  F.okX scx_TooFar (spX_len rfl) fun cdv A outer s H vs Q E hr hsp => by
    obtain ⟨a, ys, rfl, hl, T, hno, ha, hq⟩ := hsp
    match ys, hl with
    | [y], _ => exact ⟨_, pss_one (ps_ostG (pv 0) (pv 1)), y, rfl, .ref a, rfl, a, C, rfl, T, hno _ (by simp), .inl ⟨ha, fun dx hd hne => hq dx _ upd_same (by rw [upd_ne hne]; exact upd_same) hd fun b o hb e => by rw [upd_ne hb, upd_ne (ne_of_none e hd)]; exact e⟩⟩
theorem scx_TooMany : FnScope ["self", "most"] ["self", "most"] (defScope (inClass (top 9) 0)) := ⟨rfl, rfl, rfl, by decide +kernel, rfl, by decide +kernel, by decide +kernel⟩
theorem ix_TooMany {C f : Addr} {fd : FuncData} (F : Fun K "__init__" "TooMany.__init__" (inClass (top 9) 0) f fd) : FnOk P w K mg base (L2.CX P w) 1 f fd ["self", "most"] (spX K C ["most"]) :=
  F.okX scx_TooMany (spX_len rfl) fun cdv A outer s H vs Q E hr hsp => by
    obtain ⟨a, ys, rfl, hl, T, hno, ha, hq⟩ := hsp
    match ys, hl with
    | [y], _ => exact ⟨_, pss_one (ps_ostG (pv 0) (pv 1)), y, rfl, .ref a, rfl, a, C, rfl, T, hno _ (by simp), .inl ⟨ha, fun dx hd hne => hq dx _ upd_same (by rw [upd_ne hne]; exact upd_same) hd fun b o hb e => by rw [upd_ne hb, upd_ne (ne_of_none e hd)]; exact e⟩⟩
/-! _law_bases -/
abbrev N__law_bases : List Str := ["e", "some"]
theorem nd__law_bases : N__law_bases.Nodup := by decide +kernel
theorem sc__law_bases : FnScope N__law_bases ["e"] (defScope (top 29)) := ⟨rfl, rfl, rfl, by decide +kernel, rfl, by decide +kernel, by decide +kernel⟩
def b__law_bases_3 : Sm := (sRet (mBin gAdd (mVar 1) (mLst (maCons (mUn gI_RuntimeError (mVar 0)) (maCons (mUn gI_TypeError (mVar 0)) maNil)))))
def b__law_bases_2 : Sm := (bCons (sSetF 1 (mBin gAdd (mVar 1) (mLst (maCons (mUn gI_ArithmeticError (mVar 0)) (maCons (mUn gI_OverflowError (mVar 0)) (maCons (mUn gI_ZeroDivisionError (mVar 0)) maNil))))))
  b__law_bases_3)
def b__law_bases : Sm := (bCons (sSetF 1 (mLst (maCons (mUn gI_ValueError (mVar 0)) (maCons (mUn gI_LookupError (mVar 0)) (maCons (mUn gI_KeyError (mVar 0)) (maCons (mUn gI_IndexError (mVar 0)) maNil))))))
  b__law_bases_2)
def m__law_bases : Fm := runF 2 b__law_bases
theorem run__law_bases {d0 : D} {S : List D} {Q : Rv → Cf → Prop} (h : wE (b__law_bases ⟨[.fz d0, .un], S⟩) fun fl c => match fl with | .nx => Q (.fz .non) ⟨[], c.S⟩ | .rt r => oE (leaveR c r) fun r' => Q r' ⟨[], c.S⟩ | _ => False) : wE (m__law_bases [d0] S) Q := wE_runF h
theorem runZ__law_bases {d0 : D} {S : List D} {E : Xc → Cf → Prop} {Q : Rv → Cf → Prop} (h : wZ (fun x c => E x ⟨[], c.S⟩) (b__law_bases ⟨[.fz d0, .un], S⟩) fun fl c => match fl with | .nx => Q (.fz .non) ⟨[], c.S⟩ | .rt r => oE (leaveR c r) fun r' => Q r' ⟨[], c.S⟩ | _ => False) : wZ E (m__law_bases [d0] S) Q := wZ_runF h
theorem err__law_bases {d0 : D} {S S1 : List D} {x0 : Xc} (h : wZ (fun x c => x = x0 ∧ c.S = S1) (b__law_bases ⟨[.fz d0, .un], S⟩) fun _ _ => False) : m__law_bases [d0] S = .err x0 ⟨[], S1⟩ := errZ_runF h
theorem eq__law_bases {d0 : D} {S S1 : List D} {r0 : Rv} (h : wE (b__law_bases ⟨[.fz d0, .un], S⟩) fun fl c => match fl with | .nx => Rv.fz .non = r0 ∧ c.S = S1 | .rt r => oE (leaveR c r) fun r' => r' = r0 ∧ c.S = S1 | _ => False) : m__law_bases [d0] S = .ok r0 ⟨[], S1⟩ := eq_runF h
theorem fn__law_bases {f : Addr} {fd : FuncData} (F : Fun K "_law_bases" "_law_bases" (top 29) f fd) (z_ArithmeticError : mg "ArithmeticError" = none) (z_IndexError : mg "IndexError" = none) (z_KeyError : mg "KeyError" = none) (z_LookupError : mg "LookupError" = none) (z_OverflowError : mg "OverflowError" = none) (z_RuntimeError : mg "RuntimeError" = none) (z_TypeError : mg "TypeError" = none) (z_ValueError : mg "ValueError" = none) (z_ZeroDivisionError : mg "ZeroDivisionError" = none) (z_isinstance : mg "isinstance" = none) (i_ArithmeticError : KT1 K mg "ArithmeticError" [("NoMoment", false), ("NoMore", false), ("NoName", false), ("NoStep", false), ("NoText", false), ("NoWay", false), ("Shunned", false), ("TooFar", true), ("TooMany", true)] [] [("NoneType", false)]) (i_IndexError : KT1 K mg "IndexError" [("NoMoment", true), ("NoMore", false), ("NoName", false), ("NoStep", false), ("NoText", false), ("NoWay", false), ("Shunned", false), ("TooFar", false), ("TooMany", false)] [] [("NoneType", false)]) (i_KeyError : KT1 K mg "KeyError" [("NoMoment", false), ("NoMore", false), ("NoName", true), ("NoStep", false), ("NoText", false), ("NoWay", false), ("Shunned", false), ("TooFar", false), ("TooMany", false)] [] [("NoneType", false)]) (i_LookupError : KT1 K mg "LookupError" [("NoMoment", true), ("NoMore", true), ("NoName", true), ("NoStep", false), ("NoText", false), ("NoWay", false), ("Shunned", false), ("TooFar", false), ("TooMany", false)] [] [("NoneType", false)]) (i_OverflowError : KT1 K mg "OverflowError" [("NoMoment", false), ("NoMore", false), ("NoName", false), ("NoStep", false), ("NoText", false), ("NoWay", false), ("Shunned", false), ("TooFar", true), ("TooMany", true)] [] [("NoneType", false)]) (i_RuntimeError : KT1 K mg "RuntimeError" [("NoMoment", false), ("NoMore", false), ("NoName", false), ("NoStep", false), ("NoText", false), ("NoWay", false), ("Shunned", false), ("TooFar", false), ("TooMany", false)] [] [("NoneType", false)]) (i_TypeError : KT1 K mg "TypeError" [("NoMoment", false), ("NoMore", false), ("NoName", false), ("NoStep", false), ("NoText", false), ("NoWay", false), ("Shunned", false), ("TooFar", false), ("TooMany", false)] [] [("NoneType", false)]) (i_ValueError : KT1 K mg "ValueError" [("NoMoment", false), ("NoMore", false), ("NoName", false), ("NoStep", true), ("NoText", true), ("NoWay", true), ("Shunned", true), ("TooFar", false), ("TooMany", false)] [] [("NoneType", false)]) (i_ZeroDivisionError : KT1 K mg "ZeroDivisionError" [("NoMoment", false), ("NoMore", false), ("NoName", false), ("NoStep", false), ("NoText", false), ("NoWay", false), ("Shunned", false), ("TooFar", false), ("TooMany", false)] [] [("NoneType", false)]) : FnG P w K mg base (L2.CX P w) 1 f fd ["e"] (spF K mg 1 m__law_bases) :=
  fn_runE (mb := b__law_bases) F sc__law_bases rfl rfl fun cdv A outer s H Ex hr =>
    (bx_cons (sx_setF 1 nd__law_bases (ex_lst (ax_cons (ex_isK z_isinstance i_ValueError (ex_var 0)) (ax_cons (ex_isK z_isinstance i_LookupError (ex_var 0)) (ax_cons (ex_isK z_isinstance i_KeyError (ex_var 0)) (ax_cons (ex_isK z_isinstance i_IndexError (ex_var 0)) ax_nil st_Call) st_Call) st_Call) st_Call)))
      (bx_cons (sx_setF 1 nd__law_bases (ex_bin o_add (ex_var 1) (ex_lst (ax_cons (ex_isK z_isinstance i_ArithmeticError (ex_var 0)) (ax_cons (ex_isK z_isinstance i_OverflowError (ex_var 0)) (ax_cons (ex_isK z_isinstance i_ZeroDivisionError (ex_var 0)) ax_nil st_Call) st_Call) st_Call))))
      (bx_one (sx_ret (ex_bin o_add (ex_var 1) (ex_lst (ax_cons (ex_isK z_isinstance i_RuntimeError (ex_var 0)) (ax_cons (ex_isK z_isinstance i_TypeError (ex_var 0)) ax_nil st_Call) st_Call)))))))
/-! _law_draw -/
abbrev N__law_draw : List Str := ["pen", "many", "digit", "turn", "cell", "primes", "prime", "drawn"]
theorem nd__law_draw : N__law_draw.Nodup := by decide +kernel
theorem sc__law_draw : FnScope N__law_draw ["pen", "many"] (defScope (top 25)) := ⟨rfl, rfl, rfl, by decide +kernel, rfl, by decide +kernel, by decide +kernel⟩
def b__law_draw : Sm := (bCons (sIf (mBool (mBin (gCmpI fun i j => decide (j < i)) (mBin gIx (mVar 0) (mC (.str "rest"))) (mC (.int 0)))) (bCons (sSetF 2 (mBin gMod (mBin gIx (mVar 0) (mC (.str "rest"))) (mVar 1)))
  (bCons (sPut gDput (mBin gFdiv (mBin gIx (mVar 0) (mC (.str "rest"))) (mVar 1)) (mVar 0) (mC (.str "rest")))
  (sRet (mVar 2)))) bNil)
  (bCons (sSetF 3 (mBin gIx (mVar 0) (mC (.str "turn"))))
  (bCons (sPut gDput (mBin gAdd (mVar 3) (mC (.int 1))) (mVar 0) (mC (.str "turn")))
  (bCons (sSetF 4 (mBin gAdd (mBin gMul (mC (.int 31)) (mVar 3)) (mC (.int 5))))
  (bCons (sIf (mBool (mBin gNe (mBin gIx (mVar 0) (mC (.str "cells"))) (mLst maNil))) (sSetF 4 (mBin gIx (mBin gIx (mVar 0) (mC (.str "cells"))) (mBin gMod (mVar 3) (mCB (g1 gLen) (maCons (mBin gIx (mVar 0) (mC (.str "cells"))) maNil))))) bNil)
  (bCons (sIf (tmAnd (mBool (mBin (gCmpI fun i j => decide (i < j)) (mVar 3) (mCB (g1 gLen) (maCons (mBin gIx (mVar 0) (mC (.str "cells"))) maNil)))) (mBool (mBin (gCmpI fun i j => decide (j ≤ i)) (mCB (g1 gAbs) (maCons (mVar 4) maNil)) (mBin gPow (mC (.int 10)) (mC (.int 18)))))) (bCons (sPut gDput (mBin gFdiv (mBin gSub (mCB (g1 gAbs) (maCons (mVar 4) maNil)) (mBin gPow (mC (.int 10)) (mC (.int 18)))) (mVar 1)) (mVar 0) (mC (.str "rest")))
  (sRet (mBin gMod (mBin gSub (mCB (g1 gAbs) (maCons (mVar 4) maNil)) (mBin gPow (mC (.int 10)) (mC (.int 18)))) (mVar 1)))) bNil)
  (bCons (sSetF 5 (mLst (maCons (mC (.int 2147483647)) (maCons (mC (.int 2147483629)) (maCons (mC (.int 2147483587)) (maCons (mC (.int 2147483579)) (maCons (mC (.int 2147483563)) maNil)))))))
  (bCons (sSetF 6 (mBin gIx (mVar 5) (mBin gMod (mVar 3) (mC (.int 5)))))
  (bCons (sSetF 7 (mBin gMod (mBin gAdd (mBin gAdd (mBin gMul (mBin gMod (mVar 4) (mVar 6)) (mC (.int 69621))) (mBin gMul (mBin gMul (mC (.int 40692)) (mVar 3)) (mVar 3))) (mC (.int 11))) (mVar 6)))
  (bCons (sSetF 7 (mBin gMod (mBin gMul (mVar 7) (mBin gAdd (mVar 7) (mC (.int 48271)))) (mBin gIx (mVar 5) (mBin gMod (mBin gAdd (mVar 3) (mC (.int 3))) (mC (.int 5))))))
  (sRet (mBin gMod (mBin gFdiv (mBin gMod (mBin gMul (mVar 7) (mVar 7)) (mC (.int 2147483549))) (mC (.int 64))) (mVar 1)))))))))))))
def m__law_draw : Fm := runF 8 b__law_draw
theorem run__law_draw {d0 d1 : D} {S : List D} {Q : Rv → Cf → Prop} (h : wE (b__law_draw ⟨[.fz d0, .fz d1, .un, .un, .un, .un, .un, .un], S⟩) fun fl c => match fl with | .nx => Q (.fz .non) ⟨[], c.S⟩ | .rt r => oE (leaveR c r) fun r' => Q r' ⟨[], c.S⟩ | _ => False) : wE (m__law_draw [d0, d1] S) Q := wE_runF h
theorem runZ__law_draw {d0 d1 : D} {S : List D} {E : Xc → Cf → Prop} {Q : Rv → Cf → Prop} (h : wZ (fun x c => E x ⟨[], c.S⟩) (b__law_draw ⟨[.fz d0, .fz d1, .un, .un, .un, .un, .un, .un], S⟩) fun fl c => match fl with | .nx => Q (.fz .non) ⟨[], c.S⟩ | .rt r => oE (leaveR c r) fun r' => Q r' ⟨[], c.S⟩ | _ => False) : wZ E (m__law_draw [d0, d1] S) Q := wZ_runF h
theorem err__law_draw {d0 d1 : D} {S S1 : List D} {x0 : Xc} (h : wZ (fun x c => x = x0 ∧ c.S = S1) (b__law_draw ⟨[.fz d0, .fz d1, .un, .un, .un, .un, .un, .un], S⟩) fun _ _ => False) : m__law_draw [d0, d1] S = .err x0 ⟨[], S1⟩ := errZ_runF h
theorem eq__law_draw {d0 d1 : D} {S S1 : List D} {r0 : Rv} (h : wE (b__law_draw ⟨[.fz d0, .fz d1, .un, .un, .un, .un, .un, .un], S⟩) fun fl c => match fl with | .nx => Rv.fz .non = r0 ∧ c.S = S1 | .rt r => oE (leaveR c r) fun r' => r' = r0 ∧ c.S = S1 | _ => False) : m__law_draw [d0, d1] S = .ok r0 ⟨[], S1⟩ := eq_runF h
theorem fn__law_draw {f : Addr} {fd : FuncData} (F : Fun K "_law_draw" "_law_draw" (top 25) f fd) (z_abs : mg "abs" = none) (z_len : mg "len" = none) : FnG P w K mg base (L2.CX P w) 1 f fd ["pen", "many"] (spF K mg 2 m__law_draw) :=
  fn_runE (mb := b__law_draw) F sc__law_draw rfl rfl fun cdv A outer s H Ex hr =>
    (bx_cons (sx_if (tx_cmp o_gt (ex_ix (o_ix (hU hr (by decide))) (ex_var 0) ex_str) ex_int) (bx_cons (sx_setF 2 nd__law_draw (ex_bin o_mod (ex_ix (o_ix (hU hr (by decide))) (ex_var 0) ex_str) (ex_var 1)))
      (bx_cons (sx_dput (hU hr (by decide)) (ex_var 0) ex_str (ex_bin o_fdiv (ex_ix (o_ix (hU hr (by decide))) (ex_var 0) ex_str) (ex_var 1)))
      (bx_one (sx_ret (ex_var 2))))) bx_nil)
      (bx_cons (sx_setF 3 nd__law_draw (ex_ix (o_ix (hU hr (by decide))) (ex_var 0) ex_str))
      (bx_cons (sx_dput (hU hr (by decide)) (ex_var 0) ex_str (ex_bin o_add (ex_var 3) ex_int))
      (bx_cons (sx_setF 4 nd__law_draw (ex_bin o_add (ex_bin o_mul ex_int (ex_var 3)) ex_int))
      (bx_cons (sx_if (tx_cmp (o_ne (hU hr (by decide))) (ex_ix (o_ix (hU hr (by decide))) (ex_var 0) ex_str) (ex_lst ax_nil)) (bx_one (sx_setF 4 nd__law_draw (ex_ix (o_ix (hU hr (by decide))) (ex_ix (o_ix (hU hr (by decide))) (ex_var 0) ex_str) (ex_bin o_mod (ex_var 3) (ex_callB c_len rfl z_len (by decide +kernel) (ax_cons (ex_ix (o_ix (hU hr (by decide))) (ex_var 0) ex_str) ax_nil st_Subscript) (he := st_Subscript) (hpl := (pl_of pl_nil))))))) bx_nil)
      (bx_cons (sx_if (txw_tx (txw_and (tx_cmp o_lt (ex_var 3) (ex_callB c_len rfl z_len (by decide +kernel) (ax_cons (ex_ix (o_ix (hU hr (by decide))) (ex_var 0) ex_str) ax_nil st_Subscript) (he := st_Subscript) (hpl := (pl_of pl_nil)))) (txw_and1 (tx_cmp o_ge (ex_callB c_abs rfl z_abs (by decide +kernel) (ax_cons (ex_var 4) ax_nil st_Name) (he := st_Name) (hpl := (pl_of pl_nil))) (ex_bin o_pow ex_int ex_int))))) (bx_cons (sx_dput (hU hr (by decide)) (ex_var 0) ex_str (ex_bin o_fdiv (ex_bin o_sub (ex_callB c_abs rfl z_abs (by decide +kernel) (ax_cons (ex_var 4) ax_nil st_Name) (he := st_Name) (hpl := (pl_of pl_nil))) (ex_bin o_pow ex_int ex_int)) (ex_var 1)))
      (bx_one (sx_ret (ex_bin o_mod (ex_bin o_sub (ex_callB c_abs rfl z_abs (by decide +kernel) (ax_cons (ex_var 4) ax_nil st_Name) (he := st_Name) (hpl := (pl_of pl_nil))) (ex_bin o_pow ex_int ex_int)) (ex_var 1))))) bx_nil)
      (bx_cons (sx_setF 5 nd__law_draw (ex_lst (ax_cons ex_int (ax_cons ex_int (ax_cons ex_int (ax_cons ex_int (ax_cons ex_int ax_nil st_Constant) st_Constant) st_Constant) st_Constant) st_Constant)))
      (bx_cons (sx_setF 6 nd__law_draw (ex_ix (o_ix (hU hr (by decide))) (ex_var 5) (ex_bin o_mod (ex_var 3) ex_int)))
      (bx_cons (sx_setF 7 nd__law_draw (ex_bin o_mod (ex_bin o_add (ex_bin o_add (ex_bin o_mul (ex_bin o_mod (ex_var 4) (ex_var 6)) ex_int) (ex_bin o_mul (ex_bin o_mul ex_int (ex_var 3)) (ex_var 3))) ex_int) (ex_var 6)))
      (bx_cons (sx_setF 7 nd__law_draw (ex_bin o_mod (ex_bin o_mul (ex_var 7) (ex_bin o_add (ex_var 7) ex_int)) (ex_ix (o_ix (hU hr (by decide))) (ex_var 5) (ex_bin o_mod (ex_bin o_add (ex_var 3) ex_int) ex_int))))
      (bx_one (sx_ret (ex_bin o_mod (ex_bin o_fdiv (ex_bin o_mod (ex_bin o_mul (ex_var 7) (ex_var 7)) ex_int) ex_int) (ex_var 1))))))))))))))
/-! _law_due_bases -/
abbrev N__law_due_bases : List Str := ["under", "letter", "one"]
theorem nd__law_due_bases : N__law_due_bases.Nodup := by decide +kernel
theorem sc__law_due_bases : FnScope N__law_due_bases [] (defScope (top 30)) := ⟨rfl, rfl, rfl, by decide +kernel, rfl, by decide +kernel, by decide +kernel⟩
theorem blk__law_due_bases_0 : BlkOk N__law_due_bases (defScope (top 30)) ({ kind := PySem.ScopeKind.function, names := [(PySem.Str.ofString ".0", PySem.NameKind.local), (PySem.Str.ofString "one", PySem.NameKind.cell)], isGenerator := false, isCoroutine := false, more := [] : PySem.Scope } : Scope) [("one", 2)] := L2.blkOk_by (by decide +kernel)
theorem blk__law_due_bases_1 : BlkOk N__law_due_bases ({ kind := PySem.ScopeKind.function, names := [(PySem.Str.ofString ".0", PySem.NameKind.local), (PySem.Str.ofString "one", PySem.NameKind.cell)], isGenerator := false, isCoroutine := false, more := [] : PySem.Scope } : Scope) ({ kind := PySem.ScopeKind.function, names := [ (PySem.Str.ofString ".0", PySem.NameKind.local), (PySem.Str.ofString "letter", PySem.NameKind.local), (PySem.Str.ofString "one", PySem.NameKind.free)], isGenerator := false, isCoroutine := false, more := [] : PySem.Scope } : Scope) [("letter", 1)] := L2.blkOk_by (by decide +kernel)
def b__law_due_bases_2 : Sm := (sRet (mComp [2] (mSeq (mVar 0)) (gFz 2) tmYes (mComp [1] (mSeq (mC (.str "VLKIAOZRT"))) (gFz 1) tmYes (mBin (gIn false) (mVar 1) (mVar 2)))))
def b__law_due_bases : Sm := (bCons (sSetF 0 (mLst (maCons (mC (.str "V")) (maCons (mC (.str "V")) (maCons (mC (.str "V")) (maCons (mC (.str "V")) (maCons (mC (.str "LK")) (maCons (mC (.str "LI")) (maCons (mC (.str "L")) (maCons (mC (.str "AO")) (maCons (mC (.str "AO")) maNil)))))))))))
  b__law_due_bases_2)
def m__law_due_bases : Fm := runF 3 b__law_due_bases
theorem fn__law_due_bases {f : Addr} {fd : FuncData} (F : Fun K "_law_due_bases" "_law_due_bases" (top 30) f fd) : FnG P w K mg base (L2.CX P w) 1 f fd [] (spF K mg 0 m__law_due_bases) :=
  fn_runE (mb := b__law_due_bases) F sc__law_due_bases rfl rfl fun cdv A outer s H Ex hr =>
    (bx_cons (sx_setF 0 nd__law_due_bases (ex_lst (ax_cons ex_str (ax_cons ex_str (ax_cons ex_str (ax_cons ex_str (ax_cons ex_str (ax_cons ex_str (ax_cons ex_str (ax_cons ex_str (ax_cons ex_str ax_nil st_Constant) st_Constant) st_Constant) st_Constant) st_Constant) st_Constant) st_Constant) st_Constant) st_Constant)))
      (bx_one (sx_ret (ex_comp [("one", 2)] rfl nd__law_due_bases blk__law_due_bases_0 (ix_seq (ex_var 0)) (fun _ _ _ _ _ => (tg_name 2 nd__law_due_bases)) (fun _ _ _ _ _ => txs_nil) (fun _ _ _ _ _ => (ex_comp [("letter", 1)] rfl nd__law_due_bases blk__law_due_bases_1 (ix_seq ex_str) (fun _ _ _ _ _ => (tg_name 1 nd__law_due_bases)) (fun _ _ _ _ _ => txs_nil) (fun _ _ _ _ _ => (ex_cmp (o_in (hU hr (by decide))) (ex_var 1) (ex_var 2)))))))))
/-! _law_fields -/
abbrev N__law_fields : List Str := ["made", "some"]
theorem nd__law_fields : N__law_fields.Nodup := by decide +kernel
theorem sc__law_fields : FnScope N__law_fields ["made"] (defScope (top 31)) := ⟨rfl, rfl, rfl, by decide +kernel, rfl, by decide +kernel, by decide +kernel⟩
def b__law_fields_2 : Sm := (sRet (mBin gAdd (mVar 1) (mLst (maCons (mUn (gXf ["NoMore"] "word") (mBin gIx (mVar 0) (mC (.int 6)))) (maCons (mUn (gXf ["TooFar"] "house") (mBin gIx (mVar 0) (mC (.int 7)))) (maCons (mUn (gXf ["TooMany"] "most") (mBin gIx (mVar 0) (mC (.int 8)))) maNil))))))
def b__law_fields : Sm := (bCons (sSetF 1 (mLst (maCons (mUn (gXf ["NoText"] "row") (mBin gIx (mVar 0) (mC (.int 0)))) (maCons (mUn (gXf ["NoStep", "NoWay"] "why") (mBin gIx (mVar 0) (mC (.int 1)))) (maCons (mUn (gXf ["NoWay"] "at") (mBin gIx (mVar 0) (mC (.int 2)))) (maCons (mUn (gXf ["NoStep", "NoWay"] "why") (mBin gIx (mVar 0) (mC (.int 2)))) (maCons (mUn (gXf ["Shunned"] "stand") (mBin gIx (mVar 0) (mC (.int 3)))) (maCons (mUn (gXf ["NoMoment", "NoName"] "asked") (mBin gIx (mVar 0) (mC (.int 4)))) (maCons (mUn (gXf ["NoMoment", "NoName"] "asked") (mBin gIx (mVar 0) (mC (.int 5)))) maNil)))))))))
  b__law_fields_2)
def m__law_fields : Fm := runF 2 b__law_fields
theorem run__law_fields {d0 : D} {S : List D} {Q : Rv → Cf → Prop} (h : wE (b__law_fields ⟨[.fz d0, .un], S⟩) fun fl c => match fl with | .nx => Q (.fz .non) ⟨[], c.S⟩ | .rt r => oE (leaveR c r) fun r' => Q r' ⟨[], c.S⟩ | _ => False) : wE (m__law_fields [d0] S) Q := wE_runF h
theorem runZ__law_fields {d0 : D} {S : List D} {E : Xc → Cf → Prop} {Q : Rv → Cf → Prop} (h : wZ (fun x c => E x ⟨[], c.S⟩) (b__law_fields ⟨[.fz d0, .un], S⟩) fun fl c => match fl with | .nx => Q (.fz .non) ⟨[], c.S⟩ | .rt r => oE (leaveR c r) fun r' => Q r' ⟨[], c.S⟩ | _ => False) : wZ E (m__law_fields [d0] S) Q := wZ_runF h
theorem err__law_fields {d0 : D} {S S1 : List D} {x0 : Xc} (h : wZ (fun x c => x = x0 ∧ c.S = S1) (b__law_fields ⟨[.fz d0, .un], S⟩) fun _ _ => False) : m__law_fields [d0] S = .err x0 ⟨[], S1⟩ := errZ_runF h
theorem eq__law_fields {d0 : D} {S S1 : List D} {r0 : Rv} (h : wE (b__law_fields ⟨[.fz d0, .un], S⟩) fun fl c => match fl with | .nx => Rv.fz .non = r0 ∧ c.S = S1 | .rt r => oE (leaveR c r) fun r' => r' = r0 ∧ c.S = S1 | _ => False) : m__law_fields [d0] S = .ok r0 ⟨[], S1⟩ := eq_runF h
theorem fn__law_fields {f : Addr} {fd : FuncData} (F : Fun K "_law_fields" "_law_fields" (top 31) f fd) (x_asked : FldX K mg ["NoMoment", "NoName"] "asked") (x_at : FldX K mg ["NoWay"] "at") (x_house : FldX K mg ["TooFar"] "house") (x_most : FldX K mg ["TooMany"] "most") (x_row : FldX K mg ["NoText"] "row") (x_stand : FldX K mg ["Shunned"] "stand") (x_why : FldX K mg ["NoStep", "NoWay"] "why") (x_word : FldX K mg ["NoMore"] "word") : FnG P w K mg base (L2.CX P w) 1 f fd ["made"] (spF K mg 1 m__law_fields) :=
  fn_runE (mb := b__law_fields) F sc__law_fields rfl rfl fun cdv A outer s H Ex hr =>
    (bx_cons (sx_setF 1 nd__law_fields (ex_lst (ax_cons (ex_xf x_row (ex_ix (o_ix (hU hr (by decide))) (ex_var 0) ex_int)) (ax_cons (ex_xf x_why (ex_ix (o_ix (hU hr (by decide))) (ex_var 0) ex_int)) (ax_cons (ex_xf x_at (ex_ix (o_ix (hU hr (by decide))) (ex_var 0) ex_int)) (ax_cons (ex_xf x_why (ex_ix (o_ix (hU hr (by decide))) (ex_var 0) ex_int)) (ax_cons (ex_xf x_stand (ex_ix (o_ix (hU hr (by decide))) (ex_var 0) ex_int)) (ax_cons (ex_xf x_asked (ex_ix (o_ix (hU hr (by decide))) (ex_var 0) ex_int)) (ax_cons (ex_xf x_asked (ex_ix (o_ix (hU hr (by decide))) (ex_var 0) ex_int)) ax_nil st_Attribute) st_Attribute) st_Attribute) st_Attribute) st_Attribute) st_Attribute) st_Attribute)))
      (bx_one (sx_ret (ex_bin o_add (ex_var 1) (ex_lst (ax_cons (ex_xf x_word (ex_ix (o_ix (hU hr (by decide))) (ex_var 0) ex_int)) (ax_cons (ex_xf x_house (ex_ix (o_ix (hU hr (by decide))) (ex_var 0) ex_int)) (ax_cons (ex_xf x_most (ex_ix (o_ix (hU hr (by decide))) (ex_var 0) ex_int)) ax_nil st_Attribute) st_Attribute) st_Attribute))))))
/-! _law_kinds -/
abbrev N__law_kinds : List Str := ["e", "some"]
theorem nd__law_kinds : N__law_kinds.Nodup := by decide +kernel
theorem sc__law_kinds : FnScope N__law_kinds ["e"] (defScope (top 28)) := ⟨rfl, rfl, rfl, by decide +kernel, rfl, by decide +kernel, by decide +kernel⟩
def b__law_kinds_3 : Sm := (sRet (mBin gAdd (mVar 1) (mLst (maCons (mUn gI_TooMany (mVar 0)) maNil))))
def b__law_kinds_2 : Sm := (bCons (sSetF 1 (mBin gAdd (mVar 1) (mLst (maCons (mUn gI_NoName (mVar 0)) (maCons (mUn gI_NoMoment (mVar 0)) (maCons (mUn gI_NoMore (mVar 0)) (maCons (mUn gI_TooFar (mVar 0)) maNil)))))))
  b__law_kinds_3)
def b__law_kinds : Sm := (bCons (sSetF 1 (mLst (maCons (mUn gI_NoText (mVar 0)) (maCons (mUn gI_NoStep (mVar 0)) (maCons (mUn gI_NoWay (mVar 0)) (maCons (mUn gI_Shunned (mVar 0)) maNil))))))
  b__law_kinds_2)
def m__law_kinds : Fm := runF 2 b__law_kinds
theorem run__law_kinds {d0 : D} {S : List D} {Q : Rv → Cf → Prop} (h : wE (b__law_kinds ⟨[.fz d0, .un], S⟩) fun fl c => match fl with | .nx => Q (.fz .non) ⟨[], c.S⟩ | .rt r => oE (leaveR c r) fun r' => Q r' ⟨[], c.S⟩ | _ => False) : wE (m__law_kinds [d0] S) Q := wE_runF h
theorem runZ__law_kinds {d0 : D} {S : List D} {E : Xc → Cf → Prop} {Q : Rv → Cf → Prop} (h : wZ (fun x c => E x ⟨[], c.S⟩) (b__law_kinds ⟨[.fz d0, .un], S⟩) fun fl c => match fl with | .nx => Q (.fz .non) ⟨[], c.S⟩ | .rt r => oE (leaveR c r) fun r' => Q r' ⟨[], c.S⟩ | _ => False) : wZ E (m__law_kinds [d0] S) Q := wZ_runF h
theorem err__law_kinds {d0 : D} {S S1 : List D} {x0 : Xc} (h : wZ (fun x c => x = x0 ∧ c.S = S1) (b__law_kinds ⟨[.fz d0, .un], S⟩) fun _ _ => False) : m__law_kinds [d0] S = .err x0 ⟨[], S1⟩ := errZ_runF h
theorem eq__law_kinds {d0 : D} {S S1 : List D} {r0 : Rv} (h : wE (b__law_kinds ⟨[.fz d0, .un], S⟩) fun fl c => match fl with | .nx => Rv.fz .non = r0 ∧ c.S = S1 | .rt r => oE (leaveR c r) fun r' => r' = r0 ∧ c.S = S1 | _ => False) : m__law_kinds [d0] S = .ok r0 ⟨[], S1⟩ := eq_runF h
theorem fn__law_kinds {f : Addr} {fd : FuncData} (F : Fun K "_law_kinds" "_law_kinds" (top 28) f fd) (z_isinstance : mg "isinstance" = none) (i_NoMoment : KT1 K mg "NoMoment" [("NoMoment", true), ("NoMore", false), ("NoName", false), ("NoStep", false), ("NoText", false), ("NoWay", false), ("Shunned", false), ("TooFar", false), ("TooMany", false)] [] [("NoneType", false)]) (i_NoMore : KT1 K mg "NoMore" [("NoMoment", false), ("NoMore", true), ("NoName", false), ("NoStep", false), ("NoText", false), ("NoWay", false), ("Shunned", false), ("TooFar", false), ("TooMany", false)] [] [("NoneType", false)]) (i_NoName : KT1 K mg "NoName" [("NoMoment", false), ("NoMore", false), ("NoName", true), ("NoStep", false), ("NoText", false), ("NoWay", false), ("Shunned", false), ("TooFar", false), ("TooMany", false)] [] [("NoneType", false)]) (i_NoStep : KT1 K mg "NoStep" [("NoMoment", false), ("NoMore", false), ("NoName", false), ("NoStep", true), ("NoText", false), ("NoWay", false), ("Shunned", false), ("TooFar", false), ("TooMany", false)] [] [("NoneType", false)]) (i_NoText : KT1 K mg "NoText" [("NoMoment", false), ("NoMore", false), ("NoName", false), ("NoStep", false), ("NoText", true), ("NoWay", false), ("Shunned", false), ("TooFar", false), ("TooMany", false)] [] [("NoneType", false)]) (i_NoWay : KT1 K mg "NoWay" [("NoMoment", false), ("NoMore", false), ("NoName", false), ("NoStep", false), ("NoText", false), ("NoWay", true), ("Shunned", false), ("TooFar", false), ("TooMany", false)] [] [("NoneType", false)]) (i_Shunned : KT1 K mg "Shunned" [("NoMoment", false), ("NoMore", false), ("NoName", false), ("NoStep", false), ("NoText", false), ("NoWay", false), ("Shunned", true), ("TooFar", false), ("TooMany", false)] [] [("NoneType", false)]) (i_TooFar : KT1 K mg "TooFar" [("NoMoment", false), ("NoMore", false), ("NoName", false), ("NoStep", false), ("NoText", false), ("NoWay", false), ("Shunned", false), ("TooFar", true), ("TooMany", false)] [] [("NoneType", false)]) (i_TooMany : KT1 K mg "TooMany" [("NoMoment", false), ("NoMore", false), ("NoName", false), ("NoStep", false), ("NoText", false), ("NoWay", false), ("Shunned", false), ("TooFar", false), ("TooMany", true)] [] [("NoneType", false)]) : FnG P w K mg base (L2.CX P w) 1 f fd ["e"] (spF K mg 1 m__law_kinds) :=
  fn_runE (mb := b__law_kinds) F sc__law_kinds rfl rfl fun cdv A outer s H Ex hr =>
    (bx_cons (sx_setF 1 nd__law_kinds (ex_lst (ax_cons (ex_isK z_isinstance i_NoText (ex_var 0)) (ax_cons (ex_isK z_isinstance i_NoStep (ex_var 0)) (ax_cons (ex_isK z_isinstance i_NoWay (ex_var 0)) (ax_cons (ex_isK z_isinstance i_Shunned (ex_var 0)) ax_nil st_Call) st_Call) st_Call) st_Call)))
      (bx_cons (sx_setF 1 nd__law_kinds (ex_bin o_add (ex_var 1) (ex_lst (ax_cons (ex_isK z_isinstance i_NoName (ex_var 0)) (ax_cons (ex_isK z_isinstance i_NoMoment (ex_var 0)) (ax_cons (ex_isK z_isinstance i_NoMore (ex_var 0)) (ax_cons (ex_isK z_isinstance i_TooFar (ex_var 0)) ax_nil st_Call) st_Call) st_Call) st_Call))))
      (bx_one (sx_ret (ex_bin o_add (ex_var 1) (ex_lst (ax_cons (ex_isK z_isinstance i_TooMany (ex_var 0)) ax_nil st_Call)))))))
/-! _law_made_errors -/
abbrev N__law_made_errors : List Str := ["a", "b", "by_names", "some"]
theorem nd__law_made_errors : N__law_made_errors.Nodup := by decide +kernel
theorem sc__law_made_errors : FnScope N__law_made_errors ["a", "b", "by_names"] (defScope (top 27)) := ⟨rfl, rfl, rfl, by decide +kernel, rfl, by decide +kernel, by decide +kernel⟩
def b__law_made_errors_3 : Sm := (sRet (mBin gAdd (mVar 3) (mLst (maCons (mExcK "NoMore" ["word"] ["word"] (maCons (mVar 0) maNil)) (maCons (mExcK "TooFar" ["house"] ["house"] (maCons (mVar 0) maNil)) (maCons (mExcK "TooMany" ["most"] ["most"] (maCons (mVar 0) maNil)) maNil))))))
def b__law_made_errors_2 : Sm := (bCons (sSetF 3 (mLst (maCons (mExcK "NoText" ["row"] ["row"] (maCons (mVar 0) maNil)) (maCons (mExcK "NoStep" ["why"] ["why"] (maCons (mVar 0) maNil)) (maCons (mExcK "NoWay" ["at", "why"] ["why", "at"] (maCons (mVar 1) (maCons (mVar 0) maNil))) (maCons (mExcK "Shunned" ["stand"] ["stand"] (maCons (mVar 0) maNil)) (maCons (mExcK "NoName" ["asked"] ["asked"] (maCons (mVar 0) maNil)) (maCons (mExcK "NoMoment" ["asked"] ["asked"] (maCons (mVar 0) maNil)) maNil))))))))
  b__law_made_errors_3)
def b__law_made_errors_4 : Sm := (sRet (mLst (maCons (mExc "NoText" ["row"] (maCons (mVar 0) maNil)) (maCons (mExc "NoStep" ["why"] (maCons (mVar 0) maNil)) (maCons (mExc "NoWay" ["at", "why"] (maCons (mVar 0) (maCons (mVar 1) maNil))) (maCons (mExc "Shunned" ["stand"] (maCons (mVar 0) maNil)) (maCons (mExc "NoName" ["asked"] (maCons (mVar 0) maNil)) (maCons (mExc "NoMoment" ["asked"] (maCons (mVar 0) maNil)) (maCons (mExc "NoMore" ["word"] (maCons (mVar 0) maNil)) (maCons (mExc "TooFar" ["house"] (maCons (mVar 0) maNil)) (maCons (mExc "TooMany" ["most"] (maCons (mVar 0) maNil)) maNil)))))))))))
def b__law_made_errors : Sm := (bCons (sIf (mTruth (mVar 2)) b__law_made_errors_2 bNil)
  b__law_made_errors_4)
def m__law_made_errors : Fm := runF 4 b__law_made_errors
theorem run__law_made_errors {d0 d1 d2 : D} {S : List D} {Q : Rv → Cf → Prop} (h : wE (b__law_made_errors ⟨[.fz d0, .fz d1, .fz d2, .un], S⟩) fun fl c => match fl with | .nx => Q (.fz .non) ⟨[], c.S⟩ | .rt r => oE (leaveR c r) fun r' => Q r' ⟨[], c.S⟩ | _ => False) : wE (m__law_made_errors [d0, d1, d2] S) Q := wE_runF h
theorem runZ__law_made_errors {d0 d1 d2 : D} {S : List D} {E : Xc → Cf → Prop} {Q : Rv → Cf → Prop} (h : wZ (fun x c => E x ⟨[], c.S⟩) (b__law_made_errors ⟨[.fz d0, .fz d1, .fz d2, .un], S⟩) fun fl c => match fl with | .nx => Q (.fz .non) ⟨[], c.S⟩ | .rt r => oE (leaveR c r) fun r' => Q r' ⟨[], c.S⟩ | _ => False) : wZ E (m__law_made_errors [d0, d1, d2] S) Q := wZ_runF h
theorem err__law_made_errors {d0 d1 d2 : D} {S S1 : List D} {x0 : Xc} (h : wZ (fun x c => x = x0 ∧ c.S = S1) (b__law_made_errors ⟨[.fz d0, .fz d1, .fz d2, .un], S⟩) fun _ _ => False) : m__law_made_errors [d0, d1, d2] S = .err x0 ⟨[], S1⟩ := errZ_runF h
theorem eq__law_made_errors {d0 d1 d2 : D} {S S1 : List D} {r0 : Rv} (h : wE (b__law_made_errors ⟨[.fz d0, .fz d1, .fz d2, .un], S⟩) fun fl c => match fl with | .nx => Rv.fz .non = r0 ∧ c.S = S1 | .rt r => oE (leaveR c r) fun r' => r' = r0 ∧ c.S = S1 | _ => False) : m__law_made_errors [d0, d1, d2] S = .ok r0 ⟨[], S1⟩ := eq_runF h
theorem fn__law_made_errors {f : Addr} {fd : FuncData} (F : Fun K "_law_made_errors" "_law_made_errors" (top 27) f fd) (r_NoMoment : FnX P w K mg base "NoMoment" ["asked"]) (r_NoMore : FnX P w K mg base "NoMore" ["word"]) (r_NoName : FnX P w K mg base "NoName" ["asked"]) (r_NoStep : FnX P w K mg base "NoStep" ["why"]) (r_NoText : FnX P w K mg base "NoText" ["row"]) (r_NoWay : FnX P w K mg base "NoWay" ["at", "why"]) (r_Shunned : FnX P w K mg base "Shunned" ["stand"]) (r_TooFar : FnX P w K mg base "TooFar" ["house"]) (r_TooMany : FnX P w K mg base "TooMany" ["most"]) (rk_NoMoment_asked : FnXK P w K mg base "NoMoment" ["asked"] ["asked"]) (rk_NoMore_word : FnXK P w K mg base "NoMore" ["word"] ["word"]) (rk_NoName_asked : FnXK P w K mg base "NoName" ["asked"] ["asked"]) (rk_NoStep_why : FnXK P w K mg base "NoStep" ["why"] ["why"]) (rk_NoText_row : FnXK P w K mg base "NoText" ["row"] ["row"]) (rk_NoWay_why_at : FnXK P w K mg base "NoWay" ["at", "why"] ["why", "at"]) (rk_Shunned_stand : FnXK P w K mg base "Shunned" ["stand"] ["stand"]) (rk_TooFar_house : FnXK P w K mg base "TooFar" ["house"] ["house"]) (rk_TooMany_most : FnXK P w K mg base "TooMany" ["most"] ["most"]) : FnG P w K mg base (L2.CX P w) 3 f fd ["a", "b", "by_names"] (spF K mg 3 m__law_made_errors) :=
  fn_runE (mb := b__law_made_errors) F sc__law_made_errors rfl rfl fun cdv A outer s H Ex hr =>
    (bx_cons (sx_if (tx_any (ex_var 2)) (bx_cons (sx_setF 3 nd__law_made_errors (ex_lst (ax_cons (ex_excK rk_NoText_row (hr.mono (by decide)) (kx_cons (ex_var 0) kx_nil)) (ax_cons (ex_excK rk_NoStep_why (hr.mono (by decide)) (kx_cons (ex_var 0) kx_nil)) (ax_cons (ex_excK rk_NoWay_why_at (hr.mono (by decide)) (kx_cons (ex_var 1) (kx_cons (ex_var 0) kx_nil))) (ax_cons (ex_excK rk_Shunned_stand (hr.mono (by decide)) (kx_cons (ex_var 0) kx_nil)) (ax_cons (ex_excK rk_NoName_asked (hr.mono (by decide)) (kx_cons (ex_var 0) kx_nil)) (ax_cons (ex_excK rk_NoMoment_asked (hr.mono (by decide)) (kx_cons (ex_var 0) kx_nil)) ax_nil st_Call) st_Call) st_Call) st_Call) st_Call) st_Call)))
      (bx_one (sx_ret (ex_bin o_add (ex_var 3) (ex_lst (ax_cons (ex_excK rk_NoMore_word (hr.mono (by decide)) (kx_cons (ex_var 0) kx_nil)) (ax_cons (ex_excK rk_TooFar_house (hr.mono (by decide)) (kx_cons (ex_var 0) kx_nil)) (ax_cons (ex_excK rk_TooMany_most (hr.mono (by decide)) (kx_cons (ex_var 0) kx_nil)) ax_nil st_Call) st_Call) st_Call)))))) bx_nil)
      (bx_one (sx_ret (ex_lst (ax_cons (ex_exc r_NoText (hr.mono (by decide)) (by decide) (ax_cons (ex_var 0) ax_nil st_Name) (he := st_Name) (hpl := (pl_of pl_nil))) (ax_cons (ex_exc r_NoStep (hr.mono (by decide)) (by decide) (ax_cons (ex_var 0) ax_nil st_Name) (he := st_Name) (hpl := (pl_of pl_nil))) (ax_cons (ex_exc r_NoWay (hr.mono (by decide)) (by decide) (ax_cons (ex_var 0) (ax_cons (ex_var 1) ax_nil st_Name) st_Name) (he := st_Name) (hpl := (pl_of (pl_Name pl_nil)))) (ax_cons (ex_exc r_Shunned (hr.mono (by decide)) (by decide) (ax_cons (ex_var 0) ax_nil st_Name) (he := st_Name) (hpl := (pl_of pl_nil))) (ax_cons (ex_exc r_NoName (hr.mono (by decide)) (by decide) (ax_cons (ex_var 0) ax_nil st_Name) (he := st_Name) (hpl := (pl_of pl_nil))) (ax_cons (ex_exc r_NoMoment (hr.mono (by decide)) (by decide) (ax_cons (ex_var 0) ax_nil st_Name) (he := st_Name) (hpl := (pl_of pl_nil))) (ax_cons (ex_exc r_NoMore (hr.mono (by decide)) (by decide) (ax_cons (ex_var 0) ax_nil st_Name) (he := st_Name) (hpl := (pl_of pl_nil))) (ax_cons (ex_exc r_TooFar (hr.mono (by decide)) (by decide) (ax_cons (ex_var 0) ax_nil st_Name) (he := st_Name) (hpl := (pl_of pl_nil))) (ax_cons (ex_exc r_TooMany (hr.mono (by decide)) (by decide) (ax_cons (ex_var 0) ax_nil st_Name) (he := st_Name) (hpl := (pl_of pl_nil))) ax_nil st_Call) st_Call) st_Call) st_Call) st_Call) st_Call) st_Call) st_Call) st_Call)))))
/-! _law_pen -/
abbrev N__law_pen : List Str := ["script"]
theorem nd__law_pen : N__law_pen.Nodup := by decide +kernel
theorem sc__law_pen : FnScope N__law_pen ["script"] (defScope (top 24)) := ⟨rfl, rfl, rfl, by decide +kernel, rfl, by decide +kernel, by decide +kernel⟩
def b__law_pen : Sm := (sRet (mDisp [(.inr "cells", (mCB (g1 gList) (maCons (mSl (mVar 0) pNo (pSome (mC (.int 63)))) maNil))), (.inr "turn", (mC (.int 0))), (.inr "rest", (mC (.int 0)))]))
def m__law_pen : Fm := runF 1 b__law_pen
theorem run__law_pen {d0 : D} {S : List D} {Q : Rv → Cf → Prop} (h : wE (b__law_pen ⟨[.fz d0], S⟩) fun fl c => match fl with | .nx => Q (.fz .non) ⟨[], c.S⟩ | .rt r => oE (leaveR c r) fun r' => Q r' ⟨[], c.S⟩ | _ => False) : wE (m__law_pen [d0] S) Q := wE_runF h
theorem runZ__law_pen {d0 : D} {S : List D} {E : Xc → Cf → Prop} {Q : Rv → Cf → Prop} (h : wZ (fun x c => E x ⟨[], c.S⟩) (b__law_pen ⟨[.fz d0], S⟩) fun fl c => match fl with | .nx => Q (.fz .non) ⟨[], c.S⟩ | .rt r => oE (leaveR c r) fun r' => Q r' ⟨[], c.S⟩ | _ => False) : wZ E (m__law_pen [d0] S) Q := wZ_runF h
theorem err__law_pen {d0 : D} {S S1 : List D} {x0 : Xc} (h : wZ (fun x c => x = x0 ∧ c.S = S1) (b__law_pen ⟨[.fz d0], S⟩) fun _ _ => False) : m__law_pen [d0] S = .err x0 ⟨[], S1⟩ := errZ_runF h
theorem eq__law_pen {d0 : D} {S S1 : List D} {r0 : Rv} (h : wE (b__law_pen ⟨[.fz d0], S⟩) fun fl c => match fl with | .nx => Rv.fz .non = r0 ∧ c.S = S1 | .rt r => oE (leaveR c r) fun r' => r' = r0 ∧ c.S = S1 | _ => False) : m__law_pen [d0] S = .ok r0 ⟨[], S1⟩ := eq_runF h
theorem fn__law_pen {f : Addr} {fd : FuncData} (F : Fun K "_law_pen" "_law_pen" (top 24) f fd) (z_list : mg "list" = none) : FnG P w K mg base (L2.CX P w) 1 f fd ["script"] (spF K mg 1 m__law_pen) :=
  fn_runE (mb := b__law_pen) F sc__law_pen rfl rfl fun cdv A outer s H Ex hr =>
    (bx_one (sx_ret (ex_disp (PrL.str (ex_callTy c_list rfl z_list (by decide +kernel) (ax_cons (ex_slice (ex_var 0) px_none (px_some ex_int)) ax_nil st_Subscript) (he := st_Subscript) (hpl := (pl_of pl_nil))) (PrL.str ex_int (PrL.str ex_int PrL.nil))))))
/-! _law_pick -/
abbrev N__law_pick : List Str := ["pen", "some"]
theorem nd__law_pick : N__law_pick.Nodup := by decide +kernel
theorem sc__law_pick : FnScope N__law_pick ["pen", "some"] (defScope (top 26)) := ⟨rfl, rfl, rfl, by decide +kernel, rfl, by decide +kernel, by decide +kernel⟩
def b__law_pick : Sm := (sRet (mBin gIx (mVar 1) (mCall 2 m__law_draw (maCons (mVar 0) (maCons (mCB (g1 gLen) (maCons (mVar 1) maNil)) maNil)))))
def m__law_pick : Fm := runF 2 b__law_pick
theorem run__law_pick {d0 d1 : D} {S : List D} {Q : Rv → Cf → Prop} (h : wE (b__law_pick ⟨[.fz d0, .fz d1], S⟩) fun fl c => match fl with | .nx => Q (.fz .non) ⟨[], c.S⟩ | .rt r => oE (leaveR c r) fun r' => Q r' ⟨[], c.S⟩ | _ => False) : wE (m__law_pick [d0, d1] S) Q := wE_runF h
theorem runZ__law_pick {d0 d1 : D} {S : List D} {E : Xc → Cf → Prop} {Q : Rv → Cf → Prop} (h : wZ (fun x c => E x ⟨[], c.S⟩) (b__law_pick ⟨[.fz d0, .fz d1], S⟩) fun fl c => match fl with | .nx => Q (.fz .non) ⟨[], c.S⟩ | .rt r => oE (leaveR c r) fun r' => Q r' ⟨[], c.S⟩ | _ => False) : wZ E (m__law_pick [d0, d1] S) Q := wZ_runF h
theorem err__law_pick {d0 d1 : D} {S S1 : List D} {x0 : Xc} (h : wZ (fun x c => x = x0 ∧ c.S = S1) (b__law_pick ⟨[.fz d0, .fz d1], S⟩) fun _ _ => False) : m__law_pick [d0, d1] S = .err x0 ⟨[], S1⟩ := errZ_runF h
theorem eq__law_pick {d0 d1 : D} {S S1 : List D} {r0 : Rv} (h : wE (b__law_pick ⟨[.fz d0, .fz d1], S⟩) fun fl c => match fl with | .nx => Rv.fz .non = r0 ∧ c.S = S1 | .rt r => oE (leaveR c r) fun r' => r' = r0 ∧ c.S = S1 | _ => False) : m__law_pick [d0, d1] S = .ok r0 ⟨[], S1⟩ := eq_runF h
theorem fn__law_pick {f : Addr} {fd : FuncData} (F : Fun K "_law_pick" "_law_pick" (top 26) f fd) (z_len : mg "len" = none) (f__law_draw : Fn P w K mg base "_law_draw" 1 2 m__law_draw) : FnG P w K mg base (L2.CX P w) 2 f fd ["pen", "some"] (spF K mg 2 m__law_pick) :=
  fn_runE (mb := b__law_pick) F sc__law_pick rfl rfl fun cdv A outer s H Ex hr =>
    (bx_one (sx_ret (ex_ix (o_ix (hU hr (by decide))) (ex_var 1) (ex_call f__law_draw (hr.mono (by decide)) (ax_cons (ex_var 0) (ax_cons (ex_callB c_len rfl z_len (by decide +kernel) (ax_cons (ex_var 1) ax_nil st_Name) (he := st_Name) (hpl := (pl_of pl_nil))) ax_nil st_Call) st_Name) (he := st_Name) (hpl := (pl_of (pl_Call pl_nil)))))))
/-! law -/
abbrev N_law : List Str := ["script", "pen", "told", "bout", "some", "a", "b", "made", "k", "j", "e"]
theorem nd_law : N_law.Nodup := by decide +kernel
theorem sc_law : FnScope N_law ["script"] (defScope (top 32)) := ⟨rfl, rfl, rfl, by decide +kernel, rfl, by decide +kernel, by decide +kernel⟩
theorem blk_law_0 : BlkOk N_law (defScope (top 32)) ({ kind := PySem.ScopeKind.function, names := [ (PySem.Str.ofString ".0", PySem.NameKind.local), (PySem.Str.ofString "j", PySem.NameKind.local), (PySem.Str.ofString "k", PySem.NameKind.free)], isGenerator := false, isCoroutine := false, more := [] : PySem.Scope } : Scope) [("j", 9)] := L2.blkOk_by (by decide +kernel)
theorem blk_law_1 : BlkOk N_law (defScope (top 32)) ({ kind := PySem.ScopeKind.function, names := [ (PySem.Str.ofString ".0", PySem.NameKind.local), (PySem.Str.ofString "e", PySem.NameKind.local), (PySem.Str.ofString "_law_bases", PySem.NameKind.globalImplicit)], isGenerator := false, isCoroutine := false, more := [] : PySem.Scope } : Scope) [("e", 10)] := L2.blkOk_by (by decide +kernel)
def b_law_12 : Sm := (sIf (mBool (mBin gNe (mCall 1 m__law_kinds (maCons (mBin gIx (mVar 7) (mVar 8)) maNil)) (mComp [9] (mRng1 (maCons (mC (.int 9)) maNil)) (gFz 9) tmYes (mBin gEq (mVar 8) (mVar 9))))) (sRet (mC (.bl false))) bNil)
def b_law_16 : Sm := (sIf (mBool (mBin gNe (mCB (g1 gReprK) (maCons (mCall 1 m__law_fields (maCons (mVar 7) maNil)) maNil)) (mCB (g1 gReprK) (maCons (mBin gAdd (mLst (maCons (mVar 5) (maCons (mVar 5) (maCons (mVar 5) (maCons (mVar 6) maNil))))) (mBin gMul (mLst (maCons (mVar 5) maNil)) (mC (.int 6)))) maNil)))) (sRet (mC (.bl false))) bNil)
def b_law_14 : Sm := (bCons (sIf (mBool (mBin gNe (mComp [10] (mSeq (mVar 7)) (gFz 10) tmYes (mCall 1 m__law_bases (maCons (mVar 10) maNil))) (mCall 0 m__law_due_bases maNil))) (sRet (mC (.bl false))) bNil)
  b_law_16)
def b_law_11 : Sm := (bCons (sFor (mRng1 (maCons (mCB (g1 gLen) (maCons (mVar 7) maNil)) maNil)) (gFz 8) b_law_12)
  b_law_14)
def b_law_10 : Sm := (bCons (sSetF 7 (mCall 3 m__law_made_errors (maCons (mVar 5) (maCons (mVar 6) (maCons (mBin gEq (mCall 2 m__law_draw (maCons (mVar 1) (maCons (mC (.int 2)) maNil))) (mC (.int 0))) maNil)))))
  b_law_11)
def b_law_9 : Sm := (bCons (sFrz [5, 6] (sPend [5, 6] [(mCall 2 m__law_pick (maCons (mVar 1) (maCons (mVar 4) maNil))), (mCall 2 m__law_pick (maCons (mVar 1) (maCons (mVar 4) maNil)))]))
  b_law_10)
def b_law_8 : Sm := (bCons (sSetF 4 (mLst (maCons (mBin gSub (mCall 2 m__law_draw (maCons (mVar 1) (maCons (mBin gPow (mC (.int 10)) (mC (.int 9))) maNil))) (mC (.int 5))) (maCons (mCall 2 m__law_pick (maCons (mVar 1) (maCons (mLst (maCons (mC (.str "")) (maCons (mC (.str "form")) (maCons (mC (.str "a b")) maNil)))) maNil))) (maCons (mTup maNil) (maCons (mTup (maCons (mC (.str "go")) (maCons (mC (.str "a")) maNil))) (maCons (mLst (maCons (mC (.int 1)) (maCons (mLst (maCons (mC (.int 2)) maNil)) maNil))) (maCons (mC .non) (maCons mDct maNil)))))))))
  b_law_9)
def b_law_18 : Sm := (sRet (mC (.bl true)))
def b_law_7 : Sm := (bCons (sFor (mRng1 (maCons (mBin gAdd (mC (.int 3)) (mCB (g2 gMin2) (maCons (mC (.int 4)) (maCons (mCB (g1 gLen) (maCons (mVar 0) maNil)) maNil)))) maNil)) (gFz 3) b_law_8)
  b_law_18)
def b_law_5 : Sm := (bCons (sIf (mBool (mBin gNe (mLst (maCons (mC (.int 6)) (maCons (mC (.int 2000)) (maCons (mC (.int 999)) (maCons (mC (.int 60)) maNil))))) (mLst (maCons (mC (.int 6)) (maCons (mC (.int 2000)) (maCons (mC (.int 999)) (maCons (mC (.int 60)) maNil))))))) (sRet (mC (.bl false))) bNil)
  b_law_7)
def b_law_3 : Sm := (bCons (sIf (mBool (mBin gNe (mVar 2) (mLst (maCons (mC (.int 6)) (maCons (mC (.int 12)) (maCons (mC (.int 99)) (maCons (mC (.int 8)) (maCons (mC (.int 50)) (maCons (mC (.int 60)) (maCons (mC (.int 2000)) (maCons (mBin gPow (mC (.int 10)) (mC (.int 60))) (maCons (mC (.int 999)) maNil)))))))))))) (sRet (mC (.bl false))) bNil)
  b_law_5)
def b_law_2 : Sm := (bCons (sSetF 2 (mLst (maCons (mC (.int 6)) (maCons (mC (.int 12)) (maCons (mC (.int 99)) (maCons (mC (.int 8)) (maCons (mC (.int 50)) (maCons (mC (.int 60)) (maCons (mC (.int 2000)) (maCons (mC (.int 1000000000000000000000000000000000000000000000000000000000000)) (maCons (mC (.int 999)) maNil)))))))))))
  b_law_3)
def b_law : Sm := (bCons (sSetH 1 (mCall 1 m__law_pen (maCons (mVar 0) maNil)))
  b_law_2)
def m_law : Fm := runF 11 b_law
theorem run_law {d0 : D} {S : List D} {Q : Rv → Cf → Prop} (h : wE (b_law ⟨[.fz d0, .un, .un, .un, .un, .un, .un, .un, .un, .un, .un], S⟩) fun fl c => match fl with | .nx => Q (.fz .non) ⟨[], c.S⟩ | .rt r => oE (leaveR c r) fun r' => Q r' ⟨[], c.S⟩ | _ => False) : wE (m_law [d0] S) Q := wE_runF h
theorem runZ_law {d0 : D} {S : List D} {E : Xc → Cf → Prop} {Q : Rv → Cf → Prop} (h : wZ (fun x c => E x ⟨[], c.S⟩) (b_law ⟨[.fz d0, .un, .un, .un, .un, .un, .un, .un, .un, .un, .un], S⟩) fun fl c => match fl with | .nx => Q (.fz .non) ⟨[], c.S⟩ | .rt r => oE (leaveR c r) fun r' => Q r' ⟨[], c.S⟩ | _ => False) : wZ E (m_law [d0] S) Q := wZ_runF h
theorem err_law {d0 : D} {S S1 : List D} {x0 : Xc} (h : wZ (fun x c => x = x0 ∧ c.S = S1) (b_law ⟨[.fz d0, .un, .un, .un, .un, .un, .un, .un, .un, .un, .un], S⟩) fun _ _ => False) : m_law [d0] S = .err x0 ⟨[], S1⟩ := errZ_runF h
theorem eq_law {d0 : D} {S S1 : List D} {r0 : Rv} (h : wE (b_law ⟨[.fz d0, .un, .un, .un, .un, .un, .un, .un, .un, .un, .un], S⟩) fun fl c => match fl with | .nx => Rv.fz .non = r0 ∧ c.S = S1 | .rt r => oE (leaveR c r) fun r' => r' = r0 ∧ c.S = S1 | _ => False) : m_law [d0] S = .ok r0 ⟨[], S1⟩ := eq_runF h
theorem fn_law {f : Addr} {fd : FuncData} (F : Fun K "law" "law" (top 32) f fd) (sy : SysIn base) (z_len : mg "len" = none) (z_min : mg "min" = none) (z_range : mg "range" = none) (z_repr : mg "repr" = none) (g_FAR_FENCE : ∃ t, mg "FAR_FENCE" = some (.int 999 t)) (g_FAR_FIRST : ∃ t, mg "FAR_FIRST" = some (.int 50 t)) (g_FAR_STAND : ∃ t, mg "FAR_STAND" = some (.int 60 t)) (g_MOST_DOORS : ∃ t, mg "MOST_DOORS" = some (.int 12 t)) (g_MOST_LOTS : ∃ t, mg "MOST_LOTS" = some (.int 6 t)) (g_MOST_ODD : ∃ t, mg "MOST_ODD" = some (.int 8 t)) (g_MOST_PRICE : ∃ t, mg "MOST_PRICE" = some (.int 99 t)) (g_MOST_ROOMS : ∃ t, mg "MOST_ROOMS" = some (.int 6 t)) (g_MOST_ROUND : ∃ t, mg "MOST_ROUND" = some (.int 60 t)) (g_MOST_ROWS : ∃ t, mg "MOST_ROWS" = some (.int 2000 t)) (g_MOST_SPOTS : ∃ t, mg "MOST_SPOTS" = some (.int 2000 t)) (g_MOST_STRETCH : ∃ t, mg "MOST_STRETCH" = some (.int 999 t)) (g_MOST_TIMES : ∃ t, mg "MOST_TIMES" = some (.int 1000000000000000000000000000000000000000000000000000000000000 t)) (f__law_bases : Fn P w K mg base "_law_bases" 1 1 m__law_bases) (f__law_draw : Fn P w K mg base "_law_draw" 1 2 m__law_draw) (f__law_due_bases : Fn P w K mg base "_law_due_bases" 1 0 m__law_due_bases) (f__law_fields : Fn P w K mg base "_law_fields" 1 1 m__law_fields) (f__law_kinds : Fn P w K mg base "_law_kinds" 1 1 m__law_kinds) (f__law_made_errors : Fn P w K mg base "_law_made_errors" 3 3 m__law_made_errors) (f__law_pen : Fn P w K mg base "_law_pen" 1 1 m__law_pen) (f__law_pick : Fn P w K mg base "_law_pick" 2 2 m__law_pick) : FnG P w K mg base (L2.CX P w) 4 f fd ["script"] (spF K mg 1 m_law) :=
  fn_runE (mb := b_law) F sc_law rfl rfl fun cdv A outer s H Ex hr =>
    (bx_cons (sx_setH 1 nd_law (ex_call f__law_pen (hr.mono (by decide)) (ax_cons (ex_var 0) ax_nil st_Name) (he := st_Name) (hpl := (pl_of pl_nil))))
      (bx_cons (sx_setF 2 nd_law (ex_lst (ax_cons (ex_kint g_MOST_ROOMS) (ax_cons (ex_kint g_MOST_DOORS) (ax_cons (ex_kint g_MOST_PRICE) (ax_cons (ex_kint g_MOST_ODD) (ax_cons (ex_kint g_FAR_FIRST) (ax_cons (ex_kint g_FAR_STAND) (ax_cons (ex_kint g_MOST_ROWS) (ax_cons (ex_kint g_MOST_TIMES) (ax_cons (ex_kint g_FAR_FENCE) ax_nil st_Name) st_Name) st_Name) st_Name) st_Name) st_Name) st_Name) st_Name) st_Name)))
      (bx_cons (sx_if (tx_cmp (o_ne (hU hr (by decide))) (ex_var 2) (ex_lst (ax_cons ex_int (ax_cons ex_int (ax_cons ex_int (ax_cons ex_int (ax_cons ex_int (ax_cons ex_int (ax_cons ex_int (ax_cons (ex_bin o_pow ex_int ex_int) (ax_cons ex_int ax_nil st_Constant) st_BinOp) st_Constant) st_Constant) st_Constant) st_Constant) st_Constant) st_Constant) st_Constant))) (bx_one (sx_ret ex_bl)) bx_nil)
      (bx_cons (sx_if (tx_cmp (o_ne (hU hr (by decide))) (ex_lst (ax_cons (ex_kint g_MOST_LOTS) (ax_cons (ex_kint g_MOST_SPOTS) (ax_cons (ex_kint g_MOST_STRETCH) (ax_cons (ex_kint g_MOST_ROUND) ax_nil st_Name) st_Name) st_Name) st_Name)) (ex_lst (ax_cons ex_int (ax_cons ex_int (ax_cons ex_int (ax_cons ex_int ax_nil st_Constant) st_Constant) st_Constant) st_Constant))) (bx_one (sx_ret ex_bl)) bx_nil)
      (bx_cons (sx_for PassesOwn.leaving rfl (ix_range1 z_range (ax_cons (ex_bin o_add ex_int (ex_callB (c_min2 rfl) rfl z_min (by decide +kernel) (ax_cons ex_int (ax_cons (ex_callB c_len rfl z_len (by decide +kernel) (ax_cons (ex_var 0) ax_nil st_Name) (he := st_Name) (hpl := (pl_of pl_nil))) ax_nil st_Call) st_Constant) (he := st_Constant) (hpl := (pl_of (pl_Call pl_nil))))) ax_nil st_BinOp)) (tg_name 3 nd_law) (bx_cons (sx_setF 4 nd_law (ex_lst (ax_cons (ex_bin o_sub (ex_call f__law_draw (hr.mono (by decide)) (ax_cons (ex_var 1) (ax_cons (ex_bin o_pow ex_int ex_int) ax_nil st_BinOp) st_Name) (he := st_Name) (hpl := (pl_of (pl_BinOp pl_nil)))) ex_int) (ax_cons (ex_call f__law_pick (hr.mono (by decide)) (ax_cons (ex_var 1) (ax_cons (ex_lst (ax_cons ex_str (ax_cons ex_str (ax_cons ex_str ax_nil st_Constant) st_Constant) st_Constant)) ax_nil st_List) st_Name) (he := st_Name) (hpl := (pl_of (pl_List pl_nil)))) (ax_cons (ex_tup ax_nil) (ax_cons (ex_tup (ax_cons ex_str (ax_cons ex_str ax_nil st_Constant) st_Constant)) (ax_cons (ex_lst (ax_cons ex_int (ax_cons (ex_lst (ax_cons ex_int ax_nil st_Constant)) ax_nil st_List) st_Constant)) (ax_cons ex_non (ax_cons ex_dct ax_nil st_Dict) st_Constant) st_List) st_Tuple) st_Tuple) st_Call) st_BinOp)))
      (bx_cons (sx_frz [5, 6] (sx_tup2 5 6 rfl nd_law (exl_cons (ex_call f__law_pick (hr.mono (by decide)) (ax_cons (ex_var 1) (ax_cons (ex_var 4) ax_nil st_Name) st_Name) (he := st_Name) (hpl := (pl_of (pl_Name pl_nil)))) (exl_cons (ex_call f__law_pick (hr.mono (by decide)) (ax_cons (ex_var 1) (ax_cons (ex_var 4) ax_nil st_Name) st_Name) (he := st_Name) (hpl := (pl_of (pl_Name pl_nil)))) ExL.nil))))
      (bx_cons (sx_setF 7 nd_law (ex_call f__law_made_errors (hr.mono (by decide)) (ax_cons (ex_var 5) (ax_cons (ex_var 6) (ax_cons (ex_cmp (o_eq (hU hr (by decide))) (ex_call f__law_draw (hr.mono (by decide)) (ax_cons (ex_var 1) (ax_cons ex_int ax_nil st_Constant) st_Name) (he := st_Name) (hpl := (pl_of (pl_Constant pl_nil)))) ex_int) ax_nil st_Compare) st_Name) st_Name) (he := st_Name) (hpl := (pl_of (pl_Name (pl_Compare pl_nil))))))
      (bx_cons (sx_for PassesOwn.leaving rfl (ix_range1 z_range (ax_cons (ex_callB c_len rfl z_len (by decide +kernel) (ax_cons (ex_var 7) ax_nil st_Name) (he := st_Name) (hpl := (pl_of pl_nil))) ax_nil st_Call)) (tg_name 8 nd_law) (bx_one (sx_if (tx_cmp (o_ne (hU hr (by decide))) (ex_call f__law_kinds (hr.mono (by decide)) (ax_cons (ex_ix (o_ix (hU hr (by decide))) (ex_var 7) (ex_var 8)) ax_nil st_Subscript) (he := st_Subscript) (hpl := (pl_of pl_nil))) (ex_comp [("j", 9)] rfl nd_law blk_law_0 (ix_range1 z_range (ax_cons ex_int ax_nil st_Constant)) (fun _ _ _ _ _ => (tg_name 9 nd_law)) (fun _ _ _ _ _ => txs_nil) (fun _ _ _ _ _ => (ex_cmp (o_eq (hU hr (by decide))) (ex_var 8) (ex_var 9))))) (bx_one (sx_ret ex_bl)) bx_nil)))
      (bx_cons (sx_if (tx_cmp (o_ne (hU hr (by decide))) (ex_comp [("e", 10)] rfl nd_law blk_law_1 (ix_seq (ex_var 7)) (fun _ _ _ _ _ => (tg_name 10 nd_law)) (fun _ _ _ _ _ => txs_nil) (fun _ _ _ _ _ => (ex_call f__law_bases (hr.mono (by decide)) (ax_cons (ex_var 10) ax_nil st_Name) (he := st_Name) (hpl := (pl_of pl_nil))))) (ex_call0 f__law_due_bases (hr.mono (by decide)))) (bx_one (sx_ret ex_bl)) bx_nil)
      (bx_one (sx_if (tx_cmp (o_ne (hU hr (by decide))) (ex_callB (c_reprK sy hr.gd (hU hr (by decide))) rfl z_repr (by decide +kernel) (ax_cons (ex_call f__law_fields (hr.mono (by decide)) (ax_cons (ex_var 7) ax_nil st_Name) (he := st_Name) (hpl := (pl_of pl_nil))) ax_nil st_Call) (he := st_Call) (hpl := (pl_of pl_nil))) (ex_callB (c_reprK sy hr.gd (hU hr (by decide))) rfl z_repr (by decide +kernel) (ax_cons (ex_bin o_add (ex_lst (ax_cons (ex_var 5) (ax_cons (ex_var 5) (ax_cons (ex_var 5) (ax_cons (ex_var 6) ax_nil st_Name) st_Name) st_Name) st_Name)) (ex_bin o_mul (ex_lst (ax_cons (ex_var 5) ax_nil st_Name)) ex_int)) ax_nil st_BinOp) (he := st_BinOp) (hpl := (pl_of pl_nil)))) (bx_one (sx_ret ex_bl)) bx_nil))))))))
      (bx_one (sx_ret ex_bl)))))))
end
theorem draw_spec {S : List D} {h : Nat} {b many : Int} (p : PenAt S h b) (hb : b < 2 ^ 40) (hm : 0 < many) (hm2 : many < 2 ^ 40) :
    wE (m__law_draw [.hdl h, .int many] S) fun rv c => ∃ k pd, rv = .fz (.int k) ∧ 0 ≤ k ∧ k < many ∧ c.S = S.set h pd ∧ PenAt c.S h (b + 1) := by
  obtain ⟨cells, t, r, hp, hc, ht0, htb, hr0⟩ := p
  have hS : h < S.length := (List.getElem?_eq_some_iff.mp hp).1
  have hg : ∀ x, (S.set h x)[h]? = some x := fun x => List.getElem?_set_self hS
  have fin : ∀ {x t' r' : Int} {s1 : List D}, s1 = S.set h (.dct (penKv cells t' r')) → t ≤ t' → t' ≤ t + 1 → 0 ≤ r' → ∃ k pd, Rv.fz (.int (x % many)) = .fz (.int k) ∧ 0 ≤ k ∧ k < many ∧ s1 = S.set h pd ∧ PenAt s1 h (b + 1) :=
    fun {x t' r' s1} e h1 h2 h3 => ⟨_, _, rfl, Int.emod_nonneg _ (by omega), Int.emod_lt_of_pos _ hm, e, ⟨cells, t', r', by rw [e]; exact hg _, hc, by omega, by omega, h3⟩⟩
  apply wE_runF
  show wE (b__law_draw ⟨[.fz (.hdl h), .fz (.int many), .un, .un, .un, .un, .un, .un], S⟩) _
  have md : ∀ x, gMod (.int x) (.int many) = some (.fz (.int (x % many))) := fun x => gMod_pos hm
  have fd : ∀ x, gFdiv (.int x) (.int many) = some (.fz (.int (x / many))) := fun x => gFdiv_pos hm (by omega)
  by_cases hr : 0 < r
  · simp! only [b__law_draw, hp, pen_r, pen_pr, hr, md, fd]
    exact fin rfl (Int.le_refl _) (by omega) (Int.ediv_nonneg hr0 (by omega))
  · obtain ⟨p1, e1, q1, q2⟩ := prime_ix (i := t % 5) (by omega) (by omega)
    obtain ⟨p2, e2, q3, q4⟩ := prime_ix (i := (t + 3) % 5) (by omega) (by omega)
    have b1 : ∀ x : Int, 0 ≤ x % p1 ∧ x % p1 < p1 := fun x => ⟨Int.emod_nonneg _ (by omega), Int.emod_lt_of_pos _ q1⟩
    have b2 : ∀ x : Int, 0 ≤ x % p2 ∧ x % p2 < p2 := fun x => ⟨Int.emod_nonneg _ (by omega), Int.emod_lt_of_pos _ q3⟩
    have m1 : gMul (.int 31) (.int t) = some (.fz (.int (31 * t))) := gMul_small (by decide) (by omega)
    have m2 : gMul (.int 40692) (.int t) = some (.fz (.int (40692 * t))) := gMul_small (by decide) (by omega)
    have m3 : gMul (.int (40692 * t)) (.int t) = some (.fz (.int (40692 * t * t))) := gMul_small (by omega) (by omega)
    have m4 : ∀ x, gMul (.int (x % p1)) (.int 69621) = some (.fz (.int (x % p1 * 69621))) := fun x => by have := b1 x; exact gMul_small (by omega) (by decide)
    have m5 : ∀ x, gMul (.int (x % p1)) (.int (x % p1 + 48271)) = some (.fz (.int (x % p1 * (x % p1 + 48271)))) := fun x => by have := b1 x; exact gMul_small (by omega) (by omega)
    have m6 : ∀ x, gMul (.int (x % p2)) (.int (x % p2)) = some (.fz (.int (x % p2 * (x % p2)))) := fun x => by have := b2 x; exact gMul_small (by omega) (by omega)
    have d1 : ∀ x, gMod (.int x) (.int p1) = some (.fz (.int (x % p1))) := fun x => gMod_pos q1
    have d2 : ∀ x, gMod (.int x) (.int p2) = some (.fz (.int (x % p2))) := fun x => gMod_pos q3
    have d3 : ∀ x, gMod (.int x) (.int 5) = some (.fz (.int (x % 5))) := fun x => gMod_pos (by decide)
    have d4 : ∀ x, gMod (.int x) (.int 2147483549) = some (.fz (.int (x % 2147483549))) := fun x => gMod_pos (by decide)
    have d5 : ∀ x, gFdiv (.int x) (.int 64) = some (.fz (.int (x / 64))) := fun x => gFdiv_pos (by decide) (by decide)
    have z5 : 5 ≤ sizeLine := by rw [sizeLine_eq]; decide
    have z0 : 0 ≤ sizeLine := by omega
    by_cases hz : cells = []
    · have hz' : cells.isEmpty = true := by rw [hz]; rfl
      have hl : ¬ t < ((cells.map D.int).length : Int) := by rw [hz]; simpa using ht0
      simp! only [b__law_draw, hp, hg, pen_r, pen_t, pen_c, pen_pt, pen_pr, hr, md, fd, gNe_nilI, hz', gLen_lst, hl, m1, m2, m3, m4, m5, m6, d1, d2, d3, d4, d5, e1, e2, z5, z0]
      exact fin (by simp [List.set_set]) (by omega) (Int.le_refl _) hr0
    · have hz' : cells.isEmpty = false := by cases cells with
        | nil => exact absurd rfl hz
        | cons => rfl
      have hcl : 0 < (cells.length : Int) := by
        cases cells with
        | nil => exact absurd rfl hz
        | cons => simp
      have hcl' : 0 < ((cells.map D.int).length : Int) := by rw [List.length_map]; exact hcl
      have dl : gMod (.int t) (.int ((cells.map D.int).length : Int)) = some (.fz (.int (t % ((cells.map D.int).length : Int)))) := gMod_pos hcl'
      obtain ⟨z, e3, _⟩ := ix_int (cells := cells) (i := t % ((cells.map D.int).length : Int)) (Int.emod_nonneg _ (by omega)) (by have := Int.emod_lt_of_pos t hcl'; rw [List.length_map] at this ⊢; exact this)
      obtain ⟨az, ea, ha⟩ : ∃ y : Int, g1 gAbs [.int z] = some (.fz (.int y)) ∧ 0 ≤ y := ⟨_, rfl, by first | omega | (split <;> omega)⟩
      by_cases hl : t < ((cells.map D.int).length : Int)
      · by_cases hbig : (1000000000000000000 : Int) ≤ az
        · simp! only [b__law_draw, hp, hg, pen_r, pen_t, pen_c, pen_pt, pen_pr, hr, md, fd, gNe_nilI, hz', gLen_lst, hl, m1, m2, m3, m4, m5, m6, d1, d2, d3, d4, d5, dl, e1, e2, e3, ea, hbig, gPow_18, z5, z0]
          exact fin (t' := t + 1) (r' := (az - 1000000000000000000) / many) (by simp [List.set_set]) (by omega) (Int.le_refl _) (Int.ediv_nonneg (by omega) (by omega))
        · simp! only [b__law_draw, hp, hg, pen_r, pen_t, pen_c, pen_pt, pen_pr, hr, md, fd, gNe_nilI, hz', gLen_lst, hl, m1, m2, m3, m4, m5, m6, d1, d2, d3, d4, d5, dl, e1, e2, e3, ea, hbig, gPow_18, z5, z0]
          exact fin (by simp [List.set_set]) (by omega) (Int.le_refl _) hr0
      · simp! only [b__law_draw, hp, hg, pen_r, pen_t, pen_c, pen_pt, pen_pr, hr, md, fd, gNe_nilI, hz', gLen_lst, hl, m1, m2, m3, m4, m5, m6, d1, d2, d3, d4, d5, dl, e1, e2, e3, ea, gPow_18, z5, z0]
        exact fin (by simp [List.set_set]) (by omega) (Int.le_refl _) hr0
structure Pn (S0 S : List D) (b : Int) : Prop where
  p : PenAt S 0 b
  l : S.length = S0.length
  o : ∀ i, i ≠ 0 → S[i]? = S0[i]?
theorem Pn.mono {S0 S : List D} {b b' : Int} (p : Pn S0 S b) (h : b ≤ b') : Pn S0 S b' := ⟨p.p.mono h, p.l, p.o⟩
theorem draw_bw {S0 S : List D} {b many : Int} {Q : Rv → Cf → Prop} (p : Pn S0 S b) (hb : b < 2 ^ 40) (hm : 0 < many) (hm2 : many < 2 ^ 40) (h : ∀ k c, 0 ≤ k → k < many → Pn S0 c.S (b + 1) → Q (.fz (.int k)) c) :
    wE (m__law_draw [.hdl 0, .int many] S) Q := by
  refine wE_mono (draw_spec p.p hb hm hm2) fun rv c ⟨k, pd, e1, e2, e3, e4, e5⟩ => ?_
  subst e1
  exact h k c e2 e3 ⟨e5, by rw [e4, List.length_set, p.l], fun i hi => by rw [e4, List.getElem?_set_ne (Ne.symm hi), p.o i hi]⟩
theorem pick_lst {S0 S ds : List D} {b : Int} {Q : Rv → Cf → Prop} (p : Pn S0 S b) (hb : b < 2 ^ 40) (h0 : 0 < ds.length) (h1 : ds.length < 2 ^ 40) (h : ∀ d c, d ∈ ds → Pn S0 c.S (b + 1) → Q (.fz d) c) :
    wE (m__law_pick [.hdl 0, .lst ds] S) Q := by
  apply wE_runF
  show wE (b__law_pick ⟨[.fz (.hdl 0), .fz (.lst ds)], S⟩) _
  simp! only [b__law_pick, gLen_lst]
  refine draw_bw p hb (by omega) (by omega) fun k c e2 e3 p' => ?_
  obtain ⟨x, e6, e7⟩ := atI_in (xs := ds) (i := k) e2 e3
  simp! only [gIx_lst, e6]
  exact h x _ e7 p'
theorem pick_str {S0 S : List D} {x : Str} {b : Int} {Q : Rv → Cf → Prop} (p : Pn S0 S b) (hb : b < 2 ^ 40) (h0 : 0 < x.length) (h1 : x.length ≤ sizeLine) (h : ∀ z c, z ∈ x.cps.toList → Pn S0 c.S (b + 1) → Q (.fz (.str ⟨#[z]⟩)) c) :
    wE (m__law_pick [.hdl 0, .str x] S) Q := by
  apply wE_runF
  show wE (b__law_pick ⟨[.fz (.hdl 0), .fz (.str x)], S⟩) _
  have hz : x.length < 2 ^ 40 := by rw [sizeLine_eq] at h1; omega
  simp! only [b__law_pick, gLen_str h1]
  refine draw_bw p hb (by omega) (by omega) fun k c e2 e3 p' => ?_
  obtain ⟨z, e6, e7⟩ := atI_in (xs := x.cps.toList) (i := k) e2 (by rw [← str_len]; exact e3)
  simp! only [gIx_str h1, e6]
  exact h z _ e7 p'
theorem pen_bw {ns : List Int} {S : List D} {Q : Rv → Cf → Prop} (h : ∀ c, c.S = S → Q (.nw (.dct (penKv (ns.take 63) 0 0))) c) : wE (m__law_pen [.ro (ns.map D.int)] S) Q := by
  apply wE_runF
  show wE (b__law_pen ⟨[.fz (.ro (ns.map D.int))], S⟩) _
  have z3 : (3 : Nat) ≤ 15 := by decide
  simp! only [b__law_pen, gSl_63, gList_lst, z3, merge_pen]
  exact h _ rfl
theorem penAt_new {ns : List Int} : PenAt [.dct (penKv (ns.take 63) 0 0)] 0 0 := ⟨⟨ns.take 63, 0, 0, rfl, by rw [List.length_take]; omega, by omega, by omega, by omega⟩⟩
theorem pn_new {ns : List Int} : Pn [.dct (penKv (ns.take 63) 0 0)] [.dct (penKv (ns.take 63) 0 0)] 0 := ⟨penAt_new, rfl, fun _ _ => rfl⟩

/-! ### the refusals, and what is asked of them -/
def mkX (a b : D) : List D := [.exc "NoText" [("row", a)], .exc "NoStep" [("why", a)], .exc "NoWay" [("why", b), ("at", a)], .exc "Shunned" [("stand", a)], .exc "NoName" [("asked", a)], .exc "NoMoment" [("asked", a)], .exc "NoMore" [("word", a)], .exc "TooFar" [("house", a)], .exc "TooMany" [("most", a)]]
def dueRow (b1 b2 b3 b4 b5 b6 b7 b8 b9 : Bool) : D := .lst [.bl b1, .bl b2, .bl b3, .bl b4, .bl b5, .bl b6, .bl b7, .bl b8, .bl b9]
def rV : D := dueRow true false false false false false false false false
def rLK : D := dueRow false true true false false false false false false
def rLI : D := dueRow false true false true false false false false false
def rL : D := dueRow false true false false false false false false false
def rAO : D := dueRow false false false false true true false false false
def rowsD : List D := [rV, rV, rV, rV, rLK, rLI, rL, rAO, rAO]
theorem due_eq {S : List D} : m__law_due_bases [] S = .ok (.nw (.lst rowsD)) ⟨[], S⟩ := by kernel_rfl
theorem made_eq {a b : D} {t : Bool} {S : List D} : m__law_made_errors [a, b, .bl t] S = .ok (.nw (.lst (mkX a b))) ⟨[], S⟩ := by
  cases t
  · kernel_rfl
  · kernel_rfl
theorem fields_eq {a b : D} {S : List D} : m__law_fields [.lst (mkX a b)] S = .ok (.nw (.lst [a, a, a, b, a, a, a, a, a, a])) ⟨[], S⟩ := by kernel_rfl

theorem kinds_eq {r t y2 y3 y4 : Sl} {a b : D} {S : List D} : ∀ i : Nat, i < 9 → b_law_12 ⟨[r, t, y2, y3, y4, .fz a, .fz b, .fz (.lst (mkX a b)), .fz (.int i), .un, .un], S⟩ = .ok .nx ⟨[r, t, y2, y3, y4, .fz a, .fz b, .fz (.lst (mkX a b)), .fz (.int i), .un, .un], S⟩
  | 0, _ => by kernel_rfl
  | 1, _ => by kernel_rfl
  | 2, _ => by kernel_rfl
  | 3, _ => by kernel_rfl
  | 4, _ => by kernel_rfl
  | 5, _ => by kernel_rfl
  | 6, _ => by kernel_rfl
  | 7, _ => by kernel_rfl
  | 8, _ => by kernel_rfl
  | n + 9, h => by omega
theorem bases_eq {r t y2 y3 y4 y8 : Sl} {a b : D} {S : List D} : (mComp [10] (mSeq (mVar 7)) (gFz 10) tmYes (mCall 1 m__law_bases (maCons (mVar 10) maNil))) ⟨[r, t, y2, y3, y4, .fz a, .fz b, .fz (.lst (mkX a b)), y8, .un, .un], S⟩ = .ok (.nw (.lst rowsD)) ⟨[r, t, y2, y3, y4, .fz a, .fz b, .fz (.lst (mkX a b)), y8, .un, .un], S⟩ := by kernel_rfl
theorem rows_same : gNe (.lst rowsD) (.lst rowsD) = some (.fz (.bl false)) := by kernel_rfl
/-! ### what may be drawn -/
inductive Dr3 : D → Prop
  | int {n : Int} (h1 : -10 ≤ n) (h2 : n < 10 ^ 10) : Dr3 (.int n)
  | s0 : Dr3 (.str "")
  | s1 : Dr3 (.str "form")
  | s2 : Dr3 (.str "a b")
  | t0 : Dr3 (.tup [])
  | t2 : Dr3 (.tup [.str "go", .str "a"])
  | l : Dr3 (.lst [.int 1, .lst [.int 2]])
  | no : Dr3 .non
  | dc : Dr3 (.dct [])
theorem rk_txt {x : Str} (h : x.cps.toList.all (fun c => decide (c < 1114112)) = true) (hl : x.length ≤ 100) : RK (.str x) 100 2 :=
  ((RD.str fun c hc => of_decide_eq_true (List.all_eq_true.mp h c hc)).mono hl (by omega)).rk
theorem Dr3.rk {d : D} (h : Dr3 d) : RK d 300 3 := by
  cases h with
  | int h1 h2 => exact ((RD.int (by omega)).mono (by omega) (by omega)).rk
  | s0 => exact (rk_txt (by decide +kernel) (by decide +kernel)).mono (by omega) (by omega)
  | s1 => exact (rk_txt (by decide +kernel) (by decide +kernel)).mono (by omega) (by omega)
  | s2 => exact (rk_txt (by decide +kernel) (by decide +kernel)).mono (by omega) (by omega)
  | t0 => exact RKL.nil.tup.mono (by omega) (by omega)
  | t2 =>
    have e2 : RKL [.str "a"] (100 + 1 + 0) 2 := RKL.cons (rk_txt (by decide +kernel) (by decide +kernel)) (RKL.nil.mono (Nat.le_refl _) (by omega))
    have e1 : RKL [.str "go", .str "a"] (100 + 1 + (100 + 1 + 0)) 2 := RKL.cons (rk_txt (by decide +kernel) (by decide +kernel)) e2
    exact e1.tup.mono (by omega) (by omega)
  | l =>
    have e2 : RKL [.lst [.int 2]] (40 + 1 + 0 + 1 + 0) 2 := RKL.cons (((RKL.cons ((RD.int (n := 2) (by decide)).rk) RKL.nil).lst).mono (by omega) (by omega)) (RKL.nil.mono (Nat.le_refl _) (by omega))
    exact (RKL.cons ((RD.int (n := 1) (by decide)).rk.mono (Nat.le_refl _) (by omega)) e2).lst.mono (by omega) (by omega)
  | no => exact (RD.non.mono (by omega) (by omega)).rk
  | dc => exact RKD.nil.dct.mono (by omega) (by omega)
theorem shown_same {a b : D} (ha : Dr3 a) (hb : Dr3 b) : ∃ t, g1 gReprK [.lst [a, a, a, b, a, a, a, a, a, a]] = some (.fz (.str t)) := by
  refine (RKL.lst (RKL.all (w := 300) (k := 3) fun d hd => ?_)).repr (by simp) (by decide)
  simp only [List.mem_cons, List.not_mem_nil, or_false] at hd
  rcases hd with rfl | rfl | rfl | rfl | rfl | rfl | rfl | rfl | rfl | rfl <;> first | exact ha.rk | exact hb.rk
/-! ### the law -/
def TI (S0 : List D) (r : D) (b : Int) (c : Cf) : Prop := ∃ (y2 y3 y4 y5 y6 y7 y8 : Sl) (S : List D), c = ⟨[.fz r, .fz (.hdl 0), y2, y3, y4, y5, y6, y7, y8, .un, .un], S⟩ ∧ Pn S0 S b
theorem for12 {S : List D} {r t y2 y3 y4 y8 : Sl} {d1 d2 : D} {xs : List D} (hx : xs = mkX d1 d2) (hl : xs.length = 9) :
    WE (sFor (mRng1 (maCons (mCB (g1 gLen) (maCons (mVar 7) maNil)) maNil)) (gFz 8) b_law_12 ⟨[r, t, y2, y3, y4, .fz d1, .fz d2, .fz (.lst xs), y8, .un, .un], S⟩) fun fl c => fl = .nx ∧ ∃ y8 : Sl, c = ⟨[r, t, y2, y3, y4, .fz d1, .fz d2, .fz (.lst xs), y8, .un, .un], S⟩ := by
  apply WE_of
  generalize hc0 : (⟨[r, t, y2, y3, y4, .fz d1, .fz d2, .fz (.lst xs), y8, .un, .un], S⟩ : Cf) = c0
  refine for_E (rangeD 0 9) (fun i c => ∃ y8 : Sl, c = ⟨[r, t, y2, y3, y4, .fz d1, .fz d2, .fz (.lst xs), y8, .un, .un], S⟩) (fun _ _ => False) ?_ ?_ ?_ (fun _ _ z => z.elim)
  · rw [wE_mRng1]
    subst hc0
    simp! only [gLen_lst, hl]
    exact ⟨⟨by omega, by omega⟩, rfl, _, rfl⟩
  · rintro i d _ hd ⟨y8, rfl⟩
    obtain ⟨hi, rfl⟩ := rangeD_get hd
    rw [gFz_lt, if_pos (by simp), oE_some]
    subst hx
    have e := kinds_eq (r := r) (t := t) (y2 := y2) (y3 := y3) (y4 := y4) (a := d1) (b := d2) (S := S) i hi
    show wE (b_law_12 ⟨[r, t, y2, y3, y4, .fz d1, .fz d2, .fz (.lst (mkX d1 d2)), .fz (.int (0 + (i : Nat))), .un, .un], S⟩) _
    rw [show (0 : Int) + (i : Nat) = (i : Nat) from by omega, e]
    exact ⟨_, rfl⟩
  · rintro c ⟨y8, rfl⟩
    exact ⟨rfl, _, rfl⟩
theorem g6 {a : D} : gMul (.lst [a]) (.int 6) = some (.nw (.lst [a, a, a, a, a, a])) := by kernel_rfl
theorem g10 {a b : D} : gAdd (.lst [a, a, a, b]) (.lst [a, a, a, a, a, a]) = some (.nw (.lst [a, a, a, b, a, a, a, a, a, a])) := by kernel_rfl
theorem mkX_len {a b : D} : (mkX a b).length = 9 := rfl
theorem end_E {S0 S : List D} {r : D} {b : Int} {y2 y3 y4 y8 : Sl} {d1 d2 : D} {xs : List D} (hx : xs = mkX d1 d2) (h1 : Dr3 d1) (h2 : Dr3 d2) (p : Pn S0 S b) :
    WE (b_law_11 ⟨[.fz r, .fz (.hdl 0), y2, y3, y4, .fz d1, .fz d2, .fz (.lst xs), y8, .un, .un], S⟩) fun fl c => fl = .nx ∧ TI S0 r b c := by
  have hxl : xs.length = 9 := by rw [hx]; exact mkX_len
  have hb := fun y => bases_eq (r := .fz r) (t := .fz (.hdl 0)) (y2 := y2) (y3 := y3) (y4 := y4) (y8 := y) (a := d1) (b := d2) (S := S)
  have ef := fields_eq (a := d1) (b := d2) (S := S)
  have hf := for12 (S := S) (r := .fz r) (t := .fz (.hdl 0)) (y2 := y2) (y3 := y3) (y4 := y4) (y8 := y8) hx hxl
  rw [← hx] at hb ef
  generalize hc0 : (⟨[.fz r, .fz (.hdl 0), y2, y3, y4, .fz d1, .fz d2, .fz (.lst xs), y8, .un, .un], S⟩ : Cf) = c0 at hf ⊢
  unfold b_law_11
  refine WE_seqE hf ?_
  clear hc0 hf
  rintro _ ⟨y8', rfl⟩
  obtain ⟨t, et⟩ := shown_same h1 h2
  have eb := hb y8'
  generalize hc0 : (⟨[.fz r, .fz (.hdl 0), y2, y3, y4, .fz d1, .fz d2, .fz (.lst xs), y8', .un, .un], S⟩ : Cf) = c0 at eb ⊢
  unfold b_law_14
  generalize (mComp [10] (mSeq (mVar 7)) (gFz 10) tmYes (mCall 1 m__law_bases (maCons (mVar 10) maNil))) = mb at eb ⊢
  refine WE_seqE (P := fun c => c = c0) ?_ ?_
  · rw [WE_iff]
    have ed := due_eq (S := c0.S)
    simp! only [eb, ed, rows_same]
  rintro _ rfl
  subst hc0
  unfold b_law_16
  rw [WE_iff]
  simp! only [ef, et, g6, g10, gNe_strS, sizeLine_eq]
  exact ⟨_, _, _, _, _, _, _, S, rfl, p⟩
theorem gPow_9 : gPow (.int 10) (.int 9) = some (.fz (.int 1000000000)) := rfl
theorem picks {ds : List D} {S0 S : List D} {b : Int} {Q : Rv → Cf → Prop} (hl : ds.length = 7) (hd : ∀ d ∈ ds, Dr3 d) (p : Pn S0 S b) (hb : b < 2 ^ 40) (h : ∀ d c, Dr3 d → Pn S0 c.S (b + 1) → Q (.fz d) c) : wE (m__law_pick [.hdl 0, .lst ds] S) Q :=
  pick_lst p hb (by omega) (by omega) fun d c h1 p1 => h d c (hd d h1) p1
theorem bout {S0 S : List D} {r d3 : D} {b : Int} {y2 y4 y5 y6 y7 y8 : Sl} (p : Pn S0 S b) (hb : b < 100000) :
    WE (b_law_8 ⟨[.fz r, .fz (.hdl 0), y2, .fz d3, y4, y5, y6, y7, y8, .un, .un], S⟩) fun fl c => fl = .nx ∧ TI S0 r (b + 5) c := by
  unfold b_law_8
  refine WE_seqE (P := fun c => ∃ ds S, ds.length = 7 ∧ (∀ d ∈ ds, Dr3 d) ∧ Pn S0 S (b + 2) ∧ c = ⟨[.fz r, .fz (.hdl 0), y2, .fz d3, .fz (.lst ds), y5, y6, y7, y8, .un, .un], S⟩) ?_ ?_
  · rw [WE_iff]
    simp! only [gPow_9, sizeLine_eq]
    refine draw_bw p (by omega) (by omega) (by omega) fun k c k1 k2 p1 => ?_
    simp! only [sizeLine_eq]
    refine pick_lst p1 (by omega) ?_ ?_ fun d c1 hd p2 => ?_
    · simp
    · simp
    simp! only [sizeLine_eq]
    refine ⟨_, _, rfl, ?_, p2.mono (by omega), rfl⟩
    intro x hx
    simp only [List.mem_cons, List.not_mem_nil, or_false] at hx hd
    rcases hx with rfl | rfl | rfl | rfl | rfl | rfl | rfl
    · exact .int (by omega) (by omega)
    · rcases hd with rfl | rfl | rfl
      · exact .s0
      · exact .s1
      · exact .s2
    · exact .t0
    · exact .t2
    · exact .l
    · exact .no
    · exact .dc
  rintro _ ⟨ds, S1, hl, hds, p1, rfl⟩
  unfold b_law_9
  refine WE_seqE (P := fun c => ∃ d1 d2 S, Dr3 d1 ∧ Dr3 d2 ∧ Pn S0 S (b + 4) ∧ c = ⟨[.fz r, .fz (.hdl 0), y2, .fz d3, .fz (.lst ds), .fz d1, .fz d2, y7, y8, .un, .un], S⟩) ?_ ?_
  · rw [WE_iff]
    simp! only [sizeLine_eq]
    refine picks hl hds p1 (by omega) fun d1 c1 h1 p2 => ?_
    simp! only [sizeLine_eq]
    refine picks hl hds p2 (by omega) fun d2 c2 h2 p3 => ?_
    simp! only [sizeLine_eq]
    exact ⟨_, _, _, h1, h2, p3.mono (by omega), rfl⟩
  rintro _ ⟨d1, d2, S2, h1, h2, p2, rfl⟩
  unfold b_law_10
  refine WE_seqE (P := fun c => ∃ S, Pn S0 S (b + 5) ∧ c = ⟨[.fz r, .fz (.hdl 0), y2, .fz d3, .fz (.lst ds), .fz d1, .fz d2, .fz (.lst (mkX d1 d2)), y8, .un, .un], S⟩) ?_ ?_
  · rw [WE_iff]
    simp! only [sizeLine_eq]
    refine draw_bw p2 (by omega) (by omega) (by omega) fun k c k1 k2 p3 => ?_
    simp! only [sizeLine_eq]
    refine ⟨rfl, ?_⟩
    show wE (m__law_made_errors [d1, d2, .bl (eqD (.int k) (.int 0))] c.S) _
    rw [made_eq]
    simp! only [sizeLine_eq]
    exact ⟨_, p3.mono (by omega), rfl⟩
  rintro _ ⟨S3, p3, rfl⟩
  exact end_E rfl h1 h2 p3
theorem gPow_60 : gPow (.int 10) (.int 60) = some (.fz (.int 1000000000000000000000000000000000000000000000000000000000000)) := rfl
def toldD : D := .lst [.int 6, .int 12, .int 99, .int 8, .int 50, .int 60, .int 2000, .int 1000000000000000000000000000000000000000000000000000000000000, .int 999]
def toldE : D := .lst [.int 6, .int 2000, .int 999, .int 60]
theorem told_same : gNe toldD toldD = some (.fz (.bl false)) := by kernel_rfl
theorem told_sameE : gNe toldE toldE = some (.fz (.bl false)) := by kernel_rfl
theorem law_true : LawTrue 63 m_law := by
  intro ns hns
  have key : wE (m_law [.ro (ns.map D.int)] []) fun rv c => rv = .fz (.bl true) := by
    apply run_law
    unfold b_law
    refine wE_seqE (P := fun c => c = (⟨[.fz (.ro (ns.map D.int)), .fz (.hdl 0), .un, .un, .un, .un, .un, .un, .un, .un, .un], [.dct (penKv (ns.take 63) 0 0)]⟩ : Cf)) ?_ ?_
    · simp! only []
      refine pen_bw fun c hc => ?_
      rw [hc]
      simp! only []
      rfl
    rintro _ rfl
    unfold b_law_2
    refine wE_seqE (P := fun c => c = (⟨[.fz (.ro (ns.map D.int)), .fz (.hdl 0), .fz toldD, .un, .un, .un, .un, .un, .un, .un, .un], [.dct (penKv (ns.take 63) 0 0)]⟩ : Cf)) ?_ ?_
    · simp! only [sizeLine_eq]
      rfl
    rintro _ rfl
    unfold b_law_3
    refine wE_seqE (P := fun c => c = (⟨[.fz (.ro (ns.map D.int)), .fz (.hdl 0), .fz toldD, .un, .un, .un, .un, .un, .un, .un, .un], [.dct (penKv (ns.take 63) 0 0)]⟩ : Cf)) ?_ ?_
    · have e := told_same
      rw [show gNe toldD toldD = gNe toldD (.lst [.int 6, .int 12, .int 99, .int 8, .int 50, .int 60, .int 2000, .int 1000000000000000000000000000000000000000000000000000000000000, .int 999]) from rfl] at e
      have ev : ∀ c : Cf, view c (.fz toldD) = some toldD := fun _ => rfl
      simp! only [gPow_60, e, ev, sizeLine_eq]
    rintro _ rfl
    unfold b_law_5
    refine wE_seqE (P := fun c => TI [.dct (penKv (ns.take 63) 0 0)] (.ro (ns.map D.int)) 0 c) ?_ ?_
    · have e := told_sameE
      unfold toldE at e
      simp! only [e, sizeLine_eq]
      exact ⟨_, _, _, _, _, _, _, _, rfl, pn_new⟩
    rintro _ ⟨y2, y3, y4, y5, y6, y7, y8, S, rfl, p⟩
    obtain ⟨m, em, hm0, hm⟩ : ∃ m : Int, (if ((ns.map D.int).length : Int) < 4 then ((ns.map D.int).length : Int) else 4) = m ∧ 0 ≤ m ∧ m ≤ 4 := ⟨_, rfl, by split <;> omega, by split <;> omega⟩
    unfold b_law_7
    refine wE_seqE (P := fun _ => True) ?_ ?_
    · refine for_E (rangeD 0 (3 + m).toNat) (fun i c => TI [.dct (penKv (ns.take 63) 0 0)] (.ro (ns.map D.int)) (5 * i) c) (fun _ _ => False) ?_ ?_ ?_ (fun _ _ z => z.elim)
      · rw [wE_mRng1]
        simp! only [gLen_ro, gMin_int, em]
        exact ⟨⟨by omega, by omega⟩, _, _, _, _, _, _, _, S, rfl, p⟩
      · rintro i d _ hd ⟨y2, y3, y4, y5, y6, y7, y8, S', rfl, p'⟩
        obtain ⟨hi, rfl⟩ := rangeD_get hd
        rw [gFz_lt, if_pos (by simp), oE_some]
        refine wE_mono (wE_of (bout p' (by omega))) fun fl c ⟨h1, h2⟩ => ?_
        subst h1
        have ez : (5 : Int) * ((i + 1 : Nat) : Int) = 5 * (i : Int) + 5 := by omega
        show TI _ _ (5 * ((i + 1 : Nat) : Int)) c
        rw [ez]
        exact h2
      · intro c _
        exact ⟨rfl, trivial⟩
    · rintro c -
      unfold b_law_18
      simp! only []
  obtain ⟨rv, c, e, h⟩ := wE_ex key
  exact ⟨c, by rw [e, h]⟩

/-! the end -/
theorem all_mk {l : PySem.W.OpenLaw} {w : World} {K : Fg} {h : Heap} {mg : Mg} {fa : Addr} (X : K.In h) (G : h.Ns mainGlobals mg) (hfa : mg "law" = some (.ref fa))
    {C_NoMoment : Addr}
    {C_NoMore : Addr}
    {C_NoName : Addr}
    {C_NoStep : Addr}
    {C_NoText : Addr}
    {C_NoWay : Addr}
    {C_Shunned : Addr}
    {C_TooFar : Addr}
    {C_TooMany : Addr}
    {nm_NoMoment qu_NoMoment : Str} {N_NoMoment : Addr} {bs_NoMoment su_NoMoment : List Value} {sn_NoMoment : List Str} {ab_NoMoment : Bool} {co_NoMoment : Option Bool} {dd_NoMoment : Option Addr} {m0_NoMoment m1_NoMoment m2_NoMoment m3_NoMoment m5_NoMoment : Option Value}
    {fI_NoMoment : Addr} {odI_NoMoment anI_NoMoment : Option Addr} {slI_NoMoment : Array (Option Value)} {ocI_NoMoment kVI_NoMoment dcI_NoMoment pmI_NoMoment cdI_NoMoment ctI_NoMoment : Value}
    {nm_NoMore qu_NoMore : Str} {N_NoMore : Addr} {bs_NoMore su_NoMore : List Value} {sn_NoMore : List Str} {ab_NoMore : Bool} {co_NoMore : Option Bool} {dd_NoMore : Option Addr} {m0_NoMore m1_NoMore m2_NoMore m3_NoMore m5_NoMore : Option Value}
    {fI_NoMore : Addr} {odI_NoMore anI_NoMore : Option Addr} {slI_NoMore : Array (Option Value)} {ocI_NoMore kVI_NoMore dcI_NoMore pmI_NoMore cdI_NoMore ctI_NoMore : Value}
    {nm_NoName qu_NoName : Str} {N_NoName : Addr} {bs_NoName su_NoName : List Value} {sn_NoName : List Str} {ab_NoName : Bool} {co_NoName : Option Bool} {dd_NoName : Option Addr} {m0_NoName m1_NoName m2_NoName m3_NoName m5_NoName : Option Value}
    {fI_NoName : Addr} {odI_NoName anI_NoName : Option Addr} {slI_NoName : Array (Option Value)} {ocI_NoName kVI_NoName dcI_NoName pmI_NoName cdI_NoName ctI_NoName : Value}
    {nm_NoStep qu_NoStep : Str} {N_NoStep : Addr} {bs_NoStep su_NoStep : List Value} {sn_NoStep : List Str} {ab_NoStep : Bool} {co_NoStep : Option Bool} {dd_NoStep : Option Addr} {m0_NoStep m1_NoStep m2_NoStep m3_NoStep m5_NoStep : Option Value}
    {fI_NoStep : Addr} {odI_NoStep anI_NoStep : Option Addr} {slI_NoStep : Array (Option Value)} {ocI_NoStep kVI_NoStep dcI_NoStep pmI_NoStep cdI_NoStep ctI_NoStep : Value}
    {nm_NoText qu_NoText : Str} {N_NoText : Addr} {bs_NoText su_NoText : List Value} {sn_NoText : List Str} {ab_NoText : Bool} {co_NoText : Option Bool} {dd_NoText : Option Addr} {m0_NoText m1_NoText m2_NoText m3_NoText m5_NoText : Option Value}
    {fI_NoText : Addr} {odI_NoText anI_NoText : Option Addr} {slI_NoText : Array (Option Value)} {ocI_NoText kVI_NoText dcI_NoText pmI_NoText cdI_NoText ctI_NoText : Value}
    {nm_NoWay qu_NoWay : Str} {N_NoWay : Addr} {bs_NoWay su_NoWay : List Value} {sn_NoWay : List Str} {ab_NoWay : Bool} {co_NoWay : Option Bool} {dd_NoWay : Option Addr} {m0_NoWay m1_NoWay m2_NoWay m3_NoWay m5_NoWay : Option Value}
    {fI_NoWay : Addr} {odI_NoWay anI_NoWay : Option Addr} {slI_NoWay : Array (Option Value)} {ocI_NoWay kVI_NoWay dcI_NoWay pmI_NoWay cdI_NoWay ctI_NoWay : Value}
    {nm_Shunned qu_Shunned : Str} {N_Shunned : Addr} {bs_Shunned su_Shunned : List Value} {sn_Shunned : List Str} {ab_Shunned : Bool} {co_Shunned : Option Bool} {dd_Shunned : Option Addr} {m0_Shunned m1_Shunned m2_Shunned m3_Shunned m5_Shunned : Option Value}
    {fI_Shunned : Addr} {odI_Shunned anI_Shunned : Option Addr} {slI_Shunned : Array (Option Value)} {ocI_Shunned kVI_Shunned dcI_Shunned pmI_Shunned cdI_Shunned ctI_Shunned : Value}
    {nm_TooFar qu_TooFar : Str} {N_TooFar : Addr} {bs_TooFar su_TooFar : List Value} {sn_TooFar : List Str} {ab_TooFar : Bool} {co_TooFar : Option Bool} {dd_TooFar : Option Addr} {m0_TooFar m1_TooFar m2_TooFar m3_TooFar m5_TooFar : Option Value}
    {fI_TooFar : Addr} {odI_TooFar anI_TooFar : Option Addr} {slI_TooFar : Array (Option Value)} {ocI_TooFar kVI_TooFar dcI_TooFar pmI_TooFar cdI_TooFar ctI_TooFar : Value}
    {nm_TooMany qu_TooMany : Str} {N_TooMany : Addr} {bs_TooMany su_TooMany : List Value} {sn_TooMany : List Str} {ab_TooMany : Bool} {co_TooMany : Option Bool} {dd_TooMany : Option Addr} {m0_TooMany m1_TooMany m2_TooMany m3_TooMany m5_TooMany : Option Value}
    {fI_TooMany : Addr} {odI_TooMany anI_TooMany : Option Addr} {slI_TooMany : Array (Option Value)} {ocI_TooMany kVI_TooMany dcI_TooMany pmI_TooMany cdI_TooMany ctI_TooMany : Value}
    {tk_FAR_FENCE : Tok}
    {tk_FAR_FIRST : Tok}
    {tk_FAR_STAND : Tok}
    {tk_MOST_DOORS : Tok}
    {tk_MOST_LOTS : Tok}
    {tk_MOST_ODD : Tok}
    {tk_MOST_PRICE : Tok}
    {tk_MOST_ROOMS : Tok}
    {tk_MOST_ROUND : Tok}
    {tk_MOST_ROWS : Tok}
    {tk_MOST_SPOTS : Tok}
    {tk_MOST_STRETCH : Tok}
    {tk_MOST_TIMES : Tok}
    {f0 : Addr} {od0 an0 : Option Addr} {sl0 : Array (Option Value)} {oc0 kV0 dc0 pm0 cd0 ct0 : Value}
    {f1 : Addr} {od1 an1 : Option Addr} {sl1 : Array (Option Value)} {oc1 kV1 dc1 pm1 cd1 ct1 : Value}
    {f2 : Addr} {od2 an2 : Option Addr} {sl2 : Array (Option Value)} {oc2 kV2 dc2 pm2 cd2 ct2 : Value}
    {f3 : Addr} {od3 an3 : Option Addr} {sl3 : Array (Option Value)} {oc3 kV3 dc3 pm3 cd3 ct3 : Value}
    {f4 : Addr} {od4 an4 : Option Addr} {sl4 : Array (Option Value)} {oc4 kV4 dc4 pm4 cd4 ct4 : Value}
    {f5 : Addr} {od5 an5 : Option Addr} {sl5 : Array (Option Value)} {oc5 kV5 dc5 pm5 cd5 ct5 : Value}
    {f6 : Addr} {od6 an6 : Option Addr} {sl6 : Array (Option Value)} {oc6 kV6 dc6 pm6 cd6 ct6 : Value}
    {f7 : Addr} {od7 an7 : Option Addr} {sl7 : Array (Option Value)} {oc7 kV7 dc7 pm7 cd7 ct7 : Value}
    {f8 : Addr} {od8 an8 : Option Addr} {sl8 : Array (Option Value)} {oc8 kV8 dc8 pm8 cd8 ct8 : Value}
    (aC_NoMoment : PySem.W.nsIn K mainGlobals "NoMoment" = some (some (.ref C_NoMoment)))
    (aC_NoMore : PySem.W.nsIn K mainGlobals "NoMore" = some (some (.ref C_NoMore)))
    (aC_NoName : PySem.W.nsIn K mainGlobals "NoName" = some (some (.ref C_NoName)))
    (aC_NoStep : PySem.W.nsIn K mainGlobals "NoStep" = some (some (.ref C_NoStep)))
    (aC_NoText : PySem.W.nsIn K mainGlobals "NoText" = some (some (.ref C_NoText)))
    (aC_NoWay : PySem.W.nsIn K mainGlobals "NoWay" = some (some (.ref C_NoWay)))
    (aC_Shunned : PySem.W.nsIn K mainGlobals "Shunned" = some (some (.ref C_Shunned)))
    (aC_TooFar : PySem.W.nsIn K mainGlobals "TooFar" = some (some (.ref C_TooFar)))
    (aC_TooMany : PySem.W.nsIn K mainGlobals "TooMany" = some (some (.ref C_TooMany)))
    (gspec : PySem.W.specialIn K (.builtin "object.__class__") "__get__" = some (some (.builtin "getset_descriptor.__get__")))
    (gtake : PySem.W.takesIn K (.builtin "object.__class__") = some true)
    (hd_NoMoment : PySem.W.hasDictIn K C_NoMoment = true)
    (sb_NoMoment : PySem.W.subIn K (.ref C_NoMoment) (.type "BaseException") = some true)
    (ty_NoMoment : PySem.W.typeIn K (.ref C_NoMoment) = some (.type "type"))
    (hd_NoMore : PySem.W.hasDictIn K C_NoMore = true)
    (sb_NoMore : PySem.W.subIn K (.ref C_NoMore) (.type "BaseException") = some true)
    (ty_NoMore : PySem.W.typeIn K (.ref C_NoMore) = some (.type "type"))
    (hd_NoName : PySem.W.hasDictIn K C_NoName = true)
    (sb_NoName : PySem.W.subIn K (.ref C_NoName) (.type "BaseException") = some true)
    (ty_NoName : PySem.W.typeIn K (.ref C_NoName) = some (.type "type"))
    (hd_NoStep : PySem.W.hasDictIn K C_NoStep = true)
    (sb_NoStep : PySem.W.subIn K (.ref C_NoStep) (.type "BaseException") = some true)
    (ty_NoStep : PySem.W.typeIn K (.ref C_NoStep) = some (.type "type"))
    (hd_NoText : PySem.W.hasDictIn K C_NoText = true)
    (sb_NoText : PySem.W.subIn K (.ref C_NoText) (.type "BaseException") = some true)
    (ty_NoText : PySem.W.typeIn K (.ref C_NoText) = some (.type "type"))
    (hd_NoWay : PySem.W.hasDictIn K C_NoWay = true)
    (sb_NoWay : PySem.W.subIn K (.ref C_NoWay) (.type "BaseException") = some true)
    (ty_NoWay : PySem.W.typeIn K (.ref C_NoWay) = some (.type "type"))
    (hd_Shunned : PySem.W.hasDictIn K C_Shunned = true)
    (sb_Shunned : PySem.W.subIn K (.ref C_Shunned) (.type "BaseException") = some true)
    (ty_Shunned : PySem.W.typeIn K (.ref C_Shunned) = some (.type "type"))
    (hd_TooFar : PySem.W.hasDictIn K C_TooFar = true)
    (sb_TooFar : PySem.W.subIn K (.ref C_TooFar) (.type "BaseException") = some true)
    (ty_TooFar : PySem.W.typeIn K (.ref C_TooFar) = some (.type "type"))
    (hd_TooMany : PySem.W.hasDictIn K C_TooMany = true)
    (sb_TooMany : PySem.W.subIn K (.ref C_TooMany) (.type "BaseException") = some true)
    (ty_TooMany : PySem.W.typeIn K (.ref C_TooMany) = some (.type "type"))
    (ga_NoMoment : PySem.W.findIn K (.ref C_NoMoment) "__getattribute__" = some (some (.builtin "BaseException.__getattribute__")))
    (gt_NoMoment : PySem.W.findIn K (.ref C_NoMoment) "__getattr__" = some none)
    (ga_NoMore : PySem.W.findIn K (.ref C_NoMore) "__getattribute__" = some (some (.builtin "BaseException.__getattribute__")))
    (gt_NoMore : PySem.W.findIn K (.ref C_NoMore) "__getattr__" = some none)
    (ga_NoName : PySem.W.findIn K (.ref C_NoName) "__getattribute__" = some (some (.builtin "BaseException.__getattribute__")))
    (gt_NoName : PySem.W.findIn K (.ref C_NoName) "__getattr__" = some none)
    (ga_NoStep : PySem.W.findIn K (.ref C_NoStep) "__getattribute__" = some (some (.builtin "BaseException.__getattribute__")))
    (gt_NoStep : PySem.W.findIn K (.ref C_NoStep) "__getattr__" = some none)
    (ga_NoText : PySem.W.findIn K (.ref C_NoText) "__getattribute__" = some (some (.builtin "BaseException.__getattribute__")))
    (gt_NoText : PySem.W.findIn K (.ref C_NoText) "__getattr__" = some none)
    (ga_NoWay : PySem.W.findIn K (.ref C_NoWay) "__getattribute__" = some (some (.builtin "BaseException.__getattribute__")))
    (gt_NoWay : PySem.W.findIn K (.ref C_NoWay) "__getattr__" = some none)
    (ga_Shunned : PySem.W.findIn K (.ref C_Shunned) "__getattribute__" = some (some (.builtin "BaseException.__getattribute__")))
    (gt_Shunned : PySem.W.findIn K (.ref C_Shunned) "__getattr__" = some none)
    (ga_TooFar : PySem.W.findIn K (.ref C_TooFar) "__getattribute__" = some (some (.builtin "BaseException.__getattribute__")))
    (gt_TooFar : PySem.W.findIn K (.ref C_TooFar) "__getattr__" = some none)
    (ga_TooMany : PySem.W.findIn K (.ref C_TooMany) "__getattribute__" = some (some (.builtin "BaseException.__getattribute__")))
    (gt_TooMany : PySem.W.findIn K (.ref C_TooMany) "__getattr__" = some none)
    (ci_NoMoment : PySem.W.isClsIn K C_NoMoment = true)
    (ca_NoMoment : PySem.W.findIn K (.ref C_NoMoment) "__class__" = some (some (.builtin "object.__class__")))
    (mr_NoMoment : PySem.W.mroIn K C_NoMoment (.type "object") = some true)
    (ci_NoMore : PySem.W.isClsIn K C_NoMore = true)
    (ca_NoMore : PySem.W.findIn K (.ref C_NoMore) "__class__" = some (some (.builtin "object.__class__")))
    (mr_NoMore : PySem.W.mroIn K C_NoMore (.type "object") = some true)
    (ci_NoName : PySem.W.isClsIn K C_NoName = true)
    (ca_NoName : PySem.W.findIn K (.ref C_NoName) "__class__" = some (some (.builtin "object.__class__")))
    (mr_NoName : PySem.W.mroIn K C_NoName (.type "object") = some true)
    (ci_NoStep : PySem.W.isClsIn K C_NoStep = true)
    (ca_NoStep : PySem.W.findIn K (.ref C_NoStep) "__class__" = some (some (.builtin "object.__class__")))
    (mr_NoStep : PySem.W.mroIn K C_NoStep (.type "object") = some true)
    (ci_NoText : PySem.W.isClsIn K C_NoText = true)
    (ca_NoText : PySem.W.findIn K (.ref C_NoText) "__class__" = some (some (.builtin "object.__class__")))
    (mr_NoText : PySem.W.mroIn K C_NoText (.type "object") = some true)
    (ci_NoWay : PySem.W.isClsIn K C_NoWay = true)
    (ca_NoWay : PySem.W.findIn K (.ref C_NoWay) "__class__" = some (some (.builtin "object.__class__")))
    (mr_NoWay : PySem.W.mroIn K C_NoWay (.type "object") = some true)
    (ci_Shunned : PySem.W.isClsIn K C_Shunned = true)
    (ca_Shunned : PySem.W.findIn K (.ref C_Shunned) "__class__" = some (some (.builtin "object.__class__")))
    (mr_Shunned : PySem.W.mroIn K C_Shunned (.type "object") = some true)
    (ci_TooFar : PySem.W.isClsIn K C_TooFar = true)
    (ca_TooFar : PySem.W.findIn K (.ref C_TooFar) "__class__" = some (some (.builtin "object.__class__")))
    (mr_TooFar : PySem.W.mroIn K C_TooFar (.type "object") = some true)
    (ci_TooMany : PySem.W.isClsIn K C_TooMany = true)
    (ca_TooMany : PySem.W.findIn K (.ref C_TooMany) "__class__" = some (some (.builtin "object.__class__")))
    (mr_TooMany : PySem.W.mroIn K C_TooMany (.type "object") = some true)
    (n_NoName_asked : PySem.W.findIn K (.ref C_NoName) "asked" = some none)
    (n_NoMoment_asked : PySem.W.findIn K (.ref C_NoMoment) "asked" = some none)
    (n_NoWay_at : PySem.W.findIn K (.ref C_NoWay) "at" = some none)
    (n_TooFar_house : PySem.W.findIn K (.ref C_TooFar) "house" = some none)
    (n_TooMany_most : PySem.W.findIn K (.ref C_TooMany) "most" = some none)
    (n_NoText_row : PySem.W.findIn K (.ref C_NoText) "row" = some none)
    (n_Shunned_stand : PySem.W.findIn K (.ref C_Shunned) "stand" = some none)
    (n_NoWay_why : PySem.W.findIn K (.ref C_NoWay) "why" = some none)
    (n_NoStep_why : PySem.W.findIn K (.ref C_NoStep) "why" = some none)
    (n_NoMore_word : PySem.W.findIn K (.ref C_NoMore) "word" = some none)
    (xL_NoMoment : K.lookup C_NoMoment = some (excClassObj nm_NoMoment qu_NoMoment C_NoMoment N_NoMoment bs_NoMoment [.type "IndexError", .type "LookupError", .type "Exception", .type "BaseException", .type "object"] true sn_NoMoment su_NoMoment ab_NoMoment co_NoMoment dd_NoMoment m0_NoMoment m1_NoMoment m2_NoMoment m3_NoMoment m5_NoMoment "IndexError.__new__"))
    (sa_NoMoment : PySem.W.findIn K (.ref C_NoMoment) "__setattr__" = some (some (.builtin "object.__setattr__")))
    (kC_NoMoment : PySem.W.keepIn K (.ref C_NoMoment) = true)
    (aI_NoMoment : PySem.W.findIn K (.ref C_NoMoment) "__init__" = some (some (.ref fI_NoMoment)))
    (tI_NoMoment : PySem.W.typeIn K (.ref fI_NoMoment) = some (.type "function"))
    (lI_NoMoment : K.lookup fI_NoMoment = some ⟨ocI_NoMoment, odI_NoMoment, .func (PySem.W.fnOf "__init__" "NoMoment.__init__" (defArgs (inClass (top 6) 0)) (defBody (inClass (top 6) 0)) (defScope (inClass (top 6) 0)) .none kVI_NoMoment dcI_NoMoment pmI_NoMoment anI_NoMoment cdI_NoMoment ctI_NoMoment), slI_NoMoment⟩)
    (cI_NoMoment : PySem.W.codeIn K cdI_NoMoment "NoMoment.__init__" = true)
    (kI_NoMoment : PySem.W.keepIn K (.ref fI_NoMoment) = true)
    (xL_NoMore : K.lookup C_NoMore = some (excClassObj nm_NoMore qu_NoMore C_NoMore N_NoMore bs_NoMore [.type "LookupError", .type "Exception", .type "BaseException", .type "object"] true sn_NoMore su_NoMore ab_NoMore co_NoMore dd_NoMore m0_NoMore m1_NoMore m2_NoMore m3_NoMore m5_NoMore "LookupError.__new__"))
    (sa_NoMore : PySem.W.findIn K (.ref C_NoMore) "__setattr__" = some (some (.builtin "object.__setattr__")))
    (kC_NoMore : PySem.W.keepIn K (.ref C_NoMore) = true)
    (aI_NoMore : PySem.W.findIn K (.ref C_NoMore) "__init__" = some (some (.ref fI_NoMore)))
    (tI_NoMore : PySem.W.typeIn K (.ref fI_NoMore) = some (.type "function"))
    (lI_NoMore : K.lookup fI_NoMore = some ⟨ocI_NoMore, odI_NoMore, .func (PySem.W.fnOf "__init__" "NoMore.__init__" (defArgs (inClass (top 7) 0)) (defBody (inClass (top 7) 0)) (defScope (inClass (top 7) 0)) .none kVI_NoMore dcI_NoMore pmI_NoMore anI_NoMore cdI_NoMore ctI_NoMore), slI_NoMore⟩)
    (cI_NoMore : PySem.W.codeIn K cdI_NoMore "NoMore.__init__" = true)
    (kI_NoMore : PySem.W.keepIn K (.ref fI_NoMore) = true)
    (xL_NoName : K.lookup C_NoName = some (excClassObj nm_NoName qu_NoName C_NoName N_NoName bs_NoName [.type "KeyError", .type "LookupError", .type "Exception", .type "BaseException", .type "object"] true sn_NoName su_NoName ab_NoName co_NoName dd_NoName m0_NoName m1_NoName m2_NoName m3_NoName m5_NoName "LookupError.__new__"))
    (sa_NoName : PySem.W.findIn K (.ref C_NoName) "__setattr__" = some (some (.builtin "object.__setattr__")))
    (kC_NoName : PySem.W.keepIn K (.ref C_NoName) = true)
    (aI_NoName : PySem.W.findIn K (.ref C_NoName) "__init__" = some (some (.ref fI_NoName)))
    (tI_NoName : PySem.W.typeIn K (.ref fI_NoName) = some (.type "function"))
    (lI_NoName : K.lookup fI_NoName = some ⟨ocI_NoName, odI_NoName, .func (PySem.W.fnOf "__init__" "NoName.__init__" (defArgs (inClass (top 5) 0)) (defBody (inClass (top 5) 0)) (defScope (inClass (top 5) 0)) .none kVI_NoName dcI_NoName pmI_NoName anI_NoName cdI_NoName ctI_NoName), slI_NoName⟩)
    (cI_NoName : PySem.W.codeIn K cdI_NoName "NoName.__init__" = true)
    (kI_NoName : PySem.W.keepIn K (.ref fI_NoName) = true)
    (xL_NoStep : K.lookup C_NoStep = some (excClassObj nm_NoStep qu_NoStep C_NoStep N_NoStep bs_NoStep [.type "ValueError", .type "Exception", .type "BaseException", .type "object"] true sn_NoStep su_NoStep ab_NoStep co_NoStep dd_NoStep m0_NoStep m1_NoStep m2_NoStep m3_NoStep m5_NoStep "ValueError.__new__"))
    (sa_NoStep : PySem.W.findIn K (.ref C_NoStep) "__setattr__" = some (some (.builtin "object.__setattr__")))
    (kC_NoStep : PySem.W.keepIn K (.ref C_NoStep) = true)
    (aI_NoStep : PySem.W.findIn K (.ref C_NoStep) "__init__" = some (some (.ref fI_NoStep)))
    (tI_NoStep : PySem.W.typeIn K (.ref fI_NoStep) = some (.type "function"))
    (lI_NoStep : K.lookup fI_NoStep = some ⟨ocI_NoStep, odI_NoStep, .func (PySem.W.fnOf "__init__" "NoStep.__init__" (defArgs (inClass (top 2) 0)) (defBody (inClass (top 2) 0)) (defScope (inClass (top 2) 0)) .none kVI_NoStep dcI_NoStep pmI_NoStep anI_NoStep cdI_NoStep ctI_NoStep), slI_NoStep⟩)
    (cI_NoStep : PySem.W.codeIn K cdI_NoStep "NoStep.__init__" = true)
    (kI_NoStep : PySem.W.keepIn K (.ref fI_NoStep) = true)
    (xL_NoText : K.lookup C_NoText = some (excClassObj nm_NoText qu_NoText C_NoText N_NoText bs_NoText [.type "ValueError", .type "Exception", .type "BaseException", .type "object"] true sn_NoText su_NoText ab_NoText co_NoText dd_NoText m0_NoText m1_NoText m2_NoText m3_NoText m5_NoText "ValueError.__new__"))
    (sa_NoText : PySem.W.findIn K (.ref C_NoText) "__setattr__" = some (some (.builtin "object.__setattr__")))
    (kC_NoText : PySem.W.keepIn K (.ref C_NoText) = true)
    (aI_NoText : PySem.W.findIn K (.ref C_NoText) "__init__" = some (some (.ref fI_NoText)))
    (tI_NoText : PySem.W.typeIn K (.ref fI_NoText) = some (.type "function"))
    (lI_NoText : K.lookup fI_NoText = some ⟨ocI_NoText, odI_NoText, .func (PySem.W.fnOf "__init__" "NoText.__init__" (defArgs (inClass (top 1) 0)) (defBody (inClass (top 1) 0)) (defScope (inClass (top 1) 0)) .none kVI_NoText dcI_NoText pmI_NoText anI_NoText cdI_NoText ctI_NoText), slI_NoText⟩)
    (cI_NoText : PySem.W.codeIn K cdI_NoText "NoText.__init__" = true)
    (kI_NoText : PySem.W.keepIn K (.ref fI_NoText) = true)
    (xL_NoWay : K.lookup C_NoWay = some (excClassObj nm_NoWay qu_NoWay C_NoWay N_NoWay bs_NoWay [.type "ValueError", .type "Exception", .type "BaseException", .type "object"] true sn_NoWay su_NoWay ab_NoWay co_NoWay dd_NoWay m0_NoWay m1_NoWay m2_NoWay m3_NoWay m5_NoWay "ValueError.__new__"))
    (sa_NoWay : PySem.W.findIn K (.ref C_NoWay) "__setattr__" = some (some (.builtin "object.__setattr__")))
    (kC_NoWay : PySem.W.keepIn K (.ref C_NoWay) = true)
    (aI_NoWay : PySem.W.findIn K (.ref C_NoWay) "__init__" = some (some (.ref fI_NoWay)))
    (tI_NoWay : PySem.W.typeIn K (.ref fI_NoWay) = some (.type "function"))
    (lI_NoWay : K.lookup fI_NoWay = some ⟨ocI_NoWay, odI_NoWay, .func (PySem.W.fnOf "__init__" "NoWay.__init__" (defArgs (inClass (top 3) 0)) (defBody (inClass (top 3) 0)) (defScope (inClass (top 3) 0)) .none kVI_NoWay dcI_NoWay pmI_NoWay anI_NoWay cdI_NoWay ctI_NoWay), slI_NoWay⟩)
    (cI_NoWay : PySem.W.codeIn K cdI_NoWay "NoWay.__init__" = true)
    (kI_NoWay : PySem.W.keepIn K (.ref fI_NoWay) = true)
    (xL_Shunned : K.lookup C_Shunned = some (excClassObj nm_Shunned qu_Shunned C_Shunned N_Shunned bs_Shunned [.type "ValueError", .type "Exception", .type "BaseException", .type "object"] true sn_Shunned su_Shunned ab_Shunned co_Shunned dd_Shunned m0_Shunned m1_Shunned m2_Shunned m3_Shunned m5_Shunned "ValueError.__new__"))
    (sa_Shunned : PySem.W.findIn K (.ref C_Shunned) "__setattr__" = some (some (.builtin "object.__setattr__")))
    (kC_Shunned : PySem.W.keepIn K (.ref C_Shunned) = true)
    (aI_Shunned : PySem.W.findIn K (.ref C_Shunned) "__init__" = some (some (.ref fI_Shunned)))
    (tI_Shunned : PySem.W.typeIn K (.ref fI_Shunned) = some (.type "function"))
    (lI_Shunned : K.lookup fI_Shunned = some ⟨ocI_Shunned, odI_Shunned, .func (PySem.W.fnOf "__init__" "Shunned.__init__" (defArgs (inClass (top 4) 0)) (defBody (inClass (top 4) 0)) (defScope (inClass (top 4) 0)) .none kVI_Shunned dcI_Shunned pmI_Shunned anI_Shunned cdI_Shunned ctI_Shunned), slI_Shunned⟩)
    (cI_Shunned : PySem.W.codeIn K cdI_Shunned "Shunned.__init__" = true)
    (kI_Shunned : PySem.W.keepIn K (.ref fI_Shunned) = true)
    (xL_TooFar : K.lookup C_TooFar = some (excClassObj nm_TooFar qu_TooFar C_TooFar N_TooFar bs_TooFar [.type "OverflowError", .type "ArithmeticError", .type "Exception", .type "BaseException", .type "object"] true sn_TooFar su_TooFar ab_TooFar co_TooFar dd_TooFar m0_TooFar m1_TooFar m2_TooFar m3_TooFar m5_TooFar "OverflowError.__new__"))
    (sa_TooFar : PySem.W.findIn K (.ref C_TooFar) "__setattr__" = some (some (.builtin "object.__setattr__")))
    (kC_TooFar : PySem.W.keepIn K (.ref C_TooFar) = true)
    (aI_TooFar : PySem.W.findIn K (.ref C_TooFar) "__init__" = some (some (.ref fI_TooFar)))
    (tI_TooFar : PySem.W.typeIn K (.ref fI_TooFar) = some (.type "function"))
    (lI_TooFar : K.lookup fI_TooFar = some ⟨ocI_TooFar, odI_TooFar, .func (PySem.W.fnOf "__init__" "TooFar.__init__" (defArgs (inClass (top 8) 0)) (defBody (inClass (top 8) 0)) (defScope (inClass (top 8) 0)) .none kVI_TooFar dcI_TooFar pmI_TooFar anI_TooFar cdI_TooFar ctI_TooFar), slI_TooFar⟩)
    (cI_TooFar : PySem.W.codeIn K cdI_TooFar "TooFar.__init__" = true)
    (kI_TooFar : PySem.W.keepIn K (.ref fI_TooFar) = true)
    (xL_TooMany : K.lookup C_TooMany = some (excClassObj nm_TooMany qu_TooMany C_TooMany N_TooMany bs_TooMany [.type "OverflowError", .type "ArithmeticError", .type "Exception", .type "BaseException", .type "object"] true sn_TooMany su_TooMany ab_TooMany co_TooMany dd_TooMany m0_TooMany m1_TooMany m2_TooMany m3_TooMany m5_TooMany "OverflowError.__new__"))
    (sa_TooMany : PySem.W.findIn K (.ref C_TooMany) "__setattr__" = some (some (.builtin "object.__setattr__")))
    (kC_TooMany : PySem.W.keepIn K (.ref C_TooMany) = true)
    (aI_TooMany : PySem.W.findIn K (.ref C_TooMany) "__init__" = some (some (.ref fI_TooMany)))
    (tI_TooMany : PySem.W.typeIn K (.ref fI_TooMany) = some (.type "function"))
    (lI_TooMany : K.lookup fI_TooMany = some ⟨ocI_TooMany, odI_TooMany, .func (PySem.W.fnOf "__init__" "TooMany.__init__" (defArgs (inClass (top 9) 0)) (defBody (inClass (top 9) 0)) (defScope (inClass (top 9) 0)) .none kVI_TooMany dcI_TooMany pmI_TooMany anI_TooMany cdI_TooMany ctI_TooMany), slI_TooMany⟩)
    (cI_TooMany : PySem.W.codeIn K cdI_TooMany "TooMany.__init__" = true)
    (kI_TooMany : PySem.W.keepIn K (.ref fI_TooMany) = true)
    (nz_ArithmeticError : PySem.W.nsIn K mainGlobals "ArithmeticError" = some none)
    (nz_IndexError : PySem.W.nsIn K mainGlobals "IndexError" = some none)
    (nz_KeyError : PySem.W.nsIn K mainGlobals "KeyError" = some none)
    (nz_LookupError : PySem.W.nsIn K mainGlobals "LookupError" = some none)
    (nz_OverflowError : PySem.W.nsIn K mainGlobals "OverflowError" = some none)
    (nz_RuntimeError : PySem.W.nsIn K mainGlobals "RuntimeError" = some none)
    (nz_TypeError : PySem.W.nsIn K mainGlobals "TypeError" = some none)
    (nz_ValueError : PySem.W.nsIn K mainGlobals "ValueError" = some none)
    (nz_ZeroDivisionError : PySem.W.nsIn K mainGlobals "ZeroDivisionError" = some none)
    (nz_abs : PySem.W.nsIn K mainGlobals "abs" = some none)
    (nz_isinstance : PySem.W.nsIn K mainGlobals "isinstance" = some none)
    (nz_len : PySem.W.nsIn K mainGlobals "len" = some none)
    (nz_list : PySem.W.nsIn K mainGlobals "list" = some none)
    (nz_min : PySem.W.nsIn K mainGlobals "min" = some none)
    (nz_range : PySem.W.nsIn K mainGlobals "range" = some none)
    (nz_repr : PySem.W.nsIn K mainGlobals "repr" = some none)
    (q_ArithmeticError_NoMoment : PySem.W.kitOne K (.ref C_NoMoment) (.type "ArithmeticError") = some false)
    (q_ArithmeticError_NoMore : PySem.W.kitOne K (.ref C_NoMore) (.type "ArithmeticError") = some false)
    (q_ArithmeticError_NoName : PySem.W.kitOne K (.ref C_NoName) (.type "ArithmeticError") = some false)
    (q_ArithmeticError_NoStep : PySem.W.kitOne K (.ref C_NoStep) (.type "ArithmeticError") = some false)
    (q_ArithmeticError_NoText : PySem.W.kitOne K (.ref C_NoText) (.type "ArithmeticError") = some false)
    (q_ArithmeticError_NoWay : PySem.W.kitOne K (.ref C_NoWay) (.type "ArithmeticError") = some false)
    (q_ArithmeticError_Shunned : PySem.W.kitOne K (.ref C_Shunned) (.type "ArithmeticError") = some false)
    (q_ArithmeticError_TooFar : PySem.W.kitOne K (.ref C_TooFar) (.type "ArithmeticError") = some true)
    (q_ArithmeticError_TooMany : PySem.W.kitOne K (.ref C_TooMany) (.type "ArithmeticError") = some true)
    (q_ArithmeticError_BNoneType : PySem.W.kitOne K (.type "NoneType") (.type "ArithmeticError") = some false)
    (q_IndexError_NoMoment : PySem.W.kitOne K (.ref C_NoMoment) (.type "IndexError") = some true)
    (q_IndexError_NoMore : PySem.W.kitOne K (.ref C_NoMore) (.type "IndexError") = some false)
    (q_IndexError_NoName : PySem.W.kitOne K (.ref C_NoName) (.type "IndexError") = some false)
    (q_IndexError_NoStep : PySem.W.kitOne K (.ref C_NoStep) (.type "IndexError") = some false)
    (q_IndexError_NoText : PySem.W.kitOne K (.ref C_NoText) (.type "IndexError") = some false)
    (q_IndexError_NoWay : PySem.W.kitOne K (.ref C_NoWay) (.type "IndexError") = some false)
    (q_IndexError_Shunned : PySem.W.kitOne K (.ref C_Shunned) (.type "IndexError") = some false)
    (q_IndexError_TooFar : PySem.W.kitOne K (.ref C_TooFar) (.type "IndexError") = some false)
    (q_IndexError_TooMany : PySem.W.kitOne K (.ref C_TooMany) (.type "IndexError") = some false)
    (q_IndexError_BNoneType : PySem.W.kitOne K (.type "NoneType") (.type "IndexError") = some false)
    (q_KeyError_NoMoment : PySem.W.kitOne K (.ref C_NoMoment) (.type "KeyError") = some false)
    (q_KeyError_NoMore : PySem.W.kitOne K (.ref C_NoMore) (.type "KeyError") = some false)
    (q_KeyError_NoName : PySem.W.kitOne K (.ref C_NoName) (.type "KeyError") = some true)
    (q_KeyError_NoStep : PySem.W.kitOne K (.ref C_NoStep) (.type "KeyError") = some false)
    (q_KeyError_NoText : PySem.W.kitOne K (.ref C_NoText) (.type "KeyError") = some false)
    (q_KeyError_NoWay : PySem.W.kitOne K (.ref C_NoWay) (.type "KeyError") = some false)
    (q_KeyError_Shunned : PySem.W.kitOne K (.ref C_Shunned) (.type "KeyError") = some false)
    (q_KeyError_TooFar : PySem.W.kitOne K (.ref C_TooFar) (.type "KeyError") = some false)
    (q_KeyError_TooMany : PySem.W.kitOne K (.ref C_TooMany) (.type "KeyError") = some false)
    (q_KeyError_BNoneType : PySem.W.kitOne K (.type "NoneType") (.type "KeyError") = some false)
    (q_LookupError_NoMoment : PySem.W.kitOne K (.ref C_NoMoment) (.type "LookupError") = some true)
    (q_LookupError_NoMore : PySem.W.kitOne K (.ref C_NoMore) (.type "LookupError") = some true)
    (q_LookupError_NoName : PySem.W.kitOne K (.ref C_NoName) (.type "LookupError") = some true)
    (q_LookupError_NoStep : PySem.W.kitOne K (.ref C_NoStep) (.type "LookupError") = some false)
    (q_LookupError_NoText : PySem.W.kitOne K (.ref C_NoText) (.type "LookupError") = some false)
    (q_LookupError_NoWay : PySem.W.kitOne K (.ref C_NoWay) (.type "LookupError") = some false)
    (q_LookupError_Shunned : PySem.W.kitOne K (.ref C_Shunned) (.type "LookupError") = some false)
    (q_LookupError_TooFar : PySem.W.kitOne K (.ref C_TooFar) (.type "LookupError") = some false)
    (q_LookupError_TooMany : PySem.W.kitOne K (.ref C_TooMany) (.type "LookupError") = some false)
    (q_LookupError_BNoneType : PySem.W.kitOne K (.type "NoneType") (.type "LookupError") = some false)
    (q_NoMoment_NoMoment : PySem.W.kitOne K (.ref C_NoMoment) (.ref C_NoMoment) = some true)
    (q_NoMoment_NoMore : PySem.W.kitOne K (.ref C_NoMore) (.ref C_NoMoment) = some false)
    (q_NoMoment_NoName : PySem.W.kitOne K (.ref C_NoName) (.ref C_NoMoment) = some false)
    (q_NoMoment_NoStep : PySem.W.kitOne K (.ref C_NoStep) (.ref C_NoMoment) = some false)
    (q_NoMoment_NoText : PySem.W.kitOne K (.ref C_NoText) (.ref C_NoMoment) = some false)
    (q_NoMoment_NoWay : PySem.W.kitOne K (.ref C_NoWay) (.ref C_NoMoment) = some false)
    (q_NoMoment_Shunned : PySem.W.kitOne K (.ref C_Shunned) (.ref C_NoMoment) = some false)
    (q_NoMoment_TooFar : PySem.W.kitOne K (.ref C_TooFar) (.ref C_NoMoment) = some false)
    (q_NoMoment_TooMany : PySem.W.kitOne K (.ref C_TooMany) (.ref C_NoMoment) = some false)
    (q_NoMoment_BNoneType : PySem.W.kitOne K (.type "NoneType") (.ref C_NoMoment) = some false)
    (q_NoMore_NoMoment : PySem.W.kitOne K (.ref C_NoMoment) (.ref C_NoMore) = some false)
    (q_NoMore_NoMore : PySem.W.kitOne K (.ref C_NoMore) (.ref C_NoMore) = some true)
    (q_NoMore_NoName : PySem.W.kitOne K (.ref C_NoName) (.ref C_NoMore) = some false)
    (q_NoMore_NoStep : PySem.W.kitOne K (.ref C_NoStep) (.ref C_NoMore) = some false)
    (q_NoMore_NoText : PySem.W.kitOne K (.ref C_NoText) (.ref C_NoMore) = some false)
    (q_NoMore_NoWay : PySem.W.kitOne K (.ref C_NoWay) (.ref C_NoMore) = some false)
    (q_NoMore_Shunned : PySem.W.kitOne K (.ref C_Shunned) (.ref C_NoMore) = some false)
    (q_NoMore_TooFar : PySem.W.kitOne K (.ref C_TooFar) (.ref C_NoMore) = some false)
    (q_NoMore_TooMany : PySem.W.kitOne K (.ref C_TooMany) (.ref C_NoMore) = some false)
    (q_NoMore_BNoneType : PySem.W.kitOne K (.type "NoneType") (.ref C_NoMore) = some false)
    (q_NoName_NoMoment : PySem.W.kitOne K (.ref C_NoMoment) (.ref C_NoName) = some false)
    (q_NoName_NoMore : PySem.W.kitOne K (.ref C_NoMore) (.ref C_NoName) = some false)
    (q_NoName_NoName : PySem.W.kitOne K (.ref C_NoName) (.ref C_NoName) = some true)
    (q_NoName_NoStep : PySem.W.kitOne K (.ref C_NoStep) (.ref C_NoName) = some false)
    (q_NoName_NoText : PySem.W.kitOne K (.ref C_NoText) (.ref C_NoName) = some false)
    (q_NoName_NoWay : PySem.W.kitOne K (.ref C_NoWay) (.ref C_NoName) = some false)
    (q_NoName_Shunned : PySem.W.kitOne K (.ref C_Shunned) (.ref C_NoName) = some false)
    (q_NoName_TooFar : PySem.W.kitOne K (.ref C_TooFar) (.ref C_NoName) = some false)
    (q_NoName_TooMany : PySem.W.kitOne K (.ref C_TooMany) (.ref C_NoName) = some false)
    (q_NoName_BNoneType : PySem.W.kitOne K (.type "NoneType") (.ref C_NoName) = some false)
    (q_NoStep_NoMoment : PySem.W.kitOne K (.ref C_NoMoment) (.ref C_NoStep) = some false)
    (q_NoStep_NoMore : PySem.W.kitOne K (.ref C_NoMore) (.ref C_NoStep) = some false)
    (q_NoStep_NoName : PySem.W.kitOne K (.ref C_NoName) (.ref C_NoStep) = some false)
    (q_NoStep_NoStep : PySem.W.kitOne K (.ref C_NoStep) (.ref C_NoStep) = some true)
    (q_NoStep_NoText : PySem.W.kitOne K (.ref C_NoText) (.ref C_NoStep) = some false)
    (q_NoStep_NoWay : PySem.W.kitOne K (.ref C_NoWay) (.ref C_NoStep) = some false)
    (q_NoStep_Shunned : PySem.W.kitOne K (.ref C_Shunned) (.ref C_NoStep) = some false)
    (q_NoStep_TooFar : PySem.W.kitOne K (.ref C_TooFar) (.ref C_NoStep) = some false)
    (q_NoStep_TooMany : PySem.W.kitOne K (.ref C_TooMany) (.ref C_NoStep) = some false)
    (q_NoStep_BNoneType : PySem.W.kitOne K (.type "NoneType") (.ref C_NoStep) = some false)
    (q_NoText_NoMoment : PySem.W.kitOne K (.ref C_NoMoment) (.ref C_NoText) = some false)
    (q_NoText_NoMore : PySem.W.kitOne K (.ref C_NoMore) (.ref C_NoText) = some false)
    (q_NoText_NoName : PySem.W.kitOne K (.ref C_NoName) (.ref C_NoText) = some false)
    (q_NoText_NoStep : PySem.W.kitOne K (.ref C_NoStep) (.ref C_NoText) = some false)
    (q_NoText_NoText : PySem.W.kitOne K (.ref C_NoText) (.ref C_NoText) = some true)
    (q_NoText_NoWay : PySem.W.kitOne K (.ref C_NoWay) (.ref C_NoText) = some false)
    (q_NoText_Shunned : PySem.W.kitOne K (.ref C_Shunned) (.ref C_NoText) = some false)
    (q_NoText_TooFar : PySem.W.kitOne K (.ref C_TooFar) (.ref C_NoText) = some false)
    (q_NoText_TooMany : PySem.W.kitOne K (.ref C_TooMany) (.ref C_NoText) = some false)
    (q_NoText_BNoneType : PySem.W.kitOne K (.type "NoneType") (.ref C_NoText) = some false)
    (q_NoWay_NoMoment : PySem.W.kitOne K (.ref C_NoMoment) (.ref C_NoWay) = some false)
    (q_NoWay_NoMore : PySem.W.kitOne K (.ref C_NoMore) (.ref C_NoWay) = some false)
    (q_NoWay_NoName : PySem.W.kitOne K (.ref C_NoName) (.ref C_NoWay) = some false)
    (q_NoWay_NoStep : PySem.W.kitOne K (.ref C_NoStep) (.ref C_NoWay) = some false)
    (q_NoWay_NoText : PySem.W.kitOne K (.ref C_NoText) (.ref C_NoWay) = some false)
    (q_NoWay_NoWay : PySem.W.kitOne K (.ref C_NoWay) (.ref C_NoWay) = some true)
    (q_NoWay_Shunned : PySem.W.kitOne K (.ref C_Shunned) (.ref C_NoWay) = some false)
    (q_NoWay_TooFar : PySem.W.kitOne K (.ref C_TooFar) (.ref C_NoWay) = some false)
    (q_NoWay_TooMany : PySem.W.kitOne K (.ref C_TooMany) (.ref C_NoWay) = some false)
    (q_NoWay_BNoneType : PySem.W.kitOne K (.type "NoneType") (.ref C_NoWay) = some false)
    (q_OverflowError_NoMoment : PySem.W.kitOne K (.ref C_NoMoment) (.type "OverflowError") = some false)
    (q_OverflowError_NoMore : PySem.W.kitOne K (.ref C_NoMore) (.type "OverflowError") = some false)
    (q_OverflowError_NoName : PySem.W.kitOne K (.ref C_NoName) (.type "OverflowError") = some false)
    (q_OverflowError_NoStep : PySem.W.kitOne K (.ref C_NoStep) (.type "OverflowError") = some false)
    (q_OverflowError_NoText : PySem.W.kitOne K (.ref C_NoText) (.type "OverflowError") = some false)
    (q_OverflowError_NoWay : PySem.W.kitOne K (.ref C_NoWay) (.type "OverflowError") = some false)
    (q_OverflowError_Shunned : PySem.W.kitOne K (.ref C_Shunned) (.type "OverflowError") = some false)
    (q_OverflowError_TooFar : PySem.W.kitOne K (.ref C_TooFar) (.type "OverflowError") = some true)
    (q_OverflowError_TooMany : PySem.W.kitOne K (.ref C_TooMany) (.type "OverflowError") = some true)
    (q_OverflowError_BNoneType : PySem.W.kitOne K (.type "NoneType") (.type "OverflowError") = some false)
    (q_RuntimeError_NoMoment : PySem.W.kitOne K (.ref C_NoMoment) (.type "RuntimeError") = some false)
    (q_RuntimeError_NoMore : PySem.W.kitOne K (.ref C_NoMore) (.type "RuntimeError") = some false)
    (q_RuntimeError_NoName : PySem.W.kitOne K (.ref C_NoName) (.type "RuntimeError") = some false)
    (q_RuntimeError_NoStep : PySem.W.kitOne K (.ref C_NoStep) (.type "RuntimeError") = some false)
    (q_RuntimeError_NoText : PySem.W.kitOne K (.ref C_NoText) (.type "RuntimeError") = some false)
    (q_RuntimeError_NoWay : PySem.W.kitOne K (.ref C_NoWay) (.type "RuntimeError") = some false)
    (q_RuntimeError_Shunned : PySem.W.kitOne K (.ref C_Shunned) (.type "RuntimeError") = some false)
    (q_RuntimeError_TooFar : PySem.W.kitOne K (.ref C_TooFar) (.type "RuntimeError") = some false)
    (q_RuntimeError_TooMany : PySem.W.kitOne K (.ref C_TooMany) (.type "RuntimeError") = some false)
    (q_RuntimeError_BNoneType : PySem.W.kitOne K (.type "NoneType") (.type "RuntimeError") = some false)
    (q_Shunned_NoMoment : PySem.W.kitOne K (.ref C_NoMoment) (.ref C_Shunned) = some false)
    (q_Shunned_NoMore : PySem.W.kitOne K (.ref C_NoMore) (.ref C_Shunned) = some false)
    (q_Shunned_NoName : PySem.W.kitOne K (.ref C_NoName) (.ref C_Shunned) = some false)
    (q_Shunned_NoStep : PySem.W.kitOne K (.ref C_NoStep) (.ref C_Shunned) = some false)
    (q_Shunned_NoText : PySem.W.kitOne K (.ref C_NoText) (.ref C_Shunned) = some false)
    (q_Shunned_NoWay : PySem.W.kitOne K (.ref C_NoWay) (.ref C_Shunned) = some false)
    (q_Shunned_Shunned : PySem.W.kitOne K (.ref C_Shunned) (.ref C_Shunned) = some true)
    (q_Shunned_TooFar : PySem.W.kitOne K (.ref C_TooFar) (.ref C_Shunned) = some false)
    (q_Shunned_TooMany : PySem.W.kitOne K (.ref C_TooMany) (.ref C_Shunned) = some false)
    (q_Shunned_BNoneType : PySem.W.kitOne K (.type "NoneType") (.ref C_Shunned) = some false)
    (q_TooFar_NoMoment : PySem.W.kitOne K (.ref C_NoMoment) (.ref C_TooFar) = some false)
    (q_TooFar_NoMore : PySem.W.kitOne K (.ref C_NoMore) (.ref C_TooFar) = some false)
    (q_TooFar_NoName : PySem.W.kitOne K (.ref C_NoName) (.ref C_TooFar) = some false)
    (q_TooFar_NoStep : PySem.W.kitOne K (.ref C_NoStep) (.ref C_TooFar) = some false)
    (q_TooFar_NoText : PySem.W.kitOne K (.ref C_NoText) (.ref C_TooFar) = some false)
    (q_TooFar_NoWay : PySem.W.kitOne K (.ref C_NoWay) (.ref C_TooFar) = some false)
    (q_TooFar_Shunned : PySem.W.kitOne K (.ref C_Shunned) (.ref C_TooFar) = some false)
    (q_TooFar_TooFar : PySem.W.kitOne K (.ref C_TooFar) (.ref C_TooFar) = some true)
    (q_TooFar_TooMany : PySem.W.kitOne K (.ref C_TooMany) (.ref C_TooFar) = some false)
    (q_TooFar_BNoneType : PySem.W.kitOne K (.type "NoneType") (.ref C_TooFar) = some false)
    (q_TooMany_NoMoment : PySem.W.kitOne K (.ref C_NoMoment) (.ref C_TooMany) = some false)
    (q_TooMany_NoMore : PySem.W.kitOne K (.ref C_NoMore) (.ref C_TooMany) = some false)
    (q_TooMany_NoName : PySem.W.kitOne K (.ref C_NoName) (.ref C_TooMany) = some false)
    (q_TooMany_NoStep : PySem.W.kitOne K (.ref C_NoStep) (.ref C_TooMany) = some false)
    (q_TooMany_NoText : PySem.W.kitOne K (.ref C_NoText) (.ref C_TooMany) = some false)
    (q_TooMany_NoWay : PySem.W.kitOne K (.ref C_NoWay) (.ref C_TooMany) = some false)
    (q_TooMany_Shunned : PySem.W.kitOne K (.ref C_Shunned) (.ref C_TooMany) = some false)
    (q_TooMany_TooFar : PySem.W.kitOne K (.ref C_TooFar) (.ref C_TooMany) = some false)
    (q_TooMany_TooMany : PySem.W.kitOne K (.ref C_TooMany) (.ref C_TooMany) = some true)
    (q_TooMany_BNoneType : PySem.W.kitOne K (.type "NoneType") (.ref C_TooMany) = some false)
    (q_TypeError_NoMoment : PySem.W.kitOne K (.ref C_NoMoment) (.type "TypeError") = some false)
    (q_TypeError_NoMore : PySem.W.kitOne K (.ref C_NoMore) (.type "TypeError") = some false)
    (q_TypeError_NoName : PySem.W.kitOne K (.ref C_NoName) (.type "TypeError") = some false)
    (q_TypeError_NoStep : PySem.W.kitOne K (.ref C_NoStep) (.type "TypeError") = some false)
    (q_TypeError_NoText : PySem.W.kitOne K (.ref C_NoText) (.type "TypeError") = some false)
    (q_TypeError_NoWay : PySem.W.kitOne K (.ref C_NoWay) (.type "TypeError") = some false)
    (q_TypeError_Shunned : PySem.W.kitOne K (.ref C_Shunned) (.type "TypeError") = some false)
    (q_TypeError_TooFar : PySem.W.kitOne K (.ref C_TooFar) (.type "TypeError") = some false)
    (q_TypeError_TooMany : PySem.W.kitOne K (.ref C_TooMany) (.type "TypeError") = some false)
    (q_TypeError_BNoneType : PySem.W.kitOne K (.type "NoneType") (.type "TypeError") = some false)
    (q_ValueError_NoMoment : PySem.W.kitOne K (.ref C_NoMoment) (.type "ValueError") = some false)
    (q_ValueError_NoMore : PySem.W.kitOne K (.ref C_NoMore) (.type "ValueError") = some false)
    (q_ValueError_NoName : PySem.W.kitOne K (.ref C_NoName) (.type "ValueError") = some false)
    (q_ValueError_NoStep : PySem.W.kitOne K (.ref C_NoStep) (.type "ValueError") = some true)
    (q_ValueError_NoText : PySem.W.kitOne K (.ref C_NoText) (.type "ValueError") = some true)
    (q_ValueError_NoWay : PySem.W.kitOne K (.ref C_NoWay) (.type "ValueError") = some true)
    (q_ValueError_Shunned : PySem.W.kitOne K (.ref C_Shunned) (.type "ValueError") = some true)
    (q_ValueError_TooFar : PySem.W.kitOne K (.ref C_TooFar) (.type "ValueError") = some false)
    (q_ValueError_TooMany : PySem.W.kitOne K (.ref C_TooMany) (.type "ValueError") = some false)
    (q_ValueError_BNoneType : PySem.W.kitOne K (.type "NoneType") (.type "ValueError") = some false)
    (q_ZeroDivisionError_NoMoment : PySem.W.kitOne K (.ref C_NoMoment) (.type "ZeroDivisionError") = some false)
    (q_ZeroDivisionError_NoMore : PySem.W.kitOne K (.ref C_NoMore) (.type "ZeroDivisionError") = some false)
    (q_ZeroDivisionError_NoName : PySem.W.kitOne K (.ref C_NoName) (.type "ZeroDivisionError") = some false)
    (q_ZeroDivisionError_NoStep : PySem.W.kitOne K (.ref C_NoStep) (.type "ZeroDivisionError") = some false)
    (q_ZeroDivisionError_NoText : PySem.W.kitOne K (.ref C_NoText) (.type "ZeroDivisionError") = some false)
    (q_ZeroDivisionError_NoWay : PySem.W.kitOne K (.ref C_NoWay) (.type "ZeroDivisionError") = some false)
    (q_ZeroDivisionError_Shunned : PySem.W.kitOne K (.ref C_Shunned) (.type "ZeroDivisionError") = some false)
    (q_ZeroDivisionError_TooFar : PySem.W.kitOne K (.ref C_TooFar) (.type "ZeroDivisionError") = some false)
    (q_ZeroDivisionError_TooMany : PySem.W.kitOne K (.ref C_TooMany) (.type "ZeroDivisionError") = some false)
    (q_ZeroDivisionError_BNoneType : PySem.W.kitOne K (.type "NoneType") (.type "ZeroDivisionError") = some false)
    (ng_FAR_FENCE : PySem.W.nsIn K mainGlobals "FAR_FENCE" = some (some (.int 999 tk_FAR_FENCE)))
    (ng_FAR_FIRST : PySem.W.nsIn K mainGlobals "FAR_FIRST" = some (some (.int 50 tk_FAR_FIRST)))
    (ng_FAR_STAND : PySem.W.nsIn K mainGlobals "FAR_STAND" = some (some (.int 60 tk_FAR_STAND)))
    (ng_MOST_DOORS : PySem.W.nsIn K mainGlobals "MOST_DOORS" = some (some (.int 12 tk_MOST_DOORS)))
    (ng_MOST_LOTS : PySem.W.nsIn K mainGlobals "MOST_LOTS" = some (some (.int 6 tk_MOST_LOTS)))
    (ng_MOST_ODD : PySem.W.nsIn K mainGlobals "MOST_ODD" = some (some (.int 8 tk_MOST_ODD)))
    (ng_MOST_PRICE : PySem.W.nsIn K mainGlobals "MOST_PRICE" = some (some (.int 99 tk_MOST_PRICE)))
    (ng_MOST_ROOMS : PySem.W.nsIn K mainGlobals "MOST_ROOMS" = some (some (.int 6 tk_MOST_ROOMS)))
    (ng_MOST_ROUND : PySem.W.nsIn K mainGlobals "MOST_ROUND" = some (some (.int 60 tk_MOST_ROUND)))
    (ng_MOST_ROWS : PySem.W.nsIn K mainGlobals "MOST_ROWS" = some (some (.int 2000 tk_MOST_ROWS)))
    (ng_MOST_SPOTS : PySem.W.nsIn K mainGlobals "MOST_SPOTS" = some (some (.int 2000 tk_MOST_SPOTS)))
    (ng_MOST_STRETCH : PySem.W.nsIn K mainGlobals "MOST_STRETCH" = some (some (.int 999 tk_MOST_STRETCH)))
    (ng_MOST_TIMES : PySem.W.nsIn K mainGlobals "MOST_TIMES" = some (some (.int 1000000000000000000000000000000000000000000000000000000000000 tk_MOST_TIMES)))
    (a0 : PySem.W.nsIn K mainGlobals "_law_bases" = some (some (.ref f0)))
    (l0 : K.lookup f0 = some ⟨oc0, od0, .func (PySem.W.fnOf "_law_bases" "_law_bases" (defArgs (top 29)) (defBody (top 29)) (defScope (top 29)) .none kV0 dc0 pm0 an0 cd0 ct0), sl0⟩)
    (c0 : PySem.W.codeIn K cd0 "_law_bases" = true)
    (k0 : PySem.W.keepIn K (.ref f0) = true)
    (a1 : PySem.W.nsIn K mainGlobals "_law_draw" = some (some (.ref f1)))
    (l1 : K.lookup f1 = some ⟨oc1, od1, .func (PySem.W.fnOf "_law_draw" "_law_draw" (defArgs (top 25)) (defBody (top 25)) (defScope (top 25)) .none kV1 dc1 pm1 an1 cd1 ct1), sl1⟩)
    (c1 : PySem.W.codeIn K cd1 "_law_draw" = true)
    (k1 : PySem.W.keepIn K (.ref f1) = true)
    (a2 : PySem.W.nsIn K mainGlobals "_law_due_bases" = some (some (.ref f2)))
    (l2 : K.lookup f2 = some ⟨oc2, od2, .func (PySem.W.fnOf "_law_due_bases" "_law_due_bases" (defArgs (top 30)) (defBody (top 30)) (defScope (top 30)) .none kV2 dc2 pm2 an2 cd2 ct2), sl2⟩)
    (c2 : PySem.W.codeIn K cd2 "_law_due_bases" = true)
    (k2 : PySem.W.keepIn K (.ref f2) = true)
    (a3 : PySem.W.nsIn K mainGlobals "_law_fields" = some (some (.ref f3)))
    (l3 : K.lookup f3 = some ⟨oc3, od3, .func (PySem.W.fnOf "_law_fields" "_law_fields" (defArgs (top 31)) (defBody (top 31)) (defScope (top 31)) .none kV3 dc3 pm3 an3 cd3 ct3), sl3⟩)
    (c3 : PySem.W.codeIn K cd3 "_law_fields" = true)
    (k3 : PySem.W.keepIn K (.ref f3) = true)
    (a4 : PySem.W.nsIn K mainGlobals "_law_kinds" = some (some (.ref f4)))
    (l4 : K.lookup f4 = some ⟨oc4, od4, .func (PySem.W.fnOf "_law_kinds" "_law_kinds" (defArgs (top 28)) (defBody (top 28)) (defScope (top 28)) .none kV4 dc4 pm4 an4 cd4 ct4), sl4⟩)
    (c4 : PySem.W.codeIn K cd4 "_law_kinds" = true)
    (k4 : PySem.W.keepIn K (.ref f4) = true)
    (a5 : PySem.W.nsIn K mainGlobals "_law_made_errors" = some (some (.ref f5)))
    (l5 : K.lookup f5 = some ⟨oc5, od5, .func (PySem.W.fnOf "_law_made_errors" "_law_made_errors" (defArgs (top 27)) (defBody (top 27)) (defScope (top 27)) .none kV5 dc5 pm5 an5 cd5 ct5), sl5⟩)
    (c5 : PySem.W.codeIn K cd5 "_law_made_errors" = true)
    (k5 : PySem.W.keepIn K (.ref f5) = true)
    (a6 : PySem.W.nsIn K mainGlobals "_law_pen" = some (some (.ref f6)))
    (l6 : K.lookup f6 = some ⟨oc6, od6, .func (PySem.W.fnOf "_law_pen" "_law_pen" (defArgs (top 24)) (defBody (top 24)) (defScope (top 24)) .none kV6 dc6 pm6 an6 cd6 ct6), sl6⟩)
    (c6 : PySem.W.codeIn K cd6 "_law_pen" = true)
    (k6 : PySem.W.keepIn K (.ref f6) = true)
    (a7 : PySem.W.nsIn K mainGlobals "_law_pick" = some (some (.ref f7)))
    (l7 : K.lookup f7 = some ⟨oc7, od7, .func (PySem.W.fnOf "_law_pick" "_law_pick" (defArgs (top 26)) (defBody (top 26)) (defScope (top 26)) .none kV7 dc7 pm7 an7 cd7 ct7), sl7⟩)
    (c7 : PySem.W.codeIn K cd7 "_law_pick" = true)
    (k7 : PySem.W.keepIn K (.ref f7) = true)
    (a8 : PySem.W.nsIn K mainGlobals "law" = some (some (.ref f8)))
    (l8 : K.lookup f8 = some ⟨oc8, od8, .func (PySem.W.fnOf "law" "law" (defArgs (top 32)) (defBody (top 32)) (defScope (top 32)) .none kV8 dc8 pm8 an8 cd8 ct8), sl8⟩)
    (c8 : PySem.W.codeIn K cd8 "law" = true)
    (k8 : PySem.W.keepIn K (.ref f8) = true)
    : ∃ fd : FuncData, (∀ (s : Shared) (v : Value), BindsTo s fd ⟨[v], []⟩ [("script", v)]) ∧ ∀ base : Heap, K.In base → base.Ns mainGlobals mg → SysIn base → FnG l.prog w K mg base (L2.CX l.prog w) 4 fa fd ["script"] (spF K mg 1 m_law) := by
  cases hfa.symm.trans (PySem.W.mg_of X G a8)
  have mC_NoMoment := PySem.W.mg_of X G aC_NoMoment
  have mC_NoMore := PySem.W.mg_of X G aC_NoMore
  have mC_NoName := PySem.W.mg_of X G aC_NoName
  have mC_NoStep := PySem.W.mg_of X G aC_NoStep
  have mC_NoText := PySem.W.mg_of X G aC_NoText
  have mC_NoWay := PySem.W.mg_of X G aC_NoWay
  have mC_Shunned := PySem.W.mg_of X G aC_Shunned
  have mC_TooFar := PySem.W.mg_of X G aC_TooFar
  have mC_TooMany := PySem.W.mg_of X G aC_TooMany
  have xf_NoMoment : XfC K C_NoMoment := ⟨ga_NoMoment, gt_NoMoment, sb_NoMoment, hd_NoMoment⟩
  have xf_NoMore : XfC K C_NoMore := ⟨ga_NoMore, gt_NoMore, sb_NoMore, hd_NoMore⟩
  have xf_NoName : XfC K C_NoName := ⟨ga_NoName, gt_NoName, sb_NoName, hd_NoName⟩
  have xf_NoStep : XfC K C_NoStep := ⟨ga_NoStep, gt_NoStep, sb_NoStep, hd_NoStep⟩
  have xf_NoText : XfC K C_NoText := ⟨ga_NoText, gt_NoText, sb_NoText, hd_NoText⟩
  have xf_NoWay : XfC K C_NoWay := ⟨ga_NoWay, gt_NoWay, sb_NoWay, hd_NoWay⟩
  have xf_Shunned : XfC K C_Shunned := ⟨ga_Shunned, gt_Shunned, sb_Shunned, hd_Shunned⟩
  have xf_TooFar : XfC K C_TooFar := ⟨ga_TooFar, gt_TooFar, sb_TooFar, hd_TooFar⟩
  have xf_TooMany : XfC K C_TooMany := ⟨ga_TooMany, gt_TooMany, sb_TooMany, hd_TooMany⟩
  have ke_NoMoment : KitE K C_NoMoment := ⟨ci_NoMoment, ga_NoMoment, gt_NoMoment, sb_NoMoment, ca_NoMoment, gspec, gtake, mr_NoMoment⟩
  have ke_NoMore : KitE K C_NoMore := ⟨ci_NoMore, ga_NoMore, gt_NoMore, sb_NoMore, ca_NoMore, gspec, gtake, mr_NoMore⟩
  have ke_NoName : KitE K C_NoName := ⟨ci_NoName, ga_NoName, gt_NoName, sb_NoName, ca_NoName, gspec, gtake, mr_NoName⟩
  have ke_NoStep : KitE K C_NoStep := ⟨ci_NoStep, ga_NoStep, gt_NoStep, sb_NoStep, ca_NoStep, gspec, gtake, mr_NoStep⟩
  have ke_NoText : KitE K C_NoText := ⟨ci_NoText, ga_NoText, gt_NoText, sb_NoText, ca_NoText, gspec, gtake, mr_NoText⟩
  have ke_NoWay : KitE K C_NoWay := ⟨ci_NoWay, ga_NoWay, gt_NoWay, sb_NoWay, ca_NoWay, gspec, gtake, mr_NoWay⟩
  have ke_Shunned : KitE K C_Shunned := ⟨ci_Shunned, ga_Shunned, gt_Shunned, sb_Shunned, ca_Shunned, gspec, gtake, mr_Shunned⟩
  have ke_TooFar : KitE K C_TooFar := ⟨ci_TooFar, ga_TooFar, gt_TooFar, sb_TooFar, ca_TooFar, gspec, gtake, mr_TooFar⟩
  have ke_TooMany : KitE K C_TooMany := ⟨ci_TooMany, ga_TooMany, gt_TooMany, sb_TooMany, ca_TooMany, gspec, gtake, mr_TooMany⟩
  have x_asked : FldX K mg ["NoMoment", "NoName"] "asked" := (fldX_cons mC_NoMoment xf_NoMoment n_NoMoment_asked (fldX_cons mC_NoName xf_NoName n_NoName_asked fldX_nil))
  have x_at : FldX K mg ["NoWay"] "at" := (fldX_cons mC_NoWay xf_NoWay n_NoWay_at fldX_nil)
  have x_house : FldX K mg ["TooFar"] "house" := (fldX_cons mC_TooFar xf_TooFar n_TooFar_house fldX_nil)
  have x_most : FldX K mg ["TooMany"] "most" := (fldX_cons mC_TooMany xf_TooMany n_TooMany_most fldX_nil)
  have x_row : FldX K mg ["NoText"] "row" := (fldX_cons mC_NoText xf_NoText n_NoText_row fldX_nil)
  have x_stand : FldX K mg ["Shunned"] "stand" := (fldX_cons mC_Shunned xf_Shunned n_Shunned_stand fldX_nil)
  have x_why : FldX K mg ["NoStep", "NoWay"] "why" := (fldX_cons mC_NoStep xf_NoStep n_NoStep_why (fldX_cons mC_NoWay xf_NoWay n_NoWay_why fldX_nil))
  have x_word : FldX K mg ["NoMore"] "word" := (fldX_cons mC_NoMore xf_NoMore n_NoMore_word fldX_nil)
  have FI_NoMoment := fun_mk (st := (inClass (top 6) 0)) lI_NoMoment cI_NoMoment kI_NoMoment
  have qI_NoMoment := FI_NoMoment.binds (ps := ["self", "asked"]) fun _ _ _ _ _ _ us hl => match us, hl with | [_, _], _ => rfl
  have ox_NoMoment : OexG K C_NoMoment := ⟨⟨nm_NoMoment, qu_NoMoment, N_NoMoment, bs_NoMoment, _, sn_NoMoment, su_NoMoment, ab_NoMoment, co_NoMoment, dd_NoMoment, m0_NoMoment, m1_NoMoment, m2_NoMoment, m3_NoMoment, m5_NoMoment, _, xL_NoMoment, mkX_IE⟩, sa_NoMoment, sb_NoMoment, ty_NoMoment, kC_NoMoment⟩
  have rk_NoMoment_asked : ∀ base, FnXK l.prog w K mg base "NoMoment" ["asked"] ["asked"] := fun base => ⟨_, _, _, _, mC_NoMoment, ox_NoMoment, aI_NoMoment, tI_NoMoment, FI_NoMoment.kbn (ps := ["self", "asked"]) (fun _ _ _ _ _ _ us ws h1 h2 => match us, ws, h1, h2 with | [_], [_], _, _ => rfl), (by intro f hf; simp only [List.mem_cons, List.not_mem_nil, or_false] at hf; obtain rfl := hf; exact n_NoMoment_asked), ix_NoMoment FI_NoMoment⟩
  have r_NoMoment : ∀ base, FnX l.prog w K mg base "NoMoment" ["asked"] := fun base => ⟨_, _, _, _, mC_NoMoment, ox_NoMoment, aI_NoMoment, tI_NoMoment, qI_NoMoment, (by intro f hf; simp only [List.mem_cons, List.not_mem_nil, or_false] at hf; obtain rfl := hf; exact n_NoMoment_asked), ix_NoMoment FI_NoMoment⟩
  have FI_NoMore := fun_mk (st := (inClass (top 7) 0)) lI_NoMore cI_NoMore kI_NoMore
  have qI_NoMore := FI_NoMore.binds (ps := ["self", "word"]) fun _ _ _ _ _ _ us hl => match us, hl with | [_, _], _ => rfl
  have ox_NoMore : OexG K C_NoMore := ⟨⟨nm_NoMore, qu_NoMore, N_NoMore, bs_NoMore, _, sn_NoMore, su_NoMore, ab_NoMore, co_NoMore, dd_NoMore, m0_NoMore, m1_NoMore, m2_NoMore, m3_NoMore, m5_NoMore, _, xL_NoMore, mkX_LE⟩, sa_NoMore, sb_NoMore, ty_NoMore, kC_NoMore⟩
  have rk_NoMore_word : ∀ base, FnXK l.prog w K mg base "NoMore" ["word"] ["word"] := fun base => ⟨_, _, _, _, mC_NoMore, ox_NoMore, aI_NoMore, tI_NoMore, FI_NoMore.kbn (ps := ["self", "word"]) (fun _ _ _ _ _ _ us ws h1 h2 => match us, ws, h1, h2 with | [_], [_], _, _ => rfl), (by intro f hf; simp only [List.mem_cons, List.not_mem_nil, or_false] at hf; obtain rfl := hf; exact n_NoMore_word), ix_NoMore FI_NoMore⟩
  have r_NoMore : ∀ base, FnX l.prog w K mg base "NoMore" ["word"] := fun base => ⟨_, _, _, _, mC_NoMore, ox_NoMore, aI_NoMore, tI_NoMore, qI_NoMore, (by intro f hf; simp only [List.mem_cons, List.not_mem_nil, or_false] at hf; obtain rfl := hf; exact n_NoMore_word), ix_NoMore FI_NoMore⟩
  have FI_NoName := fun_mk (st := (inClass (top 5) 0)) lI_NoName cI_NoName kI_NoName
  have qI_NoName := FI_NoName.binds (ps := ["self", "asked"]) fun _ _ _ _ _ _ us hl => match us, hl with | [_, _], _ => rfl
  have ox_NoName : OexG K C_NoName := ⟨⟨nm_NoName, qu_NoName, N_NoName, bs_NoName, _, sn_NoName, su_NoName, ab_NoName, co_NoName, dd_NoName, m0_NoName, m1_NoName, m2_NoName, m3_NoName, m5_NoName, _, xL_NoName, mkX_KE⟩, sa_NoName, sb_NoName, ty_NoName, kC_NoName⟩
  have rk_NoName_asked : ∀ base, FnXK l.prog w K mg base "NoName" ["asked"] ["asked"] := fun base => ⟨_, _, _, _, mC_NoName, ox_NoName, aI_NoName, tI_NoName, FI_NoName.kbn (ps := ["self", "asked"]) (fun _ _ _ _ _ _ us ws h1 h2 => match us, ws, h1, h2 with | [_], [_], _, _ => rfl), (by intro f hf; simp only [List.mem_cons, List.not_mem_nil, or_false] at hf; obtain rfl := hf; exact n_NoName_asked), ix_NoName FI_NoName⟩
  have r_NoName : ∀ base, FnX l.prog w K mg base "NoName" ["asked"] := fun base => ⟨_, _, _, _, mC_NoName, ox_NoName, aI_NoName, tI_NoName, qI_NoName, (by intro f hf; simp only [List.mem_cons, List.not_mem_nil, or_false] at hf; obtain rfl := hf; exact n_NoName_asked), ix_NoName FI_NoName⟩
  have FI_NoStep := fun_mk (st := (inClass (top 2) 0)) lI_NoStep cI_NoStep kI_NoStep
  have qI_NoStep := FI_NoStep.binds (ps := ["self", "why"]) fun _ _ _ _ _ _ us hl => match us, hl with | [_, _], _ => rfl
  have ox_NoStep : OexG K C_NoStep := ⟨⟨nm_NoStep, qu_NoStep, N_NoStep, bs_NoStep, _, sn_NoStep, su_NoStep, ab_NoStep, co_NoStep, dd_NoStep, m0_NoStep, m1_NoStep, m2_NoStep, m3_NoStep, m5_NoStep, _, xL_NoStep, mkX_VE⟩, sa_NoStep, sb_NoStep, ty_NoStep, kC_NoStep⟩
  have rk_NoStep_why : ∀ base, FnXK l.prog w K mg base "NoStep" ["why"] ["why"] := fun base => ⟨_, _, _, _, mC_NoStep, ox_NoStep, aI_NoStep, tI_NoStep, FI_NoStep.kbn (ps := ["self", "why"]) (fun _ _ _ _ _ _ us ws h1 h2 => match us, ws, h1, h2 with | [_], [_], _, _ => rfl), (by intro f hf; simp only [List.mem_cons, List.not_mem_nil, or_false] at hf; obtain rfl := hf; exact n_NoStep_why), ix_NoStep FI_NoStep⟩
  have r_NoStep : ∀ base, FnX l.prog w K mg base "NoStep" ["why"] := fun base => ⟨_, _, _, _, mC_NoStep, ox_NoStep, aI_NoStep, tI_NoStep, qI_NoStep, (by intro f hf; simp only [List.mem_cons, List.not_mem_nil, or_false] at hf; obtain rfl := hf; exact n_NoStep_why), ix_NoStep FI_NoStep⟩
  have FI_NoText := fun_mk (st := (inClass (top 1) 0)) lI_NoText cI_NoText kI_NoText
  have qI_NoText := FI_NoText.binds (ps := ["self", "row"]) fun _ _ _ _ _ _ us hl => match us, hl with | [_, _], _ => rfl
  have ox_NoText : OexG K C_NoText := ⟨⟨nm_NoText, qu_NoText, N_NoText, bs_NoText, _, sn_NoText, su_NoText, ab_NoText, co_NoText, dd_NoText, m0_NoText, m1_NoText, m2_NoText, m3_NoText, m5_NoText, _, xL_NoText, mkX_VE⟩, sa_NoText, sb_NoText, ty_NoText, kC_NoText⟩
  have rk_NoText_row : ∀ base, FnXK l.prog w K mg base "NoText" ["row"] ["row"] := fun base => ⟨_, _, _, _, mC_NoText, ox_NoText, aI_NoText, tI_NoText, FI_NoText.kbn (ps := ["self", "row"]) (fun _ _ _ _ _ _ us ws h1 h2 => match us, ws, h1, h2 with | [_], [_], _, _ => rfl), (by intro f hf; simp only [List.mem_cons, List.not_mem_nil, or_false] at hf; obtain rfl := hf; exact n_NoText_row), ix_NoText FI_NoText⟩
  have r_NoText : ∀ base, FnX l.prog w K mg base "NoText" ["row"] := fun base => ⟨_, _, _, _, mC_NoText, ox_NoText, aI_NoText, tI_NoText, qI_NoText, (by intro f hf; simp only [List.mem_cons, List.not_mem_nil, or_false] at hf; obtain rfl := hf; exact n_NoText_row), ix_NoText FI_NoText⟩
  have FI_NoWay := fun_mk (st := (inClass (top 3) 0)) lI_NoWay cI_NoWay kI_NoWay
  have qI_NoWay := FI_NoWay.binds (ps := ["self", "at", "why"]) fun _ _ _ _ _ _ us hl => match us, hl with | [_, _, _], _ => rfl
  have ox_NoWay : OexG K C_NoWay := ⟨⟨nm_NoWay, qu_NoWay, N_NoWay, bs_NoWay, _, sn_NoWay, su_NoWay, ab_NoWay, co_NoWay, dd_NoWay, m0_NoWay, m1_NoWay, m2_NoWay, m3_NoWay, m5_NoWay, _, xL_NoWay, mkX_VE⟩, sa_NoWay, sb_NoWay, ty_NoWay, kC_NoWay⟩
  have rk_NoWay_why_at : ∀ base, FnXK l.prog w K mg base "NoWay" ["at", "why"] ["why", "at"] := fun base => ⟨_, _, _, _, mC_NoWay, ox_NoWay, aI_NoWay, tI_NoWay, FI_NoWay.kbn (ps := ["self", "at", "why"]) (fun _ _ _ _ _ _ us ws h1 h2 => match us, ws, h1, h2 with | [_], [_, _], _, _ => rfl), (by intro f hf; simp only [List.mem_cons, List.not_mem_nil, or_false] at hf; rcases hf with rfl | rfl; exact n_NoWay_at; exact n_NoWay_why), ix_NoWay FI_NoWay⟩
  have r_NoWay : ∀ base, FnX l.prog w K mg base "NoWay" ["at", "why"] := fun base => ⟨_, _, _, _, mC_NoWay, ox_NoWay, aI_NoWay, tI_NoWay, qI_NoWay, (by intro f hf; simp only [List.mem_cons, List.not_mem_nil, or_false] at hf; rcases hf with rfl | rfl; exact n_NoWay_at; exact n_NoWay_why), ix_NoWay FI_NoWay⟩
  have FI_Shunned := fun_mk (st := (inClass (top 4) 0)) lI_Shunned cI_Shunned kI_Shunned
  have qI_Shunned := FI_Shunned.binds (ps := ["self", "stand"]) fun _ _ _ _ _ _ us hl => match us, hl with | [_, _], _ => rfl
  have ox_Shunned : OexG K C_Shunned := ⟨⟨nm_Shunned, qu_Shunned, N_Shunned, bs_Shunned, _, sn_Shunned, su_Shunned, ab_Shunned, co_Shunned, dd_Shunned, m0_Shunned, m1_Shunned, m2_Shunned, m3_Shunned, m5_Shunned, _, xL_Shunned, mkX_VE⟩, sa_Shunned, sb_Shunned, ty_Shunned, kC_Shunned⟩
  have rk_Shunned_stand : ∀ base, FnXK l.prog w K mg base "Shunned" ["stand"] ["stand"] := fun base => ⟨_, _, _, _, mC_Shunned, ox_Shunned, aI_Shunned, tI_Shunned, FI_Shunned.kbn (ps := ["self", "stand"]) (fun _ _ _ _ _ _ us ws h1 h2 => match us, ws, h1, h2 with | [_], [_], _, _ => rfl), (by intro f hf; simp only [List.mem_cons, List.not_mem_nil, or_false] at hf; obtain rfl := hf; exact n_Shunned_stand), ix_Shunned FI_Shunned⟩
  have r_Shunned : ∀ base, FnX l.prog w K mg base "Shunned" ["stand"] := fun base => ⟨_, _, _, _, mC_Shunned, ox_Shunned, aI_Shunned, tI_Shunned, qI_Shunned, (by intro f hf; simp only [List.mem_cons, List.not_mem_nil, or_false] at hf; obtain rfl := hf; exact n_Shunned_stand), ix_Shunned FI_Shunned⟩
  have FI_TooFar := fun_mk (st := (inClass (top 8) 0)) lI_TooFar cI_TooFar kI_TooFar
  have qI_TooFar := FI_TooFar.binds (ps := ["self", "house"]) fun _ _ _ _ _ _ us hl => match us, hl with | [_, _], _ => rfl
  have ox_TooFar : OexG K C_TooFar := ⟨⟨nm_TooFar, qu_TooFar, N_TooFar, bs_TooFar, _, sn_TooFar, su_TooFar, ab_TooFar, co_TooFar, dd_TooFar, m0_TooFar, m1_TooFar, m2_TooFar, m3_TooFar, m5_TooFar, _, xL_TooFar, mkX_OE⟩, sa_TooFar, sb_TooFar, ty_TooFar, kC_TooFar⟩
  have rk_TooFar_house : ∀ base, FnXK l.prog w K mg base "TooFar" ["house"] ["house"] := fun base => ⟨_, _, _, _, mC_TooFar, ox_TooFar, aI_TooFar, tI_TooFar, FI_TooFar.kbn (ps := ["self", "house"]) (fun _ _ _ _ _ _ us ws h1 h2 => match us, ws, h1, h2 with | [_], [_], _, _ => rfl), (by intro f hf; simp only [List.mem_cons, List.not_mem_nil, or_false] at hf; obtain rfl := hf; exact n_TooFar_house), ix_TooFar FI_TooFar⟩
  have r_TooFar : ∀ base, FnX l.prog w K mg base "TooFar" ["house"] := fun base => ⟨_, _, _, _, mC_TooFar, ox_TooFar, aI_TooFar, tI_TooFar, qI_TooFar, (by intro f hf; simp only [List.mem_cons, List.not_mem_nil, or_false] at hf; obtain rfl := hf; exact n_TooFar_house), ix_TooFar FI_TooFar⟩
  have FI_TooMany := fun_mk (st := (inClass (top 9) 0)) lI_TooMany cI_TooMany kI_TooMany
  have qI_TooMany := FI_TooMany.binds (ps := ["self", "most"]) fun _ _ _ _ _ _ us hl => match us, hl with | [_, _], _ => rfl
  have ox_TooMany : OexG K C_TooMany := ⟨⟨nm_TooMany, qu_TooMany, N_TooMany, bs_TooMany, _, sn_TooMany, su_TooMany, ab_TooMany, co_TooMany, dd_TooMany, m0_TooMany, m1_TooMany, m2_TooMany, m3_TooMany, m5_TooMany, _, xL_TooMany, mkX_OE⟩, sa_TooMany, sb_TooMany, ty_TooMany, kC_TooMany⟩
  have rk_TooMany_most : ∀ base, FnXK l.prog w K mg base "TooMany" ["most"] ["most"] := fun base => ⟨_, _, _, _, mC_TooMany, ox_TooMany, aI_TooMany, tI_TooMany, FI_TooMany.kbn (ps := ["self", "most"]) (fun _ _ _ _ _ _ us ws h1 h2 => match us, ws, h1, h2 with | [_], [_], _, _ => rfl), (by intro f hf; simp only [List.mem_cons, List.not_mem_nil, or_false] at hf; obtain rfl := hf; exact n_TooMany_most), ix_TooMany FI_TooMany⟩
  have r_TooMany : ∀ base, FnX l.prog w K mg base "TooMany" ["most"] := fun base => ⟨_, _, _, _, mC_TooMany, ox_TooMany, aI_TooMany, tI_TooMany, qI_TooMany, (by intro f hf; simp only [List.mem_cons, List.not_mem_nil, or_false] at hf; obtain rfl := hf; exact n_TooMany_most), ix_TooMany FI_TooMany⟩
  have z_ArithmeticError : mg "ArithmeticError" = none := PySem.W.mg_none_of X G nz_ArithmeticError
  have z_IndexError : mg "IndexError" = none := PySem.W.mg_none_of X G nz_IndexError
  have z_KeyError : mg "KeyError" = none := PySem.W.mg_none_of X G nz_KeyError
  have z_LookupError : mg "LookupError" = none := PySem.W.mg_none_of X G nz_LookupError
  have z_OverflowError : mg "OverflowError" = none := PySem.W.mg_none_of X G nz_OverflowError
  have z_RuntimeError : mg "RuntimeError" = none := PySem.W.mg_none_of X G nz_RuntimeError
  have z_TypeError : mg "TypeError" = none := PySem.W.mg_none_of X G nz_TypeError
  have z_ValueError : mg "ValueError" = none := PySem.W.mg_none_of X G nz_ValueError
  have z_ZeroDivisionError : mg "ZeroDivisionError" = none := PySem.W.mg_none_of X G nz_ZeroDivisionError
  have z_abs : mg "abs" = none := PySem.W.mg_none_of X G nz_abs
  have z_isinstance : mg "isinstance" = none := PySem.W.mg_none_of X G nz_isinstance
  have z_len : mg "len" = none := PySem.W.mg_none_of X G nz_len
  have z_list : mg "list" = none := PySem.W.mg_none_of X G nz_list
  have z_min : mg "min" = none := PySem.W.mg_none_of X G nz_min
  have z_range : mg "range" = none := PySem.W.mg_none_of X G nz_range
  have z_repr : mg "repr" = none := PySem.W.mg_none_of X G nz_repr
  have i_ArithmeticError : KT1 K mg "ArithmeticError" [("NoMoment", false), ("NoMore", false), ("NoName", false), ("NoStep", false), ("NoText", false), ("NoWay", false), ("Shunned", false), ("TooFar", true), ("TooMany", true)] [] [("NoneType", false)] := kt1_mk (clsQ_ty z_ArithmeticError (by decide +kernel)) (te_cons mC_NoMoment ke_NoMoment q_ArithmeticError_NoMoment (te_cons mC_NoMore ke_NoMore q_ArithmeticError_NoMore (te_cons mC_NoName ke_NoName q_ArithmeticError_NoName (te_cons mC_NoStep ke_NoStep q_ArithmeticError_NoStep (te_cons mC_NoText ke_NoText q_ArithmeticError_NoText (te_cons mC_NoWay ke_NoWay q_ArithmeticError_NoWay (te_cons mC_Shunned ke_Shunned q_ArithmeticError_Shunned (te_cons mC_TooFar ke_TooFar q_ArithmeticError_TooFar (te_cons mC_TooMany ke_TooMany q_ArithmeticError_TooMany te_nil))))))))) to_nil (tb_cons q_ArithmeticError_BNoneType tb_nil)
  have i_IndexError : KT1 K mg "IndexError" [("NoMoment", true), ("NoMore", false), ("NoName", false), ("NoStep", false), ("NoText", false), ("NoWay", false), ("Shunned", false), ("TooFar", false), ("TooMany", false)] [] [("NoneType", false)] := kt1_mk (clsQ_ty z_IndexError (by decide +kernel)) (te_cons mC_NoMoment ke_NoMoment q_IndexError_NoMoment (te_cons mC_NoMore ke_NoMore q_IndexError_NoMore (te_cons mC_NoName ke_NoName q_IndexError_NoName (te_cons mC_NoStep ke_NoStep q_IndexError_NoStep (te_cons mC_NoText ke_NoText q_IndexError_NoText (te_cons mC_NoWay ke_NoWay q_IndexError_NoWay (te_cons mC_Shunned ke_Shunned q_IndexError_Shunned (te_cons mC_TooFar ke_TooFar q_IndexError_TooFar (te_cons mC_TooMany ke_TooMany q_IndexError_TooMany te_nil))))))))) to_nil (tb_cons q_IndexError_BNoneType tb_nil)
  have i_KeyError : KT1 K mg "KeyError" [("NoMoment", false), ("NoMore", false), ("NoName", true), ("NoStep", false), ("NoText", false), ("NoWay", false), ("Shunned", false), ("TooFar", false), ("TooMany", false)] [] [("NoneType", false)] := kt1_mk (clsQ_ty z_KeyError (by decide +kernel)) (te_cons mC_NoMoment ke_NoMoment q_KeyError_NoMoment (te_cons mC_NoMore ke_NoMore q_KeyError_NoMore (te_cons mC_NoName ke_NoName q_KeyError_NoName (te_cons mC_NoStep ke_NoStep q_KeyError_NoStep (te_cons mC_NoText ke_NoText q_KeyError_NoText (te_cons mC_NoWay ke_NoWay q_KeyError_NoWay (te_cons mC_Shunned ke_Shunned q_KeyError_Shunned (te_cons mC_TooFar ke_TooFar q_KeyError_TooFar (te_cons mC_TooMany ke_TooMany q_KeyError_TooMany te_nil))))))))) to_nil (tb_cons q_KeyError_BNoneType tb_nil)
  have i_LookupError : KT1 K mg "LookupError" [("NoMoment", true), ("NoMore", true), ("NoName", true), ("NoStep", false), ("NoText", false), ("NoWay", false), ("Shunned", false), ("TooFar", false), ("TooMany", false)] [] [("NoneType", false)] := kt1_mk (clsQ_ty z_LookupError (by decide +kernel)) (te_cons mC_NoMoment ke_NoMoment q_LookupError_NoMoment (te_cons mC_NoMore ke_NoMore q_LookupError_NoMore (te_cons mC_NoName ke_NoName q_LookupError_NoName (te_cons mC_NoStep ke_NoStep q_LookupError_NoStep (te_cons mC_NoText ke_NoText q_LookupError_NoText (te_cons mC_NoWay ke_NoWay q_LookupError_NoWay (te_cons mC_Shunned ke_Shunned q_LookupError_Shunned (te_cons mC_TooFar ke_TooFar q_LookupError_TooFar (te_cons mC_TooMany ke_TooMany q_LookupError_TooMany te_nil))))))))) to_nil (tb_cons q_LookupError_BNoneType tb_nil)
  have i_NoMoment : KT1 K mg "NoMoment" [("NoMoment", true), ("NoMore", false), ("NoName", false), ("NoStep", false), ("NoText", false), ("NoWay", false), ("Shunned", false), ("TooFar", false), ("TooMany", false)] [] [("NoneType", false)] := kt1_mk (clsQ_own mC_NoMoment) (te_cons mC_NoMoment ke_NoMoment q_NoMoment_NoMoment (te_cons mC_NoMore ke_NoMore q_NoMoment_NoMore (te_cons mC_NoName ke_NoName q_NoMoment_NoName (te_cons mC_NoStep ke_NoStep q_NoMoment_NoStep (te_cons mC_NoText ke_NoText q_NoMoment_NoText (te_cons mC_NoWay ke_NoWay q_NoMoment_NoWay (te_cons mC_Shunned ke_Shunned q_NoMoment_Shunned (te_cons mC_TooFar ke_TooFar q_NoMoment_TooFar (te_cons mC_TooMany ke_TooMany q_NoMoment_TooMany te_nil))))))))) to_nil (tb_cons q_NoMoment_BNoneType tb_nil)
  have i_NoMore : KT1 K mg "NoMore" [("NoMoment", false), ("NoMore", true), ("NoName", false), ("NoStep", false), ("NoText", false), ("NoWay", false), ("Shunned", false), ("TooFar", false), ("TooMany", false)] [] [("NoneType", false)] := kt1_mk (clsQ_own mC_NoMore) (te_cons mC_NoMoment ke_NoMoment q_NoMore_NoMoment (te_cons mC_NoMore ke_NoMore q_NoMore_NoMore (te_cons mC_NoName ke_NoName q_NoMore_NoName (te_cons mC_NoStep ke_NoStep q_NoMore_NoStep (te_cons mC_NoText ke_NoText q_NoMore_NoText (te_cons mC_NoWay ke_NoWay q_NoMore_NoWay (te_cons mC_Shunned ke_Shunned q_NoMore_Shunned (te_cons mC_TooFar ke_TooFar q_NoMore_TooFar (te_cons mC_TooMany ke_TooMany q_NoMore_TooMany te_nil))))))))) to_nil (tb_cons q_NoMore_BNoneType tb_nil)
  have i_NoName : KT1 K mg "NoName" [("NoMoment", false), ("NoMore", false), ("NoName", true), ("NoStep", false), ("NoText", false), ("NoWay", false), ("Shunned", false), ("TooFar", false), ("TooMany", false)] [] [("NoneType", false)] := kt1_mk (clsQ_own mC_NoName) (te_cons mC_NoMoment ke_NoMoment q_NoName_NoMoment (te_cons mC_NoMore ke_NoMore q_NoName_NoMore (te_cons mC_NoName ke_NoName q_NoName_NoName (te_cons mC_NoStep ke_NoStep q_NoName_NoStep (te_cons mC_NoText ke_NoText q_NoName_NoText (te_cons mC_NoWay ke_NoWay q_NoName_NoWay (te_cons mC_Shunned ke_Shunned q_NoName_Shunned (te_cons mC_TooFar ke_TooFar q_NoName_TooFar (te_cons mC_TooMany ke_TooMany q_NoName_TooMany te_nil))))))))) to_nil (tb_cons q_NoName_BNoneType tb_nil)
  have i_NoStep : KT1 K mg "NoStep" [("NoMoment", false), ("NoMore", false), ("NoName", false), ("NoStep", true), ("NoText", false), ("NoWay", false), ("Shunned", false), ("TooFar", false), ("TooMany", false)] [] [("NoneType", false)] := kt1_mk (clsQ_own mC_NoStep) (te_cons mC_NoMoment ke_NoMoment q_NoStep_NoMoment (te_cons mC_NoMore ke_NoMore q_NoStep_NoMore (te_cons mC_NoName ke_NoName q_NoStep_NoName (te_cons mC_NoStep ke_NoStep q_NoStep_NoStep (te_cons mC_NoText ke_NoText q_NoStep_NoText (te_cons mC_NoWay ke_NoWay q_NoStep_NoWay (te_cons mC_Shunned ke_Shunned q_NoStep_Shunned (te_cons mC_TooFar ke_TooFar q_NoStep_TooFar (te_cons mC_TooMany ke_TooMany q_NoStep_TooMany te_nil))))))))) to_nil (tb_cons q_NoStep_BNoneType tb_nil)
  have i_NoText : KT1 K mg "NoText" [("NoMoment", false), ("NoMore", false), ("NoName", false), ("NoStep", false), ("NoText", true), ("NoWay", false), ("Shunned", false), ("TooFar", false), ("TooMany", false)] [] [("NoneType", false)] := kt1_mk (clsQ_own mC_NoText) (te_cons mC_NoMoment ke_NoMoment q_NoText_NoMoment (te_cons mC_NoMore ke_NoMore q_NoText_NoMore (te_cons mC_NoName ke_NoName q_NoText_NoName (te_cons mC_NoStep ke_NoStep q_NoText_NoStep (te_cons mC_NoText ke_NoText q_NoText_NoText (te_cons mC_NoWay ke_NoWay q_NoText_NoWay (te_cons mC_Shunned ke_Shunned q_NoText_Shunned (te_cons mC_TooFar ke_TooFar q_NoText_TooFar (te_cons mC_TooMany ke_TooMany q_NoText_TooMany te_nil))))))))) to_nil (tb_cons q_NoText_BNoneType tb_nil)
  have i_NoWay : KT1 K mg "NoWay" [("NoMoment", false), ("NoMore", false), ("NoName", false), ("NoStep", false), ("NoText", false), ("NoWay", true), ("Shunned", false), ("TooFar", false), ("TooMany", false)] [] [("NoneType", false)] := kt1_mk (clsQ_own mC_NoWay) (te_cons mC_NoMoment ke_NoMoment q_NoWay_NoMoment (te_cons mC_NoMore ke_NoMore q_NoWay_NoMore (te_cons mC_NoName ke_NoName q_NoWay_NoName (te_cons mC_NoStep ke_NoStep q_NoWay_NoStep (te_cons mC_NoText ke_NoText q_NoWay_NoText (te_cons mC_NoWay ke_NoWay q_NoWay_NoWay (te_cons mC_Shunned ke_Shunned q_NoWay_Shunned (te_cons mC_TooFar ke_TooFar q_NoWay_TooFar (te_cons mC_TooMany ke_TooMany q_NoWay_TooMany te_nil))))))))) to_nil (tb_cons q_NoWay_BNoneType tb_nil)
  have i_OverflowError : KT1 K mg "OverflowError" [("NoMoment", false), ("NoMore", false), ("NoName", false), ("NoStep", false), ("NoText", false), ("NoWay", false), ("Shunned", false), ("TooFar", true), ("TooMany", true)] [] [("NoneType", false)] := kt1_mk (clsQ_ty z_OverflowError (by decide +kernel)) (te_cons mC_NoMoment ke_NoMoment q_OverflowError_NoMoment (te_cons mC_NoMore ke_NoMore q_OverflowError_NoMore (te_cons mC_NoName ke_NoName q_OverflowError_NoName (te_cons mC_NoStep ke_NoStep q_OverflowError_NoStep (te_cons mC_NoText ke_NoText q_OverflowError_NoText (te_cons mC_NoWay ke_NoWay q_OverflowError_NoWay (te_cons mC_Shunned ke_Shunned q_OverflowError_Shunned (te_cons mC_TooFar ke_TooFar q_OverflowError_TooFar (te_cons mC_TooMany ke_TooMany q_OverflowError_TooMany te_nil))))))))) to_nil (tb_cons q_OverflowError_BNoneType tb_nil)
  have i_RuntimeError : KT1 K mg "RuntimeError" [("NoMoment", false), ("NoMore", false), ("NoName", false), ("NoStep", false), ("NoText", false), ("NoWay", false), ("Shunned", false), ("TooFar", false), ("TooMany", false)] [] [("NoneType", false)] := kt1_mk (clsQ_ty z_RuntimeError (by decide +kernel)) (te_cons mC_NoMoment ke_NoMoment q_RuntimeError_NoMoment (te_cons mC_NoMore ke_NoMore q_RuntimeError_NoMore (te_cons mC_NoName ke_NoName q_RuntimeError_NoName (te_cons mC_NoStep ke_NoStep q_RuntimeError_NoStep (te_cons mC_NoText ke_NoText q_RuntimeError_NoText (te_cons mC_NoWay ke_NoWay q_RuntimeError_NoWay (te_cons mC_Shunned ke_Shunned q_RuntimeError_Shunned (te_cons mC_TooFar ke_TooFar q_RuntimeError_TooFar (te_cons mC_TooMany ke_TooMany q_RuntimeError_TooMany te_nil))))))))) to_nil (tb_cons q_RuntimeError_BNoneType tb_nil)
  have i_Shunned : KT1 K mg "Shunned" [("NoMoment", false), ("NoMore", false), ("NoName", false), ("NoStep", false), ("NoText", false), ("NoWay", false), ("Shunned", true), ("TooFar", false), ("TooMany", false)] [] [("NoneType", false)] := kt1_mk (clsQ_own mC_Shunned) (te_cons mC_NoMoment ke_NoMoment q_Shunned_NoMoment (te_cons mC_NoMore ke_NoMore q_Shunned_NoMore (te_cons mC_NoName ke_NoName q_Shunned_NoName (te_cons mC_NoStep ke_NoStep q_Shunned_NoStep (te_cons mC_NoText ke_NoText q_Shunned_NoText (te_cons mC_NoWay ke_NoWay q_Shunned_NoWay (te_cons mC_Shunned ke_Shunned q_Shunned_Shunned (te_cons mC_TooFar ke_TooFar q_Shunned_TooFar (te_cons mC_TooMany ke_TooMany q_Shunned_TooMany te_nil))))))))) to_nil (tb_cons q_Shunned_BNoneType tb_nil)
  have i_TooFar : KT1 K mg "TooFar" [("NoMoment", false), ("NoMore", false), ("NoName", false), ("NoStep", false), ("NoText", false), ("NoWay", false), ("Shunned", false), ("TooFar", true), ("TooMany", false)] [] [("NoneType", false)] := kt1_mk (clsQ_own mC_TooFar) (te_cons mC_NoMoment ke_NoMoment q_TooFar_NoMoment (te_cons mC_NoMore ke_NoMore q_TooFar_NoMore (te_cons mC_NoName ke_NoName q_TooFar_NoName (te_cons mC_NoStep ke_NoStep q_TooFar_NoStep (te_cons mC_NoText ke_NoText q_TooFar_NoText (te_cons mC_NoWay ke_NoWay q_TooFar_NoWay (te_cons mC_Shunned ke_Shunned q_TooFar_Shunned (te_cons mC_TooFar ke_TooFar q_TooFar_TooFar (te_cons mC_TooMany ke_TooMany q_TooFar_TooMany te_nil))))))))) to_nil (tb_cons q_TooFar_BNoneType tb_nil)
  have i_TooMany : KT1 K mg "TooMany" [("NoMoment", false), ("NoMore", false), ("NoName", false), ("NoStep", false), ("NoText", false), ("NoWay", false), ("Shunned", false), ("TooFar", false), ("TooMany", true)] [] [("NoneType", false)] := kt1_mk (clsQ_own mC_TooMany) (te_cons mC_NoMoment ke_NoMoment q_TooMany_NoMoment (te_cons mC_NoMore ke_NoMore q_TooMany_NoMore (te_cons mC_NoName ke_NoName q_TooMany_NoName (te_cons mC_NoStep ke_NoStep q_TooMany_NoStep (te_cons mC_NoText ke_NoText q_TooMany_NoText (te_cons mC_NoWay ke_NoWay q_TooMany_NoWay (te_cons mC_Shunned ke_Shunned q_TooMany_Shunned (te_cons mC_TooFar ke_TooFar q_TooMany_TooFar (te_cons mC_TooMany ke_TooMany q_TooMany_TooMany te_nil))))))))) to_nil (tb_cons q_TooMany_BNoneType tb_nil)
  have i_TypeError : KT1 K mg "TypeError" [("NoMoment", false), ("NoMore", false), ("NoName", false), ("NoStep", false), ("NoText", false), ("NoWay", false), ("Shunned", false), ("TooFar", false), ("TooMany", false)] [] [("NoneType", false)] := kt1_mk (clsQ_ty z_TypeError (by decide +kernel)) (te_cons mC_NoMoment ke_NoMoment q_TypeError_NoMoment (te_cons mC_NoMore ke_NoMore q_TypeError_NoMore (te_cons mC_NoName ke_NoName q_TypeError_NoName (te_cons mC_NoStep ke_NoStep q_TypeError_NoStep (te_cons mC_NoText ke_NoText q_TypeError_NoText (te_cons mC_NoWay ke_NoWay q_TypeError_NoWay (te_cons mC_Shunned ke_Shunned q_TypeError_Shunned (te_cons mC_TooFar ke_TooFar q_TypeError_TooFar (te_cons mC_TooMany ke_TooMany q_TypeError_TooMany te_nil))))))))) to_nil (tb_cons q_TypeError_BNoneType tb_nil)
  have i_ValueError : KT1 K mg "ValueError" [("NoMoment", false), ("NoMore", false), ("NoName", false), ("NoStep", true), ("NoText", true), ("NoWay", true), ("Shunned", true), ("TooFar", false), ("TooMany", false)] [] [("NoneType", false)] := kt1_mk (clsQ_ty z_ValueError (by decide +kernel)) (te_cons mC_NoMoment ke_NoMoment q_ValueError_NoMoment (te_cons mC_NoMore ke_NoMore q_ValueError_NoMore (te_cons mC_NoName ke_NoName q_ValueError_NoName (te_cons mC_NoStep ke_NoStep q_ValueError_NoStep (te_cons mC_NoText ke_NoText q_ValueError_NoText (te_cons mC_NoWay ke_NoWay q_ValueError_NoWay (te_cons mC_Shunned ke_Shunned q_ValueError_Shunned (te_cons mC_TooFar ke_TooFar q_ValueError_TooFar (te_cons mC_TooMany ke_TooMany q_ValueError_TooMany te_nil))))))))) to_nil (tb_cons q_ValueError_BNoneType tb_nil)
  have i_ZeroDivisionError : KT1 K mg "ZeroDivisionError" [("NoMoment", false), ("NoMore", false), ("NoName", false), ("NoStep", false), ("NoText", false), ("NoWay", false), ("Shunned", false), ("TooFar", false), ("TooMany", false)] [] [("NoneType", false)] := kt1_mk (clsQ_ty z_ZeroDivisionError (by decide +kernel)) (te_cons mC_NoMoment ke_NoMoment q_ZeroDivisionError_NoMoment (te_cons mC_NoMore ke_NoMore q_ZeroDivisionError_NoMore (te_cons mC_NoName ke_NoName q_ZeroDivisionError_NoName (te_cons mC_NoStep ke_NoStep q_ZeroDivisionError_NoStep (te_cons mC_NoText ke_NoText q_ZeroDivisionError_NoText (te_cons mC_NoWay ke_NoWay q_ZeroDivisionError_NoWay (te_cons mC_Shunned ke_Shunned q_ZeroDivisionError_Shunned (te_cons mC_TooFar ke_TooFar q_ZeroDivisionError_TooFar (te_cons mC_TooMany ke_TooMany q_ZeroDivisionError_TooMany te_nil))))))))) to_nil (tb_cons q_ZeroDivisionError_BNoneType tb_nil)
  have g_FAR_FENCE : ∃ t, mg "FAR_FENCE" = some (.int 999 t) := ⟨_, PySem.W.mg_of X G ng_FAR_FENCE⟩
  have g_FAR_FIRST : ∃ t, mg "FAR_FIRST" = some (.int 50 t) := ⟨_, PySem.W.mg_of X G ng_FAR_FIRST⟩
  have g_FAR_STAND : ∃ t, mg "FAR_STAND" = some (.int 60 t) := ⟨_, PySem.W.mg_of X G ng_FAR_STAND⟩
  have g_MOST_DOORS : ∃ t, mg "MOST_DOORS" = some (.int 12 t) := ⟨_, PySem.W.mg_of X G ng_MOST_DOORS⟩
  have g_MOST_LOTS : ∃ t, mg "MOST_LOTS" = some (.int 6 t) := ⟨_, PySem.W.mg_of X G ng_MOST_LOTS⟩
  have g_MOST_ODD : ∃ t, mg "MOST_ODD" = some (.int 8 t) := ⟨_, PySem.W.mg_of X G ng_MOST_ODD⟩
  have g_MOST_PRICE : ∃ t, mg "MOST_PRICE" = some (.int 99 t) := ⟨_, PySem.W.mg_of X G ng_MOST_PRICE⟩
  have g_MOST_ROOMS : ∃ t, mg "MOST_ROOMS" = some (.int 6 t) := ⟨_, PySem.W.mg_of X G ng_MOST_ROOMS⟩
  have g_MOST_ROUND : ∃ t, mg "MOST_ROUND" = some (.int 60 t) := ⟨_, PySem.W.mg_of X G ng_MOST_ROUND⟩
  have g_MOST_ROWS : ∃ t, mg "MOST_ROWS" = some (.int 2000 t) := ⟨_, PySem.W.mg_of X G ng_MOST_ROWS⟩
  have g_MOST_SPOTS : ∃ t, mg "MOST_SPOTS" = some (.int 2000 t) := ⟨_, PySem.W.mg_of X G ng_MOST_SPOTS⟩
  have g_MOST_STRETCH : ∃ t, mg "MOST_STRETCH" = some (.int 999 t) := ⟨_, PySem.W.mg_of X G ng_MOST_STRETCH⟩
  have g_MOST_TIMES : ∃ t, mg "MOST_TIMES" = some (.int 1000000000000000000000000000000000000000000000000000000000000 t) := ⟨_, PySem.W.mg_of X G ng_MOST_TIMES⟩
  have F0 := fun_mk (st := (top 29)) l0 c0 k0
  have q0 := F0.binds (ps := ["e"]) fun _ _ _ _ _ _ us hl => match us, hl with | [_], _ => rfl
  have F1 := fun_mk (st := (top 25)) l1 c1 k1
  have q1 := F1.binds (ps := ["pen", "many"]) fun _ _ _ _ _ _ us hl => match us, hl with | [_, _], _ => rfl
  have F2 := fun_mk (st := (top 30)) l2 c2 k2
  have q2 := F2.binds (ps := []) fun _ _ _ _ _ _ us hl => match us, hl with | [], _ => rfl
  have F3 := fun_mk (st := (top 31)) l3 c3 k3
  have q3 := F3.binds (ps := ["made"]) fun _ _ _ _ _ _ us hl => match us, hl with | [_], _ => rfl
  have F4 := fun_mk (st := (top 28)) l4 c4 k4
  have q4 := F4.binds (ps := ["e"]) fun _ _ _ _ _ _ us hl => match us, hl with | [_], _ => rfl
  have F5 := fun_mk (st := (top 27)) l5 c5 k5
  have q5 := F5.binds (ps := ["a", "b", "by_names"]) fun _ _ _ _ _ _ us hl => match us, hl with | [_, _, _], _ => rfl
  have F6 := fun_mk (st := (top 24)) l6 c6 k6
  have q6 := F6.binds (ps := ["script"]) fun _ _ _ _ _ _ us hl => match us, hl with | [_], _ => rfl
  have F7 := fun_mk (st := (top 26)) l7 c7 k7
  have q7 := F7.binds (ps := ["pen", "some"]) fun _ _ _ _ _ _ us hl => match us, hl with | [_, _], _ => rfl
  have F8 := fun_mk (st := (top 32)) l8 c8 k8
  have q8 := F8.binds (ps := ["script"]) fun _ _ _ _ _ _ us hl => match us, hl with | [_], _ => rfl
  refine ⟨PySem.W.fnOf "law" "law" (defArgs (top 32)) (defBody (top 32)) (defScope (top 32)) .none kV8 dc8 pm8 an8 cd8 ct8, fun s v => .of_eq rfl, fun base _ _ sy => ?_⟩
  have f__law_bases : Fn l.prog w K mg base "_law_bases" 1 1 m__law_bases := ⟨_, _, _, PySem.W.mg_of X G a0, k0, q0, fn__law_bases F0 z_ArithmeticError z_IndexError z_KeyError z_LookupError z_OverflowError z_RuntimeError z_TypeError z_ValueError z_ZeroDivisionError z_isinstance i_ArithmeticError i_IndexError i_KeyError i_LookupError i_OverflowError i_RuntimeError i_TypeError i_ValueError i_ZeroDivisionError⟩
  have f__law_draw : Fn l.prog w K mg base "_law_draw" 1 2 m__law_draw := ⟨_, _, _, PySem.W.mg_of X G a1, k1, q1, fn__law_draw F1 z_abs z_len⟩
  have f__law_due_bases : Fn l.prog w K mg base "_law_due_bases" 1 0 m__law_due_bases := ⟨_, _, _, PySem.W.mg_of X G a2, k2, q2, fn__law_due_bases F2⟩
  have f__law_fields : Fn l.prog w K mg base "_law_fields" 1 1 m__law_fields := ⟨_, _, _, PySem.W.mg_of X G a3, k3, q3, fn__law_fields F3 x_asked x_at x_house x_most x_row x_stand x_why x_word⟩
  have f__law_kinds : Fn l.prog w K mg base "_law_kinds" 1 1 m__law_kinds := ⟨_, _, _, PySem.W.mg_of X G a4, k4, q4, fn__law_kinds F4 z_isinstance i_NoMoment i_NoMore i_NoName i_NoStep i_NoText i_NoWay i_Shunned i_TooFar i_TooMany⟩
  have f__law_made_errors : Fn l.prog w K mg base "_law_made_errors" 3 3 m__law_made_errors := ⟨_, _, _, PySem.W.mg_of X G a5, k5, q5, fn__law_made_errors F5 (r_NoMoment base) (r_NoMore base) (r_NoName base) (r_NoStep base) (r_NoText base) (r_NoWay base) (r_Shunned base) (r_TooFar base) (r_TooMany base) (rk_NoMoment_asked base) (rk_NoMore_word base) (rk_NoName_asked base) (rk_NoStep_why base) (rk_NoText_row base) (rk_NoWay_why_at base) (rk_Shunned_stand base) (rk_TooFar_house base) (rk_TooMany_most base)⟩
  have f__law_pen : Fn l.prog w K mg base "_law_pen" 1 1 m__law_pen := ⟨_, _, _, PySem.W.mg_of X G a6, k6, q6, fn__law_pen F6 z_list⟩
  have f__law_pick : Fn l.prog w K mg base "_law_pick" 2 2 m__law_pick := ⟨_, _, _, PySem.W.mg_of X G a7, k7, q7, fn__law_pick F7 z_len f__law_draw⟩
  exact fn_law F8 sy z_len z_min z_range z_repr g_FAR_FENCE g_FAR_FIRST g_FAR_STAND g_MOST_DOORS g_MOST_LOTS g_MOST_ODD g_MOST_PRICE g_MOST_ROOMS g_MOST_ROUND g_MOST_ROWS g_MOST_SPOTS g_MOST_STRETCH g_MOST_TIMES f__law_bases f__law_draw f__law_due_bases f__law_fields f__law_kinds f__law_made_errors f__law_pen f__law_pick
end LH
open PySem PySem.W PyProof.Rows
set_option maxRecDepth 100000 in
set_option maxHeartbeats 0 in
theorem PySem.Challenge.cw_likehouses_k03_refusals_by_their_kinds_holds : PySem.Challenge.rw_likehouses_k03_refusals_by_their_kinds.Holds := by
  w_on; o_law; k_head; (case hw => w_witness2)
  k_fill
  refine LH.walkG2 (l := PySem.Challenge.rw_likehouses_k03_refusals_by_their_kinds) (n := 63) (k := 4) (x := "script") rfl (by decide) rfl ⟨⟨rfl, by decide, by decide⟩, rfl⟩ (by kernel_rfl) (fun w h Y => PySem.W.kIn_of Y) LH.law_true ?F
  case F =>
    intro w mg fa h KX G hmg
    refine' LH.all_mk KX G hmg ?aC_NoMoment ?aC_NoMore ?aC_NoName ?aC_NoStep ?aC_NoText ?aC_NoWay ?aC_Shunned ?aC_TooFar ?aC_TooMany ?gspec ?gtake ?hd_NoMoment ?sb_NoMoment ?ty_NoMoment ?hd_NoMore ?sb_NoMore ?ty_NoMore ?hd_NoName ?sb_NoName ?ty_NoName ?hd_NoStep ?sb_NoStep ?ty_NoStep ?hd_NoText ?sb_NoText ?ty_NoText ?hd_NoWay ?sb_NoWay ?ty_NoWay ?hd_Shunned ?sb_Shunned ?ty_Shunned ?hd_TooFar ?sb_TooFar ?ty_TooFar ?hd_TooMany ?sb_TooMany ?ty_TooMany ?ga_NoMoment ?gt_NoMoment ?ga_NoMore ?gt_NoMore ?ga_NoName ?gt_NoName ?ga_NoStep ?gt_NoStep ?ga_NoText ?gt_NoText ?ga_NoWay ?gt_NoWay ?ga_Shunned ?gt_Shunned ?ga_TooFar ?gt_TooFar ?ga_TooMany ?gt_TooMany ?ci_NoMoment ?ca_NoMoment ?mr_NoMoment ?ci_NoMore ?ca_NoMore ?mr_NoMore ?ci_NoName ?ca_NoName ?mr_NoName ?ci_NoStep ?ca_NoStep ?mr_NoStep ?ci_NoText ?ca_NoText ?mr_NoText ?ci_NoWay ?ca_NoWay ?mr_NoWay ?ci_Shunned ?ca_Shunned ?mr_Shunned ?ci_TooFar ?ca_TooFar ?mr_TooFar ?ci_TooMany ?ca_TooMany ?mr_TooMany ?n_NoName_asked ?n_NoMoment_asked ?n_NoWay_at ?n_TooFar_house ?n_TooMany_most ?n_NoText_row ?n_Shunned_stand ?n_NoWay_why ?n_NoStep_why ?n_NoMore_word ?xL_NoMoment ?sa_NoMoment ?kC_NoMoment ?aI_NoMoment ?tI_NoMoment ?lI_NoMoment ?cI_NoMoment ?kI_NoMoment ?xL_NoMore ?sa_NoMore ?kC_NoMore ?aI_NoMore ?tI_NoMore ?lI_NoMore ?cI_NoMore ?kI_NoMore ?xL_NoName ?sa_NoName ?kC_NoName ?aI_NoName ?tI_NoName ?lI_NoName ?cI_NoName ?kI_NoName ?xL_NoStep ?sa_NoStep ?kC_NoStep ?aI_NoStep ?tI_NoStep ?lI_NoStep ?cI_NoStep ?kI_NoStep ?xL_NoText ?sa_NoText ?kC_NoText ?aI_NoText ?tI_NoText ?lI_NoText ?cI_NoText ?kI_NoText ?xL_NoWay ?sa_NoWay ?kC_NoWay ?aI_NoWay ?tI_NoWay ?lI_NoWay ?cI_NoWay ?kI_NoWay ?xL_Shunned ?sa_Shunned ?kC_Shunned ?aI_Shunned ?tI_Shunned ?lI_Shunned ?cI_Shunned ?kI_Shunned ?xL_TooFar ?sa_TooFar ?kC_TooFar ?aI_TooFar ?tI_TooFar ?lI_TooFar ?cI_TooFar ?kI_TooFar ?xL_TooMany ?sa_TooMany ?kC_TooMany ?aI_TooMany ?tI_TooMany ?lI_TooMany ?cI_TooMany ?kI_TooMany ?nz_ArithmeticError ?nz_IndexError ?nz_KeyError ?nz_LookupError ?nz_OverflowError ?nz_RuntimeError ?nz_TypeError ?nz_ValueError ?nz_ZeroDivisionError ?nz_abs ?nz_isinstance ?nz_len ?nz_list ?nz_min ?nz_range ?nz_repr ?q_ArithmeticError_NoMoment ?q_ArithmeticError_NoMore ?q_ArithmeticError_NoName ?q_ArithmeticError_NoStep ?q_ArithmeticError_NoText ?q_ArithmeticError_NoWay ?q_ArithmeticError_Shunned ?q_ArithmeticError_TooFar ?q_ArithmeticError_TooMany ?q_ArithmeticError_BNoneType ?q_IndexError_NoMoment ?q_IndexError_NoMore ?q_IndexError_NoName ?q_IndexError_NoStep ?q_IndexError_NoText ?q_IndexError_NoWay ?q_IndexError_Shunned ?q_IndexError_TooFar ?q_IndexError_TooMany ?q_IndexError_BNoneType ?q_KeyError_NoMoment ?q_KeyError_NoMore ?q_KeyError_NoName ?q_KeyError_NoStep ?q_KeyError_NoText ?q_KeyError_NoWay ?q_KeyError_Shunned ?q_KeyError_TooFar ?q_KeyError_TooMany ?q_KeyError_BNoneType ?q_LookupError_NoMoment ?q_LookupError_NoMore ?q_LookupError_NoName ?q_LookupError_NoStep ?q_LookupError_NoText ?q_LookupError_NoWay ?q_LookupError_Shunned ?q_LookupError_TooFar ?q_LookupError_TooMany ?q_LookupError_BNoneType ?q_NoMoment_NoMoment ?q_NoMoment_NoMore ?q_NoMoment_NoName ?q_NoMoment_NoStep ?q_NoMoment_NoText ?q_NoMoment_NoWay ?q_NoMoment_Shunned ?q_NoMoment_TooFar ?q_NoMoment_TooMany ?q_NoMoment_BNoneType ?q_NoMore_NoMoment ?q_NoMore_NoMore ?q_NoMore_NoName ?q_NoMore_NoStep ?q_NoMore_NoText ?q_NoMore_NoWay ?q_NoMore_Shunned ?q_NoMore_TooFar ?q_NoMore_TooMany ?q_NoMore_BNoneType ?q_NoName_NoMoment ?q_NoName_NoMore ?q_NoName_NoName ?q_NoName_NoStep ?q_NoName_NoText ?q_NoName_NoWay ?q_NoName_Shunned ?q_NoName_TooFar ?q_NoName_TooMany ?q_NoName_BNoneType ?q_NoStep_NoMoment ?q_NoStep_NoMore ?q_NoStep_NoName ?q_NoStep_NoStep ?q_NoStep_NoText ?q_NoStep_NoWay ?q_NoStep_Shunned ?q_NoStep_TooFar ?q_NoStep_TooMany ?q_NoStep_BNoneType ?q_NoText_NoMoment ?q_NoText_NoMore ?q_NoText_NoName ?q_NoText_NoStep ?q_NoText_NoText ?q_NoText_NoWay ?q_NoText_Shunned ?q_NoText_TooFar ?q_NoText_TooMany ?q_NoText_BNoneType ?q_NoWay_NoMoment ?q_NoWay_NoMore ?q_NoWay_NoName ?q_NoWay_NoStep ?q_NoWay_NoText ?q_NoWay_NoWay ?q_NoWay_Shunned ?q_NoWay_TooFar ?q_NoWay_TooMany ?q_NoWay_BNoneType ?q_OverflowError_NoMoment ?q_OverflowError_NoMore ?q_OverflowError_NoName ?q_OverflowError_NoStep ?q_OverflowError_NoText ?q_OverflowError_NoWay ?q_OverflowError_Shunned ?q_OverflowError_TooFar ?q_OverflowError_TooMany ?q_OverflowError_BNoneType ?q_RuntimeError_NoMoment ?q_RuntimeError_NoMore ?q_RuntimeError_NoName ?q_RuntimeError_NoStep ?q_RuntimeError_NoText ?q_RuntimeError_NoWay ?q_RuntimeError_Shunned ?q_RuntimeError_TooFar ?q_RuntimeError_TooMany ?q_RuntimeError_BNoneType ?q_Shunned_NoMoment ?q_Shunned_NoMore ?q_Shunned_NoName ?q_Shunned_NoStep ?q_Shunned_NoText ?q_Shunned_NoWay ?q_Shunned_Shunned ?q_Shunned_TooFar ?q_Shunned_TooMany ?q_Shunned_BNoneType ?q_TooFar_NoMoment ?q_TooFar_NoMore ?q_TooFar_NoName ?q_TooFar_NoStep ?q_TooFar_NoText ?q_TooFar_NoWay ?q_TooFar_Shunned ?q_TooFar_TooFar ?q_TooFar_TooMany ?q_TooFar_BNoneType ?q_TooMany_NoMoment ?q_TooMany_NoMore ?q_TooMany_NoName ?q_TooMany_NoStep ?q_TooMany_NoText ?q_TooMany_NoWay ?q_TooMany_Shunned ?q_TooMany_TooFar ?q_TooMany_TooMany ?q_TooMany_BNoneType ?q_TypeError_NoMoment ?q_TypeError_NoMore ?q_TypeError_NoName ?q_TypeError_NoStep ?q_TypeError_NoText ?q_TypeError_NoWay ?q_TypeError_Shunned ?q_TypeError_TooFar ?q_TypeError_TooMany ?q_TypeError_BNoneType ?q_ValueError_NoMoment ?q_ValueError_NoMore ?q_ValueError_NoName ?q_ValueError_NoStep ?q_ValueError_NoText ?q_ValueError_NoWay ?q_ValueError_Shunned ?q_ValueError_TooFar ?q_ValueError_TooMany ?q_ValueError_BNoneType ?q_ZeroDivisionError_NoMoment ?q_ZeroDivisionError_NoMore ?q_ZeroDivisionError_NoName ?q_ZeroDivisionError_NoStep ?q_ZeroDivisionError_NoText ?q_ZeroDivisionError_NoWay ?q_ZeroDivisionError_Shunned ?q_ZeroDivisionError_TooFar ?q_ZeroDivisionError_TooMany ?q_ZeroDivisionError_BNoneType ?ng_FAR_FENCE ?ng_FAR_FIRST ?ng_FAR_STAND ?ng_MOST_DOORS ?ng_MOST_LOTS ?ng_MOST_ODD ?ng_MOST_PRICE ?ng_MOST_ROOMS ?ng_MOST_ROUND ?ng_MOST_ROWS ?ng_MOST_SPOTS ?ng_MOST_STRETCH ?ng_MOST_TIMES ?a0 ?l0 ?c0 ?k0 ?a1 ?l1 ?c1 ?k1 ?a2 ?l2 ?c2 ?k2 ?a3 ?l3 ?c3 ?k3 ?a4 ?l4 ?c4 ?k4 ?a5 ?l5 ?c5 ?k5 ?a6 ?l6 ?c6 ?k6 ?a7 ?l7 ?c7 ?k7 ?a8 ?l8 ?c8 ?k8
    (case aC_NoMoment => k_is)
    (case aC_NoMore => k_is)
    (case aC_NoName => k_is)
    (case aC_NoStep => k_is)
    (case aC_NoText => k_is)
    (case aC_NoWay => k_is)
    (case aC_Shunned => k_is)
    (case aC_TooFar => k_is)
    (case aC_TooMany => k_is)
    (case gspec => k_is)
    (case gtake => k_is)
    (case hd_NoMoment => k_is)
    (case sb_NoMoment => k_is)
    (case ty_NoMoment => k_is)
    (case hd_NoMore => k_is)
    (case sb_NoMore => k_is)
    (case ty_NoMore => k_is)
    (case hd_NoName => k_is)
    (case sb_NoName => k_is)
    (case ty_NoName => k_is)
    (case hd_NoStep => k_is)
    (case sb_NoStep => k_is)
    (case ty_NoStep => k_is)
    (case hd_NoText => k_is)
    (case sb_NoText => k_is)
    (case ty_NoText => k_is)
    (case hd_NoWay => k_is)
    (case sb_NoWay => k_is)
    (case ty_NoWay => k_is)
    (case hd_Shunned => k_is)
    (case sb_Shunned => k_is)
    (case ty_Shunned => k_is)
    (case hd_TooFar => k_is)
    (case sb_TooFar => k_is)
    (case ty_TooFar => k_is)
    (case hd_TooMany => k_is)
    (case sb_TooMany => k_is)
    (case ty_TooMany => k_is)
    (case ga_NoMoment => k_is)
    (case gt_NoMoment => k_is)
    (case ga_NoMore => k_is)
    (case gt_NoMore => k_is)
    (case ga_NoName => k_is)
    (case gt_NoName => k_is)
    (case ga_NoStep => k_is)
    (case gt_NoStep => k_is)
    (case ga_NoText => k_is)
    (case gt_NoText => k_is)
    (case ga_NoWay => k_is)
    (case gt_NoWay => k_is)
    (case ga_Shunned => k_is)
    (case gt_Shunned => k_is)
    (case ga_TooFar => k_is)
    (case gt_TooFar => k_is)
    (case ga_TooMany => k_is)
    (case gt_TooMany => k_is)
    (case ci_NoMoment => k_is)
    (case ca_NoMoment => k_is)
    (case mr_NoMoment => k_is)
    (case ci_NoMore => k_is)
    (case ca_NoMore => k_is)
    (case mr_NoMore => k_is)
    (case ci_NoName => k_is)
    (case ca_NoName => k_is)
    (case mr_NoName => k_is)
    (case ci_NoStep => k_is)
    (case ca_NoStep => k_is)
    (case mr_NoStep => k_is)
    (case ci_NoText => k_is)
    (case ca_NoText => k_is)
    (case mr_NoText => k_is)
    (case ci_NoWay => k_is)
    (case ca_NoWay => k_is)
    (case mr_NoWay => k_is)
    (case ci_Shunned => k_is)
    (case ca_Shunned => k_is)
    (case mr_Shunned => k_is)
    (case ci_TooFar => k_is)
    (case ca_TooFar => k_is)
    (case mr_TooFar => k_is)
    (case ci_TooMany => k_is)
    (case ca_TooMany => k_is)
    (case mr_TooMany => k_is)
    (case n_NoName_asked => k_is)
    (case n_NoMoment_asked => k_is)
    (case n_NoWay_at => k_is)
    (case n_TooFar_house => k_is)
    (case n_TooMany_most => k_is)
    (case n_NoText_row => k_is)
    (case n_Shunned_stand => k_is)
    (case n_NoWay_why => k_is)
    (case n_NoStep_why => k_is)
    (case n_NoMore_word => k_is)
    (case xL_NoMoment => k_is)
    (case sa_NoMoment => k_is)
    (case kC_NoMoment => k_is)
    (case aI_NoMoment => k_is)
    (case tI_NoMoment => k_is)
    (case lI_NoMoment => k_is)
    (case cI_NoMoment => k_is)
    (case kI_NoMoment => k_is)
    (case xL_NoMore => k_is)
    (case sa_NoMore => k_is)
    (case kC_NoMore => k_is)
    (case aI_NoMore => k_is)
    (case tI_NoMore => k_is)
    (case lI_NoMore => k_is)
    (case cI_NoMore => k_is)
    (case kI_NoMore => k_is)
    (case xL_NoName => k_is)
    (case sa_NoName => k_is)
    (case kC_NoName => k_is)
    (case aI_NoName => k_is)
    (case tI_NoName => k_is)
    (case lI_NoName => k_is)
    (case cI_NoName => k_is)
    (case kI_NoName => k_is)
    (case xL_NoStep => k_is)
    (case sa_NoStep => k_is)
    (case kC_NoStep => k_is)
    (case aI_NoStep => k_is)
    (case tI_NoStep => k_is)
    (case lI_NoStep => k_is)
    (case cI_NoStep => k_is)
    (case kI_NoStep => k_is)
    (case xL_NoText => k_is)
    (case sa_NoText => k_is)
    (case kC_NoText => k_is)
    (case aI_NoText => k_is)
    (case tI_NoText => k_is)
    (case lI_NoText => k_is)
    (case cI_NoText => k_is)
    (case kI_NoText => k_is)
    (case xL_NoWay => k_is)
    (case sa_NoWay => k_is)
    (case kC_NoWay => k_is)
    (case aI_NoWay => k_is)
    (case tI_NoWay => k_is)
    (case lI_NoWay => k_is)
    (case cI_NoWay => k_is)
    (case kI_NoWay => k_is)
    (case xL_Shunned => k_is)
    (case sa_Shunned => k_is)
    (case kC_Shunned => k_is)
    (case aI_Shunned => k_is)
    (case tI_Shunned => k_is)
    (case lI_Shunned => k_is)
    (case cI_Shunned => k_is)
    (case kI_Shunned => k_is)
    (case xL_TooFar => k_is)
    (case sa_TooFar => k_is)
    (case kC_TooFar => k_is)
    (case aI_TooFar => k_is)
    (case tI_TooFar => k_is)
    (case lI_TooFar => k_is)
    (case cI_TooFar => k_is)
    (case kI_TooFar => k_is)
    (case xL_TooMany => k_is)
    (case sa_TooMany => k_is)
    (case kC_TooMany => k_is)
    (case aI_TooMany => k_is)
    (case tI_TooMany => k_is)
    (case lI_TooMany => k_is)
    (case cI_TooMany => k_is)
    (case kI_TooMany => k_is)
    (case nz_ArithmeticError => k_is)
    (case nz_IndexError => k_is)
    (case nz_KeyError => k_is)
    (case nz_LookupError => k_is)
    (case nz_OverflowError => k_is)
    (case nz_RuntimeError => k_is)
    (case nz_TypeError => k_is)
    (case nz_ValueError => k_is)
    (case nz_ZeroDivisionError => k_is)
    (case nz_abs => k_is)
    (case nz_isinstance => k_is)
    (case nz_len => k_is)
    (case nz_list => k_is)
    (case nz_min => k_is)
    (case nz_range => k_is)
    (case nz_repr => k_is)
    (case q_ArithmeticError_NoMoment => kit_is)
    (case q_ArithmeticError_NoMore => kit_is)
    (case q_ArithmeticError_NoName => kit_is)
    (case q_ArithmeticError_NoStep => kit_is)
    (case q_ArithmeticError_NoText => kit_is)
    (case q_ArithmeticError_NoWay => kit_is)
    (case q_ArithmeticError_Shunned => kit_is)
    (case q_ArithmeticError_TooFar => kit_is)
    (case q_ArithmeticError_TooMany => kit_is)
    (case q_ArithmeticError_BNoneType => first | kit_is | decide +kernel)
    (case q_IndexError_NoMoment => kit_is)
    (case q_IndexError_NoMore => kit_is)
    (case q_IndexError_NoName => kit_is)
    (case q_IndexError_NoStep => kit_is)
    (case q_IndexError_NoText => kit_is)
    (case q_IndexError_NoWay => kit_is)
    (case q_IndexError_Shunned => kit_is)
    (case q_IndexError_TooFar => kit_is)
    (case q_IndexError_TooMany => kit_is)
    (case q_IndexError_BNoneType => first | kit_is | decide +kernel)
    (case q_KeyError_NoMoment => kit_is)
    (case q_KeyError_NoMore => kit_is)
    (case q_KeyError_NoName => kit_is)
    (case q_KeyError_NoStep => kit_is)
    (case q_KeyError_NoText => kit_is)
    (case q_KeyError_NoWay => kit_is)
    (case q_KeyError_Shunned => kit_is)
    (case q_KeyError_TooFar => kit_is)
    (case q_KeyError_TooMany => kit_is)
    (case q_KeyError_BNoneType => first | kit_is | decide +kernel)
    (case q_LookupError_NoMoment => kit_is)
    (case q_LookupError_NoMore => kit_is)
    (case q_LookupError_NoName => kit_is)
    (case q_LookupError_NoStep => kit_is)
    (case q_LookupError_NoText => kit_is)
    (case q_LookupError_NoWay => kit_is)
    (case q_LookupError_Shunned => kit_is)
    (case q_LookupError_TooFar => kit_is)
    (case q_LookupError_TooMany => kit_is)
    (case q_LookupError_BNoneType => first | kit_is | decide +kernel)
    (case q_NoMoment_NoMoment => kit_is)
    (case q_NoMoment_NoMore => kit_is)
    (case q_NoMoment_NoName => kit_is)
    (case q_NoMoment_NoStep => kit_is)
    (case q_NoMoment_NoText => kit_is)
    (case q_NoMoment_NoWay => kit_is)
    (case q_NoMoment_Shunned => kit_is)
    (case q_NoMoment_TooFar => kit_is)
    (case q_NoMoment_TooMany => kit_is)
    (case q_NoMoment_BNoneType => first | kit_is | decide +kernel)
    (case q_NoMore_NoMoment => kit_is)
    (case q_NoMore_NoMore => kit_is)
    (case q_NoMore_NoName => kit_is)
    (case q_NoMore_NoStep => kit_is)
    (case q_NoMore_NoText => kit_is)
    (case q_NoMore_NoWay => kit_is)
    (case q_NoMore_Shunned => kit_is)
    (case q_NoMore_TooFar => kit_is)
    (case q_NoMore_TooMany => kit_is)
    (case q_NoMore_BNoneType => first | kit_is | decide +kernel)
    (case q_NoName_NoMoment => kit_is)
    (case q_NoName_NoMore => kit_is)
    (case q_NoName_NoName => kit_is)
    (case q_NoName_NoStep => kit_is)
    (case q_NoName_NoText => kit_is)
    (case q_NoName_NoWay => kit_is)
    (case q_NoName_Shunned => kit_is)
    (case q_NoName_TooFar => kit_is)
    (case q_NoName_TooMany => kit_is)
    (case q_NoName_BNoneType => first | kit_is | decide +kernel)
    (case q_NoStep_NoMoment => kit_is)
    (case q_NoStep_NoMore => kit_is)
    (case q_NoStep_NoName => kit_is)
    (case q_NoStep_NoStep => kit_is)
    (case q_NoStep_NoText => kit_is)
    (case q_NoStep_NoWay => kit_is)
    (case q_NoStep_Shunned => kit_is)
    (case q_NoStep_TooFar => kit_is)
    (case q_NoStep_TooMany => kit_is)
    (case q_NoStep_BNoneType => first | kit_is | decide +kernel)
    (case q_NoText_NoMoment => kit_is)
    (case q_NoText_NoMore => kit_is)
    (case q_NoText_NoName => kit_is)
    (case q_NoText_NoStep => kit_is)
    (case q_NoText_NoText => kit_is)
    (case q_NoText_NoWay => kit_is)
    (case q_NoText_Shunned => kit_is)
    (case q_NoText_TooFar => kit_is)
    (case q_NoText_TooMany => kit_is)
    (case q_NoText_BNoneType => first | kit_is | decide +kernel)
    (case q_NoWay_NoMoment => kit_is)
    (case q_NoWay_NoMore => kit_is)
    (case q_NoWay_NoName => kit_is)
    (case q_NoWay_NoStep => kit_is)
    (case q_NoWay_NoText => kit_is)
    (case q_NoWay_NoWay => kit_is)
    (case q_NoWay_Shunned => kit_is)
    (case q_NoWay_TooFar => kit_is)
    (case q_NoWay_TooMany => kit_is)
    (case q_NoWay_BNoneType => first | kit_is | decide +kernel)
    (case q_OverflowError_NoMoment => kit_is)
    (case q_OverflowError_NoMore => kit_is)
    (case q_OverflowError_NoName => kit_is)
    (case q_OverflowError_NoStep => kit_is)
    (case q_OverflowError_NoText => kit_is)
    (case q_OverflowError_NoWay => kit_is)
    (case q_OverflowError_Shunned => kit_is)
    (case q_OverflowError_TooFar => kit_is)
    (case q_OverflowError_TooMany => kit_is)
    (case q_OverflowError_BNoneType => first | kit_is | decide +kernel)
    (case q_RuntimeError_NoMoment => kit_is)
    (case q_RuntimeError_NoMore => kit_is)
    (case q_RuntimeError_NoName => kit_is)
    (case q_RuntimeError_NoStep => kit_is)
    (case q_RuntimeError_NoText => kit_is)
    (case q_RuntimeError_NoWay => kit_is)
    (case q_RuntimeError_Shunned => kit_is)
    (case q_RuntimeError_TooFar => kit_is)
    (case q_RuntimeError_TooMany => kit_is)
    (case q_RuntimeError_BNoneType => first | kit_is | decide +kernel)
    (case q_Shunned_NoMoment => kit_is)
    (case q_Shunned_NoMore => kit_is)
    (case q_Shunned_NoName => kit_is)
    (case q_Shunned_NoStep => kit_is)
    (case q_Shunned_NoText => kit_is)
    (case q_Shunned_NoWay => kit_is)
    (case q_Shunned_Shunned => kit_is)
    (case q_Shunned_TooFar => kit_is)
    (case q_Shunned_TooMany => kit_is)
    (case q_Shunned_BNoneType => first | kit_is | decide +kernel)
    (case q_TooFar_NoMoment => kit_is)
    (case q_TooFar_NoMore => kit_is)
    (case q_TooFar_NoName => kit_is)
    (case q_TooFar_NoStep => kit_is)
    (case q_TooFar_NoText => kit_is)
    (case q_TooFar_NoWay => kit_is)
    (case q_TooFar_Shunned => kit_is)
    (case q_TooFar_TooFar => kit_is)
    (case q_TooFar_TooMany => kit_is)
    (case q_TooFar_BNoneType => first | kit_is | decide +kernel)
    (case q_TooMany_NoMoment => kit_is)
    (case q_TooMany_NoMore => kit_is)
    (case q_TooMany_NoName => kit_is)
    (case q_TooMany_NoStep => kit_is)
    (case q_TooMany_NoText => kit_is)
    (case q_TooMany_NoWay => kit_is)
    (case q_TooMany_Shunned => kit_is)
    (case q_TooMany_TooFar => kit_is)
    (case q_TooMany_TooMany => kit_is)
    (case q_TooMany_BNoneType => first | kit_is | decide +kernel)
    (case q_TypeError_NoMoment => kit_is)
    (case q_TypeError_NoMore => kit_is)
    (case q_TypeError_NoName => kit_is)
    (case q_TypeError_NoStep => kit_is)
    (case q_TypeError_NoText => kit_is)
    (case q_TypeError_NoWay => kit_is)
    (case q_TypeError_Shunned => kit_is)
    (case q_TypeError_TooFar => kit_is)
    (case q_TypeError_TooMany => kit_is)
    (case q_TypeError_BNoneType => first | kit_is | decide +kernel)
    (case q_ValueError_NoMoment => kit_is)
    (case q_ValueError_NoMore => kit_is)
    (case q_ValueError_NoName => kit_is)
    (case q_ValueError_NoStep => kit_is)
    (case q_ValueError_NoText => kit_is)
    (case q_ValueError_NoWay => kit_is)
    (case q_ValueError_Shunned => kit_is)
    (case q_ValueError_TooFar => kit_is)
    (case q_ValueError_TooMany => kit_is)
    (case q_ValueError_BNoneType => first | kit_is | decide +kernel)
    (case q_ZeroDivisionError_NoMoment => kit_is)
    (case q_ZeroDivisionError_NoMore => kit_is)
    (case q_ZeroDivisionError_NoName => kit_is)
    (case q_ZeroDivisionError_NoStep => kit_is)
    (case q_ZeroDivisionError_NoText => kit_is)
    (case q_ZeroDivisionError_NoWay => kit_is)
    (case q_ZeroDivisionError_Shunned => kit_is)
    (case q_ZeroDivisionError_TooFar => kit_is)
    (case q_ZeroDivisionError_TooMany => kit_is)
    (case q_ZeroDivisionError_BNoneType => first | kit_is | decide +kernel)
    (case ng_FAR_FENCE => k_is)
    (case ng_FAR_FIRST => k_is)
    (case ng_FAR_STAND => k_is)
    (case ng_MOST_DOORS => k_is)
    (case ng_MOST_LOTS => k_is)
    (case ng_MOST_ODD => k_is)
    (case ng_MOST_PRICE => k_is)
    (case ng_MOST_ROOMS => k_is)
    (case ng_MOST_ROUND => k_is)
    (case ng_MOST_ROWS => k_is)
    (case ng_MOST_SPOTS => k_is)
    (case ng_MOST_STRETCH => k_is)
    (case ng_MOST_TIMES => k_is)
    (case a0 => k_is)
    (case l0 => k_is)
    (case c0 => k_is)
    (case k0 => k_is)
    (case a1 => k_is)
    (case l1 => k_is)
    (case c1 => k_is)
    (case k1 => k_is)
    (case a2 => k_is)
    (case l2 => k_is)
    (case c2 => k_is)
    (case k2 => k_is)
    (case a3 => k_is)
    (case l3 => k_is)
    (case c3 => k_is)
    (case k3 => k_is)
    (case a4 => k_is)
    (case l4 => k_is)
    (case c4 => k_is)
    (case k4 => k_is)
    (case a5 => k_is)
    (case l5 => k_is)
    (case c5 => k_is)
    (case k5 => k_is)
    (case a6 => k_is)
    (case l6 => k_is)
    (case c6 => k_is)
    (case k6 => k_is)
    (case a7 => k_is)
    (case l7 => k_is)
    (case c7 => k_is)
    (case k7 => k_is)
    (case a8 => k_is)
    (case l8 => k_is)
    (case c8 => k_is)
    (case k8 => k_is)
