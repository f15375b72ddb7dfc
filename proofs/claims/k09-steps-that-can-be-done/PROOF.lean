import PyProof.Rows.All
import Wide.All
import OpenK.AllK
import Wide.FinOn
import HandS.ForMost
import HandS.ForExc
import HandS.CallSlots
import HandS.Wide
import HandS.TupAny
import HandS.Deep
import HandS.Ends
import KE.SortData
import HandS.SortKw
import KE.SortKeyHeap
import HandS.Style
import HandS.Text
import HandS.IsInst
import HandS.TryMany
import HandS.TryOnly
import HandS.ExcInit
import HandS.ExcIs
import HandS.ExcValue
import HandS.ExcField
import KE.KExcIs
import HandS.Sort
import HandS.Conv
import KE.KDictList
import HandS.DictComp
import HandS.WordsExc
import PySem.Challenge.RW_likehouses_k09_steps_that_can_be_done
set_option Elab.async false
set_option linter.all false
set_option maxRecDepth 100000
set_option maxHeartbeats 4000000
/-! LHCore: data as trees, the relation between trees and the tracked heap, states. -/
namespace LH
open PySem PySem.Spec PyProof.Rows L2

abbrev Fg := PySem.W.Frag
abbrev Mg := Str → Option Value
abbrev St := L2.St

/-- data: trees; ro is a list that is read alone (the script); hdl n is the n-th shared mutable object -/
inductive D where
  | non | bl (b : Bool) | int (i : Int) | str (x : Str)
  | lst (xs : List D) | tup (xs : List D) | ro (xs : List D)
  | dct (kvs : List (Key × D)) | dcT (kvs : List (List Key × D))
  | obj (c : Str) (fs : List (Str × D)) | hdl (n : Nat)
  | exc (c : Str) (fs : List (Str × D))

instance : Inhabited D := ⟨.non⟩

/-- an exception of the class at C, its own dict at d, at a -/
def ExV (C d a : Addr) : HO := .ext fun h => ∃ (oe : Obj) (vs : Array Value), h.get? a = some oe ∧ Zc (.ref C) (some d) oe ∧ oe.data = .fields vs

mutual
inductive Rep (K : Fg) (mg : Mg) (η : List Addr) (M : Hp) : V → D → Prop
  | non : Rep K mg η M .non .non
  | bl (b : Bool) : Rep K mg η M (.bl b) (.bl b)
  | int (i : Int) : Rep K mg η M (.int i) (.int i)
  | str (x : Str) : Rep K mg η M (.str x) (.str x)
  | lst {a : Addr} {xs : List V} {ds : List D} : M a = some (.lst xs) → RepL K mg η M xs ds → Rep K mg η M (.ref a) (.lst ds)
  | ro {a : Addr} {xs : List V} {ds : List D} : SqL K M a xs → RepL K mg η M xs ds → Rep K mg η M (.ref a) (.ro ds)
  | tup {a : Addr} {xs : List V} {ds : List D} : M a = some (.tup xs) → RepL K mg η M xs ds → Rep K mg η M (.ref a) (.tup ds)
  | dct {a : Addr} {kvs : List (Key × V)} {eds : List (Key × D)} : M a = some (.dK kvs) → kvs.map (·.1) = eds.map (·.1) → RepL K mg η M (kvs.map (·.2)) (eds.map (·.2)) → Rep K mg η M (.ref a) (.dct eds)
  | dcT {a : Addr} {kvs : List (List Key × V)} {eds : List (List Key × D)} : M a = some (.dT kvs) → kvs.map (·.1) = eds.map (·.1) → RepL K mg η M (kvs.map (·.2)) (eds.map (·.2)) → Rep K mg η M (.ref a) (.dcT eds)
  | obj {c : Str} {a C dx : Addr} {fs : List (Str × V)} {fds : List (Str × D)} : mg c = some (.ref C) → M a = some (.ins C dx fs) → fs.map (·.1) = fds.map (·.1) → RepL K mg η M (fs.map (·.2)) (fds.map (·.2)) → Rep K mg η M (.ref a) (.obj c fds)
  | hdl {n : Nat} {a : Addr} : η[n]? = some a → Rep K mg η M (.ref a) (.hdl n)
  | exc {c : Str} {a C dd : Addr} {fs : List (Str × V)} {fds : List (Str × D)} : mg c = some (.ref C) → M a = some (ExV C dd a) → M dd = some (.xd fs) → fs.map (·.1) = fds.map (·.1) → RepL K mg η M (fs.map (·.2)) (fds.map (·.2)) → Rep K mg η M (.ref a) (.exc c fds)
inductive RepL (K : Fg) (mg : Mg) (η : List Addr) (M : Hp) : List V → List D → Prop
  | nil : RepL K mg η M [] []
  | cons {v : V} {vs : List V} {d : D} {ds : List D} : Rep K mg η M v d → RepL K mg η M vs ds → RepL K mg η M (v :: vs) (d :: ds)
end

/-- what grows: the frozen region and the handles -/
structure Ext (η : List Addr) (M : Hp) (η' : List Addr) (M' : Hp) : Prop where
  m : Same M M'
  h : ∃ r, η' = η ++ r
theorem Ext.refl {η : List Addr} {M : Hp} : Ext η M η M := ⟨Same.refl M, [], by simp⟩
theorem Ext.trans {η η1 η2 : List Addr} {M M1 M2 : Hp} (a : Ext η M η1 M1) (b : Ext η1 M1 η2 M2) : Ext η M η2 M2 := by
  obtain ⟨m1, r1, e1⟩ := a
  obtain ⟨m2, r2, e2⟩ := b
  exact ⟨m1.trans m2, r1 ++ r2, by rw [e2, e1, List.append_assoc]⟩
theorem Ext.get {η η' : List Addr} {M M' : Hp} (x : Ext η M η' M') {n : Nat} {a : Addr} (h : η[n]? = some a) : η'[n]? = some a := by
  obtain ⟨_, r, e⟩ := x
  rw [e, List.getElem?_append_left (List.getElem?_eq_some_iff.mp h).1]
  exact h
theorem Ext.mem {η η' : List Addr} {M M' : Hp} (x : Ext η M η' M') {a : Addr} (h : a ∈ η) : a ∈ η' := by
  obtain ⟨_, r, e⟩ := x
  rw [e]; exact List.mem_append_left _ h

section
variable {K : Fg} {mg : Mg} {η η' : List Addr} {M M' H H' : Hp}
theorem SqT.same {a : Addr} {xs : List V} (e : Same M M') (h : SqT K M a xs) : SqT K M' a xs := by
  rcases h with (h | ⟨o, h⟩) | h
  · exact .inl (.inl (e _ _ h))
  · exact .inl (.inr ⟨o, e _ _ h⟩)
  · exact .inr h
mutual
theorem Rep.mono (x : Ext η M η' M') : ∀ {d : D} {v : V}, Rep K mg η M v d → Rep K mg η' M' v d
  | .non, _, .non => .non
  | .bl _, _, .bl _ => .bl _
  | .int _, _, .int _ => .int _
  | .str _, _, .str _ => .str _
  | .lst _, _, .lst h hs => .lst (x.m _ _ h) (RepL.mono x hs)
  | .ro _, _, .ro h hs => .ro (x.m.seq h) (RepL.mono x hs)
  | .tup _, _, .tup h hs => .tup (x.m _ _ h) (RepL.mono x hs)
  | .dct _, _, .dct h e hs => .dct (x.m _ _ h) e (RepL.mono x hs)
  | .dcT _, _, .dcT h e hs => .dcT (x.m _ _ h) e (RepL.mono x hs)
  | .obj _ _, _, .obj g h e hs => .obj g (x.m _ _ h) e (RepL.mono x hs)
  | .hdl _, _, .hdl h => .hdl (x.get h)
  | .exc _ _, _, .exc g h h2 e hs => .exc g (x.m _ _ h) (x.m _ _ h2) e (RepL.mono x hs)
theorem RepL.mono (x : Ext η M η' M') : ∀ {ds : List D} {vs : List V}, RepL K mg η M vs ds → RepL K mg η' M' vs ds
  | [], _, .nil => .nil
  | _ :: _, _, .cons h hs => .cons (Rep.mono x h) (RepL.mono x hs)
end
theorem RepL.length : ∀ {ds : List D} {vs : List V}, RepL K mg η M vs ds → vs.length = ds.length
  | [], _, .nil => rfl
  | _ :: _, _, .cons _ hs => congrArg Nat.succ (RepL.length hs)
theorem RepL.get : ∀ {ds : List D} {vs : List V} {i : Nat} {v : V}, RepL K mg η M vs ds → vs[i]? = some v → ∃ d, ds[i]? = some d ∧ Rep K mg η M v d
  | [], _, _, _, .nil, h => by simp at h
  | _ :: _, _, 0, _, .cons h _, e => by simp at e; subst e; exact ⟨_, rfl, h⟩
  | _ :: _, _, i + 1, _, .cons _ hs, e => by
    obtain ⟨d, h1, h2⟩ := RepL.get (i := i) hs (by simpa using e)
    exact ⟨d, by simpa using h1, h2⟩
theorem RepL.getD' : ∀ {ds : List D} {vs : List V} {i : Nat} {d : D}, RepL K mg η M vs ds → ds[i]? = some d → ∃ v, vs[i]? = some v ∧ Rep K mg η M v d
  | [], _, _, _, .nil, h => by simp at h
  | _ :: _, _, 0, _, .cons h _, e => by simp at e; subst e; exact ⟨_, rfl, h⟩
  | _ :: _, _, i + 1, _, .cons _ hs, e => by
    obtain ⟨d, h1, h2⟩ := RepL.getD' (i := i) hs (by simpa using e)
    exact ⟨d, by simpa using h1, h2⟩
theorem RepL.append : ∀ {ds ds' : List D} {vs vs' : List V}, RepL K mg η M vs ds → RepL K mg η M vs' ds' → RepL K mg η M (vs ++ vs') (ds ++ ds')
  | [], _, _, _, .nil, s => s
  | _ :: _, _, _, _, .cons h hs, s => .cons h (RepL.append hs s)
theorem RepL.set : ∀ {ds : List D} {vs : List V} {d : D} {v : V} (i : Nat), RepL K mg η M vs ds → Rep K mg η M v d → RepL K mg η M (vs.set i v) (ds.set i d)
  | [], _, _, _, _, .nil, _ => .nil
  | _ :: _, _, _, _, 0, .cons _ hs, s => .cons s hs
  | _ :: _, _, _, _, i + 1, .cons h hs, s => .cons h (RepL.set i hs s)
theorem RepL.take : ∀ {ds : List D} {vs : List V} (n : Nat), RepL K mg η M vs ds → RepL K mg η M (vs.take n) (ds.take n)
  | _, _, 0, _ => by simpa using RepL.nil
  | [], _, _ + 1, .nil => .nil
  | _ :: _, _, n + 1, .cons h hs => .cons h (RepL.take n hs)
theorem RepL.drop : ∀ {ds : List D} {vs : List V} (n : Nat), RepL K mg η M vs ds → RepL K mg η M (vs.drop n) (ds.drop n)
  | _, _, 0, h => h
  | [], _, _ + 1, .nil => .nil
  | _ :: _, _, n + 1, .cons _ hs => RepL.drop n hs
theorem RepL.eraseIdx : ∀ {ds : List D} {vs : List V} (i : Nat), RepL K mg η M vs ds → RepL K mg η M (vs.eraseIdx i) (ds.eraseIdx i)
  | [], _, _, .nil => .nil
  | _ :: _, _, 0, .cons _ hs => hs
  | _ :: _, _, i + 1, .cons h hs => .cons h (RepL.eraseIdx i hs)
theorem RepL.reverse : ∀ {ds : List D} {vs : List V}, RepL K mg η M vs ds → RepL K mg η M vs.reverse ds.reverse
  | [], _, .nil => .nil
  | _ :: _, _, .cons h hs => by
    simp only [List.reverse_cons]
    exact (RepL.reverse hs).append (.cons h .nil)

/-- a mutable (or new) object at a: its top as it stands in H, its children frozen in M -/
def At (K : Fg) (mg : Mg) (η : List Addr) (M H : Hp) (a : Addr) : D → Prop
  | .lst ds => ∃ xs, H a = some (.lst xs) ∧ RepL K mg η M xs ds
  | .dct eds => ∃ kvs, H a = some (.dK kvs) ∧ kvs.map (·.1) = eds.map (·.1) ∧ RepL K mg η M (kvs.map (·.2)) (eds.map (·.2))
  | .dcT eds => ∃ kvs, H a = some (.dT kvs) ∧ kvs.map (·.1) = eds.map (·.1) ∧ RepL K mg η M (kvs.map (·.2)) (eds.map (·.2))
  | .obj c fds => ∃ C dx fs, mg c = some (.ref C) ∧ H a = some (.ins C dx fs) ∧ fs.map (·.1) = fds.map (·.1) ∧ RepL K mg η M (fs.map (·.2)) (fds.map (·.2))
  | _ => False
theorem At.mono (x : Ext η M η' M') {a : Addr} {d : D} (he : ∀ o, H a = some o → H' a = some o) (h : At K mg η M H a d) : At K mg η' M' H' a d := by
  cases d with
  | lst ds => obtain ⟨xs, e, r⟩ := h; exact ⟨xs, he _ e, r.mono x⟩
  | dct ds => obtain ⟨xs, e, k, r⟩ := h; exact ⟨xs, he _ e, k, r.mono x⟩
  | dcT ds => obtain ⟨xs, e, k, r⟩ := h; exact ⟨xs, he _ e, k, r.mono x⟩
  | obj c fds => obtain ⟨C, dx, fs, g, e, k, r⟩ := h; exact ⟨C, dx, fs, g, he _ e, k, r.mono x⟩
  | _ => exact False.elim h
theorem At.ex {a : Addr} {d : D} (h : At K mg η M H a d) : ∃ o, H a = some o := by
  cases d with
  | lst ds => obtain ⟨xs, e, r⟩ := h; exact ⟨_, e⟩
  | dct ds => obtain ⟨xs, e, k, r⟩ := h; exact ⟨_, e⟩
  | dcT ds => obtain ⟨xs, e, k, r⟩ := h; exact ⟨_, e⟩
  | obj c fds => obtain ⟨C, dx, fs, g, e, k, r⟩ := h; exact ⟨_, e⟩
  | _ => exact False.elim h
/-- the region with one object more -/
theorem At.frozen {a : Addr} {d : D} {o : HO} (x : Ext η M η' M') (he : H a = some o) (hm : M' a = some o) (h : At K mg η M H a d) : Rep K mg η' M' (.ref a) d := by
  cases d with
  | lst ds => obtain ⟨xs, e, r⟩ := h; rw [he] at e; cases e; exact .lst hm (r.mono x)
  | dct ds => obtain ⟨xs, e, k, r⟩ := h; rw [he] at e; cases e; exact .dct hm k (r.mono x)
  | dcT ds => obtain ⟨xs, e, k, r⟩ := h; rw [he] at e; cases e; exact .dcT hm k (r.mono x)
  | obj c fds => obtain ⟨C, dx, fs, g, e, k, r⟩ := h; rw [he] at e; cases e; exact .obj g hm k (r.mono x)
  | _ => exact False.elim h
end

/-! ### states -/
inductive Sl where
  | un | fz (d : D) | ow (d : D)
structure Cf where
  ρ : List Sl
  S : List D
/-- an expression's value: frozen data, the own object of a slot, a new object -/
inductive Rv where
  | fz (d : D) | loc (i : Nat) | nw (d : D)
/-- an exception: its class's name, its fields -/
structure Xc where
  cls : Str
  fs : List (Str × D)
inductive Res (α : Type) where
  | stuck | ok (a : α) (c : Cf) | err (x : Xc) (c : Cf)
def Res.bind {α β : Type} (r : Res α) (f : α → Cf → Res β) : Res β :=
  match r with
  | .stuck => .stuck
  | .ok a c => f a c
  | .err x c => .err x c

/-- the entry: heap, handles, region -/
structure En where
  H : Hp
  η : List Addr
  M : Hp

def SlotOk (K : Fg) (mg : Mg) (E : En) (η : List Addr) (M H : Hp) (sv : Option (Option V)) : Sl → Prop
  | .un => True
  | .fz d => ∃ v, sv = some (some v) ∧ Rep K mg η M v d
  | .ow d => ∃ a, sv = some (some (.ref a)) ∧ M a = none ∧ E.H a = none ∧ a ∉ η ∧ At K mg η M H a d
def Own (c : Cf) (σ : St) (a : Addr) : Prop := ∃ (i : Nat) (d : D), c.ρ[i]? = some (Sl.ow d) ∧ σ[i]? = some (some (V.ref a))

structure SR (K : Fg) (mg : Mg) (E : En) (η : List Addr) (M : Hp) (c : Cf) (σ : St) (H : Hp) : Prop where
  sub : Same M H
  len : σ.length = c.ρ.length
  slot : ∀ (i : Nat) (s : Sl), c.ρ[i]? = some s → SlotOk K mg E η M H (σ[i]?) s
  inj : ∀ (i j : Nat) (a : Addr) (d d' : D), c.ρ[i]? = some (.ow d) → c.ρ[j]? = some (.ow d') → σ[i]? = some (some (.ref a)) → σ[j]? = some (some (.ref a)) → i = j
  hlen : η.length = c.S.length
  hdl : ∀ (n : Nat) (a : Addr) (d : D), η[n]? = some a → c.S[n]? = some d → M a = none ∧ At K mg η M H a d
  hnd : η.Nodup
  fr : ∀ a o, E.H a = some o → a ∉ E.η → H a = some o
  pre : ∃ r, η = E.η ++ r
  new : ∀ a ∈ η, a ∈ E.η ∨ E.H a = none
  m0 : Same E.M M
  mn : ∀ a, E.M a = none → E.H a ≠ none → M a = none

section
variable {K : Fg} {mg : Mg} {E : En} {η η' : List Addr} {M M' H H' : Hp} {c c' : Cf} {σ σ' : St}
theorem SR.ext (s : SR K mg E η M c σ H) : Ext E.η E.M η M := ⟨s.m0, s.pre⟩
theorem SR.own (s : SR K mg E η M c σ H) {a : Addr} (o : Own c σ a) : M a = none ∧ E.H a = none ∧ a ∉ η ∧ ∃ u, H a = some u := by
  obtain ⟨i, d, h1, h2⟩ := o
  obtain ⟨b, e, q1, q2, q3, q4⟩ := s.slot i _ h1
  rw [e] at h2; cases h2
  exact ⟨q1, q2, q3, q4.ex⟩
theorem SR.hsome (s : SR K mg E η M c σ H) {a : Addr} (h : a ∈ η) : M a = none ∧ ∃ u, H a = some u := by
  obtain ⟨n, hn, rfl⟩ := List.mem_iff_getElem.mp h
  have hs : n < c.S.length := by rw [← s.hlen]; exact hn
  obtain ⟨q1, q2⟩ := s.hdl n η[n] c.S[n] (List.getElem?_eq_getElem hn) (List.getElem?_eq_getElem hs)
  exact ⟨q1, q2.ex⟩
/-- a free place is nobody's -/
theorem SR.free (s : SR K mg E η M c σ H) {p : Addr} (h : H p = none) : M p = none ∧ E.H p = none ∧ p ∉ η ∧ ¬ Own c σ p := by
  have n1 : p ∉ η := fun z => by
    obtain ⟨_, u, e⟩ := s.hsome z
    rw [e] at h; cases h
  refine ⟨s.sub.free h, ?_, n1, fun z => ?_⟩
  · cases q : E.H p with
    | none => rfl
    | some o =>
      have n2 : p ∉ E.η := fun z => n1 (s.ext.mem z)
      rw [s.fr p o q n2] at h; cases h
  · obtain ⟨_, _, _, u, e⟩ := s.own z
    rw [e] at h; cases h
/-- the heap changes at places that are nobody's -/
theorem SR.heap (s : SR K mg E η M c σ H) (h : ∀ a o, H a = some o → H' a = some o) : SR K mg E η M c σ H' := by
  refine ⟨fun a o e => h a o (s.sub a o e), s.len, fun i sl e => ?_, s.inj, s.hlen, fun n a d e1 e2 => ?_, s.hnd, fun a o e n => h a o (s.fr a o e n), s.pre, s.new, s.m0, s.mn⟩
  · have q := s.slot i sl e
    cases sl with
    | un => trivial
    | fz d => exact q
    | ow d =>
      obtain ⟨a, e1, e2, e3, e4, e5⟩ := q
      exact ⟨a, e1, e2, e3, e4, e5.mono .refl fun o => h a o⟩
  · obtain ⟨q1, q2⟩ := s.hdl n a d e1 e2
    exact ⟨q1, q2.mono .refl fun o => h a o⟩
theorem SR.alloc (s : SR K mg E η M c σ H) {p : Addr} {o : HO} (h : H p = none) : SR K mg E η M c σ (upd H p o) :=
  s.heap fun a u e => by rw [upd_ne (ne_of_none e h)]; exact e
/-- an object freezes -/
theorem SR.freeze (s : SR K mg E η M c σ H) {a : Addr} {o : HO} (hm : M a = none) (he : E.H a = none) (hn : a ∉ η) (ho : ¬ Own c σ a) (h : H a = some o) :
    SR K mg E η (upd M a o) c σ H ∧ Ext η M η (upd M a o) := by
  have x : Ext η M η (upd M a o) := ⟨fun b u e => by rw [upd_ne (ne_of_none e hm)]; exact e, [], by simp⟩
  refine ⟨⟨fun b u e => ?_, s.len, fun i sl e => ?_, s.inj, s.hlen, fun n b d e1 e2 => ?_, s.hnd, s.fr, s.pre, s.new, s.m0.trans x.m, fun b e1 e2 => ?_⟩, x⟩
  · by_cases hb : b = a
    · subst hb; rw [upd_same] at e; cases e; exact h
    · rw [upd_ne hb] at e; exact s.sub b u e
  · have q := s.slot i sl e
    cases sl with
    | un => trivial
    | fz d => obtain ⟨v, e1, r⟩ := q; exact ⟨v, e1, r.mono x⟩
    | ow d =>
      obtain ⟨b, e1, e2, e3, e4, e5⟩ := q
      have hb : b ≠ a := fun z => ho ⟨i, d, e, by rw [e1, z]⟩
      exact ⟨b, e1, by rw [upd_ne hb]; exact e2, e3, e4, e5.mono x fun o z => z⟩
  · obtain ⟨q1, q2⟩ := s.hdl n b d e1 e2
    have hb : b ≠ a := fun z => hn (z ▸ List.mem_of_getElem? e1)
    exact ⟨by rw [upd_ne hb]; exact q1, q2.mono x fun o z => z⟩
  · by_cases hb : b = a
    · subst hb; exact absurd he e2
    · rw [upd_ne hb]; exact s.mn b e1 e2

/-! ### slots -/
theorem SR.setSlot (s : SR K mg E η M c σ H) {i : Nat} {v : V} {sl : Sl} (hi : i < c.ρ.length)
    (ok : SlotOk K mg E η M H (some (some v)) sl) (hw : ∀ d a, sl = .ow d → v = .ref a → ∀ (j : Nat) (d' : D), j ≠ i → c.ρ[j]? = some (.ow d') → σ[j]? ≠ some (some (.ref a))) :
    SR K mg E η M { c with ρ := c.ρ.set i sl } (σ.set i (some v)) H := by
  have hσ : i < σ.length := by rw [s.len]; exact hi
  refine ⟨s.sub, by simp [s.len], fun j t e => ?_, fun j k a d d' e1 e2 e3 e4 => ?_, s.hlen, s.hdl, s.hnd, s.fr, s.pre, s.new, s.m0, s.mn⟩
  · have e : (c.ρ.set i sl)[j]? = some t := e
    by_cases hj : j = i
    · subst hj
      rw [List.getElem?_set_self hi] at e; cases e
      rw [List.getElem?_set_self hσ]
      exact ok
    · rw [List.getElem?_set_ne (Ne.symm hj)] at e
      rw [List.getElem?_set_ne (Ne.symm hj)]
      exact s.slot j t e
  · have f1 : (c.ρ.set i sl)[j]? = some (.ow d) := e1
    have f2 : (c.ρ.set i sl)[k]? = some (.ow d') := e2
    clear e1 e2
    by_cases hj : j = i
    · by_cases hk : k = i
      · rw [hj, hk]
      · subst hj
        rw [List.getElem?_set_self hi] at f1; cases f1
        rw [List.getElem?_set_self hσ] at e3; cases e3
        rw [List.getElem?_set_ne (Ne.symm hk)] at f2 e4
        exact absurd e4 (hw d a rfl rfl k d' hk f2)
    · rw [List.getElem?_set_ne (Ne.symm hj)] at f1 e3
      by_cases hk : k = i
      · subst hk
        rw [List.getElem?_set_self hi] at f2; cases f2
        rw [List.getElem?_set_self hσ] at e4; cases e4
        exact absurd e3 (hw d' a rfl rfl j d hj f1)
      · rw [List.getElem?_set_ne (Ne.symm hk)] at f2 e4
        exact s.inj j k a d d' f1 f2 e3 e4
/-- the kind of a slot changes, not its value -/
theorem SR.kind (s : SR K mg E η M c σ H) {i : Nat} {v : V} {sl : Sl} (hv : σ[i]? = some (some v)) (ok : SlotOk K mg E η M H (some (some v)) sl)
    (hw : ∀ d a, sl = .ow d → v = .ref a → ∀ (j : Nat) (d' : D), j ≠ i → c.ρ[j]? = some (.ow d') → σ[j]? ≠ some (some (.ref a))) : SR K mg E η M { c with ρ := c.ρ.set i sl } σ H := by
  have hσ : i < σ.length := (List.getElem?_eq_some_iff.mp hv).1
  have q := s.setSlot (i := i) (v := v) (sl := sl) (by rw [← s.len]; exact hσ) ok hw
  have e : σ.set i (some v) = σ := by
    have := (List.getElem?_eq_some_iff.mp hv).2
    rw [← this]
    exact List.set_getElem_self hσ
  rw [e] at q
  exact q
/-- the own object of a slot freezes -/
theorem SR.freezeSlot' (s : SR K mg E η M c σ H) {i : Nat} {d : D} (h : c.ρ[i]? = some (.ow d)) :
    ∃ a M', σ[i]? = some (some (.ref a)) ∧ Ext η M η M' ∧ SR K mg E η M' { c with ρ := c.ρ.set i (.fz d) } σ H ∧ Rep K mg η M' (.ref a) d ∧ ∀ b, b ≠ a → M' b = M b := by
  obtain ⟨a, e1, e2, e3, e4, e5⟩ := s.slot i _ h
  obtain ⟨o, ho⟩ := e5.ex
  have hi : i < c.ρ.length := (List.getElem?_eq_some_iff.mp h).1
  -- the slot is forgotten first
  have s1 : SR K mg E η M { c with ρ := c.ρ.set i .un } σ H := s.kind e1 trivial fun _ _ z => nomatch z
  have no : ¬ Own { c with ρ := c.ρ.set i .un } σ a := by
    rintro ⟨j, d', q1, q2⟩
    have q1 : (c.ρ.set i .un)[j]? = some (.ow d') := q1
    by_cases hj : j = i
    · subst hj
      rw [List.getElem?_set_self hi] at q1; cases q1
    · rw [List.getElem?_set_ne (Ne.symm hj)] at q1
      exact hj (s.inj j i a d' d q1 h q2 e1)
  obtain ⟨s2, x⟩ := s1.freeze e2 e3 e4 no ho
  have r : Rep K mg η (upd M a o) (.ref a) d := e5.frozen x ho upd_same
  refine ⟨a, upd M a o, e1, x, ?_, r, fun b hb => upd_ne hb⟩
  have q := s2.kind (sl := .fz d) e1 ⟨_, rfl, r⟩ fun _ _ z => nomatch z
  have e : (c.ρ.set i Sl.un).set i (.fz d) = c.ρ.set i (.fz d) := by rw [List.set_set]
  have q : SR K mg E η (upd M a o) { ρ := (c.ρ.set i Sl.un).set i (.fz d), S := c.S } σ H := q
  rw [e] at q
  exact q
theorem SR.freezeSlot (s : SR K mg E η M c σ H) {i : Nat} {d : D} (h : c.ρ[i]? = some (.ow d)) :
    ∃ a M', σ[i]? = some (some (.ref a)) ∧ Ext η M η M' ∧ SR K mg E η M' { c with ρ := c.ρ.set i (.fz d) } σ H ∧ Rep K mg η M' (.ref a) d :=
  let ⟨a, M', h1, h2, h3, h4, _⟩ := s.freezeSlot' h
  ⟨a, M', h1, h2, h3, h4⟩
/-- the own object of a slot is written -/
theorem SR.writeSlot (s : SR K mg E η M c σ H) {i : Nat} {d d' : D} {a : Addr} {o : HO} (h : c.ρ[i]? = some (.ow d)) (ha : σ[i]? = some (some (.ref a))) (hd : At K mg η M (upd H a o) a d') :
    SR K mg E η M { c with ρ := c.ρ.set i (.ow d') } σ (upd H a o) := by
  obtain ⟨b, e1, e2, e3, e4, e5⟩ := s.slot i _ h
  rw [ha] at e1; cases e1
  have hi : i < c.ρ.length := (List.getElem?_eq_some_iff.mp h).1
  have s1 : SR K mg E η M { c with ρ := c.ρ.set i .un } σ H := s.kind ha trivial fun _ _ z => nomatch z
  have no : ∀ (j : Nat) (t : D), j ≠ i → c.ρ[j]? = some (.ow t) → σ[j]? ≠ some (some (.ref a)) := fun j t hj q1 q2 => hj (s.inj j i a t d q1 h q2 ha)
  have s2 : SR K mg E η M { c with ρ := c.ρ.set i .un } σ (upd H a o) := by
    refine ⟨fun b u e => ?_, s1.len, fun j sl e => ?_, s1.inj, s1.hlen, fun n b t q1 q2 => ?_, s1.hnd, fun b u e n => ?_, s1.pre, s1.new, s1.m0, s1.mn⟩
    · rw [upd_ne (ne_of_none e e2)]; exact s.sub b u e
    · have q := s1.slot j sl e
      cases sl with
      | un => trivial
      | fz t => exact q
      | ow t =>
        obtain ⟨b, q1, q2, q3, q4, q5⟩ := q
        have hb : b ≠ a := by
          rintro rfl
          have e : (c.ρ.set i .un)[j]? = some (.ow t) := e
          by_cases hj : j = i
          · subst hj
            rw [List.getElem?_set_self hi] at e; cases e
          · rw [List.getElem?_set_ne (Ne.symm hj)] at e
            exact no j t hj e q1
        exact ⟨b, q1, q2, q3, q4, q5.mono .refl fun u z => by rw [upd_ne hb]; exact z⟩
    · obtain ⟨z1, z2⟩ := s.hdl n b t q1 q2
      have hb : b ≠ a := fun z => e4 (z ▸ List.mem_of_getElem? q1)
      exact ⟨z1, z2.mono .refl fun u z => by rw [upd_ne hb]; exact z⟩
    · rw [upd_ne (ne_of_none e e3)]; exact s.fr b u e n
  have q := s2.kind (sl := .ow d') ha ⟨a, rfl, e2, e3, e4, hd⟩ fun t b _ hb j t' hj z => by
    cases hb
    have z : (c.ρ.set i .un)[j]? = some (.ow t') := z
    rw [List.getElem?_set_ne (Ne.symm hj)] at z
    exact no j t' hj z
  have e : (c.ρ.set i Sl.un).set i (.ow d') = c.ρ.set i (.ow d') := by rw [List.set_set]
  have q : SR K mg E η M { ρ := (c.ρ.set i Sl.un).set i (.ow d'), S := c.S } σ (upd H a o) := q
  rw [e] at q
  exact q
/-- a handle's object is written -/
theorem SR.writeHdl (s : SR K mg E η M c σ H) {n : Nat} {a : Addr} {d d' : D} {o : HO} (hn : η[n]? = some a) (hd : c.S[n]? = some d) (ha : At K mg η M (upd H a o) a d') :
    SR K mg E η M { c with S := c.S.set n d' } σ (upd H a o) := by
  obtain ⟨q1, q2⟩ := s.hdl n a d hn hd
  have ns : n < c.S.length := (List.getElem?_eq_some_iff.mp hd).1
  refine ⟨fun b u e => ?_, s.len, fun j sl e => ?_, s.inj, by simp [s.hlen], fun m b t e1 e2 => ?_, s.hnd, fun b u e z => ?_, s.pre, s.new, s.m0, s.mn⟩
  · rw [upd_ne (ne_of_none e q1)]; exact s.sub b u e
  · have q := s.slot j sl e
    cases sl with
    | un => trivial
    | fz t => exact q
    | ow t =>
      obtain ⟨b, z1, z2, z3, z4, z5⟩ := q
      have hb : b ≠ a := fun z => z4 (z ▸ List.mem_of_getElem? hn)
      exact ⟨b, z1, z2, z3, z4, z5.mono .refl fun u z => by rw [upd_ne hb]; exact z⟩
  · have e2 : (c.S.set n d')[m]? = some t := e2
    by_cases hm : m = n
    · subst hm
      rw [hn] at e1; cases e1
      rw [List.getElem?_set_self ns] at e2; cases e2
      exact ⟨q1, ha⟩
    · rw [List.getElem?_set_ne (Ne.symm hm)] at e2
      obtain ⟨z1, z2⟩ := s.hdl m b t e1 e2
      have hb : b ≠ a := by
        rintro rfl
        obtain ⟨l1, g1⟩ := List.getElem?_eq_some_iff.mp e1
        obtain ⟨l2, g2⟩ := List.getElem?_eq_some_iff.mp hn
        exact hm ((List.getElem_inj s.hnd).mp (g1.trans g2.symm))
      exact ⟨z1, z2.mono .refl fun u z => by rw [upd_ne hb]; exact z⟩
  · by_cases hb : b = a
    · subst hb
      rcases s.new b (List.mem_of_getElem? hn) with z' | z'
      · exact absurd z' z
      · rw [z'] at e; cases e
    · rw [upd_ne hb]; exact s.fr b u e z
/-- a new object becomes a handle -/
theorem SR.newHdl (s : SR K mg E η M c σ H) {a : Addr} {d : D} (hm : M a = none) (he : E.H a = none) (hn : a ∉ η) (ho : ¬ Own c σ a) (ha : At K mg η M H a d) :
    SR K mg E (η ++ [a]) M { c with S := c.S ++ [d] } σ H ∧ Ext η M (η ++ [a]) M := by
  have x : Ext η M (η ++ [a]) M := ⟨Same.refl M, [a], rfl⟩
  obtain ⟨r, er⟩ := s.pre
  refine ⟨⟨s.sub, s.len, fun j sl e => ?_, s.inj, by simp [s.hlen], fun m b t e1 e2 => ?_, ?_, s.fr, ⟨r ++ [a], by rw [er, List.append_assoc]⟩, fun b hb => ?_, s.m0, s.mn⟩, x⟩
  · have q := s.slot j sl e
    cases sl with
    | un => trivial
    | fz t => obtain ⟨v, z, q⟩ := q; exact ⟨v, z, q.mono x⟩
    | ow t =>
      obtain ⟨b, z1, z2, z3, z4, z5⟩ := q
      refine ⟨b, z1, z2, z3, ?_, z5.mono x fun u z => z⟩
      intro hb
      rcases List.mem_append.mp hb with hb | hb
      · exact z4 hb
      · have hb : b = a := by simpa using hb
        exact ho ⟨j, t, e, by rw [z1, hb]⟩
  · have e2 : (c.S ++ [d])[m]? = some t := e2
    by_cases hl : m < η.length
    · rw [List.getElem?_append_left hl] at e1
      rw [List.getElem?_append_left (by rw [← s.hlen]; exact hl)] at e2
      obtain ⟨z1, z2⟩ := s.hdl m b t e1 e2
      exact ⟨z1, z2.mono x fun u z => z⟩
    · have hlt := (List.getElem?_eq_some_iff.mp e1).1
      simp only [List.length_append, List.length_cons, List.length_nil] at hlt
      have em : m = η.length := by omega
      subst em
      rw [List.getElem?_append_right (Nat.le_refl _)] at e1
      rw [s.hlen, List.getElem?_append_right (Nat.le_refl _)] at e2
      simp at e1 e2
      subst e1; subst e2
      exact ⟨hm, ha.mono x fun u z => z⟩
  · rw [List.nodup_append]
    exact ⟨s.hnd, by simp, fun y hy z hz => by simp at hz; subst hz; exact fun q => hn (q ▸ hy)⟩
  · rcases List.mem_append.mp hb with hb | hb
    · exact s.new b hb
    · have hb : b = a := by simpa using hb
      subst hb; exact .inr he

/-! ### entering anew: everything but the own objects and the handles is framed -/
open Classical in
noncomputable def mask (c : Cf) (σ : St) (H : Hp) : Hp := fun a => if Own c σ a then none else H a
theorem mask_not {a : Addr} (h : ¬ Own c σ a) : mask c σ H a = H a := by unfold mask; rw [if_neg h]
theorem mask_own {a : Addr} (h : Own c σ a) : mask c σ H a = none := by unfold mask; rw [if_pos h]
theorem SR.enter (s : SR K mg E η M c σ H) : SR K mg ⟨mask c σ H, η, M⟩ η M c σ H := by
  refine ⟨s.sub, s.len, fun i sl e => ?_, s.inj, s.hlen, s.hdl, s.hnd, fun a o e _ => ?_, ⟨[], by simp⟩, fun a h => .inl h, Same.refl M, fun a h _ => h⟩
  · have q := s.slot i sl e
    cases sl with
    | un => trivial
    | fz t => exact q
    | ow t =>
      obtain ⟨b, z1, z2, z3, z4, z5⟩ := q
      exact ⟨b, z1, z2, mask_own ⟨i, t, e, z1⟩, z4, z5⟩
  · by_cases h : Own c σ a
    · have e : mask c σ H a = some o := e
      rw [mask_own h] at e; cases e
    · have e : mask c σ H a = some o := e
      rw [mask_not h] at e; exact e
/-- what is framed by a step -/
structure Frm (η : List Addr) (M : Hp) (c : Cf) (σ : St) (H : Hp) (M' H' : Hp) : Prop where
  h : ∀ a o, H a = some o → a ∉ η → ¬ Own c σ a → H' a = some o
  m : ∀ a o, H a = some o → ¬ Own c σ a → M a = none → M' a = none
  o : ∀ a, Own c σ a → ∃ o, H a = some o
theorem SR.leave (s : SR K mg E η M c σ H) (t : SR K mg ⟨mask c σ H, η, M⟩ η' M' c' σ' H') : SR K mg E η' M' c' σ' H' ∧ Frm η M c σ H M' H' := by
  have nown : ∀ {a o}, E.H a = some o → ¬ Own c σ a := fun {a o} e z => by
    obtain ⟨_, q, _⟩ := s.own z
    rw [q] at e; cases e
  have key : ∀ {a o}, E.H a = some o → a ∉ E.η → mask c σ H a = some o ∧ a ∉ η := fun {a o} e n => by
    refine ⟨by rw [mask_not (nown e)]; exact s.fr a o e n, fun z => ?_⟩
    rcases s.new a z with q | q
    · exact n q
    · rw [q] at e; cases e
  obtain ⟨r, er⟩ := s.pre
  obtain ⟨r', er'⟩ := t.pre
  refine ⟨⟨t.sub, t.len, fun i sl e => ?_, t.inj, t.hlen, t.hdl, t.hnd, fun a o e n => ?_, ⟨r ++ r', by rw [er']; show η ++ r' = _; rw [er, List.append_assoc]⟩, fun a h => ?_, s.m0.trans t.m0, fun a h1 h2 => ?_⟩, fun a o e n no => ?_, fun a o e no hm => ?_, fun a z => (s.own z).2.2.2⟩
  · have q := t.slot i sl e
    cases sl with
    | un => trivial
    | fz u => exact q
    | ow u =>
      obtain ⟨b, z1, z2, z3, z4, z5⟩ := q
      refine ⟨b, z1, z2, ?_, z4, z5⟩
      cases qe : E.H b with
      | none => rfl
      | some o =>
        have hb : b ∉ E.η := fun z => z4 (t.ext.mem (s.ext.mem z))
        have z3 : mask c σ H b = none := z3
        rw [(key qe hb).1] at z3; cases z3
  · obtain ⟨k1, k2⟩ := key e n
    exact t.fr a o k1 k2
  · rcases t.new a h with q | q
    · exact s.new a q
    · cases qe : E.H a with
      | none => exact .inr rfl
      | some o =>
        by_cases hb : a ∈ E.η
        · exact .inl hb
        · have q : mask c σ H a = none := q
          rw [(key qe hb).1] at q; cases q
  · refine t.mn a (s.mn a h1 h2) ?_
    cases qe : E.H a with
    | none => exact absurd qe h2
    | some o =>
      show mask c σ H a ≠ none
      by_cases hb : a ∈ E.η
      · rw [mask_not (nown qe)]
        obtain ⟨_, u, eu⟩ := s.hsome (s.ext.mem hb)
        rw [eu]; simp
      · rw [(key qe hb).1]; simp
  · exact t.fr a o (by show mask c σ H a = some o; rw [mask_not no]; exact e) n
  · exact t.mn a hm (by show mask c σ H a ≠ none; rw [mask_not no, e]; simp)
end
end LH
/-! LHRule: expressions, tests, statements run as trees. -/
namespace LH
open PySem PySem.Spec PyProof.Rows L2

/-! ### weakest readings -/
def We (X : Cx) (e : Expr) : TE := fun σ H Q => ∀ pins s, Inv X pins σ H s → wpAny (model X.prog X.w) X.A (eval e X.env) (EP X pins σ Q) X.xe s
theorem we_pe {X : Cx} {e : Expr} : PE X e (We X e) := ⟨fun pins s σ H Q I h => h pins s I⟩
theorem pe_we {X : Cx} {e : Expr} {t : TE} (p : PE X e t) {σ : St} {H : Hp} {Q : VK} (h : t σ H Q) : We X e σ H Q := fun pins s I => p.run pins s σ H Q I h
def Wt (X : Cx) (e : Expr) : TT := fun σ H Q => ∀ pins s, Inv X pins σ H s → wpAny (model X.prog X.w) X.A (isTrue e X.env (eval e X.env)) (TP X pins σ Q) X.xe s
theorem wt_pt {X : Cx} {e : Expr} : PT X e (Wt X e) := ⟨fun pins s σ H Q I h => h pins s I⟩
theorem pt_wt {X : Cx} {e : Expr} {t : TT} (p : PT X e t) {σ : St} {H : Hp} {Q : Bool → Hp → Prop} (h : t σ H Q) : Wt X e σ H Q := fun pins s I => p.run pins s σ H Q I h
def Wa (X : Cx) (es : List Expr) : TA := fun σ H Q => ∀ pos pins s, Inv X pins σ H s → wpAny (model X.prog X.w) X.A (spliced (backTo pos (starEach es X.env))) (AP X pins σ Q) X.xe s
theorem wa_pa {X : Cx} {es : List Expr} : PA X es (Wa X es) := ⟨fun pos pins s σ H Q I h => h pos pins s I⟩
theorem pa_wa {X : Cx} {es : List Expr} {t : TA} (p : PA X es t) {σ : St} {H : Hp} {Q : List V → Hp → Prop} (h : t σ H Q) : Wa X es σ H Q := fun pos pins s I => p.run pos pins s σ H Q I h
def Ws (X : Cx) (st : Stmt) : TS := fun D σ H => ∀ pins s, Inv X pins σ H s → wpAny (model X.prog X.w) X.A (exec st X.env) (SP X pins D) X.xe s
theorem ws_ps {X : Cx} {st : Stmt} : PS X st (Ws X st) := ⟨fun pins s σ H D I h => h pins s I⟩
theorem ps_ws {X : Cx} {st : Stmt} {t : TS} (p : PS X st t) {σ : St} {H : Hp} {D : Ends} (h : t D σ H) : Ws X st D σ H := fun pins s I => p.run pins s σ H D I h
def Wss (X : Cx) (st : List Stmt) : TS := fun D σ H => ∀ pins s, Inv X pins σ H s → wpAny (model X.prog X.w) X.A (execs st X.env) (SP X pins D) X.xe s
theorem wss_pss {X : Cx} {st : List Stmt} : PSs X st (Wss X st) := ⟨fun pins s σ H D I h => h pins s I⟩
theorem pss_wss {X : Cx} {st : List Stmt} {t : TS} (p : PSs X st t) {σ : St} {H : Hp} {D : Ends} (h : t D σ H) : Wss X st D σ H := fun pins s I => p.run pins s σ H D I h
/-- operators, calls by values -/
def Wo (X : Cx) (f : Value → Value → Sem Value) : R2 := fun x y H Q => ∀ pins s σ v u, Inv X pins σ H s → RelV x v → RelV y u → wpAny (model X.prog X.w) X.A (f v u) (EP X pins σ Q) X.xe s
theorem wo_op {X : Cx} {f : Value → Value → Sem Value} : OpR X f (Wo X f) := fun pins s σ H x y v u Q I r1 r2 h => h pins s σ v u I r1 r2
theorem op_wo {X : Cx} {f : Value → Value → Sem Value} {r : R2} (h : OpR X f r) {x y : V} {H : Hp} {Q : VK} (q : r x y H Q) : Wo X f x y H Q := fun pins s σ v u I r1 r2 => h pins s σ H x y v u Q I r1 r2 q
def Wu (X : Cx) (f : Value → Sem Value) : V → Hp → VK → Prop := fun x H Q => ∀ pins s σ v, Inv X pins σ H s → RelV x v → wpAny (model X.prog X.w) X.A (f v) (EP X pins σ Q) X.xe s
theorem wu_un {X : Cx} {f : Value → Sem Value} : UnR X f (Wu X f) := fun pins s σ H x v Q I r1 h => h pins s σ v I r1
theorem un_wu {X : Cx} {f : Value → Sem Value} {r : V → Hp → VK → Prop} (h : UnR X f r) {x : V} {H : Hp} {Q : VK} (q : r x H Q) : Wu X f x H Q := fun pins s σ v I r1 => h pins s σ H x v Q I r1 q
def Wc (X : Cx) (f : Value) : List V → Hp → VK → Prop := fun xs H Q => ∀ pins s σ us, Inv X pins σ H s → Vals xs us → wpAny (model X.prog X.w) X.A (call f us) (EP X pins σ Q) X.xe s
theorem wc_call {X : Cx} {f : Value} : CallR X f (Wc X f) := fun pins s σ H xs us Q I r1 h => h pins s σ us I r1
theorem call_wc {X : Cx} {f : Value} {r : List V → Hp → VK → Prop} (h : CallR X f r) {xs : List V} {H : Hp} {Q : VK} (q : r xs H Q) : Wc X f xs H Q := fun pins s σ us I r1 => h pins s σ H xs us Q I r1 q
def Wi2 (X : Cx) : R2 := fun x y H Q => ∀ (value slice : Expr) pins s σ v u, Inv X pins σ H s → RelV x v → RelV y u → subscripted slice false v u = operate [v, u] (getItem v u) → wpAny (model X.prog X.w) X.A (subscriptTail value slice v u) (EP X pins σ Q) X.xe s
theorem wi_ix {X : Cx} : IxR X (Wi2 X) := fun value slice pins s σ H x y v u Q I r1 r2 h hs => h value slice pins s σ v u I r1 r2 hs
theorem ix_wi {X : Cx} {r : R2} (h : IxR X r) {x y : V} {H : Hp} {Q : VK} (q : r x y H Q) : Wi2 X x y H Q := fun value slice pins s σ v u I r1 r2 hs => h value slice pins s σ H x y v u Q I r1 r2 q hs
def Wm (X : Cx) (id : String) : V → List V → Hp → VK → Prop := fun x xs H Q => ∀ pins s σ v us, Inv X pins σ H s → RelV x v → Vals xs us → wpAny (model X.prog X.w) X.A (call (.builtin id) (v :: us)) (EP X pins σ Q) X.xe s
theorem wm_mt {X : Cx} {id : String} : MtR X id (Wm X id) := fun pins s σ H x xs v us Q I r1 r2 h => h pins s σ v us I r1 r2
theorem mt_wm {X : Cx} {id : String} {r : V → List V → Hp → VK → Prop} (h : MtR X id r) {x : V} {xs : List V} {H : Hp} {Q : VK} (q : r x xs H Q) : Wm X id x xs H Q := fun pins s σ v us I r1 r2 => h pins s σ H x xs v us Q I r1 r2 q
def Wg (X : Cx) (tg : Expr) : TG := fun v σ H Q => ∀ pins s u, Inv X pins σ H s → RelV v u → wpAny (model X.prog X.w) X.A (assign tg X.env u) (fun _ s' => ∃ σ' H', Inv X pins σ' H' s' ∧ Q σ' H') X.xe s
theorem wg_pg {X : Cx} {tg : Expr} : PG X tg (Wg X tg) := ⟨fun pins s σ H v u Q I r h => h pins s u I r⟩
theorem pg_wg {X : Cx} {tg : Expr} {t : TG} (p : PG X tg t) {v : V} {σ : St} {H : Hp} {Q : St → Hp → Prop} (h : t v σ H Q) : Wg X tg v σ H Q := fun pins s u I r => p.run pins s σ H v u Q I r h
def Wi (X : Cx) (tg it : Expr) : TI := fun σ H R => ∀ pins s, Inv X pins σ H s →
    wpAny (model X.prog X.w) X.A (eval it X.env) (fun v s1 => wpAny (model X.prog X.w) X.A (pyIter v) (PIE X pins σ tg R) X.xe s1) X.xe s
theorem wi_pi {X : Cx} {tg it : Expr} : PI X tg it (Wi X tg it) := ⟨fun pins s σ H R I h => h pins s I⟩
theorem pi_wi {X : Cx} {tg it : Expr} {t : TI} (p : PI X tg it t) {σ : St} {H : Hp} {R : It → Hp → Prop} (h : t σ H R) : Wi X tg it σ H R := fun pins s I => p.run pins s σ H R I h

/-! ### values -/
def RvR (K : Fg) (mg : Mg) (E : En) (η : List Addr) (M : Hp) (c : Cf) (σ : St) (H : Hp) (v : V) : Rv → Prop
  | .fz d => Rep K mg η M v d
  | .loc i => σ[i]? = some (some v)
  | .nw d => ∃ a, v = .ref a ∧ M a = none ∧ E.H a = none ∧ a ∉ η ∧ ¬ Own c σ a ∧ At K mg η M H a d
def XR (K : Fg) (mg : Mg) (η : List Addr) (M : Hp) (cls : Value) (d : Option Addr) (x : Xc) : Prop :=
  ∃ dd fs, mg x.cls = some cls ∧ d = some dd ∧ M dd = some (.xd fs) ∧ fs.map (·.1) = x.fs.map (·.1) ∧ RepL K mg η M (fs.map (·.2)) (x.fs.map (·.2))
/-- an operand stays: a new object freezes -/
def settle : Rv → Rv
  | .nw d => .fz d
  | r => r
/-- what is read of a value now -/
def view (c : Cf) : Rv → Option D
  | .fz (.hdl n) => c.S[n]?
  | .fz d => some d
  | .nw d => some d
  | .loc i => match c.ρ[i]? with
    | some (.ow d) => some d
    | some (.fz (.hdl n)) => c.S[n]?
    | some (.fz d) => some d
    | _ => none
/-- the value as data that stays -/
def toVal (c : Cf) : Rv → Option (D × Cf)
  | .fz d => some (d, c)
  | .nw d => some (d, c)
  | .loc i => match c.ρ[i]? with
    | some (.ow d) => some (d, { c with ρ := c.ρ.set i (.fz d) })
    | some (.fz d) => some (d, c)
    | _ => none
def VwR (K : Fg) (mg : Mg) (η : List Addr) (M H : Hp) (v : V) (d : D) : Prop := Rep K mg η M v d ∨ ∃ a, v = .ref a ∧ At K mg η M H a d

section
variable {K : Fg} {mg : Mg} {E : En} {η η' : List Addr} {M M' H H' : Hp} {c c' : Cf} {σ σ' : St} {v : V} {r : Rv} {d : D}
theorem settle_ok (s : SR K mg E η M c σ H) (h : RvR K mg E η M c σ H v r) : ∃ M', SR K mg E η M' c σ H ∧ Ext η M η M' ∧ RvR K mg E η M' c σ H v (settle r) := by
  cases r with
  | fz d => exact ⟨M, s, .refl, h⟩
  | loc i => exact ⟨M, s, .refl, h⟩
  | nw d =>
    obtain ⟨a, rfl, h1, h2, h3, h4, h5⟩ := h
    obtain ⟨o, ho⟩ := h5.ex
    obtain ⟨s', x⟩ := s.freeze h1 h2 h3 h4 ho
    exact ⟨_, s', x, h5.frozen x ho upd_same⟩
theorem toVal_ok (s : SR K mg E η M c σ H) (h : RvR K mg E η M c σ H v r) (e : toVal c r = some (d, c')) : ∃ M', SR K mg E η M' c' σ H ∧ Ext η M η M' ∧ Rep K mg η M' v d := by
  cases r with
  | fz t => cases e; exact ⟨M, s, .refl, h⟩
  | nw t =>
    cases e
    obtain ⟨a, rfl, h1, h2, h3, h4, h5⟩ := h
    obtain ⟨o, ho⟩ := h5.ex
    obtain ⟨s', x⟩ := s.freeze h1 h2 h3 h4 ho
    exact ⟨_, s', x, h5.frozen x ho upd_same⟩
  | loc i =>
    unfold toVal at e
    dsimp only at e
    cases q : c.ρ[i]? with
    | none => rw [q] at e; cases e
    | some sl =>
      rw [q] at e
      cases sl with
      | un => cases e
      | fz t =>
        cases e
        obtain ⟨w, e1, r1⟩ := s.slot i _ q
        have h : σ[i]? = some (some v) := h
        rw [h] at e1; cases e1
        exact ⟨M, s, .refl, r1⟩
      | ow t =>
        cases e
        obtain ⟨a, M', e1, x, s', r1⟩ := s.freezeSlot q
        have h : σ[i]? = some (some v) := h
        rw [h] at e1; cases e1
        exact ⟨M', s', x, r1⟩
theorem rep_view (s : SR K mg E η M c σ H) {t : D} (h : Rep K mg η M v t) (e : view c (.fz t) = some d) : VwR K mg η M H v d := by
  cases t with
  | hdl n =>
    cases h with
    | hdl hn =>
      obtain ⟨q1, q2⟩ := s.hdl n _ d hn e
      exact .inr ⟨_, rfl, q2⟩
  | _ => cases e; exact .inl h
theorem view_ok (s : SR K mg E η M c σ H) (h : RvR K mg E η M c σ H v r) (e : view c r = some d) : VwR K mg η M H v d := by
  cases r with
  | fz t => exact rep_view s h e
  | nw t =>
    cases e
    obtain ⟨a, rfl, h1, h2, h3, h4, h5⟩ := h
    exact .inr ⟨a, rfl, h5⟩
  | loc i =>
    unfold view at e
    dsimp only at e
    have h : σ[i]? = some (some v) := h
    cases q : c.ρ[i]? with
    | none => rw [q] at e; cases e
    | some sl =>
      rw [q] at e
      cases sl with
      | un => cases e
      | fz t =>
        obtain ⟨w, e1, r1⟩ := s.slot i _ q
        rw [h] at e1; cases e1
        refine rep_view s r1 ?_
        cases t <;> exact e
      | ow t =>
        obtain ⟨a, e1, q1, q2, q3, q4⟩ := s.slot i _ q
        rw [h] at e1; cases e1
        cases e
        exact .inr ⟨a, rfl, q4⟩
/-- a settled operand stays while another one is reckoned -/
def Settled : Rv → Prop
  | .nw _ => False
  | _ => True
theorem settled_settle (r : Rv) : Settled (settle r) := by cases r <;> trivial
theorem RvR.keep (x : Ext η M η' M') (hs : Settled r) (h : RvR K mg E η M c σ H v r) : RvR K mg E η' M' c' σ H' v r := by
  cases r with
  | fz t => exact Rep.mono x h
  | loc i => exact h
  | nw t => exact hs.elim
theorem VwR.mono (x : Ext η M η' M') (he : ∀ o a, H a = some o → H' a = some o) (h : VwR K mg η M H v d) : VwR K mg η' M' H' v d := by
  rcases h with h | ⟨a, e, h⟩
  · exact .inl (h.mono x)
  · exact .inr ⟨a, e, h.mono x fun o => he o a⟩
/-! shapes -/
theorem VwR.non (h : VwR K mg η M H v .non) : v = .non := by
  rcases h with h | ⟨a, e, h⟩
  · cases h; rfl
  · exact h.elim
theorem VwR.bl {b : Bool} (h : VwR K mg η M H v (.bl b)) : v = .bl b := by
  rcases h with h | ⟨a, e, h⟩
  · cases h; rfl
  · exact h.elim
theorem VwR.int {i : Int} (h : VwR K mg η M H v (.int i)) : v = .int i := by
  rcases h with h | ⟨a, e, h⟩
  · cases h; rfl
  · exact h.elim
theorem VwR.str {x : Str} (h : VwR K mg η M H v (.str x)) : v = .str x := by
  rcases h with h | ⟨a, e, h⟩
  · cases h; rfl
  · exact h.elim
theorem VwR.lst (hs : Same M H) {ds : List D} (h : VwR K mg η M H v (.lst ds)) : ∃ a xs, v = .ref a ∧ H a = some (.lst xs) ∧ RepL K mg η M xs ds := by
  rcases h with h | ⟨a, e, xs, h, r⟩
  · cases h with
    | lst h r => exact ⟨_, _, rfl, hs _ _ h, r⟩
  · exact ⟨a, xs, e, h, r⟩
theorem VwR.ro (hs : Same M H) {ds : List D} (h : VwR K mg η M H v (.ro ds)) : ∃ a xs, v = .ref a ∧ SqL K H a xs ∧ RepL K mg η M xs ds := by
  rcases h with h | ⟨a, e, h⟩
  · cases h with
    | ro h r => exact ⟨_, _, rfl, hs.seq h, r⟩
  · exact h.elim
theorem VwR.rtup {ds : List D} (h : VwR K mg η M H v (.tup ds)) : Rep K mg η M v (.tup ds) := by
  rcases h with h | ⟨a, e, h⟩
  · exact h
  · exact h.elim
theorem VwR.tup (hs : Same M H) {ds : List D} (h : VwR K mg η M H v (.tup ds)) : ∃ a xs, v = .ref a ∧ H a = some (.tup xs) ∧ RepL K mg η M xs ds := by
  rcases h with h | ⟨a, e, h⟩
  · cases h with
    | tup h r => exact ⟨_, _, rfl, hs _ _ h, r⟩
  · exact h.elim
theorem VwR.dct (hs : Same M H) {ds : List (Key × D)} (h : VwR K mg η M H v (.dct ds)) : ∃ a kvs, v = .ref a ∧ H a = some (.dK kvs) ∧ kvs.map (·.1) = ds.map (·.1) ∧ RepL K mg η M (kvs.map (·.2)) (ds.map (·.2)) := by
  rcases h with h | ⟨a, e, xs, h, k, r⟩
  · cases h with
    | dct h k r => exact ⟨_, _, rfl, hs _ _ h, k, r⟩
  · exact ⟨a, xs, e, h, k, r⟩
theorem VwR.dcT (hs : Same M H) {ds : List (List Key × D)} (h : VwR K mg η M H v (.dcT ds)) : ∃ a kvs, v = .ref a ∧ H a = some (.dT kvs) ∧ kvs.map (·.1) = ds.map (·.1) ∧ RepL K mg η M (kvs.map (·.2)) (ds.map (·.2)) := by
  rcases h with h | ⟨a, e, xs, h, k, r⟩
  · cases h with
    | dcT h k r => exact ⟨_, _, rfl, hs _ _ h, k, r⟩
  · exact ⟨a, xs, e, h, k, r⟩
theorem VwR.obj (hs : Same M H) {n : Str} {ds : List (Str × D)} (h : VwR K mg η M H v (.obj n ds)) : ∃ a C dx fs, v = .ref a ∧ mg n = some (.ref C) ∧ H a = some (.ins C dx fs) ∧ fs.map (·.1) = ds.map (·.1) ∧ RepL K mg η M (fs.map (·.2)) (ds.map (·.2)) := by
  rcases h with h | ⟨a, e, C, dx, fs, g, h, k, r⟩
  · cases h with
    | obj g h k r => exact ⟨_, _, _, _, rfl, g, hs _ _ h, k, r⟩
  · exact ⟨a, C, dx, fs, e, g, h, k, r⟩
end

/-! ### outcomes -/
abbrev Rl (α β : Type) := En → List Addr → Hp → Cf → St → Hp → α → β → Prop
def Out {α β : Type} (X : Cx) (R : Rl α β) (tw : (α → Hp → Prop) → Prop) (E : En) (η : List Addr) (M : Hp) (σ : St) : Res β → Prop
  | .stuck => True
  | .ok r c' => ∀ Q : α → Hp → Prop, (∀ v η' M' H', SR X.K X.mg E η' M' c' σ H' → Ext η M η' M' → R E η' M' c' σ H' v r → Q v H') → tw Q
  | .err x c' => ∀ (W : WX) (Q : α → Hp → Prop), Takes X W → (∀ cls d η' M' H', SR X.K X.mg E η' M' c' σ H' → Ext η M η' M' → XR X.K X.mg η' M' cls d x → W cls d σ H') → tw Q
section
variable {α β γ δ : Type} {X : Cx} {R : Rl α β} {R' : Rl γ δ} {E : En} {η : List Addr} {M : Hp} {σ : St}
theorem Out.imp {tw : (α → Hp → Prop) → Prop} {tw' : (γ → Hp → Prop) → Prop} {R' : Rl γ β} {m : Res β} (h : Out X R tw E η M σ m) (g : α → γ) (imp : ∀ Q, tw (fun x H => Q (g x) H) → tw' Q)
    (hr : ∀ η' M' c' H' v r, SR X.K X.mg E η' M' c' σ H' → R E η' M' c' σ H' v r → R' E η' M' c' σ H' (g v) r) : Out X R' tw' E η M σ m := by
  cases m with
  | stuck => trivial
  | ok r c => exact fun Q hq => imp Q (h _ fun v η' M' H' s x z => hq _ _ _ _ s x (hr _ _ _ _ _ _ s z))
  | err x c => exact fun W Q tk hq => imp Q (h W _ tk hq)
theorem Out.bind {tw : (α → Hp → Prop) → Prop} {tw' : (γ → Hp → Prop) → Prop} {m : Res β} {f : β → Cf → Res δ} (k : α → Hp → (γ → Hp → Prop) → Prop)
    (h : Out X R tw E η M σ m) (imp : ∀ Q, tw (fun x H1 => k x H1 Q) → tw' Q)
    (hk : ∀ r c1 v η1 M1 H1, SR X.K X.mg E η1 M1 c1 σ H1 → Ext η M η1 M1 → R E η1 M1 c1 σ H1 v r → Out X R' (k v H1) E η1 M1 σ (f r c1)) : Out X R' tw' E η M σ (m.bind f) := by
  cases m with
  | stuck => trivial
  | err x c => exact fun W Q tk hq => imp Q (h W _ tk hq)
  | ok r c =>
    show Out X R' tw' E η M σ (f r c)
    cases e : f r c with
    | stuck => trivial
    | ok r' c' =>
      refine fun Q hq => imp Q (h _ fun v η1 M1 H1 s x z => ?_)
      have o := hk r c v η1 M1 H1 s x z
      rw [e] at o
      exact o Q fun v' η' M' H' s' x' z' => hq v' η' M' H' s' (x.trans x') z'
    | err y c' =>
      refine fun W Q tk hq => imp Q (h _ fun v η1 M1 H1 s x z => ?_)
      have o := hk r c v η1 M1 H1 s x z
      rw [e] at o
      exact o W Q tk fun cls d η' M' H' s' x' z' => hq cls d η' M' H' s' (x.trans x') z'
end
abbrev Em := Cf → Res Rv
def RV (K : Fg) (mg : Mg) : Rl V Rv := fun E η M c σ H v r => RvR K mg E η M c σ H v r
def RB : Rl Bool Bool := fun _ _ _ _ _ _ b b' => b = b'
/-- an expression runs as m -/
structure Ex (X : Cx) (e : Expr) (m : Em) : Prop where
  run : ∀ E η M c σ H, SR X.K X.mg E η M c σ H → Out X (RV X.K X.mg) (We X e σ H) E η M σ (m c)
instance {X : Cx} {e : Expr} {m : Em} : CoeFun (Ex X e m) (fun _ => ∀ E η M c σ H, SR X.K X.mg E η M c σ H → Out X (RV X.K X.mg) (We X e σ H) E η M σ (m c)) := ⟨Ex.run⟩
/-- a test -/
structure Tx (X : Cx) (e : Expr) (m : Cf → Res Bool) : Prop where
  run : ∀ E η M c σ H, SR X.K X.mg E η M c σ H → Out X RB (Wt X e σ H) E η M σ (m c)
instance {X : Cx} {e : Expr} {m : Cf → Res Bool} : CoeFun (Tx X e m) (fun _ => ∀ E η M c σ H, SR X.K X.mg E η M c σ H → Out X RB (Wt X e σ H) E η M σ (m c)) := ⟨Tx.run⟩
/-- settled values -/
def RVs (K : Fg) (mg : Mg) : Rl (List V) (List Rv) := fun E η M c σ H vs rs => (∀ r ∈ rs, Settled r) ∧ Paired (fun v r => RvR K mg E η M c σ H v r) vs rs
structure Ax (X : Cx) (es : List Expr) (m : Cf → Res (List Rv)) : Prop where
  run : ∀ E η M c σ H, SR X.K X.mg E η M c σ H → Out X (RVs X.K X.mg) (Wa X es σ H) E η M σ (m c)
instance {X : Cx} {es : List Expr} {m : Cf → Res (List Rv)} : CoeFun (Ax X es m) (fun _ => ∀ E η M c σ H, SR X.K X.mg E η M c σ H → Out X (RVs X.K X.mg) (Wa X es σ H) E η M σ (m c)) := ⟨Ax.run⟩

def Res.st (r : Res Rv) : Res Rv := r.bind fun a c => .ok (settle a) c
section
variable {X : Cx} {e a b : Expr} {es : List Expr} {m ma mb : Em} {pos : Pos} {E : En} {η : List Addr} {M H : Hp} {c : Cf} {σ : St}
/-- an operand that stays -/
def RVst (K : Fg) (mg : Mg) : Rl V Rv := fun E η M c σ H v r => Settled r ∧ RvR K mg E η M c σ H v r
theorem out_st {tw : VK → Prop} {m : Res Rv} (h : Out X (RV X.K X.mg) tw E η M σ m) : Out X (RVst X.K X.mg) tw E η M σ m.st := by
  cases m with
  | stuck => trivial
  | err x c => exact h
  | ok r c =>
    refine fun Q hq => h Q fun v η1 M1 H1 s x z => ?_
    obtain ⟨M2, s2, x2, z2⟩ := settle_ok s z
    exact hq v η1 M2 H1 s2 (x.trans x2) ⟨settled_settle r, z2⟩
theorem out_ok {α β : Type} {R : Rl α β} {tw : (α → Hp → Prop) → Prop} {r : β} {v : α} (s : SR X.K X.mg E η M c σ H) (imp : ∀ Q : α → Hp → Prop, Q v H → tw Q) (z : R E η M c σ H v r) : Out X R tw E η M σ (.ok r c) :=
  fun Q hq => imp Q (hq v η M H s .refl z)

/-! ### names, constants -/
def mVar (i : Nat) : Em := fun c => match c.ρ[i]? with
  | some (.fz d) => .ok (.fz d) c
  | some (.ow _) => .ok (.loc i) c
  | _ => .stuck
theorem ex_var (i : Nat) {x : Str} (hN : X.N[i]? = some x := by rfl) (hv : Vis X.env.scope x := by first | exact Or.inl rfl | exact Or.inr (Or.inl rfl) | exact Or.inr (Or.inr rfl)) (hd : (x == ("__debug__" : Str)) = false := by decide)
    (hcd : (x == ("__classdict__" : Str)) = false := by decide) : Ex X (.Name x pos) (mVar i) := by
  refine ⟨fun E η M c σ H s => ?_⟩
  unfold mVar
  cases q : c.ρ[i]? with
  | none => trivial
  | some sl =>
    cases sl with
    | un => trivial
    | fz d =>
      obtain ⟨v, e1, r⟩ := s.slot i _ q
      exact out_ok s (fun Q hq => pe_we (pe_var hN hv hd hcd) ⟨v, e1, hq⟩) r
    | ow d =>
      obtain ⟨a, e1, _⟩ := s.slot i _ q
      exact out_ok s (fun Q hq => pe_we (pe_var hN hv hd hcd) ⟨_, e1, hq⟩) e1
def mC (d : D) : Em := fun c => .ok (.fz d) c
theorem ex_int {i : Int} {j : Nat} : Ex X (.Constant (.int i) j pos) (mC (.int i)) := ⟨fun E η M c σ H s => out_ok s (fun Q hq => pe_we pe_int hq) (Rep.int i)⟩
theorem ex_bl {i : Bool} {j : Nat} : Ex X (.Constant (.bool i) j pos) (mC (.bl i)) := ⟨fun E η M c σ H s => out_ok s (fun Q hq => pe_we pe_bl hq) (Rep.bl i)⟩
theorem ex_non {j : Nat} : Ex X (.Constant .none j pos) (mC .non) := ⟨fun E η M c σ H s => out_ok s (fun Q hq => pe_we pe_non hq) Rep.non⟩
theorem ex_str {x : Str} {j : Nat} : Ex X (.Constant (.str x) j pos) (mC (.str x)) := ⟨fun E η M c σ H s => out_ok s (fun Q hq => pe_we pe_str hq) (Rep.str x)⟩
/-- a module's constant: an int, a text -/
theorem ex_gint {x : Str} {i : Int} {t : Tok} (hg : Gl X x) (hm : X.mg x = some (.int i t)) (hd : (x == ("__debug__" : Str)) = false := by decide) : Ex X (.Name x pos) (mC (.int i)) :=
  ⟨fun E η M c σ H s => out_ok s (fun Q hq => pe_we (pe_glob (v := .int i) hg hm ⟨t, rfl⟩ hd) hq) (Rep.int i)⟩
theorem ex_gstr {x y : Str} {t : Tok} (hg : Gl X x) (hm : X.mg x = some (.str y t)) (hd : (x == ("__debug__" : Str)) = false := by decide) : Ex X (.Name x pos) (mC (.str y)) :=
  ⟨fun E η M c σ H s => out_ok s (fun Q hq => pe_we (pe_glob (v := .str y) hg hm ⟨t, rfl⟩ hd) hq) (Rep.str y)⟩

/-! ### two operands -/
/-- an operation on values as it is on trees -/
def Op2 (X : Cx) (w : V → V → Hp → VK → Prop) (g : D → D → Option Rv) : Prop :=
  ∀ E η M c σ H x y dx dy r, SR X.K X.mg E η M c σ H → VwR X.K X.mg η M H x dx → VwR X.K X.mg η M H y dy → g dx dy = some r →
    ∀ Q : VK, (∀ v η' M' H', SR X.K X.mg E η' M' c σ H' → Ext η M η' M' → RvR X.K X.mg E η' M' c σ H' v r → Q v H') → w x y H Q
def m2 (g : D → D → Option Rv) (ra rb : Rv) (c : Cf) : Res Rv :=
  match view c ra, view c rb with
  | some da, some db => match g da db with
    | some r => .ok r c
    | none => .stuck
  | _, _ => .stuck
def mBin (g : D → D → Option Rv) (ma mb : Em) : Em := fun c => (ma c).st.bind fun ra c1 => (mb c1).st.bind fun rb c2 => m2 g ra rb c2
theorem out_m2 {w : V → V → Hp → VK → Prop} {g : D → D → Option Rv} (hg : Op2 X w g) {x y : V} {ra rb : Rv} (s : SR X.K X.mg E η M c σ H) (h1 : RvR X.K X.mg E η M c σ H x ra) (h2 : RvR X.K X.mg E η M c σ H y rb) :
    Out X (RV X.K X.mg) (w x y H) E η M σ (m2 g ra rb c) := by
  unfold m2
  cases e1 : view c ra with
  | none => trivial
  | some da =>
    cases e2 : view c rb with
    | none => trivial
    | some db =>
      dsimp only
      cases e3 : g da db with
      | none => trivial
      | some r => exact fun Q hq => hg E η M c σ H x y da db r s (view_ok s h1 e1) (view_ok s h2 e2) e3 Q hq
theorem ex_two {w : V → V → Hp → VK → Prop} {g : D → D → Option Rv} (hg : Op2 X w g) {t : TE} (p : PE X e t) (ht : ∀ σ H Q, We X a σ H (fun x H1 => We X b σ H1 fun y H2 => w x y H2 Q) → t σ H Q) (ha : Ex X a ma) (hb : Ex X b mb) : Ex X e (mBin g ma mb) := by
  refine ⟨fun E η M c σ H s => ?_⟩
  refine Out.bind (R := RVst X.K X.mg) (fun x H1 Q => We X b σ H1 fun y H2 => w x y H2 Q) (out_st (ha E η M c σ H s)) (fun Q hq => pe_we p (ht _ _ _ hq)) fun ra c1 x η1 M1 H1 s1 x1 z1 => ?_
  refine Out.bind (R := RVst X.K X.mg) (fun y H2 Q => w x y H2 Q) (out_st (hb E η1 M1 c1 σ H1 s1)) (fun Q hq => hq) fun rb c2 y η2 M2 H2 s2 x2 z2 => ?_
  exact out_m2 hg s2 (z1.2.keep x2 z1.1) z2.2
theorem ex_bin {op : Operator} {g : D → D → Option Rv} (hg : Op2 X (Wo X (binaryOp op)) g) (ha : Ex X a ma) (hb : Ex X b mb) : Ex X (.BinOp a op b pos) (mBin g ma mb) :=
  ex_two hg (pe_op wo_op we_pe we_pe) (fun _ _ _ h => h) ha hb
theorem ex_cmp {op : CmpOp} {g : D → D → Option Rv} (hg : Op2 X (Wo X (compareOp op)) g) (ha : Ex X a ma) (hb : Ex X b mb) (hm : behindInMarks op b = false := by first | exact nomark _ (by decide) (by decide) | rfl) : Ex X (.Compare a [op] [b] pos) (mBin g ma mb) :=
  ex_two hg (pe_cmpR wo_op we_pe we_pe hm) (fun _ _ _ h => h) ha hb
theorem ex_ix {g : D → D → Option Rv} (hg : Op2 X (Wi2 X) g) (ha : Ex X a ma) (hb : Ex X b mb) (hs : PlainIx b := by intro _ _; rfl) : Ex X (.Subscript a b pos) (mBin g ma mb) :=
  ex_two hg (pe_ix wi_ix we_pe we_pe hs) (fun _ _ _ h => h) ha hb

/-! ### one operand -/
def Op1 (X : Cx) (w : V → Hp → VK → Prop) (g : D → Option Rv) : Prop :=
  ∀ E η M c σ H x dx r, SR X.K X.mg E η M c σ H → VwR X.K X.mg η M H x dx → g dx = some r →
    ∀ Q : VK, (∀ v η' M' H', SR X.K X.mg E η' M' c σ H' → Ext η M η' M' → RvR X.K X.mg E η' M' c σ H' v r → Q v H') → w x H Q
def m1 (g : D → Option Rv) (ra : Rv) (c : Cf) : Res Rv :=
  match view c ra with
  | some da => match g da with
    | some r => .ok r c
    | none => .stuck
  | _ => .stuck
def mUn (g : D → Option Rv) (ma : Em) : Em := fun c => (ma c).bind fun ra c1 => m1 g ra c1
theorem out_m1 {w : V → Hp → VK → Prop} {g : D → Option Rv} (hg : Op1 X w g) {x : V} {ra : Rv} (s : SR X.K X.mg E η M c σ H) (h1 : RvR X.K X.mg E η M c σ H x ra) :
    Out X (RV X.K X.mg) (w x H) E η M σ (m1 g ra c) := by
  unfold m1
  cases e1 : view c ra with
  | none => trivial
  | some da =>
    dsimp only
    cases e3 : g da with
    | none => trivial
    | some r => exact fun Q hq => hg E η M c σ H x da r s (view_ok s h1 e1) e3 Q hq
theorem ex_un {op : UnaryOp} {g : D → Option Rv} (hg : Op1 X (Wu X (unaryOp op)) g) (ha : Ex X a ma) : Ex X (.UnaryOp op a pos) (mUn g ma) := by
  refine ⟨fun E η M c σ H s => ?_⟩
  exact Out.bind (fun x H1 Q => Wu X (unaryOp op) x H1 Q) (ha E η M c σ H s) (fun Q hq => pe_we (pe_un wu_un we_pe) hq) fun ra c1 x η1 M1 H1 s1 x1 z1 => out_m1 hg s1 z1

/-! ### tests -/
def truthD : D → Option Bool
  | .non => some false
  | .bl b => some b
  | .int i => some (i != 0)
  | .str y => if y.length ≤ sizeLine then some ((y.length : Int) != 0) else none
  | .lst xs => some (!xs.isEmpty)
  | .tup xs => some (!xs.isEmpty)
  | .dct xs => some (!xs.isEmpty)
  | _ => none
def mTruth (ma : Em) : Cf → Res Bool := fun c => (ma c).bind fun ra c1 => match view c1 ra with
  | some d => match truthD d with
    | some b => .ok b c1
    | none => .stuck
  | none => .stuck
theorem isEmpty_len {α β : Type} {xs : List α} {ys : List β} (h : xs.length = ys.length) : (!xs.isEmpty) = !ys.isEmpty := by
  cases xs <;> cases ys <;> simp at h <;> rfl
theorem tru_d {K : Fg} {mg : Mg} {η : List Addr} {M H : Hp} {v : V} {d : D} {b : Bool} (hs : Same M H) (h : VwR K mg η M H v d) (e : truthD d = some b) : TruV K v H b := by
  cases d with
  | non => cases h.non; cases e; rfl
  | bl k => cases h.bl; cases e; rfl
  | int i => cases h.int; cases e; rfl
  | str y =>
    cases h.str
    unfold truthD at e
    dsimp only at e
    split at e
    · cases e; exact ⟨by assumption, rfl⟩
    · cases e
  | lst ds =>
    obtain ⟨a, xs, rfl, q, r⟩ := h.lst hs
    cases e
    exact .inl ⟨xs, .of q, isEmpty_len r.length.symm⟩
  | tup ds =>
    obtain ⟨a, xs, rfl, q, r⟩ := h.tup hs
    cases e
    exact .inr (.inl ⟨xs, .of q, isEmpty_len r.length.symm⟩)
  | dct ds =>
    obtain ⟨a, kvs, rfl, q, k, r⟩ := h.dct hs
    cases e
    exact .inr (.inr ⟨kvs, q, isEmpty_len (by have := congrArg List.length k; simpa using this.symm)⟩)
  | _ => cases e
/-- any expression as a test -/
theorem tx_any (ha : Ex X a ma) (he : ∀ whole, isTrue a X.env whole = (do let v ← whole; standAt a.pos; holding [v] (truthy v)) := by intro _; rfl) : Tx X a (mTruth ma) := by
  refine ⟨fun E η M c σ H s => ?_⟩
  refine Out.bind (fun x H1 (Q : Bool → Hp → Prop) => ∃ k, TruV X.K x H1 k ∧ Q k H1) (ha E η M c σ H s) (fun Q hq => pt_wt (pt_truth we_pe he) hq) fun ra c1 x η1 M1 H1 s1 x1 z1 => ?_
  cases e1 : view c1 ra with
  | none => trivial
  | some d =>
    dsimp only
    cases e2 : truthD d with
    | none => trivial
    | some b => exact out_ok s1 (fun Q hq => ⟨b, tru_d s1.sub (view_ok s1 z1 e1) e2, hq⟩) rfl
/-- a comparison as a test -/
def mBool (ma : Em) : Cf → Res Bool := fun c => (ma c).bind fun ra c1 => match view c1 ra with
  | some (.bl b) => .ok b c1
  | _ => .stuck
theorem out_bool {tw : VK → Prop} {tw' : (Bool → Hp → Prop) → Prop} {m : Res Rv} (h : Out X (RV X.K X.mg) tw E η M σ m) (imp : ∀ Q, tw (fun x H1 => ∃ k, x = .bl k ∧ Q k H1) → tw' Q) :
    Out X RB tw' E η M σ (m.bind fun ra c1 => match view c1 ra with | some (.bl b) => .ok b c1 | _ => .stuck) := by
  refine Out.bind (fun x H1 (Q : Bool → Hp → Prop) => ∃ k, x = .bl k ∧ Q k H1) h imp fun ra c1 x η1 M1 H1 s1 x1 z1 => ?_
  cases e1 : view c1 ra with
  | none => trivial
  | some d =>
    cases d with
    | bl b => exact out_ok s1 (fun Q hq => ⟨b, (view_ok s1 z1 e1).bl, hq⟩) rfl
    | _ => trivial
theorem tx_cmp {op : CmpOp} {g : D → D → Option Rv} (hg : Op2 X (Wo X (compareOp op)) g) (ha : Ex X a ma) (hb : Ex X b mb) (hm : behindInMarks op b = false := by first | exact nomark _ (by decide) (by decide) | rfl) : Tx X (.Compare a [op] [b] pos) (mBool (mBin g ma mb)) := by
  refine ⟨fun E η M c σ H s => ?_⟩
  have h : Out X (RV X.K X.mg) (tOp (Wo X (compareOp op)) (We X a) (We X b) σ H) E η M σ (mBin g ma mb c) := by
    refine Out.bind (R := RVst X.K X.mg) (fun x H1 Q => We X b σ H1 fun y H2 => Wo X (compareOp op) x y H2 Q) (out_st (ha E η M c σ H s)) (fun Q hq => hq) fun ra c1 x η1 M1 H1 s1 x1 z1 => ?_
    refine Out.bind (R := RVst X.K X.mg) (fun y H2 Q => Wo X (compareOp op) x y H2 Q) (out_st (hb E η1 M1 c1 σ H1 s1)) (fun Q hq => hq) fun rb c2 y η2 M2 H2 s2 x2 z2 => ?_
    exact out_m2 hg s2 (z1.2.keep x2 z1.1) z2.2
  exact out_bool h fun Q hq => pt_wt (pt_cmpR wo_op we_pe we_pe hm) hq
def tmAnd (t u : Cf → Res Bool) : Cf → Res Bool := fun c => (t c).bind fun b c1 => if b then u c1 else .ok false c1
def tmOr (t u : Cf → Res Bool) : Cf → Res Bool := fun c => (t c).bind fun b c1 => if b then .ok true c1 else u c1
def tmNot (t : Cf → Res Bool) : Cf → Res Bool := fun c => (t c).bind fun b c1 => .ok (!b) c1
/-- a chain of and, or: whatever its whole is -/
def Txw (X : Cx) (e : Expr) (m : Cf → Res Bool) : Prop := ∃ t : TT, PW X e t ∧ ∀ E η M c σ H, SR X.K X.mg E η M c σ H → Out X RB (t σ H) E η M σ (m c)
variable {t u : Cf → Res Bool} {rest : List Expr}
theorem txw_tx (h : Txw X e t) : Tx X e t := by
  obtain ⟨w, p, q⟩ := h
  refine ⟨fun E η M c σ H s => ?_⟩
  exact (q E η M c σ H s).imp (R' := RB) (fun x => x) (fun Q hq => pt_wt p.pt hq) fun _ _ _ _ _ _ _ z => z
theorem txw_and1 (h : Tx X a t) : Txw X (.BoolOp .And [a] pos) t := ⟨_, pw_and1 wt_pt, h.run⟩
theorem txw_or1 (h : Tx X a t) : Txw X (.BoolOp .Or [a] pos) t := ⟨_, pw_or1 wt_pt, h.run⟩
theorem txw_and (h : Tx X a t) (h2 : Txw X (.BoolOp .And (b :: rest) pos) u) : Txw X (.BoolOp .And (a :: b :: rest) pos) (tmAnd t u) := by
  obtain ⟨w, p, q⟩ := h2
  refine ⟨_, pw_and wt_pt p, fun E η M c σ H s => ?_⟩
  refine Out.bind (R := RB) (fun x H1 Q => if x = true then w σ H1 Q else Q false H1) (h E η M c σ H s) (fun Q hq => hq) fun r c1 x η1 M1 H1 s1 x1 z1 => ?_
  cases z1
  cases r with
  | true => exact (q E η1 M1 c1 σ H1 s1).imp (R' := RB) (fun x => x) (fun Q hq => by rw [if_pos rfl]; exact hq) fun _ _ _ _ _ _ _ z => z
  | false => exact out_ok s1 (fun Q hq => by rw [if_neg Bool.false_ne_true]; exact hq) rfl
theorem txw_or (h : Tx X a t) (h2 : Txw X (.BoolOp .Or (b :: rest) pos) u) : Txw X (.BoolOp .Or (a :: b :: rest) pos) (tmOr t u) := by
  obtain ⟨w, p, q⟩ := h2
  refine ⟨_, pw_or wt_pt p, fun E η M c σ H s => ?_⟩
  refine Out.bind (R := RB) (fun x H1 Q => if x = true then Q true H1 else w σ H1 Q) (h E η M c σ H s) (fun Q hq => hq) fun r c1 x η1 M1 H1 s1 x1 z1 => ?_
  cases z1
  cases r with
  | false => exact (q E η1 M1 c1 σ H1 s1).imp (R' := RB) (fun x => x) (fun Q hq => by rw [if_neg Bool.false_ne_true]; exact hq) fun _ _ _ _ _ _ _ z => z
  | true => exact out_ok s1 (fun Q hq => by rw [if_pos rfl]; exact hq) rfl
theorem tx_not (h : Tx X a t) : Tx X (.UnaryOp .Not a pos) (tmNot t) := by
  refine ⟨fun E η M c σ H s => ?_⟩
  exact Out.bind (R := RB) (fun x H1 Q => Q (!x) H1) (h E η M c σ H s) (fun Q hq => pt_wt (pt_not wt_pt) hq) fun r c1 x η1 M1 H1 s1 x1 z1 => by cases z1; exact out_ok s1 (fun Q hq => hq) rfl
/-! and, or, not as values of truths -/
def mAnd (ma mb : Em) : Em := fun c => (ma c).bind fun ra c1 => match view c1 ra with
  | some (.bl true) => mb c1
  | some (.bl false) => .ok (.fz (.bl false)) c1
  | _ => .stuck
def mOr (ma mb : Em) : Em := fun c => (ma c).bind fun ra c1 => match view c1 ra with
  | some (.bl false) => mb c1
  | some (.bl true) => .ok (.fz (.bl true)) c1
  | _ => .stuck
theorem ex_one {op} (h : Ex X a ma) : Ex X (.BoolOp op [a] pos) ma := ⟨fun E η M c σ H s => (h E η M c σ H s).imp (fun x => x) (fun Q hq => pe_we (pe_one we_pe) hq) fun _ _ _ _ _ _ _ z => z⟩
theorem ex_and (ha : Ex X a ma) (hb : Ex X (.BoolOp .And (b :: rest) pos) mb) : Ex X (.BoolOp .And (a :: b :: rest) pos) (mAnd ma mb) := by
  refine ⟨fun E η M c σ H s => ?_⟩
  refine Out.bind (fun (x : V) H1 (Q : VK) => ∃ k, x = V.bl k ∧ if k = true then We X (.BoolOp .And (b :: rest) pos) σ H1 Q else Q (.bl false) H1) (ha E η M c σ H s) (fun Q hq => pe_we (pe_and we_pe we_pe) hq) fun ra c1 x η1 M1 H1 s1 x1 z1 => ?_
  cases e1 : view c1 ra with
  | none => trivial
  | some d =>
    cases d with
    | bl k =>
      have ev := (view_ok s1 z1 e1).bl
      cases k with
      | true => exact (hb E η1 M1 c1 σ H1 s1).imp (fun x => x) (fun Q hq => ⟨true, ev, by rw [if_pos rfl]; exact hq⟩) fun _ _ _ _ _ _ _ z => z
      | false => exact out_ok s1 (fun Q hq => ⟨false, ev, by rw [if_neg Bool.false_ne_true]; exact hq⟩) (Rep.bl false)
    | _ => trivial
theorem ex_or (ha : Ex X a ma) (hb : Ex X (.BoolOp .Or (b :: rest) pos) mb) : Ex X (.BoolOp .Or (a :: b :: rest) pos) (mOr ma mb) := by
  refine ⟨fun E η M c σ H s => ?_⟩
  refine Out.bind (fun (x : V) H1 (Q : VK) => ∃ k, x = V.bl k ∧ if k = true then Q (.bl true) H1 else We X (.BoolOp .Or (b :: rest) pos) σ H1 Q) (ha E η M c σ H s) (fun Q hq => pe_we (pe_or we_pe we_pe) hq) fun ra c1 x η1 M1 H1 s1 x1 z1 => ?_
  cases e1 : view c1 ra with
  | none => trivial
  | some d =>
    cases d with
    | bl k =>
      have ev := (view_ok s1 z1 e1).bl
      cases k with
      | false => exact (hb E η1 M1 c1 σ H1 s1).imp (fun x => x) (fun Q hq => ⟨false, ev, by rw [if_neg Bool.false_ne_true]; exact hq⟩) fun _ _ _ _ _ _ _ z => z
      | true => exact out_ok s1 (fun Q hq => ⟨true, ev, by rw [if_pos rfl]; exact hq⟩) (Rep.bl true)
    | _ => trivial
def mNot (ma : Em) : Em := fun c => (ma c).bind fun ra c1 => match view c1 ra with
  | some (.bl b) => .ok (.fz (.bl (!b))) c1
  | _ => .stuck
theorem ex_not (ha : Ex X a ma) : Ex X (.UnaryOp .Not a pos) (mNot ma) := by
  refine ⟨fun E η M c σ H s => ?_⟩
  refine Out.bind (fun (x : V) H1 (Q : VK) => ∃ k, x = V.bl k ∧ Q (.bl (!k)) H1) (ha E η M c σ H s) (fun Q hq => pe_we (pe_not we_pe) hq) fun ra c1 x η1 M1 H1 s1 x1 z1 => ?_
  cases e1 : view c1 ra with
  | none => trivial
  | some d =>
    cases d with
    | bl k => exact out_ok s1 (fun Q hq => ⟨k, (view_ok s1 z1 e1).bl, hq⟩) (Rep.bl _)
    | _ => trivial
/-- a if t else b -/
def mIfE (t : Cf → Res Bool) (ma mb : Em) : Em := fun c => (t c).bind fun k c1 => if k then ma c1 else mb c1
theorem ex_if {cd : Expr} (ht : Tx X cd t) (ha : Ex X a ma) (hb : Ex X b mb) : Ex X (.IfExp cd a b pos) (mIfE t ma mb) := by
  refine ⟨fun E η M c σ H s => ?_⟩
  refine Out.bind (R := RB) (fun x H1 Q => if x = true then We X a σ H1 Q else We X b σ H1 Q) (ht E η M c σ H s) (fun Q hq => pe_we (pe_ifExp wt_pt we_pe we_pe) hq) fun r c1 x η1 M1 H1 s1 x1 z1 => ?_
  cases z1
  cases r with
  | true => exact (ha E η1 M1 c1 σ H1 s1).imp (fun x => x) (fun Q hq => by rw [if_pos rfl]; exact hq) fun _ _ _ _ _ _ _ z => z
  | false => exact (hb E η1 M1 c1 σ H1 s1).imp (fun x => x) (fun Q hq => by rw [if_neg Bool.false_ne_true]; exact hq) fun _ _ _ _ _ _ _ z => z

/-! ### arguments -/
def maNil : Cf → Res (List Rv) := fun c => .ok [] c
def maCons (m : Em) (ms : Cf → Res (List Rv)) : Cf → Res (List Rv) := fun c => (m c).st.bind fun r c1 => (ms c1).bind fun rs c2 => .ok (r :: rs) c2
theorem ax_nil : Ax X [] maNil := ⟨fun E η M c σ H s => out_ok s (fun Q hq => pa_wa pa_nil hq) ⟨fun r hr => by simp at hr, .nil⟩⟩
theorem ax_cons {ms : Cf → Res (List Rv)} (he : Ex X e m) (hs : Ax X es ms) (hst : starEach (e :: es) X.env = (false, eval e X.env) :: starEach es X.env := by rfl) : Ax X (e :: es) (maCons m ms) := by
  refine ⟨fun E η M c σ H s => ?_⟩
  refine Out.bind (R := RVst X.K X.mg) (fun x H1 Q => Wa X es σ H1 fun xs H2 => Q (x :: xs) H2) (out_st (he E η M c σ H s)) (fun Q hq => pa_wa (pa_cons we_pe wa_pa hst) hq) fun r c1 x η1 M1 H1 s1 x1 z1 => ?_
  refine Out.bind (R := RVs X.K X.mg) (fun xs H2 Q => Q (x :: xs) H2) (hs E η1 M1 c1 σ H1 s1) (fun Q hq => hq) fun rs c2 xs η2 M2 H2 s2 x2 z2 => ?_
  exact out_ok s2 (fun Q hq => hq) ⟨fun q hq => (List.mem_cons.mp hq).elim (fun z => z ▸ z1.1) (z2.1 q), .cons (z1.2.keep x2 z1.1) z2.2⟩
def views (c : Cf) : List Rv → Option (List D)
  | [] => some []
  | r :: rs => match view c r, views c rs with
    | some d, some ds => some (d :: ds)
    | _, _ => none
def vals : Cf → List Rv → Option (List D × Cf)
  | c, [] => some ([], c)
  | c, r :: rs => match toVal c r with
    | some (d, c1) => match vals c1 rs with
      | some (ds, c2) => some (d :: ds, c2)
      | none => none
    | none => none
theorem views_ok : ∀ {rs : List Rv} {vs : List V} {ds : List D}, SR X.K X.mg E η M c σ H → Paired (fun v r => RvR X.K X.mg E η M c σ H v r) vs rs → views c rs = some ds → Paired (fun v d => VwR X.K X.mg η M H v d) vs ds
  | [], _, _, s, .nil, e => by cases e; exact .nil
  | r :: rs, _, ds, s, .cons h hs, e => by
    unfold views at e
    cases e1 : view c r with
    | none => rw [e1] at e; cases e
    | some d =>
      cases e2 : views c rs with
      | none => rw [e1, e2] at e; cases e
      | some ds' =>
        rw [e1, e2] at e; cases e
        exact .cons (view_ok s h e1) (views_ok s hs e2)
theorem vals_ok : ∀ {rs : List Rv} {vs : List V} {ds : List D} {M : Hp} {c c' : Cf}, SR X.K X.mg E η M c σ H → (∀ r ∈ rs, Settled r) → Paired (fun v r => RvR X.K X.mg E η M c σ H v r) vs rs → vals c rs = some (ds, c') →
    ∃ M', SR X.K X.mg E η M' c' σ H ∧ Ext η M η M' ∧ RepL X.K X.mg η M' vs ds
  | [], _, _, M, c, c', s, _, .nil, e => by
    have e : some (([] : List D), c) = some (_, c') := e
    cases e
    exact ⟨M, s, .refl, .nil⟩
  | r :: rs, _, ds, M, c, c', s, hst, .cons h hs, e => by
    unfold vals at e
    cases e1 : toVal c r with
    | none => rw [e1] at e; cases e
    | some p =>
      obtain ⟨d, c1⟩ := p
      rw [e1] at e
      dsimp only at e
      cases e2 : vals c1 rs with
      | none => rw [e2] at e; cases e
      | some p2 =>
        obtain ⟨ds', c2⟩ := p2
        rw [e2] at e; cases e
        obtain ⟨M1, s1, x1, r1⟩ := toVal_ok s h e1
        have hk : ∀ {vs : List V} {rs : List Rv}, (∀ r ∈ rs, Settled r) → Paired (fun v r => RvR X.K X.mg E η M c σ H v r) vs rs → Paired (fun v r => RvR X.K X.mg E η M1 c1 σ H v r) vs rs := by
          intro vs rs hst hp
          induction hp with
          | nil => exact .nil
          | cons h hp ih => exact .cons (h.keep x1 (hst _ List.mem_cons_self)) (ih fun r hr => hst r (List.mem_cons_of_mem _ hr))
        obtain ⟨M2, s2, x2, r2⟩ := vals_ok s1 (fun r hr => hst r (List.mem_cons_of_mem _ hr)) (hk (fun r hr => hst r (List.mem_cons_of_mem _ hr)) hs) e2
        exact ⟨M2, s2, x1.trans x2, .cons (r1.mono x2) r2⟩

/-! ### calls of builtins -/
def OpN (X : Cx) (w : List V → Hp → VK → Prop) (g : List D → Option Rv) : Prop :=
  ∀ E η M c σ H xs ds r, SR X.K X.mg E η M c σ H → Paired (fun v d => VwR X.K X.mg η M H v d) xs ds → g ds = some r →
    ∀ Q : VK, (∀ v η' M' H', SR X.K X.mg E η' M' c σ H' → Ext η M η' M' → RvR X.K X.mg E η' M' c σ H' v r → Q v H') → w xs H Q
def mCB (g : List D → Option Rv) (ms : Cf → Res (List Rv)) : Em := fun c => (ms c).bind fun rs c1 => match views c1 rs with
  | some ds => match g ds with
    | some r => .ok r c1
    | none => .stuck
  | none => .stuck
theorem out_mCB {w : List V → Hp → VK → Prop} {g : List D → Option Rv} (hg : OpN X w g) {ms : Cf → Res (List Rv)} {tw : VK → Prop} (ha : Ax X es ms) (s : SR X.K X.mg E η M c σ H) (imp : ∀ Q, Wa X es σ H (fun xs H1 => w xs H1 Q) → tw Q) :
    Out X (RV X.K X.mg) tw E η M σ (mCB g ms c) := by
  refine Out.bind (R := RVs X.K X.mg) (fun xs H1 Q => w xs H1 Q) (ha E η M c σ H s) imp fun rs c1 xs η1 M1 H1 s1 x1 z1 => ?_
  cases e1 : views c1 rs with
  | none => trivial
  | some ds =>
    dsimp only
    cases e2 : g ds with
    | none => trivial
    | some r => exact fun Q hq => hg E η1 M1 c1 σ H1 xs ds r s1 (views_ok s1 z1.2 e1) e2 Q hq
variable {x : Str} {p : Pos} {id T : String} {g : List D → Option Rv} {ms : Cf → Res (List Rv)}
theorem ex_callB (hc : OpN X (Wc X (.builtin id)) g) (hg : Gl X x) (hm : X.mg x = none) (hv : bootBuiltins x = some (.builtin id)) (ha : Ax X (e :: es) ms) (hn : x ≠ "__name__" := by decide) (hdb : (x == ("__debug__" : Str)) = false := by decide)
    (he : starEach (e :: es) X.env = (false, eval e X.env) :: starEach es X.env := by rfl) (hpl : (backTo pos (starEach es X.env)).any (·.1) = false := by rfl) : Ex X (.Call (.Name x p) (e :: es) [] pos) (mCB g ms) :=
  ⟨fun E η M c σ H s => out_mCB hc ha s fun Q hq => pe_we (pe_callB wc_call hg hm hv wa_pa hn hdb he hpl) hq⟩
theorem ex_callTy (hc : OpN X (Wc X (.type T)) g) (hg : Gl X x) (hm : X.mg x = none) (hv : bootBuiltins x = some (.type T)) (ha : Ax X (e :: es) ms) (hn : x ≠ "__name__" := by decide) (hdb : (x == ("__debug__" : Str)) = false := by decide)
    (he : starEach (e :: es) X.env = (false, eval e X.env) :: starEach es X.env := by rfl) (hpl : (backTo pos (starEach es X.env)).any (·.1) = false := by rfl) : Ex X (.Call (.Name x p) (e :: es) [] pos) (mCB g ms) :=
  ⟨fun E η M c σ H s => out_mCB hc ha s fun Q hq => pe_we (pe_callTy wc_call hg hm hv wa_pa hn hdb he hpl) hq⟩

/-! ### displays -/
def mTup (ms : Cf → Res (List Rv)) : Em := fun c => (ms c).bind fun rs c1 => match vals c1 rs with
  | some (ds, c2) => if ds.length ≤ sizeLine then .ok (.fz (.tup ds)) c2 else .stuck
  | none => .stuck
def mLst (ms : Cf → Res (List Rv)) : Em := fun c => (ms c).bind fun rs c1 => match vals c1 rs with
  | some (ds, c2) => if ds.length ≤ sizeLine then .ok (.nw (.lst ds)) c2 else .stuck
  | none => .stuck
theorem out_new {d : D} {o : HO} {tw : VK → Prop} (s : SR X.K X.mg E η M c σ H) (imp : ∀ Q : VK, (∀ p, H p = none → Q (.ref p) (upd H p o)) → tw Q) (ha : ∀ p, H p = none → At X.K X.mg η M (upd H p o) p d) : Out X (RV X.K X.mg) tw E η M σ (.ok (.nw d) c) :=
  fun Q hq => imp Q fun p hp => by
    obtain ⟨f1, f2, f3, f4⟩ := s.free hp
    exact hq _ η M _ (s.alloc hp) .refl ⟨p, rfl, f1, f2, f3, f4, ha p hp⟩
theorem out_ext {α β : Type} {R : Rl α β} {tw : (α → Hp → Prop) → Prop} {M' : Hp} {m : Res β} (x : Ext η M η M') (h : Out X R tw E η M' σ m) : Out X R tw E η M σ m := by
  cases m with
  | stuck => trivial
  | ok r c => exact fun Q hq => h Q fun v η1 M1 H1 s1 x1 z => hq v η1 M1 H1 s1 (x.trans x1) z
  | err y c => exact fun W Q tk hq => h W Q tk fun cls d η1 M1 H1 s1 x1 z => hq cls d η1 M1 H1 s1 (x.trans x1) z
/-- a new tuple freezes at once -/
theorem out_newT {xs : List V} {ds : List D} {tw : VK → Prop} (s : SR X.K X.mg E η M c σ H) (imp : ∀ Q : VK, (∀ p, H p = none → Q (.ref p) (upd H p (.tup xs))) → tw Q) (r : RepL X.K X.mg η M xs ds) : Out X (RV X.K X.mg) tw E η M σ (.ok (.fz (.tup ds)) c) :=
  fun Q hq => imp Q fun p hp => by
    obtain ⟨f1, f2, f3, f4⟩ := s.free hp
    obtain ⟨s3, x3⟩ := (s.alloc (o := .tup xs) hp).freeze f1 f2 f3 f4 upd_same
    exact hq _ η _ _ s3 x3 (.tup upd_same (r.mono x3))
theorem ex_tup {k : Nat} (h : Ax X es ms) : Ex X (.Tuple es k pos) (mTup ms) := by
  refine ⟨fun E η M c σ H s => ?_⟩
  refine Out.bind (R := RVs X.K X.mg) (fun xs H1 (Q : VK) => xs.length ≤ sizeLine ∧ ∀ p, H1 p = none → Q (.ref p) (upd H1 p (.tup xs))) (h E η M c σ H s) (fun Q hq => pe_we (pe_tup wa_pa) hq) fun rs c1 xs η1 M1 H1 s1 x1 z1 => ?_
  cases e1 : vals c1 rs with
  | none => trivial
  | some q =>
    obtain ⟨ds, c2⟩ := q
    dsimp only
    by_cases hl : ds.length ≤ sizeLine
    · rw [if_pos hl]
      obtain ⟨M2, s2, x2, r2⟩ := vals_ok s1 z1.1 z1.2 e1
      exact out_ext x2 (out_newT s2 (fun Q hq => ⟨by rw [r2.length]; exact hl, hq⟩) r2)
    · rw [if_neg hl]; trivial
theorem ex_lst (h : Ax X es ms) : Ex X (.List es pos) (mLst ms) := by
  refine ⟨fun E η M c σ H s => ?_⟩
  refine Out.bind (R := RVs X.K X.mg) (fun xs H1 (Q : VK) => xs.length ≤ sizeLine ∧ ∀ p, H1 p = none → Q (.ref p) (upd H1 p (.lst xs))) (h E η M c σ H s) (fun Q hq => pe_we (pe_lst wa_pa) hq) fun rs c1 xs η1 M1 H1 s1 x1 z1 => ?_
  cases e1 : vals c1 rs with
  | none => trivial
  | some q =>
    obtain ⟨ds, c2⟩ := q
    dsimp only
    by_cases hl : ds.length ≤ sizeLine
    · rw [if_pos hl]
      obtain ⟨M2, s2, x2, r2⟩ := vals_ok s1 z1.1 z1.2 e1
      exact out_ext x2 (out_new s2 (fun Q hq => ⟨by rw [r2.length]; exact hl, hq⟩) fun q hq => ⟨xs, upd_same, r2⟩)
    · rw [if_neg hl]; trivial
/-- {} -/
def mDct : Em := fun c => .ok (.nw (.dct [])) c
def mDcT : Em := fun c => .ok (.nw (.dcT [])) c
theorem ex_dct : Ex X (.Dict [] [] pos) mDct := ⟨fun E η M c σ H s => out_new s (fun Q hq => pe_we pe_dnewK hq) fun q hq => ⟨[], upd_same, rfl, .nil⟩⟩
theorem ex_dcT : Ex X (.Dict [] [] pos) mDcT := ⟨fun E η M c σ H s => out_new s (fun Q hq => pe_we pe_dnewT hq) fun q hq => ⟨[], upd_same, rfl, .nil⟩⟩
end
end LH
/-! LHStmt: statements, loops, comprehensions, calls of defs, run as trees. -/
namespace LH
open PySem PySem.Spec PyProof.Rows L2

inductive Fl where
  | nx | rt (r : Rv) | bk | ct
/-- what is wanted behind a statement that runs to fl -/
def EndR (X : Cx) (E : En) (η : List Addr) (M : Hp) (c' : Cf) (fl : Fl) (Z : Ends) : Prop :=
  match fl with
  | .nx => ∀ σ' η' M' H', SR X.K X.mg E η' M' c' σ' H' → Ext η M η' M' → Z.nx σ' H'
  | .bk => ∀ σ' η' M' H', SR X.K X.mg E η' M' c' σ' H' → Ext η M η' M' → Z.bk σ' H'
  | .ct => ∀ σ' η' M' H', SR X.K X.mg E η' M' c' σ' H' → Ext η M η' M' → Z.ct σ' H'
  | .rt r => ∀ v σ' η' M' H', SR X.K X.mg E η' M' c' σ' H' → Ext η M η' M' → RvR X.K X.mg E η' M' c' σ' H' v r → Z.rt v H'
def Good (X : Cx) (E : En) (η : List Addr) (M : Hp) (F : Res Fl) (Z : Ends) : Prop :=
  match F with
  | .stuck => False
  | .ok fl c' => EndR X E η M c' fl Z
  | .err x c' => ∃ W : WX, Takes X W ∧ ∀ cls d σ' η' M' H', SR X.K X.mg E η' M' c' σ' H' → Ext η M η' M' → XR X.K X.mg η' M' cls d x → W cls d σ' H'
def OutS (X : Cx) (tw : Ends → Prop) (E : En) (η : List Addr) (M : Hp) (F : Res Fl) : Prop := ∀ Z, Good X E η M F Z → tw Z
abbrev Sm := Cf → Res Fl
structure Sx (X : Cx) (st : Stmt) (m : Sm) : Prop where
  run : ∀ E η M c σ H, SR X.K X.mg E η M c σ H → OutS X (fun Z => Ws X st Z σ H) E η M (m c)
instance {X : Cx} {st : Stmt} {m : Sm} : CoeFun (Sx X st m) (fun _ => ∀ E η M c σ H, SR X.K X.mg E η M c σ H → OutS X (fun Z => Ws X st Z σ H) E η M (m c)) := ⟨Sx.run⟩
structure Bx (X : Cx) (st : List Stmt) (m : Sm) : Prop where
  run : ∀ E η M c σ H, SR X.K X.mg E η M c σ H → OutS X (fun Z => Wss X st Z σ H) E η M (m c)
instance {X : Cx} {st : List Stmt} {m : Sm} : CoeFun (Bx X st m) (fun _ => ∀ E η M c σ H, SR X.K X.mg E η M c σ H → OutS X (fun Z => Wss X st Z σ H) E η M (m c)) := ⟨Bx.run⟩

section
variable {X : Cx} {E : En} {η η' : List Addr} {M M' H H' : Hp} {c c' : Cf} {σ σ' : St} {Z Z' : Ends} {F : Res Fl}
theorem Good.ext (x : Ext η M η' M') (h : Good X E η M F Z) : Good X E η' M' F Z := by
  cases F with
  | stuck => exact h
  | err y c => obtain ⟨W, tk, h⟩ := h; exact ⟨W, tk, fun cls d σ1 η1 M1 H1 s x1 z => h cls d σ1 η1 M1 H1 s (x.trans x1) z⟩
  | ok fl c =>
    cases fl with
    | nx => exact fun σ1 η1 M1 H1 s x1 => h σ1 η1 M1 H1 s (x.trans x1)
    | bk => exact fun σ1 η1 M1 H1 s x1 => h σ1 η1 M1 H1 s (x.trans x1)
    | ct => exact fun σ1 η1 M1 H1 s x1 => h σ1 η1 M1 H1 s (x.trans x1)
    | rt r => exact fun v σ1 η1 M1 H1 s x1 z => h v σ1 η1 M1 H1 s (x.trans x1) z
/-- from an expression to a statement -/
theorem OutS.bind {α β : Type} {R : Rl α β} {tw : (α → Hp → Prop) → Prop} {tw' : Ends → Prop} {m : Res β} {f : β → Cf → Res Fl} (k : α → Hp → Ends → Prop)
    (h : Out X R tw E η M σ m) (imp : ∀ Z, tw (fun x H1 => k x H1 Z) → tw' Z)
    (hk : ∀ r c1 v η1 M1 H1, SR X.K X.mg E η1 M1 c1 σ H1 → Ext η M η1 M1 → R E η1 M1 c1 σ H1 v r → OutS X (k v H1) E η1 M1 (f r c1)) : OutS X tw' E η M (m.bind f) := by
  cases m with
  | stuck => exact fun Z g => g.elim
  | err x c => exact fun Z ⟨W, tk, g⟩ => imp Z (h W _ tk fun cls d η' M' H' s x z => g cls d σ η' M' H' s x z)
  | ok r c => exact fun Z g => imp Z (h _ fun v η1 M1 H1 s x z => hk r c v η1 M1 H1 s x z Z (g.ext x))
variable {st : Stmt} {rest : List Stmt} {m m2 : Sm} {e : Expr} {me : Em} {pos : Pos}
def bNil : Sm := fun c => .ok .nx c
def bCons (m m2 : Sm) : Sm := fun c => match m c with
  | .ok .nx c' => m2 c'
  | r => r
theorem bx_nil : Bx X [] bNil := ⟨fun E η M c σ H s Z g => pss_wss pss_nil (g σ η M H s .refl)⟩
theorem bx_cons (h1 : Sx X st m) (h2 : Bx X rest m2) : Bx X (st :: rest) (bCons m m2) := by
  refine ⟨fun E η M c σ H s Z g => ?_⟩
  unfold bCons at g
  refine pss_wss (pss_cons ws_ps wss_pss) (h1 E η M c σ H s _ ?_)
  cases e1 : m c with
  | stuck => rw [e1] at g; exact g.elim
  | err x c1 => rw [e1] at g; exact g
  | ok fl c1 =>
    rw [e1] at g
    cases fl with
    | nx => exact fun σ1 η1 M1 H1 s1 x1 => h2 E η1 M1 c1 σ1 H1 s1 Z (Good.ext x1 g)
    | bk => exact g
    | ct => exact g
    | rt r => exact g
theorem bx_one (h1 : Sx X st m) : Bx X [st] m := by
  refine ⟨fun E η M c σ H s Z g => ?_⟩
  exact pss_wss (pss_one ws_ps) (h1 E η M c σ H s Z g)
theorem sx_pass : Sx X (.Pass pos) bNil := ⟨fun E η M c σ H s Z g => ps_ws ps_pass (g σ η M H s .refl)⟩
theorem sx_break : Sx X (.Break pos) (fun c => .ok .bk c) := ⟨fun E η M c σ H s Z g => ps_ws ps_break (g σ η M H s .refl)⟩
theorem sx_continue : Sx X (.Continue pos) (fun c => .ok .ct c) := ⟨fun E η M c σ H s Z g => ps_ws ps_continue (g σ η M H s .refl)⟩
def sDrop (me : Em) : Sm := fun c => (me c).bind fun _ c1 => .ok .nx c1
theorem sx_expr (he : Ex X e me) (hs : swapsWith e none pos.line X.env = pure false := by rfl) : Sx X (.Expr e pos) (sDrop me) := by
  refine ⟨fun E η M c σ H s => ?_⟩
  refine OutS.bind (fun _ H1 Z => Z.nx σ H1) (he E η M c σ H s) (fun Z hq => ps_ws (ps_expr we_pe hs) hq) fun r c1 v η1 M1 H1 s1 x1 z1 Z g => g σ η1 M1 H1 s1 .refl
def sRet (me : Em) : Sm := fun c => (me c).bind fun r c1 => .ok (.rt r) c1
theorem sx_ret (he : Ex X e me) : Sx X (.Return (some e) pos) (sRet me) := by
  refine ⟨fun E η M c σ H s => ?_⟩
  refine OutS.bind (fun v H1 Z => Z.rt v H1) (he E η M c σ H s) (fun Z hq => ps_ws (ps_ret we_pe) hq) fun r c1 v η1 M1 H1 s1 x1 z1 Z g => g v σ η1 M1 H1 s1 .refl z1
def sRetN : Sm := fun c => .ok (.rt (.fz .non)) c
theorem sx_retN : Sx X (.Return none pos) sRetN := ⟨fun E η M c σ H s Z g => ps_ws ps_retN (g .non σ η M H s .refl Rep.non)⟩
def sIf (t : Cf → Res Bool) (m m2 : Sm) : Sm := fun c => (t c).bind fun b c1 => if b then m c1 else m2 c1
theorem sx_if {cd : Expr} {a b : List Stmt} {t : Cf → Res Bool} (ht : Tx X cd t) (ha : Bx X a m) (hb : Bx X b m2) : Sx X (.If cd a b pos) (sIf t m m2) := by
  refine ⟨fun E η M c σ H s => ?_⟩
  refine OutS.bind (R := RB) (fun k H1 Z => if k = true then Wss X a Z σ H1 else Wss X b Z σ H1) (ht E η M c σ H s) (fun Z hq => ps_ws (ps_if wt_pt wss_pss wss_pss) hq) fun r c1 v η1 M1 H1 s1 x1 z1 Z g => ?_
  cases z1
  cases r with
  | true => exact (show (if true = true then _ else _) from by rw [if_pos rfl]; exact ha E η1 M1 c1 σ H1 s1 Z g)
  | false => exact (show (if false = true then _ else _) from by rw [if_neg Bool.false_ne_true]; exact hb E η1 M1 c1 σ H1 s1 Z g)

/-! ### stores -/
def putR (i : Nat) (r : Rv) (c : Cf) : Option Cf :=
  if i < c.ρ.length then
    match r with
    | .fz d => some { c with ρ := c.ρ.set i (.fz d) }
    | .nw (.tup ds) => some { c with ρ := c.ρ.set i (.fz (.tup ds)) }
    | .nw d => some { c with ρ := c.ρ.set i (.ow d) }
    | .loc j => match c.ρ[j]? with
      | some (.ow d) => some { c with ρ := (c.ρ.set j (.fz d)).set i (.fz d) }
      | some (.fz d) => some { c with ρ := c.ρ.set i (.fz d) }
      | _ => none
  else none
theorem SR.setFz {K : Fg} {mg : Mg} {d : D} {v : V} {i : Nat} (s : SR K mg E η M c σ H) (hi : i < c.ρ.length) (r : Rep K mg η M v d) : SR K mg E η M { c with ρ := c.ρ.set i (.fz d) } (σ.set i (some v)) H :=
  s.setSlot hi ⟨v, rfl, r⟩ fun _ _ z => nomatch z
theorem putR_ok {K : Fg} {mg : Mg} {v : V} {i : Nat} {r : Rv} (s : SR K mg E η M c σ H) (h : RvR K mg E η M c σ H v r) (e : putR i r c = some c') :
    ∃ M', SR K mg E η M' c' (σ.set i (some v)) H ∧ Ext η M η M' := by
  unfold putR at e
  by_cases hi : i < c.ρ.length
  · rw [if_pos hi] at e
    have own : ∀ {d : D}, RvR K mg E η M c σ H v (.nw d) → SR K mg E η M { c with ρ := c.ρ.set i (.ow d) } (σ.set i (some v)) H := by
      rintro d ⟨a, rfl, h1, h2, h3, h4, h5⟩
      exact s.setSlot hi ⟨a, rfl, h1, h2, h3, h5⟩ fun t b _ hb j d' hj z q => by
        cases hb
        exact h4 ⟨j, d', z, q⟩
    cases r with
    | fz d => cases e; exact ⟨M, s.setFz hi h, .refl⟩
    | nw d =>
      cases d with
      | tup ds =>
        cases e
        obtain ⟨M', s', x, z⟩ := settle_ok s h
        exact ⟨M', s'.setFz hi z, x⟩
      | _ => cases e; exact ⟨M, own h, .refl⟩
    | loc j =>
      dsimp only at e
      have h : σ[j]? = some (some v) := h
      cases q : c.ρ[j]? with
      | none => rw [q] at e; cases e
      | some sl =>
        rw [q] at e
        cases sl with
        | un => cases e
        | fz d =>
          cases e
          obtain ⟨w, e1, r1⟩ := s.slot j _ q
          rw [h] at e1; cases e1
          exact ⟨M, s.setFz hi r1, .refl⟩
        | ow d =>
          cases e
          obtain ⟨a, M', e1, x, s', r1⟩ := s.freezeSlot q
          rw [h] at e1; cases e1
          exact ⟨M', s'.setFz (by simpa using hi) r1, x⟩
  · rw [if_neg hi] at e; cases e
def sSet (i : Nat) (me : Em) : Sm := fun c => (me c).bind fun r c1 => match putR i r c1 with
  | some c2 => .ok .nx c2
  | none => .stuck
variable {i : Nat} {x : Str} {pos' : Pos}
theorem out_put {m : Res Rv} {tw : VK → Prop} {tw' : Ends → Prop} (h : Out X (RV X.K X.mg) tw E η M σ m) (imp : ∀ Z : Ends, tw (fun v H1 => Z.nx (σ.set i (some v)) H1) → tw' Z) :
    OutS X tw' E η M (m.bind fun r c1 => match putR i r c1 with | some c2 => .ok .nx c2 | none => .stuck) := by
  refine OutS.bind (fun v H1 Z => Z.nx (σ.set i (some v)) H1) h imp fun r c1 v η1 M1 H1 s1 x1 z1 Z g => ?_
  cases e1 : putR i r c1 with
  | none => rw [e1] at g; exact g.elim
  | some c2 =>
    rw [e1] at g
    obtain ⟨M2, s2, x2⟩ := putR_ok s1 z1 e1
    exact g _ η1 M2 H1 s2 x2
theorem sx_set (i : Nat) (hN : X.N.Nodup) (he : Ex X e me) (hi : X.N[i]? = some x := by rfl) (hx : Loc X.env.scope x := by first | exact Or.inl rfl | exact Or.inr rfl) (hs : swapsWith e (some (.Name x pos')) pos.line X.env = pure false := by rfl) (hf : X.fn x = true ∨ X.env.scope.names.lookup x = some .local := by first | exact .inl rfl | exact .inr rfl | assumption) :
    Sx X (.Assign [.Name x pos'] e pos) (sSet i me) := ⟨fun E η M c σ H s => out_put (he E η M c σ H s) fun Z hq => ps_ws (ps_set hN hi hx we_pe hs hf) hq⟩
/-- a name holds a new shared object -/
def putH (i : Nat) (r : Rv) (c : Cf) : Option Cf :=
  match r with
  | .nw d => if i < c.ρ.length then some ⟨c.ρ.set i (.fz (.hdl c.S.length)), c.S ++ [d]⟩ else none
  | _ => none
def sSetH (i : Nat) (me : Em) : Sm := fun c => (me c).bind fun r c1 => match putH i r c1 with
  | some c2 => .ok .nx c2
  | none => .stuck
theorem sx_setH (i : Nat) (hN : X.N.Nodup) (he : Ex X e me) (hi : X.N[i]? = some x := by rfl) (hx : Loc X.env.scope x := by first | exact Or.inl rfl | exact Or.inr rfl) (hs : swapsWith e (some (.Name x pos')) pos.line X.env = pure false := by rfl) (hf : X.fn x = true ∨ X.env.scope.names.lookup x = some .local := by first | exact .inl rfl | exact .inr rfl | assumption) :
    Sx X (.Assign [.Name x pos'] e pos) (sSetH i me) := by
  refine ⟨fun E η M c σ H s => ?_⟩
  refine OutS.bind (fun v H1 Z => Z.nx (σ.set i (some v)) H1) (he E η M c σ H s) (fun Z hq => ps_ws (ps_set hN hi hx we_pe hs hf) hq) fun r c1 v η1 M1 H1 s1 x1 z1 Z g => ?_
  cases r with
  | nw d =>
    unfold putH at g
    dsimp only at g
    by_cases hi : i < c1.ρ.length
    · rw [if_pos hi] at g
      obtain ⟨a, rfl, h1, h2, h3, h4, h5⟩ := z1
      obtain ⟨s2, x2⟩ := s1.newHdl h1 h2 h3 h4 h5
      refine g _ (η1 ++ [a]) M1 H1 (s2.setFz (d := .hdl c1.S.length) hi (.hdl ?_)) x2
      rw [← s1.hlen, List.getElem?_append_right (Nat.le_refl _)]
      simp
    · rw [if_neg hi] at g; exact g.elim
  | _ => exact g.elim

/-! ### temporaries -/
structure Tmp (K : Fg) (mg : Mg) (E : En) (η : List Addr) (M : Hp) (c : Cf) (σ : St) (H : Hp) (T : List (Addr × D)) : Prop where
  ok : ∀ p ∈ T, M p.1 = none ∧ E.H p.1 = none ∧ p.1 ∉ η ∧ ¬ Own c σ p.1 ∧ At K mg η M H p.1 p.2
  nd : (T.map (·.1)).Nodup
theorem SR.leave_none {K : Fg} {mg : Mg} (s : SR K mg E η M c σ H) (t : SR K mg ⟨mask c σ H, η, M⟩ η' M' c' σ' H') {a : Addr} (h : mask c σ H a = none) (hn : a ∉ η') : E.H a = none := by
  cases q : E.H a with
  | none => rfl
  | some o =>
    have n1 : a ∉ E.η := fun z => hn (t.ext.mem (s.ext.mem z))
    have n2 : ¬ Own c σ a := fun z => by
      obtain ⟨_, q', _⟩ := s.own z
      rw [q] at q'; cases q'
    rw [mask_not n2, s.fr a o q n1] at h; cases h
theorem RvR.leave {K : Fg} {mg : Mg} {v : V} {r : Rv} (s : SR K mg E η M c σ H) (t : SR K mg ⟨mask c σ H, η, M⟩ η' M' c' σ' H') (h : RvR K mg ⟨mask c σ H, η, M⟩ η' M' c' σ' H' v r) : RvR K mg E η' M' c' σ' H' v r := by
  cases r with
  | fz d => exact h
  | loc i => exact h
  | nw d =>
    obtain ⟨a, rfl, h1, h2, h3, h4, h5⟩ := h
    exact ⟨a, rfl, h1, s.leave_none t h2 h3, h3, h4, h5⟩
/-- a place that stands and is nobody's is nobody's behind a step -/
theorem SR.leave_own {K : Fg} {mg : Mg} (t : SR K mg ⟨mask c σ H, η, M⟩ η' M' c' σ' H') {a : Addr} {o : HO} (h : H a = some o) (hn : a ∉ η) (ho : ¬ Own c σ a) : ¬ Own c' σ' a ∧ a ∉ η' := by
  have hm : mask c σ H a = some o := by rw [mask_not ho]; exact h
  refine ⟨fun z => ?_, fun z => ?_⟩
  · obtain ⟨_, q, _⟩ := t.own z
    have q : mask c σ H a = none := q
    rw [hm] at q; cases q
  · rcases t.new a z with q | q
    · exact hn q
    · have q : mask c σ H a = none := q
      rw [hm] at q; cases q
theorem Tmp.leave {K : Fg} {mg : Mg} {T : List (Addr × D)} (tm : Tmp K mg E η M c σ H T) (s : SR K mg E η M c σ H) (t : SR K mg ⟨mask c σ H, η, M⟩ η' M' c' σ' H') (x : Ext η M η' M') : Tmp K mg E η' M' c' σ' H' T := by
  refine ⟨fun p hp => ?_, tm.nd⟩
  obtain ⟨h1, h2, h3, h4, h5⟩ := tm.ok p hp
  obtain ⟨o, ho⟩ := h5.ex
  obtain ⟨_, fr⟩ := s.leave t
  obtain ⟨k1, k2⟩ := SR.leave_own t ho h3 h4
  exact ⟨fr.m _ _ ho h4 h1, h2, k2, k1, h5.mono x fun u hu => fr.h _ u hu h3 h4⟩
def RVT (K : Fg) (mg : Mg) (T : List (Addr × D)) : Rl V Rv := fun E η M c σ H v r => RvR K mg E η M c σ H v r ∧ Tmp K mg E η M c σ H T ∧ ∀ a d, v = .ref a → r = .nw d → a ∉ T.map (·.1)
theorem out_tmp {T : List (Addr × D)} (h : Ex X e me) (s : SR X.K X.mg E η M c σ H) (tm : Tmp X.K X.mg E η M c σ H T) : Out X (RVT X.K X.mg T) (We X e σ H) E η M σ (me c) := by
  have o := h ⟨mask c σ H, η, M⟩ η M c σ H s.enter
  cases q : me c with
  | stuck => trivial
  | err y c1 => rw [q] at o; exact fun W Q tk hq => o W Q tk fun cls d η1 M1 H1 s1 x1 z1 => hq cls d η1 M1 H1 (s.leave s1).1 x1 z1
  | ok r c1 =>
    rw [q] at o
    refine fun Q hq => o Q fun v η1 M1 H1 s1 x1 z1 => hq v η1 M1 H1 (s.leave s1).1 x1 ⟨RvR.leave s s1 z1, tm.leave s s1 x1, fun a d ev er hm => ?_⟩
    subst er
    obtain ⟨b, eb, _, k2, _⟩ := z1
    rw [ev] at eb; cases eb
    obtain ⟨p, hp, rfl⟩ := List.mem_map.mp hm
    obtain ⟨h1, h2, h3, h4, h5⟩ := tm.ok p hp
    obtain ⟨u, hu⟩ := h5.ex
    have k2 : mask c σ H p.1 = none := k2
    rw [mask_not h4, hu] at k2; cases k2
/-- a list of values, new objects among them: what a display's targets take -/
inductive Pend where
  | fz (d : D) | nw (d : D)
def pend (c : Cf) : Rv → Option (Pend × Cf)
  | .fz d => some (.fz d, c)
  | .nw (.tup ds) => some (.fz (.tup ds), c)
  | .nw d => some (.nw d, c)
  | .loc i => match c.ρ[i]? with
    | some (.ow d) => some (.fz d, { c with ρ := c.ρ.set i (.fz d) })
    | some (.fz d) => some (.fz d, c)
    | _ => none
/-- T: the addresses of the new ones -/
inductive PendR (K : Fg) (mg : Mg) (η : List Addr) (M : Hp) : List V → List Pend → List (Addr × D) → Prop
  | nil : PendR K mg η M [] [] []
  | fz {v : V} {vs : List V} {d : D} {ps : List Pend} {T : List (Addr × D)} : Rep K mg η M v d → PendR K mg η M vs ps T → PendR K mg η M (v :: vs) (.fz d :: ps) T
  | nw {a : Addr} {vs : List V} {d : D} {ps : List Pend} {T : List (Addr × D)} : PendR K mg η M vs ps T → PendR K mg η M (.ref a :: vs) (.nw d :: ps) ((a, d) :: T)
def mPend : List Em → Cf → Res (List Pend)
  | [], c => .ok [] c
  | m :: ms, c => (m c).bind fun r c1 => match pend c1 r with
    | some (p, c2) => (mPend ms c2).bind fun ps c3 => .ok (p :: ps) c3
    | none => .stuck
inductive ExL (X : Cx) : List Expr → List Em → Prop
  | nil : ExL X [] []
  | cons {e : Expr} {es : List Expr} {m : Em} {ms : List Em} : Ex X e m → starEach (e :: es) X.env = (false, eval e X.env) :: starEach es X.env → ExL X es ms → ExL X (e :: es) (m :: ms)
theorem exl_cons {es : List Expr} {ms : List Em} (h : Ex X e me) (hs : ExL X es ms) (hst : starEach (e :: es) X.env = (false, eval e X.env) :: starEach es X.env := by rfl) : ExL X (e :: es) (me :: ms) := .cons h hst hs
theorem PendR.mono {K : Fg} {mg : Mg} (x : Ext η M η' M') : ∀ {vs : List V} {ps : List Pend} {T : List (Addr × D)}, PendR K mg η M vs ps T → PendR K mg η' M' vs ps T
  | _, _, _, .nil => .nil
  | _, _, _, .fz h hs => .fz (h.mono x) (PendR.mono x hs)
  | _, _, _, .nw hs => .nw (PendR.mono x hs)
/-- T0: temporaries from before; behind: those and the new ones -/
theorem mPend_ok {es : List Expr} {ms : List Em} (L : ExL X es ms) : ∀ {T0 : List (Addr × D)} {E : En} {η : List Addr} {M H : Hp} {c : Cf} {σ : St}, SR X.K X.mg E η M c σ H → Tmp X.K X.mg E η M c σ H T0 →
    Out X (fun E η M c σ H vs ps => ∃ T, PendR X.K X.mg η M vs ps T ∧ Tmp X.K X.mg E η M c σ H (T ++ T0)) (Wa X es σ H) E η M σ (mPend ms c) := by
  induction L with
  | nil => exact fun {T0 E η M H c σ} s tm => out_ok s (fun Q hq => pa_wa pa_nil hq) ⟨[], .nil, tm⟩
  | @cons e es m ms he hst L ih =>
    intro T0 E η M H c σ s tm
    refine Out.bind (fun x H1 Q => Wa X es σ H1 fun xs H2 => Q (x :: xs) H2) (out_tmp he s tm) (fun Q hq => pa_wa (pa_cons we_pe wa_pa hst) hq) fun r c1 v η1 M1 H1 s1 x1 ⟨z1, t1, n1⟩ => ?_
    cases e1 : pend c1 r with
    | none => trivial
    | some q =>
      obtain ⟨p, c2⟩ := q
      dsimp only
      -- the frozen kinds
      have fzc : ∀ {d : D} {M2 : Hp} {c2 : Cf}, SR X.K X.mg E η1 M2 c2 σ H1 → Ext η1 M1 η1 M2 → Tmp X.K X.mg E η1 M2 c2 σ H1 T0 → Rep X.K X.mg η1 M2 v d →
          Out X (fun E η M c σ H vs ps => ∃ T, PendR X.K X.mg η M vs ps T ∧ Tmp X.K X.mg E η M c σ H (T ++ T0)) (fun Q => Wa X es σ H1 fun xs H2 => Q (v :: xs) H2) E η1 M1 σ ((mPend ms c2).bind fun ps c3 => .ok (.fz d :: ps) c3) := by
        intro d M2 c2 s2 x2 t2 r2
        refine out_ext x2 (Out.bind (fun xs H2 Q => Q (v :: xs) H2) (ih s2 t2) (fun Q hq => hq) fun ps c3 vs η3 M3 H3 s3 x3 ⟨T, h3, t3⟩ => ?_)
        exact out_ok s3 (fun Q hq => hq) ⟨T, .fz (r2.mono x3) h3, t3⟩
      cases r with
      | fz d => cases e1; exact fzc s1 .refl t1 z1
      | loc i =>
        unfold pend at e1
        dsimp only at e1
        have z1 : σ[i]? = some (some v) := z1
        cases q : c1.ρ[i]? with
        | none => rw [q] at e1; cases e1
        | some sl =>
          rw [q] at e1
          cases sl with
          | un => cases e1
          | fz d =>
            cases e1
            obtain ⟨w, g1, r1⟩ := s1.slot i _ q
            rw [z1] at g1; cases g1
            exact fzc s1 .refl t1 r1
          | ow d =>
            cases e1
            obtain ⟨a, M2, g1, x2, s2, r2, f2⟩ := s1.freezeSlot' q
            rw [z1] at g1; cases g1
            refine fzc s2 x2 ⟨fun p hp => ?_, t1.nd⟩ r2
            obtain ⟨h1, h2, h3, h4, h5⟩ := t1.ok p hp
            have hpa : p.1 ≠ a := fun z => h4 ⟨i, d, q, by rw [z1, z]⟩
            refine ⟨by rw [f2 _ hpa]; exact h1, h2, h3, fun ⟨j, d', k1, k2⟩ => ?_, h5.mono x2 fun _ z => z⟩
            · have k1 : (c1.ρ.set i (.fz d))[j]? = some (.ow d') := k1
              by_cases hj : j = i
              · subst hj
                rw [List.getElem?_set_self (List.getElem?_eq_some_iff.mp q).1] at k1; cases k1
              · rw [List.getElem?_set_ne (Ne.symm hj)] at k1
                exact h4 ⟨j, d', k1, k2⟩
      | nw d =>
        obtain ⟨a, rfl, h1, h2, h3, h4, h5⟩ := id z1
        by_cases ht : ∃ ds, d = .tup ds
        · obtain ⟨ds, rfl⟩ := ht
          cases e1
          obtain ⟨o, ho⟩ := h5.ex
          obtain ⟨s2, x2⟩ := s1.freeze h1 h2 h3 h4 ho
          refine fzc s2 x2 ⟨fun p hp => ?_, t1.nd⟩ (h5.frozen x2 ho upd_same)
          obtain ⟨k1, k2, k3, k4, k5⟩ := t1.ok p hp
          have hpa : p.1 ≠ a := fun z => n1 a _ rfl rfl (z ▸ List.mem_map_of_mem hp)
          exact ⟨by rw [upd_ne hpa]; exact k1, k2, k3, k4, k5.mono x2 fun _ z => z⟩
        · have e1 : some (Pend.nw d, c1) = some (p, c2) := by
            cases d <;> first | exact e1 | exact absurd ⟨_, rfl⟩ ht
          cases e1
          have t2 : Tmp X.K X.mg E η1 M1 c1 σ H1 ((a, d) :: T0) := by
            refine ⟨fun p hp => ?_, ?_⟩
            · rcases List.mem_cons.mp hp with rfl | hp
              · exact ⟨h1, h2, h3, h4, h5⟩
              · exact t1.ok p hp
            · rw [List.map_cons, List.nodup_cons]
              exact ⟨n1 a d rfl rfl, t1.nd⟩
          refine Out.bind (fun xs H2 Q => Q (V.ref a :: xs) H2) (ih s1 t2) (fun Q hq => hq) fun ps c3 vs η3 M3 H3 s3 x3 ⟨T, h3, t3⟩ => ?_
          refine out_ok s3 (fun Q hq => hq) ⟨(a, d) :: T, .nw h3, ⟨fun p hp => t3.ok p ?_, ?_⟩⟩
          · simp only [List.cons_append, List.mem_cons, List.mem_append] at hp ⊢
            rcases hp with hp | hp | hp
            · exact .inr (.inl hp)
            · exact .inl hp
            · exact .inr (.inr hp)
          · have nd := t3.nd
            simp only [List.map_append, List.map_cons, List.cons_append] at nd ⊢
            exact (List.perm_middle.nodup_iff).mp nd
end
end LH
/-! LHLoop: targets, loops, comprehensions. -/
namespace LH
open PySem PySem.Spec PyProof.Rows L2

/-! ### names as targets -/
def setL : St → List Nat → List V → St
  | σ, i :: is, v :: vs => setL (σ.set i (some v)) is vs
  | σ, _, _ => σ
def putL : List Nat → List Pend → Cf → Option Cf
  | [], [], c => some c
  | i :: is, .fz d :: ps, c => if i < c.ρ.length then putL is ps { c with ρ := c.ρ.set i (.fz d) } else none
  | i :: is, .nw d :: ps, c => if i < c.ρ.length then putL is ps { c with ρ := c.ρ.set i (.ow d) } else none
  | _, _, _ => none
def fzL : List Nat → List D → Cf → Option Cf
  | [], [], c => some c
  | i :: is, d :: ds, c => if i < c.ρ.length then fzL is ds { c with ρ := c.ρ.set i (.fz d) } else none
  | _, _, _ => none
section
variable {K : Fg} {mg : Mg} {E : En} {η η' : List Addr} {M M' H H' : Hp} {c c' : Cf} {σ σ' : St}
theorem own_set {i : Nat} {sl : Sl} {v : V} {a : Addr} (hn : ∀ d, sl ≠ .ow d) (h : Own { c with ρ := c.ρ.set i sl } (σ.set i (some v)) a) : Own c σ a := by
  obtain ⟨j, d, h1, h2⟩ := h
  have h1 : (c.ρ.set i sl)[j]? = some (.ow d) := h1
  by_cases hj : j = i
  · subst hj
    by_cases hl : j < c.ρ.length
    · rw [List.getElem?_set_self hl] at h1
      exact absurd (Option.some.inj h1) (hn d)
    · rw [List.getElem?_eq_none (by simpa using hl)] at h1; cases h1
  · rw [List.getElem?_set_ne (Ne.symm hj)] at h1 h2
    exact ⟨j, d, h1, h2⟩
theorem own_setOw {i : Nat} {d : D} {a b : Addr} (hne : b ≠ a) (h : Own { c with ρ := c.ρ.set i (.ow d) } (σ.set i (some (.ref a))) b) : Own c σ b := by
  obtain ⟨j, d', h1, h2⟩ := h
  have h1 : (c.ρ.set i (.ow d))[j]? = some (.ow d') := h1
  by_cases hj : j = i
  · subst hj
    by_cases hl : j < σ.length
    · rw [List.getElem?_set_self hl] at h2
      exact absurd (by cases h2; rfl) hne
    · rw [List.getElem?_eq_none (by simpa using hl)] at h2; cases h2
  · rw [List.getElem?_set_ne (Ne.symm hj)] at h1 h2
    exact ⟨j, d', h1, h2⟩
theorem putL_ok {vs : List V} {ps : List Pend} {T : List (Addr × D)} (hp : PendR K mg η M vs ps T) : ∀ {is : List Nat} {c c' : Cf} {σ : St}, SR K mg E η M c σ H → Tmp K mg E η M c σ H T → putL is ps c = some c' →
    SR K mg E η M c' (setL σ is vs) H ∧ vs.length = is.length := by
  induction hp with
  | nil =>
    intro is c c' σ s tm e
    cases is with
    | nil => cases e; exact ⟨s, rfl⟩
    | cons i is => cases e
  | @fz v vs d ps T r rs ih =>
    intro is c c' σ s tm e
    cases is with
    | nil => cases e
    | cons i is =>
      unfold putL at e
      by_cases hi : i < c.ρ.length
      · rw [if_pos hi] at e
        obtain ⟨q1, q2⟩ := ih (is := is) (s.setFz hi r) ⟨fun p hp => by
          obtain ⟨h1, h2, h3, h4, h5⟩ := tm.ok p hp
          exact ⟨h1, h2, h3, fun z => h4 (own_set (sl := .fz d) (fun _ z => by cases z) z), h5⟩, tm.nd⟩ e
        exact ⟨q1, congrArg Nat.succ q2⟩
      · rw [if_neg hi] at e; cases e
  | @nw a vs d ps T rs ih =>
    intro is c c' σ s tm e
    cases is with
    | nil => cases e
    | cons i is =>
      unfold putL at e
      by_cases hi : i < c.ρ.length
      · rw [if_pos hi] at e
        obtain ⟨h1, h2, h3, h4, h5⟩ := tm.ok (a, d) List.mem_cons_self
        have nd := tm.nd
        rw [List.map_cons, List.nodup_cons] at nd
        have s1 : SR K mg E η M { c with ρ := c.ρ.set i (.ow d) } (σ.set i (some (.ref a))) H := by
          refine s.setSlot hi ⟨a, rfl, h1, h2, h3, h5⟩ ?_
          intro t b _ hb j d' hj z q
          cases hb
          exact h4 ⟨j, d', z, q⟩
        obtain ⟨q1, q2⟩ := ih (is := is) s1 ⟨fun p hp => by
          obtain ⟨h1, h2, h3, h4, h5⟩ := tm.ok p (List.mem_cons_of_mem _ hp)
          refine ⟨h1, h2, h3, fun z => h4 (own_setOw (fun z => ?_) z), h5⟩
          have hm : p.1 ∈ T.map (·.1) := List.mem_map_of_mem hp
          rw [z] at hm
          exact nd.1 hm, nd.2⟩ e
        exact ⟨q1, congrArg Nat.succ q2⟩
      · rw [if_neg hi] at e; cases e
theorem setL_get : ∀ {is : List Nat} {vs : List V} {σ : St} {j : Nat}, j ∉ is → (setL σ is vs)[j]? = σ[j]?
  | [], _, σ, j, _ => by unfold setL; rfl
  | i :: is, [], σ, j, _ => by unfold setL; rfl
  | i :: is, v :: vs, σ, j, h => by
    unfold setL
    have hne : i ≠ j := fun z => h (by rw [z]; exact List.mem_cons_self)
    rw [setL_get fun z => h (List.mem_cons_of_mem _ z), List.getElem?_set_ne hne]
theorem setL_length : ∀ {is : List Nat} {vs : List V} {σ : St}, (setL σ is vs).length = σ.length
  | [], _, σ => by unfold setL; rfl
  | i :: is, [], σ => by unfold setL; rfl
  | i :: is, v :: vs, σ => by unfold setL; rw [setL_length, List.length_set]
theorem fzL_ok : ∀ {is : List Nat} {vs : List V} {ds : List D} {c c' : Cf} {σ : St}, SR K mg E η M c σ H → RepL K mg η M vs ds → fzL is ds c = some c' → SR K mg E η M c' (setL σ is vs) H ∧ vs.length = is.length
  | [], _, _, c, c', σ, s, .nil, e => by cases e; exact ⟨s, rfl⟩
  | [], _, _, c, c', σ, s, .cons _ _, e => by cases e
  | _ :: _, _, _, c, c', σ, s, .nil, e => by cases e
  | i :: is, _, _, c, c', σ, s, .cons r rs, e => by
    unfold fzL at e
    by_cases hi : i < c.ρ.length
    · rw [if_pos hi] at e
      obtain ⟨q1, q2⟩ := fzL_ok (is := is) (s.setFz hi r) rs e
      exact ⟨q1, congrArg Nat.succ q2⟩
    · rw [if_neg hi] at e; cases e
end
def gNames : List Nat → TGs
  | [] => gNil
  | i :: is => gCons (gName i) (gNames is)
theorem gNames_of : ∀ {is : List Nat} {vs : List V} {σ : St} {H : Hp} {Q : St → Hp → Prop}, vs.length = is.length → Q (setL σ is vs) H → gNames is vs σ H Q
  | [], [], σ, H, Q, _, h => ⟨rfl, h⟩
  | i :: is, v :: vs, σ, H, Q, hl, h => ⟨v, vs, rfl, gNames_of (is := is) (by simpa using hl) h⟩
/-- names at slots -/
inductive NmL (X : Cx) : List Expr → List Nat → Prop
  | nil : NmL X [] []
  | cons {x : Str} {p : Pos} {es : List Expr} {i : Nat} {is : List Nat} : PG X (.Name x p) (gName i) → NmL X es is → NmL X (.Name x p :: es) (i :: is)
theorem nml_pgs {X : Cx} {es : List Expr} {is : List Nat} (h : NmL X es is) : PGs X es (gNames is) := by
  induction h with
  | nil => exact pgs_nil
  | cons h _ ih => exact pgs_cons h ih
theorem nml_cons {X : Cx} {es : List Expr} {x : Str} {p : Pos} {is : List Nat} (i : Nat) (hN : X.N.Nodup) (h : NmL X es is) (hi : X.N[i]? = some x := by rfl) (hx : Loc X.env.scope x := by first | exact Or.inl rfl | exact Or.inr rfl) (hf : X.fn x = true ∨ X.env.scope.names.lookup x = some .local := by first | exact .inl rfl | exact .inr rfl | assumption) :
    NmL X (.Name x p :: es) (i :: is) := .cons (pg_name hN hi hx hf) h

section
variable {X : Cx} {E : En} {η η' : List Addr} {M M' H H' : Hp} {c c' : Cf} {σ σ' : St} {e tg it : Expr} {es ts : List Expr} {me : Em} {ms : List Em} {pos tpos epos : Pos} {is : List Nat}
/-- a, b, .. = e, f, .. : a tuple is made and taken apart -/
def sPend (is : List Nat) (ms : List Em) : Sm := fun c => (mPend ms c).bind fun ps c1 => if ps.length ≤ sizeLine then (match putL is ps c1 with
  | some c2 => .ok .nx c2
  | none => .stuck) else .stuck
theorem PendR.length {K : Fg} {mg : Mg} : ∀ {vs : List V} {ps : List Pend} {T : List (Addr × D)}, PendR K mg η M vs ps T → vs.length = ps.length
  | _, _, _, .nil => rfl
  | _, _, _, .fz _ hs => congrArg Nat.succ (PendR.length hs)
  | _, _, _, .nw hs => congrArg Nat.succ (PendR.length hs)
theorem out_pend {tw' : Ends → Prop} (L : ExL X es ms) (s : SR X.K X.mg E η M c σ H) (imp : ∀ Z : Ends, Wa X es σ H (fun vs H1 => vs.length = is.length ∧ vs.length ≤ sizeLine ∧ (∀ p, H1 p = none → Z.nx (setL σ is vs) (upd H1 p (.tup vs))) ∧ Z.nx (setL σ is vs) H1) → tw' Z) : OutS X tw' E η M (sPend is ms c) := by
  refine OutS.bind (fun vs H1 Z => vs.length = is.length ∧ vs.length ≤ sizeLine ∧ (∀ p, H1 p = none → Z.nx (setL σ is vs) (upd H1 p (.tup vs))) ∧ Z.nx (setL σ is vs) H1) (mPend_ok (T0 := []) L s ⟨fun p hp => absurd hp (by simp), by simp⟩) imp fun ps c1 vs η1 M1 H1 s1 x1 ⟨T, h1, t1⟩ Z g => ?_
  rw [List.append_nil] at t1
  by_cases hl : ps.length ≤ sizeLine
  · rw [if_pos hl] at g
    cases e1 : putL is ps c1 with
    | none => rw [e1] at g; exact g.elim
    | some c2 =>
      rw [e1] at g
      obtain ⟨s2, l2⟩ := putL_ok h1 s1 t1 e1
      exact ⟨l2, by rw [h1.length]; exact hl, fun p hp => g _ η1 M1 _ (s2.alloc hp) .refl, g _ η1 M1 H1 s2 .refl⟩
  · rw [if_neg hl] at g; exact g.elim
theorem sx_tupN {k k2 : Nat} (hc : X.calm = true) (N : NmL X ts is) (L : ExL X es ms) (hn : (assignEach ts X.env).length = is.length := by rfl) (hst : (assignEach ts X.env).findIdx? (·.1) = none := by rfl)
    (hs : swapsWithSole [.Tuple ts k tpos] (.Tuple es k2 epos) pos.line X.env = pure false := by rfl) (hw : swappedStores [.Tuple ts k tpos] (.Tuple es k2 epos) X.env = pure none := by rfl)
    (h1 : (assignEach [.Tuple ts k tpos] X.env).map (·.2) = [assign (.Tuple ts k tpos) X.env] := by rfl) : Sx X (.Assign [.Tuple ts k tpos] (.Tuple es k2 epos) pos) (sPend is ms) := by
  refine ⟨fun E η M c σ H s => ?_⟩
  refine out_pend L s fun Z hq => ps_ws (ps_asg (pe_tup wa_pa) (pg_tup hc (nml_pgs N) hn hst) hs hw h1) ?_
  intro pp pins st I
  exact thn (hq pp pins st I) fun us s2 ⟨vs, H2, I2, r2, q1, q2, q3, q4⟩ => ⟨vs, H2, I2, r2, q2, fun p hp => ⟨p, vs, rfl, .of upd_same, q1, gNames_of q1 (q3 p hp)⟩⟩
theorem sx_tup2 {x y : Str} {px py : Pos} {a b : Expr} {k k2 : Nat} (i j : Nat) (hc : X.calm = true) (hN : X.N.Nodup) (L : ExL X [a, b] ms) (hi : X.N[i]? = some x := by rfl) (hj : X.N[j]? = some y := by rfl) (hij : i ≠ j := by decide)
    (hx : X.env.scope.names.lookup x = some .local := by rfl) (hy : X.env.scope.names.lookup y = some .local := by rfl)
    (hw : swappedStores [.Tuple [.Name x px, .Name y py] k tpos] (.Tuple [a, b] k2 epos) X.env = pure (some [x, y]) := by rfl)
    (hs : swapsWithSole [.Tuple [.Name x px, .Name y py] k tpos] (.Tuple [a, b] k2 epos) pos.line X.env = pure false := by rfl) :
    Sx X (.Assign [.Tuple [.Name x px, .Name y py] k tpos] (.Tuple [a, b] k2 epos) pos) (sPend [i, j] ms) := by
  refine ⟨fun E η M c σ H s => ?_⟩
  refine out_pend L s fun Z hq => ps_ws (ps_par hc hN hi hj hij hx hy wa_pa hw hs) ?_
  intro pp pins st I
  refine thn (hq pp pins st I) fun us s2 ⟨vs, H2, I2, r2, q1, q2, q3, q4⟩ => ⟨vs, H2, I2, r2, ?_⟩
  match vs, q1 with
  | [v, w], _ => exact ⟨v, w, rfl, q4⟩
/-- a, b, .. = e, e a tuple -/
def sUnp (is : List Nat) (me : Em) : Sm := fun c => (me c).bind fun r c1 => match toVal c1 r with
  | some (.tup ds, c2) => (match fzL is ds c2 with
    | some c3 => .ok .nx c3
    | none => .stuck)
  | _ => .stuck
theorem sx_unp {k : Nat} (hc : X.calm = true) (N : NmL X ts is) (he : Ex X e me) (hn : (assignEach ts X.env).length = is.length := by rfl) (hst : (assignEach ts X.env).findIdx? (·.1) = none := by rfl)
    (hs : swapsWithSole [.Tuple ts k tpos] e pos.line X.env = pure false := by rfl) (hw : swappedStores [.Tuple ts k tpos] e X.env = pure none := by rfl)
    (h1 : (assignEach [.Tuple ts k tpos] X.env).map (·.2) = [assign (.Tuple ts k tpos) X.env] := by rfl) : Sx X (.Assign [.Tuple ts k tpos] e pos) (sUnp is me) := by
  refine ⟨fun E η M c σ H s => ?_⟩
  refine OutS.bind (fun v H1 Z => gTup X.K is.length (gNames is) v σ H1 Z.nx) (he E η M c σ H s) (fun Z hq => ps_ws (ps_asg we_pe (pg_tup hc (nml_pgs N) hn hst) hs hw h1) hq) fun r c1 v η1 M1 H1 s1 x1 z1 Z g => ?_
  cases e1 : toVal c1 r with
  | none => rw [e1] at g; exact g.elim
  | some q =>
    obtain ⟨d, c2⟩ := q
    rw [e1] at g
    cases d with
    | tup ds =>
      dsimp only at g
      cases e2 : fzL is ds c2 with
      | none => rw [e2] at g; exact g.elim
      | some c3 =>
        rw [e2] at g
        obtain ⟨M2, s2, x2, r2⟩ := toVal_ok s1 z1 e1
        cases r2 with
        | tup hq hr =>
          obtain ⟨s3, l3⟩ := fzL_ok s2 hr e2
          exact ⟨_, _, rfl, SqT.of (s2.sub _ _ hq), l3, gNames_of l3 (g _ η1 M2 H1 s3 x2)⟩
    | _ => exact g.elim

/-! ### targets of loops -/
def Tgt (X : Cx) (tg : Expr) (g : D → Cf → Option Cf) (js : List Nat) : Prop :=
  ∀ E η M c σ H v d c', SR X.K X.mg E η M c σ H → Rep X.K X.mg η M v d → g d c = some c' →
    ∀ Q : St → Hp → Prop, (∀ σ', SR X.K X.mg E η M c' σ' H → (∀ j, j ∉ js → σ'[j]? = σ[j]?) → σ'.length = σ.length → Q σ' H) → Wg X tg v σ H Q
def gFz (i : Nat) (d : D) (c : Cf) : Option Cf := if i < c.ρ.length then some { c with ρ := c.ρ.set i (.fz d) } else none
theorem tg_name {x : Str} {p : Pos} (i : Nat) (hN : X.N.Nodup) (hi : X.N[i]? = some x := by rfl) (hx : Loc X.env.scope x := by first | exact Or.inl rfl | exact Or.inr rfl) (hf : X.fn x = true ∨ X.env.scope.names.lookup x = some .local := by first | exact .inl rfl | exact .inr rfl | assumption) :
    Tgt X (.Name x p) (gFz i) [i] := by
  intro E η M c σ H v d c' s r e Q hQ
  unfold gFz at e
  by_cases hl : i < c.ρ.length
  · rw [if_pos hl] at e; cases e
    exact pg_wg (pg_name hN hi hx hf) (hQ _ (s.setFz hl r) (fun j hj => by rw [List.getElem?_set_ne fun z => hj (by simp [z])]) (by simp))
  · rw [if_neg hl] at e; cases e
def Tgts (X : Cx) (ts : List Expr) (g : List D → Cf → Option Cf) (js : List Nat) : Prop :=
  ∃ t : TGs, PGs X ts t ∧ ∀ E η M c σ H vs ds c', SR X.K X.mg E η M c σ H → RepL X.K X.mg η M vs ds → g ds c = some c' →
    ∀ Q : St → Hp → Prop, (∀ σ', SR X.K X.mg E η M c' σ' H → (∀ j, j ∉ js → σ'[j]? = σ[j]?) → σ'.length = σ.length → Q σ' H) → t vs σ H Q
def gN : List D → Cf → Option Cf
  | [], c => some c
  | _, _ => none
def gC (g : D → Cf → Option Cf) (gs : List D → Cf → Option Cf) : List D → Cf → Option Cf
  | d :: ds, c => (g d c).bind fun c1 => gs ds c1
  | _, _ => none
theorem tgs_nil : Tgts X [] gN [] := ⟨gNil, pgs_nil, fun E η M c σ H vs ds c' s r e Q hQ => by
  cases r with
  | nil => cases e; exact ⟨rfl, hQ σ s (fun _ _ => rfl) rfl⟩
  | cons _ _ => cases e⟩
theorem tgs_cons {g : D → Cf → Option Cf} {gs : List D → Cf → Option Cf} {js ks : List Nat} (h : Tgt X e g js) (hs : Tgts X ts gs ks)
    (hz : (assignEach (e :: ts) X.env).map (·.2) = assign e X.env :: (assignEach ts X.env).map (·.2) := by rfl) : Tgts X (e :: ts) (gC g gs) (js ++ ks) := by
  obtain ⟨t, p, q⟩ := hs
  refine ⟨_, pgs_cons wg_pg p hz, fun E η M c σ H vs ds c' s r e1 Q hQ => ?_⟩
  cases r with
  | nil => cases e1
  | @cons v vs d ds r rs =>
    unfold gC at e1
    dsimp only at e1
    cases e2 : g d c with
    | none => rw [e2] at e1; cases e1
    | some c1 =>
      rw [e2] at e1
      refine ⟨v, vs, rfl, h E η M c σ H v d c1 s r e2 _ fun σ1 s1 k1 l1 => ?_⟩
      exact q E η M c1 σ1 H vs ds c' s1 rs e1 Q fun σ2 s2 k2 l2 => hQ σ2 s2 (fun j hj => by
        rw [List.mem_append, not_or] at hj
        rw [k2 j hj.2, k1 j hj.1]) (l2.trans l1)
def gT (gs : List D → Cf → Option Cf) : D → Cf → Option Cf
  | .tup ds, c => gs ds c
  | _, _ => none
theorem tg_tup {k : Nat} {gs : List D → Cf → Option Cf} {js : List Nat} (n : Nat) (hc : X.calm = true) (h : Tgts X ts gs js) (hl : ∀ ds c c', gs ds c = some c' → ds.length = n)
    (hn : (assignEach ts X.env).length = n := by rfl) (hst : (assignEach ts X.env).findIdx? (·.1) = none := by rfl) : Tgt X (.Tuple ts k pos) (gT gs) js := by
  obtain ⟨t, p, q⟩ := h
  intro E η M c σ H v d c' s r e1 Q hQ
  cases d with
  | tup ds =>
    cases r with
    | tup hq hr => exact pg_wg (pg_tup hc p hn hst) ⟨_, _, rfl, SqT.of (s.sub _ _ hq), by rw [hr.length]; exact hl _ _ _ e1, q E η M c σ H _ ds c' s hr e1 Q hQ⟩
  | _ => cases e1
theorem gN_len : ∀ (ds : List D) (c c' : Cf), gN ds c = some c' → ds.length = 0
  | [], _, _, _ => rfl
  | _ :: _, _, _, e => by cases e
theorem gC_len {g : D → Cf → Option Cf} {gs : List D → Cf → Option Cf} {n : Nat} (h : ∀ ds c c', gs ds c = some c' → ds.length = n) : ∀ (ds : List D) (c c' : Cf), gC g gs ds c = some c' → ds.length = n + 1
  | [], _, _, e => by cases e
  | d :: ds, c, c', e => by
    unfold gC at e
    dsimp only at e
    cases e2 : g d c with
    | none => rw [e2] at e; cases e
    | some c1 => rw [e2] at e; simp [h ds c1 c' e]

/-! ### what is walked -/
/-- an item that comes: Rep, or a new pair -/
def Yl (K : Fg) (mg : Mg) (η : List Addr) (M H : Hp) (x : V) (H' : Hp) (d : D) : Prop :=
  (H' = H ∧ Rep K mg η M x d) ∨ ∃ p xs ds, H p = none ∧ x = .ref p ∧ H' = upd H p (.tup xs) ∧ RepL K mg η M xs ds ∧ d = .tup ds
def JOk (K : Fg) (mg : Mg) (η : List Addr) (M : Hp) (J : It) (ds : List D) : Prop :=
  ∀ i H, Same M H → (∀ d, ds[i]? = some d → J.go i H ∧ ∀ x H', J.yld i H x H' → Yl K mg η M H x H' d) ∧ (ds.length ≤ i → J.stop i H)
def RJ (K : Fg) (mg : Mg) : Rl It (List D) := fun _ η M _ _ _ J ds => JOk K mg η M J ds
structure Ix (X : Cx) (tg it : Expr) (m : Cf → Res (List D)) : Prop where
  run : ∀ E η M c σ H, SR X.K X.mg E η M c σ H → Out X (RJ X.K X.mg) (Wi X tg it σ H) E η M σ (m c)
instance {X : Cx} {tg it : Expr} {m : Cf → Res (List D)} : CoeFun (Ix X tg it m) (fun _ => ∀ E η M c σ H, SR X.K X.mg E η M c σ H → Out X (RJ X.K X.mg) (Wi X tg it σ H) E η M σ (m c)) := ⟨Ix.run⟩
/-- a list, a tuple -/
def mIt (me : Em) : Cf → Res (List D) := fun c => (me c).bind fun r c1 => match toVal c1 r with
  | some (.lst ds, c2) => .ok ds c2
  | _ => .stuck
def mItT (me : Em) : Cf → Res (List D) := fun c => (me c).bind fun r c1 => match toVal c1 r with
  | some (.tup ds, c2) => .ok ds c2
  | _ => .stuck
theorem jok_list {K : Fg} {mg : Mg} {a : Addr} {xs : List V} {ds : List D} (h : SqL K M a xs) (r : RepL K mg η M xs ds) : JOk K mg η M (Itl K a) ds := by
  intro i H hs
  have h' : SqL K H a xs := hs.seq h
  refine ⟨fun d e => ?_, fun hl => ⟨xs, h', by rw [r.length]; exact hl⟩⟩
  obtain ⟨v, e1, r1⟩ := r.getD' e
  exact ⟨⟨xs, v, h', e1⟩, fun x H' ⟨y1, y2⟩ => .inl ⟨y1, by
    have := y2 xs h'
    rw [e1] at this; cases this
    exact r1⟩⟩
theorem jok_tup {K : Fg} {mg : Mg} {a : Addr} {xs : List V} {ds : List D} (h : SqT K M a xs) (r : RepL K mg η M xs ds) : JOk K mg η M (Itt K a) ds := by
  intro i H hs
  have h' : SqT K H a xs := SqT.same hs h
  refine ⟨fun d e => ?_, fun hl => ⟨xs, h', by rw [r.length]; exact hl⟩⟩
  obtain ⟨v, e1, r1⟩ := r.getD' e
  exact ⟨⟨xs, v, h', e1⟩, fun x H' ⟨y1, y2⟩ => .inl ⟨y1, by
    have := y2 xs h'
    rw [e1] at this; cases this
    exact r1⟩⟩
theorem ix_lst (he : Ex X e me) : Ix X tg e (mIt me) := by
  refine ⟨fun E η M c σ H s => ?_⟩
  refine Out.bind (fun (v : V) H1 (R : It → Hp → Prop) => ∃ a, v = .ref a ∧ (∃ xs, SqL X.K H1 a xs) ∧ R (Itl X.K a) H1) (he E η M c σ H s) (fun Q hq => pi_wi (pi_list we_pe) hq) fun r c1 v η1 M1 H1 s1 x1 z1 => ?_
  cases e1 : toVal c1 r with
  | none => trivial
  | some q =>
    obtain ⟨d, c2⟩ := q
    cases d with
    | lst ds =>
      obtain ⟨M2, s2, x2, r2⟩ := toVal_ok s1 z1 e1
      cases r2 with
      | lst hq hr => exact out_ext x2 (out_ok (v := Itl X.K _) s2 (fun Q hQ => ⟨_, rfl, ⟨_, .of (s2.sub _ _ hq)⟩, hQ⟩) (jok_list (.of hq) hr))
    | _ => trivial
theorem ix_tuple (he : Ex X e me) : Ix X tg e (mItT me) := by
  refine ⟨fun E η M c σ H s => ?_⟩
  refine Out.bind (fun (v : V) H1 (R : It → Hp → Prop) => ∃ a, v = .ref a ∧ (∃ xs, SqT X.K H1 a xs) ∧ R (Itt X.K a) H1) (he E η M c σ H s) (fun Q hq => pi_wi (pi_tup we_pe) hq) fun r c1 v η1 M1 H1 s1 x1 z1 => ?_
  cases e1 : toVal c1 r with
  | none => trivial
  | some q =>
    obtain ⟨d, c2⟩ := q
    cases d with
    | tup ds =>
      obtain ⟨M2, s2, x2, r2⟩ := toVal_ok s1 z1 e1
      cases r2 with
      | tup hq hr => exact out_ext x2 (out_ok (v := Itt X.K _) s2 (fun Q hQ => ⟨_, rfl, ⟨_, .of (s2.sub _ _ hq)⟩, hQ⟩) (jok_tup (.of hq) hr))
    | _ => trivial
/-- ranges -/
def rangeD (lo : Int) (n : Nat) : List D := (List.range n).map fun (i : Nat) => D.int (lo + (i : Int))
theorem rangeD_get {lo : Int} {n i : Nat} {d : D} (h : (rangeD lo n)[i]? = some d) : i < n ∧ d = .int (lo + i) := by
  unfold rangeD at h
  rw [List.getElem?_map] at h
  by_cases hi : i < n
  · rw [List.getElem?_range hi] at h
    cases h; exact ⟨hi, rfl⟩
  · rw [List.getElem?_eq_none (by simpa using hi)] at h; cases h
theorem jok_range {K : Fg} {mg : Mg} {lo : Int} {n : Nat} : JOk K mg η M (Itr lo n) (rangeD lo n) := by
  intro i H hs
  refine ⟨fun d e => ?_, fun hl => (show n ≤ i from by simpa [rangeD] using hl)⟩
  obtain ⟨h1, rfl⟩ := rangeD_get e
  exact ⟨h1, fun x H' ⟨y1, y2⟩ => .inl ⟨y1, by subst y2; exact .int _⟩⟩
def mRng1 (ms : Cf → Res (List Rv)) : Cf → Res (List D) := fun c => (ms c).bind fun rs c1 => match views c1 rs with
  | some [.int j] => if -(2 ^ 62) ≤ j ∧ j < 2 ^ 62 then .ok (rangeD 0 j.toNat) c1 else .stuck
  | _ => .stuck
def mRng2 (ms : Cf → Res (List Rv)) : Cf → Res (List D) := fun c => (ms c).bind fun rs c1 => match views c1 rs with
  | some [.int i, .int j] => if -(2 ^ 62) ≤ i ∧ i < 2 ^ 62 ∧ -(2 ^ 62) ≤ j ∧ j < 2 ^ 62 then .ok (rangeD i (j - i).toNat) c1 else .stuck
  | _ => .stuck
theorem ix_range1 {a : Expr} {p : Pos} {ms : Cf → Res (List Rv)} (hm : X.mg "range" = none) (ha : Ax X [a] ms) (hg : Gl X "range" := by rfl) (hs : starEach [a] X.env = [(false, eval a X.env)] := by rfl) : Ix X tg (.Call (.Name "range" p) [a] [] pos) (mRng1 ms) := by
  refine ⟨fun E η M c σ H s => ?_⟩
  refine Out.bind (R := RVs X.K X.mg) (fun vs H1 (R : It → Hp → Prop) => ∃ j : Int, vs = [V.int j] ∧ -(2 ^ 62) ≤ j ∧ j < 2 ^ 62 ∧ R (Itr 0 j.toNat) H1) (ha E η M c σ H s) (fun Q hq => pi_wi (pi_range1 hg hm wa_pa hs) hq) fun rs c1 vs η1 M1 H1 s1 x1 z1 => ?_
  cases e1 : views c1 rs with
  | none => trivial
  | some ds =>
    have q := views_ok s1 z1.2 e1
    match ds, q with
    | [], _ => trivial
    | [.int j], .cons q .nil =>
      dsimp only
      by_cases h : -(2 ^ 62) ≤ j ∧ j < 2 ^ 62
      · rw [if_pos h]
        exact out_ok (v := Itr 0 j.toNat) s1 (fun Q hQ => ⟨j, by rw [q.int], h.1, h.2, hQ⟩) jok_range
      · rw [if_neg h]; trivial
    | .int _ :: _ :: _, _ => trivial
    | .non :: _, _ => trivial
    | .bl _ :: _, _ => trivial
    | .str _ :: _, _ => trivial
    | .lst _ :: _, _ => trivial
    | .tup _ :: _, _ => trivial
    | .ro _ :: _, _ => trivial
    | .dct _ :: _, _ => trivial
    | .dcT _ :: _, _ => trivial
    | .obj _ _ :: _, _ => trivial
    | .exc _ _ :: _, _ => trivial
    | .hdl _ :: _, _ => trivial
theorem ix_range2 {a b : Expr} {p : Pos} {ms : Cf → Res (List Rv)} (hm : X.mg "range" = none) (ha : Ax X [a, b] ms) (hg : Gl X "range" := by rfl) (hs : starEach [a, b] X.env = [(false, eval a X.env), (false, eval b X.env)] := by rfl) (hs2 : starEach [b] X.env = [(false, eval b X.env)] := by rfl) : Ix X tg (.Call (.Name "range" p) [a, b] [] pos) (mRng2 ms) := by
  refine ⟨fun E η M c σ H s => ?_⟩
  refine Out.bind (R := RVs X.K X.mg) (fun vs H1 (R : It → Hp → Prop) => ∃ i j : Int, vs = [V.int i, V.int j] ∧ (-(2 ^ 62) ≤ i ∧ i < 2 ^ 62 ∧ -(2 ^ 62) ≤ j ∧ j < 2 ^ 62) ∧ R (Itr i (j - i).toNat) H1) (ha E η M c σ H s) (fun Q hq => pi_wi (pi_range2 hg hm wa_pa hs hs2) hq) fun rs c1 vs η1 M1 H1 s1 x1 z1 => ?_
  cases e1 : views c1 rs with
  | none => trivial
  | some ds =>
    have q := views_ok s1 z1.2 e1
    split
    · rename_i i j heq
      cases heq
      by_cases h : -(2 ^ 62) ≤ i ∧ i < 2 ^ 62 ∧ -(2 ^ 62) ≤ j ∧ j < 2 ^ 62
      · rw [if_pos h]
        cases q with
        | cons q1 q2 =>
          cases q2 with
          | cons q2 q3 =>
            cases q3
            exact out_ok (v := Itr i (j - i).toNat) s1 (fun Q hQ => ⟨i, j, by rw [q1.int, q2.int], h, hQ⟩) jok_range
      · rw [if_neg h]; trivial
    · trivial

/-! ### for, while -/
def forD (g : D → Cf → Option Cf) (body : Sm) : List D → Cf → Res Fl
  | [], c => .ok .nx c
  | d :: ds, c => match g d c with
    | none => .stuck
    | some c1 => match body c1 with
      | .ok .nx c2 => forD g body ds c2
      | .ok .ct c2 => forD g body ds c2
      | .ok .bk c2 => .ok .nx c2
      | r => r
def sFor (mi : Cf → Res (List D)) (g : D → Cf → Option Cf) (body : Sm) : Sm := fun c => (mi c).bind fun ds c1 => forD g body ds c1
theorem sx_for {body : List Stmt} {mi : Cf → Res (List D)} {g : D → Cf → Option Cf} {js : List Nat} {mb : Sm} (hp : PassesOwn (model X.prog X.w) X.A X.env X.xe) (hc : X.calm = true) (hi : Ix X tg it mi) (hg : Tgt X tg g js) (hb : Bx X body mb)
    (hs : ∀ x, foldedSetIterable it X.env x = pure x := by intro _; rfl) : Sx X (.For tg it body [] pos) (sFor mi g mb) := by
  refine ⟨fun E η M c σ H s => ?_⟩
  refine OutS.bind (fun (J : It) H1 Z => ∃ W : Nat → Nat → St → Hp → Prop, (∃ m, W 0 m σ H1) ∧ ∀ i m σ H, W i m σ H →
    (J.stop i H ∧ Z.nx σ H) ∨ (J.go i H ∧ ∃ N : St → Hp → Prop, (∀ σ' H', N σ' H' → ∃ m', m' < m ∧ W (i + 1) m' σ' H') ∧ ∀ x H', J.yld i H x H' → Wg X tg x σ H' fun σ2 H2 => Wss X body { Z with nx := N, ct := N, bk := Z.nx } σ2 H2))
    (hi E η M c σ H s) (fun Z hq => ps_ws (ps_for hp hc wi_pi wg_pg wss_pss hs) hq) fun ds c1 J η1 M1 H1 s1 x1 j1 Z gd => ?_
  generalize hF : forD g mb ds c1 = F at gd
  refine ⟨fun i m σ' H' => m = ds.length - i ∧ i ≤ ds.length ∧ ∃ η' M' c', SR X.K X.mg E η' M' c' σ' H' ∧ Ext η1 M1 η' M' ∧ forD g mb (ds.drop i) c' = F, ⟨_, rfl, Nat.zero_le _, η1, M1, c1, s1, .refl, hF⟩, ?_⟩
  rintro i m σ2 H2 ⟨rfl, hi2, η2, M2, c2, s2, x2, e2⟩
  have hsame : Same M1 H2 := x2.m.trans s2.sub
  by_cases hlt : i < ds.length
  · have ed : ds.drop i = ds[i] :: ds.drop (i + 1) := List.drop_eq_getElem_cons hlt
    obtain ⟨q1, q2⟩ := (j1 i H2 hsame).1 ds[i] (List.getElem?_eq_getElem hlt)
    rw [ed] at e2
    refine .inr ⟨q1, fun σ' H' => ∃ η' M' c', SR X.K X.mg E η' M' c' σ' H' ∧ Ext η1 M1 η' M' ∧ forD g mb (ds.drop (i + 1)) c' = F, fun σ' H' ⟨η', M', c', h1, h2, h3⟩ => ⟨ds.length - (i + 1), by omega, rfl, hlt, η', M', c', h1, h2, h3⟩, fun x H' y => ?_⟩
    unfold forD at e2
    cases e3 : g ds[i] c2 with
    | none => rw [e3] at e2; subst e2; exact gd.elim
    | some c3 =>
      rw [e3] at e2
      dsimp only at e2
      -- the item's place
      have item : ∃ M3, SR X.K X.mg E η2 M3 c2 σ2 H' ∧ Ext η2 M2 η2 M3 ∧ Rep X.K X.mg η2 M3 x ds[i] := by
        rcases q2 x H' y with ⟨rfl, r⟩ | ⟨p, xs, ts, hp, rfl, rfl, r, ed'⟩
        · exact ⟨M2, s2, .refl, r.mono x2⟩
        · obtain ⟨f1, f2, f3, f4⟩ := s2.free hp
          obtain ⟨s3, x3⟩ := (s2.alloc (o := .tup xs) hp).freeze f1 f2 f3 f4 upd_same
          exact ⟨_, s3, x3, by rw [ed']; exact .tup upd_same (r.mono (x2.trans x3))⟩
      obtain ⟨M3, s3, x3, r3⟩ := item
      refine hg E η2 M3 c2 σ2 H' x ds[i] c3 s3 r3 e3 _ fun σ4 s4 _ _ => ?_
      refine hb E η2 M3 c3 σ4 H' s4 _ ?_
      cases e4 : mb c3 with
      | stuck => rw [e4] at e2; subst e2; exact gd.elim
      | err y c4 => rw [e4] at e2; subst e2; exact Good.ext (x2.trans x3) gd
      | ok fl c4 =>
        rw [e4] at e2
        cases fl with
        | nx => exact fun σ5 η5 M5 H5 s5 x5 => ⟨η5, M5, c4, s5, (x2.trans x3).trans x5, e2⟩
        | ct => exact fun σ5 η5 M5 H5 s5 x5 => ⟨η5, M5, c4, s5, (x2.trans x3).trans x5, e2⟩
        | bk => subst e2; exact fun σ5 η5 M5 H5 s5 x5 => gd σ5 η5 M5 H5 s5 ((x2.trans x3).trans x5)
        | rt r => subst e2; exact fun v σ5 η5 M5 H5 s5 x5 z5 => gd v σ5 η5 M5 H5 s5 ((x2.trans x3).trans x5) z5
  · have e : i = ds.length := by omega
    subst e
    rw [List.drop_length] at e2
    subst e2
    exact .inl ⟨(j1 _ H2 hsame).2 (Nat.le_refl _), gd σ2 η2 M2 H2 s2 x2⟩
def whD (t : Cf → Res Bool) (body : Sm) : Nat → Cf → Res Fl
  | 0, _ => .stuck
  | n + 1, c => match t c with
    | .stuck => .stuck
    | .err x c1 => .err x c1
    | .ok false c1 => .ok .nx c1
    | .ok true c1 => match body c1 with
      | .ok .nx c2 => whD t body n c2
      | .ok .ct c2 => whD t body n c2
      | .ok .bk c2 => .ok .nx c2
      | r => r
def sWh (n : Nat) (t : Cf → Res Bool) (body : Sm) : Sm := fun c => whD t body n c
theorem sx_while {cd : Expr} {body : List Stmt} {t : Cf → Res Bool} {mb : Sm} (n : Nat) (hp : PassesOwn (model X.prog X.w) X.A X.env X.xe) (ht : Tx X cd t) (hb : Bx X body mb) : Sx X (.While cd body [] pos) (sWh n t mb) := by
  refine ⟨fun E η M c σ H s Z gd => ?_⟩
  refine ps_ws (ps_while hp wt_pt wss_pss) ?_
  generalize hF : sWh n t mb c = F at gd
  refine ⟨fun m σ' H' => ∃ η' M' c', SR X.K X.mg E η' M' c' σ' H' ∧ Ext η M η' M' ∧ whD t mb m c' = F, ⟨n, η, M, c, s, .refl, hF⟩, ?_⟩
  rintro m σ2 H2 ⟨η2, M2, c2, s2, x2, e2⟩
  cases m with
  | zero => unfold whD at e2; subst e2; exact gd.elim
  | succ m =>
    unfold whD at e2
    have o := ht E η2 M2 c2 σ2 H2 s2
    cases e3 : t c2 with
    | stuck => rw [e3] at e2; subst e2; exact gd.elim
    | err y c3 =>
      rw [e3] at e2 o; subst e2
      obtain ⟨W, tk, gd⟩ := gd
      exact o W _ tk fun cls d η4 M4 H4 s4 x4 z4 => gd cls d σ2 η4 M4 H4 s4 (x2.trans x4) z4
    | ok b c3 =>
      rw [e3] at e2 o
      refine o _ fun b' η4 M4 H4 s4 x4 z4 => ?_
      cases z4
      cases b with
      | false => subst e2; exact (show (if false = true then _ else _) from by rw [if_neg Bool.false_ne_true]; exact gd σ2 η4 M4 H4 s4 (x2.trans x4))
      | true =>
        rw [if_pos rfl]
        refine ⟨fun σ' H' => ∃ η' M' c', SR X.K X.mg E η' M' c' σ' H' ∧ Ext η M η' M' ∧ whD t mb m c' = F, fun σ' H' q => ⟨m, Nat.lt_succ_self m, q⟩, ?_⟩
        refine hb E η4 M4 c3 σ2 H4 s4 _ ?_
        dsimp only at e2
        cases e4 : mb c3 with
        | stuck => rw [e4] at e2; subst e2; exact gd.elim
        | err y c4 => rw [e4] at e2; subst e2; exact Good.ext (x2.trans x4) gd
        | ok fl c4 =>
          rw [e4] at e2
          cases fl with
          | nx => exact fun σ5 η5 M5 H5 s5 x5 => ⟨η5, M5, c4, s5, (x2.trans x4).trans x5, e2⟩
          | ct => exact fun σ5 η5 M5 H5 s5 x5 => ⟨η5, M5, c4, s5, (x2.trans x4).trans x5, e2⟩
          | bk => subst e2; exact fun σ5 η5 M5 H5 s5 x5 => gd σ5 η5 M5 H5 s5 ((x2.trans x4).trans x5)
          | rt r => subst e2; exact fun v σ5 η5 M5 H5 s5 x5 z5 => gd v σ5 η5 M5 H5 s5 ((x2.trans x4).trans x5) z5
end
end LH
/-! LHCall: comprehensions, calls of defs, defs. -/
namespace LH
open PySem PySem.Spec PyProof.Rows L2

def wipeR (ρ : List Sl) : List Nat → List Sl
  | [] => ρ
  | v :: vs => (wipeR ρ vs).set v .un
def restR (ρ0 ρ : List Sl) : List Nat → List Sl
  | [] => ρ
  | v :: vs => (restR ρ0 ρ vs).set v (ρ0.getD v .un)
def noOw (ρ : List Sl) (vs : List Nat) : Bool := vs.all fun v => match ρ.getD v .un with
  | .ow _ => false
  | _ => true
theorem wipeR_length (ρ : List Sl) : ∀ vs, (wipeR ρ vs).length = ρ.length
  | [] => rfl
  | v :: vs => by unfold wipeR; rw [List.length_set, wipeR_length ρ vs]
theorem restR_length (ρ0 ρ : List Sl) : ∀ vs, (restR ρ0 ρ vs).length = ρ.length
  | [] => rfl
  | v :: vs => by unfold restR; rw [List.length_set, restR_length ρ0 ρ vs]
theorem wipeR_get {ρ : List Sl} {i : Nat} {s : Sl} : ∀ {vs : List Nat}, (wipeR ρ vs)[i]? = some s → (i ∈ vs ∧ s = .un) ∨ (i ∉ vs ∧ ρ[i]? = some s)
  | [], h => .inr ⟨by simp, h⟩
  | v :: vs, h => by
    unfold wipeR at h
    by_cases hv : v = i
    · subst hv
      by_cases hl : v < (wipeR ρ vs).length
      · rw [List.getElem?_set_self hl] at h; cases h
        exact .inl ⟨List.mem_cons_self, rfl⟩
      · rw [List.getElem?_eq_none (by simpa using hl)] at h; cases h
    · rw [List.getElem?_set_ne hv] at h
      rcases wipeR_get h with ⟨h1, h2⟩ | ⟨h1, h2⟩
      · exact .inl ⟨List.mem_cons_of_mem _ h1, h2⟩
      · exact .inr ⟨by simp only [List.mem_cons, not_or]; exact ⟨fun z => hv z.symm, h1⟩, h2⟩
theorem restR_get {ρ0 ρ : List Sl} {i : Nat} {s : Sl} : ∀ {vs : List Nat}, (restR ρ0 ρ vs)[i]? = some s → (i ∈ vs ∧ s = ρ0.getD i .un) ∨ (i ∉ vs ∧ ρ[i]? = some s)
  | [], h => .inr ⟨by simp, h⟩
  | v :: vs, h => by
    unfold restR at h
    by_cases hv : v = i
    · subst hv
      by_cases hl : v < (restR ρ0 ρ vs).length
      · rw [List.getElem?_set_self hl] at h; cases h
        exact .inl ⟨List.mem_cons_self, rfl⟩
      · rw [List.getElem?_eq_none (by simpa using hl)] at h; cases h
    · rw [List.getElem?_set_ne hv] at h
      rcases restR_get h with ⟨h1, h2⟩ | ⟨h1, h2⟩
      · exact .inl ⟨List.mem_cons_of_mem _ h1, h2⟩
      · exact .inr ⟨by simp only [List.mem_cons, not_or]; exact ⟨fun z => hv z.symm, h1⟩, h2⟩
theorem wipe_out {σ : St} {i : Nat} : ∀ {vs : List Nat}, i ∉ vs → (wipe σ vs)[i]? = σ[i]?
  | [], _ => rfl
  | v :: vs, h => by
    unfold wipe
    rw [List.getElem?_set_ne fun z => h (by rw [z]; exact List.mem_cons_self), wipe_out fun z => h (List.mem_cons_of_mem _ z)]
theorem wipe_in {σ : St} {i : Nat} : ∀ {vs : List Nat}, i ∈ vs → i < σ.length → (wipe σ vs)[i]? = some none
  | v :: vs, h, hl => by
    unfold wipe
    by_cases hv : v = i
    · subst hv
      rw [List.getElem?_set_self (by rw [wipe_length]; exact hl)]
    · rw [List.getElem?_set_ne hv]
      rcases List.mem_cons.mp h with z | z
      · exact absurd z.symm hv
      · exact wipe_in z hl
theorem wipe_eq {σ σ' : St} {vs : List Nat} (hl : σ'.length = σ.length) (h : ∀ j, j ∉ vs → σ'[j]? = σ[j]?) : wipe σ' vs = wipe σ vs := by
  apply List.ext_getElem?
  intro i
  by_cases hi : i ∈ vs
  · by_cases hlt : i < σ.length
    · rw [wipe_in hi hlt, wipe_in hi (by rw [hl]; exact hlt)]
    · rw [List.getElem?_eq_none (by rw [wipe_length, hl]; omega), List.getElem?_eq_none (by rw [wipe_length]; omega)]
  · rw [wipe_out hi, wipe_out hi, h i hi]
section
variable {K : Fg} {mg : Mg} {E : En} {η η' : List Addr} {M M' H H' : Hp} {c c' : Cf} {σ σ' : St}
/-- slots are forgotten -/
theorem SR.less (s : SR K mg E η M c σ H) {ρ' : List Sl} {σ' : St} (hl : σ'.length = ρ'.length) (h : ∀ (i : Nat) (t : Sl), ρ'[i]? = some t → t = .un ∨ (c.ρ[i]? = some t ∧ σ'[i]? = σ[i]?)) : SR K mg E η M { c with ρ := ρ' } σ' H := by
  refine ⟨s.sub, hl, fun i t e => ?_, fun i j a d d' e1 e2 e3 e4 => ?_, s.hlen, s.hdl, s.hnd, s.fr, s.pre, s.new, s.m0, s.mn⟩
  · rcases h i t e with rfl | ⟨h1, h2⟩
    · trivial
    · rw [h2]; exact s.slot i t h1
  · rcases h i _ e1 with z | ⟨h1, h2⟩
    · cases z
    · rcases h j _ e2 with z | ⟨h3, h4⟩
      · cases z
      · rw [h2] at e3; rw [h4] at e4
        exact s.inj i j a d d' h1 h3 e3 e4
theorem SR.wipe (s : SR K mg E η M c σ H) (vs : List Nat) : SR K mg E η M { c with ρ := wipeR c.ρ vs } (L2.wipe σ vs) H := by
  refine s.less (by rw [wipe_length, wipeR_length, s.len]) fun i t e => ?_
  rcases wipeR_get e with ⟨_, h⟩ | ⟨h1, h2⟩
  · exact .inl h
  · exact .inr ⟨h2, wipe_out h1⟩
/-- behind a block: its own names are as they were ahead of it -/
theorem SR.restore {c0 : Cf} {H0 M0 : Hp} {η0 : List Addr} {vs : List Nat} (s0 : SR K mg E η0 M0 c0 σ H0) (x : Ext η0 M0 η M) (no : noOw c0.ρ vs = true) (s : SR K mg E η M { c with ρ := wipeR c.ρ vs } (L2.wipe σ vs) H) :
    SR K mg E η M { c with ρ := restR c0.ρ c.ρ vs } σ H := by
  have hlen : c.ρ.length = σ.length := by
    have := s.len
    rw [wipe_length] at this
    rw [this]
    exact (wipeR_length _ _).symm
  have nown : ∀ {i : Nat} {d : D}, i ∈ vs → c0.ρ.getD i .un ≠ .ow d := fun {i d} hi z => by
    have := List.all_eq_true.mp no i hi
    rw [z] at this
    cases this
  have out : ∀ {i : Nat} {t : Sl}, i ∉ vs → c.ρ[i]? = some t → (wipeR c.ρ vs)[i]? = some t := fun {i t} hi e => by
    have hl : i < (wipeR c.ρ vs).length := by rw [wipeR_length]; exact (List.getElem?_eq_some_iff.mp e).1
    rcases wipeR_get (List.getElem?_eq_getElem hl) with ⟨h, _⟩ | ⟨_, h⟩
    · exact absurd h hi
    · rw [List.getElem?_eq_getElem hl]
      rw [e] at h
      exact h.symm
  refine ⟨s.sub, by rw [restR_length, hlen], fun i t e => ?_, fun i j a d d' e1 e2 e3 e4 => ?_, s.hlen, s.hdl, s.hnd, s.fr, s.pre, s.new, s.m0, s.mn⟩
  · rcases restR_get e with ⟨h1, h2⟩ | ⟨h1, h2⟩
    · cases q : c0.ρ[i]? with
      | none =>
        have : t = .un := by rw [h2]; simp [q]
        subst this; trivial
      | some u =>
        have hu : t = u := by rw [h2]; simp [q]
        subst hu
        have ok := s0.slot i t q
        cases t with
        | un => trivial
        | fz d => obtain ⟨v, e1, r⟩ := ok; exact ⟨v, e1, r.mono x⟩
        | ow d => exact absurd h2.symm (nown h1)
    · have ok := s.slot i t (out h1 h2)
      rw [wipe_out h1] at ok
      exact ok
  · rcases restR_get e1 with ⟨h1, h2⟩ | ⟨h1, h2⟩
    · exact absurd h2.symm (nown h1)
    · rcases restR_get e2 with ⟨h3, h4⟩ | ⟨h3, h4⟩
      · exact absurd h4.symm (nown h3)
      · exact s.inj i j a d d' (out h1 h2) (out h3 h4) (by rw [wipe_out h1]; exact e3) (by rw [wipe_out h3]; exact e4)
/-- a temporary is written -/
theorem SR.writeTmp (s : SR K mg E η M c σ H) {a : Addr} {o : HO} (h1 : M a = none) (h2 : E.H a = none) (h3 : a ∉ η) (h4 : ¬ Own c σ a) : SR K mg E η M c σ (upd H a o) := by
  refine ⟨fun b u e => by rw [upd_ne (ne_of_none e h1)]; exact s.sub b u e, s.len, fun i t e => ?_, s.inj, s.hlen, fun n b d e1 e2 => ?_, s.hnd, fun b u e n => by rw [upd_ne (ne_of_none e h2)]; exact s.fr b u e n, s.pre, s.new, s.m0, s.mn⟩
  · have q := s.slot i t e
    cases t with
    | un => trivial
    | fz d => exact q
    | ow d =>
      obtain ⟨b, q1, q2, q3, q4, q5⟩ := q
      have hb : b ≠ a := fun z => h4 ⟨i, d, e, by rw [q1, z]⟩
      exact ⟨b, q1, q2, q3, q4, q5.mono .refl fun u z => by rw [upd_ne hb]; exact z⟩
  · obtain ⟨z1, z2⟩ := s.hdl n b d e1 e2
    have hb : b ≠ a := fun z => h3 (z ▸ List.mem_of_getElem? e1)
    exact ⟨z1, z2.mono .refl fun u z => by rw [upd_ne hb]; exact z⟩
end

/-! ### comprehensions -/
def compD (g : D → Cf → Option Cf) (t : Cf → Res Bool) (me : Em) (vs : List Nat) : List D → List D → Cf → Option (List D × Cf)
  | [], acc, c => some (acc, c)
  | d :: ds, acc, c => match g d { c with ρ := wipeR c.ρ vs } with
    | none => none
    | some c1 => match t c1 with
      | .ok false c2 => compD g t me vs ds acc c2
      | .ok true c2 => match me c2 with
        | .ok r c3 => match toVal c3 r with
          | some (v, c4) => if acc.length < sizeLine then compD g t me vs ds (acc ++ [v]) c4 else none
          | none => none
        | _ => none
      | _ => none
def mComp (vs : List Nat) (mi : Cf → Res (List D)) (g : D → Cf → Option Cf) (t : Cf → Res Bool) (me : Em) : Em := fun c => (mi c).bind fun ds c1 =>
  if noOw c1.ρ vs then match compD g t me vs ds [] c1 with
    | some (acc, c2) => .ok (.nw (.lst acc)) { c2 with ρ := restR c1.ρ c2.ρ vs }
    | none => .stuck
  else .stuck
def tmYes : Cf → Res Bool := fun c => .ok true c
section
variable {X : Cx} {E : En} {η η' : List Addr} {M M' H H' : Hp} {c c' : Cf} {σ σ' : St} {e tg it elt : Expr} {es ts ifs : List Expr} {me : Em} {ms : List Em} {pos tpos epos : Pos}
/-- the block's readings, whatever the block -/
abbrev blkC (X : Cx) (scope : Scope) (s : Shared) (H : Hp) (C : Addr) (cl : List (Str × Addr)) (fp : List Addr) : Cx := X.blk s H scope (compEnvC scope cl C X.env) fp
def Web (X : Cx) (scope : Scope) (e : Expr) : TE := fun σ H Q => ∀ s Hb C cl fp, We (blkC X scope s Hb C cl fp) e σ H Q
def Wgb (X : Cx) (scope : Scope) (tg : Expr) : TG := fun v σ H Q => ∀ s Hb C cl fp, Wg (blkC X scope s Hb C cl fp) tg v σ H Q
def Wts (X : Cx) (ifs : List Expr) : TT := fun σ H Q => ∀ pins s, Inv X pins σ H s →
    wpAny (model X.prog X.w) X.A (forIn ifs true fun c r => if r = true then do let ok ← isTrue c X.env (eval c X.env); pure (ForInStep.yield ok) else pure (ForInStep.yield r)) (TP X pins σ Q) X.xe s
theorem wts_pts {ifs : List Expr} : PTs X ifs (Wts X ifs) := ⟨fun pins s σ H Q I h => h pins s I⟩
def Wtb (X : Cx) (scope : Scope) (ifs : List Expr) : TT := fun σ H Q => ∀ s Hb C cl fp, Wts (blkC X scope s Hb C cl fp) ifs σ H Q
structure Txs (X : Cx) (ifs : List Expr) (t : Cf → Res Bool) : Prop where
  run : ∀ E η M c σ H, SR X.K X.mg E η M c σ H → Out X RB (Wts X ifs σ H) E η M σ (t c)
instance {X : Cx} {ifs : List Expr} {t : Cf → Res Bool} : CoeFun (Txs X ifs t) (fun _ => ∀ E η M c σ H, SR X.K X.mg E η M c σ H → Out X RB (Wts X ifs σ H) E η M σ (t c)) := ⟨Txs.run⟩
theorem txs_nil : Txs X [] tmYes := ⟨fun E η M c σ H s => out_ok s (fun Q hq pins st I => (pts_nil (X := X)).run pins st σ H Q I hq) rfl⟩
theorem txs_one {t : Cf → Res Bool} (h : Tx X e t) : Txs X [e] t := ⟨fun E η M c σ H s => (h E η M c σ H s).imp (R' := RB) (fun x => x) (fun Q hq pins st I => (pts_one (X := X) wt_pt).run pins st σ H Q I hq) fun _ _ _ _ _ _ _ z => z⟩

theorem comp_core {scope : Scope} {own : List (Str × Nat)} {mi : Cf → Res (List D)} {g : D → Cf → Option Cf} {js : List Nat} {t : Cf → Res Bool} {tw : VK → Prop}
    (hi : Ix X tg it mi) (hg : ∀ s Hb C cl fp, Tgt (blkC X scope s Hb C cl fp) tg g js) (hj : ∀ j ∈ js, j ∈ own.map (·.2)) (ht : ∀ s Hb C cl fp, Txs (blkC X scope s Hb C cl fp) ifs t)
    (he : ∀ s Hb C cl fp, Ex (blkC X scope s Hb C cl fp) elt me) (s : SR X.K X.mg E η M c σ H)
    (imp : ∀ Q, tLc (Wi X tg it) (Wgb X scope tg) (Wtb X scope ifs) (Web X scope elt) (own.map (·.2)) σ H Q → tw Q) : Out X (RV X.K X.mg) tw E η M σ (mComp (own.map (·.2)) mi g t me c) := by
  generalize hvs : own.map (·.2) = vs at hj imp
  refine Out.bind (fun (J : It) H1 (Q : VK) => ∀ Dn, H1 Dn = none → ∃ W : Nat → Nat → Hp → Prop, (∃ m, W 0 m (upd H1 Dn (.lst []))) ∧ ∀ i m H, W i m H →
    (J.stop i H ∧ Q (.ref Dn) H) ∨ (J.go i H ∧ ∃ Nx : Hp → Prop, (∀ H', Nx H' → ∃ m', m' < m ∧ W (i + 1) m' H') ∧ ∀ x H', J.yld i H x H' → Wgb X scope tg x (L2.wipe σ vs) H' fun σ2 H2 => L2.wipe σ2 vs = L2.wipe σ vs ∧ Wtb X scope ifs σ2 H2 fun b H3 =>
      if b = true then Web X scope elt σ2 H3 fun y H4 => ∃ acc, H4 Dn = some (.lst acc) ∧ acc.length < sizeLine ∧ Nx (upd H4 Dn (.lst (acc ++ [y]))) else Nx H3)) (hi E η M c σ H s) imp fun ds c1 J η1 M1 H1 s1 x1 j1 => ?_
  cases no : noOw c1.ρ vs with
  | false => trivial
  | true =>
    rw [if_pos rfl]
    cases eF : compD g t me vs ds [] c1 with
    | none => trivial
    | some q =>
      obtain ⟨accF, cF⟩ := q
      refine fun Q hQ Dn hDn => ?_
      have hj1 : JOk X.K X.mg η1 M1 J ds := j1
      obtain ⟨f1, f2, f3, f4⟩ := s1.free hDn
      -- the state ahead of turn i
      refine ⟨fun i m H => m = ds.length - i ∧ i ≤ ds.length ∧ ∃ η M c xs acc, SR X.K X.mg E η M { c with ρ := wipeR c.ρ vs } (L2.wipe σ vs) H ∧ Ext η1 M1 η M ∧ H Dn = some (.lst xs) ∧ RepL X.K X.mg η M xs acc ∧
        M Dn = none ∧ Dn ∉ η ∧ ¬ Own { c with ρ := wipeR c.ρ vs } (L2.wipe σ vs) Dn ∧ compD g t me vs (ds.drop i) acc c = some (accF, cF),
        ⟨_, rfl, Nat.zero_le _, η1, M1, c1, [], [], (s1.wipe vs).alloc hDn, .refl, upd_same, .nil, f1, f3, fun z => ((s1.wipe vs).free hDn).2.2.2 z, eF⟩, ?_⟩
      rintro i m H2 ⟨rfl, hi2, η2, M2, c2, xs, acc, s2, x2, hD2, hr2, hM2, hn2, ho2, e2⟩
      have hsame : Same M1 H2 := x2.m.trans s2.sub
      by_cases hlt : i < ds.length
      · have ed : ds.drop i = ds[i] :: ds.drop (i + 1) := List.drop_eq_getElem_cons hlt
        obtain ⟨q1, q2⟩ := (hj1 i H2 hsame).1 ds[i] (List.getElem?_eq_getElem hlt)
        rw [ed] at e2
        unfold compD at e2
        refine .inr ⟨q1, fun H' => ∃ η M c xs acc, SR X.K X.mg E η M { c with ρ := wipeR c.ρ vs } (L2.wipe σ vs) H' ∧ Ext η1 M1 η M ∧ H' Dn = some (.lst xs) ∧ RepL X.K X.mg η M xs acc ∧
          M Dn = none ∧ Dn ∉ η ∧ ¬ Own { c with ρ := wipeR c.ρ vs } (L2.wipe σ vs) Dn ∧ compD g t me vs (ds.drop (i + 1)) acc c = some (accF, cF),
          fun H' h => ⟨ds.length - (i + 1), by omega, rfl, hlt, h⟩, fun x H' y => ?_⟩
        cases e3 : g ds[i] { c2 with ρ := wipeR c2.ρ vs } with
        | none => rw [e3] at e2; cases e2
        | some c3 =>
          rw [e3] at e2
          dsimp only at e2
          have t2 := s2.enter
          have item : ∃ M3, SR X.K X.mg ⟨mask { c2 with ρ := wipeR c2.ρ vs } (L2.wipe σ vs) H2, η2, M2⟩ η2 M3 { c2 with ρ := wipeR c2.ρ vs } (L2.wipe σ vs) H' ∧ Ext η2 M2 η2 M3 ∧ Rep X.K X.mg η2 M3 x ds[i] := by
            rcases q2 x H' y with ⟨rfl, r⟩ | ⟨p, ys, ts, hp, rfl, rfl, r, ed'⟩
            · exact ⟨M2, t2, .refl, r.mono x2⟩
            · obtain ⟨g1, g2, g3, g4⟩ := t2.free hp
              obtain ⟨s3, x3⟩ := (t2.alloc (o := .tup ys) hp).freeze g1 g2 g3 g4 upd_same
              exact ⟨_, s3, x3, by rw [ed']; exact .tup upd_same (r.mono (x2.trans x3))⟩
          obtain ⟨M3, s3, x3, r3⟩ := item
          intro bs bH bC bcl bfp
          refine hg bs bH bC bcl bfp _ η2 M3 _ _ H' x ds[i] c3 s3 r3 e3 _ fun σ4 s4 k4 l4 => ?_
          have hw : L2.wipe σ4 vs = L2.wipe σ vs := by
            have h1 : L2.wipe σ4 vs = L2.wipe (L2.wipe σ vs) vs := wipe_eq l4 fun j hjn => k4 j fun z => hjn (hj j z)
            have h2 : L2.wipe (L2.wipe σ vs) vs = L2.wipe σ vs := wipe_eq (wipe_length _ _) fun j hjn => wipe_out hjn
            rw [h1, h2]
          refine ⟨hw, fun ts tH tC tcl tfp => ?_⟩
          -- the end of a turn
          have fin : ∀ {η5 : List Addr} {M5 H5 : Hp} {c5 : Cf}, SR X.K X.mg ⟨mask { c2 with ρ := wipeR c2.ρ vs } (L2.wipe σ vs) H2, η2, M2⟩ η5 M5 c5 σ4 H5 → Ext η2 M2 η5 M5 →
              SR X.K X.mg E η5 M5 { c5 with ρ := wipeR c5.ρ vs } (L2.wipe σ vs) H5 ∧ H5 Dn = some (.lst xs) ∧ M5 Dn = none ∧ Dn ∉ η5 ∧ ¬ Own { c5 with ρ := wipeR c5.ρ vs } (L2.wipe σ vs) Dn := fun {η5 M5 H5 c5} s5 x5 => by
            obtain ⟨s6, fr⟩ := s2.leave s5
            obtain ⟨k1, k2⟩ := SR.leave_own s5 hD2 hn2 ho2
            have s7 := s6.wipe vs
            rw [hw] at s7
            refine ⟨s7, fr.h Dn _ hD2 hn2 ho2, fr.m Dn _ hD2 ho2 hM2, k2, fun ⟨j, d, o1, o2⟩ => ?_⟩
            rcases wipeR_get o1 with ⟨_, z⟩ | ⟨z1, z2⟩
            · cases z
            · rw [← hw, wipe_out z1] at o2
              exact k1 ⟨j, d, z2, o2⟩
          have o := ht ts tH tC tcl tfp _ η2 M3 c3 σ4 H' s4
          cases e4 : t c3 with
          | stuck => rw [e4] at e2; cases e2
          | err w c4 => rw [e4] at e2; cases e2
          | ok b c4 =>
            rw [e4] at e2 o
            refine o _ fun b' η5 M5 H5 s5 x5 z5 => ?_
            cases z5
            cases b with
            | false =>
              rw [if_neg Bool.false_ne_true]
              obtain ⟨g1, g2, g3, g4, g5⟩ := fin s5 (x3.trans x5)
              exact ⟨η5, M5, c4, xs, acc, g1, x2.trans (x3.trans x5), g2, hr2.mono (x3.trans x5), g3, g4, g5, e2⟩
            | true =>
              rw [if_pos rfl]
              intro es eH eC ecl efp
              have oe := he es eH eC ecl efp _ η5 M5 c4 σ4 H5 s5
              dsimp only at e2
              cases e6 : me c4 with
              | stuck => rw [e6] at e2; cases e2
              | err w c6 => rw [e6] at e2; cases e2
              | ok r c6 =>
                rw [e6] at e2 oe
                dsimp only at e2
                cases e7 : toVal c6 r with
                | none => rw [e7] at e2; cases e2
                | some pq =>
                  obtain ⟨d7, c7⟩ := pq
                  rw [e7] at e2
                  dsimp only at e2
                  by_cases hz : acc.length < sizeLine
                  · rw [if_pos hz] at e2
                    refine oe _ fun v η6 M6 H6 s6 x6 z6 => ?_
                    obtain ⟨M7, s7, x7, r7⟩ := toVal_ok s6 z6 e7
                    have x8 := x3.trans (x5.trans (x6.trans x7))
                    obtain ⟨g1, g2, g3, g4, g5⟩ := fin s7 x8
                    refine ⟨xs, g2, by rw [hr2.length]; exact hz, η6, M7, c7, xs ++ [v], acc ++ [d7], ?_, x2.trans x8, upd_same, (hr2.mono x8).append (.cons r7 .nil), g3, g4, g5, e2⟩
                    exact g1.writeTmp g3 f2 g4 g5
                  · rw [if_neg hz] at e2; cases e2
      · have e : i = ds.length := by omega
        subst e
        rw [List.drop_length] at e2
        cases e2
        refine .inl ⟨(hj1 _ H2 hsame).2 (Nat.le_refl _), hQ _ η2 M2 H2 (s1.restore x2 no s2) x2 ⟨Dn, rfl, hM2, f2, hn2, fun ⟨j, d, o1, o2⟩ => ?_, xs, hD2, hr2⟩⟩
        rcases restR_get o1 with ⟨z1, z2⟩ | ⟨z1, z2⟩
        · have := List.all_eq_true.mp no j z1
          rw [← z2] at this; cases this
        · refine ho2 ⟨j, d, ?_, by rw [wipe_out z1]; exact o2⟩
          have hl : j < (wipeR cF.ρ vs).length := by rw [wipeR_length]; exact (List.getElem?_eq_some_iff.mp z2).1
          rcases wipeR_get (List.getElem?_eq_getElem hl) with ⟨h, _⟩ | ⟨_, h⟩
          · exact absurd h z1
          · show (wipeR cF.ρ vs)[j]? = _
            rw [List.getElem?_eq_getElem hl]
            rw [z2] at h
            exact h.symm
theorem ex_comp {scope : Scope} (own : List (Str × Nat)) {mi : Cf → Res (List D)} {g : D → Cf → Option Cf} {js : List Nat} {t : Cf → Res Bool} (hc : X.calm = true) (hN : X.N.Nodup) (ok : BlkOk X.N X.env.scope scope own)
    (hi : Ix X tg it mi) (hg : ∀ s Hb C cl fp, Tgt (blkC X scope s Hb C cl fp) tg g js) (ht : ∀ s Hb C cl fp, Txs (blkC X scope s Hb C cl fp) ifs t) (he : ∀ s Hb C cl fp, Ex (blkC X scope s Hb C cl fp) elt me)
    (hj : ∀ j ∈ js, j ∈ own.map (·.2) := by decide) (hs : ∀ x, foldedSetIterable it X.env x = pure x := by intro _; rfl) : Ex X (.ListComp elt [⟨tg, it, ifs, 0⟩] scope pos) (mComp (own.map (·.2)) mi g t me) := by
  refine ⟨fun E η M c σ H s => ?_⟩
  refine comp_core hi hg hj ht he s fun Q hq => pe_we (pe_lc hc hN wi_pi ok (fun s H C cl fp => ⟨fun pins st σ H v u Q I r h => h s _ C cl fp pins st u I r⟩) (fun s H C cl fp => ⟨fun pins st σ H Q I h => h s _ C cl fp pins st I⟩) (fun s H C cl fp => ⟨fun pins st σ H Q I h => h s _ C cl fp pins st I⟩) hs) hq
def CompR (X : Cx) (tg it : Expr) (ifs : List Expr) (elt : Expr) (scope : Scope) (own : List (Str × Nat)) (σ : St) (H : Hp) (Q : VK) : Prop := tLc (Wi X tg it) (Wgb X scope tg) (Wtb X scope ifs) (Web X scope elt) (own.map (·.2)) σ H Q
/-- y = [..] on one line, y a local -/
theorem sx_setComp {scope : Scope} (i : Nat) (own : List (Str × Nat)) {y : Str} {py spos : Pos} {mi : Cf → Res (List D)} {g : D → Cf → Option Cf} {js : List Nat} {t : Cf → Res Bool} (hc : X.calm = true) (hN : X.N.Nodup) (ok : BlkOk X.N X.env.scope scope own)
    (hi : Ix X tg it mi) (hg : ∀ s Hb C cl fp, Tgt (blkC X scope s Hb C cl fp) tg g js) (ht : ∀ s Hb C cl fp, Txs (blkC X scope s Hb C cl fp) ifs t) (he : ∀ s Hb C cl fp, Ex (blkC X scope s Hb C cl fp) elt me)
    (hsw : swapsWith (.ListComp elt [⟨tg, it, ifs, 0⟩] scope pos) (some (.Name y py)) spos.line X.env = pure true)
    (hy : X.N[i]? = some y := by rfl) (hyl : X.env.scope.names.lookup y = some .local := by rfl) (hj : ∀ j ∈ js, j ∈ own.map (·.2) := by decide) (hs : ∀ x, foldedSetIterable it X.env x = pure x := by intro _; rfl) :
    Sx X (.Assign [.Name y py] (.ListComp elt [⟨tg, it, ifs, 0⟩] scope pos) spos) (sSet i (mComp (own.map (·.2)) mi g t me)) := by
  refine ⟨fun E η M c σ H s => ?_⟩
  have key : Out X (RV X.K X.mg) (CompR X tg it ifs elt scope own σ H) E η M σ (mComp (own.map (·.2)) mi g t me c) := comp_core hi hg hj ht he s fun Q hq => hq
  refine out_put key fun Z hq => ?_
  have hq : tAsg (tLc (Wi X tg it) (Wgb X scope tg) (Wtb X scope ifs) (Web X scope elt) (own.map (·.2))) (gName i) Z σ H := hq
  exact ps_ws (ps_setLc hc hN hy hyl hsw wi_pi ok (fun s H C cl fp => ⟨fun pins st σ H v u Q I r h => h s _ C cl fp pins st u I r⟩) (fun s H C cl fp => ⟨fun pins st σ H Q I h => h s _ C cl fp pins st I⟩) (fun s H C cl fp => ⟨fun pins st σ H Q I h => h s _ C cl fp pins st I⟩) hs) hq
end

/-! ### rooms and promises at a known stack of displays -/
structure RmG (k : Nat) (A : Around) : Prop where
  rm : Room k A
  gd : A.guards = some []
theorem RmG.mono {j k : Nat} {A : Around} (r : RmG k A) (h : j ≤ k) : RmG j A := ⟨r.rm.mono h, r.gd⟩
theorem RmG.deeper {k : Nat} {A : Around} (r : RmG (k + 1) A) (env : Env) : RmG k (A.deeper env) := ⟨r.rm.deeper env, r.gd⟩
/-- as FnOk, at a known stack of displays -/
structure FnG (P : Program) (w : World) (K : Fg) (mg : Mg) (base : Heap) (CX : CXT) (k : Nat) (f : Addr) (fd : FuncData) (ps : List Str) (sp : Sp) : Prop where
  len : ∀ vs H Q E, sp vs H Q E → vs.length = ps.length
  run : ∀ (A : Around) (outer : List Env) (s : Shared) (H : Hp) (args : Args) (us : List Value) (vs : List V) (Q : VK) (E : XK), RmG k A → Env0 P w K mg base A outer s H → BindsTo s fd args (ps.zip us) → Vals vs us → sp vs H Q E →
    codeAny (model P w) A (.call (.ref f) args) (CR CX outer P w H s Q E) s
theorem FnG.mono {P : Program} {w : World} {K : Fg} {mg : Mg} {base : Heap} {CX : CXT} {j k : Nat} {f : Addr} {fd : FuncData} {ps : List Str} {sp : Sp} (F : FnG P w K mg base CX j f fd ps sp) (h : j ≤ k) : FnG P w K mg base CX k f fd ps sp :=
  ⟨F.len, fun A outer s H args us vs Q E hr => F.run A outer s H args us vs Q E (hr.mono h)⟩
/-- the callee runs; what it lets out passes at these slots -/
theorem runG {X : Cx} {CX : CXT} {k : Nat} {f : Addr} {fd : FuncData} {ps : List Str} {ds : List Value} {dvs : List V} {sp : Sp} {E : XK} {pins : List (Addr × Obj)} {σ : St} {H : Hp} {s : Shared} {Q : VK} {us : List Value} {vs : List V} (F : FnG X.prog X.w X.K X.mg X.base CX k f fd ps sp) (hr : RmG k X.A)
    (hb : Binds X.K fd ps ds) (hd : Vals dvs ds) (hx : PassesAt CX X σ E) (I : Inv X pins σ H s) (r : Vals vs us) (h : sp (vs ++ dvs) H Q E) : wpAny (model X.prog X.w) X.A (call (.ref f) us) (EP X pins σ Q) X.xe s := by
  have r2 := r.append hd
  have hl : (us ++ ds).length = ps.length := by rw [← r2.length]; exact F.len _ _ _ _ h
  refine wpAny_call (codeAny_mono (F.run X.A X.stack s H ⟨us, []⟩ (us ++ ds) (vs ++ dvs) Q E hr I.env0 (hb s us I.kIn hl) r2 h) fun o s' hq => ?_)
  match o, hq with
  | .error e, hq => exact hx pins H s e s' I hq
  | .ok (.ret u), hq => exact I.after hq
/-- a def of the text, by its body -/
theorem fnG_of {P : Program} {w : World} {K : Fg} {mg : Mg} {base : Heap} {x qual : Str} {st : Stmt} {f : Addr} {fd : FuncData} {N ps : List Str} {k : Nat} {sp : Sp} (F : Fun K x qual st f fd) (S : FnScope N ps (defScope st)) (len : ∀ vs H Q E, sp vs H Q E → vs.length = ps.length)
    (hbody : ∀ (cdv : Value) (A : Around) (outer : List Env) (s : Shared) (H : Hp) (vs : List V) (Q : VK) (E : XK), RmG k (A.deeper (envOfC qual (defScope st) s.heap.objs.size f cdv)) → sp vs H Q E →
      ∃ t, PSs (cxOf (L2.CX P w) P w K mg base N qual (defScope st) f cdv A outer s H E) (defBody st) t ∧ t { nx := fun _ H' => Q .non H', rt := Q } (start N vs) H) : FnG P w K mg base (L2.CX P w) (k + 1) f fd ps sp := by
  obtain ⟨oc, od, kV, doc, pm, an, cdv, ct, osl, rfl, lk, hcd⟩ := F.ex
  refine ⟨len, fun A outer s H args us vs Q E hr e0 hb r hsp => ?_⟩
  have hl := len _ _ _ _ hsp
  have keep : ∀ b o, base.get? b = some o → s.heap.get? b = some o := fun b o e => (e0.bs b o e).1
  have KX : K.In s.heap := e0.mod.kin.keeps keep
  have lim : s.heap.NoLimit := e0.mod.nolimit.keeps keep
  have hkind : ∀ y ∈ ps.zip us, (defScope st).names.lookup y.1 = some .local ∨ ((defScope st).names.lookup y.1 = some .cell ∧ ((cellsFrom (s.heap.objs.size + 1) (defScope st).names []).lookup y.1).isSome = true) := fun ⟨n, v⟩ hy => by
    rcases S.par n (List.of_mem_zip hy).1 with q | q
    · exact .inl q
    · exact .inr ⟨q, PySem.W.cellsFrom_some _ _ _ (.inl q)⟩
  refine codeAny_call_function hr.rm.depth (KX _ _ lk) rfl S.co S.gen rfl (PySem.W.codeRec_of KX hcd) (hb _ _ _ _ ?_)
  refine wpAny_newFunctionEnv_cells S.kind hkind fun env he s1 x => ?_
  subst he
  refine ⟨lim.keeps x.toInCall.keep, codeAny_func ?_⟩
  obtain ⟨t, ht, hq⟩ := hbody cdv A outer s H vs Q E (hr.deeper _) hsp
  have I : Inv (cxOf (L2.CX P w) P w K mg base N qual (defScope st) f cdv A outer s H E) [] (start N vs) H s1 := inv_start S hr.rm.hd e0 hl r x
  refine wpAny_mono (ht.run [] s1 (start N vs) H _ I hq) (fun fl s' hs => ?_) fun e s' hs => hs
  have fin : ∀ {σ' : St} {H' : Hp} {v : V} {u : Value}, Inv (cxOf (L2.CX P w) P w K mg base N qual (defScope st) f cdv A outer s H E) [] σ' H' s' → RelV v u → Q v H' → CE outer P w H s Q u s' :=
    fun {σ' H' v u} J rv q => ⟨v, H', J.os, J.bare, J.base, J.hok, rv, q⟩
  cases fl with
  | ret u =>
    obtain ⟨v, σ', H', J, rv, q⟩ := hs
    exact fin J rv q
  | next =>
    obtain ⟨σ', H', J, q⟩ := hs
    exact fin (v := V.non) (u := Value.none) J rfl q
  | brk =>
    obtain ⟨_, _, _, q⟩ := hs
    exact False.elim q
  | cont =>
    obtain ⟨_, _, _, q⟩ := hs
    exact False.elim q

/-! ### defs -/
abbrev Fm := List D → List D → Res Rv
/-- what a def promises: it runs as F -/
def spF (K : Fg) (mg : Mg) (n : Nat) (F : Fm) : Sp := fun vs H Q Ex => vs.length = n ∧ ∃ η M ds S, SR K mg ⟨H, η, M⟩ η M ⟨[], S⟩ [] H ∧ RepL K mg η M vs ds ∧
  match F ds S with
  | .stuck => False
  | .ok r c' => ∀ v η' M' H', SR K mg ⟨H, η, M⟩ η' M' ⟨[], c'.S⟩ [] H' → RvR K mg ⟨H, η, M⟩ η' M' ⟨[], c'.S⟩ [] H' v r → Q v H'
  | .err x c' => ∀ cls d η' M' H', SR K mg ⟨H, η, M⟩ η' M' ⟨[], c'.S⟩ [] H' → XR K mg η' M' cls d x → Ex cls d H'
/-- the value that leaves a def -/
def leaveR (c : Cf) : Rv → Option Rv
  | .fz d => some (.fz d)
  | .nw d => some (.nw d)
  | .loc i => match c.ρ[i]? with
    | some (.ow d) => some (.nw d)
    | some (.fz d) => some (.fz d)
    | _ => none
def runF (nN : Nat) (mb : Sm) : Fm := fun ds S => match mb ⟨ds.map Sl.fz ++ List.replicate (nN - ds.length) .un, S⟩ with
  | .ok .nx c => .ok (.fz .non) ⟨[], c.S⟩
  | .ok (.rt r) c => match leaveR c r with
    | some r' => .ok r' ⟨[], c.S⟩
    | none => .stuck
  | .err x c => .err x ⟨[], c.S⟩
  | _ => .stuck
section
variable {P : Program} {w : World} {K : Fg} {mg : Mg} {base : Heap} {E : En} {η η' : List Addr} {M M' H H' : Hp} {c c' : Cf} {σ σ' : St}
theorem SR.bare (s : SR K mg E η M c σ H) : SR K mg E η M ⟨[], c.S⟩ [] H :=
  ⟨s.sub, rfl, fun i t e => by simp at e, fun i j a d d' e => by simp at e, s.hlen, s.hdl, s.hnd, s.fr, s.pre, s.new, s.m0, s.mn⟩
theorem own_bare {S : List D} {a : Addr} : ¬ Own ⟨[], S⟩ [] a := fun ⟨i, d, e, _⟩ => by simp at e
theorem SR.start {vs : List V} {ds S : List D} (s : SR K mg E η M ⟨[], S⟩ [] H) (r : RepL K mg η M vs ds) (n : Nat) : SR K mg E η M ⟨ds.map Sl.fz ++ List.replicate (n - ds.length) .un, S⟩ (vs.map some ++ List.replicate (n - vs.length) none) H := by
  refine ⟨s.sub, by simp [r.length], fun i t e => ?_, fun i j a d d' e => ?_, s.hlen, s.hdl, s.hnd, s.fr, s.pre, s.new, s.m0, s.mn⟩
  · have e : (ds.map Sl.fz ++ List.replicate (n - ds.length) .un)[i]? = some t := e
    by_cases hi : i < ds.length
    · rw [List.getElem?_append_left (by simpa using hi), List.getElem?_map, List.getElem?_eq_getElem hi] at e
      cases e
      obtain ⟨v, e1, r1⟩ := r.getD' (List.getElem?_eq_getElem hi)
      refine ⟨v, ?_, r1⟩
      rw [List.getElem?_append_left (by simpa [r.length] using hi), List.getElem?_map, e1]
      rfl
    · rw [List.getElem?_append_right (by simpa using hi), List.getElem?_replicate] at e
      split at e
      · cases e; trivial
      · cases e
  · have e : (ds.map Sl.fz ++ List.replicate (n - ds.length) .un)[i]? = some (.ow d) := e
    by_cases hi : i < ds.length
    · rw [List.getElem?_append_left (by simpa using hi), List.getElem?_map, List.getElem?_eq_getElem hi] at e
      cases e
    · rw [List.getElem?_append_right (by simpa using hi), List.getElem?_replicate] at e
      split at e <;> cases e
theorem leaveR_ok {v : V} {r r' : Rv} (s : SR K mg E η M c σ H) (h : RvR K mg E η M c σ H v r) (e : leaveR c r = some r') : RvR K mg E η M ⟨[], c.S⟩ [] H v r' := by
  cases r with
  | fz d => cases e; exact h
  | nw d =>
    cases e
    obtain ⟨a, rfl, h1, h2, h3, h4, h5⟩ := h
    exact ⟨a, rfl, h1, h2, h3, own_bare, h5⟩
  | loc i =>
    unfold leaveR at e
    dsimp only at e
    have h : σ[i]? = some (some v) := h
    cases q : c.ρ[i]? with
    | none => rw [q] at e; cases e
    | some sl =>
      rw [q] at e
      cases sl with
      | un => cases e
      | fz d =>
        cases e
        obtain ⟨w, e1, r1⟩ := s.slot i _ q
        rw [h] at e1; cases e1
        exact r1
      | ow d =>
        cases e
        obtain ⟨a, e1, q1, q2, q3, q4⟩ := s.slot i _ q
        rw [h] at e1; cases e1
        exact ⟨a, rfl, q1, q2, q3, own_bare, q4⟩
/-- THE RULE for a def -/
theorem fn_run {x qual : Str} {st : Stmt} {f : Addr} {fd : FuncData} {N ps : List Str} {k : Nat} {mb : Sm} (F : Fun K x qual st f fd) (S : FnScope N ps (defScope st))
    (hb : ∀ (cdv : Value) (A : Around) (outer : List Env) (s : Shared) (H : Hp) (Ex : XK), RmG k (A.deeper (envOfC qual (defScope st) s.heap.objs.size f cdv)) → Bx (cxOf (L2.CX P w) P w K mg base N qual (defScope st) f cdv A outer s H Ex) (defBody st) mb) :
    FnG P w K mg base (L2.CX P w) (k + 1) f fd ps (spF K mg ps.length (runF N.length mb)) := by
  refine fnG_of F S (fun vs H Q Ex h => h.1) (fun cdv A outer s H vs Q Ex hr h => ?_)
  obtain ⟨hl, η, M, ds, St0, s0, r0, h⟩ := h
  refine ⟨Wss _ (defBody st), wss_pss, ?_⟩
  have s1 := SR.start s0 r0 N.length
  refine hb cdv A outer s H Ex hr _ η M _ _ H s1 _ ?_
  unfold runF at h
  cases e : mb ⟨ds.map Sl.fz ++ List.replicate (N.length - ds.length) .un, St0⟩ with
  | stuck => rw [e] at h; exact h.elim
  | err y c1 =>
    rw [e] at h
    exact ⟨_, takes_of rfl rfl rfl rfl, fun cls d σ' η' M' H' s' x' z' => h cls d η' M' H' s'.bare z'⟩
  | ok fl c1 =>
    rw [e] at h
    cases fl with
    | nx => exact fun σ' η' M' H' s' x' => h .non η' M' H' s'.bare Rep.non
    | bk => exact h.elim
    | ct => exact h.elim
    | rt r =>
      refine fun v σ' η' M' H' s' x' z' => ?_
      dsimp only at h
      cases e2 : leaveR c1 r with
      | none => rw [e2] at h; exact h.elim
      | some r' =>
        rw [e2] at h
        exact h v η' M' H' s'.bare (leaveR_ok (c := c1) s' z' e2)
/-- a def that runs as F, as the module's name x -/
structure Fn (P : Program) (w : World) (K : Fg) (mg : Mg) (base : Heap) (x : Str) (k n : Nat) (F : Fm) : Prop where
  ex : ∃ f fd ps, mg x = some (.ref f) ∧ PySem.W.keepIn K (.ref f) = true ∧ Binds K fd ps [] ∧ FnG P w K mg base (L2.CX P w) k f fd ps (spF K mg n F)
/-- behind a call -/
theorem SR.called {S' : List D} (s : SR K mg E η M c σ H) (t : SR K mg ⟨H, η, M⟩ η' M' ⟨[], S'⟩ [] H') : SR K mg E η' M' ⟨c.ρ, S'⟩ σ H' := by
  have x := t.ext
  have x : Ext η M η' M' := x
  have ek : ∀ {a o}, E.H a = some o → a ∉ E.η → H a = some o ∧ a ∉ η := fun {a o} e n => by
    refine ⟨s.fr a o e n, fun z => ?_⟩
    rcases s.new a z with q | q
    · exact n q
    · rw [q] at e; cases e
  obtain ⟨r, er⟩ := s.pre
  obtain ⟨r', er'⟩ := t.pre
  refine ⟨t.sub, s.len, fun i sl e => ?_, s.inj, t.hlen, t.hdl, t.hnd, fun a o e n => ?_, ⟨r ++ r', by rw [er']; show η ++ r' = _; rw [er, List.append_assoc]⟩, fun a h => ?_, s.m0.trans t.m0, fun a h1 h2 => ?_⟩
  · have q := s.slot i sl e
    cases sl with
    | un => trivial
    | fz d => obtain ⟨v, e1, r1⟩ := q; exact ⟨v, e1, r1.mono x⟩
    | ow d =>
      obtain ⟨a, e1, q1, q2, q3, q4⟩ := q
      obtain ⟨o, ho⟩ := q4.ex
      refine ⟨a, e1, t.mn a q1 (by show H a ≠ none; rw [ho]; simp), q2, fun z => ?_, q4.mono x fun u hu => t.fr a u hu q3⟩
      rcases t.new a z with z | z
      · exact q3 z
      · have z : H a = none := z
        rw [ho] at z; cases z
  · obtain ⟨k1, k2⟩ := ek e n
    exact t.fr a o k1 k2
  · rcases t.new a h with q | q
    · exact s.new a q
    · have q : H a = none := q
      exact .inr (s.free q).2.1
  · refine t.mn a (s.mn a h1 h2) ?_
    show H a ≠ none
    by_cases hb : a ∈ E.η
    · obtain ⟨_, u, eu⟩ := s.hsome (s.ext.mem hb)
      rw [eu]; simp
    · cases qe : E.H a with
      | none => exact absurd qe h2
      | some o => rw [(ek qe hb).1]; simp
theorem RvR.called {S' : List D} {v : V} {r : Rv} (s : SR K mg E η M c σ H) (t : SR K mg ⟨H, η, M⟩ η' M' ⟨[], S'⟩ [] H') (h : RvR K mg ⟨H, η, M⟩ η' M' ⟨[], S'⟩ [] H' v r) : RvR K mg E η' M' ⟨c.ρ, S'⟩ σ H' v r := by
  cases r with
  | fz d => exact h
  | loc i => have h : ([] : St)[i]? = some (some v) := h; simp at h
  | nw d =>
    obtain ⟨a, rfl, h1, h2, h3, h4, h5⟩ := h
    have h2 : H a = none := h2
    obtain ⟨k1, k2, k3, k4⟩ := s.free h2
    exact ⟨a, rfl, h1, k2, h3, k4, h5⟩
end
def mCall (n : Nat) (F : Fm) (ms : Cf → Res (List Rv)) : Em := fun c => (ms c).bind fun rs c1 => match vals c1 rs with
  | some (ds, c2) => if ds.length = n then (match F ds c2.S with
    | .ok r c3 => .ok r ⟨c2.ρ, c3.S⟩
    | .err x c3 => .err x ⟨c2.ρ, c3.S⟩
    | .stuck => .stuck) else .stuck
  | none => .stuck
section
variable {X : Cx} {E : En} {η η' : List Addr} {M M' H H' : Hp} {c c' : Cf} {σ σ' : St} {e : Expr} {es : List Expr} {p pos : Pos} {x : Str}
/-- the call itself -/
theorem out_fn {n : Nat} {F : Fm} {vs : List V} {ds : List D} {tw : VK → Prop} (s : SR X.K X.mg E η M c σ H) (r : RepL X.K X.mg η M vs ds) (hl : vs.length = n)
    (i1 : ∀ Q, spF X.K X.mg n F vs H Q E0 → tw Q) (i2 : ∀ (W : WX) Q, Takes X W → spF X.K X.mg n F vs H Q (fun cls d H' => W cls d σ H') → tw Q) :
    Out X (RV X.K X.mg) tw E η M σ (match F ds c.S with | .ok r c3 => .ok r ⟨c.ρ, c3.S⟩ | .err x c3 => .err x ⟨c.ρ, c3.S⟩ | .stuck => .stuck) := by
  have s0 : SR X.K X.mg ⟨H, η, M⟩ η M ⟨[], c.S⟩ [] H :=
    ⟨s.sub, rfl, fun i t e => by simp at e, fun i j a d d' e => by simp at e, s.hlen, s.hdl, s.hnd, fun a o e _ => e, ⟨[], by simp⟩, fun a h => .inl h, Same.refl M, fun a h _ => h⟩
  cases e1 : F ds c.S with
  | stuck => trivial
  | ok r c3 =>
    refine fun Q hQ => i1 Q ⟨hl, η, M, ds, c.S, s0, by assumption, ?_⟩
    rw [e1]
    exact fun v η' M' H' t z => hQ v η' M' H' (s.called t) (show Ext η M η' M' from t.ext) (z.called s t)
  | err y c3 =>
    refine fun W Q tk hQ => i2 W Q tk ⟨hl, η, M, ds, c.S, s0, by assumption, ?_⟩
    rw [e1]
    exact fun cls d η' M' H' t z => hQ cls d η' M' H' (s.called t) (show Ext η M η' M' from t.ext) z
theorem ex_call {k n : Nat} {F : Fm} {ms : Cf → Res (List Rv)} (h : Fn X.prog X.w X.K X.mg X.base x k n F) (hr : RmG k X.A) (ha : Ax X (e :: es) ms) (hg : Gl X x := by rfl) (hdb : (x == ("__debug__" : Str)) = false := by decide)
    (he : starEach (e :: es) X.env = (false, eval e X.env) :: starEach es X.env := by rfl) (hpl : (backTo pos (starEach es X.env)).any (·.1) = false := by rfl) : Ex X (.Call (.Name x p) (e :: es) [] pos) (mCall n F ms) := by
  obtain ⟨f, fd, ps, hm, hk, hb, hF⟩ := h
  refine ⟨fun E η M c σ H s => ?_⟩
  refine Out.bind (R := RVs X.K X.mg) (fun vs H1 Q => spF X.K X.mg n F vs H1 Q E0 ∨ ∃ W, Takes X W ∧ spF X.K X.mg n F vs H1 Q (fun cls d H' => W cls d σ H')) (ha E η M c σ H s) (fun Q hq => ?_) fun rs c1 vs η1 M1 H1 s1 x1 z1 => ?_
  · intro pins st I
    refine wpAny_Call_Name_kw (ld_glob I hg hm ?_ hdb)
    refine PySem.W.callWith_K (h₀ := X.base) I.ok.mod.kin hk (thn (hq pos pins st I) fun us s1 ⟨vs, H1, I1, r, q⟩ => ⟨I1.kIn, ?_⟩) he hpl
    rcases q with q | ⟨W, tk, q⟩
    · exact runG (dvs := []) hF hr hb .nil (fun pins => passL pins σ) I1 r (by rw [List.append_nil]; exact q)
    · exact runG (dvs := []) hF hr hb .nil (passAt tk σ) I1 r (by rw [List.append_nil]; exact q)
  · cases e1 : vals c1 rs with
    | none => trivial
    | some q =>
      obtain ⟨ds, c2⟩ := q
      dsimp only
      by_cases hl : ds.length = n
      · rw [if_pos hl]
        obtain ⟨M2, s2, x2, r2⟩ := vals_ok s1 z1.1 z1.2 e1
        exact out_ext x2 (out_fn s2 r2 (by rw [r2.length]; exact hl) (fun Q hq => .inl hq) fun W Q tk hq => .inr ⟨W, tk, hq⟩)
      · rw [if_neg hl]; trivial
end
end LH
/-! LHOps: operators, subscripts, built-in calls and methods, on trees. -/
namespace LH
open PySem PySem.Spec PyProof.Rows L2

section
variable {X : Cx} {E : En} {η η' : List Addr} {M M' H H' : Hp} {c c' : Cf} {σ σ' : St} {v : V} {d : D} {Q : VK}
/-- posts -/
def Pst (X : Cx) (E : En) (η : List Addr) (M : Hp) (c : Cf) (σ : St) (r : Rv) (Q : VK) : Prop := ∀ v η' M' H', SR X.K X.mg E η' M' c σ H' → Ext η M η' M' → RvR X.K X.mg E η' M' c σ H' v r → Q v H'
theorem pst_fz (s : SR X.K X.mg E η M c σ H) (h : Pst X E η M c σ (.fz d) Q) (r : Rep X.K X.mg η M v d) : Q v H := h v η M H s .refl r
theorem pst_nw (s : SR X.K X.mg E η M c σ H) (h : Pst X E η M c σ (.nw d) Q) {o : HO} (r : ∀ p, H p = none → At X.K X.mg η M (upd H p o) p d) : ∀ p, H p = none → Q (.ref p) (upd H p o) := fun p hp => by
  obtain ⟨f1, f2, f3, f4⟩ := s.free hp
  exact h _ η M _ (s.alloc hp) .refl ⟨p, rfl, f1, f2, f3, f4, r p hp⟩
end

/-! ### comparing data -/
mutual
def toPy : D → Option PyData
  | .non => some .none
  | .bl b => some (.bool b)
  | .int i => some (.int i)
  | .str x => some (.str x)
  | .lst xs => (toPyL xs).map .list
  | .tup xs => (toPyL xs).map .tuple
  | _ => none
def toPyL : List D → Option (List PyData)
  | [] => some []
  | x :: xs => match toPy x, toPyL xs with
    | some d, some ds => some (d :: ds)
    | _, _ => none
end
mutual
theorem rep_dp {K : Fg} {mg : Mg} {η : List Addr} {M H : Hp} (hs : Same M H) : ∀ {d : D} {v : V} {p : PyData}, Rep K mg η M v d → toPy d = some p → Dp K H v p
  | .non, _, _, .non, e => by cases e; exact .non
  | .bl b, _, _, .bl _, e => by cases e; exact .bl b
  | .int i, _, _, .int _, e => by cases e; exact .int i
  | .str x, _, _, .str _, e => by cases e; exact .str x
  | .lst ds, _, _, .lst h hs', e => by
    unfold toPy at e
    cases q : toPyL ds with
    | none => rw [q] at e; cases e
    | some ps => rw [q] at e; cases e; exact .lst (.of (hs _ _ h)) (repL_dp hs hs' q)
  | .tup ds, _, _, .tup h hs', e => by
    unfold toPy at e
    cases q : toPyL ds with
    | none => rw [q] at e; cases e
    | some ps => rw [q] at e; cases e; exact .tup (.of (hs _ _ h)) (repL_dp hs hs' q)
  | .ro _, _, _, .ro _ _, e => by cases e
  | .dct _, _, _, .dct _ _ _, e => by cases e
  | .dcT _, _, _, .dcT _ _ _, e => by cases e
  | .obj _ _, _, _, .obj _ _ _ _, e => by cases e
  | .hdl _, _, _, .hdl _, e => by cases e
  | .exc _ _, _, _, .exc _ _ _ _ _, e => by cases e
theorem repL_dp {K : Fg} {mg : Mg} {η : List Addr} {M H : Hp} (hs : Same M H) : ∀ {ds : List D} {vs : List V} {ps : List PyData}, RepL K mg η M vs ds → toPyL ds = some ps → DpAll K H vs ps
  | [], _, _, .nil, e => by cases e; exact .nil
  | d :: ds, _, _, .cons h hs', e => by
    unfold toPyL at e
    cases q1 : toPy d with
    | none => rw [q1] at e; cases e
    | some p =>
      cases q2 : toPyL ds with
      | none => rw [q1, q2] at e; cases e
      | some ps => rw [q1, q2] at e; cases e; exact .cons (rep_dp hs h q1) (repL_dp hs hs' q2)
end
theorem vw_dp {K : Fg} {mg : Mg} {η : List Addr} {M H : Hp} (hs : Same M H) {d : D} {v : V} {p : PyData} (h : VwR K mg η M H v d) (e : toPy d = some p) : Dp K H v p := by
  rcases h with h | ⟨a, rfl, h⟩
  · exact rep_dp hs h e
  · cases d with
    | lst ds =>
      obtain ⟨xs, hx, r⟩ := h
      unfold toPy at e
      cases q : toPyL ds with
      | none => rw [q] at e; cases e
      | some ps => rw [q] at e; cases e; exact .lst (.of hx) (repL_dp hs r q)
    | ro _ => cases e
    | dct _ => cases e
    | dcT _ => cases e
    | obj _ _ => cases e
    | _ => exact h.elim
/-! Python's == of such data -/
mutual
def eqD : D → D → Bool
  | .non, .non => true
  | .bl a, .bl b => a == b
  | .bl a, .int j => (if a then 1 else 0) == j
  | .int i, .bl b => i == (if b then 1 else 0)
  | .int i, .int j => i == j
  | .str x, .str y => x == y
  | .lst xs, .lst ys => eqL xs ys
  | .tup xs, .tup ys => eqL xs ys
  | _, _ => false
def eqL : List D → List D → Bool
  | [], [] => true
  | x :: xs, y :: ys => eqD x y && eqL xs ys
  | _, _ => false
end
/-! plain data, and how deep -/
mutual
def pln : D → Bool
  | .non => true
  | .bl _ => true
  | .int _ => true
  | .str x => PyData.strOk x
  | .lst xs => plnL xs
  | .tup xs => plnL xs
  | _ => false
def plnL : List D → Bool
  | [] => true
  | x :: xs => pln x && plnL xs
end
mutual
def dep : D → Nat
  | .lst xs => depL xs + 1
  | .tup xs => depL xs + 1
  | _ => 0
def depL : List D → Nat
  | [] => 0
  | x :: xs => max (dep x) (depL xs)
end
mutual
theorem pln_py : ∀ {d : D}, pln d = true → ∃ p, toPy d = some p ∧ p.canLay0 = true ∧ p.depth = dep d
  | .non, _ => ⟨.none, rfl, rfl, rfl⟩
  | .bl b, _ => ⟨.bool b, rfl, rfl, rfl⟩
  | .int i, _ => ⟨.int i, rfl, rfl, rfl⟩
  | .str x, h => ⟨.str x, rfl, (show PyData.strOk x = true from h), rfl⟩
  | .lst xs, h => by
    obtain ⟨ps, h1, h2, h3⟩ := plnL_py (ds := xs) h
    exact ⟨.list ps, by unfold toPy; rw [h1]; rfl, h2, by unfold PyData.depth dep; rw [h3]⟩
  | .tup xs, h => by
    obtain ⟨ps, h1, h2, h3⟩ := plnL_py (ds := xs) h
    exact ⟨.tuple ps, by unfold toPy; rw [h1]; rfl, h2, by unfold PyData.depth dep; rw [h3]⟩
  | .ro _, h => by cases h
  | .dct _, h => by cases h
  | .dcT _, h => by cases h
  | .obj _ _, h => by cases h
  | .hdl _, h => by cases h
  | .exc _ _, h => by cases h
theorem plnL_py : ∀ {ds : List D}, plnL ds = true → ∃ ps, toPyL ds = some ps ∧ PyData.canLayAll0 ps = true ∧ PyData.depthAll ps = depL ds
  | [], _ => ⟨[], rfl, rfl, rfl⟩
  | d :: ds, h => by
    unfold plnL at h
    rw [Bool.and_eq_true] at h
    obtain ⟨p, h1, h2, h3⟩ := pln_py h.1
    obtain ⟨ps, h4, h5, h6⟩ := plnL_py h.2
    exact ⟨p :: ps, by unfold toPyL; rw [h1, h4], by unfold PyData.canLayAll0; rw [h2, h5]; rfl, by unfold PyData.depthAll depL; rw [h3, h6]⟩
end
mutual
theorem eqD_py : ∀ {d e : D} {p q : PyData}, toPy d = some p → toPy e = some q → PyData.eqv p q = eqD d e := by
  intro d e p q h1 h2
  cases d with
  | lst xs =>
    unfold toPy at h1
    cases q1 : toPyL xs with
    | none => rw [q1] at h1; cases h1
    | some ps =>
      rw [q1] at h1; cases h1
      cases e with
      | lst ys =>
        unfold toPy at h2
        cases q2 : toPyL ys with
        | none => rw [q2] at h2; cases h2
        | some qs =>
          rw [q2] at h2; cases h2
          show PyData.eqvAll ps qs = eqL xs ys
          exact eqL_py q1 q2
      | tup ys =>
        unfold toPy at h2
        cases q2 : toPyL ys with
        | none => rw [q2] at h2; cases h2
        | some qs => rw [q2] at h2; cases h2; rfl
      | non => cases h2; rfl
      | bl b => cases h2; rfl
      | int b => cases h2; rfl
      | str b => cases h2; rfl
      | _ => cases h2
  | tup xs =>
    unfold toPy at h1
    cases q1 : toPyL xs with
    | none => rw [q1] at h1; cases h1
    | some ps =>
      rw [q1] at h1; cases h1
      cases e with
      | tup ys =>
        unfold toPy at h2
        cases q2 : toPyL ys with
        | none => rw [q2] at h2; cases h2
        | some qs =>
          rw [q2] at h2; cases h2
          show PyData.eqvAll ps qs = eqL xs ys
          exact eqL_py q1 q2
      | lst ys =>
        unfold toPy at h2
        cases q2 : toPyL ys with
        | none => rw [q2] at h2; cases h2
        | some qs => rw [q2] at h2; cases h2; rfl
      | non => cases h2; rfl
      | bl b => cases h2; rfl
      | int b => cases h2; rfl
      | str b => cases h2; rfl
      | _ => cases h2
  | non =>
    cases h1
    cases e with
    | lst ys =>
      unfold toPy at h2
      cases q2 : toPyL ys with
      | none => rw [q2] at h2; cases h2
      | some qs => rw [q2] at h2; cases h2; rfl
    | tup ys =>
      unfold toPy at h2
      cases q2 : toPyL ys with
      | none => rw [q2] at h2; cases h2
      | some qs => rw [q2] at h2; cases h2; rfl
    | non => cases h2; rfl
    | bl b => cases h2; rfl
    | int b => cases h2; rfl
    | str b => cases h2; rfl
    | _ => cases h2
  | bl a =>
    cases h1
    cases e with
    | lst ys =>
      unfold toPy at h2
      cases q2 : toPyL ys with
      | none => rw [q2] at h2; cases h2
      | some qs => rw [q2] at h2; cases h2; rfl
    | tup ys =>
      unfold toPy at h2
      cases q2 : toPyL ys with
      | none => rw [q2] at h2; cases h2
      | some qs => rw [q2] at h2; cases h2; rfl
    | non => cases h2; rfl
    | bl b => cases h2; rfl
    | int b => cases h2; rfl
    | str b => cases h2; rfl
    | _ => cases h2
  | int a =>
    cases h1
    cases e with
    | lst ys =>
      unfold toPy at h2
      cases q2 : toPyL ys with
      | none => rw [q2] at h2; cases h2
      | some qs => rw [q2] at h2; cases h2; rfl
    | tup ys =>
      unfold toPy at h2
      cases q2 : toPyL ys with
      | none => rw [q2] at h2; cases h2
      | some qs => rw [q2] at h2; cases h2; rfl
    | non => cases h2; rfl
    | bl b => cases h2; rfl
    | int b => cases h2; rfl
    | str b => cases h2; rfl
    | _ => cases h2
  | str a =>
    cases h1
    cases e with
    | lst ys =>
      unfold toPy at h2
      cases q2 : toPyL ys with
      | none => rw [q2] at h2; cases h2
      | some qs => rw [q2] at h2; cases h2; rfl
    | tup ys =>
      unfold toPy at h2
      cases q2 : toPyL ys with
      | none => rw [q2] at h2; cases h2
      | some qs => rw [q2] at h2; cases h2; rfl
    | non => cases h2; rfl
    | bl b => cases h2; rfl
    | int b => cases h2; rfl
    | str b => cases h2; rfl
    | _ => cases h2
  | _ => cases h1
theorem eqL_py : ∀ {ds es : List D} {ps qs : List PyData}, toPyL ds = some ps → toPyL es = some qs → PyData.eqvAll ps qs = eqL ds es := by
  intro ds es ps qs h1 h2
  cases ds with
  | nil =>
    cases h1
    cases es with
    | nil => cases h2; rfl
    | cons e es =>
      unfold toPyL at h2
      cases q1 : toPy e with
      | none => rw [q1] at h2; cases h2
      | some p =>
        cases q2 : toPyL es with
        | none => rw [q1, q2] at h2; cases h2
        | some qs' => rw [q1, q2] at h2; cases h2; rfl
  | cons d ds =>
    unfold toPyL at h1
    cases q1 : toPy d with
    | none => rw [q1] at h1; cases h1
    | some p =>
      cases q2 : toPyL ds with
      | none => rw [q1, q2] at h1; cases h1
      | some ps' =>
        rw [q1, q2] at h1; cases h1
        cases es with
        | nil => cases h2; rfl
        | cons e es =>
          unfold toPyL at h2
          cases q3 : toPy e with
          | none => rw [q3] at h2; cases h2
          | some p' =>
            cases q4 : toPyL es with
            | none => rw [q3, q4] at h2; cases h2
            | some qs' =>
              rw [q3, q4] at h2; cases h2
              show (PyData.eqv p p' && PyData.eqvAll ps' qs') = (eqD d e && eqL ds es)
              rw [eqD_py q1 q3, eqL_py q2 q4]
end
/-- data that == compares here -/
def okq (d : D) : Bool := pln d && decide (dep d ≤ 64)
theorem okq_py {d : D} (h : okq d = true) : ∃ p, toPy d = some p ∧ SeqAt.shaped p = true := by
  unfold okq at h
  rw [Bool.and_eq_true] at h
  obtain ⟨p, h1, h2, h3⟩ := pln_py h.1
  refine ⟨p, h1, ?_⟩
  unfold SeqAt.shaped
  rw [h2, h3, h.2]
  rfl
def gEq (a b : D) : Option Rv := if okq a && okq b then some (.fz (.bl (eqD a b))) else match a, b with
  | .str x, .str y => some (.fz (.bl (x == y)))
  | _, _ => none
def gNe (a b : D) : Option Rv := if okq a && okq b then some (.fz (.bl (!eqD a b))) else match a, b with
  | .str x, .str y => some (.fz (.bl (!(x == y))))
  | _, _ => none
section
variable {X : Cx}
theorem o_eq (hu : X.A.units + 64 < cLine) : Op2 X (Wo X (compareOp .Eq)) gEq := by
  intro E η M c σ H x y dx dy r s h1 h2 e Q hQ
  unfold gEq at e
  split at e
  · rename_i hq
    cases e
    rw [Bool.and_eq_true] at hq
    obtain ⟨p, p1, p2⟩ := okq_py hq.1
    obtain ⟨q, q1, q2⟩ := okq_py hq.2
    exact op_wo (op_eqD hu) ⟨p, q, vw_dp s.sub h1 p1, vw_dp s.sub h2 q1, p2, q2, by rw [eqD_py p1 q1]; exact pst_fz s hQ (.bl _)⟩
  · split at e
    · cases e
      rw [h1.str, h2.str]
      exact op_wo op_eq ⟨rfl, by rw [dec_str]; exact pst_fz s hQ (.bl _)⟩
    · cases e
theorem o_ne (hu : X.A.units + 64 < cLine) : Op2 X (Wo X (compareOp .NotEq)) gNe := by
  intro E η M c σ H x y dx dy r s h1 h2 e Q hQ
  unfold gNe at e
  split at e
  · rename_i hq
    cases e
    rw [Bool.and_eq_true] at hq
    obtain ⟨p, p1, p2⟩ := okq_py hq.1
    obtain ⟨q, q1, q2⟩ := okq_py hq.2
    exact op_wo (op_neD hu) ⟨p, q, vw_dp s.sub h1 p1, vw_dp s.sub h2 q1, p2, q2, by rw [eqD_py p1 q1]; exact pst_fz s hQ (.bl _)⟩
  · split at e
    · cases e
      rw [h1.str, h2.str]
      exact op_wo op_ne ⟨rfl, by rw [dec_str]; exact pst_fz s hQ (.bl _)⟩
    · cases e
/-- x in a list or a tuple of data, a sign in a text, a key in a dict -/
def gIn (neg : Bool) (a b : D) : Option Rv := match b with
  | .tup ys => if okq a && okq b then some (.fz (.bl ((ys.any fun z => eqD z a) != neg))) else none
  | .lst ys => if okq a && okq b then some (.fz (.bl ((ys.any fun z => eqD z a) != neg))) else none
  | .str z => match a with
    | .str x => if x.cps.size = 1 then some (.fz (.bl ((decide (x.cps.toList.getD 0 0 ∈ z.cps.toList)) != neg))) else none
    | _ => none
  | _ => none
theorem eqv_any : ∀ {ys : List D} {ps : List PyData} {a : D} {p : PyData}, toPyL ys = some ps → toPy a = some p → (ps.any fun z => PyData.eqv z p) = (ys.any fun z => eqD z a)
  | [], _, _, _, h1, _ => by cases h1; rfl
  | y :: ys, ps, a, p, h1, h2 => by
    unfold toPyL at h1
    cases q1 : toPy y with
    | none => rw [q1] at h1; cases h1
    | some p1 =>
      cases q2 : toPyL ys with
      | none => rw [q1, q2] at h1; cases h1
      | some ps' =>
        rw [q1, q2] at h1; cases h1
        simp only [List.any_cons]
        rw [eqD_py q1 h2, eqv_any q2 h2]
theorem str_one {x : Str} (h : x.cps.size = 1) : x = ⟨#[x.cps.toList.getD 0 0]⟩ := by
  obtain ⟨⟨l⟩⟩ := x
  match l, h with
  | [a], _ => rfl
theorem in_tuple_reads {prog : Program} {w : World} {A : Around} {E : Value → Shared → Prop} {s : Shared} {c x : Value} {xs : List PyData} {d : PyData} {as bs : List Addr} {Q : Value → Shared → Prop} (rc : Reads s.heap c (.tuple xs) as) (rx : Reads s.heap x d bs) (hxs : PyData.canLayAll0 xs = true) (hd : d.canLay0 = true)
    (hu : A.units + 1 + min (PyData.depthAll xs) d.depth < cLine) (h : Q (.bool (xs.any fun y => PyData.eqv y d)) s) : wpAny (model prog w) A (compareOp .In x c) Q E s := by
  cases rc with
  | tuple h1 h2 h3 h4 => exact SeqAt.in_tupleAt _ ⟨_, h1, h2, _, h3⟩ (SeqAt.items_eqAt h4 rx hxs hd hu) (by rw [SeqAt.any_by_data h4 hxs]; exact h)
theorem notIn_tuple_reads {prog : Program} {w : World} {A : Around} {E : Value → Shared → Prop} {s : Shared} {c x : Value} {xs : List PyData} {d : PyData} {as bs : List Addr} {Q : Value → Shared → Prop} (rc : Reads s.heap c (.tuple xs) as) (rx : Reads s.heap x d bs) (hxs : PyData.canLayAll0 xs = true) (hd : d.canLay0 = true)
    (hu : A.units + 1 + min (PyData.depthAll xs) d.depth < cLine) (h : Q (.bool (!xs.any fun y => PyData.eqv y d)) s) : wpAny (model prog w) A (compareOp .NotIn x c) Q E s := by
  cases rc with
  | tuple h1 h2 h3 h4 => exact SeqAt.notIn_tupleAt _ ⟨_, h1, h2, _, h3⟩ (SeqAt.items_eqAt h4 rx hxs hd hu) (by rw [SeqAt.any_by_data h4 hxs]; exact h)
def rInT (K : PySem.W.Frag) (neg : Bool) : R2 := fun x y H Q => ∃ d ds, Dp K H x d ∧ Dp K H y (.tuple ds) ∧ SeqAt.shaped d = true ∧ SeqAt.shaped (.tuple ds) = true ∧ Q (.bl ((ds.any fun z => PyData.eqv z d) != neg)) H
theorem op_inT (hu : X.A.units + 65 < cLine) : OpR X (compareOp .In) (rInT X.K false) := by
  intro pins s σ H x y v u Q I rx ry h
  obtain ⟨d, ds, hd, he, sd, se, q⟩ := h
  obtain ⟨as, r1⟩ := Dp.reads I d x v hd rx
  obtain ⟨bs, r2⟩ := Dp.reads I (.tuple ds) y u he ry
  exact in_tuple_reads r2 r1 (SeqAt.canLay_of_shaped se) (SeqAt.canLay_of_shaped sd) (room_in_shaped sd hu) ⟨.bl _, H, I, rfl, by simpa using q⟩
theorem op_notInT (hu : X.A.units + 65 < cLine) : OpR X (compareOp .NotIn) (rInT X.K true) := by
  intro pins s σ H x y v u Q I rx ry h
  obtain ⟨d, ds, hd, he, sd, se, q⟩ := h
  obtain ⟨as, r1⟩ := Dp.reads I d x v hd rx
  obtain ⟨bs, r2⟩ := Dp.reads I (.tuple ds) y u he ry
  exact notIn_tuple_reads r2 r1 (SeqAt.canLay_of_shaped se) (SeqAt.canLay_of_shaped sd) (room_in_shaped sd hu) ⟨.bl _, H, I, rfl, by simpa using q⟩
theorem o_in (hu : X.A.units + 65 < cLine) : Op2 X (Wo X (compareOp .In)) (gIn false) := by
  intro E η M c σ H x y dx dy r s h1 h2 e Q hQ
  unfold gIn at e
  cases dy with
  | tup ys =>
    dsimp only at e
    split at e
    · rename_i hq
      cases e
      rw [Bool.and_eq_true] at hq
      obtain ⟨p, p1, p2⟩ := okq_py hq.1
      obtain ⟨q, q1, q2⟩ := okq_py hq.2
      have q1' := q1
      unfold toPy at q1'
      cases q3 : toPyL ys with
      | none => rw [q3] at q1'; cases q1'
      | some ps =>
        rw [q3] at q1'; cases q1'
        exact op_wo (op_inT hu) ⟨p, ps, vw_dp s.sub h1 p1, vw_dp s.sub h2 q1, p2, q2, by rw [eqv_any q3 p1]; exact pst_fz s hQ (.bl _)⟩
    · cases e
  | lst ys =>
    dsimp only at e
    split at e
    · rename_i hq
      cases e
      rw [Bool.and_eq_true] at hq
      obtain ⟨p, p1, p2⟩ := okq_py hq.1
      obtain ⟨q, q1, q2⟩ := okq_py hq.2
      have q1' := q1
      unfold toPy at q1'
      cases q3 : toPyL ys with
      | none => rw [q3] at q1'; cases q1'
      | some ps =>
        rw [q3] at q1'; cases q1'
        exact op_wo (op_inD hu) ⟨p, ps, vw_dp s.sub h1 p1, vw_dp s.sub h2 q1, p2, q2, by rw [eqv_any q3 p1]; exact pst_fz s hQ (by simpa using Rep.bl _)⟩
    · cases e
  | str z =>
    cases dx with
    | str x' =>
      dsimp only at e
      split at e
      · rename_i hl
        cases e
        have e1 := h1.str
        rw [str_one hl] at e1
        exact op_wo op_in_sign ⟨_, z, e1, h2.str, pst_fz s hQ (by simpa using Rep.bl _)⟩
      · cases e
    | _ => cases e
  | _ => cases e
theorem o_notin (hu : X.A.units + 65 < cLine) : Op2 X (Wo X (compareOp .NotIn)) (gIn true) := by
  intro E η M c σ H x y dx dy r s h1 h2 e Q hQ
  unfold gIn at e
  cases dy with
  | tup ys =>
    dsimp only at e
    split at e
    · rename_i hq
      cases e
      rw [Bool.and_eq_true] at hq
      obtain ⟨p, p1, p2⟩ := okq_py hq.1
      obtain ⟨q, q1, q2⟩ := okq_py hq.2
      have q1' := q1
      unfold toPy at q1'
      cases q3 : toPyL ys with
      | none => rw [q3] at q1'; cases q1'
      | some ps =>
        rw [q3] at q1'; cases q1'
        exact op_wo (op_notInT hu) ⟨p, ps, vw_dp s.sub h1 p1, vw_dp s.sub h2 q1, p2, q2, by rw [eqv_any q3 p1]; exact pst_fz s hQ (.bl _)⟩
    · cases e
  | lst ys =>
    dsimp only at e
    split at e
    · rename_i hq
      cases e
      rw [Bool.and_eq_true] at hq
      obtain ⟨p, p1, p2⟩ := okq_py hq.1
      obtain ⟨q, q1, q2⟩ := okq_py hq.2
      have q1' := q1
      unfold toPy at q1'
      cases q3 : toPyL ys with
      | none => rw [q3] at q1'; cases q1'
      | some ps =>
        rw [q3] at q1'; cases q1'
        exact op_wo (op_notInD hu) ⟨p, ps, vw_dp s.sub h1 p1, vw_dp s.sub h2 q1, p2, q2, by rw [eqv_any q3 p1]; exact pst_fz s hQ (by simpa using Rep.bl _)⟩
    · cases e
  | str z =>
    cases dx with
    | str x' =>
      dsimp only at e
      split at e
      · rename_i hl
        cases e
        have e1 := h1.str
        rw [str_one hl] at e1
        exact op_wo op_notIn_sign ⟨_, z, e1, h2.str, pst_fz s hQ (by simpa using Rep.bl _)⟩
      · cases e
    | _ => cases e
  | _ => cases e

/-! ### numbers -/
def gCmpI (p : Int → Int → Bool) (a b : D) : Option Rv := match a, b with
  | .int i, .int j => some (.fz (.bl (p i j)))
  | _, _ => none
theorem o_cmpI {f : Value → Value → Sem Value} {p : Int → Int → Bool} (h : OpR X f (rI0 fun i j => .bl (p i j))) : Op2 X (Wo X f) (gCmpI p) := by
  intro E η M c σ H x y dx dy r s h1 h2 e Q hQ
  unfold gCmpI at e
  split at e
  · cases e
    exact op_wo h ⟨_, _, h1.int, h2.int, pst_fz s hQ (.bl _)⟩
  · cases e
theorem o_lt : Op2 X (Wo X (compareOp .Lt)) (gCmpI fun i j => decide (i < j)) := o_cmpI op_lt
theorem o_le : Op2 X (Wo X (compareOp .LtE)) (gCmpI fun i j => decide (i ≤ j)) := o_cmpI op_le
theorem o_gt : Op2 X (Wo X (compareOp .Gt)) (gCmpI fun i j => decide (j < i)) := o_cmpI op_gt
theorem o_ge : Op2 X (Wo X (compareOp .GtE)) (gCmpI fun i j => decide (j ≤ i)) := o_cmpI op_ge
/-- a + b -/
def gAdd (a b : D) : Option Rv := match a, b with
  | .int i, .int j => some (.fz (.int (i + j)))
  | .str x, .str y => if x.length + y.length ≤ sizeLine then some (.fz (.str (x ++ y))) else none
  | .lst xs, .lst ys => if xs.length + ys.length ≤ sizeLine then some (.nw (.lst (xs ++ ys))) else none
  | .tup xs, .tup ys => if xs.length + ys.length ≤ sizeLine then some (.fz (.tup (xs ++ ys))) else none
  | _, _ => none
theorem o_add : Op2 X (Wo X (binaryOp .Add)) gAdd := by
  intro E η M c σ H x y dx dy r s h1 h2 e Q hQ
  unfold gAdd at e
  split at e
  · cases e
    exact op_wo op_add ⟨_, _, h1.int, h2.int, pst_fz s hQ (.int _)⟩
  · split at e
    · cases e
      exact op_wo op_add_str ⟨_, _, h1.str, h2.str, by assumption, pst_fz s hQ (.str _)⟩
    · cases e
  · split at e
    · cases e
      obtain ⟨a, xs, rfl, q1, r1⟩ := h1.lst s.sub
      obtain ⟨b, ys, rfl, q2, r2⟩ := h2.lst s.sub
      exact op_wo op_cat ⟨a, b, xs, ys, rfl, rfl, q1, q2, by rw [r1.length, r2.length]; assumption, pst_nw s hQ fun p hp => ⟨_, upd_same, r1.append r2⟩⟩
    · cases e
  · split at e
    · cases e
      obtain ⟨a, xs, rfl, q1, r1⟩ := h1.tup s.sub
      obtain ⟨b, ys, rfl, q2, r2⟩ := h2.tup s.sub
      refine op_wo op_catA ⟨a, b, xs, ys, rfl, rfl, .of q1, .of q2, by rw [r1.length, r2.length]; assumption, fun hx => ?_, fun hx hy => ?_, fun hx hy p hp => ?_⟩
      · subst hx
        cases r1
        exact pst_fz s hQ h2.rtup
      · subst hy
        cases r2
        rw [List.append_nil] at hQ
        exact pst_fz s hQ h1.rtup
      · obtain ⟨f1, f2, f3, f4⟩ := s.free hp
        obtain ⟨s3, x3⟩ := (s.alloc (o := .tup (xs ++ ys)) hp).freeze f1 f2 f3 f4 upd_same
        exact hQ _ η _ _ s3 x3 (.tup upd_same ((r1.append r2).mono x3))
    · cases e
  · cases e
end
end LH
/-! LHOps2: more operators, subscripts, slices, built-in calls, methods of lists and dicts, on trees. -/
namespace LH
open PySem PySem.Spec PyProof.Rows L2
theorem RepL.rep {K : Fg} {mg : Mg} {η : List Addr} {M : Hp} {vs : List V} {ds : List D} (h : RepL K mg η M vs ds) : ∀ k : Nat, RepL K mg η M (List.replicate k vs).flatten (List.replicate k ds).flatten
  | 0 => by simpa using RepL.nil
  | k + 1 => by
    simp only [List.replicate_succ, List.flatten_cons]
    exact h.append (RepL.rep h k)
section
variable {X : Cx}

/-! ### numbers -/
def gSub (a b : D) : Option Rv := match a, b with
  | .int i, .int j => some (.fz (.int (i - j)))
  | _, _ => none
theorem o_sub : Op2 X (Wo X (binaryOp .Sub)) gSub := by
  intro E η M c σ H x y dx dy r s h1 h2 e Q hQ
  unfold gSub at e
  split at e
  · cases e; exact op_wo op_sub ⟨_, _, h1.int, h2.int, pst_fz s hQ (.int _)⟩
  · cases e
def gMul (a b : D) : Option Rv := match a, b with
  | .int i, .int j => if i.natAbs.log2 + j.natAbs.log2 < 1000000 then some (.fz (.int (i * j))) else none
  | .lst xs, .int k => if -(2 ^ 63) ≤ k ∧ k < 2 ^ 63 ∧ xs.length * k.toNat ≤ sizeLine then some (.nw (.lst (List.replicate k.toNat xs).flatten)) else none
  | _, _ => none
theorem o_mul : Op2 X (Wo X (binaryOp .Mult)) gMul := by
  intro E η M c σ H x y dx dy r s h1 h2 e Q hQ
  unfold gMul at e
  split at e
  · split at e
    · cases e
      rename_i hl
      exact op_wo op_mulW ⟨_, _, h1.int, h2.int, hl, pst_fz s hQ (.int _)⟩
    · cases e
  · split at e
    · cases e
      rename_i hl
      obtain ⟨a, xs, rfl, q1, r1⟩ := h1.lst s.sub
      exact op_wo op_rep ⟨a, _, xs, rfl, h2.int, q1, hl.1, hl.2.1, by rw [r1.length]; exact hl.2.2, pst_nw s hQ fun p hp => ⟨_, upd_same, r1.rep _⟩⟩
    · cases e
  · cases e
def gFdiv (a b : D) : Option Rv := match a, b with
  | .int i, .int j => if 0 < j ∧ j.natAbs.log2 < 9000 then some (.fz (.int (i / j))) else none
  | _, _ => none
theorem o_fdiv : Op2 X (Wo X (binaryOp .FloorDiv)) gFdiv := by
  intro E η M c σ H x y dx dy r s h1 h2 e Q hQ
  unfold gFdiv at e
  split at e
  · split at e
    · cases e
      rename_i hl
      exact op_wo op_fdivW ⟨_, _, h1.int, h2.int, hl, pst_fz s hQ (.int _)⟩
    · cases e
  · cases e
def gMod (a b : D) : Option Rv := match a, b with
  | .int i, .int j => if 0 < j then some (.fz (.int (i % j))) else none
  | _, _ => none
theorem o_mod : Op2 X (Wo X (binaryOp .Mod)) gMod := by
  intro E η M c σ H x y dx dy r s h1 h2 e Q hQ
  unfold gMod at e
  split at e
  · split at e
    · cases e
      rename_i hl
      exact op_wo op_mod ⟨_, _, h1.int, h2.int, hl, pst_fz s hQ (.int _)⟩
    · cases e
  · cases e
def gPow (a b : D) : Option Rv := match a, b with
  | .int i, .int j => if 0 ≤ j ∧ j ≤ 1000000 ∧ i.natAbs < 2 ^ 64 then some (.fz (.int (i ^ j.toNat))) else none
  | _, _ => none
theorem o_pow : Op2 X (Wo X (binaryOp .Pow)) gPow := by
  intro E η M c σ H x y dx dy r s h1 h2 e Q hQ
  unfold gPow at e
  split at e
  · split at e
    · cases e
      rename_i hl
      exact op_wo op_pow ⟨_, _, h1.int, h2.int, hl, pst_fz s hQ (.int _)⟩
    · cases e
  · cases e
def gNeg (a : D) : Option Rv := match a with
  | .int i => some (.fz (.int (-i)))
  | _ => none
theorem u_neg : Op1 X (Wu X (unaryOp .USub)) gNeg := by
  intro E η M c σ H x dx r s h1 e Q hQ
  unfold gNeg at e
  split at e
  · cases e; exact un_wu un_neg ⟨_, h1.int, pst_fz s hQ (.int _)⟩
  · cases e
/-- is None, is not None -/
def isNon : D → Bool
  | .non => true
  | _ => false
theorem vw_non {K : Fg} {mg : Mg} {η : List Addr} {M H : Hp} {v : V} {d : D} (h : VwR K mg η M H v d) : decide (v = .non) = isNon d := by
  cases d with
  | non => rw [h.non]; rfl
  | bl b => rw [h.bl]; rfl
  | int b => rw [h.int]; rfl
  | str b => rw [h.str]; rfl
  | _ =>
    rcases h with h | ⟨a, rfl, h⟩
    · cases h <;> rfl
    · rfl
def gIsN (neg : Bool) (a : D) : Option Rv := some (.fz (.bl (isNon a != neg)))
variable {a : Expr} {ma : Em} {pos pos' : Pos} {j : Nat}
theorem ex_isN (ha : Ex X a ma) : Ex X (.Compare a [.Is] [.Constant .none j pos'] pos) (mUn (gIsN false) ma) := by
  refine ⟨fun E η M c σ H s => ?_⟩
  refine Out.bind (fun (x : V) H1 (Q : VK) => Q (.bl (decide (x = .non))) H1) (ha E η M c σ H s) (fun Q hq => pe_we (pe_cmp (pc_isN we_pe) rfl) hq) fun ra c1 x η1 M1 H1 s1 x1 z1 => ?_
  unfold m1
  cases e1 : view c1 ra with
  | none => trivial
  | some d =>
    have e2 := vw_non (view_ok s1 z1 e1)
    exact out_ok s1 (fun Q hq => by rw [e2]; exact hq) (by simp only [RV, RvR]; simpa using Rep.bl _)
theorem ex_notN (ha : Ex X a ma) : Ex X (.Compare a [.IsNot] [.Constant .none j pos'] pos) (mUn (gIsN true) ma) := by
  refine ⟨fun E η M c σ H s => ?_⟩
  refine Out.bind (fun (x : V) H1 (Q : VK) => Q (.bl (!decide (x = .non))) H1) (ha E η M c σ H s) (fun Q hq => pe_we (pe_cmp (pc_notN we_pe) rfl) hq) fun ra c1 x η1 M1 H1 s1 x1 z1 => ?_
  unfold m1
  cases e1 : view c1 ra with
  | none => trivial
  | some d =>
    have e2 := vw_non (view_ok s1 z1 e1)
    exact out_ok s1 (fun Q hq => by rw [e2]; exact hq) (by simp only [RV, RvR]; simpa using Rep.bl _)
/-- a test that is a value of truth and no more -/
theorem tx_val (ha : Ex X a ma) (he : ∀ whole, isTrue a X.env whole = (do let v ← whole; standAt a.pos; holding [v] (truthy v)) := by intro _; rfl) : Tx X a (mBool ma) :=
  ⟨fun E η M c σ H s => out_bool (ha E η M c σ H s) fun Q hq => pt_wt (pt_val we_pe he) hq⟩
theorem tx_isN (ha : Ex X a ma) : Tx X (.Compare a [.Is] [.Constant .none j pos'] pos) (mBool (mUn (gIsN false) ma)) := by
  refine ⟨fun E η M c σ H s => ?_⟩
  have h : Out X (RV X.K X.mg) (tIsN (We X a) σ H) E η M σ (mUn (gIsN false) ma c) := by
    refine Out.bind (fun (x : V) H1 (Q : VK) => Q (.bl (decide (x = .non))) H1) (ha E η M c σ H s) (fun Q hq => hq) fun ra c1 x η1 M1 H1 s1 x1 z1 => ?_
    unfold m1
    cases e1 : view c1 ra with
    | none => trivial
    | some d =>
      have e2 := vw_non (view_ok s1 z1 e1)
      exact out_ok s1 (fun Q hq => by rw [e2]; exact hq) (by simp only [RV, RvR]; simpa using Rep.bl _)
  exact out_bool h fun Q hq => pt_wt (pt_cmp (pc_isN we_pe) rfl) hq
theorem tx_notN (ha : Ex X a ma) : Tx X (.Compare a [.IsNot] [.Constant .none j pos'] pos) (mBool (mUn (gIsN true) ma)) := by
  refine ⟨fun E η M c σ H s => ?_⟩
  have h : Out X (RV X.K X.mg) (tNotN (We X a) σ H) E η M σ (mUn (gIsN true) ma c) := by
    refine Out.bind (fun (x : V) H1 (Q : VK) => Q (.bl (!decide (x = .non))) H1) (ha E η M c σ H s) (fun Q hq => hq) fun ra c1 x η1 M1 H1 s1 x1 z1 => ?_
    unfold m1
    cases e1 : view c1 ra with
    | none => trivial
    | some d =>
      have e2 := vw_non (view_ok s1 z1 e1)
      exact out_ok s1 (fun Q hq => by rw [e2]; exact hq) (by simp only [RV, RvR]; simpa using Rep.bl _)
  exact out_bool h fun Q hq => pt_wt (pt_cmp (pc_notN we_pe) rfl) hq

/-! ### subscripts -/
def keyD : D → Option Key
  | .int i => some (.inl i)
  | .str x => some (.inr x)
  | _ => none
def keysD : List D → Option (List Key)
  | [] => some []
  | d :: ds => match keyD d, keysD ds with
    | some k, some ks => some (k :: ks)
    | _, _ => none
def getK {κ : Type} [DecidableEq κ] (kvs : List (κ × D)) (k : κ) : Option D := (kvs.find? fun kv => decide (kv.1 = k)).map (·.2)
def setK {κ : Type} [DecidableEq κ] (kvs : List (κ × D)) (k : κ) (d : D) : List (κ × D) := if (kvs.any fun kv => decide (kv.1 = k)) = true then kvs.map (fun kv => if kv.1 = k then (kv.1, d) else kv) else kvs ++ [(k, d)]
section
variable {K : Fg} {mg : Mg} {η : List Addr} {M H : Hp}
theorem rep_key {v : V} {d : D} {k : Key} (h : VwR K mg η M H v d) (e : keyD d = some k) : v = kV k := by
  cases d with
  | int i => cases e; exact h.int
  | str i => cases e; exact h.str
  | _ => cases e
theorem repL_keys : ∀ {ds : List D} {vs : List V} {ks : List Key}, RepL K mg η M vs ds → keysD ds = some ks → vs = ks.map kV
  | [], _, _, .nil, e => by cases e; rfl
  | d :: ds, _, _, .cons h hs, e => by
    unfold keysD at e
    cases q1 : keyD d with
    | none => rw [q1] at e; cases e
    | some k =>
      cases q2 : keysD ds with
      | none => rw [q1, q2] at e; cases e
      | some ks =>
        rw [q1, q2] at e; cases e
        rw [rep_key (H := M) (.inl h) q1, repL_keys hs q2]
        rfl
theorem rep_getK {κ : Type} [DecidableEq κ] {k : κ} : ∀ {kvs : List (κ × V)} {eds : List (κ × D)}, kvs.map (·.1) = eds.map (·.1) → RepL K mg η M (kvs.map (·.2)) (eds.map (·.2)) →
    (∀ d, getK eds k = some d → ∃ v, valV kvs k = some v ∧ Rep K mg η M v d) ∧ (getK eds k = none → valV kvs k = none)
  | [], [], _, _ => ⟨fun d e => (nomatch e), fun _ => rfl⟩
  | (k1, v) :: kvs, (k2, d) :: eds, hk, hr => by
    simp only [List.map_cons, List.cons.injEq] at hk
    obtain ⟨rfl, hk⟩ := hk
    simp only [List.map_cons] at hr
    cases hr with
    | cons h hs =>
      obtain ⟨i1, i2⟩ := rep_getK (k := k) hk hs
      by_cases e : k1 = k
      · have e1 : getK ((k1, d) :: eds) k = some d := by simp [getK, e]
        have e2 : valV ((k1, v) :: kvs) k = some v := valV_pos e
        rw [e1, e2]
        refine ⟨fun d' hd => ?_, fun z => nomatch z⟩
        cases hd
        exact ⟨v, rfl, h⟩
      · have e1 : getK ((k1, d) :: eds) k = getK eds k := by simp [getK, e]
        have e2 : valV ((k1, v) :: kvs) k = valV kvs k := valV_neg e
        rw [e1, e2]
        exact ⟨i1, i2⟩
  | [], _ :: _, hk, _ => by simp at hk
  | _ :: _, [], hk, _ => by simp at hk
theorem any_keys {κ : Type} [DecidableEq κ] {k : κ} : ∀ {kvs : List (κ × V)} {eds : List (κ × D)}, kvs.map (·.1) = eds.map (·.1) → (kvs.any fun kv => decide (kv.1 = k)) = (eds.any fun kv => decide (kv.1 = k))
  | [], [], _ => rfl
  | (k1, v) :: kvs, (k2, d) :: eds, hk => by
    simp only [List.map_cons, List.cons.injEq] at hk
    obtain ⟨rfl, hk⟩ := hk
    simp only [List.any_cons]
    rw [any_keys (k := k) hk]
  | [], _ :: _, hk => by simp at hk
  | _ :: _, [], hk => by simp at hk
theorem rep_setK {κ : Type} [DecidableEq κ] {k : κ} {v : V} {d : D} (rd : Rep K mg η M v d) {kvs : List (κ × V)} {eds : List (κ × D)} (hk : kvs.map (·.1) = eds.map (·.1)) (hr : RepL K mg η M (kvs.map (·.2)) (eds.map (·.2))) :
    (putK kvs k v).map (·.1) = (setK eds k d).map (·.1) ∧ RepL K mg η M ((putK kvs k v).map (·.2)) ((setK eds k d).map (·.2)) := by
  unfold putK setK
  rw [any_keys (k := k) hk]
  cases (eds.any fun kv => decide (kv.1 = k)) with
  | true =>
    rw [if_pos rfl]
    have aux : ∀ {kvs : List (κ × V)} {eds : List (κ × D)}, kvs.map (·.1) = eds.map (·.1) → RepL K mg η M (kvs.map (·.2)) (eds.map (·.2)) →
        (kvs.map fun kv => if kv.1 = k then (kv.1, v) else kv).map (·.1) = (eds.map fun kv => if kv.1 = k then (kv.1, d) else kv).map (·.1) ∧
        RepL K mg η M ((kvs.map fun kv => if kv.1 = k then (kv.1, v) else kv).map (·.2)) ((eds.map fun kv => if kv.1 = k then (kv.1, d) else kv).map (·.2)) := by
      intro kvs
      induction kvs with
      | nil =>
        intro eds hk hr
        cases eds with
        | nil => exact ⟨rfl, .nil⟩
        | cons _ _ => simp at hk
      | cons p kvs ih =>
        intro eds hk hr
        cases eds with
        | nil => simp at hk
        | cons q eds =>
          obtain ⟨k1, v1⟩ := p
          obtain ⟨k2, d1⟩ := q
          simp only [List.map_cons, List.cons.injEq] at hk
          obtain ⟨rfl, hk⟩ := hk
          simp only [List.map_cons] at hr
          cases hr with
          | cons h hs =>
            obtain ⟨i1, i2⟩ := ih hk hs
            simp only [List.map_cons]
            by_cases e : k1 = k
            · simp only [e, if_true]
              exact ⟨by rw [i1], .cons rd i2⟩
            · simp only [e, if_false]
              exact ⟨by rw [i1], .cons h i2⟩
    exact aux hk hr
  | false =>
    rw [if_neg Bool.false_ne_true, if_neg Bool.false_ne_true]
    simp only [List.map_append, List.map_cons, List.map_nil]
    exact ⟨by rw [hk], hr.append (.cons rd .nil)⟩
theorem keys_len {κ : Type} {kvs : List (κ × V)} {eds : List (κ × D)} (hk : kvs.map (·.1) = eds.map (·.1)) : kvs.length = eds.length := by
  have := congrArg List.length hk
  simpa using this
end
/-- d[y] by values -/
theorem ix_dict (hu : X.A.units + 1 < cLine) : IxR X (fun x y H Q => ∃ a v, x = .ref a ∧ DGet H a y (some v) ∧ Q v H) := by
  intro value slice pins s σ H x y v u Q I rx ry h hs
  obtain ⟨a, z, rfl, g, q⟩ := h
  cases rx
  have hT := dict_typeIs I g
  unfold subscriptTail
  refine wpAny_bind ?_
  rw [getitemInPython_of_ne hT.not_modules]
  refine wpAny_bind (wpAny_specialOf hT PySem.F.slot_dict_getitem.lookup ?_)
  have fin : wpAny (model X.prog X.w) X.A (subscripted slice false (.ref a) u) (fun r s₃ => wpAny (model X.prog X.w) X.A (letTemporaryGo value (.ref a) r >>= fun _ => pure r) (EP X pins σ Q) X.xe s₃) X.xe s := by
    rw [hs]
    exact wpAny_operating (d_getItem hu I g ry fun w' s3 I3 rw' => wpAny_bind (wpAny_letTemporaryGo (wpAny_pure ⟨z, H, I3, rw', q⟩)))
  first
    | exact wpAny_pure (wpAny_bind fin)
    | exact wpAny_bind (wpAny_pure (wpAny_bind fin))
    | exact wpAny_bind fin
def gIx (a b : D) : Option Rv := match a with
  | .lst xs => match b with
    | .int i => (atI xs i).map .fz
    | _ => none
  | .ro xs => match b with
    | .int i => (atI xs i).map .fz
    | _ => none
  | .tup xs => match b with
    | .int i => (atI xs i).map .fz
    | _ => none
  | .str z => match b with
    | .int i => if z.length ≤ sizeLine then (atI z.cps.toList i).map fun c => .fz (.str ⟨#[c]⟩) else none
    | _ => none
  | .dct kvs => match keyD b with
    | some k => (getK kvs k).map .fz
    | none => none
  | .dcT kvs => match b with
    | .tup ds => match keysD ds with
      | some ks => (getK kvs ks).map .fz
      | none => none
    | _ => none
  | _ => none
theorem repL_at {K : Fg} {mg : Mg} {η : List Addr} {M : Hp} {vs : List V} {ds : List D} {i : Int} {d : D} (r : RepL K mg η M vs ds) (e : atI ds i = some d) : ∃ v, atI vs i = some v ∧ Rep K mg η M v d := by
  unfold atI at e ⊢
  rw [r.length]
  cases q : ixN ds.length i with
  | none => rw [q] at e; cases e
  | some j =>
    rw [q] at e
    obtain ⟨v, h1, h2⟩ := r.getD' (show ds[j]? = some d from e)
    exact ⟨v, h1, h2⟩
theorem o_ix (hu : X.A.units + 1 < cLine) : Op2 X (Wi2 X) gIx := by
  intro E η M c σ H x y dx dy r s h1 h2 e Q hQ
  unfold gIx at e
  cases dx with
  | lst xs =>
    cases dy with
    | int i =>
      obtain ⟨d, e1, rfl⟩ := Option.map_eq_some_iff.mp e
      obtain ⟨a, ys, rfl, q1, r1⟩ := h1.lst s.sub
      obtain ⟨v, hv, rv⟩ := repL_at r1 e1
      exact ix_wi ix_list ⟨a, ys, i, v, rfl, h2.int, .of q1, hv, pst_fz s hQ rv⟩
    | _ => cases e
  | ro xs =>
    cases dy with
    | int i =>
      obtain ⟨d, e1, rfl⟩ := Option.map_eq_some_iff.mp e
      obtain ⟨a, ys, rfl, q1, r1⟩ := h1.ro s.sub
      obtain ⟨v, hv, rv⟩ := repL_at r1 e1
      exact ix_wi ix_list ⟨a, ys, i, v, rfl, h2.int, q1, hv, pst_fz s hQ rv⟩
    | _ => cases e
  | tup xs =>
    cases dy with
    | int i =>
      obtain ⟨d, e1, rfl⟩ := Option.map_eq_some_iff.mp e
      obtain ⟨a, ys, rfl, q1, r1⟩ := h1.tup s.sub
      obtain ⟨v, hv, rv⟩ := repL_at r1 e1
      exact ix_wi ix_tup ⟨a, ys, i, v, rfl, h2.int, .of q1, hv, pst_fz s hQ rv⟩
    | _ => cases e
  | str z =>
    cases dy with
    | int i =>
      dsimp only at e
      split at e
      · obtain ⟨d, e1, rfl⟩ := Option.map_eq_some_iff.mp e
        exact ix_wi ix_str ⟨z, i, d, h1.str, h2.int, by assumption, e1, pst_fz s hQ (.str _)⟩
      · cases e
    | _ => cases e
  | dct kvs =>
    dsimp only at e
    cases q : keyD dy with
    | none => rw [q] at e; cases e
    | some k =>
      rw [q] at e
      obtain ⟨d, e1, rfl⟩ := Option.map_eq_some_iff.mp e
      obtain ⟨a, vs, rfl, q1, q2, q3⟩ := h1.dct s.sub
      obtain ⟨v, hv, rv⟩ := (rep_getK q2 q3).1 d e1
      exact ix_wi (ix_dict hu) ⟨a, v, rfl, by rw [rep_key h2 q, ← hv]; exact DGet.k q1, pst_fz s hQ rv⟩
  | dcT kvs =>
    cases dy with
    | tup ds =>
      dsimp only at e
      cases q : keysD ds with
      | none => rw [q] at e; cases e
      | some ks =>
        rw [q] at e
        obtain ⟨d, e1, rfl⟩ := Option.map_eq_some_iff.mp e
        obtain ⟨a, vs, rfl, q1, q2, q3⟩ := h1.dcT s.sub
        obtain ⟨b, ys, rfl, k1, k2⟩ := h2.tup s.sub
        obtain ⟨v, hv, rv⟩ := (rep_getK q2 q3).1 d e1
        rw [repL_keys k2 q] at k1
        exact ix_wi (ix_dict hu) ⟨a, v, rfl, by rw [← hv]; exact DGet.t q1 k1, pst_fz s hQ rv⟩
    | _ => cases e
  | _ => cases e

/-! ### slices -/
def cutL {α : Type} (xs : List α) (lo hi : Option Int) : List α := (xs.drop (HT.sIx xs.length 0 lo)).take (HT.sIx xs.length xs.length hi - HT.sIx xs.length 0 lo)
theorem repL_cut {K : Fg} {mg : Mg} {η : List Addr} {M : Hp} {vs : List V} {ds : List D} (r : RepL K mg η M vs ds) (lo hi : Option Int) : RepL K mg η M (cutV vs lo hi) (cutL ds lo hi) := by
  unfold cutV cutL
  rw [r.length]
  exact (r.drop _).take _
theorem cutL_whole {α : Type} {xs : List α} {lo hi : Option Int} (h : HT.sIx xs.length 0 lo = 0 ∧ HT.sIx xs.length xs.length hi = xs.length) : cutL xs lo hi = xs := by
  unfold cutL
  rw [h.1, h.2]
  simp
def gSl (a : D) (lo hi : Option Int) : Option Rv := match a with
  | .lst xs => some (.nw (.lst (cutL xs lo hi)))
  | .ro xs => some (.nw (.lst (cutL xs lo hi)))
  | .tup xs => some (.fz (.tup (cutL xs lo hi)))
  | .str z => if z.length ≤ sizeLine then some (.fz (.str (cutS z lo hi))) else none
  | _ => none
def Wsl (X : Cx) : V → Option Int → Option Int → Hp → VK → Prop := fun x lo hi H Q => ∃ r, SlR X r ∧ r x lo hi H Q
theorem wsl_sl : SlR X (Wsl X) := by
  intro pins s σ H x v vl vu lo hi sl Q I rx hs pl pu h
  obtain ⟨r, hr, q⟩ := h
  exact hr pins s σ H x v vl vu lo hi sl Q I rx hs pl pu q
/-- an optional part of a slice -/
def Px (X : Cx) (e : Option Expr) (m : Cf → Res (Option Int)) : Prop := ∃ t, PO X e t ∧ ∀ E η M c σ H, SR X.K X.mg E η M c σ H → Out X (fun _ _ _ _ _ _ a b => a = b) (t σ H) E η M σ (m c)
def pNo : Cf → Res (Option Int) := fun c => .ok none c
def pSome (me : Em) : Cf → Res (Option Int) := fun c => (me c).bind fun r c1 => match view c1 r with
  | some (.int i) => .ok (some i) c1
  | _ => .stuck
theorem px_none : Px X none pNo := ⟨_, po_none, fun E η M c σ H s => out_ok s (fun Q hq => hq) rfl⟩
theorem px_some (ha : Ex X a ma) : Px X (some a) (pSome ma) := by
  refine ⟨_, po_some we_pe, fun E η M c σ H s => ?_⟩
  refine Out.bind (fun (x : V) H1 (Q : Option Int → Hp → Prop) => ∃ i, x = V.int i ∧ Q (some i) H1) (ha E η M c σ H s) (fun Q hq => hq) fun r c1 x η1 M1 H1 s1 x1 z1 => ?_
  cases e1 : view c1 r with
  | none => trivial
  | some d =>
    cases d with
    | int i => exact out_ok s1 (fun Q hq => ⟨i, (view_ok s1 z1 e1).int, hq⟩) rfl
    | _ => trivial
def mSl (me : Em) (lo hi : Cf → Res (Option Int)) : Em := fun c => (me c).st.bind fun r c1 => (lo c1).bind fun l c2 => (hi c2).bind fun h c3 => match view c3 r with
  | some d => match gSl d l h with
    | some r' => .ok r' c3
    | none => .stuck
  | none => .stuck
theorem ex_slice {lo hi : Option Expr} {p2 : Pos} {ml mh : Cf → Res (Option Int)} (ha : Ex X a ma) (hl : Px X lo ml) (hh : Px X hi mh) : Ex X (.Subscript a (.Slice lo hi none p2) pos) (mSl ma ml mh) := by
  obtain ⟨tl, pl, ql⟩ := hl
  obtain ⟨th, ph, qh⟩ := hh
  refine ⟨fun E η M c σ H s => ?_⟩
  refine Out.bind (R := RVst X.K X.mg) (fun x H1 Q => tl σ H1 fun l H2 => th σ H2 fun u H3 => Wsl X x l u H3 Q) (out_st (ha E η M c σ H s)) (fun Q hq => pe_we (pe_slice wsl_sl we_pe pl ph) hq) fun r c1 x η1 M1 H1 s1 x1 z1 => ?_
  refine Out.bind (fun l H2 Q => th σ H2 fun u H3 => Wsl X x l u H3 Q) (ql E η1 M1 c1 σ H1 s1) (fun Q hq => hq) fun l c2 l' η2 M2 H2 s2 x2 z2 => ?_
  cases z2
  refine Out.bind (fun u H3 Q => Wsl X x l u H3 Q) (qh E η2 M2 c2 σ H2 s2) (fun Q hq => hq) fun u c3 u' η3 M3 H3 s3 x3 z3 => ?_
  cases z3
  cases e1 : view c3 r with
  | none => trivial
  | some d =>
    dsimp only
    cases e2 : gSl d l u with
    | none => trivial
    | some r' =>
      intro Q hQ
      have vw := view_ok s3 (z1.2.keep (x2.trans x3) z1.1) e1
      unfold gSl at e2
      cases d with
      | lst ds =>
        cases e2
        obtain ⟨b, ys, rfl, q1, r1⟩ := vw.lst s3.sub
        exact ⟨_, sl_list, b, ys, rfl, .of q1, pst_nw s3 hQ fun p hp => ⟨_, upd_same, repL_cut r1 _ _⟩⟩
      | ro ds =>
        cases e2
        obtain ⟨b, ys, rfl, q1, r1⟩ := vw.ro s3.sub
        exact ⟨_, sl_list, b, ys, rfl, q1, pst_nw s3 hQ fun p hp => ⟨_, upd_same, repL_cut r1 _ _⟩⟩
      | tup ds =>
        cases e2
        obtain ⟨b, ys, rfl, q1, r1⟩ := vw.tup s3.sub
        refine ⟨_, sl_tupA, b, ys, rfl, .of q1, fun hw => ?_, fun _ p hp => ?_⟩
        · rw [cutL_whole (by rw [← r1.length]; exact hw)] at hQ
          exact pst_fz s3 hQ vw.rtup
        · obtain ⟨f1, f2, f3, f4⟩ := s3.free hp
          obtain ⟨s4, x4⟩ := (s3.alloc (o := .tup (cutV ys l u)) hp).freeze f1 f2 f3 f4 upd_same
          exact hQ _ η3 _ _ s4 x4 (.tup upd_same ((repL_cut r1 _ _).mono x4))
      | str z =>
        dsimp only at e2
        split at e2
        · cases e2
          exact ⟨_, sl_str, z, vw.str, by assumption, pst_fz s3 hQ (.str _)⟩
        · cases e2
      | _ => cases e2

/-! ### built-in calls -/
def g1 (g : D → Option Rv) : List D → Option Rv
  | [d] => g d
  | _ => none
def g2 (g : D → D → Option Rv) : List D → Option Rv
  | [d, e] => g d e
  | _ => none
theorem opN1 {f : Value} {g : D → Option Rv} (h : ∀ E η M c σ H x dx r, SR X.K X.mg E η M c σ H → VwR X.K X.mg η M H x dx → g dx = some r → ∀ Q : VK, Pst X E η M c σ r Q → Wc X f [x] H Q) : OpN X (Wc X f) (g1 g) := by
  intro E η M c σ H xs ds r s hp e Q hQ
  match ds, hp, e with
  | [d], .cons h1 .nil, e => exact h E η M c σ H _ d r s h1 e Q hQ
  | [], _, e => cases e
  | _ :: _ :: _, _, e => cases e
theorem opN2 {f : Value} {g : D → D → Option Rv} (h : ∀ E η M c σ H x y dx dy r, SR X.K X.mg E η M c σ H → VwR X.K X.mg η M H x dx → VwR X.K X.mg η M H y dy → g dx dy = some r → ∀ Q : VK, Pst X E η M c σ r Q → Wc X f [x, y] H Q) : OpN X (Wc X f) (g2 g) := by
  intro E η M c σ H xs ds r s hp e Q hQ
  match ds, hp, e with
  | [d, d'], .cons h1 (.cons h2 .nil), e => exact h E η M c σ H _ _ d d' r s h1 h2 e Q hQ
  | [], _, e => cases e
  | [_], _, e => cases e
  | _ :: _ :: _ :: _, _, e => cases e
def gLen (d : D) : Option Rv := match d with
  | .str y => if y.length ≤ sizeLine then some (.fz (.int y.length)) else none
  | .lst xs => some (.fz (.int xs.length))
  | .ro xs => some (.fz (.int xs.length))
  | .tup xs => some (.fz (.int xs.length))
  | .dct xs => some (.fz (.int xs.length))
  | _ => none
theorem c_len : OpN X (Wc X (.builtin "len")) (g1 gLen) := by
  refine opN1 fun E η M c σ H x dx r s h1 e Q hQ => ?_
  unfold gLen at e
  cases dx with
  | str y =>
    dsimp only at e
    split at e
    · cases e; exact call_wc call_len ⟨_, _, rfl, by rw [h1.str]; exact ⟨by assumption, rfl⟩, pst_fz s hQ (.int _)⟩
    · cases e
  | lst ds =>
    cases e
    obtain ⟨a, xs, rfl, q, r⟩ := h1.lst s.sub
    exact call_wc call_len ⟨_, _, rfl, .inl ⟨xs, .of q, rfl⟩, by rw [r.length]; exact pst_fz s hQ (.int _)⟩
  | ro ds =>
    cases e
    obtain ⟨a, xs, rfl, q, r⟩ := h1.ro s.sub
    exact call_wc call_len ⟨_, _, rfl, .inl ⟨xs, q, rfl⟩, by rw [r.length]; exact pst_fz s hQ (.int _)⟩
  | tup ds =>
    cases e
    obtain ⟨a, xs, rfl, q, r⟩ := h1.tup s.sub
    exact call_wc call_len ⟨_, _, rfl, .inr ⟨xs, .of q, rfl⟩, by rw [r.length]; exact pst_fz s hQ (.int _)⟩
  | dct ds =>
    cases e
    obtain ⟨a, kvs, rfl, q, k, r⟩ := h1.dct s.sub
    exact call_wc call_lenD ⟨a, kvs, rfl, q, by rw [keys_len k]; exact pst_fz s hQ (.int _)⟩
  | _ => cases e
def gAbs (d : D) : Option Rv := match d with
  | .int i => some (.fz (.int (if i < 0 then -i else i)))
  | _ => none
theorem c_abs : OpN X (Wc X (.builtin "abs")) (g1 gAbs) := by
  refine opN1 fun E η M c σ H x dx r s h1 e Q hQ => ?_
  unfold gAbs at e
  split at e
  · cases e; exact call_wc call_abs ⟨_, by rw [h1.int], pst_fz s hQ (.int _)⟩
  · cases e
def gInt (d : D) : Option Rv := match d with
  | .int i => some (.fz (.int i))
  | .bl b => some (.fz (.int (if b then 1 else 0)))
  | _ => none
theorem c_int : OpN X (Wc X (.type "int")) (g1 gInt) := by
  refine opN1 fun E η M c σ H x dx r s h1 e Q hQ => ?_
  unfold gInt at e
  split at e
  · cases e; exact call_wc call_int1 (.inl ⟨_, by rw [h1.int], pst_fz s hQ (.int _)⟩)
  · cases e; exact call_wc call_int1 (.inr ⟨_, by rw [h1.bl], pst_fz s hQ (.int _)⟩)
  · cases e
def gList (d : D) : Option Rv := match d with
  | .lst xs => some (.nw (.lst xs))
  | .ro xs => some (.nw (.lst xs))
  | .tup xs => some (.nw (.lst xs))
  | _ => none
theorem c_list : OpN X (Wc X (.type "list")) (g1 gList) := by
  refine opN1 fun E η M c σ H x dx r s h1 e Q hQ => ?_
  unfold gList at e
  split at e
  · cases e
    obtain ⟨a, xs, rfl, q, r⟩ := h1.lst s.sub
    exact call_wc call_list_of ⟨a, xs, rfl, .inl (.of q), pst_nw s hQ fun p hp => ⟨_, upd_same, r⟩⟩
  · cases e
    obtain ⟨a, xs, rfl, q, r⟩ := h1.ro s.sub
    exact call_wc call_list_of ⟨a, xs, rfl, .inl q, pst_nw s hQ fun p hp => ⟨_, upd_same, r⟩⟩
  · cases e
    obtain ⟨a, xs, rfl, q, r⟩ := h1.tup s.sub
    exact call_wc call_list_of ⟨a, xs, rfl, .inr (.of q), pst_nw s hQ fun p hp => ⟨_, upd_same, r⟩⟩
  · cases e
def gTuple (d : D) : Option Rv := match d with
  | .lst xs => some (.fz (.tup xs))
  | .tup xs => some (.fz (.tup xs))
  | _ => none
theorem c_tuple : OpN X (Wc X (.type "tuple")) (g1 gTuple) := by
  refine opN1 fun E η M c σ H x dx r s h1 e Q hQ => ?_
  unfold gTuple at e
  split at e
  · cases e
    obtain ⟨a, xs, rfl, q, r⟩ := h1.lst s.sub
    refine call_wc call_tuple_of ⟨a, xs, rfl, .inl ⟨.of q, fun p hp => ?_⟩⟩
    obtain ⟨f1, f2, f3, f4⟩ := s.free hp
    obtain ⟨s4, x4⟩ := (s.alloc (o := .tup xs) hp).freeze f1 f2 f3 f4 upd_same
    exact hQ _ η _ _ s4 x4 (.tup upd_same (r.mono x4))
  · cases e
    obtain ⟨a, xs, rfl, q, r⟩ := h1.tup s.sub
    exact call_wc call_tuple_of ⟨a, xs, rfl, .inr ⟨.of q, pst_fz s hQ h1.rtup⟩⟩
  · cases e
/-- lists of truths, of ints -/
def blsD : List D → Option (List Bool)
  | [] => some []
  | .bl b :: ds => (blsD ds).map (b :: ·)
  | _ => none
def intsD : List D → Option (List Int)
  | [] => some []
  | .int b :: ds => (intsD ds).map (b :: ·)
  | _ => none
def strsD : List D → Option (List Str)
  | [] => some []
  | .str b :: ds => (strsD ds).map (b :: ·)
  | _ => none
theorem repL_bls {K : Fg} {mg : Mg} {η : List Addr} {M : Hp} : ∀ {ds : List D} {vs : List V} {bs : List Bool}, RepL K mg η M vs ds → blsD ds = some bs → vs = bs.map V.bl
  | [], _, _, .nil, e => by cases e; rfl
  | .bl b :: ds, _, _, .cons (.bl _) hs, e => by
    obtain ⟨bs, e1, rfl⟩ := Option.map_eq_some_iff.mp (show (blsD ds).map (b :: ·) = some _ from e)
    rw [repL_bls hs e1]; rfl
  | .non :: _, _, _, _, e | .int _ :: _, _, _, _, e | .str _ :: _, _, _, _, e | .lst _ :: _, _, _, _, e | .ro _ :: _, _, _, _, e | .tup _ :: _, _, _, _, e | .dct _ :: _, _, _, _, e | .dcT _ :: _, _, _, _, e | .obj _ _ :: _, _, _, _, e | .hdl _ :: _, _, _, _, e | .exc _ _ :: _, _, _, _, e => by cases e
theorem repL_ints {K : Fg} {mg : Mg} {η : List Addr} {M : Hp} : ∀ {ds : List D} {vs : List V} {bs : List Int}, RepL K mg η M vs ds → intsD ds = some bs → vs = bs.map V.int
  | [], _, _, .nil, e => by cases e; rfl
  | .int b :: ds, _, _, .cons (.int _) hs, e => by
    obtain ⟨bs, e1, rfl⟩ := Option.map_eq_some_iff.mp (show (intsD ds).map (b :: ·) = some _ from e)
    rw [repL_ints hs e1]; rfl
  | .non :: _, _, _, _, e | .bl _ :: _, _, _, _, e | .str _ :: _, _, _, _, e | .lst _ :: _, _, _, _, e | .ro _ :: _, _, _, _, e | .tup _ :: _, _, _, _, e | .dct _ :: _, _, _, _, e | .dcT _ :: _, _, _, _, e | .obj _ _ :: _, _, _, _, e | .hdl _ :: _, _, _, _, e | .exc _ _ :: _, _, _, _, e => by cases e
theorem repL_strs {K : Fg} {mg : Mg} {η : List Addr} {M : Hp} : ∀ {ds : List D} {vs : List V} {bs : List Str}, RepL K mg η M vs ds → strsD ds = some bs → vs = bs.map V.str
  | [], _, _, .nil, e => by cases e; rfl
  | .str b :: ds, _, _, .cons (.str _) hs, e => by
    obtain ⟨bs, e1, rfl⟩ := Option.map_eq_some_iff.mp (show (strsD ds).map (b :: ·) = some _ from e)
    rw [repL_strs hs e1]; rfl
  | .non :: _, _, _, _, e | .bl _ :: _, _, _, _, e | .int _ :: _, _, _, _, e | .lst _ :: _, _, _, _, e | .ro _ :: _, _, _, _, e | .tup _ :: _, _, _, _, e | .dct _ :: _, _, _, _, e | .dcT _ :: _, _, _, _, e | .obj _ _ :: _, _, _, _, e | .hdl _ :: _, _, _, _, e | .exc _ _ :: _, _, _, _, e => by cases e
def gAny (d : D) : Option Rv := match d with
  | .lst xs => (blsD xs).map fun bs => .fz (.bl (bs.any id))
  | _ => none
def gAll (d : D) : Option Rv := match d with
  | .lst xs => (blsD xs).map fun bs => .fz (.bl (bs.all id))
  | _ => none
theorem c_any (hc : X.calm = true) : OpN X (Wc X (.builtin "any")) (g1 gAny) := by
  refine opN1 fun E η M c σ H x dx r s h1 e Q hQ => ?_
  unfold gAny at e
  split at e
  · obtain ⟨bs, e1, rfl⟩ := Option.map_eq_some_iff.mp e
    obtain ⟨a, xs, rfl, q, r⟩ := h1.lst s.sub
    have := repL_bls r e1
    subst this
    exact call_wc (cr_any hc) ⟨a, bs, rfl, .of q, pst_fz s hQ (.bl _)⟩
  · cases e
theorem c_all (hc : X.calm = true) : OpN X (Wc X (.builtin "all")) (g1 gAll) := by
  refine opN1 fun E η M c σ H x dx r s h1 e Q hQ => ?_
  unfold gAll at e
  split at e
  · obtain ⟨bs, e1, rfl⟩ := Option.map_eq_some_iff.mp e
    obtain ⟨a, xs, rfl, q, r⟩ := h1.lst s.sub
    have := repL_bls r e1
    subst this
    exact call_wc (cr_all hc) ⟨a, bs, rfl, .of q, pst_fz s hQ (.bl _)⟩
  · cases e
def gSum (d : D) : Option Rv := match d with
  | .lst xs => (intsD xs).map fun bs => .fz (.int bs.sum)
  | _ => none
theorem c_sum (hc : X.calm = true) : OpN X (Wc X (.builtin "sum")) (g1 gSum) := by
  refine opN1 fun E η M c σ H x dx r s h1 e Q hQ => ?_
  unfold gSum at e
  split at e
  · obtain ⟨bs, e1, rfl⟩ := Option.map_eq_some_iff.mp e
    obtain ⟨a, xs, rfl, q, r⟩ := h1.lst s.sub
    have := repL_ints r e1
    subst this
    exact call_wc (cr_sum hc) ⟨a, bs, rfl, .of q, pst_fz s hQ (.int _)⟩
  · cases e
def gMax2 (a b : D) : Option Rv := match a, b with
  | .int i, .int j => some (.fz (.int (if j > i then j else i)))
  | _, _ => none
def gMin2 (a b : D) : Option Rv := match a, b with
  | .int i, .int j => some (.fz (.int (if j < i then j else i)))
  | _, _ => none
theorem c_max2 (hc : X.calm = true) : OpN X (Wc X (.builtin "max")) (g2 gMax2) := by
  refine opN2 fun E η M c σ H x y dx dy r s h1 h2 e Q hQ => ?_
  unfold gMax2 at e
  split at e
  · cases e; exact call_wc (call_max2 hc) ⟨_, _, by rw [h1.int, h2.int], pst_fz s hQ (.int _)⟩
  · cases e
theorem c_min2 (hc : X.calm = true) : OpN X (Wc X (.builtin "min")) (g2 gMin2) := by
  refine opN2 fun E η M c σ H x y dx dy r s h1 h2 e Q hQ => ?_
  unfold gMin2 at e
  split at e
  · cases e; exact call_wc (call_min2 hc) ⟨_, _, by rw [h1.int, h2.int], pst_fz s hQ (.int _)⟩
  · cases e
end
end LH
/-! LHMut: what changes: lists and dicts by their methods, stores by place, op= ; dict displays, get, in. -/
namespace LH
open PySem PySem.Spec PyProof.Rows L2
/-- the content of a place -/
def cont (c : Cf) : Rv → Option D
  | .loc i => match c.ρ[i]? with
    | some (.ow d) => some d
    | _ => none
  | .fz (.hdl n) => c.S[n]?
  | _ => none
def putB (c : Cf) (r : Rv) (d : D) : Option Cf := match r with
  | .loc i => some { c with ρ := c.ρ.set i (.ow d) }
  | .fz (.hdl n) => some { c with S := c.S.set n d }
  | _ => none
section
variable {K : Fg} {mg : Mg} {E : En} {η η' : List Addr} {M M' H H' : Hp} {c c' : Cf} {σ σ' : St} {v : V} {r : Rv} {d : D}
theorem cont_ok (s : SR K mg E η M c σ H) (h : RvR K mg E η M c σ H v r) (e : cont c r = some d) :
    ∃ a, v = .ref a ∧ M a = none ∧ At K mg η M H a d ∧ ∀ o d' c', At K mg η M (upd H a o) a d' → putB c r d' = some c' → SR K mg E η M c' σ (upd H a o) := by
  cases r with
  | nw t => cases e
  | loc i =>
    unfold cont at e
    dsimp only at e
    cases q : c.ρ[i]? with
    | none => rw [q] at e; cases e
    | some sl =>
      rw [q] at e
      cases sl with
      | ow t =>
        cases e
        obtain ⟨a, e1, q1, q2, q3, q4⟩ := s.slot i _ q
        have h : σ[i]? = some (some v) := h
        rw [h] at e1; cases e1
        refine ⟨a, rfl, q1, q4, fun o d' c' ha hp => ?_⟩
        cases hp
        exact s.writeSlot q h ha
      | _ => cases e
  | fz t =>
    cases t with
    | hdl n =>
      cases h with
      | hdl hn =>
        obtain ⟨q1, q2⟩ := s.hdl n _ d hn e
        refine ⟨_, rfl, q1, q2, fun o d' c' ha hp => ?_⟩
        cases hp
        exact s.writeHdl hn e ha
    | _ => cases e
theorem cont_settled (e : cont c r = some d) : Settled r := by
  cases r with
  | nw t => cases e
  | _ => trivial
end
def tyD (T : String) : D → Bool
  | .lst _ => T == "list"
  | .dct _ => T == "dict"
  | .dcT _ => T == "dict"
  | _ => false
theorem tyD_ok {K : Fg} {mg : Mg} {η : List Addr} {M H : Hp} {a : Addr} {d : D} {T : String} (h : At K mg η M H a d) (e : tyD T d = true) : tyV K T (.ref a) H := by
  cases d with
  | lst ds => obtain ⟨xs, hx, _⟩ := h; exact .inl ⟨by simpa [tyD] using e, xs, .of hx⟩
  | dct ds => obtain ⟨xs, hx, _⟩ := h; exact .inr (.inr (.inl ⟨by simpa [tyD] using e, .inl ⟨xs, hx⟩⟩))
  | dcT ds => obtain ⟨xs, hx, _⟩ := h; exact .inr (.inr (.inl ⟨by simpa [tyD] using e, .inr ⟨xs, hx⟩⟩))
  | _ => cases e
/-- a method that changes its object -/
def OpM (X : Cx) (id : String) (g : D → List D → Option (D × D)) : Prop :=
  ∀ η M H a xs d ds d' res, Same M H → At X.K X.mg η M H a d → RepL X.K X.mg η M xs ds → g d ds = some (d', res) →
    ∀ Q : VK, (∀ v o, At X.K X.mg η M (upd H a o) a d' → Rep X.K X.mg η M v res → Q v (upd H a o)) → Wm X id (.ref a) xs H Q
def mMut (T : String) (g : D → List D → Option (D × D)) (mo : Em) (ms : Cf → Res (List Rv)) : Em := fun c => (mo c).bind fun r c1 =>
  match cont c1 r with
  | none => .stuck
  | some d1 => if tyD T d1 then (ms c1).bind fun rs c2 => (match vals c2 rs with
    | none => .stuck
    | some (ds, c3) => match cont c3 r with
      | none => .stuck
      | some d => match g d ds with
        | none => .stuck
        | some (d', res) => match putB c3 r d' with
          | none => .stuck
          | some c4 => .ok (.fz res) c4) else .stuck
/-- .. without arguments: also of a new object that nobody keeps -/
def mMut0 (T : String) (g : D → List D → Option (D × D)) (mo : Em) : Em := fun c => (mo c).bind fun r c1 =>
  match r with
  | .nw d => if tyD T d then (match g d [] with
    | none => .stuck
    | some (_, res) => .ok (.fz res) c1) else .stuck
  | r => match cont c1 r with
    | none => .stuck
    | some d => if tyD T d then (match g d [] with
      | none => .stuck
      | some (d', res) => match putB c1 r d' with
        | none => .stuck
        | some c4 => .ok (.fz res) c4) else .stuck
section
variable {X : Cx} {E : En} {η η' : List Addr} {M M' H H' : Hp} {c c' : Cf} {σ σ' : St} {o e a b : Expr} {es : List Expr} {mo me ma mb : Em} {ms : Cf → Res (List Rv)} {name : Str} {apos cpos pos pos' : Pos} {T id : String} {g : D → List D → Option (D × D)}
theorem ex_mut (hm : OpM X id g) (pa : PlainAttrs T) (slot : Slot T name id) (hty : typeOf (.builtin id) = pure (.type "method_descriptor")) (ho : Ex X o mo) (ha : Ax X (e :: es) ms)
    (hbase : attributeBase o name X.env (eval o X.env) = eval o X.env := by rfl)
    (hfew : ((backTo cpos (starEach (e :: es) X.env)).all (fun x => !x.1) && (backToKw cpos (keywordEach [] X.env)).all (fun x => x.1.isSome)
      && decide ((e :: es).length + ([] : List Keyword).length + (if ([] : List Keyword).isEmpty then 0 else 1) < 30)) = true := by rfl)
    (hline : (apos.endLine == cpos.line) = true := by rfl) (hs : starEach (e :: es) X.env = (false, eval e X.env) :: starEach es X.env := by rfl) (hplain : (backTo cpos (starEach es X.env)).any (·.1) = false := by rfl) :
    Ex X (.Call (.Attribute o name apos) (e :: es) [] cpos) (mMut T g mo ms) := by
  refine ⟨fun E η M c σ H s => ?_⟩
  refine Out.bind (fun x H1 Q => tyV X.K T x H1 ∧ Wa X (e :: es) σ H1 fun xs H2 => Wm X id x xs H2 Q) (ho E η M c σ H s) (fun Q hq => pe_we (pe_bm pa slot hty wm_mt we_pe wa_pa hbase hfew hline hs hplain) hq) fun r c1 x η1 M1 H1 s1 x1 z1 => ?_
  cases e1 : cont c1 r with
  | none => trivial
  | some d1 =>
    dsimp only
    cases ht : tyD T d1 with
    | false => rw [if_neg Bool.false_ne_true]; trivial
    | true =>
      rw [if_pos rfl]
      obtain ⟨a1, rfl, _, ha1, _⟩ := cont_ok s1 z1 e1
      refine Out.bind (R := RVs X.K X.mg) (fun xs H2 Q => Wm X id (.ref a1) xs H2 Q) (ha E η1 M1 c1 σ H1 s1) (fun Q hq => ⟨tyD_ok ha1 ht, hq⟩) fun rs c2 xs η2 M2 H2 s2 x2 z2 => ?_
      cases e2 : vals c2 rs with
      | none => trivial
      | some q =>
        obtain ⟨ds, c3⟩ := q
        dsimp only
        cases e3 : cont c3 r with
        | none => trivial
        | some d =>
          dsimp only
          cases e4 : g d ds with
          | none => trivial
          | some p =>
            obtain ⟨d', res⟩ := p
            dsimp only
            cases e5 : putB c3 r d' with
            | none => trivial
            | some c4 =>
              obtain ⟨M3, s3, x3, r3⟩ := vals_ok s2 z2.1 z2.2 e2
              obtain ⟨a2, ea, _, ha2, wr⟩ := cont_ok s3 (z1.keep (c' := c3) (x2.trans x3) (cont_settled e1)) e3
              cases ea
              refine out_ext x3 fun Q hQ => hm η2 M3 H2 a1 xs d ds d' res s3.sub ha2 r3 e4 Q fun v o hA hr => ?_
              exact hQ v η2 M3 _ (wr o d' c4 hA e5) .refl hr
theorem ex_mut0 (hm : OpM X id g) (pa : PlainAttrs T) (slot : Slot T name id) (hty : typeOf (.builtin id) = pure (.type "method_descriptor")) (ho : Ex X o mo)
    (hbase : attributeBase o name X.env (eval o X.env) = eval o X.env := by rfl) (hline : (apos.endLine == cpos.line) = true := by rfl) : Ex X (.Call (.Attribute o name apos) [] [] cpos) (mMut0 T g mo) := by
  refine ⟨fun E η M c σ H s => ?_⟩
  refine Out.bind (fun x H1 Q => tyV X.K T x H1 ∧ Wm X id x [] H1 Q) (ho E η M c σ H s) (fun Q hq => pe_we (pe_bm0 pa slot hty wm_mt we_pe hbase hline) hq) fun r c1 x η1 M1 H1 s1 x1 z1 => ?_
  have plain : Settled r → Out X (RV X.K X.mg) (fun Q => tyV X.K T x H1 ∧ Wm X id x [] H1 Q) E η1 M1 σ (match cont c1 r with
    | none => .stuck
    | some d => if tyD T d then (match g d [] with
      | none => .stuck
      | some (d', res) => match putB c1 r d' with
        | none => .stuck
        | some c4 => .ok (.fz res) c4) else .stuck) := fun _ => by
    cases e1 : cont c1 r with
    | none => trivial
    | some d =>
      dsimp only
      cases ht : tyD T d with
      | false => rw [if_neg Bool.false_ne_true]; trivial
      | true =>
        rw [if_pos rfl]
        cases e4 : g d [] with
        | none => trivial
        | some p =>
          obtain ⟨d', res⟩ := p
          dsimp only
          cases e5 : putB c1 r d' with
          | none => trivial
          | some c4 =>
            obtain ⟨a1, rfl, _, ha1, wr⟩ := cont_ok s1 z1 e1
            exact fun Q hQ => ⟨tyD_ok ha1 ht, hm η1 M1 H1 a1 [] d [] d' res s1.sub ha1 .nil e4 Q fun v o hA hr => hQ v η1 M1 _ (wr o d' c4 hA e5) .refl hr⟩
  cases r with
  | loc i => exact plain trivial
  | fz d => exact plain trivial
  | nw d =>
    dsimp only
    cases ht : tyD T d with
    | false => rw [if_neg Bool.false_ne_true]; trivial
    | true =>
      rw [if_pos rfl]
      cases e4 : g d [] with
      | none => trivial
      | some p =>
        obtain ⟨d', res⟩ := p
        obtain ⟨a1, rfl, h1, h2, h3, h4, h5⟩ := z1
        exact fun Q hQ => ⟨tyD_ok h5 ht, hm η1 M1 H1 a1 [] d [] d' res s1.sub h5 .nil e4 Q fun v o hA hr => hQ v η1 M1 _ (s1.writeTmp h1 h2 h3 h4) .refl hr⟩

/-! ### the methods -/
def gAppend (d : D) (ds : List D) : Option (D × D) := match d, ds with
  | .lst xs, [y] => if xs.length < sizeLine then some (.lst (xs ++ [y]), .non) else none
  | _, _ => none
theorem m_append : OpM X "list.append" gAppend := by
  intro η M H a xs d ds d' res hs hA hr e Q hQ
  unfold gAppend at e
  split at e
  · split at e
    · cases e
      obtain ⟨ys, hy, r⟩ := hA
      cases hr with
      | cons h1 h2 =>
        cases h2
        exact mt_wm mt_append ⟨a, ys, _, rfl, rfl, hy, by rw [r.length]; assumption, hQ _ _ ⟨_, upd_same, r.append (.cons h1 .nil)⟩ .non⟩
    · cases e
  · cases e
def gExtend (d : D) (ds : List D) : Option (D × D) := match d, ds with
  | .lst xs, [.lst ys] => if xs.length + ys.length ≤ sizeLine then some (.lst (xs ++ ys), .non) else none
  | _, _ => none
theorem m_extend : OpM X "list.extend" gExtend := by
  intro η M H a xs d ds d' res hs hA hr e Q hQ
  unfold gExtend at e
  split at e
  · split at e
    · cases e
      obtain ⟨ys, hy, r⟩ := hA
      cases hr with
      | cons h1 h2 =>
        cases h2
        cases h1 with
        | lst hq hr' => exact mt_wm mt_extend ⟨a, _, ys, _, rfl, rfl, hy, hs _ _ hq, by rw [r.length, hr'.length]; assumption, hQ _ _ ⟨_, upd_same, r.append hr'⟩ .non⟩
    · cases e
  · cases e
def gPop (d : D) (ds : List D) : Option (D × D) := match d, ds with
  | .lst xs, [] => (xs[xs.length - 1]?).map fun y => (.lst xs.dropLast, y)
  | .lst xs, [.int i] => if -(2 ^ 63) ≤ i ∧ i < 2 ^ 63 then (seqIndex? i xs.length).bind fun k => (xs[k]?).map fun y => (.lst (xs.eraseIdx k), y) else none
  | _, _ => none
theorem RepL.dropLast {K : Fg} {mg : Mg} {η : List Addr} {M : Hp} {ds : List D} {vs : List V} (h : RepL K mg η M vs ds) : RepL K mg η M vs.dropLast ds.dropLast := by
  rw [List.dropLast_eq_take, List.dropLast_eq_take, h.length]
  exact h.take _
theorem m_pop : OpM X "list.pop" gPop := by
  intro η M H a xs d ds d' res hs hA hr e Q hQ
  unfold gPop at e
  split at e
  · obtain ⟨y, e1, e2⟩ := Option.map_eq_some_iff.mp e
    cases e2
    obtain ⟨ys, hy, r⟩ := hA
    cases hr
    obtain ⟨v, hv, rv⟩ := r.getD' e1
    exact mt_wm mt_pop ⟨a, ys, v, rfl, rfl, hy, by rw [r.length]; exact hv, hQ _ _ ⟨_, upd_same, r.dropLast⟩ rv⟩
  · split at e
    · rename_i hb
      obtain ⟨k, e0, e'⟩ := Option.bind_eq_some_iff.mp e
      obtain ⟨y, e1, e2⟩ := Option.map_eq_some_iff.mp e'
      cases e2
      obtain ⟨ys, hy, r⟩ := hA
      cases hr with
      | cons h1 h2 =>
        cases h2
        cases h1
        obtain ⟨v, hv, rv⟩ := r.getD' e1
        exact mt_wm mt_popAt ⟨a, ys, _, k, v, rfl, rfl, hy, hb.1, hb.2, by rw [r.length]; exact e0, hv, hQ _ _ ⟨_, upd_same, r.eraseIdx k⟩ rv⟩
    · cases e
  · cases e
def gReverse (d : D) (ds : List D) : Option (D × D) := match d, ds with
  | .lst xs, [] => some (.lst xs.reverse, .non)
  | _, _ => none
theorem m_reverse : OpM X "list.reverse" gReverse := by
  intro η M H a xs d ds d' res hs hA hr e Q hQ
  unfold gReverse at e
  split at e
  · cases e
    obtain ⟨ys, hy, r⟩ := hA
    cases hr
    exact mt_wm mt_reverse ⟨a, ys, rfl, rfl, hy, hQ _ _ ⟨_, upd_same, r.reverse⟩ .non⟩
  · cases e
def gClear (d : D) (ds : List D) : Option (D × D) := match d, ds with
  | .lst xs, [] => some (.lst [], .non)
  | _, _ => none
theorem m_clear : OpM X "list.clear" gClear := by
  intro η M H a xs d ds d' res hs hA hr e Q hQ
  unfold gClear at e
  split at e
  · cases e
    obtain ⟨ys, hy, r⟩ := hA
    cases hr
    exact mt_wm mt_clear ⟨a, ys, rfl, rfl, hy, hQ _ _ ⟨_, upd_same, .nil⟩ .non⟩
  · cases e

/-! ### stores by place -/
/-- o[i] = v: g content key value -/
def sPut (g : D → D → D → Option D) (mv mo mi : Em) : Sm := fun c => (mv c).st.bind fun rv c1 => (mo c1).st.bind fun ro c2 => (mi c2).bind fun ri c3 =>
  match view c3 ri with
  | none => .stuck
  | some di => match toVal c3 rv with
    | none => .stuck
    | some (dv, c4) => match cont c4 ro with
      | none => .stuck
      | some d => match g d di dv with
        | none => .stuck
        | some d' => match putB c4 ro d' with
          | none => .stuck
          | some c5 => .ok .nx c5
theorem out_sPut {g : D → D → D → Option D} {mv mo mi : Em} {value o i : Expr} {tw : Ends → Prop} (k : V → V → V → Hp → Ends → Prop)
    (hv : Ex X value mv) (ho : Ex X o mo) (hi : Ex X i mi) (s : SR X.K X.mg E η M c σ H)
    (imp : ∀ Z : Ends, We X value σ H (fun v H1 => We X o σ H1 fun x H2 => We X i σ H2 fun y H3 => k v x y H3 Z) → tw Z)
    (hk : ∀ η M H a v y d di dv d', Same M H → At X.K X.mg η M H a d → VwR X.K X.mg η M H y di → Rep X.K X.mg η M v dv → g d di dv = some d' → ∀ Z : Ends, (∀ o, At X.K X.mg η M (upd H a o) a d' → Z.nx σ (upd H a o)) → k v (.ref a) y H Z) :
    OutS X tw E η M (sPut g mv mo mi c) := by
  refine OutS.bind (R := RVst X.K X.mg) (fun v H1 Z => We X o σ H1 fun x H2 => We X i σ H2 fun y H3 => k v x y H3 Z) (out_st (hv E η M c σ H s)) imp fun rv c1 v η1 M1 H1 s1 x1 z1 => ?_
  refine OutS.bind (R := RVst X.K X.mg) (fun x H2 Z => We X i σ H2 fun y H3 => k v x y H3 Z) (out_st (ho E η1 M1 c1 σ H1 s1)) (fun Z hq => hq) fun ro c2 x η2 M2 H2 s2 x2 z2 => ?_
  refine OutS.bind (fun y H3 Z => k v x y H3 Z) (hi E η2 M2 c2 σ H2 s2) (fun Z hq => hq) fun ri c3 y η3 M3 H3 s3 x3 z3 Z gd => ?_
  cases e1 : view c3 ri with
  | none => rw [e1] at gd; exact gd.elim
  | some di =>
    rw [e1] at gd
    dsimp only at gd
    cases e2 : toVal c3 rv with
    | none => rw [e2] at gd; exact gd.elim
    | some q =>
      obtain ⟨dv, c4⟩ := q
      rw [e2] at gd
      dsimp only at gd
      cases e3 : cont c4 ro with
      | none => rw [e3] at gd; exact gd.elim
      | some d =>
        rw [e3] at gd
        dsimp only at gd
        cases e4 : g d di dv with
        | none => rw [e4] at gd; exact gd.elim
        | some d' =>
          rw [e4] at gd
          dsimp only at gd
          cases e5 : putB c4 ro d' with
          | none => rw [e5] at gd; exact gd.elim
          | some c5 =>
            rw [e5] at gd
            have vy := view_ok s3 z3 e1
            obtain ⟨M4, s4, x4, r4⟩ := toVal_ok s3 (z1.2.keep (x2.trans x3) z1.1) e2
            obtain ⟨a, rfl, _, ha, wr⟩ := cont_ok s4 (z2.2.keep (c' := c4) (x3.trans x4) z2.1) e3
            exact hk η3 M4 H3 a v y d di dv d' s4.sub ha (vy.mono x4 fun _ _ z => z) r4 e4 Z fun o hA => gd σ η3 M4 _ (wr o d' c5 hA e5) x4
def gDput (d di dv : D) : Option D := match d with
  | .dct kvs => match keyD di with
    | some k => if kvs.length < sizeLine then some (.dct (setK kvs k dv)) else none
    | none => none
  | .dcT kvs => match di with
    | .tup ds => match keysD ds with
      | some ks => if kvs.length < sizeLine then some (.dcT (setK kvs ks dv)) else none
      | none => none
    | _ => none
  | _ => none
theorem sx_dput {value i : Expr} {mv mi : Em} (hu : X.A.units + 1 < cLine) (ho : Ex X o mo) (hi : Ex X i mi) (hv : Ex X value mv) (hs : swapsWith value (some (.Subscript o i pos')) pos.line X.env = pure false := by rfl) :
    Sx X (.Assign [.Subscript o i pos'] value pos) (sPut gDput mv mo mi) := by
  refine ⟨fun E η M c σ H s => ?_⟩
  refine out_sPut (fun v x y H3 Z => ∃ a H4, x = .ref a ∧ DPut H3 a y v H4 ∧ Z.nx σ H4) hv ho hi s (fun Z hq => ps_ws (ps_dput hu we_pe we_pe we_pe hs) hq) fun η M H a v y d di dv d' hs hA hy hr e Z hz => ?_
  unfold gDput at e
  cases d with
  | dct kvs =>
    dsimp only at e
    cases q : keyD di with
    | none => rw [q] at e; cases e
    | some k =>
      rw [q] at e
      dsimp only at e
      split at e
      · cases e
        obtain ⟨vs, h1, h2, h3⟩ := hA
        obtain ⟨k1, k2⟩ := rep_setK (k := k) hr h2 h3
        rw [rep_key hy q]
        exact ⟨a, _, rfl, DPut.k h1 (by rw [keys_len h2]; assumption), hz _ ⟨_, upd_same, k1, k2⟩⟩
      · cases e
  | dcT kvs =>
    cases di with
    | tup ds =>
      dsimp only at e
      cases q : keysD ds with
      | none => rw [q] at e; cases e
      | some ks =>
        rw [q] at e
        dsimp only at e
        split at e
        · cases e
          obtain ⟨vs, h1, h2, h3⟩ := hA
          obtain ⟨k1, k2⟩ := rep_setK (k := ks) hr h2 h3
          obtain ⟨b, ys, rfl, g1, g2⟩ := hy.tup hs
          rw [repL_keys g2 q] at g1
          exact ⟨a, _, rfl, DPut.t h1 g1 (by rw [keys_len h2]; assumption), hz _ ⟨_, upd_same, k1, k2⟩⟩
        · cases e
    | _ => cases e
  | _ => cases e
def gLput (d di dv : D) : Option D := match d, di with
  | .lst xs, .int k => (ixN xs.length k).map fun j => .lst (xs.set j dv)
  | _, _ => none
theorem sx_lput {value i : Expr} {mv mi : Em} (ho : Ex X o mo) (hi : Ex X i mi) (hv : Ex X value mv)
    (ha : ∀ v, assign (.Subscript o i pos') X.env v = (do
      let ov ← holding [v] (eval o X.env)
      let iv ← holding [v, ov] (eval i X.env)
      standAt pos'
      holding [v, ov, iv] (setItem ov iv v)
      release [v, ov, iv] []) := by intro _; rfl)
    (hs : swapsWithSole [.Subscript o i pos'] value pos.line X.env = pure false := by rfl) (hw : swappedStores [.Subscript o i pos'] value X.env = pure none := by rfl)
    (h1 : (assignEach [.Subscript o i pos'] X.env).map (·.2) = [assign (.Subscript o i pos') X.env] := by rfl) :
    Sx X (.Assign [.Subscript o i pos'] value pos) (sPut gLput mv mo mi) := by
  refine ⟨fun E η M c σ H s => ?_⟩
  refine out_sPut (fun v x y H3 Z => rSetL x y v H3 fun H4 => Z.nx σ H4) hv ho hi s (fun Z hq => ps_ws (ps_asg we_pe (pg_sub we_pe we_pe set_list ha) hs hw h1) hq) fun η M H a v y d di dv d' hs hA hy hr e Z hz => ?_
  unfold gLput at e
  split at e
  · obtain ⟨j, e1, e2⟩ := Option.map_eq_some_iff.mp e
    cases e2
    obtain ⟨xs, h1, h2⟩ := hA
    rw [hy.int]
    exact ⟨a, xs, _, j, rfl, rfl, h1, by rw [h2.length]; exact e1, hz _ ⟨_, upd_same, h2.set j hr⟩⟩
  · cases e

/-! ### op= at a name -/
def sAug (i : Nat) (g : D → D → Option Rv) (me : Em) : Sm := fun c => match c.ρ[i]? with
  | some (.fz d0) => (me c).st.bind fun r c1 => (m2 g (.fz d0) r c1).bind fun r2 c2 => match putR i r2 c2 with
    | some c3 => .ok .nx c3
    | none => .stuck
  | _ => .stuck
theorem sx_aug {x : Str} {op : Operator} {g : D → D → Option Rv} (i : Nat) (hN : X.N.Nodup) (hg : Op2 X (Wo X (inplaceOp op)) g) (he : Ex X e me) (hi : X.N[i]? = some x := by rfl) (hx : Loc X.env.scope x := by first | exact Or.inl rfl | exact Or.inr rfl) (hf : X.fn x = true ∨ X.env.scope.names.lookup x = some .local := by first | exact .inl rfl | exact .inr rfl | assumption) :
    Sx X (.AugAssign (.Name x pos') op e pos) (sAug i g me) := by
  refine ⟨fun E η M c σ H s Z gd => ?_⟩
  unfold sAug at gd
  cases q : c.ρ[i]? with
  | none => rw [q] at gd; exact gd.elim
  | some sl =>
    rw [q] at gd
    cases sl with
    | fz d0 =>
      dsimp only at gd
      obtain ⟨x0, hx0, r0⟩ := s.slot i _ q
      have key : OutS X (fun Z => We X e σ H fun y H1 => Wo X (inplaceOp op) x0 y H1 fun z H2 => Z.nx (σ.set i (some z)) H2) E η M ((me c).st.bind fun r c1 => (m2 g (.fz d0) r c1).bind fun r2 c2 => match putR i r2 c2 with | some c3 => .ok .nx c3 | none => .stuck) := by
        refine OutS.bind (R := RVst X.K X.mg) (fun y H1 Z => Wo X (inplaceOp op) x0 y H1 fun z H2 => Z.nx (σ.set i (some z)) H2) (out_st (he E η M c σ H s)) (fun Z hq => hq) fun r c1 y η1 M1 H1 s1 x1 z1 => ?_
        have o := out_m2 hg s1 (show RvR X.K X.mg E η1 M1 c1 σ H1 x0 (.fz d0) from r0.mono x1) z1.2
        exact out_put o fun Z hq => hq
      have h := key Z gd
      exact ps_ws (ps_aug hN hi hx we_pe (fun pins s σ H x y v u Q I r1 r2 h => wo_op pins s σ H x y v u Q I r1 r2 h) hf) ⟨x0, hx0, h⟩
    | _ => exact gd.elim
def gIAdd (a b : D) : Option Rv := match a, b with
  | .int i, .int j => some (.fz (.int (i + j)))
  | .str x, .str y => if x.length + y.length ≤ sizeLine then some (.fz (.str (x ++ y))) else none
  | _, _ => none
theorem i_add : Op2 X (Wo X (inplaceOp .Add)) gIAdd := by
  intro E η M c σ H x y dx dy r s h1 h2 e Q hQ
  unfold gIAdd at e
  split at e
  · cases e; exact op_wo iop_add ⟨_, _, h1.int, h2.int, pst_fz s hQ (.int _)⟩
  · split at e
    · cases e; exact op_wo iop_add_str ⟨_, _, h1.str, h2.str, by assumption, pst_fz s hQ (.str _)⟩
    · cases e
  · cases e
theorem i_sub : Op2 X (Wo X (inplaceOp .Sub)) gSub := by
  intro E η M c σ H x y dx dy r s h1 h2 e Q hQ
  unfold gSub at e
  split at e
  · cases e; exact op_wo iop_sub ⟨_, _, h1.int, h2.int, pst_fz s hQ (.int _)⟩
  · cases e

/-! ### k in d -/
def gInD (neg : Bool) (a b : D) : Option Rv := match b with
  | .dct kvs => match keyD a with
    | some k => some (.fz (.bl ((getK kvs k).isSome != neg)))
    | none => none
  | .dcT kvs => match a with
    | .tup ds => match keysD ds with
      | some ks => some (.fz (.bl ((getK kvs ks).isSome != neg)))
      | none => none
    | _ => none
  | _ => none
theorem dget_of {x y : V} {di d : D} {neg : Bool} {r : Rv} (hs : Same M H) (h1 : VwR X.K X.mg η M H x di) (h2 : VwR X.K X.mg η M H y d) (e : gInD neg di d = some r) : ∃ a o, y = .ref a ∧ DGet H a x o ∧ r = .fz (.bl (o.isSome != neg)) := by
  unfold gInD at e
  cases d with
  | dct kvs =>
    dsimp only at e
    cases q : keyD di with
    | none => rw [q] at e; cases e
    | some k =>
      rw [q] at e
      cases e
      obtain ⟨a, vs, rfl, q1, q2, q3⟩ := h2.dct hs
      obtain ⟨i1, i2⟩ := rep_getK (k := k) q2 q3
      refine ⟨a, valV vs k, rfl, by rw [rep_key h1 q]; exact DGet.k q1, ?_⟩
      cases g : getK kvs k with
      | none => rw [i2 g]; rfl
      | some d => obtain ⟨v, hv, _⟩ := i1 d g; rw [hv]; rfl
  | dcT kvs =>
    cases di with
    | tup ds =>
      dsimp only at e
      cases q : keysD ds with
      | none => rw [q] at e; cases e
      | some k =>
        rw [q] at e
        cases e
        obtain ⟨a, vs, rfl, q1, q2, q3⟩ := h2.dcT hs
        obtain ⟨i1, i2⟩ := rep_getK (k := k) q2 q3
        obtain ⟨b, ys, rfl, g1, g2⟩ := h1.tup hs
        rw [repL_keys g2 q] at g1
        refine ⟨a, valV vs k, rfl, DGet.t q1 g1, ?_⟩
        cases g : getK kvs k with
        | none => rw [i2 g]; rfl
        | some d => obtain ⟨v, hv, _⟩ := i1 d g; rw [hv]; rfl
    | _ => cases e
  | _ => cases e
theorem ex_inD (hu : X.A.units + 1 < cLine) (ha : Ex X a ma) (hb : Ex X b mb) (h1 : behindInMarks .In b = false := by rfl) : Ex X (.Compare a [.In] [b] pos) (mBin (gInD false) ma mb) :=
  ex_two (w := fun x y H Q => ∃ p o, y = .ref p ∧ DGet H p x o ∧ Q (.bl o.isSome) H) (fun E η M c σ H x y dx dy r s h1 h2 e Q hQ => by
    obtain ⟨p, o, e1, e2, e3⟩ := dget_of s.sub h1 h2 e
    subst e3
    exact ⟨p, o, e1, e2, by simpa using pst_fz s hQ (.bl _)⟩) (pe_cmp (pc_din hu we_pe we_pe) h1) (fun _ _ _ h => h) ha hb
theorem ex_notinD (hu : X.A.units + 1 < cLine) (ha : Ex X a ma) (hb : Ex X b mb) (h1 : behindInMarks .NotIn b = false := by rfl) : Ex X (.Compare a [.NotIn] [b] pos) (mBin (gInD true) ma mb) :=
  ex_two (w := fun x y H Q => ∃ p o, y = .ref p ∧ DGet H p x o ∧ Q (.bl (!o.isSome)) H) (fun E η M c σ H x y dx dy r s h1 h2 e Q hQ => by
    obtain ⟨p, o, e1, e2, e3⟩ := dget_of s.sub h1 h2 e
    subst e3
    exact ⟨p, o, e1, e2, by simpa using pst_fz s hQ (.bl _)⟩) (pe_cmp (pc_dnotin hu we_pe we_pe) h1) (fun _ _ _ h => h) ha hb
end
end LH
/-! LHEnd: a law's end; repr. -/
namespace LH
open PySem PySem.Spec PyProof.Rows L2

/-! ### the law's own call -/
theorem repL_intsN {K : Fg} {mg : Mg} {η : List Addr} {M : Hp} : ∀ ns : List Int, RepL K mg η M (ns.map V.int) (ns.map D.int)
  | [] => .nil
  | n :: ns => .cons (.int n) (repL_intsN ns)
theorem sr_first {K : Fg} {mg : Mg} (H : Hp) : SR K mg ⟨H, [], H⟩ [] H ⟨[], []⟩ [] H :=
  ⟨Same.refl H, rfl, fun i t e => by simp at e, fun i j a d d' e => by simp at e, rfl, fun n a d e => by simp at e, List.nodup_nil, fun a o e _ => e, ⟨[], rfl⟩, fun a h => .inl h, Same.refl H, fun a h _ => h⟩
/-- the law, run with a script: True -/
def LawTrue (n : Nat) (F : Fm) : Prop := ∀ ns : List Int, ns.length ≤ n → ∃ c, F [.ro (ns.map D.int)] [] = .ok (.fz (.bl true)) c
theorem law_callG {P : Program} {w : World} {K : Fg} {mg mb : Mg} {k n : Nat} {fa a : Addr} {fd : FuncData} {x : Str} {F : Fm} {s₁ : Shared} {vs : List Value} {ns : List Int}
    (KX : K.In s₁.heap) (hns : s₁.heap.Ns mainGlobals mg) (hb : s₁.heap.Ns builtinsNs mb) (hbb : ∀ x : Str, x ≠ "__name__" → mb x = bootBuiltins x) (hlim : s₁.heap.NoLimit) (hg : s₁.gens = #[])
    (ha : s₁.heap.get? a = some { cls := .type "list", data := .seq vs.toArray }) (hi : IntsAre vs ns) (hl : ns.length ≤ sizeLine) (hn : ns.length ≤ n) (hr : RmG k callerA)
    (G : ∀ base : Heap, K.In base → base.Ns mainGlobals mg → FnG P w K mg base (L2.CX P w) k fa fd [x] (spF K mg 1 F)) (hbind : ∀ (s : Shared) (u : Value), BindsTo s fd ⟨[u], []⟩ [(x, u)]) (L : LawTrue n F) :
    codeAny (model P w) callerA (.call (.ref fa) ⟨[.ref a], []⟩) (fun r s' => r = .ok (.ret (.bool true)) ∧ OldK s₁.heap s'.heap ∧ s'.os = s₁.os ∧ AllBare s'.gens) s₁ := by
  have rv := vals_ints hi
  have go : ∀ H : Hp, Only H → SqL K H a (ns.map V.int) → HOk P w H s₁.heap → (∀ b, H b ≠ none → b = a ∧ K.lookup a = none) →
      codeAny (model P w) callerA (.call (.ref fa) ⟨[.ref a], []⟩) (fun r s' => r = .ok (.ret (.bool true)) ∧ OldK s₁.heap s'.heap ∧ s'.os = s₁.os ∧ AllBare s'.gens) s₁ := by
    intro H hO hS hok hA
    have off : ∀ {b : Addr} {o : Obj}, s₁.heap.get? b = some o → (H b ≠ none → o ≠ { cls := .type "list", data := .seq vs.toArray }) → (hidT s₁.heap H).get? b = some o := fun {b o} e hz => hidT_get e (by
      cases q : H b with
      | none => rfl
      | some u =>
        have hb : H b ≠ none := by rw [q]; simp
        obtain rfl := (hA b hb).1
        rw [ha] at e
        exact absurd (Option.some.inj e).symm (hz hb))
    have nsK : ∀ {b : Addr} {m : Str → Option Value}, s₁.heap.Ns b m → (hidT s₁.heap H).Ns b m := fun {b m} ⟨o, es, ep, e, d, r⟩ => ⟨o, es, ep, off e (fun _ z => by subst z; cases d), d, r⟩
    have hKb : K.In (hidT s₁.heap H) := fun b o e => hidT_get (KX b o e) (by
      cases q : H b with
      | none => rfl
      | some u =>
        obtain ⟨rfl, z⟩ := hA b (by rw [q]; simp)
        rw [z] at e; cases e)
    have hM : Mod K mg (hidT s₁.heap H) := ⟨hKb, nsK hns, ⟨mb, nsK hb, hbb⟩, let ⟨mc, h1, h2⟩ := hlim; ⟨mc, nsK h1, h2⟩⟩
    have e0 : Env0 P w K mg (hidT s₁.heap H) callerA [] s₁ H := ⟨rfl, hM, fun b o e => of_hidT e, Nat.le_of_eq (hidT_size _ _), trivial, fun b hb => absurd (show b ∈ ([] : List Addr) from hb) (by simp), hok, .of_eq hg⟩
    obtain ⟨c, hc⟩ := L ns hn
    have hsp : spF K mg 1 F [.ref a] H (fun v _ => v = .bl true) fun _ _ _ => False := by
      refine ⟨rfl, [], H, [.ro (ns.map D.int)], [], sr_first H, .cons (.ro hS (repL_intsN ns)) .nil, ?_⟩
      rw [hc]
      intro v η' M' H' _ z
      cases z
      rfl
    refine codeAny_mono ((G _ hKb (nsK hns)).run callerA [] s₁ H ⟨[.ref a], []⟩ [.ref a] [.ref a] _ _ hr e0 (hbind s₁ (.ref a)) (.cons rfl .nil) hsp) fun r s' h => ?_
    cases r with
    | error e =>
      obtain ⟨_, _, _, _, _, _, _, _, _, _, _, _, z⟩ := h
      exact z.elim
    | ok fl =>
      cases fl with
      | next => exact False.elim h
      | brk => exact False.elim h
      | cont => exact False.elim h
      | ret u =>
        obtain ⟨v, H', os, bare, un, hok', r', q⟩ := h
        have q' : v = .bl true := q
        subst q'
        obtain rfl : u = Value.bool true := r'
        refine ⟨rfl, OldK.of_keep fun b o e => ?_, os, bare⟩
        cases q : H b with
        | none => exact un.keep b o e q (by intro z; exact absurd (show b ∈ ([] : List Addr) from z) (by simp)) (by simp)
        | some u =>
          rcases hO b with z | ⟨ob, xs, z⟩
          · rw [q] at z; cases z
          · obtain ⟨e1, _⟩ := hok b _ z
            obtain ⟨e2, _⟩ := hok' b _ (un.frzs b ob _ z)
            rw [e] at e1; cases e1
            exact e2
  cases hk : K.lookup a with
  | some o =>
    have e := KX a o hk
    rw [ha] at e
    cases e
    exact go (fun _ => none) (fun _ => .inl rfl) (.inr ⟨_, vs.toArray, _, hk, rfl, rfl, rfl, by rw [List.size_toArray, hi.length]; exact hl, by simpa using rv⟩) (fun b u z => nomatch (show (none : Option HO) = some u from z)) (fun b z => absurd rfl z)
  | none =>
    have hH : ∀ b, (fun b => if b = a then some (.frz { cls := .type "list", data := .seq vs.toArray } (.lst (ns.map V.int))) else none : Hp) b ≠ none → b = a := fun b z => by
      by_cases hb : b = a
      · exact hb
      · exact absurd (if_neg hb) z
    refine go (fun b => if b = a then some (.frz { cls := .type "list", data := .seq vs.toArray } (.lst (ns.map V.int))) else none) (fun b => ?_) (.inl (.inr ⟨_, if_pos rfl⟩)) (fun b u z => ?_) (fun b z => ⟨hH b z, hk⟩)
    · by_cases hb : b = a
      · exact .inr ⟨_, _, if_pos hb⟩
      · exact .inl (if_neg hb)
    · by_cases hb : b = a
      · have z' := (if_pos hb).symm.trans z
        cases z'
        subst hb
        exact ⟨ha, by rw [List.length_map]; exact hl, vs, _, rv, ha⟩
      · have z' := (if_neg hb).symm.trans z
        cases z'
theorem walkG {l : PySem.W.OpenLaw} {n k : Nat} {q : Program} {loose : List Str} {XP : (Str → Option Value) → Heap → Prop} {YP : World → Heap → Prop} {d : DefRec} {K : Params → Fg} {F : Fm} {x : Str}
    (hn : l.most = some n) (hn2 : n ≤ sizeLine) (hdf : d.params.defaults = []) (hr : RmG k callerA) (hY : ∀ (w : World) (h : Heap), YP w h → (K w.params).In h) (L : LawTrue n F)
    (G : ∀ (w : World) (mg : Str → Option Value) (fa : Addr) (h : Heap), (K w.params).In h → h.Ns mainGlobals mg → mg d.name = some (.ref fa) →
      ∃ fd : FuncData, (∀ (s : Shared) (u : Value), BindsTo s fd ⟨[u], []⟩ [(x, u)]) ∧
        ∀ base : Heap, (K w.params).In base → base.Ns mainGlobals mg → FnG l.prog w (K w.params) mg base (L2.CX l.prog w) k fa fd [x] (spF (K w.params) mg 1 F)) :
    PySem.W.WalkO q loose XP YP l.row.toRowW d [] (fun f vs => PySem.call f vs) := by
  refine Att.attach_call hn hdf fun w s₀ s₁ mg mb fa o pm cd doc a vs ns T Y ho hd hcd hmg hobj hints hlen hg => ?_
  have KX := hY w _ Y
  obtain ⟨fd, hb, hF⟩ := G w mg fa _ KX T.T.g hmg
  exact law_callG KX T.T.g T.T.b T.T.builtins T.T.nolimit hg hobj hints (Nat.le_trans hlen hn2) hlen hr hF hb L

/-! ### repr -/
def shownP (p : PyData) : Option Str := if p.showable && !p.hasDict && decide (p.depth ≤ 64) && decide (p.shown.length ≤ sizeLine) then some p.shown else none
def shownD (d : D) : Option Str := (toPy d).bind shownP
def gRepr (d : D) : Option Rv := (shownD d).map fun t => .fz (.str t)
section
variable {X : Cx}
theorem call_reprD (hg : X.A.guards = some []) (hu : X.A.units + 66 < cLine) : CallR X (.builtin "repr") (fun xs H Q => ∃ v p t, xs = [v] ∧ Dp X.K H v p ∧ shownP p = some t ∧ Q (.str t) H) := by
  intro pins s σ H xs us Q I r h
  obtain ⟨v, p, t, rfl, hd, ht, q⟩ := h
  obtain ⟨u, rfl, ru⟩ := vals1 r
  obtain ⟨as, hr⟩ := Dp.reads I p v u hd ru
  unfold shownP at ht
  split at ht
  · rename_i hc
    cases ht
    simp only [Bool.and_eq_true, Bool.not_eq_true', decide_eq_true_eq] at hc
    obtain ⟨⟨⟨h1, h2⟩, h3⟩, h4⟩ := hc
    have fin : ∀ tk, EP X pins σ Q (.str p.shown tk) { s with toks := s.toks + 1 } := fun tk => ⟨.str _, H, I.tok _, ⟨tk, rfl⟩, q⟩
    cases hr with
    | none => exact PySem.P.repr_of_none (fin _)
    | bool b => exact PySem.P.repr_of_bool (by have := fin s.toks; cases b <;> simpa [PyData.shown] using this)
    | int i t => exact PySem.P.repr_of_int (by simpa [PyData.showable] using h1) (fin _)
    | str x t => exact PySem.P.repr_of_str (fin _) (by simpa [PyData.shown] using h4)
    | list a1 a2 a3 a4 =>
      exact repr_of_reads' (.list a1 a2 a3 a4) h1 (fun z => by rw [h2] at z; cases z) hg (by omega) (fun _ _ e => e) (fun h' tu tk hk => ⟨.str _, H, I.kept hk, ⟨tu, rfl⟩, q⟩) h4
    | tuple a1 a2 a3 a4 =>
      exact repr_of_reads' (.tuple a1 a2 a3 a4) h1 (fun z => by rw [h2] at z; cases z) hg (by omega) (fun _ _ e => e) (fun h' tu tk hk => ⟨.str _, H, I.kept hk, ⟨tu, rfl⟩, q⟩) h4
    | dict a1 a2 a3 a4 a5 =>
      exact repr_of_reads' (.dict a1 a2 a3 a4 a5) h1 (fun z => by rw [h2] at z; cases z) hg (by omega) (fun _ _ e => e) (fun h' tu tk hk => ⟨.str _, H, I.kept hk, ⟨tu, rfl⟩, q⟩) h4
  · cases ht
theorem c_repr (hg : X.A.guards = some []) (hu : X.A.units + 66 < cLine) : OpN X (Wc X (.builtin "repr")) (g1 gRepr) := by
  refine opN1 fun E η M c σ H x dx r s h1 e Q hQ => ?_
  unfold gRepr shownD at e
  cases q : toPy dx with
  | none => rw [q] at e; cases e
  | some p =>
    rw [q] at e
    cases q2 : shownP p with
    | none =>
      have e : (shownP p).map _ = _ := e
      rw [q2] at e; cases e
    | some t =>
      have e : (shownP p).map (fun t => Rv.fz (.str t)) = _ := e
      rw [q2] at e; cases e
      exact call_wc (call_reprD hg hu) ⟨_, p, t, rfl, vw_dp s.sub h1 q, q2, pst_fz s hQ (.str _)⟩
end
end LH
/-! LHSort: sorted of data. -/
namespace LHS
open PySem PySem.W PySem.Calls PyProof.Rows PySem.SeqAt
section
variable {prog : Program} {w : World} {A : Around} {E : Value → Shared → Prop} {s : Shared}
theorem keyLt'_general (x y : Value) : keyLt' general' x y = oneLt' false x y := rfl
theorem call_tuple_lt {Q : Value → Shared → Prop} {l b : Addr} {items items2 : Array Value} {e r : Nat → Bool} (hl : s.heap.IsTuple l items) (hb : s.heap.IsTuple b items2)
    (he : ∀ j (h1 : j < items.size) (h2 : j < items2.size), EqAt A.in1 s items[j] items2[j] (e j)) (hr : ∀ j (h1 : j < items.size) (h2 : j < items2.size), e j = false → RcLt A.in1 s items[j] items2[j] (r j))
    (h : Q (.bool (firstLt e r (decide (items.size < items2.size)) (List.range (min items.size items2.size)))) s) : wpAny (model prog w) A (call (.builtin "tuple.__lt__") [.ref l, .ref b]) Q E s := by
  obtain ⟨⟨cls, dd, data, sl⟩, ho, hc, n, hd⟩ := id hl
  obtain ⟨⟨cls2, dd2, data2, sl2⟩, ho2, hc2, n2, hd2⟩ := id hb
  simp only at hc hd hc2 hd2
  subst hc hd hc2 hd2
  exact call_meets F.slot_tuple_lt ⟨_, ho, rfl⟩ F.entry_tuple_lt (F.args_tuple_lt_2 _ _) (tuple_ltAt l b items items2 n n2 dd dd2 sl sl2 e r) ⟨ho, ho2, he, hr, h⟩
/-- two tuples, asked by their own slot -/
theorem oneLt_tup {xs ys : List PyData} {a b : Value} {as bs : List Addr} {Q : Bool → Shared → Prop} (ra : Reads s.heap a (.tuple xs) as) (rb : Reads s.heap b (.tuple ys) bs) (h : alike (.tuple xs) (.tuple ys) = true)
    (hu : A.units + min (PyData.tuple xs).depth (PyData.tuple ys).depth < cLine) (hq : Q (dataLt (.tuple xs) (.tuple ys)) s) : wpAny (model prog w) A (oneLt' true a b) Q E s := by
  have hal : alikeAll xs ys = true := by simpa [alike] using h
  cases ra with
  | @tuple l o vs n _ as₁ h1 h2 h3 h4 =>
    cases rb with
    | @tuple l' o' vs' n' _ bs₁ k1 k2 k3 k4 =>
      have n1 : vs.size = xs.length := by simpa using ReadsAll.length _ _ _ h4
      have n2 : vs'.size = ys.length := by simpa using ReadsAll.length _ _ _ k4
      rw [dataLt_tuple, ← firstLt_toks xs ys hal, ← n1, ← n2] at hq
      rw [oneLt'_eq]
      simp only [if_true]
      refine wpAny_bind (wpAny_cRoomFor (room_here hu) ?_)
      refine wpAny_bind (wpAny_callSpecialIfBound?_slot (T := "tuple") ⟨_, h1, h2⟩ F.slot_tuple_lt (call_tuple_lt (e := pairEq xs ys) (r := fun j => dataLt (xs.getD j .none) (ys.getD j .none)) ⟨_, h1, h2, _, h3⟩ ⟨_, k1, k2, _, k3⟩ (fun j j1 j2 => ?_) (fun j j1 j2 hj => ?_) ?_))
      · have := eqAt_alikeAll xs ys A.in1 s vs.toList vs'.toList _ _ h4 k4 hal (room_in hu) j (by simpa using j1) (by simpa using j2)
        simpa using this
      · have := rcLt_alikeAll xs ys A.in1 s vs.toList vs'.toList _ _ h4 k4 hal (room_in hu) j (by simpa using j1) (by simpa using j2) hj
        simpa using this
      · exact wpAny_truthy_bool hq
end
section
variable {M : Model} {A : Around} {E : Value → Shared → Prop} {s : Shared}
def ne0 : PyData → Bool
  | .tuple [] => false
  | _ => true
/-- the first items of tuples -/
theorem firsts_tups : ∀ (vs : List Value) (ds : List PyData) {Q : List (Option Value) → Shared → Prop}, EachIs (fun v d => ∃ as, Reads s.heap v d as) vs ds → (∀ d ∈ ds, ∃ xs, d = .tuple xs) →
    (∀ os : List (Option Value), os.map (·.isSome) = ds.map ne0 → Q os s) → wpAny M A (vs.mapM firstOfTuple') Q E s
  | [], _, _, .nil, _, h => by rw [List.mapM_nil]; exact wpAny_pure (h [] rfl)
  | _, _, Q, .cons (a := v) (b := d) (as := vs) (bs := ds) ⟨as, r⟩ t, hd, h => by
    obtain ⟨xs, rfl⟩ := hd _ (List.mem_cons_self ..)
    cases r with
    | @tuple a o vs' n _ as₁ h1 h2 h3 h4 =>
      rw [List.mapM_cons]
      refine wpAny_bind ?_
      rw [kas_first_eq]
      refine wpAny_bind (Looks.here (show Looks M s.heap (typeOf (.ref a)) o.cls from (Looks.ld h1).andThen .now) ?_)
      rw [h2, if_neg (by first | decide | simp)]
      refine wpAny_bind (listItems_at h1 h3 (wpAny_pure ?_))
      refine wpAny_bind (firsts_tups vs ds (Q := fun bs s' => wpAny M A (pure (vs'[0]? :: bs)) Q E s') t (fun d hm => hd d (List.mem_cons_of_mem _ hm)) fun os hl => wpAny_pure (h _ ?_))
      rw [List.map_cons, List.map_cons, hl]
      congr 1
      rw [← Array.getElem?_toList]
      cases q : vs'.toList with
      | nil => rw [q] at h4; cases h4; rfl
      | cons x l => rw [q] at h4; cases h4; rfl
def kd0 (ds : List PyData) : SortKind := match ds with
  | d :: _ => if ne0 d then general' else oneType'
  | [] => general'
theorem kind_tups {vs : List Value} {ds : List PyData} (e : EachIs (fun v d => ∃ as, Reads s.heap v d as) vs ds) (hd : ∀ d ∈ ds, ∃ xs, d = .tuple xs) (h0 : .tuple [] ∈ ds) {Q : SortKind → Shared → Prop} (h1 : Q (kd0 ds) s) : wpAny M A (keyKind' vs.toArray) Q E s := by
  rw [keyKind'_eq, List.mapM_toArray, map_eq_pure_bind]
  refine wpAny_bind (wpAny_bind (firsts_tups vs ds e hd fun os hz => wpAny_pure ?_))
  have hall : (os.toArray.all fun x => x.isSome) = false := by
    have e1 : os.all (fun x => x.isSome) = (os.map (·.isSome)).all id := by simp [List.all_map]
    have e2 : (ds.map ne0).all id = false := by
      rw [List.all_eq_false]
      exact ⟨false, List.mem_map.mpr ⟨_, h0, rfl⟩, by simp⟩
    rw [List.all_toArray, e1, hz, e2]
  rw [if_neg (by rw [hall]; simp)]
  cases ds with
  | nil => exact absurd h0 (by simp)
  | cons d0 ds =>
    cases os with
    | nil => cases hz
    | cons o os =>
      simp only [List.map_cons, List.cons.injEq] at hz
      have e0 : ((o :: os).toArray[0]?.bind id) = o := by simp
      rw [e0, hz.1]
      unfold kd0 at h1
      dsimp only at h1
      cases q : ne0 d0 with
      | true =>
        rw [q] at h1
        simp only [if_true] at h1 ⊢
        exact wpAny_pure h1
      | false =>
        rw [q] at h1
        simp only [Bool.false_eq_true, if_false] at h1 ⊢
        rw [oneTypeOnly'_eq, List.mapM_toArray, map_eq_pure_bind]
        refine wpAny_bind (wpAny_bind (wpAny_bind (kas_mapM (r := Value.type "tuple") _ (fun v hv Q' hq => ?_) (wpAny_pure ?_))))
        · obtain ⟨d, hm, as, r⟩ := e.left v hv
          obtain ⟨xs, rfl⟩ := hd d hm
          exact (looks_reads r).here hq
        · cases e with
          | cons e1 e2 =>
            rename_i v vs
            have h0' : (List.map (fun _ => Value.type "tuple") (v :: vs)).toArray[0]? = some (Value.type "tuple") := by simp
            have hall2 : ((List.map (fun _ => Value.type "tuple") (v :: vs)).toArray.all fun x => x == Value.type "tuple") = true := by
              simp only [List.all_toArray, List.all_map, List.all_eq_true]
              intro _ _
              exact beq_self_eq_true (Value.type "tuple")
            rw [h0']
            simp only [hall2, if_true]
            exact wpAny_pure (wpAny_pure h1)
end
section
variable {prog : Program} {w : World} {A : Around} {s : Shared}
/-- alike data, none of them None -/
theorem sortsAny {vs : List Value} {ds : List PyData} (e : EachIs (fun v d => ∃ as, Reads s.heap v d as) vs ds) (hal : AllAlike ds) (hn : ∀ d ∈ ds, d ≠ .none) (hu : ∀ d, d ∈ ds → A.units + d.depth < cLine) : SortsAt prog w A s (dataKind s.heap ds) vs := by
  by_cases ht : ∃ xs, PyData.tuple xs ∈ ds
  · obtain ⟨xs0, h0⟩ := ht
    have hd : ∀ d ∈ ds, ∃ xs, d = .tuple xs := fun d hm => by
      have q := hal d hm _ h0
      cases d with
      | tuple xs => exact ⟨xs, rfl⟩
      | _ => exact absurd q (by simp [alike])
    by_cases h1 : PyData.tuple [] ∈ ds
    · have room : ∀ {d d' : PyData}, d ∈ ds → A.units + min d.depth d'.depth < cLine := fun {d d'} hd => Nat.lt_of_le_of_lt (Nat.add_le_add_left (Nat.min_le_left _ _) _) (hu d hd)
      have key : ∀ v ∈ vs, ∃ a, (dataKind s.heap ds).keyOf v = some a := fun v hv => by
        obtain ⟨d, hd, as, r⟩ := e.left v hv
        exact ⟨_, dataKind_some hal hd r⟩
      have gen : H.LtAt prog w A s (dataKind s.heap ds) general' := by
        intro E x y a b Q ha hb hq
        obtain ⟨d, as, hd1, ra, rfl⟩ := dataKind_inv ha
        obtain ⟨d', as', hd2, rb, rfl⟩ := dataKind_inv hb
        rw [keyLt'_general]
        exact oneLt_alike (fun z => by cases z) ra rb (hal d hd1 d' hd2) (hn d hd1) (room hd1) hq
      have one : H.LtAt prog w A s (dataKind s.heap ds) oneType' := by
        intro E x y a b Q ha hb hq
        obtain ⟨d, as, hd1, ra, rfl⟩ := dataKind_inv ha
        obtain ⟨d', as', hd2, rb, rfl⟩ := dataKind_inv hb
        rw [keyLt'_oneType]
        obtain ⟨xs, rfl⟩ := hd d hd1
        obtain ⟨ys, rfl⟩ := hd d' hd2
        exact oneLt_tup ra rb (hal _ hd1 _ hd2) (room hd1) hq
      refine ⟨key, kd0 ds, ?_, fun _ E Q hq => kind_tups e hd h1 hq⟩
      unfold kd0
      split
      · split
        · exact gen
        · exact one
      · exact gen
    · exact SortsAt.data e hal (.inl fun d hm => by
        obtain ⟨xs, rfl⟩ := hd d hm
        cases xs with
        | nil => exact absurd hm h1
        | cons x r => exact ⟨x, r, rfl⟩) hu
  · exact SortsAt.data e hal (.inr fun d hm => ⟨hn d hm, fun xs z => ht ⟨xs, by rw [← z]; exact hm⟩⟩) hu
end
end LHS
namespace LH
open PySem PySem.Spec PyProof.Rows L2 PySem.W
section
variable {α β γ : Type}
theorem each_vals {S : V → β → Prop} : ∀ {xs : List V} {us : List Value} {bs : List β}, EachIs S xs bs → Vals xs us → EachIs (fun v b => ∃ x, RelV x v ∧ S x b) us bs
  | _, _, _, .nil, .nil => .nil
  | _, _, _, .cons h t, .cons r rs => .cons ⟨_, r, h⟩ (each_vals t rs)
theorem vals_each {S : V → β → Prop} : ∀ {us : List Value} {bs : List β}, EachIs (fun v b => ∃ x, RelV x v ∧ S x b) us bs → ∃ xs, Vals xs us ∧ EachIs S xs bs
  | _, _, .nil => ⟨[], .nil, .nil⟩
  | _, _, .cons ⟨x, r, h⟩ t => by
    obtain ⟨xs, h1, h2⟩ := vals_each t
    exact ⟨x :: xs, .cons r h1, .cons h h2⟩
theorem each_repL {K : Fg} {mg : Mg} {η : List Addr} {M : Hp} : ∀ {xs : List V} {ds : List D}, EachIs (Rep K mg η M) xs ds → RepL K mg η M xs ds
  | _, _, .nil => .nil
  | _, _, .cons h t => .cons h (each_repL t)
theorem repL_each {K : Fg} {mg : Mg} {η : List Addr} {M : Hp} : ∀ {xs : List V} {ds : List D}, RepL K mg η M xs ds → EachIs (Rep K mg η M) xs ds
  | _, _, .nil => .nil
  | _, _, .cons h t => .cons h (repL_each t)
end
def notNon : PyData → Bool
  | .none => false
  | _ => true
section
variable {X : Cx}
theorem call_sortedD {β : Type} (enc : β → PyData) (hu : X.A.units + 70 < cLine) : CallR X (.builtin "sorted") (fun xs H Q => ∃ (a : Addr) (vs : List V) (bs : List β) (S : V → β → Prop), xs = [.ref a] ∧ SqL X.K H a vs ∧ EachIs S vs bs ∧ (∀ x b, S x b → Dp X.K H x (enc b)) ∧
    AllAlike (bs.map enc) ∧ (∀ b ∈ bs, notNon (enc b) = true ∧ (enc b).depth ≤ 64) ∧ ∀ out p, EachIs S out (bs.mergeSort (dataLe false enc)) → H p = none → Q (.ref p) (upd H p (.lst out))) := by
  intro pins s σ H xs us Q I r h
  obtain ⟨a, vs, bs, S, rfl, hs, he, hd, hal, hb, q⟩ := h
  obtain rfl := Vals.ref1 r
  obtain ⟨its, rv, hl, hz⟩ := I.list hs
  have e1 := each_vals he rv
  have len : its.length = bs.length := e1.length
  have er : EachIs (fun v b => ∃ as, Reads s.heap v (enc b) as) its bs := e1.mono fun v b ⟨x, r1, r2⟩ => Dp.reads I _ _ _ (hd x b r2) r1
  have er' : EachIs (fun v b => ∃ as, Reads (sortingHeap (copyHeap s.heap its) (s.heap.objs.size + 1) its) v (enc b) as) its bs := er.mono fun _ _ ⟨as, r⟩ => ⟨as, PyProof.Rows.Reads.keeps (fun _ _ => sorting_copy_old) r⟩
  have hz' : its.length ≤ sizeLine := by rw [← rv.length]; exact hz
  refine sorted_vals hl.isList (LHS.sortsAny (s := { s with heap := sortingHeap (copyHeap s.heap its) (s.heap.objs.size + 1) its }) (each_map (R := fun v d => ∃ as, Reads (sortingHeap (copyHeap s.heap its) (s.heap.objs.size + 1) its) v d as) enc er') hal (fun d hd z => ?_) (fun d hd => ?_)) hz' ?_
  · obtain ⟨b, hb1, rfl⟩ := List.mem_map.mp hd
    have := (hb b hb1).1
    rw [z] at this; cases this
  · obtain ⟨b, hb1, rfl⟩ := List.mem_map.mp hd
    have := (hb b hb1).2
    show X.A.units + 1 + 1 + _ < _
    omega
  · have eo := sortVals_data false e1 er' hal
    obtain ⟨out, k1, k2⟩ := vals_each eo
    obtain ⟨ep, he'⟩ := PyProof.Rows.sortedAll_at s.heap its (sortVals (dataKind (sortingHeap (copyHeap s.heap its) (s.heap.objs.size + 1) its) (bs.map enc)) false its its).toArray
    have hlen : out.length ≤ sizeLine := by
      rw [k1.length, eo.length, List.length_mergeSort, ← len]
      exact hz'
    exact ⟨.ref _, upd H (s.heap.objs.size + 1) (.lst out), I.laid (t' := s.toks) (fun _ _ => PyProof.Rows.sortedAll_old) (Nat.le_succ _) ⟨hlen, _, ep, k1, by simpa using he'⟩, rfl, q out _ k2 (I.hok.fresh (Nat.le_succ _))⟩
end

/-! ### sorted -/
def encD (d : D) : PyData := (toPy d).getD .none
def okSort (ds : List D) : Bool := (ds.all fun d => (toPy d).isSome && notNon (encD d) && decide ((encD d).depth ≤ 64)) && ds.all fun d => ds.all fun d' => alike (encD d) (encD d')
def sortD (ds : List D) : Option (List D) := if okSort ds then some (ds.mergeSort (dataLe false encD)) else none
def gSorted (d : D) : Option Rv := match d with
  | .lst xs => (sortD xs).map fun ys => .nw (.lst ys)
  | .ro xs => (sortD xs).map fun ys => .nw (.lst ys)
  | _ => none
section
variable {X : Cx}
theorem sort_run {E : En} {η : List Addr} {M H : Hp} {c : Cf} {σ : St} {a : Addr} {xs : List V} {ds ys : List D} {Q : VK} (hu : X.A.units + 70 < cLine) (s : SR X.K X.mg E η M c σ H) (hq : SqL X.K H a xs) (r : RepL X.K X.mg η M xs ds) (e : sortD ds = some ys) (hQ : Pst X E η M c σ (.nw (.lst ys)) Q) : Wc X (.builtin "sorted") [.ref a] H Q := by
  unfold sortD at e
  split at e
  · rename_i hc
    cases e
    unfold okSort at hc
    simp only [Bool.and_eq_true, List.all_eq_true, decide_eq_true_eq] at hc
    obtain ⟨h1, h2⟩ := hc
    refine call_wc (call_sortedD encD hu) ⟨a, xs, ds, fun x d => Rep X.K X.mg η M x d ∧ d ∈ ds, rfl, hq, each_mem (repL_each r), fun x d ⟨z, zm⟩ => ?_, fun p hp p' hp' => ?_, fun d hm => ⟨(h1 d hm).1.2, (h1 d hm).2⟩, fun out p ho hp => ?_⟩
    · obtain ⟨p, hp⟩ := Option.isSome_iff_exists.mp (h1 d zm).1.1
      have := rep_dp s.sub z hp
      unfold encD
      rw [hp]
      exact this
    · obtain ⟨d, hd, rfl⟩ := List.mem_map.mp hp
      obtain ⟨d', hd', rfl⟩ := List.mem_map.mp hp'
      exact h2 d hd d' hd'
    · exact pst_nw s hQ (fun p hp => ⟨_, upd_same, each_repL (ho.mono fun _ _ z => z.1)⟩) p hp
  · cases e
theorem c_sorted (hu : X.A.units + 70 < cLine) : OpN X (Wc X (.builtin "sorted")) (g1 gSorted) := by
  refine opN1 fun E η M c σ H x dx r s h1 e Q hQ => ?_
  unfold gSorted at e
  split at e
  · rename_i ds
    obtain ⟨a, xs, rfl, q, r⟩ := h1.lst s.sub
    cases e2 : sortD ds with
    | none => rw [e2] at e; cases e
    | some ys => rw [e2] at e; cases e; exact sort_run hu s (.of q) r e2 hQ
  · rename_i ds
    obtain ⟨a, xs, rfl, q, r⟩ := h1.ro s.sub
    cases e2 : sortD ds with
    | none => rw [e2] at e; cases e
    | some ys => rw [e2] at e; cases e; exact sort_run hu s q r e2 hQ
  · cases e
end
end LH
/-! LHSortKey: sorted(xs, key=len) of tuples. -/
namespace LH
open PySem PySem.Spec PyProof.Rows L2 PySem.W
/-- a call with these keyword values -/
def Wck (X : Cx) (f : Value) (kw : List (Str × Value)) : List V → Hp → VK → Prop := fun xs H Q => ∀ pins s σ us, Inv X pins σ H s → Vals xs us → wpAny (model X.prog X.w) X.A (call f us kw) (EP X pins σ Q) X.xe s
abbrev kwLen : List (Str × Value) := [(Str.ofString "key", .builtin "len")]
def lenD : D → Option Nat
  | .tup xs => some xs.length
  | _ => none
def keyLen (d : D) : PyData := .int ((lenD d).getD 0 : Nat)
def gSortLen (d : D) : Option Rv := match d with
  | .lst xs => if xs.all fun x => (lenD x).isSome then some (.nw (.lst (xs.mergeSort (dataLe false keyLen)))) else none
  | _ => none
section
variable {X : Cx}
theorem c_sortLen (hu : X.A.units + 70 < cLine) : OpN X (Wck X (.builtin "sorted") kwLen) (g1 gSortLen) := by
  intro E η M c σ H xs ds r s hp e Q hQ
  match ds, hp, e with
  | [], _, e => cases e
  | _ :: _ :: _, _, e => cases e
  | [d], .cons (a := x) h1 .nil, e =>
    have e : gSortLen d = some r := e
    unfold gSortLen at e
    cases d with
    | lst ds =>
      dsimp only at e
      obtain ⟨a, xs, rfl, q, rr⟩ := h1.lst s.sub
      split at e
      · rename_i hc
        cases e
        rw [List.all_eq_true] at hc
        intro pins st σ' us I r
        obtain rfl := Vals.ref1 r
        obtain ⟨its, rv, hl, hz⟩ := I.list (SqL.of q)
        have e1 := each_vals (each_mem (repL_each rr)) rv
        have len : its.length = ds.length := e1.length
        have e2 : EachIs (fun v (d : D) => (∃ x, RelV x v ∧ Rep X.K X.mg η M x d) ∧ ∃ a its, v = .ref a ∧ IsTup st.heap a its ∧ its.size ≤ sizeLine ∧ keyLen d = .int its.size) its ds := e1.mono fun v d ⟨x, r1, r2, hm⟩ => by
          refine ⟨⟨x, r1, r2⟩, ?_⟩
          obtain ⟨n, hn⟩ := Option.isSome_iff_exists.mp (hc d hm)
          cases d with
          | tup zs =>
            cases r2 with
            | tup hM rz =>
              rename_i a zs'
              cases r1
              obtain ⟨jts, r', pl, hz'⟩ := I.tuple (.of (s.sub _ _ hM))
              refine ⟨a, _, rfl, pl, by simpa using (by rw [← r'.length]; exact hz' : jts.length ≤ sizeLine), ?_⟩
              show PyData.int ((zs.length : Nat) : Int) = .int _
              rw [← rz.length, r'.length]
              simp
          | _ => cases hn
        have hs : sizeLine = 16777216 := sizeLine_eq
        refine sorted_key_data (b := false) keyLen hl.isList e2 (AllAlike.of fun _ _ => by simp [keyLen, alike]) (.inr fun d hd => ?_) (by rw [← len, ← rv.length]; exact hz) (fun d _ => ?_) (ksk_s1 _ _) (fun _ => ksk_l1 _ _) (fun _ => ksk_t4 _ _) (fun v d ⟨_, a', jts, ev, ht, hj, ek⟩ hd h tk kp => ?_) fun out cc h' tk kp hf hD hlen eo => ?_
        · obtain ⟨d', _, rfl⟩ := List.mem_map.mp hd
          exact ⟨by simp [keyLen], by simp [keyLen]⟩
        · have : (keyLen d).depth = 0 := by simp [keyLen, PyData.depth]
          omega
        · subst ev
          refine len_tuple (ht.keeps kp) (by omega) ?_
          exact ⟨h, _, rfl, fun _ _ z => z, by rw [ek]; exact .int _ _⟩
        · obtain ⟨out', k1, k2⟩ := vals_each (eo.mono fun _ _ z => z.1)
          have hlen' : out'.length ≤ sizeLine := by
            rw [k1.length, hlen, ← len, ← rv.length]
            exact hz
          refine ⟨.ref _, upd H (st.heap.objs.size + 1) (.lst out'), I.laid (t' := tk) kp (Nat.le_succ _) ⟨hlen', _, _, k1, hD⟩, rfl, ?_⟩
          exact pst_nw s hQ (fun p hp => ⟨_, upd_same, each_repL k2⟩) _ (I.hok.fresh (Nat.le_succ _))
      · cases e
    | _ => cases e
variable {e : Expr} {m : Em} {p p2 pos kp : Pos} {ms : Cf → Res (List Rv)}
theorem ex_sortLen (hu : X.A.units + 70 < cLine) (h1 : X.mg "sorted" = none) (h2 : X.mg "len" = none) (g1' : Gl X "sorted" := by rfl) (g2' : Gl X "len" := by rfl) (ha : Ax X [e] ms)
    (he : backTo pos (starEach [e] X.env) = (false, eval e X.env) :: backTo pos (starEach [] X.env) := by rfl) (hpl : (backTo pos (starEach [e] X.env)).any (·.1) = false := by rfl) :
    Ex X (.Call (.Name "sorted" p) [e] [⟨some "key", .Name "len" p2, kp⟩] pos) (mCB (LH.g1 gSortLen) ms) := ⟨fun E η M c σ H s => out_mCB (c_sortLen hu) ha s fun Q hq => by
  intro pins st I
  have hq : Wa X [e] σ H (fun vs H1 => Wck X (.builtin "sorted") kwLen vs H1 Q) := hq
  refine wpAny_Call_Name_kw (ld_blt I g1' h1 (u := .builtin "sorted") (by decide +kernel) ?_)
  refine PyProof.Rows.callWith_kw (thn (hq pos pins st I) fun us s1 ⟨vs, H1, I1, r1, q1⟩ => ?_) he hpl
  show wpAny _ _ (evalAll ((do let v ← eval (.Name "len" p2) X.env; standAt pos; pure v) :: [])) _ _ s1
  refine wpAny_evalAll_cons (wpAny_bind (ld_blt I1 g2' h2 PySem.boot_len (wpAny_bind (wpAny_standAt (wpAny_pure (wpAny_evalAll_nil ?_))))))
  exact q1 pins s1 σ us I1 r1⟩
end
end LH
/-! LHDict: displays of dicts. -/
namespace LH
open PySem PySem.Spec PyProof.Rows L2
section
variable {X : Cx} {E : En} {η η' : List Addr} {M M' H H' : Hp} {c c' c1 c2 : Cf} {σ σ' : St} {pos : Pos}
/-- a value stays; what is held stays too -/
theorem toVal_tmp {T : List (Addr × D)} {v : V} {r : Rv} {d : D} (s : SR X.K X.mg E η M c σ H) (z : RvR X.K X.mg E η M c σ H v r) (t : Tmp X.K X.mg E η M c σ H T) (n : ∀ a d, v = .ref a → r = .nw d → a ∉ T.map (·.1)) (e : toVal c r = some (d, c2)) :
    ∃ M2, SR X.K X.mg E η M2 c2 σ H ∧ Ext η M η M2 ∧ Rep X.K X.mg η M2 v d ∧ Tmp X.K X.mg E η M2 c2 σ H T := by
  cases r with
  | fz d => cases e; exact ⟨M, s, .refl, z, t⟩
  | nw d =>
    cases e
    obtain ⟨a, rfl, h1, h2, h3, h4, h5⟩ := z
    obtain ⟨o, ho⟩ := h5.ex
    obtain ⟨s2, x2⟩ := s.freeze h1 h2 h3 h4 ho
    refine ⟨_, s2, x2, h5.frozen x2 ho upd_same, ⟨fun p hp => ?_, t.nd⟩⟩
    obtain ⟨k1, k2, k3, k4, k5⟩ := t.ok p hp
    have hpa : p.1 ≠ a := fun z => n a _ rfl rfl (z ▸ List.mem_map_of_mem hp)
    exact ⟨by rw [upd_ne hpa]; exact k1, k2, k3, k4, k5.mono x2 fun _ z => z⟩
  | loc i =>
    unfold toVal at e
    dsimp only at e
    have z1 : σ[i]? = some (some v) := z
    cases q : c.ρ[i]? with
    | none => rw [q] at e; cases e
    | some sl =>
      rw [q] at e
      cases sl with
      | un => cases e
      | fz d =>
        cases e
        obtain ⟨w, g1, r1⟩ := s.slot i _ q
        rw [z1] at g1; cases g1
        exact ⟨M, s, .refl, r1, t⟩
      | ow d =>
        cases e
        obtain ⟨a, M2, g1, x2, s2, r2, f2⟩ := s.freezeSlot' q
        rw [z1] at g1; cases g1
        refine ⟨M2, s2, x2, r2, ⟨fun p hp => ?_, t.nd⟩⟩
        obtain ⟨h1, h2, h3, h4, h5⟩ := t.ok p hp
        have hpa : p.1 ≠ a := fun z => h4 ⟨i, d, q, by rw [z1, z]⟩
        refine ⟨by rw [f2 _ hpa]; exact h1, h2, h3, fun ⟨j, d', k1, k2⟩ => ?_, h5.mono x2 fun _ z => z⟩
        have k1 : (c.ρ.set i (.fz d))[j]? = some (.ow d') := k1
        by_cases hj : j = i
        · subst hj
          rw [List.getElem?_set_self (List.getElem?_eq_some_iff.mp q).1] at k1; cases k1
        · rw [List.getElem?_set_ne (Ne.symm hj)] at k1
          exact h4 ⟨j, d', k1, k2⟩
def mPairs : List (Key × Em) → Cf → Res (List (Key × D))
  | [], c => .ok [] c
  | (k, m) :: ps, c => (m c).bind fun r c1 => match toVal c1 r with
    | some (d, c2) => (mPairs ps c2).bind fun kvs c3 => .ok ((k, d) :: kvs) c3
    | none => .stuck
inductive PrL (X : Cx) : List (Option Expr) → List Expr → List (Key × Em) → Prop
  | nil : PrL X [] [] []
  | int {ks : List (Option Expr)} {vs : List Expr} {ps : List (Key × Em)} {i : Int} {j : Nat} {p : Pos} {v : Expr} {m : Em} : Ex X v m → PrL X ks vs ps → PrL X (some (.Constant (.int i) j p) :: ks) (v :: vs) ((.inl i, m) :: ps)
  | str {ks : List (Option Expr)} {vs : List Expr} {ps : List (Key × Em)} {x : Str} {j : Nat} {p : Pos} {v : Expr} {m : Em} : Ex X v m → PrL X ks vs ps → PrL X (some (.Constant (.str x) j p) :: ks) (v :: vs) ((.inr x, m) :: ps)
def PrR (X : Cx) (T : List (Addr × D)) : Rl (List (V × V)) (List (Key × D)) := fun E η M c σ H pvs kvs => ∃ kv : List (Key × V), pvs = kv.map (fun p => (kV p.1, p.2)) ∧ kv.map (·.1) = kvs.map (·.1) ∧ RepL X.K X.mg η M (kv.map (·.2)) (kvs.map (·.2)) ∧ Tmp X.K X.mg E η M c σ H T
theorem prL_ok {keys : List (Option Expr)} {values : List Expr} {ps : List (Key × Em)} (L : PrL X keys values ps) : ∃ trs, (∀ pos, PPs X pos keys values trs) ∧
    ∀ {T : List (Addr × D)} {E : En} {η : List Addr} {M H : Hp} {c : Cf} {σ : St}, SR X.K X.mg E η M c σ H → Tmp X.K X.mg E η M c σ H T → Out X (PrR X T) (fun Q => tPairs trs σ H Q) E η M σ (mPairs ps c) := by
  have step : ∀ {v : Expr} {m : Em} {ps : List (Key × Em)} {trs : List (TE × TE)} {k : Key}, Ex X v m →
      (∀ {T : List (Addr × D)} {E : En} {η : List Addr} {M H : Hp} {c : Cf} {σ : St}, SR X.K X.mg E η M c σ H → Tmp X.K X.mg E η M c σ H T → Out X (PrR X T) (fun Q => tPairs trs σ H Q) E η M σ (mPairs ps c)) →
      ∀ {T : List (Addr × D)} {E : En} {η : List Addr} {M H : Hp} {c : Cf} {σ : St}, SR X.K X.mg E η M c σ H → Tmp X.K X.mg E η M c σ H T → Out X (PrR X T) (fun Q => We X v σ H fun y H2 => tPairs trs σ H2 fun ps H3 => Q ((kV k, y) :: ps) H3) E η M σ (mPairs ((k, m) :: ps) c) := by
    intro v m ps trs k hv ih T E η M H c σ s t
    refine Out.bind (fun y H2 Q => tPairs trs σ H2 fun ps H3 => Q ((kV k, y) :: ps) H3) (out_tmp hv s t) (fun Q hq => hq) fun r c1 y η1 M1 H1 s1 x1 ⟨z1, t1, n1⟩ => ?_
    cases e1 : toVal c1 r with
    | none => trivial
    | some q =>
      obtain ⟨d, c2⟩ := q
      dsimp only
      obtain ⟨M2, s2, x2, r2, t2⟩ := toVal_tmp s1 z1 t1 n1 e1
      refine out_ext x2 (Out.bind (fun ps H3 Q => Q ((kV k, y) :: ps) H3) (ih s2 t2) (fun Q hq => hq) fun kvs c3 pvs η3 M3 H3 s3 x3 ⟨kv, g1, g2, g3, g4⟩ => ?_)
      exact out_ok s3 (fun Q hq => hq) ⟨(k, y) :: kv, by rw [g1]; rfl, by simp [g2], .cons (r2.mono x3) g3, g4⟩
  induction L with
  | nil => exact ⟨[], fun pos => pps_nil, fun {T E η M H c σ} s t => out_ok s (fun Q hq => hq) ⟨[], rfl, rfl, .nil, t⟩⟩
  | int hv L ih =>
    obtain ⟨trs, h1, h2⟩ := ih
    exact ⟨(tC (.int _), We X _) :: trs, fun pos => pps_cons pe_int we_pe (h1 pos), fun {T E η M H c σ} s t => step (k := .inl _) hv h2 s t⟩
  | str hv L ih =>
    obtain ⟨trs, h1, h2⟩ := ih
    exact ⟨(tC (.str _), We X _) :: trs, fun pos => pps_cons pe_str we_pe (h1 pos), fun {T E η M H c σ} s t => step (k := .inr _) hv h2 s t⟩
def mergeD (kvs acc : List (Key × D)) : List (Key × D) := kvs.foldl (fun acc kv => setK acc kv.1 kv.2) acc
def mDisp (ps : List (Key × Em)) : Em := fun c => (mPairs ps c).bind fun kvs c1 => if kvs.length ≤ 15 then .ok (.nw (.dct (mergeD kvs []))) c1 else .stuck
theorem merge_rep {K : Fg} {mg : Mg} : ∀ {kv : List (Key × V)} {kvs : List (Key × D)} {av : List (Key × V)} {ad : List (Key × D)}, kv.map (·.1) = kvs.map (·.1) → RepL K mg η M (kv.map (·.2)) (kvs.map (·.2)) → av.map (·.1) = ad.map (·.1) → RepL K mg η M (av.map (·.2)) (ad.map (·.2)) →
    (kv.foldl (fun acc p => putK acc p.1 p.2) av).map (·.1) = (mergeD kvs ad).map (·.1) ∧ RepL K mg η M ((kv.foldl (fun acc p => putK acc p.1 p.2) av).map (·.2)) ((mergeD kvs ad).map (·.2))
  | [], [], av, ad, _, _, h3, h4 => ⟨h3, h4⟩
  | (k, v) :: kv, (k', d) :: kvs, av, ad, h1, .cons r rs, h3, h4 => by
    simp only [List.map_cons, List.cons.injEq] at h1
    obtain ⟨rfl, h1⟩ := h1
    have := rep_setK (k := k) r h3 h4
    exact merge_rep (kv := kv) (kvs := kvs) h1 rs this.1 this.2
  | [], _ :: _, _, _, h1, _, _, _ => by simp at h1
  | _ :: _, [], _, _, h1, _, _, _ => by simp at h1
theorem ex_disp {keys : List (Option Expr)} {values : List Expr} {ps : List (Key × Em)} (L : PrL X keys values ps) (hall : keys.all (·.isSome) = true := by rfl) (hl : keys.length = values.length := by rfl) (h0 : keys ≠ [] := by (intro h; cases h)) (h15 : keys.length ≤ 15 := by decide) : Ex X (.Dict keys values pos) (mDisp ps) := by
  obtain ⟨trs, h1, h2⟩ := prL_ok L
  refine ⟨fun E η M c σ H s => ?_⟩
  -- the new dict's place is any free one
  unfold mDisp
  have key : ∀ p, H p = none → Out X (PrR X [(p, .dct [])]) (fun Q => tPairs trs σ (upd H p (.dK [])) Q) E η M σ (mPairs ps c) := fun p hp => by
    obtain ⟨f1, f2, f3, f4⟩ := s.free hp
    refine h2 (s.alloc hp) ⟨fun q hq => ?_, by simp⟩
    obtain rfl := List.mem_singleton.mp hq
    exact ⟨f1, f2, f3, f4, [], upd_same, rfl, .nil⟩
  cases e : mPairs ps c with
  | stuck => trivial
  | err y c1 =>
    refine fun W Q tk hq => pe_we (pe_disp (h1 pos) hall hl h0 h15) fun p hp => ?_
    have o := key p hp
    rw [e] at o
    exact o W _ tk hq
  | ok kvs c1 =>
    show Out X _ _ E η M σ (if kvs.length ≤ 15 then _ else _)
    by_cases hk : kvs.length ≤ 15
    · rw [if_pos hk]
      refine fun Q hQ => pe_we (pe_disp (h1 pos) hall hl h0 h15) fun p hp => ?_
      have o := key p hp
      rw [e] at o
      refine o _ fun pvs η' M' H' s' x' ⟨kv, g1, g2, g3, g4⟩ => ?_
      obtain ⟨k1, k2, k3, k4, k5⟩ := g4.ok (p, .dct []) (List.mem_singleton.mpr rfl)
      obtain ⟨kvs0, a1, a2, a3⟩ := k5
      have z0 : kvs0 = [] := by simpa using a2
      subst z0
      have len : kv.length = kvs.length := by have := congrArg List.length g2; simpa using this
      obtain ⟨m1, m2⟩ := merge_rep (kv := kv) (kvs := kvs) (av := []) (ad := []) g2 g3 rfl .nil
      refine ⟨a1, kv, g1, by omega, hQ _ η' M' _ (s'.writeTmp k1 k2 k3 k4) x' ⟨p, rfl, k1, k2, k3, k4, _, upd_same, m1, m2⟩⟩
    · rw [if_neg hk]; trivial
end
end LH
/-! LHIter: walks over lists and tuples by one rule. -/
namespace LH
open PySem PySem.Spec PyProof.Rows L2
section
variable {X : Cx} {tg e : Expr} {me : Em} {σ : St} {H : Hp}
def signsD (x : Str) : List D := x.cps.toList.map fun c => D.str ⟨#[c]⟩
theorem jok_str {K : Fg} {mg : Mg} {η : List Addr} {M : Hp} (x : Str) : JOk K mg η M (Its x) (signsD x) := by
  intro i H hs
  refine ⟨fun d e => ?_, fun hl => (show x.cps.size ≤ i from by simpa [signsD] using hl)⟩
  unfold signsD at e
  rw [List.getElem?_map] at e
  obtain ⟨c, h1, rfl⟩ := Option.map_eq_some_iff.mp e
  have h1' : x.cps[i]? = some c := by rw [← Array.getElem?_toList]; exact h1
  refine ⟨(Array.getElem?_eq_some_iff.mp h1').1, fun v H' ⟨y1, c', h2, y3⟩ => .inl ⟨y1, ?_⟩⟩
  rw [h1'] at h2; cases h2
  subst y3
  exact .str _
theorem wi_seq {R : It → Hp → Prop} (h : We X e σ H fun x H1 => (∃ a, x = .ref a ∧ (∃ xs, SqL X.K H1 a xs) ∧ R (Itl X.K a) H1) ∨ (∃ a, x = .ref a ∧ (∃ xs, SqT X.K H1 a xs) ∧ R (Itt X.K a) H1) ∨ ∃ y, x = .str y ∧ R (Its y) H1) : Wi X tg e σ H R := by
  intro pins s I
  refine thn (h pins s I) fun v s1 ⟨x, H1, I1, r1, q1⟩ => ?_
  rcases q1 with ⟨a, rfl, ⟨xs, hq⟩, q⟩ | ⟨a, rfl, ⟨xs, hq⟩, q⟩ | ⟨y, rfl, q⟩
  · cases r1
    obtain ⟨its, rv, p, hz⟩ := I1.list hq
    refine wpAny_pyIter_list p.isList ?_
    refine ⟨s1.heap.objs.size, [s1.heap.objs.size], _, _, H1, rfl, I1.kept (t' := s1.toks) fun b o e => Heap.get?_push_of_some _ e, turn_list a _, ⟨_, Heap.get?_push_size _ rfl, rfl, rfl⟩, fun b hb => ?_, q⟩
    obtain rfl : b = s1.heap.objs.size := by simpa using hb
    exact I1.fpOk (Nat.le_refl _) (I1.hok.fresh (Nat.le_refl _))
  · cases r1
    obtain ⟨its, rv, p, hz⟩ := I1.tuple hq
    refine wpAny_pyIter_tuple (show s1.heap.IsTuple a its.toArray from p) ?_
    refine ⟨s1.heap.objs.size, [s1.heap.objs.size], _, _, H1, rfl, I1.kept (t' := s1.toks) fun b o e => Heap.get?_push_of_some _ e, turn_tuple a _, ⟨_, Heap.get?_push_size _ rfl, rfl, rfl⟩, fun b hb => ?_, q⟩
    obtain rfl : b = s1.heap.objs.size := by simpa using hb
    exact I1.fpOk (Nat.le_refl _) (I1.hok.fresh (Nat.le_refl _))
  · obtain ⟨t, rfl⟩ := r1
    cases ha : y.cps.all (· < 128)
    · exact wpAny_pyIter_wide ha (pi_one (tk := s1.toks) I1 _ (turn_str _ y t "str_iterator" (.inr rfl)) ⟨_, Heap.get?_push_size _ rfl, rfl, rfl⟩ q)
    · exact wpAny_pyIter_ascii ha (pi_one (tk := s1.toks) I1 _ (turn_str _ y t "str_ascii_iterator" (.inl rfl)) ⟨_, Heap.get?_push_size _ rfl, rfl, rfl⟩ q)
def mSeq (me : Em) : Cf → Res (List D) := fun c => (me c).bind fun r c1 => match toVal c1 r with
  | some (.lst ds, c2) => .ok ds c2
  | some (.ro ds, c2) => .ok ds c2
  | some (.tup ds, c2) => .ok ds c2
  | some (.str x, c2) => .ok (signsD x) c2
  | _ => .stuck
theorem ix_seq (he : Ex X e me) : Ix X tg e (mSeq me) := by
  refine ⟨fun E η M c σ H s => ?_⟩
  refine Out.bind (fun (v : V) H1 (R : It → Hp → Prop) => (∃ a, v = .ref a ∧ (∃ xs, SqL X.K H1 a xs) ∧ R (Itl X.K a) H1) ∨ (∃ a, v = .ref a ∧ (∃ xs, SqT X.K H1 a xs) ∧ R (Itt X.K a) H1) ∨ ∃ y, v = .str y ∧ R (Its y) H1) (he E η M c σ H s) (fun Q hq => wi_seq hq) fun r c1 v η1 M1 H1 s1 x1 z1 => ?_
  cases e1 : toVal c1 r with
  | none => trivial
  | some q =>
    obtain ⟨d, c2⟩ := q
    obtain ⟨M2, s2, x2, r2⟩ := toVal_ok s1 z1 e1
    cases d with
    | lst ds =>
      cases r2 with
      | lst hq hr => exact out_ext x2 (out_ok (v := Itl X.K _) s2 (fun Q hQ => .inl ⟨_, rfl, ⟨_, .of (s2.sub _ _ hq)⟩, hQ⟩) (jok_list (.of hq) hr))
    | ro ds =>
      cases r2 with
      | ro hq hr => exact out_ext x2 (out_ok (v := Itl X.K _) s2 (fun Q hQ => .inl ⟨_, rfl, ⟨_, s2.sub.seq hq⟩, hQ⟩) (jok_list hq hr))
    | tup ds =>
      cases r2 with
      | tup hq hr => exact out_ext x2 (out_ok (v := Itt X.K _) s2 (fun Q hQ => .inr (.inl ⟨_, rfl, ⟨_, .of (s2.sub _ _ hq)⟩, hQ⟩)) (jok_tup (.of hq) hr))
    | str y =>
      cases r2 with
      | str _ => exact out_ext x2 (out_ok (v := Its y) s2 (fun Q hQ => .inr (.inr ⟨_, rfl, hQ⟩)) (jok_str y))
    | _ => trivial
theorem hU {k n : Nat} {A : Around} (r : RmG k A) (h : n ≤ 200) : A.units + n < cLine := by have := r.rm.un; omega
end
theorem fn_runE {P : Program} {w : World} {K : Fg} {mg : Mg} {base : Heap} {x qual : Str} {st : Stmt} {f : Addr} {fd : FuncData} {N ps : List Str} {k n : Nat} {mb : Sm} {G : Fm} (F : Fun K x qual st f fd) (S : FnScope N ps (defScope st)) (hn : ps.length = n) (hG : G = runF N.length mb)
    (hb : ∀ (cdv : Value) (A : Around) (outer : List Env) (s : Shared) (H : Hp) (Ex : XK), RmG k (A.deeper (envOfC qual (defScope st) s.heap.objs.size f cdv)) → Bx (cxOf (L2.CX P w) P w K mg base N qual (defScope st) f cdv A outer s H Ex) (defBody st) mb) :
    FnG P w K mg base (L2.CX P w) (k + 1) f fd ps (spF K mg n G) := by
  subst hn hG
  exact fn_run F S hb
end LH
/-! LHPure: what a mirror computes. -/
namespace LH
open PySem PySem.Spec PyProof.Rows L2
/-- r ends well, with Q -/
def wE {α : Type} (r : Res α) (Q : α → Cf → Prop) : Prop := match r with
  | .ok a c => Q a c
  | _ => False
def oE {α : Type} (o : Option α) (P : α → Prop) : Prop := match o with
  | some a => P a
  | none => False
section
variable {α β : Type} {c : Cf} {m ma mb : Em} {g1 : D → Option Rv} {g : D → D → Option Rv} {ms : Cf → Res (List Rv)} {t u : Cf → Res Bool}
theorem wE_mono {x : Res α} {Q Q' : α → Cf → Prop} (h : wE x Q) (k : ∀ a c, Q a c → Q' a c) : wE x Q' := by
  cases x with
  | ok a c => exact k a c h
  | _ => exact h
theorem wE_ex {x : Res α} {Q : α → Cf → Prop} (h : wE x Q) : ∃ a c, x = .ok a c ∧ Q a c := by
  cases x with
  | ok a c => exact ⟨a, c, rfl, h⟩
  | _ => exact h.elim
@[simp] theorem wE_ok {a : α} {Q : α → Cf → Prop} : wE (.ok a c) Q = Q a c := propext Iff.rfl
@[simp] theorem wE_stuck {Q : α → Cf → Prop} : wE (.stuck : Res α) Q = False := propext Iff.rfl
@[simp] theorem wE_bind {x : Res β} {f : β → Cf → Res α} {Q : α → Cf → Prop} : wE (x.bind f) Q = wE x fun b c => wE (f b c) Q := by cases x <;> rfl
@[simp] theorem wE_st {x : Res Rv} {Q : Rv → Cf → Prop} : wE x.st Q = wE x fun r c => Q (settle r) c := by cases x <;> rfl
@[simp] theorem oE_some {a : α} {P : α → Prop} : oE (some a) P = P a := propext Iff.rfl
@[simp] theorem oE_none {P : α → Prop} : oE (none : Option α) P = False := propext Iff.rfl
theorem wE_opt {o : Option β} {f : β → Res α} {Q : α → Cf → Prop} : wE (match o with | some b => f b | none => .stuck) Q = oE o fun b => wE (f b) Q := by cases o <;> rfl
@[simp] theorem settle_fz {d : D} : settle (.fz d) = .fz d := rfl
@[simp] theorem settle_nw {d : D} : settle (.nw d) = .fz d := rfl
@[simp] theorem settle_loc {i : Nat} : settle (.loc i) = .loc i := rfl
@[simp] theorem view_non : view c (.fz .non) = some .non := rfl
@[simp] theorem view_bl {b : Bool} : view c (.fz (.bl b)) = some (.bl b) := rfl
@[simp] theorem view_int {i : Int} : view c (.fz (.int i)) = some (.int i) := rfl
@[simp] theorem view_str {x : Str} : view c (.fz (.str x)) = some (.str x) := rfl
@[simp] theorem view_lst {x : List D} : view c (.fz (.lst x)) = some (.lst x) := rfl
@[simp] theorem view_tup {x : List D} : view c (.fz (.tup x)) = some (.tup x) := rfl
@[simp] theorem view_ro {x : List D} : view c (.fz (.ro x)) = some (.ro x) := rfl
@[simp] theorem view_dct {x : List (Key × D)} : view c (.fz (.dct x)) = some (.dct x) := rfl
@[simp] theorem view_obj {n : Str} {x : List (Str × D)} : view c (.fz (.obj n x)) = some (.obj n x) := rfl
@[simp] theorem view_hdl {n : Nat} : view c (.fz (.hdl n)) = c.S[n]? := rfl
@[simp] theorem view_nw {d : D} : view c (.nw d) = some d := rfl
@[simp] theorem view_loc {i : Nat} {ρ : List Sl} {S : List D} : view ⟨ρ, S⟩ (.loc i) = match ρ[i]? with
    | some (.ow d) => some d
    | some (.fz (.hdl n)) => S[n]?
    | some (.fz d) => some d
    | _ => none := rfl
@[simp] theorem toVal_fz {d : D} : toVal c (.fz d) = some (d, c) := rfl
@[simp] theorem toVal_nw {d : D} : toVal c (.nw d) = some (d, c) := rfl
@[simp] theorem toVal_loc {i : Nat} {ρ : List Sl} {S : List D} : toVal ⟨ρ, S⟩ (.loc i) = match ρ[i]? with
    | some (.ow d) => some (d, ⟨ρ.set i (.fz d), S⟩)
    | some (.fz d) => some (d, ⟨ρ, S⟩)
    | _ => none := rfl
@[simp] theorem wE_mVar {i : Nat} {ρ : List Sl} {S : List D} {Q : Rv → Cf → Prop} : wE (mVar i ⟨ρ, S⟩) Q = match ρ[i]? with
    | some (.fz d) => Q (.fz d) ⟨ρ, S⟩
    | some (.ow _) => Q (.loc i) ⟨ρ, S⟩
    | _ => False := by
  unfold mVar
  dsimp only
  cases ρ[i]? with
  | none => rfl
  | some s => cases s <;> rfl
@[simp] theorem wE_mC {d : D} {Q : Rv → Cf → Prop} : wE (mC d c) Q = Q (.fz d) c := propext Iff.rfl
@[simp] theorem wE_m2 {a b : Rv} {Q : Rv → Cf → Prop} : wE (m2 g a b c) Q = oE (view c a) fun x => oE (view c b) fun y => oE (g x y) fun r => Q r c := by
  unfold m2
  cases view c a with
  | none => rfl
  | some x => cases view c b with
    | none => rfl
    | some y =>
      show wE (match g x y with | some r => .ok r c | none => .stuck) Q = oE (g x y) fun r => Q r c
      cases g x y <;> rfl
@[simp] theorem wE_m1 {a : Rv} {Q : Rv → Cf → Prop} : wE (m1 g1 a c) Q = oE (view c a) fun x => oE (g1 x) fun r => Q r c := by
  unfold m1
  cases view c a with
  | none => rfl
  | some x =>
    show wE (match g1 x with | some r => .ok r c | none => .stuck) Q = oE (g1 x) fun r => Q r c
    cases g1 x <;> rfl
@[simp] theorem wE_mBin {Q : Rv → Cf → Prop} : wE (mBin g ma mb c) Q = wE (ma c) fun a c1 => wE (mb c1) fun b c2 => wE (m2 g (settle a) (settle b) c2) Q := by simp [mBin]
@[simp] theorem wE_mUn {Q : Rv → Cf → Prop} : wE (mUn g1 ma c) Q = wE (ma c) fun a c1 => wE (m1 g1 a c1) Q := by simp [mUn]
@[simp] theorem wE_maNil {Q : List Rv → Cf → Prop} : wE (maNil c) Q = Q [] c := propext Iff.rfl
@[simp] theorem wE_maCons {Q : List Rv → Cf → Prop} : wE (maCons m ms c) Q = wE (m c) fun r c1 => wE (ms c1) fun rs c2 => Q (settle r :: rs) c2 := by simp [maCons]
@[simp] theorem wE_mCB {G : List D → Option Rv} {Q : Rv → Cf → Prop} : wE (mCB G ms c) Q = wE (ms c) fun rs c1 => oE (views c1 rs) fun ds => oE (G ds) fun r => Q r c1 := by
  unfold mCB
  rw [wE_bind]
  congr 1
  funext rs c1
  cases views c1 rs with
  | none => rfl
  | some ds =>
    show wE (match G ds with | some r => .ok r c1 | none => .stuck) Q = oE (G ds) fun r => Q r c1
    cases G ds <;> rfl
@[simp] theorem views_nil : views c [] = some [] := rfl
@[simp] theorem views_cons {r : Rv} {rs : List Rv} : views c (r :: rs) = (view c r).bind fun d => (views c rs).map fun ds => d :: ds := by
  show (match view c r, views c rs with | some d, some ds => some (d :: ds) | _, _ => none) = _
  cases view c r <;> cases views c rs <;> rfl
@[simp] theorem vals_nil : vals c [] = some ([], c) := rfl
@[simp] theorem vals_cons {r : Rv} {rs : List Rv} : vals c (r :: rs) = (toVal c r).bind fun p => (vals p.2 rs).map fun q => (p.1 :: q.1, q.2) := by
  show (match toVal c r with | some (d, c1) => (match vals c1 rs with | some (ds, c2) => some (d :: ds, c2) | none => none) | none => none) = _
  cases toVal c r with
  | none => rfl
  | some p =>
    obtain ⟨d, c1⟩ := p
    dsimp only [Option.bind_some]
    cases vals c1 rs <;> rfl
@[simp] theorem wE_mCall {n : Nat} {F : Fm} {Q : Rv → Cf → Prop} : wE (mCall n F ms c) Q = wE (ms c) fun rs c1 => oE (vals c1 rs) fun p => p.1.length = n ∧ wE (F p.1 p.2.S) fun r c3 => Q r ⟨p.2.ρ, c3.S⟩ := by
  unfold mCall
  rw [wE_bind]
  congr 1
  funext rs c1
  cases vals c1 rs with
  | none => rfl
  | some p =>
    obtain ⟨ds, c2⟩ := p
    show wE (if ds.length = n then _ else _) Q = (ds.length = n ∧ _)
    by_cases h : ds.length = n
    · rw [if_pos h]
      cases F ds c2.S <;> simp [h, wE]
    · rw [if_neg h]; simp [h]
@[simp] theorem wE_mTup {Q : Rv → Cf → Prop} : wE (mTup ms c) Q = wE (ms c) fun rs c1 => oE (vals c1 rs) fun p => p.1.length ≤ sizeLine ∧ Q (.fz (.tup p.1)) p.2 := by
  unfold mTup
  rw [wE_bind]
  congr 1
  funext rs c1
  cases vals c1 rs with
  | none => rfl
  | some p =>
    obtain ⟨ds, c2⟩ := p
    show wE (if ds.length ≤ sizeLine then _ else _) Q = (ds.length ≤ sizeLine ∧ _)
    by_cases h : ds.length ≤ sizeLine
    · rw [if_pos h]; simp [h]
    · rw [if_neg h]; simp [h]
@[simp] theorem wE_mLst {Q : Rv → Cf → Prop} : wE (mLst ms c) Q = wE (ms c) fun rs c1 => oE (vals c1 rs) fun p => p.1.length ≤ sizeLine ∧ Q (.nw (.lst p.1)) p.2 := by
  unfold mLst
  rw [wE_bind]
  congr 1
  funext rs c1
  cases vals c1 rs with
  | none => rfl
  | some p =>
    obtain ⟨ds, c2⟩ := p
    show wE (if ds.length ≤ sizeLine then _ else _) Q = (ds.length ≤ sizeLine ∧ _)
    by_cases h : ds.length ≤ sizeLine
    · rw [if_pos h]; simp [h]
    · rw [if_neg h]; simp [h]
/-! tests -/
@[simp] theorem wE_mBool {Q : Bool → Cf → Prop} : wE (mBool ma c) Q = wE (ma c) fun a c1 => oE (view c1 a) fun d => match d with | .bl b => Q b c1 | _ => False := by
  unfold mBool
  rw [wE_bind]
  congr 1
  funext a c1
  cases view c1 a with
  | none => rfl
  | some d => cases d <;> rfl
@[simp] theorem wE_mTruth {Q : Bool → Cf → Prop} : wE (mTruth ma c) Q = wE (ma c) fun a c1 => oE (view c1 a) fun d => oE (truthD d) fun b => Q b c1 := by
  unfold mTruth
  rw [wE_bind]
  congr 1
  funext a c1
  cases view c1 a with
  | none => rfl
  | some d =>
    show wE (match truthD d with | some b => .ok b c1 | none => .stuck) Q = oE (truthD d) fun b => Q b c1
    cases truthD d <;> rfl
@[simp] theorem wE_tmAnd {Q : Bool → Cf → Prop} : wE (tmAnd t u c) Q = wE (t c) fun b c1 => if b = true then wE (u c1) Q else Q false c1 := by
  unfold tmAnd
  rw [wE_bind]
  congr 1
  funext b c1
  cases b <;> simp
@[simp] theorem wE_tmOr {Q : Bool → Cf → Prop} : wE (tmOr t u c) Q = wE (t c) fun b c1 => if b = true then Q true c1 else wE (u c1) Q := by
  unfold tmOr
  rw [wE_bind]
  congr 1
  funext b c1
  cases b <;> simp
@[simp] theorem wE_tmNot {Q : Bool → Cf → Prop} : wE (tmNot t c) Q = wE (t c) fun b c1 => Q (!b) c1 := by simp [tmNot]
@[simp] theorem wE_tmYes {Q : Bool → Cf → Prop} : wE (tmYes c) Q = Q true c := propext Iff.rfl
theorem wE_ite {p : Prop} [Decidable p] {a b : Res α} {Q : α → Cf → Prop} : wE (if p then a else b) Q = if p then wE a Q else wE b Q := by split <;> rfl
@[simp] theorem wE_mIfE {Q : Rv → Cf → Prop} : wE (mIfE t ma mb c) Q = wE (t c) fun b c1 => if b = true then wE (ma c1) Q else wE (mb c1) Q := by
  simp [mIfE, wE_ite]
@[simp] theorem wE_mNot {Q : Rv → Cf → Prop} : wE (mNot ma c) Q = wE (ma c) fun a c1 => oE (view c1 a) fun d => match d with | .bl b => Q (.fz (.bl (!b))) c1 | _ => False := by
  unfold mNot
  rw [wE_bind]
  congr 1
  funext a c1
  cases view c1 a with
  | none => rfl
  | some d => cases d <;> rfl
/-! iterables -/
@[simp] theorem wE_mSeq {Q : List D → Cf → Prop} : wE (mSeq m c) Q = wE (m c) fun r c1 => oE (toVal c1 r) fun p => match p.1 with | .lst ds => Q ds p.2 | .ro ds => Q ds p.2 | .tup ds => Q ds p.2 | .str x => Q (signsD x) p.2 | _ => False := by
  unfold mSeq
  rw [wE_bind]
  congr 1
  funext a c1
  cases toVal c1 a with
  | none => rfl
  | some p =>
    obtain ⟨d, c2⟩ := p
    cases d <;> rfl
@[simp] theorem wE_mRng1 {Q : List D → Cf → Prop} : wE (mRng1 ms c) Q = wE (ms c) fun rs c1 => oE (views c1 rs) fun ds => match ds with | [.int j] => (-(2 ^ 62) ≤ j ∧ j < 2 ^ 62) ∧ Q (rangeD 0 j.toNat) c1 | _ => False := by
  unfold mRng1
  rw [wE_bind]
  congr 1
  funext rs c1
  cases views c1 rs with
  | none => rfl
  | some ds =>
    show wE (match some ds with | some [.int j] => if -(2 ^ 62) ≤ j ∧ j < 2 ^ 62 then .ok (rangeD 0 j.toNat) c1 else .stuck | _ => .stuck) Q = (match ds with | [.int j] => (-(2 ^ 62) ≤ j ∧ j < 2 ^ 62) ∧ Q (rangeD 0 j.toNat) c1 | _ => False)
    split
    · rename_i j e
      cases e
      rw [wE_ite]
      by_cases h : -(2 ^ 62) ≤ j ∧ j < 2 ^ 62
      · rw [if_pos h]; simp only [wE_ok]; exact propext ⟨fun z => ⟨h, z⟩, fun z => z.2⟩
      · rw [if_neg h]; simp only [wE_stuck]; exact (propext ⟨fun z => z.elim, fun z => h z.1⟩)
    · rename_i h
      split
      · exact absurd rfl (h _)
      · rfl
/-! statements -/
@[simp] theorem wE_bNil {Q : Fl → Cf → Prop} : wE (bNil c) Q = Q .nx c := propext Iff.rfl
@[simp] theorem wE_bCons {m1 m2 : Sm} {Q : Fl → Cf → Prop} : wE (bCons m1 m2 c) Q = wE (m1 c) fun fl c1 => match fl with | .nx => wE (m2 c1) Q | fl => Q fl c1 := by
  unfold bCons
  cases m1 c with
  | ok fl c1 => cases fl <;> rfl
  | _ => rfl
@[simp] theorem wE_sDrop {Q : Fl → Cf → Prop} : wE (sDrop m c) Q = wE (m c) fun _ c1 => Q .nx c1 := by simp [sDrop]
@[simp] theorem wE_sRet {Q : Fl → Cf → Prop} : wE (sRet m c) Q = wE (m c) fun r c1 => Q (.rt r) c1 := by simp [sRet]
@[simp] theorem wE_sIf {m1 m2 : Sm} {Q : Fl → Cf → Prop} : wE (sIf t m1 m2 c) Q = wE (t c) fun b c1 => if b = true then wE (m1 c1) Q else wE (m2 c1) Q := by
  simp [sIf, wE_ite]
@[simp] theorem wE_sSet {i : Nat} {Q : Fl → Cf → Prop} : wE (sSet i m c) Q = wE (m c) fun r c1 => oE (putR i r c1) fun c2 => Q .nx c2 := by
  unfold sSet
  rw [wE_bind]
  congr 1
  funext r c1
  cases putR i r c1 <;> rfl
@[simp] theorem wE_sSetH {i : Nat} {Q : Fl → Cf → Prop} : wE (sSetH i m c) Q = wE (m c) fun r c1 => oE (putH i r c1) fun c2 => Q .nx c2 := by
  unfold sSetH
  rw [wE_bind]
  congr 1
  funext r c1
  cases putH i r c1 <;> rfl
@[simp] theorem putR_fz {i : Nat} {d : D} {ρ : List Sl} {S : List D} : putR i (.fz d) ⟨ρ, S⟩ = if i < ρ.length then some ⟨ρ.set i (.fz d), S⟩ else none := rfl
@[simp] theorem putR_nwl {i : Nat} {d : List D} {ρ : List Sl} {S : List D} : putR i (.nw (.lst d)) ⟨ρ, S⟩ = if i < ρ.length then some ⟨ρ.set i (.ow (.lst d)), S⟩ else none := rfl
@[simp] theorem putR_nwt {i : Nat} {d : List D} {ρ : List Sl} {S : List D} : putR i (.nw (.tup d)) ⟨ρ, S⟩ = if i < ρ.length then some ⟨ρ.set i (.fz (.tup d)), S⟩ else none := rfl
@[simp] theorem putR_nwd {i : Nat} {d : List (Key × D)} {ρ : List Sl} {S : List D} : putR i (.nw (.dct d)) ⟨ρ, S⟩ = if i < ρ.length then some ⟨ρ.set i (.ow (.dct d)), S⟩ else none := rfl
@[simp] theorem putR_loc {i j : Nat} {ρ : List Sl} {S : List D} : putR i (.loc j) ⟨ρ, S⟩ = if i < ρ.length then (match ρ[j]? with
      | some (.ow d) => some ⟨(ρ.set j (.fz d)).set i (.fz d), S⟩
      | some (.fz d) => some ⟨ρ.set i (.fz d), S⟩
      | _ => none) else none := rfl
@[simp] theorem putH_nw {i : Nat} {d : D} {ρ : List Sl} {S : List D} : putH i (.nw d) ⟨ρ, S⟩ = if i < ρ.length then some ⟨ρ.set i (.fz (.hdl S.length)), S ++ [d]⟩ else none := rfl
@[simp] theorem wE_sUnp {is : List Nat} {Q : Fl → Cf → Prop} : wE (sUnp is m c) Q = wE (m c) fun r c1 => oE (toVal c1 r) fun p => match p.1 with | .tup ds => oE (fzL is ds p.2) fun c3 => Q .nx c3 | _ => False := by
  unfold sUnp
  rw [wE_bind]
  congr 1
  funext r c1
  cases toVal c1 r with
  | none => rfl
  | some p =>
    obtain ⟨d, c2⟩ := p
    cases d with
    | tup ds =>
      show wE (match fzL is ds c2 with | some c3 => .ok .nx c3 | none => .stuck) Q = oE (fzL is ds c2) fun c3 => Q .nx c3
      cases fzL is ds c2 <;> rfl
    | _ => rfl
@[simp] theorem fzL_nil : fzL [] [] c = some c := rfl
@[simp] theorem fzL_cons {i : Nat} {is : List Nat} {d : D} {ds : List D} {ρ : List Sl} {S : List D} : fzL (i :: is) (d :: ds) ⟨ρ, S⟩ = if i < ρ.length then fzL is ds ⟨ρ.set i (.fz d), S⟩ else none := rfl
@[simp] theorem mPend_nil {Q : List Pend → Cf → Prop} : wE (mPend [] c) Q = Q [] c := propext Iff.rfl
@[simp] theorem mPend_cons {l : List Em} {Q : List Pend → Cf → Prop} : wE (mPend (m :: l) c) Q = wE (m c) fun r c1 => oE (pend c1 r) fun p => wE (mPend l p.2) fun ps c3 => Q (p.1 :: ps) c3 := by
  show wE ((m c).bind _) Q = _
  rw [wE_bind]
  congr 1
  funext r c1
  cases pend c1 r with
  | none => rfl
  | some p => obtain ⟨p, c2⟩ := p; simp
@[simp] theorem wE_sPend {is : List Nat} {l : List Em} {Q : Fl → Cf → Prop} : wE (sPend is l c) Q = wE (mPend l c) fun ps c1 => ps.length ≤ sizeLine ∧ oE (putL is ps c1) fun c2 => Q .nx c2 := by
  unfold sPend
  rw [wE_bind]
  congr 1
  funext ps c1
  rw [wE_ite]
  by_cases h : ps.length ≤ sizeLine
  · rw [if_pos h]
    cases putL is ps c1 <;> simp [h]
  · rw [if_neg h]; simp [h]
@[simp] theorem pend_fz {d : D} : pend c (.fz d) = some (.fz d, c) := rfl
@[simp] theorem pend_nwl {d : List D} : pend c (.nw (.lst d)) = some (.nw (.lst d), c) := rfl
@[simp] theorem pend_loc {i : Nat} {ρ : List Sl} {S : List D} : pend ⟨ρ, S⟩ (.loc i) = match ρ[i]? with
    | some (.ow d) => some (.fz d, ⟨ρ.set i (.fz d), S⟩)
    | some (.fz d) => some (.fz d, ⟨ρ, S⟩)
    | _ => none := rfl
@[simp] theorem putL_nil : putL [] [] c = some c := rfl
@[simp] theorem putL_fz {i : Nat} {is : List Nat} {d : D} {ds : List Pend} {ρ : List Sl} {S : List D} : putL (i :: is) (.fz d :: ds) ⟨ρ, S⟩ = if i < ρ.length then putL is ds ⟨ρ.set i (.fz d), S⟩ else none := rfl
@[simp] theorem putL_nw {i : Nat} {is : List Nat} {d : D} {ds : List Pend} {ρ : List Sl} {S : List D} : putL (i :: is) (.nw d :: ds) ⟨ρ, S⟩ = if i < ρ.length then putL is ds ⟨ρ.set i (.ow d), S⟩ else none := rfl
/-! methods that change -/
@[simp] theorem wE_mMut {T : String} {G : D → List D → Option (D × D)} {Q : Rv → Cf → Prop} : wE (mMut T G m ms c) Q = wE (m c) fun r c1 => oE (cont c1 r) fun d1 => tyD T d1 = true ∧ wE (ms c1) fun rs c2 => oE (vals c2 rs) fun p => oE (cont p.2 r) fun d => oE (G d p.1) fun q => oE (putB p.2 r q.1) fun c4 => Q (.fz q.2) c4 := by
  unfold mMut
  rw [wE_bind]
  congr 1
  funext r c1
  cases cont c1 r with
  | none => rfl
  | some d1 =>
    show wE (if tyD T d1 = true then _ else _) Q = (tyD T d1 = true ∧ _)
    by_cases h : tyD T d1 = true
    · rw [if_pos h, wE_bind]
      simp only [h, true_and]
      congr 1
      funext rs c2
      cases vals c2 rs with
      | none => rfl
      | some p =>
        obtain ⟨ds, c3⟩ := p
        simp only [oE_some]
        cases cont c3 r with
        | none => rfl
        | some d =>
          simp only [oE_some]
          cases G d ds with
          | none => rfl
          | some q =>
            obtain ⟨d', res⟩ := q
            simp only [oE_some]
            cases putB c3 r d' <;> rfl
    · rw [if_neg h]; simp [h]
@[simp] theorem cont_loc {i : Nat} {ρ : List Sl} {S : List D} : cont ⟨ρ, S⟩ (.loc i) = match ρ[i]? with
    | some (.ow d) => some d
    | _ => none := rfl
@[simp] theorem cont_hdl {n : Nat} : cont c (.fz (.hdl n)) = c.S[n]? := rfl
@[simp] theorem putB_loc {i : Nat} {d : D} {ρ : List Sl} {S : List D} : putB ⟨ρ, S⟩ (.loc i) d = some ⟨ρ.set i (.ow d), S⟩ := rfl
@[simp] theorem putB_hdl {n : Nat} {d : D} {ρ : List Sl} {S : List D} : putB ⟨ρ, S⟩ (.fz (.hdl n)) d = some ⟨ρ, S.set n d⟩ := rfl
@[simp] theorem wE_sPut {G : D → D → D → Option D} {mv mo mi : Em} {Q : Fl → Cf → Prop} : wE (sPut G mv mo mi c) Q = wE (mv c) fun rv c1 => wE (mo c1) fun ro c2 => wE (mi c2) fun ri c3 => oE (view c3 ri) fun di => oE (toVal c3 (settle rv)) fun p => oE (cont p.2 (settle ro)) fun d => oE (G d di p.1) fun d' => oE (putB p.2 (settle ro) d') fun c5 => Q .nx c5 := by
  unfold sPut
  rw [wE_bind, wE_st]
  congr 1
  funext rv c1
  rw [wE_bind, wE_st]
  congr 1
  funext ro c2
  rw [wE_bind]
  congr 1
  funext ri c3
  cases view c3 ri with
  | none => rfl
  | some di =>
    simp only [oE_some]
    cases toVal c3 (settle rv) with
    | none => rfl
    | some p =>
      obtain ⟨dv, c4⟩ := p
      simp only [oE_some]
      cases cont c4 (settle ro) with
      | none => rfl
      | some d =>
        simp only [oE_some]
        cases G d di dv with
        | none => rfl
        | some d' =>
          simp only [oE_some]
          cases putB c4 (settle ro) d' <;> rfl
/-! displays, slices -/
@[simp] theorem wE_mPairs_nil {Q : List (Key × D) → Cf → Prop} : wE (mPairs [] c) Q = Q [] c := propext Iff.rfl
@[simp] theorem wE_mPairs_cons {k : Key} {ps : List (Key × Em)} {Q : List (Key × D) → Cf → Prop} : wE (mPairs ((k, m) :: ps) c) Q = wE (m c) fun r c1 => oE (toVal c1 r) fun p => wE (mPairs ps p.2) fun kvs c3 => Q ((k, p.1) :: kvs) c3 := by
  show wE ((m c).bind _) Q = _
  rw [wE_bind]
  congr 1
  funext r c1
  cases toVal c1 r with
  | none => rfl
  | some p => obtain ⟨d, c2⟩ := p; simp
@[simp] theorem wE_mDisp {ps : List (Key × Em)} {Q : Rv → Cf → Prop} : wE (mDisp ps c) Q = wE (mPairs ps c) fun kvs c1 => kvs.length ≤ 15 ∧ Q (.nw (.dct (mergeD kvs []))) c1 := by
  unfold mDisp
  rw [wE_bind]
  congr 1
  funext kvs c1
  rw [wE_ite]
  by_cases h : kvs.length ≤ 15
  · rw [if_pos h]; simp [h]
  · rw [if_neg h]; simp [h]
/-! defs -/
theorem wE_runF {n : Nat} {mb : Sm} {ds S : List D} {Q : Rv → Cf → Prop} (h : wE (mb ⟨ds.map Sl.fz ++ List.replicate (n - ds.length) .un, S⟩) fun fl c => match fl with
    | .nx => Q (.fz .non) ⟨[], c.S⟩
    | .rt r => oE (leaveR c r) fun r' => Q r' ⟨[], c.S⟩
    | _ => False) : wE (runF n mb ds S) Q := by
  unfold runF
  cases e : mb ⟨ds.map Sl.fz ++ List.replicate (n - ds.length) .un, S⟩ with
  | ok fl c =>
    rw [e] at h
    cases fl with
    | rt r =>
      have h : oE (leaveR c r) fun r' => Q r' ⟨[], c.S⟩ := h
      dsimp only
      cases q : leaveR c r with
      | none => rw [q] at h; exact h
      | some r' => rw [q] at h; exact h
    | _ => exact h
  | _ => rw [e] at h; exact h
@[simp] theorem leaveR_fz {d : D} : leaveR c (.fz d) = some (.fz d) := rfl
@[simp] theorem leaveR_nw {d : D} : leaveR c (.nw d) = some (.nw d) := rfl
@[simp] theorem leaveR_loc {i : Nat} {ρ : List Sl} {S : List D} : leaveR ⟨ρ, S⟩ (.loc i) = match ρ[i]? with
    | some (.ow d) => some (.nw d)
    | some (.fz d) => some (.fz d)
    | _ => none := rfl
/-! loops -/
theorem wE_for_inv {g : D → Cf → Option Cf} {body : Sm} {R : Rv → Cf → Prop} (I : Nat → Cf → Prop) : ∀ {ds : List D} {k : Nat} {c : Cf},
    (∀ i d c, ds[i]? = some d → I (k + i) c → oE (g d c) fun c1 => wE (body c1) fun fl c2 => match fl with | .nx => I (k + i + 1) c2 | .ct => I (k + i + 1) c2 | .rt r => R r c2 | .bk => False) → I k c →
    wE (forD g body ds c) fun fl c' => (fl = .nx ∧ I (k + ds.length) c') ∨ ∃ r, fl = .rt r ∧ R r c'
  | [], k, c, h, hI => .inl ⟨rfl, hI⟩
  | d :: ds, k, c, h, hI => by
    have h0 := h 0 d c rfl hI
    unfold forD
    cases e : g d c with
    | none => rw [e] at h0; exact h0.elim
    | some c1 =>
      rw [e] at h0
      have h0 : wE (body c1) fun fl c2 => match fl with | .nx => I (k + 0 + 1) c2 | .ct => I (k + 0 + 1) c2 | .rt r => R r c2 | .bk => False := h0
      dsimp only
      have nxt : ∀ c2, I (k + 1) c2 → wE (forD g body ds c2) fun fl c' => (fl = .nx ∧ I (k + (d :: ds).length) c') ∨ ∃ r, fl = .rt r ∧ R r c' := fun c2 h2 => by
        have := wE_for_inv (g := g) (body := body) (R := R) I (ds := ds) (k := k + 1) (c := c2) (fun i d' c' e' hi => by
          have := h (i + 1) d' c' (by simpa using e') (by rw [show k + (i + 1) = k + 1 + i by omega]; exact hi)
          rw [show k + (i + 1) = k + 1 + i by omega] at this
          exact this) h2
        rw [List.length_cons, show k + (ds.length + 1) = k + 1 + ds.length by omega]
        exact this
      cases e2 : body c1 with
      | ok fl c2 =>
        rw [e2] at h0
        cases fl with
        | nx => exact nxt c2 h0
        | ct => exact nxt c2 h0
        | rt r => exact .inr ⟨r, rfl, h0⟩
        | bk => exact h0.elim
      | _ => rw [e2] at h0; exact h0.elim
theorem wE_for {mi : Cf → Res (List D)} {g : D → Cf → Option Cf} {body : Sm} {Q : Fl → Cf → Prop} : wE (sFor mi g body c) Q = wE (mi c) fun ds c1 => wE (forD g body ds c1) Q := by simp [sFor]
/-- a while loop: the measure falls -/
theorem wE_wh {body : Sm} {R : Rv → Cf → Prop} {Z : Cf → Prop} (I : Nat → Cf → Prop) (h : ∀ m c, I m c → wE (t c) fun b c1 => if b = true then wE (body c1) fun fl c2 => match fl with
      | .nx => ∃ m', m = m' + 1 ∧ I m' c2
      | .rt r => R r c2
      | _ => False else Z c1) : ∀ {n m : Nat} {c : Cf}, m < n → I m c → wE (whD t body n c) fun fl c' => (fl = .nx ∧ Z c') ∨ ∃ r, fl = .rt r ∧ R r c'
  | 0, _, _, hn, _ => absurd hn (by omega)
  | n + 1, m, c, hn, hI => by
    have h0 := h m c hI
    unfold whD
    cases e : t c with
    | ok b c1 =>
      rw [e] at h0
      cases b with
      | false => exact .inl ⟨rfl, h0⟩
      | true =>
        have h0 : wE (body c1) fun fl c2 => match fl with | .nx => ∃ m', m = m' + 1 ∧ I m' c2 | .rt r => R r c2 | _ => False := h0
        dsimp only
        cases e2 : body c1 with
        | ok fl c2 =>
          rw [e2] at h0
          cases fl with
          | nx =>
            obtain ⟨m', rfl, h2⟩ := h0
            exact wE_wh I h (by omega) h2
          | rt r => exact .inr ⟨r, rfl, h0⟩
          | _ => exact h0.elim
        | _ => rw [e2] at h0; exact h0.elim
    | _ => rw [e] at h0; exact h0.elim
/-! comprehensions -/
theorem comp_inv {g : D → Cf → Option Cf} {me : Em} {vs : List Nat} (I : List D → List D → Cf → Prop) (h : ∀ d ds acc c, I acc (d :: ds) c → oE (g d { c with ρ := wipeR c.ρ vs }) fun c1 => wE (t c1) fun b c2 =>
      if b = true then wE (me c2) fun r c3 => oE (toVal c3 r) fun p => acc.length < sizeLine ∧ I (acc ++ [p.1]) ds p.2 else I acc ds c2) :
    ∀ {ds acc : List D} {c : Cf}, I acc ds c → oE (compD g t me vs ds acc c) fun p => I p.1 [] p.2
  | [], acc, c, hI => hI
  | d :: ds, acc, c, hI => by
    have h0 := h d ds acc c hI
    unfold compD
    cases e : g d { c with ρ := wipeR c.ρ vs } with
    | none => rw [e] at h0; exact h0.elim
    | some c1 =>
      rw [e] at h0
      simp only [oE_some] at h0
      dsimp only
      cases e2 : t c1 with
      | ok b c2 =>
        rw [e2] at h0
        cases b with
        | false => exact comp_inv I h (by simpa using h0)
        | true =>
          simp only [wE_ok, if_true] at h0
          dsimp only
          cases e3 : me c2 with
          | ok r c3 =>
            rw [e3] at h0
            simp only [wE_ok] at h0
            dsimp only
            cases e4 : toVal c3 r with
            | none => rw [e4] at h0; exact h0.elim
            | some p =>
              obtain ⟨v, c4⟩ := p
              rw [e4] at h0
              simp only [oE_some] at h0
              dsimp only
              rw [if_pos h0.1]
              exact comp_inv I h h0.2
          | _ => rw [e3] at h0; exact h0.elim
      | _ => rw [e2] at h0; exact h0.elim
theorem wE_mComp {vs : List Nat} {mi : Cf → Res (List D)} {g : D → Cf → Option Cf} {me : Em} {Q : Rv → Cf → Prop} : wE (mComp vs mi g t me c) Q = wE (mi c) fun ds c1 => noOw c1.ρ vs = true ∧ oE (compD g t me vs ds [] c1) fun p => Q (.nw (.lst p.1)) { p.2 with ρ := restR c1.ρ p.2.ρ vs } := by
  unfold mComp
  rw [wE_bind]
  congr 1
  funext ds c1
  rw [wE_ite]
  by_cases h : noOw c1.ρ vs = true
  · rw [if_pos h]
    cases compD g t me vs ds [] c1 <;> simp [h]
  · rw [if_neg h]; simp [h]
/-- one name, nothing changed: a filter and a map -/
theorem comp_pure {j : Nat} {me : Em} {p : D → Bool} {f : D → D} {ρ : List Sl} {S : List D} {s0 : Sl} {ds : List D} {Q : Rv → Cf → Prop} (hj : ρ[j]? = some s0) (h0 : ∀ d, s0 ≠ .ow d) (hl : ds.length ≤ sizeLine)
    (ht : ∀ d ∈ ds, wE (t ⟨ρ.set j (.fz d), S⟩) fun b c => b = p d ∧ c = ⟨ρ.set j (.fz d), S⟩)
    (hm : ∀ d ∈ ds, p d = true → wE (me ⟨ρ.set j (.fz d), S⟩) fun r c => toVal c r = some (f d, ⟨ρ.set j (.fz d), S⟩))
    (hQ : Q (.nw (.lst ((ds.filter p).map f))) ⟨ρ, S⟩) : noOw ρ [j] = true ∧ oE (compD (gFz j) t me [j] ds [] ⟨ρ, S⟩) fun q => Q (.nw (.lst q.1)) { q.2 with ρ := restR ρ q.2.ρ [j] } := by
  have hjl : j < ρ.length := (List.getElem?_eq_some_iff.mp hj).1
  have gd : ρ.getD j .un = s0 := by rw [List.getD_eq_getElem?_getD, hj]; rfl
  refine ⟨?_, ?_⟩
  · unfold noOw
    simp only [List.all_cons, List.all_nil, Bool.and_true]
    rw [gd]
    cases s0 with
    | ow d => exact absurd rfl (h0 d)
    | _ => rfl
  · have key := comp_inv (g := gFz j) (t := t) (me := me) (vs := [j]) (fun acc rest c => ∃ done x, done ++ rest = ds ∧ acc = (done.filter p).map f ∧ c = ⟨ρ.set j x, S⟩) (fun d rest acc c ⟨done, x, e1, e2, e3⟩ => by
      subst e3
      have hd : d ∈ ds := by rw [← e1]; simp
      have ew : wipeR (ρ.set j x) [j] = ρ.set j .un := by simp [wipeR, List.set_set]
      rw [ew]
      unfold gFz
      rw [if_pos (by simpa using hjl)]
      simp only [oE_some, List.set_set]
      refine wE_mono (ht d hd) fun b c ⟨hb, hc⟩ => ?_
      subst hb hc
      cases hp : p d with
      | false =>
        rw [if_neg (by simp)]
        exact ⟨done ++ [d], _, by simp [e1], by simp [e2, List.filter_append, hp], rfl⟩
      | true =>
        rw [if_pos rfl]
        refine wE_mono (hm d hd hp) fun r c hv => ?_
        rw [hv]
        refine ⟨?_, done ++ [d], _, by simp [e1], by simp [e2, List.filter_append, hp], rfl⟩
        rw [e2, List.length_map]
        have h1 := List.length_filter_le p done
        have h2 : done.length + (d :: rest).length = ds.length := by rw [← e1]; simp
        rw [List.length_cons] at h2
        omega) (ds := ds) (acc := []) (c := ⟨ρ, S⟩) ⟨[], s0, rfl, rfl, by
          congr 1
          apply List.ext_getElem?
          intro k
          by_cases hk : k = j
          · subst hk; rw [List.getElem?_set_self hjl, hj]
          · rw [List.getElem?_set_ne (Ne.symm hk)]⟩
    cases e : compD (gFz j) t me [j] ds [] ⟨ρ, S⟩ with
    | none => rw [e] at key; exact key.elim
    | some q =>
      obtain ⟨acc, c2⟩ := q
      rw [e] at key
      obtain ⟨done, x, e1, e2, e3⟩ := key
      simp only [List.append_nil] at e1
      simp only at e3
      subst e1
      show Q (.nw (.lst acc)) { c2 with ρ := restR ρ c2.ρ [j] }
      have e2 : acc = (done.filter p).map f := e2
      rw [e2, e3]
      have er : restR ρ (ρ.set j x) [j] = ρ := by
        simp only [restR, List.set_set, gd]
        apply List.ext_getElem?
        intro k
        by_cases hk : k = j
        · subst hk; rw [List.getElem?_set_self hjl, hj]
        · rw [List.getElem?_set_ne (Ne.symm hk)]
      show Q _ ⟨restR ρ (ρ.set j x) [j], S⟩
      rw [er]
      exact hQ
end
end LH
/-! LHMore: three names at once, chains of two comparisons. -/
namespace LH
open PySem PySem.Spec PyProof.Rows L2
section
variable {X : Cx} {a b d : Expr} {ma mb mc : Em} {ms : List Em} {pos tpos epos : Pos}
theorem sx_tup3 {x y z : Str} {px py pz : Pos} {k k2 : Nat} (i j l : Nat) (hc : X.calm = true) (hN : X.N.Nodup) (L : ExL X [a, b, d] ms) (hi : X.N[i]? = some x := by rfl) (hj : X.N[j]? = some y := by rfl) (hl : X.N[l]? = some z := by rfl) (hij : i ≠ j := by decide) (hil : i ≠ l := by decide) (hjl : j ≠ l := by decide)
    (hx : X.env.scope.names.lookup x = some .local := by rfl) (hy : X.env.scope.names.lookup y = some .local := by rfl) (hz : X.env.scope.names.lookup z = some .local := by rfl)
    (hw : swappedStores [.Tuple [.Name x px, .Name y py, .Name z pz] k tpos] (.Tuple [a, b, d] k2 epos) X.env = pure (some [x, y, z]) := by rfl)
    (hs : swapsWithSole [.Tuple [.Name x px, .Name y py, .Name z pz] k tpos] (.Tuple [a, b, d] k2 epos) pos.line X.env = pure false := by rfl) :
    Sx X (.Assign [.Tuple [.Name x px, .Name y py, .Name z pz] k tpos] (.Tuple [a, b, d] k2 epos) pos) (sPend [i, j, l] ms) := by
  refine ⟨fun E η M c σ H s => ?_⟩
  refine out_pend L s fun Z hq => ps_ws (ps_par3 hc hN hi hj hl hij hil hjl hx hy hz wa_pa hw hs) ?_
  intro pp pins st I
  refine thn (hq pp pins st I) fun us s2 ⟨vs, H2, I2, r2, q1, q2, q3, q4⟩ => ⟨vs, H2, I2, r2, ?_⟩
  match vs, q1 with
  | [u, v, w], _ => exact ⟨u, v, w, rfl, q4⟩
def mChain (g g' : D → D → Option Rv) (ma mb mc : Em) : Em := fun c => (ma c).st.bind fun ra c1 => (mb c1).st.bind fun rb c2 => (m2 g ra rb c2).bind fun rk c3 => match view c3 rk with
  | some (.bl true) => (mc c3).st.bind fun rc c4 => m2 g' rb rc c4
  | some (.bl false) => .ok (.fz (.bl false)) c3
  | _ => .stuck
theorem out_chain {op op' : CmpOp} {g g' : D → D → Option Rv} (hg : Op2 X (Wo X (compareOp op)) g) (hg' : Op2 X (Wo X (compareOp op')) g') (ha : Ex X a ma) (hb : Ex X b mb) (hc : Ex X d mc) {E : En} {η : List Addr} {M H : Hp} {c : Cf} {σ : St} (s : SR X.K X.mg E η M c σ H) :
    Out X (RV X.K X.mg) (tChain (Wo X (compareOp op)) (Wo X (compareOp op')) (We X a) (We X b) (We X d) σ H) E η M σ (mChain g g' ma mb mc c) := by
  refine Out.bind (R := RVst X.K X.mg) (fun x H1 Q => We X b σ H1 fun y H2 => Wo X (compareOp op) x y H2 fun z H3 => ∃ k, z = .bl k ∧ (if k = true then We X d σ H3 fun w' H4 => Wo X (compareOp op') y w' H4 Q else Q (.bl false) H3)) (out_st (ha E η M c σ H s)) (fun Q hq => hq) fun ra c1 x η1 M1 H1 s1 x1 z1 => ?_
  refine Out.bind (R := RVst X.K X.mg) (fun y H2 Q => Wo X (compareOp op) x y H2 fun z H3 => ∃ k, z = .bl k ∧ (if k = true then We X d σ H3 fun w' H4 => Wo X (compareOp op') y w' H4 Q else Q (.bl false) H3)) (out_st (hb E η1 M1 c1 σ H1 s1)) (fun Q hq => hq) fun rb c2 y η2 M2 H2 s2 x2 z2 => ?_
  refine Out.bind (fun z H3 Q => ∃ k, z = .bl k ∧ (if k = true then We X d σ H3 fun w' H4 => Wo X (compareOp op') y w' H4 Q else Q (.bl false) H3)) (out_m2 hg s2 (z1.2.keep x2 z1.1) z2.2) (fun Q hq => hq) fun rk c3 z η3 M3 H3 s3 x3 z3 => ?_
  cases e1 : view c3 rk with
  | none => trivial
  | some dk =>
    cases dk with
    | bl k =>
      have ez := (view_ok s3 z3 e1).bl
      subst ez
      cases k with
      | false => exact out_ok s3 (fun Q hq => ⟨false, rfl, by rw [if_neg (by simp)]; exact hq⟩) (show RV X.K X.mg E η3 M3 c3 σ H3 (.bl false) (.fz (.bl false)) from Rep.bl false)
      | true =>
        have o : Out X (RV X.K X.mg) (fun Q => We X d σ H3 fun w' H4 => Wo X (compareOp op') y w' H4 Q) E η3 M3 σ ((mc c3).st.bind fun rc c4 => m2 g' rb rc c4) := by
          refine Out.bind (R := RVst X.K X.mg) (fun w' H4 Q => Wo X (compareOp op') y w' H4 Q) (out_st (hc E η3 M3 c3 σ H3 s3)) (fun Q hq => hq) fun rc c4 w' η4 M4 H4 s4 x4 z4 => ?_
          exact out_m2 hg' s4 (z2.2.keep (x3.trans x4) z2.1) z4.2
        exact o.imp (fun x => x) (fun Q hq => ⟨true, rfl, by rw [if_pos rfl]; exact hq⟩) fun _ _ _ _ _ _ _ z => z
    | _ => trivial
theorem ex_chain {op op' : CmpOp} {g g' : D → D → Option Rv} (hg : Op2 X (Wo X (compareOp op)) g) (hg' : Op2 X (Wo X (compareOp op')) g') (ha : Ex X a ma) (hb : Ex X b mb) (hc : Ex X d mc) (hm : lastMarks [op, op'] [b, d] = false := by with_unfolding_all rfl) : Ex X (.Compare a [op, op'] [b, d] pos) (mChain g g' ma mb mc) :=
  ⟨fun E η M c σ H s => (out_chain hg hg' ha hb hc s).imp (fun x => x) (fun Q hq => pe_we (pe_chain wo_op wo_op we_pe we_pe we_pe hm) hq) fun _ _ _ _ _ _ _ z => z⟩
theorem tx_chain {op op' : CmpOp} {g g' : D → D → Option Rv} (hg : Op2 X (Wo X (compareOp op)) g) (hg' : Op2 X (Wo X (compareOp op')) g') (ha : Ex X a ma) (hb : Ex X b mb) (hc : Ex X d mc) (hm : lastMarks [op, op'] [b, d] = false := by with_unfolding_all rfl) : Tx X (.Compare a [op, op'] [b, d] pos) (mBool (mChain g g' ma mb mc)) :=
  ⟨fun E η M c σ H s => out_bool (out_chain hg hg' ha hb hc s) fun Q hq => pt_wt (pt_chain wo_op wo_op we_pe we_pe we_pe hm) hq⟩
end
end LH
/-! LHObj: fields of objects. -/
namespace LH
open PySem PySem.Spec PyProof.Rows L2
/-- the classes of these names have no attribute of their own called f -/
def FldOk (K : Fg) (mg : Mg) (cs : List Str) (f : Str) : Prop := ∀ c ∈ cs, ∀ C, mg c = some (.ref C) → Cls K C ∧ NoAttr K C f
theorem lookup_rep {K : Fg} {mg : Mg} {η : List Addr} {M : Hp} {f : Str} {d : D} : ∀ {fs : List (Str × V)} {fds : List (Str × D)}, fs.map (·.1) = fds.map (·.1) → RepL K mg η M (fs.map (·.2)) (fds.map (·.2)) → fds.lookup f = some d → ∃ v, fs.lookup f = some v ∧ Rep K mg η M v d
  | [], [], _, _, e => by cases e
  | [], _ :: _, h, _, _ => by simp at h
  | _ :: _, [], h, _, _ => by simp at h
  | (g, v) :: fs, (g', x) :: fds, h, .cons r rs, e => by
    simp only [List.map_cons, List.cons.injEq] at h
    obtain ⟨rfl, h⟩ := h
    rw [List.lookup_cons] at e ⊢
    cases q : f == g with
    | true =>
      rw [q] at e
      simp only [if_true] at e ⊢
      cases e
      exact ⟨v, rfl, r⟩
    | false =>
      rw [q] at e
      simp only [Bool.false_eq_true, if_false] at e ⊢
      exact lookup_rep h rs e
def putFd (f : Str) (d : D) : List (Str × D) → List (Str × D)
  | [] => [(f, d)]
  | (g, x) :: r => if g = f then (g, d) :: r else (g, x) :: putFd f d r
theorem putF_rep {K : Fg} {mg : Mg} {η : List Addr} {M : Hp} {f : Str} {v : V} {d : D} (r : Rep K mg η M v d) : ∀ {fs : List (Str × V)} {fds : List (Str × D)}, fs.map (·.1) = fds.map (·.1) → RepL K mg η M (fs.map (·.2)) (fds.map (·.2)) →
    (putF f v fs).map (·.1) = (putFd f d fds).map (·.1) ∧ RepL K mg η M ((putF f v fs).map (·.2)) ((putFd f d fds).map (·.2))
  | [], [], _, _ => ⟨rfl, .cons r .nil⟩
  | [], _ :: _, h, _ => by simp at h
  | _ :: _, [], h, _ => by simp at h
  | (g, y) :: fs, (g', x) :: fds, h, .cons r1 rs => by
    simp only [List.map_cons, List.cons.injEq] at h
    obtain ⟨rfl, h⟩ := h
    unfold putF putFd
    by_cases q : g = f
    · rw [if_pos q, if_pos q]
      exact ⟨by simp [h], .cons r rs⟩
    · rw [if_neg q, if_neg q]
      obtain ⟨h1, h2⟩ := putF_rep r h rs
      exact ⟨by simp [h1], .cons r1 h2⟩
def gFld (cs : List Str) (f : Str) (d : D) : Option Rv := match d with
  | .obj c fds => if c ∈ cs then (fds.lookup f).map .fz else none
  | _ => none
def gStF (cs : List Str) (f : Str) (d dv : D) : Option D := match d with
  | .obj c fds => if c ∈ cs ∧ fds.length < 1000 then some (.obj c (putFd f dv fds)) else none
  | _ => none
def sFldS (g : D → D → Option D) (mv mo : Em) : Sm := fun c => (mv c).st.bind fun rv c1 => (mo c1).st.bind fun ro c2 => match toVal c2 rv with
  | none => .stuck
  | some (dv, c3) => match cont c3 ro with
    | none => .stuck
    | some d => match g d dv with
      | none => .stuck
      | some d' => match putB c3 ro d' with
        | none => .stuck
        | some c4 => .ok .nx c4
section
variable {X : Cx} {o value : Expr} {mo mv : Em} {pos pos' : Pos} {cs : List Str} {f : Str}
theorem ex_fld (hk : FldOk X.K X.mg cs f) (ho : Ex X o mo) (hb : attributeBase o f X.env (eval o X.env) = eval o X.env := by rfl) : Ex X (.Attribute o f pos) (mUn (gFld cs f) mo) := by
  refine ⟨fun E η M c σ H s => ?_⟩
  refine Out.bind (fun (x : V) H1 (Q : VK) => ∃ a C dx fs v, x = .ref a ∧ H1 a = some (.ins C dx fs) ∧ Cls X.K C ∧ NoAttr X.K C f ∧ fs.lookup f = some v ∧ Q v H1) (ho E η M c σ H s) (fun Q hq => pe_we (pe_fld we_pe hb) hq) fun ra c1 x η1 M1 H1 s1 x1 z1 => ?_
  unfold m1
  cases e1 : view c1 ra with
  | none => trivial
  | some d =>
    dsimp only
    cases e2 : gFld cs f d with
    | none => trivial
    | some r =>
      unfold gFld at e2
      cases d with
      | obj n fds =>
        dsimp only at e2
        split at e2
        · rename_i hc
          obtain ⟨dv, h1, rfl⟩ := Option.map_eq_some_iff.mp e2
          obtain ⟨a, C, dx, fs, rfl, k1, k2, k3, k4⟩ := (view_ok s1 z1 e1).obj s1.sub
          obtain ⟨v, k5, k6⟩ := lookup_rep k3 k4 h1
          obtain ⟨q1, q2⟩ := hk n hc C k1
          exact out_ok s1 (fun Q hq => ⟨a, C, dx, fs, v, rfl, k2, q1, q2, k5, hq⟩) (show RV X.K X.mg E η1 M1 c1 σ H1 v (.fz dv) from k6)
        · cases e2
      | _ => cases e2
theorem sx_fld (hk : FldOk X.K X.mg cs f) (ho : Ex X o mo) (hv : Ex X value mv) (hs : swapsWith value (some (.Attribute o f pos')) pos.line X.env = pure false := by rfl) : Sx X (.Assign [.Attribute o f pos'] value pos) (sFldS (gStF cs f) mv mo) := by
  refine ⟨fun E η M c σ H s => ?_⟩
  refine OutS.bind (R := RVst X.K X.mg) (fun y H1 Z => We X o σ H1 fun x H2 => ∃ a C dx fs, x = .ref a ∧ H2 a = some (.ins C dx fs) ∧ Cls X.K C ∧ NoAttr X.K C f ∧ fs.length < 1000 ∧ Z.nx σ (upd H2 a (.ins C dx (putF f y fs)))) (out_st (hv E η M c σ H s)) (fun Z hq => ps_ws (ps_fld we_pe we_pe hs) hq) fun rv c1 y η1 M1 H1 s1 x1 z1 => ?_
  refine OutS.bind (R := RVst X.K X.mg) (fun x H2 Z => ∃ a C dx fs, x = .ref a ∧ H2 a = some (.ins C dx fs) ∧ Cls X.K C ∧ NoAttr X.K C f ∧ fs.length < 1000 ∧ Z.nx σ (upd H2 a (.ins C dx (putF f y fs)))) (out_st (ho E η1 M1 c1 σ H1 s1)) (fun Z hq => hq) fun ro c2 x η2 M2 H2 s2 x2 z2 Z gd => ?_
  cases e2 : toVal c2 rv with
  | none => rw [e2] at gd; exact gd.elim
  | some q =>
    obtain ⟨dv, c3⟩ := q
    rw [e2] at gd
    dsimp only at gd
    cases e3 : cont c3 ro with
    | none => rw [e3] at gd; exact gd.elim
    | some d =>
      rw [e3] at gd
      dsimp only at gd
      cases e4 : gStF cs f d dv with
      | none => rw [e4] at gd; exact gd.elim
      | some d' =>
        rw [e4] at gd
        dsimp only at gd
        cases e5 : putB c3 ro d' with
        | none => rw [e5] at gd; exact gd.elim
        | some c4 =>
          rw [e5] at gd
          dsimp only at gd
          obtain ⟨M3, s3, x3, r3⟩ := toVal_ok s2 (z1.2.keep x2 z1.1) e2
          obtain ⟨a, rfl, _, ha, wr⟩ := cont_ok s3 (z2.2.keep (c' := c3) x3 z2.1) e3
          unfold gStF at e4
          cases d with
          | obj n fds =>
            dsimp only at e4
            split at e4
            · rename_i hc
              cases e4
              obtain ⟨C, dx, fs, k1, k2, k3, k4⟩ := ha
              obtain ⟨q1, q2⟩ := hk n hc.1 C k1
              obtain ⟨p1, p2⟩ := putF_rep (f := f) r3 k3 k4
              have len : fs.length = fds.length := by have := congrArg List.length k3; simpa using this
              exact ⟨a, C, dx, fs, rfl, k2, q1, q2, by omega, gd σ η2 M3 _ (wr _ (.obj n (putFd f dv fds)) _ ⟨C, dx, _, k1, upd_same, p1, p2⟩ e5) x3⟩
            · cases e4
          | _ => cases e4
end
end LH
/-! LHMeth: methods called. -/
namespace LH
open PySem PySem.Spec PyProof.Rows L2
/-- a method that runs as F -/
structure FnM (P : Program) (w : World) (K : Fg) (mg : Mg) (base : Heap) (cn m : Str) (k n : Nat) (F : Fm) : Prop where
  ex : ∃ C f fd ps, mg cn = some (.ref C) ∧ Cls K C ∧ Meth K C m f ∧ Binds K fd ps [] ∧ FnG P w K mg base (L2.CX P w) k f fd ps (spF K mg n F)
def mMeth (cn m : Str) (n : Nat) (F : Fm) (mo : Em) (ms : Cf → Res (List Rv)) : Em := fun c => (mo c).st.bind fun ro c1 => match view c1 ro with
  | some (.obj c' fds) => if c' = cn ∧ fds.lookup m = none then (ms c1).bind fun rs c2 => (match vals c2 (ro :: rs) with
    | some (ds, c3) => if ds.length = n then (match F ds c3.S with
      | .ok r c4 => .ok r ⟨c3.ρ, c4.S⟩
      | .err x c4 => .err x ⟨c3.ρ, c4.S⟩
      | .stuck => .stuck) else .stuck
    | none => .stuck) else .stuck
  | _ => .stuck
theorem lookup_none {f : Str} {fs : List (Str × V)} {fds : List (Str × D)} (h : fs.map (·.1) = fds.map (·.1)) (e : fds.lookup f = none) : fs.lookup f = none := by
  induction fs generalizing fds with
  | nil => rfl
  | cons p fs ih =>
    cases fds with
    | nil => simp at h
    | cons q fds =>
      obtain ⟨g, v⟩ := p
      obtain ⟨g', x⟩ := q
      simp only [List.map_cons, List.cons.injEq] at h
      obtain ⟨rfl, h⟩ := h
      rw [List.lookup_cons] at e ⊢
      cases q : f == g with
      | true => rw [q] at e; simp at e
      | false =>
        rw [q] at e
        simp only [Bool.false_eq_true, if_false] at e ⊢
        exact ih h e
section
variable {X : Cx} {o e : Expr} {es : List Expr} {mo : Em} {ms : Cf → Res (List Rv)} {apos pos : Pos} {cn m : Str} {k n : Nat} {F : Fm} {pl : Sem Bool}
/-- what a call of a method wants, behind its arguments -/
def WfM (X : Cx) (n : Nat) (F : Fm) (σ : St) (vs : List V) (H : Hp) (Q : VK) : Prop := spF X.K X.mg n F vs H Q E0 ∨ ∃ W, Takes X W ∧ spF X.K X.mg n F vs H Q (fun cls d H' => W cls d σ H')
theorem out_meth {tw : VK → Prop} {C : Addr} (ta : St → Hp → (List V → Hp → Prop) → Prop) (hC : X.mg cn = some (.ref C)) (ho : Ex X o mo) (ha : ∀ (E : En) (η : List Addr) (M : Hp) (c : Cf) (σ : St) (H : Hp), SR X.K X.mg E η M c σ H → Out X (RVs X.K X.mg) (ta σ H) E η M σ (ms c)) {E : En} {η : List Addr} {M H : Hp} {c : Cf} {σ : St} (s : SR X.K X.mg E η M c σ H)
    (imp : ∀ Q : VK, We X o σ H (fun x H1 => ∃ a dx fs, x = .ref a ∧ H1 a = some (.ins C dx fs) ∧ fs.lookup m = none ∧ ta σ H1 (fun vs H2 => WfM X n F σ (x :: vs) H2 Q)) → tw Q) :
    Out X (RV X.K X.mg) tw E η M σ (mMeth cn m n F mo ms c) := by
  refine Out.bind (R := RVst X.K X.mg) (fun x H1 Q => ∃ a dx fs, x = .ref a ∧ H1 a = some (.ins C dx fs) ∧ fs.lookup m = none ∧ ta σ H1 (fun vs H2 => WfM X n F σ (x :: vs) H2 Q)) (out_st (ho E η M c σ H s)) imp fun ro c1 x η1 M1 H1 s1 x1 z1 => ?_
  cases e1 : view c1 ro with
  | none => trivial
  | some d =>
    cases d with
    | obj c' fds =>
      dsimp only
      by_cases hc : c' = cn ∧ fds.lookup m = none
      · rw [if_pos hc]
        obtain ⟨rfl, hl⟩ := hc
        obtain ⟨a, C', dx, fs, rfl, k1, k2, k3, k4⟩ := (view_ok s1 z1.2 e1).obj s1.sub
        rw [hC] at k1
        cases k1
        have o2 : Out X (RV X.K X.mg) (fun Q => ta σ H1 (fun vs H2 => WfM X n F σ (.ref a :: vs) H2 Q)) E η1 M1 σ ((ms c1).bind fun rs c2 => (match vals c2 (ro :: rs) with
            | some (ds, c3) => if ds.length = n then (match F ds c3.S with
              | .ok r c4 => .ok r ⟨c3.ρ, c4.S⟩
              | .err x c4 => .err x ⟨c3.ρ, c4.S⟩
              | .stuck => .stuck) else .stuck
            | none => .stuck)) := by
          refine Out.bind (R := RVs X.K X.mg) (fun vs H2 Q => WfM X n F σ (.ref a :: vs) H2 Q) (ha E η1 M1 c1 σ H1 s1) (fun Q hq => hq) fun rs c2 vs η2 M2 H2 s2 x2 z2 => ?_
          cases e3 : vals c2 (ro :: rs) with
          | none => trivial
          | some q =>
            obtain ⟨ds, c3⟩ := q
            dsimp only
            by_cases hn : ds.length = n
            · rw [if_pos hn]
              obtain ⟨M3, s3, x3, r3⟩ := vals_ok (vs := .ref a :: vs) s2 (fun r hr => (List.mem_cons.mp hr).elim (fun z => z ▸ z1.1) (z2.1 r)) (.cons (z1.2.keep x2 z1.1) z2.2) e3
              exact out_ext x3 (out_fn s3 r3 (by rw [r3.length]; exact hn) (fun Q hq => .inl hq) fun W Q tk hq => .inr ⟨W, tk, hq⟩)
            · rw [if_neg hn]; trivial
        exact o2.imp (fun x => x) (fun Q hq => ⟨a, dx, fs, rfl, k2, lookup_none k3 hl, hq⟩) fun _ _ _ _ _ _ _ z => z
      · rw [if_neg hc]; trivial
    | _ => trivial
theorem run_wfm {f : Addr} {fd : FuncData} {ps : List Str} {pins : List (Addr × Obj)} {σ : St} {H : Hp} {s : Shared} {Q : VK} {us : List Value} {vs : List V} (hF : FnG X.prog X.w X.K X.mg X.base (L2.CX X.prog X.w) k f fd ps (spF X.K X.mg n F)) (hr : RmG k X.A) (hb : Binds X.K fd ps []) (I : Inv X pins σ H s) (r : Vals vs us)
    (h : WfM X n F σ vs H Q) : wpAny (model X.prog X.w) X.A (call (.ref f) us) (EP X pins σ Q) X.xe s := by
  rcases h with q | ⟨W, tk, q⟩
  · exact runG (dvs := []) hF hr hb .nil (fun pins => passL pins σ) I r (by rw [List.append_nil]; exact q)
  · exact runG (dvs := []) hF hr hb .nil (passAt tk σ) I r (by rw [List.append_nil]; exact q)
theorem ex_meth (h : FnM X.prog X.w X.K X.mg X.base cn m k n F) (hr : RmG k X.A) (ho : Ex X o mo) (ha : Ax X (e :: es) ms)
    (hst : starEach (e :: es) X.env = (false, eval e X.env) :: starEach es X.env := by rfl) (hpl : (backTo pos (starEach es X.env)).any (·.1) = false := by rfl)
    (ht : eval (.Call (.Attribute o m apos) (e :: es) [] pos) X.env = (do
      let ov ← eval o X.env
      standAt apos.atName
      let (f, first) ← holding [ov] (getMethod ov m pl)
      callWith pos f first (backTo pos (starEach (e :: es) X.env)) (backToKw pos (keywordEach [] X.env))) := by rfl) : Ex X (.Call (.Attribute o m apos) (e :: es) [] pos) (mMeth cn m n F mo ms) := by
  obtain ⟨C, f, fd, ps, hC, hcl, hm, hb, hF⟩ := h
  refine ⟨fun E η M c σ H s => ?_⟩
  refine out_meth (Wa X (e :: es)) hC ho ha s fun Q hq => ?_
  intro pins st I
  refine PySem.W.methodCall_KW (pl := pl) (thn (hq pins st I) fun u s1 ⟨x, H1, I1, rx, a, dx, fs, ex, ea, l, q⟩ => ?_) ht
  subst ex
  obtain rfl : u = Value.ref a := rx
  refine getmeth_ok I1 ea hcl hm l ?_
  refine PySem.W.callWith_K (first := [.ref a]) (h₀ := X.base) I.ok.mod.kin hm.kp (thn (q pos pins s1 I1) fun us s2 ⟨vs, H2, I2, r, q2⟩ => ⟨I2.kIn, ?_⟩) hst hpl
  exact run_wfm (us := .ref a :: us) (vs := .ref a :: vs) hF hr hb I2 (.cons rfl r) q2
theorem ex_meth0 (h : FnM X.prog X.w X.K X.mg X.base cn m k n F) (hr : RmG k X.A) (ho : Ex X o mo)
    (ht : eval (.Call (.Attribute o m apos) [] [] pos) X.env = (do
      let ov ← eval o X.env
      standAt apos.atName
      let (f, first) ← holding [ov] (getMethod ov m pl)
      callWith pos f first (backTo pos (starEach [] X.env)) (backToKw pos (keywordEach [] X.env))) := by rfl) : Ex X (.Call (.Attribute o m apos) [] [] pos) (mMeth cn m n F mo maNil) := by
  obtain ⟨C, f, fd, ps, hC, hcl, hm, hb, hF⟩ := h
  refine ⟨fun E η M c σ H s => ?_⟩
  refine out_meth (ms := maNil) (fun _ H Q => Q [] H) hC ho (fun E η M c σ H s => out_ok s (fun Q hq => hq) ⟨fun r hr => by simp at hr, .nil⟩) s fun Q hq => ?_
  intro pins st I
  refine PySem.W.methodCall_KW (pl := pl) (thn (hq pins st I) fun u s1 ⟨x, H1, I1, rx, a, dx, fs, ex, ea, l, q⟩ => ?_) ht
  subst ex
  obtain rfl : u = Value.ref a := rx
  refine getmeth_ok I1 ea hcl hm l ?_
  exact PySem.W.callWith_K0 (first := [.ref a]) I1.kIn hm.kp (run_wfm (us := [.ref a]) (vs := [.ref a]) hF hr hb I1 (.cons rfl .nil) q)
end
end LH
/-! LHMake: new objects, kept as trees. -/
namespace LH
open PySem PySem.Spec PyProof.Rows L2
/-! no handle n within -/
mutual
def noH (n : Nat) : D → Bool
  | .hdl k => k != n
  | .lst xs => noHL n xs
  | .ro xs => noHL n xs
  | .tup xs => noHL n xs
  | .dct kvs => noHK n kvs
  | .dcT kvs => noHT n kvs
  | .obj _ fs => noHF n fs
  | .exc _ fs => noHF n fs
  | _ => true
def noHL (n : Nat) : List D → Bool
  | [] => true
  | x :: xs => noH n x && noHL n xs
def noHK (n : Nat) : List (Key × D) → Bool
  | [] => true
  | (_, x) :: xs => noH n x && noHK n xs
def noHT (n : Nat) : List (List Key × D) → Bool
  | [] => true
  | (_, x) :: xs => noH n x && noHT n xs
def noHF (n : Nat) : List (Str × D) → Bool
  | [] => true
  | (_, x) :: xs => noH n x && noHF n xs
end
theorem noHK_map {n : Nat} : ∀ {kvs : List (Key × D)}, noHK n kvs = noHL n (kvs.map (·.2))
  | [] => rfl
  | (_, x) :: xs => by show (noH n x && noHK n xs) = (noH n x && noHL n _); rw [noHK_map]
theorem noHT_map {n : Nat} : ∀ {kvs : List (List Key × D)}, noHT n kvs = noHL n (kvs.map (·.2))
  | [] => rfl
  | (_, x) :: xs => by show (noH n x && noHT n xs) = (noH n x && noHL n _); rw [noHT_map]
theorem noHF_map {n : Nat} : ∀ {kvs : List (Str × D)}, noHF n kvs = noHL n (kvs.map (·.2))
  | [] => rfl
  | (_, x) :: xs => by show (noH n x && noHF n xs) = (noH n x && noHL n _); rw [noHF_map]
section
variable {K : Fg} {mg : Mg} {η : List Addr} {M H : Hp} {x : Addr}
mutual
theorem rep_drop : ∀ {v : V} {d : D}, Rep K mg (η ++ [x]) M v d → noH η.length d = true → Rep K mg η M v d
  | _, _, .non, _ => .non
  | _, _, .bl b, _ => .bl b
  | _, _, .int i, _ => .int i
  | _, _, .str y, _ => .str y
  | _, .lst ds, .lst h r, e => .lst h (repL_drop r (by simpa [noH] using e))
  | _, .ro ds, .ro h r, e => .ro h (repL_drop r (by simpa [noH] using e))
  | _, .tup ds, .tup h r, e => .tup h (repL_drop r (by simpa [noH] using e))
  | _, .dct ds, .dct h k r, e => .dct h k (repL_drop r (by rw [← noHK_map]; simpa [noH] using e))
  | _, .dcT ds, .dcT h k r, e => .dcT h k (repL_drop r (by rw [← noHT_map]; simpa [noH] using e))
  | _, .obj _ ds, .obj c h k r, e => .obj c h k (repL_drop r (by rw [← noHF_map]; simpa [noH] using e))
  | _, .exc _ ds, .exc c h h2 k r, e => .exc c h h2 k (repL_drop r (by rw [← noHF_map]; simpa [noH] using e))
  | _, .hdl n, .hdl h, e => .hdl (by
    have hn : n ≠ η.length := by simpa [noH] using e
    have hl := (List.getElem?_eq_some_iff.mp h).1
    rw [List.length_append, List.length_singleton] at hl
    rw [List.getElem?_append_left (by omega)] at h
    exact h)
theorem repL_drop : ∀ {vs : List V} {ds : List D}, RepL K mg (η ++ [x]) M vs ds → noHL η.length ds = true → RepL K mg η M vs ds
  | _, _, .nil, _ => .nil
  | _, d :: ds, .cons r rs, e => by
    have e : (noH η.length d && noHL η.length ds) = true := e
    rw [Bool.and_eq_true] at e
    exact .cons (rep_drop r e.1) (repL_drop rs e.2)
end
theorem at_drop {a : Addr} {d : D} (h : At K mg (η ++ [x]) M H a d) (e : noH η.length d = true) : At K mg η M H a d := by
  cases d with
  | lst ds => obtain ⟨xs, h1, r⟩ := h; exact ⟨xs, h1, repL_drop r (by simpa [noH] using e)⟩
  | dct ds => obtain ⟨xs, h1, k, r⟩ := h; exact ⟨xs, h1, k, repL_drop r (by rw [← noHK_map]; simpa [noH] using e)⟩
  | dcT ds => obtain ⟨xs, h1, k, r⟩ := h; exact ⟨xs, h1, k, repL_drop r (by rw [← noHT_map]; simpa [noH] using e)⟩
  | obj c ds => obtain ⟨C, dx, xs, h0, h1, k, r⟩ := h; exact ⟨C, dx, xs, h0, h1, k, repL_drop r (by rw [← noHF_map]; simpa [noH] using e)⟩
  | _ => exact h.elim
end
theorem RmG.make {k : Nat} {A : Around} (r : RmG (k + 1) A) (C : Addr) (us : List Value) (kw : List (Str × Value)) : RmG k (A.under (.builtin "type.__call__" ⟨.ref C :: us, kw⟩)) := ⟨r.rm.make C us kw, by
  have e : (A.under (.builtin "type.__call__" ⟨.ref C :: us, kw⟩)).guards = pushGuards (Code.guards (.builtin "type.__call__" ⟨.ref C :: us, kw⟩)) A.guards := rfl
  have z : guardIds.contains "type.__call__" = false := by decide +kernel
  have z2 : Code.guards (.builtin "type.__call__" ⟨.ref C :: us, kw⟩) = [] := by
    unfold Code.guards
    rw [if_neg]
    show ¬ guardIds.contains "type.__call__" = true
    rw [z]; simp
  rw [e, z2, r.gd]
  rfl⟩
/-- a class that is made by its name; F: its __init__ -/
structure FnI (P : Program) (w : World) (K : Fg) (mg : Mg) (base : Heap) (cn : Str) (k n : Nat) (F : Fm) : Prop where
  ex : ∃ C f fd ps, mg cn = some (.ref C) ∧ Mk K C f ∧ Binds K fd ps [] ∧ FnG P w K mg base (L2.CX P w) k f fd ps (spF K mg n F)
section
variable {X : Cx} {e : Expr} {es : List Expr} {ms : Cf → Res (List Rv)} {p pos : Pos} {cn : Str} {k n : Nat} {F : Fm}
/-- what making wants: the object stands new, its __init__ runs, None comes back -/
def WfI (X : Cx) (C : Addr) (n : Nat) (F : Fm) (σ : St) (vs : List V) (H : Hp) (Q : VK) : Prop :=
  (∀ x dx, H x = none → H dx = none → dx ≠ x → spF X.K X.mg n F (.ref x :: vs) (upd (upd H dx (.own x)) x (.ins C dx [])) (fun v H2 => v = .non ∧ Q (.ref x) H2) E0) ∨
  ∃ W, Takes X W ∧ ∀ x dx, H x = none → H dx = none → dx ≠ x → spF X.K X.mg n F (.ref x :: vs) (upd (upd H dx (.own x)) x (.ins C dx [])) (fun v H2 => v = .non ∧ Q (.ref x) H2) (fun cls d H' => W cls d σ H')
theorem run_mk {CX : CXT} {C f : Addr} {fd : FuncData} {ps : List Str} {sp : Sp} {E : XK} {pins : List (Addr × Obj)} {σ : St} {H : Hp} {s : Shared} {Q : VK} {us : List Value} {vs : List V} (Mc : Mk X.K C f) (hF : FnG X.prog X.w X.K X.mg X.base CX k f fd ps sp) (hr : RmG (k + 1) X.A) (hb : Binds X.K fd ps []) (hx : PassesAt CX X σ E)
    (I : Inv X pins σ H s) (r : Vals vs us) (h : ∀ x dx, H x = none → H dx = none → dx ≠ x → sp (.ref x :: vs) (upd (upd H dx (.own x)) x (.ins C dx [])) (fun v H2 => v = .non ∧ Q (.ref x) H2) E) :
    wpAny (model X.prog X.w) X.A (call (.ref C) us) (EP X pins σ Q) X.xe s := by
  have hq := h (s.heap.objs.size + 1) s.heap.objs.size (I.hok.fresh (Nat.le_succ _)) (I.hok.fresh (Nat.le_refl _)) (Nat.ne_of_lt (Nat.lt_succ_self _))
  have J := Inv.made (C := C) I
  have rr : Vals (V.ref (s.heap.objs.size + 1) :: vs) (Value.ref (s.heap.objs.size + 1) :: us) := .cons rfl r
  have hl : (Value.ref (s.heap.objs.size + 1) :: us ++ []).length = ps.length := by
    rw [List.append_nil, ← rr.length]
    exact hF.len _ _ _ _ hq
  have bb := hb _ (Value.ref (s.heap.objs.size + 1) :: us) J.kIn hl
  rw [List.append_nil] at bb
  refine wpAny_call (make_map (f := f) I.kIn Mc.makes Mc.init (beq_iff_eq.mp Mc.fn) (codeAny_mono (hF.run _ X.stack _ _ ⟨Value.ref (s.heap.objs.size + 1) :: us, []⟩ _ _ _ E (hr.make C us []) (J.env0.make C us []) bb rr hq) fun o s' ho => ?_))
  match o, ho with
  | .error e, ho => exact hx pins _ _ e s' J ho
  | .ok (.ret u), ho =>
    obtain ⟨v, H', I3, rv, ev, q3⟩ := J.after ho
    subst ev
    exact ⟨rv, ⟨V.ref (s.heap.objs.size + 1), H', I3, rfl, q3⟩⟩
def mkRes (cn : Str) (F : Fm) (ds : List D) (c : Cf) : Res Rv := match F (.hdl c.S.length :: ds) (c.S ++ [.obj cn []]) with
  | .ok (.fz .non) c3 => if c3.S.length = c.S.length + 1 ∧ c3.S.all (noH c.S.length) = true then (match c3.S[c.S.length]? with
    | some d => .ok (.nw d) ⟨c.ρ, c3.S.take c.S.length⟩
    | none => .stuck) else .stuck
  | .err x c3 => .err x ⟨c.ρ, c3.S⟩
  | _ => .stuck
theorem out_mk {C : Addr} (hC : X.mg cn = some (.ref C)) {E : En} {η : List Addr} {M H : Hp} {c : Cf} {σ : St} {vs : List V} {ds : List D} (s : SR X.K X.mg E η M c σ H) (r : RepL X.K X.mg η M vs ds) (hl : vs.length + 1 = n) :
    Out X (RV X.K X.mg) (fun Q => WfI X C n F σ vs H Q) E η M σ (mkRes cn F ds c) := by
  have base : ∀ x dx, H x = none → H dx = none → dx ≠ x → SR X.K X.mg E (η ++ [x]) M ⟨c.ρ, c.S ++ [.obj cn []]⟩ σ (upd (upd H dx (.own x)) x (.ins C dx [])) ∧ RepL X.K X.mg (η ++ [x]) M (.ref x :: vs) (.hdl c.S.length :: ds) := fun x dx hx hdx hne => by
    obtain ⟨f1, f2, f3, f4⟩ := s.free hx
    have a2 : SR X.K X.mg E η M c σ (upd (upd H dx (.own x)) x (.ins C dx [])) := (s.alloc (o := .own x) hdx).alloc (by rw [upd_ne (Ne.symm hne)]; exact hx)
    obtain ⟨s1, x1⟩ := a2.newHdl (d := .obj cn []) f1 f2 f3 f4 ⟨C, dx, [], hC, upd_same, rfl, .nil⟩
    refine ⟨s1, .cons (.hdl ?_) (r.mono x1)⟩
    rw [← s.hlen, List.getElem?_append_right (Nat.le_refl _)]
    simp
  have inner : ∀ {x dx : Addr}, SR X.K X.mg E (η ++ [x]) M ⟨c.ρ, c.S ++ [.obj cn []]⟩ σ (upd (upd H dx (.own x)) x (.ins C dx [])) → SR X.K X.mg ⟨upd (upd H dx (.own x)) x (.ins C dx []), η ++ [x], M⟩ (η ++ [x]) M ⟨[], c.S ++ [.obj cn []]⟩ [] (upd (upd H dx (.own x)) x (.ins C dx [])) := fun {x dx} s1 =>
    ⟨s1.sub, rfl, fun i t e => by simp at e, fun i j a d d' e => by simp at e, s1.hlen, s1.hdl, s1.hnd, fun a o e _ => e, ⟨[], by simp⟩, fun a h => .inl h, Same.refl M, fun a h _ => h⟩
  unfold mkRes
  cases eF : F (.hdl c.S.length :: ds) (c.S ++ [.obj cn []]) with
  | stuck => trivial
  | err y c3 =>
    refine fun W Q tk hQ => .inr ⟨W, tk, fun x dx hx hdx hne => ?_⟩
    obtain ⟨s1, r1⟩ := base x dx hx hdx hne
    refine ⟨hl, η ++ [x], M, _, _, inner s1, r1, ?_⟩
    rw [eF]
    exact fun cls d η' M' H' t z => hQ cls d η' M' H' (s1.called t) (Ext.trans ⟨Same.refl M, [x], rfl⟩ (show Ext (η ++ [x]) M η' M' from t.ext)) z
  | ok rr c3 =>
    cases rr with
    | fz dd =>
      cases dd with
      | non =>
        dsimp only
        by_cases hc : c3.S.length = c.S.length + 1 ∧ c3.S.all (noH c.S.length) = true
        · rw [if_pos hc]
          obtain ⟨hlen, hall⟩ := hc
          rw [List.all_eq_true] at hall
          cases ed : c3.S[c.S.length]? with
          | none => trivial
          | some d =>
            refine fun Q hQ => .inl fun x dx hx hdx hne => ?_
            obtain ⟨s1, r1⟩ := base x dx hx hdx hne
            obtain ⟨f1, f2, f3, f4⟩ := s.free hx
            refine ⟨hl, η ++ [x], M, _, _, inner s1, r1, ?_⟩
            rw [eF]
            intro v η' M' H' t z
            cases z
            refine ⟨rfl, ?_⟩
            have hη : η' = η ++ [x] := by
              obtain ⟨q, eq⟩ := t.pre
              have eq : η' = (η ++ [x]) ++ q := eq
              have l1 : η'.length = c3.S.length := t.hlen
              rw [eq] at l1
              simp only [List.length_append, List.length_singleton] at l1
              have h0 : q.length = 0 := by have := s.hlen; omega
              rw [eq, List.length_eq_zero_iff.mp h0, List.append_nil]
            subst hη
            have s3 := s1.called t
            have hidx : (η ++ [x])[c.S.length]? = some x := by
              rw [← s.hlen, List.getElem?_append_right (Nat.le_refl _)]; simp
            have xM : Ext η M η M' := ⟨t.m0, [], by simp⟩
            have noD : ∀ {k : Nat} {t' : D}, c3.S[k]? = some t' → noH η.length t' = true := fun {k t'} e => by
              rw [s.hlen]; exact hall t' (List.mem_of_getElem? e)
            have nx : ∀ {a : Addr} {o : HO}, H a = some o → a ≠ x ∧ a ≠ dx := fun {a o} e => ⟨ne_of_none e hx, ne_of_none e hdx⟩
            have sF : SR X.K X.mg E η M' ⟨c.ρ, c3.S.take c.S.length⟩ σ H' := by
              refine ⟨s3.sub, s.len, fun i sl e => ?_, s.inj, ?_, fun k a t' e1 e2 => ?_, s.hnd, s3.fr, s.pre, s.new, s3.m0, s3.mn⟩
              · have q := s.slot i sl e
                cases sl with
                | un => trivial
                | fz d => obtain ⟨v, e1, r1⟩ := q; exact ⟨v, e1, r1.mono xM⟩
                | ow d =>
                  obtain ⟨a, e1, q1, q2, q3, q4⟩ := q
                  obtain ⟨o, ho⟩ := q4.ex
                  obtain ⟨n1, n2⟩ := nx ho
                  have h1 : ∀ u, H a = some u → upd (upd H dx (.own x)) x (.ins C dx []) a = some u := fun u hu => by rw [upd_ne n1, upd_ne n2]; exact hu
                  exact ⟨a, e1, t.mn a q1 (by show upd (upd H dx (.own x)) x (.ins C dx []) a ≠ none; rw [h1 o ho]; simp), q2, q3, q4.mono xM fun u hu => t.fr a u (h1 u hu) (by
                    intro z
                    rcases List.mem_append.mp z with z | z
                    · exact q3 z
                    · exact n1 (List.mem_singleton.mp z))⟩
              · show η.length = (c3.S.take c.S.length).length
                rw [List.length_take, s.hlen]; omega
              · have hk : k < η.length := (List.getElem?_eq_some_iff.mp e1).1
                have e2 : (c3.S.take c.S.length)[k]? = some t' := e2
                rw [List.getElem?_take_of_lt (by rw [← s.hlen]; exact hk)] at e2
                obtain ⟨p1, p2⟩ := t.hdl k a t' (by rw [List.getElem?_append_left hk]; exact e1) e2
                exact ⟨p1, at_drop p2 (noD e2)⟩
            obtain ⟨p1, p2⟩ := t.hdl c.S.length x d hidx ed
            exact hQ _ η M' H' sF xM ⟨x, rfl, p1, f2, f3, f4, at_drop p2 (noD ed)⟩
        · rw [if_neg hc]; trivial
      | _ => trivial
    | _ => trivial
def mMake (cn : Str) (n : Nat) (F : Fm) (ms : Cf → Res (List Rv)) : Em := fun c => (ms c).bind fun rs c1 => match vals c1 rs with
  | some (ds, c2) => if ds.length + 1 = n then mkRes cn F ds c2 else .stuck
  | none => .stuck
theorem ex_make (h : FnI X.prog X.w X.K X.mg X.base cn k n F) (hr : RmG (k + 1) X.A) (ha : Ax X (e :: es) ms) (hg : Gl X cn := by rfl) (hdb : (cn == ("__debug__" : Str)) = false := by decide)
    (he : starEach (e :: es) X.env = (false, eval e X.env) :: starEach es X.env := by rfl) (hpl : (backTo pos (starEach es X.env)).any (·.1) = false := by rfl) : Ex X (.Call (.Name cn p) (e :: es) [] pos) (mMake cn n F ms) := by
  obtain ⟨C, f, fd, ps, hC, hm, hb, hF⟩ := h
  refine ⟨fun E η M c σ H s => ?_⟩
  refine Out.bind (R := RVs X.K X.mg) (fun vs H1 Q => WfI X C n F σ vs H1 Q) (ha E η M c σ H s) (fun Q hq => ?_) fun rs c1 vs η1 M1 H1 s1 x1 z1 => ?_
  · intro pins st I
    refine wpAny_Call_Name_kw (ld_glob I hg hC ?_ hdb)
    refine PySem.W.callWith_K (h₀ := X.base) I.ok.mod.kin hm.kp (thn (hq pos pins st I) fun us s1 ⟨vs, H1, I1, r, q⟩ => ⟨I1.kIn, ?_⟩) he hpl
    rcases q with q | ⟨W, tk, q⟩
    · exact run_mk hm hF hr hb (fun pins => passL pins σ) I1 r q
    · exact run_mk hm hF hr hb (passAt tk σ) I1 r q
  · cases e1 : vals c1 rs with
    | none => trivial
    | some q =>
      obtain ⟨ds, c2⟩ := q
      dsimp only
      by_cases hl : ds.length + 1 = n
      · rw [if_pos hl]
        obtain ⟨M2, s2, x2, r2⟩ := vals_ok s1 z1.1 z1.2 e1
        exact out_ext x2 (out_mk hC s2 r2 (by rw [r2.length]; exact hl))
      · rw [if_neg hl]; trivial
end
theorem fldOk_nil {K : Fg} {mg : Mg} {f : Str} : FldOk K mg [] f := fun c h => by simp at h
theorem fldOk_cons {K : Fg} {mg : Mg} {f c : Str} {cs : List Str} {C : Addr} (h : mg c = some (.ref C)) (hc : Cls K C) (hn : NoAttr K C f) (t : FldOk K mg cs f) : FldOk K mg (c :: cs) f := fun c' h' C' hC' => by
  rcases List.mem_cons.mp h' with rfl | h'
  · rw [h] at hC'
    cases hC'
    exact ⟨hc, hn⟩
  · exact t c' h' C' hC'
end LH
/-! LHText: texts put together, taken apart. -/
namespace LH
open PySem PySem.Spec PyProof.Rows L2
def mM1 (g : D → D → Option Rv) (mo me : Em) : Em := fun c => (mo c).st.bind fun ro c1 => match view c1 ro with
  | some (.str _) => (me c1).st.bind fun re c2 => m2 g ro re c2
  | _ => .stuck
section
variable {X : Cx} {o e a : Expr} {mo me : Em} {apos pos : Pos}
theorem ex_str1 {r : V → List V → Hp → VK → Prop} {g : D → D → Option Rv} (hg : Op2 X (fun x y H Q => r x [y] H Q) g) (p : PE X e (tM1 r (We X o) (We X a))) (ho : Ex X o mo) (ha : Ex X a me) : Ex X e (mM1 g mo me) := by
  refine ⟨fun E η M c σ H s => ?_⟩
  refine Out.bind (R := RVst X.K X.mg) (fun x H1 Q => (∃ t, x = .str t) ∧ We X a σ H1 fun y H2 => r x [y] H2 Q) (out_st (ho E η M c σ H s)) (fun Q hq => pe_we p hq) fun ro c1 x η1 M1 H1 s1 x1 z1 => ?_
  cases e1 : view c1 ro with
  | none => trivial
  | some d =>
    cases d with
    | str t =>
      have ex := (view_ok s1 z1.2 e1).str
      have o2 : Out X (RV X.K X.mg) (fun Q => We X a σ H1 fun y H2 => r x [y] H2 Q) E η1 M1 σ ((me c1).st.bind fun re c2 => m2 g ro re c2) := by
        refine Out.bind (R := RVst X.K X.mg) (fun y H2 Q => r x [y] H2 Q) (out_st (ha E η1 M1 c1 σ H1 s1)) (fun Q hq => hq) fun re c2 y η2 M2 H2 s2 x2 z2 => ?_
        exact out_m2 (w := fun x y H Q => r x [y] H Q) hg s2 (z1.2.keep x2 z1.1) z2.2
      exact o2.imp (fun x => x) (fun Q hq => ⟨⟨t, ex⟩, hq⟩) fun _ _ _ _ _ _ _ z => z
    | _ => trivial
def gJoin (a b : D) : Option Rv := match a, b with
  | .str x, .lst ds => (strsD ds).bind fun ys => if (ys.map (·.length)).sum + ys.length * x.length ≤ 16777216 then some (.fz (.str (Txt.join x ys))) else none
  | .str x, .tup ds => (strsD ds).bind fun ys => if (ys.map (·.length)).sum + ys.length * x.length ≤ 16777216 then some (.fz (.str (Txt.join x ys))) else none
  | _, _ => none
theorem ex_join (ho : Ex X o mo) (ha : Ex X a me) (hs : starEach [a] X.env = [(false, eval a X.env)] := by rfl) (hbase : attributeBase o "join" X.env (eval o X.env) = eval o X.env := by rfl) (hline : (apos.endLine == pos.line) = true := by rfl) :
    Ex X (.Call (.Attribute o "join" apos) [a] [] pos) (mM1 gJoin mo me) := by
  refine ex_str1 (fun E η M c σ H x y dx dy r s h1 h2 e Q hQ => ?_) (pe_join we_pe we_pe hs hbase hline) ho ha
  unfold gJoin at e
  split at e
  · obtain ⟨ys, e1, e2⟩ := Option.bind_eq_some_iff.mp e
    split at e2
    · cases e2
      obtain ⟨p, xs, rfl, q, rr⟩ := h2.lst s.sub
      rw [repL_strs rr e1] at q
      exact ⟨_, p, ys, h1.str, rfl, .inl (.of q), by assumption, pst_fz s hQ (.str _)⟩
    · cases e2
  · obtain ⟨ys, e1, e2⟩ := Option.bind_eq_some_iff.mp e
    split at e2
    · cases e2
      obtain ⟨p, xs, rfl, q, rr⟩ := h2.tup s.sub
      rw [repL_strs rr e1] at q
      exact ⟨_, p, ys, h1.str, rfl, .inr (.of q), by assumption, pst_fz s hQ (.str _)⟩
    · cases e2
  · cases e
theorem repL_strsN {K : Fg} {mg : Mg} {η : List Addr} {M : Hp} : ∀ ys : List Str, RepL K mg η M (ys.map V.str) (ys.map D.str)
  | [] => .nil
  | y :: ys => .cons (.str y) (repL_strsN ys)
def gSplit (a b : D) : Option Rv := match a, b with
  | .str x, .str y => if (y.length == 0) = false ∧ x.length + 2 ≤ sizeLine then some (.nw (.lst ((Txt.split x y).map D.str))) else none
  | _, _ => none
theorem ex_split (ho : Ex X o mo) (ha : Ex X a me) (hs : starEach [a] X.env = [(false, eval a X.env)] := by rfl) (hbase : attributeBase o "split" X.env (eval o X.env) = eval o X.env := by rfl) (hline : (apos.endLine == pos.line) = true := by rfl) :
    Ex X (.Call (.Attribute o "split" apos) [a] [] pos) (mM1 gSplit mo me) := by
  refine ex_str1 (fun E η M c σ H x y dx dy r s h1 h2 e Q hQ => ?_) (pe_split we_pe we_pe hs hbase hline) ho ha
  unfold gSplit at e
  split at e
  · split at e
    · rename_i hc
      cases e
      exact ⟨_, _, h1.str, by rw [h2.str], hc.1, hc.2, pst_nw s hQ fun p hp => ⟨_, upd_same, repL_strsN _⟩⟩
    · cases e
  · cases e
end
end LH
/-! LHGet: d.get(k). -/
namespace LH
open PySem PySem.Spec PyProof.Rows L2
def isDct : D → Bool
  | .dct _ => true
  | .dcT _ => true
  | _ => false
def gGet (d di : D) : Option Rv := match d with
  | .dct kvs => match keyD di with
    | some k => some (.fz ((getK kvs k).getD .non))
    | none => none
  | .dcT kvs => match di with
    | .tup ds => match keysD ds with
      | some ks => some (.fz ((getK kvs ks).getD .non))
      | none => none
    | _ => none
  | _ => none
def mGet1 (mo me : Em) : Em := fun c => (mo c).st.bind fun ro c1 => match view c1 ro with
  | some d => if isDct d then (me c1).st.bind fun re c2 => m2 gGet ro re c2 else .stuck
  | none => .stuck
section
variable {X : Cx} {o e : Expr} {mo me : Em} {apos cpos : Pos} {η : List Addr} {M H : Hp}
theorem isD_of {x : V} {d : D} (hs : Same M H) (h : VwR X.K X.mg η M H x d) (e : isDct d = true) : ∃ a, x = .ref a ∧ IsD H a := by
  cases d with
  | dct kvs => obtain ⟨a, vs, rfl, q1, q2, q3⟩ := h.dct hs; exact ⟨a, rfl, .inl ⟨vs, .inl q1⟩⟩
  | dcT kvs => obtain ⟨a, vs, rfl, q1, q2, q3⟩ := h.dcT hs; exact ⟨a, rfl, .inr ⟨vs, .inl q1⟩⟩
  | _ => cases e
theorem get_of {x y : V} {d di : D} {r : Rv} (hs : Same M H) (h1 : VwR X.K X.mg η M H x d) (h2 : VwR X.K X.mg η M H y di) (e : gGet d di = some r) : ∃ a o dv, x = .ref a ∧ DGet H a y o ∧ r = .fz dv ∧ Rep X.K X.mg η M (o.getD .non) dv := by
  unfold gGet at e
  cases d with
  | dct kvs =>
    dsimp only at e
    cases q : keyD di with
    | none => rw [q] at e; cases e
    | some k =>
      rw [q] at e
      cases e
      obtain ⟨a, vs, rfl, q1, q2, q3⟩ := h1.dct hs
      obtain ⟨i1, i2⟩ := rep_getK (k := k) q2 q3
      refine ⟨a, valV vs k, _, rfl, by rw [rep_key h2 q]; exact DGet.k q1, rfl, ?_⟩
      cases g : getK kvs k with
      | none => rw [i2 g]; exact .non
      | some d => obtain ⟨v, hv, hr⟩ := i1 d g; rw [hv]; exact hr
  | dcT kvs =>
    cases di with
    | tup ds =>
      dsimp only at e
      cases q : keysD ds with
      | none => rw [q] at e; cases e
      | some k =>
        rw [q] at e
        cases e
        obtain ⟨a, vs, rfl, q1, q2, q3⟩ := h1.dcT hs
        obtain ⟨i1, i2⟩ := rep_getK (k := k) q2 q3
        obtain ⟨b, ys, rfl, g1, g2⟩ := h2.tup hs
        rw [repL_keys g2 q] at g1
        refine ⟨a, valV vs k, _, rfl, DGet.t q1 g1, rfl, ?_⟩
        cases g : getK kvs k with
        | none => rw [i2 g]; exact .non
        | some d => obtain ⟨v, hv, hr⟩ := i1 d g; rw [hv]; exact hr
    | _ => cases e
  | _ => cases e
theorem ex_get1 (hu : X.A.units + 1 < cLine) (ho : Ex X o mo) (he : Ex X e me) (m : M1 X o "get" apos e cpos) : Ex X (.Call (.Attribute o "get" apos) [e] [] cpos) (mGet1 mo me) := by
  refine ⟨fun E η M c σ H s => ?_⟩
  refine Out.bind (R := RVst X.K X.mg) (fun x H1 Q => ∃ a, x = .ref a ∧ IsD H1 a ∧ We X e σ H1 fun y H2 => ∃ o, DGet H2 a y o ∧ Q (o.getD .non) H2) (out_st (ho E η M c σ H s)) (fun Q hq => pe_we (pe_dget1 hu we_pe we_pe m) hq) fun ro c1 x η1 M1 H1 s1 x1 z1 => ?_
  cases e1 : view c1 ro with
  | none => trivial
  | some d =>
    dsimp only
    by_cases hd : isDct d = true
    · rw [if_pos hd]
      obtain ⟨a, rfl, hD⟩ := isD_of s1.sub (view_ok s1 z1.2 e1) hd
      have o2 : Out X (RV X.K X.mg) (fun Q => We X e σ H1 fun y H2 => ∃ o, DGet H2 a y o ∧ Q (o.getD .non) H2) E η1 M1 σ ((me c1).st.bind fun re c2 => m2 gGet ro re c2) := by
        refine Out.bind (R := RVst X.K X.mg) (fun y H2 Q => ∃ o, DGet H2 a y o ∧ Q (o.getD .non) H2) (out_st (he E η1 M1 c1 σ H1 s1)) (fun Q hq => hq) fun re c2 y η2 M2 H2 s2 x2 z2 => ?_
        refine (out_m2 (x := .ref a) (y := y) (w := fun x y H Q => ∃ a o, x = .ref a ∧ DGet H a y o ∧ Q (o.getD .non) H) (fun E η M c σ H x y dx dy r s h1 h2 e Q hQ => ?_) s2 (z1.2.keep x2 z1.1) z2.2).imp (fun x => x) (fun Q hq => ?_) fun _ _ _ _ _ _ _ z => z
        · obtain ⟨a', o', dv, ea, hg, er, hr⟩ := get_of s.sub h1 h2 e
          subst er
          exact ⟨a', o', ea, hg, pst_fz s hQ hr⟩
        · obtain ⟨a', o', ea, hg, hq⟩ := hq
          cases ea
          exact ⟨o', hg, hq⟩
      exact o2.imp (fun x => x) (fun Q hq => ⟨a, rfl, hD, hq⟩) fun _ _ _ _ _ _ _ z => z
    · rw [if_neg hd]; trivial
end
end LH
/-! LHIsi: isinstance(e, T), T a built-in type, e plain data. -/
namespace LH
open PySem PySem.Spec PyProof.Rows L2
def tyN : D → Option String
  | .non => some "NoneType"
  | .bl _ => some "bool"
  | .int _ => some "int"
  | .str _ => some "str"
  | .lst _ => some "list"
  | .tup _ => some "tuple"
  | .dct _ => some "dict"
  | _ => none
def gIsi (T : String) (d : D) : Option Rv := (tyN d).bind fun a => (kitB a T).map fun b => .fz (.bl b)
section
variable {X : Cx} {η : List Addr} {M H : Hp}
theorem tyX_of {x : V} {d : D} {a : String} (hs : Same M H) (h : VwR X.K X.mg η M H x d) (e : tyN d = some a) : TyX X.K H x (.type a) := by
  cases d with
  | non => cases e; rw [h.non]; exact .base (by constructor)
  | bl b => cases e; rw [h.bl]; exact .base (by constructor)
  | int b => cases e; rw [h.int]; exact .base (by constructor)
  | str b => cases e; rw [h.str]; exact .base (by constructor)
  | lst ds => cases e; obtain ⟨p, xs, rfl, q, r⟩ := h.lst hs;  exact .base (by constructor; exact q)
  | tup ds => cases e; obtain ⟨p, xs, rfl, q, r⟩ := h.tup hs;  exact .base (by constructor; exact q)
  | dct ds => cases e; obtain ⟨p, xs, rfl, q, r⟩ := h.dct hs;  exact .base (by constructor; exact q)
  | _ => cases e
theorem isi_op {T : String} : Op1 X (fun x H Q => rIsi X.K [x, .ty T] H Q) (gIsi T) := by
  intro E η M c σ H x dx r s h1 e Q hQ
  unfold gIsi at e
  obtain ⟨a, e1, e2⟩ := Option.bind_eq_some_iff.mp e
  obtain ⟨b, e3, rfl⟩ := Option.map_eq_some_iff.mp e2
  exact ⟨x, .ty T, .type a, .type T, b, rfl, .ty T, tyX_of s.sub h1 e1, kit_ty e3, pst_fz s hQ (.bl b)⟩
theorem ex_isi {T : String} {y : Str} {e : Expr} {me : Em} {p p2 pos : Pos} (hi : X.mg "isinstance" = none) (hy : X.mg y = none) (hv : bootBuiltins y = some (.type T)) (he : Ex X e me) (hg : Gl X "isinstance" := by rfl) (hg2 : Gl X y := by rfl) (hn : y ≠ "__name__" := by decide) (hd : (y == ("__debug__" : Str)) = false := by decide)
    (h1 : starEach [e, .Name y p2] X.env = (false, eval e X.env) :: starEach [.Name y p2] X.env := by rfl) (h2 : starEach [.Name y p2] X.env = (false, eval (.Name y p2) X.env) :: starEach [] X.env := by rfl) (hpl : (backTo pos (starEach [.Name y p2] X.env)).any (·.1) = false := by rfl) :
    Ex X (.Call (.Name "isinstance" p) [e, .Name y p2] [] pos) (mUn (gIsi T) me) := by
  refine ⟨fun E η M c σ H s => ?_⟩
  refine Out.bind (fun x H1 Q => rIsi X.K [x, .ty T] H1 Q) (he E η M c σ H s) (fun Q hq => pe_we (pe_callB call_isi hg hi (by decide +kernel) (pa_cons we_pe (pa_cons (pe_bltn (v := .ty T) hg2 hy hv rfl hn hd) pa_nil h2) h1) (by decide) (by decide) h1 hpl) hq) fun ra c1 x η1 M1 H1 s1 x1 z1 => out_m1 (w := fun x H Q => rIsi X.K [x, .ty T] H Q) isi_op s1 z1
end
end LH
/-! LHGet2: d.get(k, x). -/
namespace LH
open PySem PySem.Spec PyProof.Rows L2
def gGetO (d di : D) : Option (Option D) := match d with
  | .dct kvs => (keyD di).map fun k => getK kvs k
  | .dcT kvs => match di with
    | .tup ds => (keysD ds).map fun ks => getK kvs ks
    | _ => none
  | _ => none
def mGet2 (mo me mf : Em) : Em := fun c => (mo c).st.bind fun ro c1 => match view c1 ro with
  | some d => if isDct d then (me c1).st.bind fun re c2 => (mf c2).st.bind fun rf c3 => (match toVal c3 rf with
    | some (dz, c4) => (match view c4 ro, view c4 re with
      | some d, some di => (match gGetO d di with
        | some o => .ok (.fz (o.getD dz)) c4
        | none => .stuck)
      | _, _ => .stuck)
    | none => .stuck) else .stuck
  | none => .stuck
section
variable {X : Cx} {o e f : Expr} {mo me mf : Em} {apos cpos : Pos} {η : List Addr} {M H : Hp}
theorem getO_of {x y : V} {d di : D} {r : Option D} (hs : Same M H) (h1 : VwR X.K X.mg η M H x d) (h2 : VwR X.K X.mg η M H y di) (e : gGetO d di = some r) : ∃ a ov, x = .ref a ∧ DGet H a y ov ∧ (r = none → ov = none) ∧ ∀ dv, r = some dv → ∃ v, ov = some v ∧ Rep X.K X.mg η M v dv := by
  unfold gGetO at e
  cases d with
  | dct kvs =>
    obtain ⟨k, q, rfl⟩ := Option.map_eq_some_iff.mp e
    obtain ⟨a, vs, rfl, q1, q2, q3⟩ := h1.dct hs
    obtain ⟨i1, i2⟩ := rep_getK (k := k) q2 q3
    exact ⟨a, valV vs k, rfl, by rw [rep_key h2 q]; exact DGet.k q1, i2, i1⟩
  | dcT kvs =>
    cases di with
    | tup ds =>
      obtain ⟨k, q, rfl⟩ := Option.map_eq_some_iff.mp e
      obtain ⟨a, vs, rfl, q1, q2, q3⟩ := h1.dcT hs
      obtain ⟨i1, i2⟩ := rep_getK (k := k) q2 q3
      obtain ⟨b, ys, rfl, g1, g2⟩ := h2.tup hs
      rw [repL_keys g2 q] at g1
      exact ⟨a, valV vs k, rfl, DGet.t q1 g1, i2, i1⟩
    | _ => cases e
  | _ => cases e
theorem ex_get2 (hu : X.A.units + 1 < cLine) (ho : Ex X o mo) (he : Ex X e me) (hf : Ex X f mf) (m : M2 X o "get" apos e f cpos) : Ex X (.Call (.Attribute o "get" apos) [e, f] [] cpos) (mGet2 mo me mf) := by
  refine ⟨fun E η M c σ H s => ?_⟩
  refine Out.bind (R := RVst X.K X.mg) (fun x H1 Q => ∃ a, x = .ref a ∧ IsD H1 a ∧ We X e σ H1 fun y H2 => We X f σ H2 fun z H3 => ∃ o, DGet H3 a y o ∧ Q (o.getD z) H3) (out_st (ho E η M c σ H s)) (fun Q hq => pe_we (pe_dget2 hu we_pe we_pe we_pe m) hq) fun ro c1 x η1 M1 H1 s1 x1 z1 => ?_
  cases e1 : view c1 ro with
  | none => trivial
  | some d =>
    dsimp only
    by_cases hd : isDct d = true
    · rw [if_pos hd]
      obtain ⟨a, rfl, hD⟩ := isD_of s1.sub (view_ok s1 z1.2 e1) hd
      have o2 : Out X (RV X.K X.mg) (fun Q => We X e σ H1 fun y H2 => We X f σ H2 fun z H3 => ∃ o, DGet H3 a y o ∧ Q (o.getD z) H3) E η1 M1 σ ((me c1).st.bind fun re c2 => (mf c2).st.bind fun rf c3 => (match toVal c3 rf with
          | some (dz, c4) => (match view c4 ro, view c4 re with
            | some d, some di => (match gGetO d di with
              | some o => .ok (.fz (o.getD dz)) c4
              | none => .stuck)
            | _, _ => .stuck)
          | none => .stuck)) := by
        refine Out.bind (R := RVst X.K X.mg) (fun y H2 Q => We X f σ H2 fun z H3 => ∃ o, DGet H3 a y o ∧ Q (o.getD z) H3) (out_st (he E η1 M1 c1 σ H1 s1)) (fun Q hq => hq) fun re c2 y η2 M2 H2 s2 x2 z2 => ?_
        refine Out.bind (R := RVst X.K X.mg) (fun z H3 Q => ∃ o, DGet H3 a y o ∧ Q (o.getD z) H3) (out_st (hf E η2 M2 c2 σ H2 s2)) (fun Q hq => hq) fun rf c3 z η3 M3 H3 s3 x3 z3 => ?_
        cases e2 : toVal c3 rf with
        | none => trivial
        | some q =>
          obtain ⟨dz, c4⟩ := q
          dsimp only
          obtain ⟨M4, s4, x4, r4⟩ := toVal_ok s3 z3.2 e2
          cases e3 : view c4 ro with
          | none => trivial
          | some d' =>
            cases e4 : view c4 re with
            | none => trivial
            | some di =>
              dsimp only
              cases e5 : gGetO d' di with
              | none => trivial
              | some oo =>
                have v1 := view_ok s4 (z1.2.keep (c' := c4) (x2.trans (x3.trans x4)) z1.1) e3
                have v2 := view_ok s4 (z2.2.keep (c' := c4) (x3.trans x4) z2.1) e4
                obtain ⟨a', ov, ea, hg, k1, k2⟩ := getO_of s4.sub v1 v2 e5
                cases ea
                refine out_ext x4 (out_ok (v := ov.getD z) s4 (fun Q hq => ⟨ov, hg, hq⟩) ?_)
                cases oo with
                | none => rw [k1 rfl]; exact r4
                | some dv => obtain ⟨v, ev, hr⟩ := k2 dv rfl; rw [ev]; exact hr
      exact o2.imp (fun x => x) (fun Q hq => ⟨a, rfl, hD, hq⟩) fun _ _ _ _ _ _ _ z => z
    · rw [if_neg hd]; trivial
end
end LH
/-! LHExc: raise, try. -/
namespace LH
open PySem PySem.Spec PyProof.Rows L2
section
variable {X : Cx} {pins : List (Addr × Obj)} {σ : St} {H : Hp} {s sI : Shared}
/-- a caught exception is tracked -/
theorem inv_track {a C d : Addr} {oe : Obj} {vs : Array Value} (I : Inv X pins σ H s) (J : Inv X pins σ H sI) (hex : X.ex = []) (na : H a = none) (nI : sI.heap.get? a = none) (he : s.heap.get? a = some oe) (hz : Zc (.ref C) (some d) oe) (hd : oe.data = .fields vs) (nL : a ≠ X.env.locals) :
    Inv X pins σ (upd H a (ExV C d a)) s := by
  have n0 : ∀ b o, X.s_0.heap.get? b = some o → b ≠ a := fun b o e z => by
    obtain ⟨o', q⟩ := J.base.there b o e (by rw [hex]; simp)
    rw [z, nI] at q; cases q
  refine ⟨I.ok, I.os, I.bare, ⟨I.base.keep, I.base.slot, fun b o e n hx => by rw [upd_ne (n0 b o e)]; exact I.base.free b o e n hx, I.base.there, fun b xs e => by rw [upd_ne (ne_of_none (I.base.tups b xs e) na)]; exact I.base.tups b xs e,
    fun b o u e => by rw [upd_ne (ne_of_none (I.base.frzs b o u e) na)]; exact I.base.frzs b o u e, fun b ps e => ?_⟩, I.loc, I.cell, by rw [upd_ne (Ne.symm nL)]; exact I.free, fun x c e => ?_, fun p hp => ?_, fun b u e => ?_, I.len⟩
  · obtain ⟨m, q⟩ := I.base.tbls b ps e
    exact ⟨m, by rw [upd_ne (ne_of_none q na)]; exact q⟩
  · have hc : c ≠ a := fun z => by
      obtain ⟨v, o, q, _⟩ := J.cell x c e
      rw [z, nI] at q; cases q
    rw [upd_ne hc]; exact I.freeC x c e
  · obtain ⟨e, n, ne, nf, dd⟩ := I.pin p hp
    have hc : p.1 ≠ a := fun z => by
      have q := (J.pin p hp).1
      rw [z, nI] at q; cases q
    exact ⟨e, by rw [upd_ne hc]; exact n, ne, nf, dd⟩
  · by_cases hb : b = a
    · subst hb
      rw [upd_same] at e
      cases e
      exact ⟨⟨oe, vs, he, hz, hd⟩, ⟨oe, he⟩, fun h1 h2 ⟨o, v, q, r⟩ k => ⟨o, v, k o q, r⟩⟩
    · rw [upd_ne hb] at e
      exact (I.hok b u e).stay (fun c v _ q => q) (fun c q => by rw [upd_ne (ne_of_none q na)]; exact q) fun c xs q => by rw [upd_ne (ne_of_none q na)]; exact q
end
/-! ### the mirror -/
structure Hm where
  yes : List Str
  no : List Str
  slot : Option Nat
  m : Sm
def unsl (i : Nat) : Res Fl → Res Fl
  | .ok (.rt (.loc j)) c => if j = i then .stuck else .ok (.rt (.loc j)) { c with ρ := c.ρ.set i .un }
  | .ok fl c => .ok fl { c with ρ := c.ρ.set i .un }
  | _ => .stuck
def nox : Res Fl → Res Fl
  | .err _ _ => .stuck
  | r => r
def runHs : List Hm → Xc → Cf → Res Fl
  | [], x, c => .err x c
  | h :: r, x, c => if x.cls ∈ h.yes then (match h.slot with
      | none => nox (h.m c)
      | some i => if i < c.ρ.length then unsl i (h.m { c with ρ := c.ρ.set i (.fz (.exc x.cls x.fs)) }) else .stuck)
    else if x.cls ∈ h.no then runHs r x c else .stuck
def sTry (mb : Sm) (hs : List Hm) : Sm := fun c => match mb c with
  | .err x c1 => runHs hs x c1
  | r => r
/-- the clause's class takes these, not those -/
structure XTest (X : Cx) (x : Str) (yes no : List Str) : Prop where
  ex : ∃ cv, Names X x cv ∧ (∀ c ∈ yes, ∃ C, X.mg c = some (.ref C) ∧ PySem.W.exmOne X.K (.ref C) cv = some true) ∧ ∀ c ∈ no, ∃ C, X.mg c = some (.ref C) ∧ PySem.W.exmOne X.K (.ref C) cv = some false
inductive HsOk (X : Cx) : List ExceptHandler → List Hm → Prop
  | nil : HsOk X [] []
  | only {x : Str} {np pos' : Pos} {b₀ : Stmt} {suite : List Stmt} {hds : List ExceptHandler} {yes no : List Str} {m : Sm} {l : List Hm} (ht : XTest X x yes no) (hsu : ∀ a pn, Bx (X.suite a pn) (b₀ :: suite) m) (r : HsOk X hds l) :
      HsOk X (.ExceptHandler (some (.Name x np)) none (b₀ :: suite) pos' :: hds) (⟨yes, no, none, m⟩ :: l)
  | as {x n : Str} {i : Nat} {np pos' : Pos} {b₀ : Stmt} {suite : List Stmt} {hds : List ExceptHandler} {yes no : List Str} {m : Sm} {l : List Hm} (ht : XTest X x yes no) (hi : X.N[i]? = some n) (hln : X.env.kindOf n = some .local) (hsu : ∀ a pn, Bx (X.suite a pn) (b₀ :: suite) m) (r : HsOk X hds l) :
      HsOk X (.ExceptHandler (some (.Name x np)) (some n) (b₀ :: suite) pos' :: hds) (⟨yes, no, some i, m⟩ :: l)
section
variable {X : Cx} {E : En} {η η' : List Addr} {M M' H H' : Hp} {c c' : Cf} {σ σ' : St} {Z : Ends} {F : Res Fl}
theorem good_nox (h : Good X E η M (nox F) Z) : ∀ {Y : Cx}, Y.K = X.K → Y.mg = X.mg → Good Y E η M F Z := by
  intro Y e1 e2
  cases F with
  | stuck => exact h.elim
  | err x c => exact h.elim
  | ok fl c =>
    cases fl <;> (unfold Good EndR at h ⊢; rw [e1, e2]; exact h)
/-- the ends of a suite: slot i goes -/
def endsUn (i : Nat) (D : Ends) : Ends := { nx := fun σ' H' => D.nx (σ'.set i none) H', rt := D.rt, bk := fun σ' H' => D.bk (σ'.set i none) H', ct := fun σ' H' => D.ct (σ'.set i none) H' }
theorem SR.unset {K : Fg} {mg : Mg} (s : SR K mg E η M c σ H) (i : Nat) : SR K mg E η M { c with ρ := c.ρ.set i .un } (σ.set i none) H :=
  s.less (by simp [s.len]) fun j t e => by
    by_cases hj : j = i
    · subst hj
      by_cases hl : j < c.ρ.length
      · rw [List.getElem?_set_self hl] at e; cases e; exact .inl rfl
      · rw [List.getElem?_eq_none (by simpa using hl)] at e; cases e
    · rw [List.getElem?_set_ne (Ne.symm hj)] at e ⊢
      exact .inr ⟨e, rfl⟩
theorem own_unset {i : Nat} {a : Addr} (h : Own { c with ρ := c.ρ.set i .un } (σ.set i none) a) : Own c σ a := by
  obtain ⟨j, d, h1, h2⟩ := h
  have h1 : (c.ρ.set i .un)[j]? = some (.ow d) := h1
  by_cases hj : j = i
  · subst hj
    by_cases hl : j < c.ρ.length
    · rw [List.getElem?_set_self hl] at h1; cases h1
    · rw [List.getElem?_eq_none (by simpa using hl)] at h1; cases h1
  · rw [List.getElem?_set_ne (Ne.symm hj)] at h1 h2
    exact ⟨j, d, h1, h2⟩
theorem good_unsl {i : Nat} (h : Good X E η M (unsl i F) Z) : ∀ {Y : Cx}, Y.K = X.K → Y.mg = X.mg → ∃ Z' : Ends, Good Y E η M F Z' ∧ (∀ σ H, Z'.nx σ H → Z.nx (σ.set i none) H) ∧ (∀ σ H, Z'.bk σ H → Z.bk (σ.set i none) H) ∧ (∀ σ H, Z'.ct σ H → Z.ct (σ.set i none) H) ∧ ∀ v H, Z'.rt v H → Z.rt v H := by
  intro Y e1 e2
  refine ⟨endsUn i Z, ?_, fun _ _ h => h, fun _ _ h => h, fun _ _ h => h, fun _ _ h => h⟩
  cases F with
  | stuck => exact h.elim
  | err x c => exact h.elim
  | ok fl c =>
    cases fl with
    | nx => unfold Good EndR at h ⊢; rw [e1, e2]; exact fun σ1 η1 M1 H1 s1 x1 => h _ η1 M1 H1 (s1.unset i) x1
    | bk => unfold Good EndR at h ⊢; rw [e1, e2]; exact fun σ1 η1 M1 H1 s1 x1 => h _ η1 M1 H1 (s1.unset i) x1
    | ct => unfold Good EndR at h ⊢; rw [e1, e2]; exact fun σ1 η1 M1 H1 s1 x1 => h _ η1 M1 H1 (s1.unset i) x1
    | rt r =>
      cases r with
      | loc j =>
        unfold unsl at h
        dsimp only at h
        by_cases hj : j = i
        · rw [if_pos hj] at h; exact h.elim
        · rw [if_neg hj] at h
          unfold Good EndR at h ⊢
          rw [e1, e2]
          refine fun v σ1 η1 M1 H1 s1 x1 z1 => h v _ η1 M1 H1 (s1.unset i) x1 ?_
          show (σ1.set i none)[j]? = some (some v)
          rw [List.getElem?_set_ne (Ne.symm hj)]
          exact z1
      | fz d => unfold Good EndR at h ⊢; rw [e1, e2]; exact fun v σ1 η1 M1 H1 s1 x1 z1 => h v _ η1 M1 H1 (s1.unset i) x1 z1
      | nw d =>
        unfold Good EndR at h ⊢
        rw [e1, e2]
        refine fun v σ1 η1 M1 H1 s1 x1 z1 => h v _ η1 M1 H1 (s1.unset i) x1 ?_
        obtain ⟨a, ea, k1, k2, k3, k4, k5⟩ := z1
        exact ⟨a, ea, k1, k2, k3, fun z => k4 (own_unset z), k5⟩
theorem sx_try {body : List Stmt} {hd0 : ExceptHandler} {hds : List ExceptHandler} {pos : Pos} {mb : Sm} {l : List Hm} (hN : X.N.Nodup)
    (hb : ∀ pn xe, PassesOwn (model X.prog X.w) X.A X.env xe → Bx (X.tr pn xe) body mb) (hh : HsOk X (hd0 :: hds) l) (hs : X.stack = X.env :: X.outer := by rfl) (hf : X.env.frame = some X.env.locals := by rfl) (hex : X.ex = [] := by rfl) :
    Sx X (.Try body (hd0 :: hds) [] [] pos) (sTry mb l) := by
  refine ⟨fun E η M c σ H s Z g pins st I => ?_⟩
  have ok := I.ok
  have hfr : X.A.frames = some (X.env :: X.outer) := by rw [ok.frames, hs]
  refine wpAny_Try_except ?_
  refine wpAny_mono ((hb (X.pn ++ pins) (fun e s₁ => wpAny (model X.prog X.w) X.A (noteFrame e X.env) (fun _ s₂ => wpAny (model X.prog X.w) X.A (setFlight e none) (fun _ s₃ =>
    wpAny (model X.prog X.w) X.A (handleBy e X.env (hd0 :: hds)) (SP X pins Z) X.xe s₃) X.xe s₂) X.xe s₁) PassesOwn.looking) E η M c σ H s Z ?_ [] st (I.toTry _)) (fun f s1 hsp => ?_) (fun e s1 he => he)
  · -- what the body's ends want
    unfold sTry at g
    cases e1 : mb c with
    | stuck => rw [e1] at g; exact g.elim
    | ok fl c1 =>
      rw [e1] at g
      cases fl <;> exact g
    | err x c1 =>
      rw [e1] at g
      dsimp only at g
      refine ⟨fun cls d σ1 H1 => ∃ η1 M1, SR X.K X.mg E η1 M1 c1 σ1 H1 ∧ Ext η M η1 M1 ∧ XR X.K X.mg η1 M1 cls d x, fun u s' xx => ?_, fun cls d σ1 η1 M1 H1 s1 x1 z1 => ⟨η1, M1, s1, x1, z1⟩⟩
      obtain ⟨a, B, sI, pins', σ', H', cls, d, rfl, J', nb, up, sky, na, os, ag, η1, M1, s1, x1, dd, fs, z1, z2, z3, z4, z5⟩ := xx
      have J : Inv X pins σ' H' sI := J'.ofTry ok
      have sky' : Sky B (X.env :: X.outer) a (Zc cls d) X.env.locals s'.heap := by rw [← hs]; exact sky
      show wpAny (model X.prog X.w) X.A (noteFrame (.ref a) X.env) _ _ _
      refine Sky.land Zc.steady hfr hf sky' fun h3 fl3 up3 => ?_
      have J3 : Inv X pins σ' H' { s' with heap := h3 } := J.landed nb fl3.1 (up.trans up3) os ag
      obtain ⟨oe3, vs3, he3, hz3, hd3⟩ := fl3.there
      have nfr : a ∉ frs (X.env :: X.outer) := fun hm => by
        obtain ⟨_, o', e', hnf⟩ := fl3.2.2.1.mem hm
        rw [he3] at e'; cases e'
        exact hnf _ hd3
      have nL : a ≠ X.env.locals := fun z => nfr (List.mem_filterMap.mpr ⟨X.env, List.mem_cons_self, by rw [hf, z]⟩)
      have nF : a ∉ X.fs := fun hm => by
        obtain ⟨e, he, q⟩ := List.mem_filterMap.mp hm
        exact nfr (List.mem_filterMap.mpr ⟨e, List.mem_cons_of_mem _ he, q⟩)
      have nI : sI.heap.get? a = none := by
        cases q : sI.heap.get? a with
        | none => rfl
        | some o =>
          have z := nb a o q (by rw [hs]; exact nfr)
          rw [fl3.2.1] at z; cases z
      have S3 := J3.suite he3 hd3 na nL nF
      have go : ∀ {hds' : List ExceptHandler} {l' : List Hm}, HsOk X hds' l' → Good X E η M (runHs l' x c1) Z →
          wpAny (model X.prog X.w) X.A (handleBy (.ref a) X.env hds') (SP X pins Z) X.xe { s' with heap := h3 } := by
        intro hds' l' hk
        have pick : ∀ {y : Str} {np : Pos} {yes no : List Str} {n : Option Str} {b₀ : Stmt} {suite : List Stmt} {pos' : Pos} {rest : List ExceptHandler}, XTest X y yes no → x.cls ∈ yes ∨ x.cls ∈ no →
            (x.cls ∈ yes → (∃ C, cls = .ref C) → codeAny (model X.prog X.w) (X.A.mark (some (.ref a))) (.handlers (.ref a) [.ExceptHandler none n (b₀ :: suite) pos'] X.env) (fun r s₂ => match r with
              | .ok f => (match n with
                | none => SP X pins Z f s₂
                | some n => wpAny (model X.prog X.w) X.A (do bindName X.env n .none; unbindBehindTheSuite X.env n pos') (fun _ s₃ => SP X pins Z f s₃) X.xe s₂)
              | .error x => cameBackBy (model X.prog X.w) X.A X.env X.xe x s₂) { s' with heap := h3 }) →
            (x.cls ∈ no → wpAny (model X.prog X.w) X.A (handleBy (.ref a) X.env rest) (SP X pins Z) X.xe { s' with heap := h3 }) →
            wpAny (model X.prog X.w) X.A (handleBy (.ref a) X.env (.ExceptHandler (some (.Name y np)) n (b₀ :: suite) pos' :: rest)) (SP X pins Z) X.xe { s' with heap := h3 } := by
          intro y np yes no n b₀ suite pos' rest ht hyn hy hn
          obtain ⟨cv, hc, t1, t2⟩ := ht.ex
          have hm : ∃ C b, cls = .ref C ∧ PySem.W.exmOne X.K cls cv = some b ∧ (b = true → x.cls ∈ yes) ∧ (b = false → x.cls ∈ no) := by
            rcases hyn with h | h
            · obtain ⟨C, m1, m2⟩ := t1 _ h
              rw [z1] at m1; cases m1
              exact ⟨C, true, rfl, m2, fun _ => h, fun z => (nomatch z)⟩
            · obtain ⟨C, m1, m2⟩ := t2 _ h
              rw [z1] at m1; cases m1
              exact ⟨C, false, rfl, m2, fun z => (nomatch z), fun _ => h⟩
          obtain ⟨C, b, ec, hb1, hyes, hno⟩ := hm
          refine wpAny_handleBy_cons (codeAny_handlers_test ?_) (by intro q; cases q)
          have LT : PySem.W.Looks (model X.prog X.w) h3 (typeOf (.ref a)) cls := fun A Q E s k q => wpAny_typeOf_ref (k _ _ he3) (by rw [hz3.1]; exact q)
          have LM := PySem.W.exm_one (M := model X.prog X.w) (J3.kIn) LT hb1
          have test : ∀ {Q : Value → Shared → Prop} {E : Value → Shared → Prop}, Q cv { s' with heap := h3 } → wpAny (model X.prog X.w) (X.A.mark (some (.ref a))) (eval (.Name y np) X.env) Q E { s' with heap := h3 } := fun {Q E} q => by
            obtain ⟨hg, hdbg, hm | ⟨hm, hv, hnn⟩⟩ := hc
            · exact ld_glob (X := X.suite a ((a, oe3) :: (X.pn ++ pins))) S3 hg hm q hdbg
            · exact ld_blt (X := X.suite a ((a, oe3) :: (X.pn ++ pins))) S3 hg hm hv q hnn hdbg
          refine test (LM.here ?_)
          cases b with
          | true => exact hy (hyes rfl) ⟨C, ec⟩
          | false => exact hn (hno rfl)
        induction hk with
        | nil =>
          intro gd
          obtain ⟨Wout, tk, w⟩ := gd
          refine wpAny_handleBy_nil ?_
          obtain ⟨k1, k2, k3, oe, vs, T, oT, ts', he, hz, hd, h1, hr⟩ := id fl3
          unfold PySem.passOn
          refine wpAny_bind (wpAny_field he hd h1 ?_)
          rw [if_neg (show ¬ ((Value.ref T == Value.none) = true) from by simp)]
          have fin : wpAny (model X.prog X.w) X.A (setFlight (.ref a) X.env.frame) (fun _ s4 => wpAny (model X.prog X.w) X.A (throw (.ref a) : Sem Flow) (SP X pins Z) X.xe s4) X.xe { s' with heap := h3 } := by
            rw [hf]
            refine HandSPX.setFlight_upZ fl3 fun h4 hh4 up4 => wpAny_throw (tk _ _ ?_)
            exact ⟨a, B, sI, pins, σ', H', cls, d, rfl, J, nb, (up.trans up3).trans up4, .inr (.inr (by rw [hs]; exact hh4)), na, os, ag, w cls d σ' η1 M1 H' s1 x1 ⟨dd, fs, z1, z2, z3, z4, z5⟩⟩
          first
            | exact wpAny_bind (wpAny_pure (wpAny_bind fin))
            | exact wpAny_bind fin
        | @only y np pos' b₀ suite hds2 yes no m l2 ht hsu r ih =>
          intro gd
          unfold runHs at gd
          by_cases h1 : x.cls ∈ yes
          · rw [if_pos h1] at gd
            dsimp only at gd
            refine pick ht (.inl h1) (fun _ _ => ?_) (fun h2 => ?_)
            · refine codeAny_handlers_suite ?_
              refine HandSPX.lands_againZ fl3 fun h4 fl4 up4 => ?_
              have J4 : Inv X pins σ' H' { s' with heap := h4 } := J.landed nb fl4.1 ((up.trans up3).trans up4) os ag
              obtain ⟨oe4, vs4, he4, hz4, hd4⟩ := fl4.there
              have S4 := J4.suite he4 hd4 na nL nF
              refine wpAny_mono (hsu a ((a, oe4) :: (X.pn ++ pins)) E η1 M1 c1 σ' H' s1 Z (good_nox (Good.ext x1 gd) rfl rfl) [] _ S4) (fun f s6 hsp => ?_) (fun _ _ z => False.elim z)
              cases f with
              | next =>
                obtain ⟨σ6, H6, S6, q6⟩ := hsp
                exact ⟨_, _, S6.unsuite ok, q6⟩
              | brk =>
                obtain ⟨σ6, H6, S6, q6⟩ := hsp
                exact ⟨_, _, S6.unsuite ok, q6⟩
              | cont =>
                obtain ⟨σ6, H6, S6, q6⟩ := hsp
                exact ⟨_, _, S6.unsuite ok, q6⟩
              | ret u =>
                obtain ⟨v6, σ6, H6, S6, r6, q6⟩ := hsp
                exact ⟨_, _, _, S6.unsuite ok, r6, q6⟩
            · obtain ⟨_, _, t1, t2⟩ := ht.ex
              obtain ⟨C, m1, m2⟩ := t1 _ h1
              obtain ⟨C', m3, m4⟩ := t2 _ h2
              rw [m1] at m3; cases m3
              rw [m2] at m4; cases m4
          · rw [if_neg h1] at gd
            by_cases h2 : x.cls ∈ no
            · rw [if_pos h2] at gd
              exact pick ht (.inr h2) (fun z => absurd z h1) fun _ => ih gd
            · rw [if_neg h2] at gd; exact gd.elim
        | @as y n i np pos' b₀ suite hds2 yes no m l2 ht hi hln hsu r ih =>
          intro gd
          unfold runHs at gd
          by_cases h1 : x.cls ∈ yes
          · rw [if_pos h1] at gd
            dsimp only at gd
            by_cases hil : i < c1.ρ.length
            · rw [if_pos hil] at gd
              refine pick ht (.inl h1) (fun _ ⟨C, ec⟩ => ?_) (fun h2 => ?_)
              · subst ec
                subst z2
                refine codeAny_handlers_suite_as ?_
                refine HandSPX.lands_againZ fl3 fun h4 fl4 up4 => ?_
                have J4 : Inv X pins σ' H' { s' with heap := h4 } := J.landed nb fl4.1 ((up.trans up3).trans up4) os ag
                obtain ⟨oe4, vs4, he4, hz4, hd4⟩ := fl4.there
                have T4 := inv_track J4 J hex na nI he4 hz4 hd4 nL
                have S4 : Inv (X.suite a (X.pn ++ pins)) [] σ' (upd H' a (ExV C dd a)) { s' with heap := h4 } :=
                  ⟨T4.ok.suite _ _, T4.os, T4.bare, T4.base, T4.loc, T4.cell, T4.free, T4.freeC, fun p hp => T4.pin p (by rw [List.append_nil] at hp; exact hp), T4.hok, T4.len⟩
                refine store_ok (X := X.suite a (X.pn ++ pins)) (v := .ref a) S4 hN hi (.inl hln) rfl (fun s5 S5 => ?_) (.inr hln)
                -- the state with the exception
                obtain ⟨f1, f2, f3, f4⟩ := s1.free na
                have sA := s1.alloc (o := ExV C dd a) na
                obtain ⟨sB, xB⟩ := sA.freeze f1 f2 f3 f4 upd_same
                have rep : Rep X.K X.mg η1 (upd M1 a (ExV C dd a)) (.ref a) (.exc x.cls x.fs) := .exc z1 upd_same (by rw [upd_ne (ne_of_none z3 f1)]; exact z3) z4 (z5.mono xB)
                have sC := sB.setFz hil rep
                obtain ⟨Z', gZ, w1, w2, w3, w4⟩ := good_unsl (Y := X.suite a (X.pn ++ pins)) (Good.ext (x1.trans xB) gd) rfl rfl
                refine wpAny_mono (hsu a (X.pn ++ pins) E η1 _ _ _ _ sC Z' gZ [] s5 S5) (fun f s6 hsp => ?_) (fun _ _ z => False.elim z)
                have end_ : ∀ {σ6 : St} {H6 : Hp} {Q : Shared → Prop}, Inv (X.suite a (X.pn ++ pins)) [] σ6 H6 s6 → (∀ s7, Inv X pins (σ6.set i none) H6 s7 → Q s7) →
                    wpAny (model X.prog X.w) X.A (do bindName X.env n .none; unbindBehindTheSuite X.env n pos') (fun _ s7 => Q s7) X.xe s6 := fun {σ6 H6 Q} S6 hq =>
                  gone_ok (X := X) (pins := pins) ⟨ok, S6.os, S6.bare, S6.base, S6.loc, S6.cell, S6.free, S6.freeC, fun p hp => S6.pin p (by rw [List.append_nil]; exact hp), S6.hok, S6.len⟩ hN hi hln hq
                cases f with
                | next =>
                  obtain ⟨σ6, H6, S6, q6⟩ := hsp
                  exact end_ S6 fun s7 J7 => ⟨_, _, J7, w1 _ _ q6⟩
                | brk =>
                  obtain ⟨σ6, H6, S6, q6⟩ := hsp
                  exact end_ S6 fun s7 J7 => ⟨_, _, J7, w2 _ _ q6⟩
                | cont =>
                  obtain ⟨σ6, H6, S6, q6⟩ := hsp
                  exact end_ S6 fun s7 J7 => ⟨_, _, J7, w3 _ _ q6⟩
                | ret u =>
                  obtain ⟨v6, σ6, H6, S6, r6, q6⟩ := hsp
                  exact end_ S6 fun s7 J7 => ⟨_, _, _, J7, r6, w4 _ _ q6⟩
              · obtain ⟨_, _, t1, t2⟩ := ht.ex
                obtain ⟨C, m1, m2⟩ := t1 _ h1
                obtain ⟨C', m3, m4⟩ := t2 _ h2
                rw [m1] at m3; cases m3
                rw [m2] at m4; cases m4
            · rw [if_neg hil] at gd; exact gd.elim
          · rw [if_neg h1] at gd
            by_cases h2 : x.cls ∈ no
            · rw [if_pos h2] at gd
              exact pick ht (.inr h2) (fun z => absurd z h1) fun _ => ih gd
            · rw [if_neg h2] at gd; exact gd.elim
      exact go hh g
  · cases f with
    | next =>
      obtain ⟨σ', H', J', q⟩ := hsp
      exact wpAny_execs_nil ⟨σ', H', J'.ofTry ok, q⟩
    | brk =>
      obtain ⟨σ', H', J', q⟩ := hsp
      exact ⟨σ', H', J'.ofTry ok, q⟩
    | cont =>
      obtain ⟨σ', H', J', q⟩ := hsp
      exact ⟨σ', H', J'.ofTry ok, q⟩
    | ret u =>
      obtain ⟨v, σ', H', J', r, q⟩ := hsp
      exact ⟨v, σ', H', J'.ofTry ok, r, q⟩
end
end LH
/-! LHRaise: raise; fields and kinds of caught exceptions. -/
namespace LH
open PySem PySem.Spec PyProof.Rows L2
/-- what an exception's __init__ keeps: every argument in a field of its own -/
def spX (K : Fg) (C : Addr) (fs : List Str) : Sp := fun vs H Q _ => ∃ (a : Addr) (ys : List V), vs = .ref a :: ys ∧ ys.length = fs.length ∧ OexC K C ∧ (∀ f ∈ fs, PySem.W.findIn K (.ref C) f = some none) ∧ H a = some (exo a C none) ∧
  ∀ (d : Addr) (H2 : Hp), H2 a = some (exo a C (some d)) → H2 d = some (exd d (fs.zip ys).reverse) → H d = none → (∀ b o, b ≠ a → H b = some o → H2 b = some o) → Q .non H2
theorem spX_len {K : Fg} {C : Addr} {fs : List Str} {n : Nat} (hn : fs.length + 1 = n) : ∀ vs H Q E, spX K C fs vs H Q E → vs.length = n := fun vs H Q E ⟨a, ys, e, hl, _⟩ => by
  rw [e, List.length_cons, hl, hn]
/-- an exception class that keeps its arguments -/
structure FnX (P : Program) (w : World) (K : Fg) (mg : Mg) (base : Heap) (cn : Str) (fs : List Str) : Prop where
  ex : ∃ C fI fd ps, mg cn = some (.ref C) ∧ OexC K C ∧ PySem.W.findIn K (.ref C) "__init__" = some (some (.ref fI)) ∧ PySem.W.typeIn K (.ref fI) = some (.type "function") ∧ Binds K fd ps [] ∧ (∀ f ∈ fs, PySem.W.findIn K (.ref C) f = some none) ∧
    FnOk P w K mg base (L2.CX P w) 1 fI fd ps (spX K C fs)
theorem takes_all {X : Cx} : Takes X (fun cls d σ H => ∃ W, Takes X W ∧ W cls d σ H) := fun u s' ⟨a, B, sI, pins, σ, H, cls, d, e, I, nb, up, sky, na, os, ag, W, tk, w⟩ =>
  tk u s' ⟨a, B, sI, pins, σ, H, cls, d, e, I, nb, up, sky, na, os, ag, w⟩
def sRaise (cn : Str) (fs : List Str) (ms : Cf → Res (List Rv)) : Sm := fun c => (ms c).bind fun rs c1 => match vals c1 rs with
  | some (ds, c2) => if ds.length = fs.length then .err ⟨cn, (fs.zip ds).reverse⟩ c2 else .stuck
  | none => .stuck
theorem zip_keys {α : Type} : ∀ {fs : List Str} {xs : List α}, xs.length = fs.length → (fs.zip xs).map (·.1) = fs ∧ (fs.zip xs).map (·.2) = xs
  | [], [], _ => ⟨rfl, rfl⟩
  | [], _ :: _, h => by simp at h
  | _ :: _, [], h => by simp at h
  | f :: fs, x :: xs, h => by
    obtain ⟨h1, h2⟩ := zip_keys (fs := fs) (xs := xs) (by simpa using h)
    exact ⟨by simp [List.zip_cons_cons, h1], by simp [List.zip_cons_cons, h2]⟩
section
variable {X : Cx} {e : Expr} {es : List Expr} {ms : Cf → Res (List Rv)} {p pos pos2 : Pos} {cn : Str} {fs : List Str}
theorem sx_raise (h : FnX X.prog X.w X.K X.mg X.base cn fs) (hr : RmG 2 X.A) (hz : fs.length ≤ 900) (ha : Ax X (e :: es) ms) (hc : X.calm = true := by rfl) (hg : Gl X cn := by rfl) (hdb : (cn == ("__debug__" : Str)) = false := by decide)
    (he : starEach (e :: es) X.env = (false, eval e X.env) :: starEach es X.env := by rfl) (hpl : (backTo pos (starEach es X.env)).any (·.1) = false := by rfl) : Sx X (.Raise (some (.Call (.Name cn p) (e :: es) [] pos)) none pos2) (sRaise cn fs ms) := by
  obtain ⟨C, fI, fd, ps, hm, T, iC, tI, hb, hno, F⟩ := h
  refine ⟨fun E η M c σ H s => ?_⟩
  refine OutS.bind (R := RVs X.K X.mg) (fun vs H1 Z => vs.length ≤ 1000 ∧ ∀ a, H1 a = none → spX X.K C fs (.ref a :: (vs ++ [])) (upd H1 a (exo a C none))
    (fun v H2 => v = .non ∧ ∃ (d : Addr) (fs : List (Str × V)), H2 a = some (exo a C (some d)) ∧ H2 d = some (exd d fs) ∧ H1 d = none ∧ ∃ W, Takes X W ∧ W (.ref C) (some d) σ (upd (del H2 a) d (.xd fs))) (fun _ _ _ => False)) (ha E η M c σ H s) (fun Z hq => ?_) fun rs c1 vs η1 M1 H1 s1 x1 z1 Z gd => ?_
  · exact ps_ws (ps_raise hc takes_all (pmk_oex T iC tI F hr.rm hb .nil passL hg hm wa_pa hdb he hpl)) hq
  · cases e1 : vals c1 rs with
    | none => rw [e1] at gd; exact gd.elim
    | some q =>
      obtain ⟨ds, c2⟩ := q
      rw [e1] at gd
      dsimp only at gd
      by_cases hl : ds.length = fs.length
      · rw [if_pos hl] at gd
        obtain ⟨W, tk, hW⟩ := gd
        obtain ⟨M2, s2, x2, r2⟩ := vals_ok s1 z1.1 z1.2 e1
        have hvl : vs.length = fs.length := by rw [r2.length]; exact hl
        refine ⟨by rw [hvl]; omega, fun a na => ⟨a, vs, by rw [List.append_nil], hvl, T, hno, upd_same, fun d H2 ea ed hd k => ?_⟩⟩
        have hda : d ≠ a := fun z => by rw [z, upd_same] at hd; cases hd
        have hd1 : H1 d = none := by rw [upd_ne hda] at hd; exact hd
        refine ⟨rfl, d, _, ea, ed, hd1, W, tk, ?_⟩
        have sH : SR X.K X.mg E η1 M2 c2 σ (upd (del H2 a) d (.xd (fs.zip vs).reverse)) := s2.heap fun b o hb => by
          have n1 : b ≠ a := ne_of_none hb na
          rw [upd_ne (ne_of_none hb hd1), del_ne n1]
          exact k b o n1 (by rw [upd_ne n1]; exact hb)
        obtain ⟨f1, f2, f3, f4⟩ := s2.free hd1
        obtain ⟨s3, x3⟩ := sH.freeze f1 f2 f3 f4 upd_same
        obtain ⟨k1, k2⟩ := zip_keys hvl
        obtain ⟨k3, k4⟩ := zip_keys hl
        refine hW _ _ σ η1 _ _ s3 (x2.trans x3) ⟨d, (fs.zip vs).reverse, hm, rfl, upd_same, ?_, ?_⟩
        · rw [List.map_reverse, List.map_reverse, k1, k3]
        · rw [List.map_reverse, List.map_reverse, k2, k4]
          exact (r2.mono x3).reverse
      · rw [if_neg hl] at gd; exact gd.elim
end
/-! ### fields of caught exceptions -/
def FldX (K : Fg) (mg : Mg) (cs : List Str) (f : Str) : Prop := ∀ c ∈ cs, ∃ C, mg c = some (.ref C) ∧ XfC K C ∧ PySem.W.findIn K (.ref C) f = some none
theorem fldX_nil {K : Fg} {mg : Mg} {f : Str} : FldX K mg [] f := fun c h => by simp at h
theorem fldX_cons {K : Fg} {mg : Mg} {f c : Str} {cs : List Str} {C : Addr} (h : mg c = some (.ref C)) (hc : XfC K C) (hn : PySem.W.findIn K (.ref C) f = some none) (t : FldX K mg cs f) : FldX K mg (c :: cs) f := fun c' h' => by
  rcases List.mem_cons.mp h' with rfl | h'
  · exact ⟨C, h, hc, hn⟩
  · exact t c' h'
def gXf (cs : List Str) (f : Str) (d : D) : Option Rv := match d with
  | .exc c fds => if c ∈ cs then (fds.lookup f).map .fz else none
  | _ => none
theorem VwR.exc {K : Fg} {mg : Mg} {η : List Addr} {M H : Hp} (hs : Same M H) {n : Str} {ds : List (Str × D)} {v : V} (h : VwR K mg η M H v (.exc n ds)) :
    ∃ a C dd fs, v = .ref a ∧ mg n = some (.ref C) ∧ H a = some (ExV C dd a) ∧ H dd = some (.xd fs) ∧ fs.map (·.1) = ds.map (·.1) ∧ RepL K mg η M (fs.map (·.2)) (ds.map (·.2)) := by
  rcases h with h | ⟨a, e, h⟩
  · cases h with
    | exc g h1 h2 k r => exact ⟨_, _, _, _, rfl, g, hs _ _ h1, hs _ _ h2, k, r⟩
  · exact h.elim
theorem exv_inst {X : Cx} {pins : List (Addr × Obj)} {σ : St} {H : Hp} {s : Shared} {a C dd : Addr} {fs : List (Str × V)} (I : Inv X pins σ H s) (ha : H a = some (ExV C dd a)) (hd : H dd = some (.xd fs)) :
    ∃ (oe od : Obj) (mA : Str → Option Value), PySem.W.InstAt s.heap a oe C (some od) ∧ (∀ f, PySem.W.lookIn f od = some (mA f)) ∧ ∀ f, RelO (fs.lookup f) (mA f) := by
  have hA : ObjOk X.prog X.w H s.heap a (.ext fun h => ∃ (oe : Obj) (vs : Array Value), h.get? a = some oe ∧ Zc (.ref C) (some dd) oe ∧ oe.data = .fields vs) := I.hok a _ ha
  obtain ⟨⟨oe, vs, e1, hz, e2⟩, _, _⟩ := hA
  have hx : ObjOk X.prog X.w H s.heap dd (.xd fs) := I.hok dd _ hd
  obtain ⟨mA, hns, hr⟩ := hx
  obtain ⟨od, ho, hl⟩ := lookIn_ns hns
  exact ⟨oe, od, mA, ⟨e1, hz.1, by unfold PySem.W.notCls; rw [e2] <;> rfl, by rw [hz.2]; exact ho⟩, hl, hr⟩
section
variable {X : Cx} {e : Expr} {me : Em} {pos : Pos} {cs : List Str} {f : Str}
theorem ex_xf (hk : FldX X.K X.mg cs f) (he : Ex X e me) (hb : attributeBase e f X.env (eval e X.env) = eval e X.env := by rfl) : Ex X (.Attribute e f pos) (mUn (gXf cs f) me) := by
  refine ⟨fun E η M c σ H s => ?_⟩
  refine Out.bind (fun (x : V) H1 (Q : VK) => ∃ a C dd fs v, x = .ref a ∧ H1 a = some (ExV C dd a) ∧ H1 dd = some (.xd fs) ∧ XfC X.K C ∧ PySem.W.findIn X.K (.ref C) f = some none ∧ fs.lookup f = some v ∧ Q v H1) (he E η M c σ H s) (fun Q hq => ?_) fun ra c1 x η1 M1 H1 s1 x1 z1 => ?_
  · intro pins st I
    refine attr_of hb (thn (hq pins st I) fun u s1 hh => ?_)
    obtain ⟨x, H1, I1, rx, a, C, dd, fs, v, ex, ha, hd, T, hno, l, q⟩ := hh
    subst ex
    obtain rfl : u = Value.ref a := rx
    obtain ⟨oe, od, mA, J, hl, hr⟩ := exv_inst I1 ha hd
    obtain ⟨u, hu, ru⟩ := RelO.some_of (v := v) (o := mA f) (by rw [← l]; exact hr f)
    exact HandSPX.exc_get I1.kIn J T.ga T.gg T.exC (PySem.W.findObj_own T.hdC hno rfl (by rw [hl, hu])) (handed_of ru) ⟨v, H1, I1.tok _, ru, q⟩
  · unfold m1
    cases e1 : view c1 ra with
    | none => trivial
    | some d =>
      dsimp only
      cases e2 : gXf cs f d with
      | none => trivial
      | some r =>
        unfold gXf at e2
        cases d with
        | exc n fds =>
          dsimp only at e2
          split at e2
          · rename_i hc
            obtain ⟨dv, h1, rfl⟩ := Option.map_eq_some_iff.mp e2
            obtain ⟨a, C, dd, fs, rfl, k1, k2, k3, k4, k5⟩ := (view_ok s1 z1 e1).exc s1.sub
            obtain ⟨v, k6, k7⟩ := lookup_rep k4 k5 h1
            obtain ⟨C', q0, q1, q2⟩ := hk n hc
            rw [k1] at q0; cases q0
            exact out_ok s1 (fun Q hq => ⟨a, C, dd, fs, v, rfl, k2, k3, q1, q2, k6, hq⟩) (show RV X.K X.mg E η1 M1 c1 σ H1 v (.fz dv) from k7)
          · cases e2
        | _ => cases e2
end
/-! ### isinstance, of any data, of own and built-in classes, one or several -/
/-- what an exception's class must say so that isinstance asks its instances rightly -/
structure KitE (K : Fg) (C : Addr) : Prop where
  cl : (PySem.W.clsIn K C).isSome = true
  ga : PySem.W.findIn K (.ref C) "__getattribute__" = some (some (.builtin "BaseException.__getattribute__"))
  gt : PySem.W.findIn K (.ref C) "__getattr__" = some none
  sb : PySem.W.subIn K (.ref C) (.type "BaseException") = some true
  ca : PySem.W.findIn K (.ref C) "__class__" = some (some (.builtin "object.__class__"))
  sp : PySem.W.specialIn K (.builtin "object.__class__") "__get__" = some (some (.builtin "getset_descriptor.__get__"))
  tk : PySem.W.takesIn K (.builtin "object.__class__") = some true
  mr : PySem.W.mroIn K C (.type "object") = some true
/-- the same of an own class's instances -/
structure KitI (K : Fg) (C : Addr) : Prop where
  cls : Cls K C
  ca : PySem.W.findIn K (.ref C) "__class__" = some (some (.builtin "object.__class__"))
  sp : PySem.W.specialIn K (.builtin "object.__class__") "__get__" = some (some (.builtin "getset_descriptor.__get__"))
  tk : PySem.W.takesIn K (.builtin "object.__class__") = some true
  mr : PySem.W.mroIn K C (.type "object") = some true
/-- classes asked for: kq tells the answer for a type -/
structure KTbl (K : Fg) (mg : Mg) (kq : Value → Option Bool) (tE tO : List (Str × Bool)) (tB : List (String × Bool)) : Prop where
  e : ∀ c b, tE.lookup c = some b → ∃ C, mg c = some (.ref C) ∧ KitE K C ∧ kq (.ref C) = some b
  o : ∀ c b, tO.lookup c = some b → ∃ C, mg c = some (.ref C) ∧ KitI K C ∧ kq (.ref C) = some b
  b : ∀ a b, tB.lookup a = some b → kq (.type a) = some b
def gIs (tE tO : List (Str × Bool)) (tB : List (String × Bool)) (d : D) : Option Rv := match d with
  | .exc c _ => (tE.lookup c).map fun b => .fz (.bl b)
  | .obj c _ => (tO.lookup c).map fun b => .fz (.bl b)
  | d => (tyN d).bind fun a => (tB.lookup a).map fun b => .fz (.bl b)
/-- the value's type is known to the library -/
def KitV (X : Cx) (H : Hp) (v : V) (t : Value) : Prop := ∀ pins σ s u, Inv X pins σ H s → RelV v u → ∃ P : Heap → Prop, PySem.W.KitX X.K u t P ∧ P s.heap ∧ u ≠ .builtin "__main__.__loader__#opaque"
theorem kitV_of {X : Cx} {η : List Addr} {M H : Hp} {kq : Value → Option Bool} {tE tO : List (Str × Bool)} {tB : List (String × Bool)} {v : V} {d : D} {r : Rv} (T : KTbl X.K X.mg kq tE tO tB) (hs : Same M H) (h : VwR X.K X.mg η M H v d) (e : gIs tE tO tB d = some r) :
    ∃ t b, KitV X H v t ∧ kq t = some b ∧ r = .fz (.bl b) := by
  have plain : ∀ {a : String} {b : Bool}, tyN d = some a → tB.lookup a = some b → r = .fz (.bl b) → ∃ t b, KitV X H v t ∧ kq t = some b ∧ r = .fz (.bl b) := fun {a b} h1 h2 h3 =>
    ⟨.type a, b, fun pins σ s u I ru => kit_of I ru (tyX_of hs h h1), T.b a b h2, h3⟩
  have gen : (tyN d).bind (fun a => (tB.lookup a).map fun b => Rv.fz (.bl b)) = some r → ∃ t b, KitV X H v t ∧ kq t = some b ∧ r = .fz (.bl b) := fun e => by
    obtain ⟨a, h1, h2⟩ := Option.bind_eq_some_iff.mp e
    obtain ⟨b, h3, rfl⟩ := Option.map_eq_some_iff.mp h2
    exact plain h1 h3 rfl
  cases d with
  | exc c fds =>
    obtain ⟨b, h1, rfl⟩ := Option.map_eq_some_iff.mp e
    obtain ⟨C, m1, ke, m2⟩ := T.e c b h1
    obtain ⟨a, C', dd, fs, rfl, k1, k2, k3, k4, k5⟩ := h.exc hs
    rw [m1] at k1; cases k1
    refine ⟨.ref C, b, fun pins σ s u I ru => ?_, m2, rfl⟩
    cases (show u = Value.ref a from ru)
    obtain ⟨oe, od, mA, J, hl, hr⟩ := exv_inst I k2 k3
    exact ⟨_, PySem.W.kitx_exc ke.cl ke.ga ke.gt ke.sb ke.ca ke.sp ke.tk ke.mr, J, fun z => nomatch z⟩
  | obj c fds =>
    obtain ⟨b, h1, rfl⟩ := Option.map_eq_some_iff.mp e
    obtain ⟨C, m1, ki, m2⟩ := T.o c b h1
    obtain ⟨a, C', dx, fs, rfl, k1, k2, k3, k4⟩ := h.obj hs
    rw [m1] at k1; cases k1
    exact ⟨.ref C, b, fun pins σ s u I ru => kit_of I ru (.base (.ins k2 ki.cls ki.ca ki.sp ki.tk ki.mr)), m2, rfl⟩
  | non => exact gen e
  | bl _ => exact gen e
  | int _ => exact gen e
  | str _ => exact gen e
  | lst _ => exact gen e
  | tup _ => exact gen e
  | ro _ => exact gen e
  | dct _ => exact gen e
  | dcT _ => exact gen e
  | hdl _ => exact gen e
section
variable {X : Cx} {e : Expr} {me : Em} {p pos : Pos} {tE tO : List (Str × Bool)} {tB : List (String × Bool)}
/-- a class by its name -/
structure ClsN (X : Cx) (y : Str) (cv : Value) : Prop where
  g : Gl X y
  d : (y == ("__debug__" : Str)) = false
  v : X.mg y = some cv ∨ (X.mg y = none ∧ bootBuiltins y = some cv ∧ y ≠ "__name__")
  c : ∃ v, ClsV v cv
theorem cls_rel {v : V} {cv : Value} (k : ClsV v cv) : RelV v cv := by cases k <;> rfl
theorem pe_cls {y : Str} {cv : Value} {v : V} {py : Pos} (k : ClsN X y cv) (kv : ClsV v cv) : PE X (.Name y py) (tC v) := by
  rcases k.v with h | ⟨h, hv, hn⟩
  · exact pe_glob k.g h (cls_rel kv) k.d
  · exact pe_bltn k.g h hv (cls_rel kv) hn k.d
theorem ex_is1 {y : Str} {cv : Value} {py : Pos} (hi : X.mg "isinstance" = none) (k : ClsN X y cv) (T : KTbl X.K X.mg (fun t => PySem.W.kitOne X.K t cv) tE tO tB) (he : Ex X e me) (hg : Gl X "isinstance" := by rfl)
    (h1 : starEach [e, .Name y py] X.env = (false, eval e X.env) :: starEach [.Name y py] X.env := by rfl) (h2 : starEach [.Name y py] X.env = (false, eval (.Name y py) X.env) :: starEach [] X.env := by rfl) (hpl : (backTo pos (starEach [.Name y py] X.env)).any (·.1) = false := by rfl) :
    Ex X (.Call (.Name "isinstance" p) [e, .Name y py] [] pos) (mUn (gIs tE tO tB) me) := by
  obtain ⟨cV, kv⟩ := k.c
  have hcall : CallR X (.builtin "isinstance") (fun xs H Q => ∃ x t b, xs = [x, cV] ∧ KitV X H x t ∧ PySem.W.kitOne X.K t cv = some b ∧ Q (.bl b) H) := by
    intro pins s σ H xs us Q I r h
    obtain ⟨x, t, b, rfl, kq, eq, q⟩ := h
    obtain ⟨u1, u2, rfl, r1, r2⟩ := vals2 r
    have e2 := kv.eq r2
    subst e2
    obtain ⟨P, Zk, pp, hx⟩ := kq pins σ s u1 I r1
    exact PySem.W.kia_one Zk I.kIn pp eq hx fun tk => ⟨.bl b, H, I.tok tk, rfl, q⟩
  refine ⟨fun E η M c σ H s => ?_⟩
  refine Out.bind (fun x H1 (Q : VK) => ∃ t b, KitV X H1 x t ∧ PySem.W.kitOne X.K t cv = some b ∧ Q (.bl b) H1) (he E η M c σ H s) (fun Q hq => ?_) fun ra c1 x η1 M1 H1 s1 x1 z1 => ?_
  · refine pe_we (pe_callB hcall hg hi (by decide +kernel) (pa_cons we_pe (pa_cons (pe_cls k kv) pa_nil h2) h1) (by decide) (by decide) h1 hpl) ?_
    intro pins st I
    refine thn (hq pins st I) fun u s1 ⟨v, H1, I1, r1, t, b, q1, q2, q3⟩ => ⟨v, H1, I1, r1, v, t, b, rfl, q1, q2, q3⟩
  · unfold m1
    cases e1 : view c1 ra with
    | none => trivial
    | some d =>
      dsimp only
      cases e2 : gIs tE tO tB d with
      | none => trivial
      | some r =>
        obtain ⟨t, b, k1, k2, rfl⟩ := kitV_of T s1.sub (view_ok s1 z1 e1) e2
        exact out_ok s1 (fun Q hq => ⟨t, b, k1, k2, hq⟩) (show RV X.K X.mg E η1 M1 c1 σ H1 (.bl b) (.fz (.bl b)) from Rep.bl b)
/-- names of classes, as a tuple's items -/
inductive ClsL (X : Cx) : List Expr → List Value → Prop
  | nil : ClsL X [] []
  | cons {y : Str} {cv : Value} {py : Pos} {es : List Expr} {cs : List Value} (k : ClsN X y cv) (r : ClsL X es cs) (h : starEach (.Name y py :: es) X.env = (false, eval (.Name y py) X.env) :: starEach es X.env) : ClsL X (.Name y py :: es) (cv :: cs)
theorem clsL_pa {es : List Expr} {cs : List Value} (h : ClsL X es cs) : ∃ vs, Paired ClsV vs cs ∧ PA X es (fun σ H Q => Q vs H) := by
  induction h with
  | nil => exact ⟨[], .nil, pa_nil⟩
  | cons k r h ih =>
    obtain ⟨vs, p, pa⟩ := ih
    obtain ⟨v, kv⟩ := k.c
    exact ⟨v :: vs, .cons kv p, pa_cons (pe_cls k kv) pa h⟩
theorem ex_isT {es : List Expr} {cs : List Value} {n : Nat} {pt : Pos} (hi : X.mg "isinstance" = none) (L : ClsL X es cs) (hl : cs.length ≤ 100) (T : KTbl X.K X.mg (fun t => PySem.W.kitAny X.K t cs) tE tO tB) (he : Ex X e me) (hg : Gl X "isinstance" := by rfl)
    (h1 : starEach [e, .Tuple es n pt] X.env = (false, eval e X.env) :: starEach [.Tuple es n pt] X.env := by rfl) (h2 : starEach [.Tuple es n pt] X.env = (false, eval (.Tuple es n pt) X.env) :: starEach [] X.env := by rfl) (hpl : (backTo pos (starEach [.Tuple es n pt] X.env)).any (·.1) = false := by rfl) :
    Ex X (.Call (.Name "isinstance" p) [e, .Tuple es n pt] [] pos) (mUn (gIs tE tO tB) me) := by
  obtain ⟨vs, pv, pa⟩ := clsL_pa L
  have hcall : CallR X (.builtin "isinstance") (fun xs H Q => ∃ x tp t b, xs = [x, .ref tp] ∧ H tp = some (.tup vs) ∧ KitV X H x t ∧ PySem.W.kitAny X.K t cs = some b ∧ Q (.bl b) H) := by
    intro pins s σ H xs us Q I r h
    obtain ⟨x, tp, t, b, rfl, hT, kq, eq, q⟩ := h
    obtain ⟨u1, u2, rfl, r1, r2⟩ := vals2 r
    cases (show u2 = Value.ref tp from r2)
    obtain ⟨P, Zk, pp, hx⟩ := kq pins σ s u1 I r1
    obtain ⟨_, its, rv, o, h1, h2, n, h3⟩ := (show ObjOk X.prog X.w H s.heap tp (.tup vs) from I.hok tp _ hT)
    have e3 := ClsV.all pv rv
    subst e3
    obtain ⟨oc, od, dt, sl⟩ := o
    simp only at h2 h3
    subst h2 h3
    exact PySem.W.kia_tup Zk I.kIn pp h1 eq hx fun tk => ⟨.bl b, H, I.tok tk, rfl, q⟩
  refine ⟨fun E η M c σ H s => ?_⟩
  refine Out.bind (fun x H1 (Q : VK) => ∀ tp, H1 tp = none → ∃ t b, KitV X (upd H1 tp (.tup vs)) x t ∧ PySem.W.kitAny X.K t cs = some b ∧ Q (.bl b) (upd H1 tp (.tup vs))) (he E η M c σ H s) (fun Q hq => ?_) fun ra c1 x η1 M1 H1 s1 x1 z1 => ?_
  · refine pe_we (pe_callB hcall hg hi (by decide +kernel) (pa_cons we_pe (pa_cons (pe_tup pa) pa_nil h2) h1) (by decide) (by decide) h1 hpl) ?_
    intro pins st I
    refine thn (hq pins st I) fun u s1 ⟨v, H1, I1, r1, q⟩ => ⟨v, H1, I1, r1, ?_, fun tp htp => ?_⟩
    · rw [pv.length, sizeLine_eq]; omega
    · obtain ⟨t, b, q1, q2, q3⟩ := q tp htp
      exact ⟨v, tp, t, b, rfl, upd_same, q1, q2, q3⟩
  · unfold m1
    cases e1 : view c1 ra with
    | none => trivial
    | some d =>
      dsimp only
      cases e2 : gIs tE tO tB d with
      | none => trivial
      | some r =>
        have vw := view_ok s1 z1 e1
        have hr : ∃ b, r = .fz (.bl b) := by
          obtain ⟨t, b, _, _, e⟩ := kitV_of T s1.sub vw e2
          exact ⟨b, e⟩
        obtain ⟨b, rfl⟩ := hr
        intro Q hQ tp htp
        have s2 := s1.alloc (o := .tup vs) htp
        have vw2 : VwR X.K X.mg η1 M1 (upd H1 tp (.tup vs)) x d := vw.mono .refl fun o a ha => by rw [upd_ne (ne_of_none ha htp)]; exact ha
        obtain ⟨t, b', k1, k2, e⟩ := kitV_of T s2.sub vw2 e2
        cases e
        exact ⟨t, b, k1, k2, hQ _ η1 M1 _ s2 .refl (Rep.bl b)⟩
end
end LH
/-! LHMisc: constants of the module, names that freeze at once, enumerate, in range(..). -/
namespace LH
open PySem PySem.Spec PyProof.Rows L2
section
variable {X : Cx} {E : En} {η η' : List Addr} {M M' H H' : Hp} {c c' : Cf} {σ σ' : St} {pos pos' : Pos} {e tg a b : Expr} {x : Str} {me : Em} {i : Nat}
/-! ### constants -/
theorem ex_kint {n : Int} (hm : ∃ t, X.mg x = some (.int n t)) (hg : Gl X x := by rfl) (hd : (x == ("__debug__" : Str)) = false := by decide) : Ex X (.Name x pos) (mC (.int n)) := by
  obtain ⟨t, hm⟩ := hm
  exact ⟨fun E η M c σ H s => out_ok s (fun Q hq => pe_we (pe_glob (v := .int n) hg hm ⟨t, rfl⟩ hd) hq) (Rep.int n)⟩
theorem ex_kstr {y : Str} (hm : ∃ t, X.mg x = some (.str y t)) (hg : Gl X x := by rfl) (hd : (x == ("__debug__" : Str)) = false := by decide) : Ex X (.Name x pos) (mC (.str y)) := by
  obtain ⟨t, hm⟩ := hm
  exact ⟨fun E η M c σ H s => out_ok s (fun Q hq => pe_we (pe_glob (v := .str y) hg hm ⟨t, rfl⟩ hd) hq) (Rep.str y)⟩
/-! ### a name that is never changed in place holds what stays -/
def sSetF (i : Nat) (me : Em) : Sm := fun c => (me c).bind fun r c1 => match toVal c1 r with
  | some (d, c2) => if i < c2.ρ.length then .ok .nx { c2 with ρ := c2.ρ.set i (.fz d) } else .stuck
  | none => .stuck
theorem out_putF {m : Res Rv} {tw : VK → Prop} {tw' : Ends → Prop} (h : Out X (RV X.K X.mg) tw E η M σ m) (imp : ∀ Z : Ends, tw (fun v H1 => Z.nx (σ.set i (some v)) H1) → tw' Z) :
    OutS X tw' E η M (m.bind fun r c1 => match toVal c1 r with | some (d, c2) => if i < c2.ρ.length then .ok .nx { c2 with ρ := c2.ρ.set i (.fz d) } else .stuck | none => .stuck) := by
  refine OutS.bind (fun v H1 Z => Z.nx (σ.set i (some v)) H1) h imp fun r c1 v η1 M1 H1 s1 x1 z1 Z g => ?_
  cases e1 : toVal c1 r with
  | none => rw [e1] at g; exact g.elim
  | some q =>
    obtain ⟨d, c2⟩ := q
    rw [e1] at g
    dsimp only at g
    by_cases hi : i < c2.ρ.length
    · rw [if_pos hi] at g
      obtain ⟨M2, s2, x2, r2⟩ := toVal_ok s1 z1 e1
      exact g _ η1 M2 H1 (s2.setFz hi r2) x2
    · rw [if_neg hi] at g; exact g.elim
theorem sx_setF (i : Nat) (hN : X.N.Nodup) (he : Ex X e me) (hi : X.N[i]? = some x := by rfl) (hx : Loc X.env.scope x := by first | exact Or.inl rfl | exact Or.inr rfl) (hs : swapsWith e (some (.Name x pos')) pos.line X.env = pure false := by rfl) (hf : X.fn x = true ∨ X.env.scope.names.lookup x = some .local := by first | exact .inl rfl | exact .inr rfl | assumption) :
    Sx X (.Assign [.Name x pos'] e pos) (sSetF i me) := ⟨fun E η M c σ H s => out_putF (he E η M c σ H s) fun Z hq => ps_ws (ps_set hN hi hx we_pe hs hf) hq⟩
/-- y = [..] on one line, y a local that is never changed in place -/
theorem sx_setCompF {it elt : Expr} {ifs : List Expr} {scope : Scope} (i : Nat) (own : List (Str × Nat)) {y : Str} {py spos : Pos} {mi : Cf → Res (List D)} {g : D → Cf → Option Cf} {js : List Nat} {t : Cf → Res Bool} (hc : X.calm = true) (hN : X.N.Nodup) (ok : BlkOk X.N X.env.scope scope own)
    (hi : Ix X tg it mi) (hg : ∀ s Hb C cl fp, Tgt (blkC X scope s Hb C cl fp) tg g js) (ht : ∀ s Hb C cl fp, Txs (blkC X scope s Hb C cl fp) ifs t) (he : ∀ s Hb C cl fp, Ex (blkC X scope s Hb C cl fp) elt me)
    (hsw : swapsWith (.ListComp elt [⟨tg, it, ifs, 0⟩] scope pos) (some (.Name y py)) spos.line X.env = pure true)
    (hy : X.N[i]? = some y := by rfl) (hyl : X.env.scope.names.lookup y = some .local := by rfl) (hj : ∀ j ∈ js, j ∈ own.map (·.2) := by decide) (hs : ∀ x, foldedSetIterable it X.env x = pure x := by intro _; rfl) :
    Sx X (.Assign [.Name y py] (.ListComp elt [⟨tg, it, ifs, 0⟩] scope pos) spos) (sSetF i (mComp (own.map (·.2)) mi g t me)) := by
  refine ⟨fun E η M c σ H s => ?_⟩
  have key : Out X (RV X.K X.mg) (CompR X tg it ifs elt scope own σ H) E η M σ (mComp (own.map (·.2)) mi g t me c) := comp_core hi hg hj ht he s fun Q hq => hq
  refine out_putF key fun Z hq => ?_
  have hq : tAsg (tLc (Wi X tg it) (Wgb X scope tg) (Wtb X scope ifs) (Web X scope elt) (own.map (·.2))) (gName i) Z σ H := hq
  exact ps_ws (ps_setLc hc hN hy hyl hsw wi_pi ok (fun s H C cl fp => ⟨fun pins st σ H v u Q I r h => h s _ C cl fp pins st u I r⟩) (fun s H C cl fp => ⟨fun pins st σ H Q I h => h s _ C cl fp pins st I⟩) (fun s H C cl fp => ⟨fun pins st σ H Q I h => h s _ C cl fp pins st I⟩) hs) hq
/-- slots freeze -/
def frzS : List Nat → Cf → Cf
  | [], c => c
  | i :: is, c => frzS is (match c.ρ[i]? with
    | some (.ow d) => { c with ρ := c.ρ.set i (.fz d) }
    | _ => c)
def sFrz (is : List Nat) (m : Sm) : Sm := fun c => match m c with
  | .ok .nx c1 => .ok .nx (frzS is c1)
  | r => r
theorem frzS_ok {K : Fg} {mg : Mg} : ∀ (is : List Nat) {c : Cf} {M : Hp}, SR K mg E η M c σ H → ∃ M', SR K mg E η M' (frzS is c) σ H ∧ Ext η M η M'
  | [], c, M, s => ⟨M, s, .refl⟩
  | i :: is, c, M, s => by
    unfold frzS
    cases q : c.ρ[i]? with
    | none => exact frzS_ok is s
    | some sl =>
      cases sl with
      | ow d =>
        obtain ⟨a, M1, e1, x1, s1, r1⟩ := s.freezeSlot q
        obtain ⟨M2, s2, x2⟩ := frzS_ok is s1
        exact ⟨M2, s2, x1.trans x2⟩
      | _ => exact frzS_ok is s
theorem sx_frz {st : Stmt} {m : Sm} (is : List Nat) (h : Sx X st m) : Sx X st (sFrz is m) := by
  refine ⟨fun E η M c σ H s Z g => ?_⟩
  refine h E η M c σ H s Z ?_
  unfold sFrz at g
  cases e1 : m c with
  | stuck => rw [e1] at g; exact g
  | err x c1 => rw [e1] at g; exact g
  | ok fl c1 =>
    rw [e1] at g
    cases fl with
    | nx =>
      refine fun σ1 η1 M1 H1 s1 x1 => ?_
      obtain ⟨M2, s2, x2⟩ := frzS_ok is s1
      exact g σ1 η1 M2 H1 s2 (x1.trans x2)
    | bk => exact g
    | ct => exact g
    | rt r => exact g
/-! ### enumerate(xs), a list -/
def enumD (k : Nat) : List D → List D
  | [] => []
  | d :: ds => .tup [.int (k : Nat), d] :: enumD (k + 1) ds
theorem enumD_get : ∀ {ds : List D} {k i : Nat} {t : D}, (enumD k ds)[i]? = some t → ∃ d, ds[i]? = some d ∧ t = .tup [.int ((k + i : Nat) : Int), d]
  | [], _, _, _, h => by simp [enumD] at h
  | d :: ds, k, 0, t, h => by simp [enumD] at h; exact ⟨d, rfl, by rw [← h]; rfl⟩
  | d :: ds, k, i + 1, t, h => by
    have h : (enumD (k + 1) ds)[i]? = some t := by simpa [enumD] using h
    obtain ⟨d', h1, h2⟩ := enumD_get h
    exact ⟨d', by simpa using h1, by rw [h2]; congr 3; omega⟩
theorem enumD_len : ∀ (ds : List D) (k : Nat), (enumD k ds).length = ds.length
  | [], _ => rfl
  | _ :: ds, k => congrArg Nat.succ (enumD_len ds (k + 1))
theorem jok_enum {K : Fg} {mg : Mg} {a : Addr} {xs : List V} {ds : List D} (h : M a = some (.lst xs)) (r : RepL K mg η M xs ds) : JOk K mg η M (Ite K a) (enumD 0 ds) := by
  intro i H hs
  have h' : SqL K H a xs := .of (hs _ _ h)
  refine ⟨fun t e => ?_, fun hl => ⟨xs, h', by rw [r.length, ← enumD_len ds 0]; exact hl⟩⟩
  obtain ⟨d, e1, rfl⟩ := enumD_get e
  obtain ⟨v, e2, r1⟩ := r.getD' e1
  refine ⟨⟨xs, v, h', e2⟩, fun y H' ⟨T, z, q1, q2, q3, q4⟩ => .inr ⟨T, [.int (i : Nat), v], [.int (i : Nat), d], q2, q1, ?_, .cons (.int _) (.cons r1 .nil), by rw [Nat.zero_add]⟩⟩
  have := q4 xs h'
  rw [e2] at this; cases this
  exact q3
def mEnum (ms : Cf → Res (List Rv)) : Cf → Res (List D) := fun c => (ms c).bind fun rs c1 => match vals c1 rs with
  | some ([.lst ds], c2) => .ok (enumD 0 ds) c2
  | _ => .stuck
theorem ix_enum {es : List Expr} {elts : List Expr} {kk : Nat} {p tpos : Pos} {ms : Cf → Res (List Rv)} (hm : X.mg "enumerate" = none) (ha : Ax X [e] ms) (hg : Gl X "enumerate" := by rfl) (hs : starEach [e] X.env = [(false, eval e X.env)] := by rfl) :
    Ix X (.Tuple elts kk tpos) (.Call (.Name "enumerate" p) [e] [] pos) (mEnum ms) := by
  refine ⟨fun E η M c σ H s => ?_⟩
  refine Out.bind (R := RVs X.K X.mg) (fun vs H1 (R : It → Hp → Prop) => ∃ a xs, vs = [V.ref a] ∧ SqL X.K H1 a xs ∧ R (Ite X.K a) H1) (ha E η M c σ H s) (fun Q hq => pi_wi (pi_enum hg hm wa_pa hs) hq) fun rs c1 vs η1 M1 H1 s1 x1 z1 => ?_
  cases e1 : vals c1 rs with
  | none => trivial
  | some q =>
    obtain ⟨ds, c2⟩ := q
    obtain ⟨M2, s2, x2, r2⟩ := vals_ok s1 z1.1 z1.2 e1
    match ds, r2 with
    | [.lst ds], .cons (.lst hq hr) .nil => exact out_ext x2 (out_ok (v := Ite X.K _) s2 (fun Q hQ => ⟨_, _, rfl, .of (s2.sub _ _ hq), hQ⟩) (jok_enum hq hr))
    | [], _ => trivial
    | .lst _ :: _ :: _, _ => trivial
    | .non :: _, _ => trivial
    | .bl _ :: _, _ => trivial
    | .int _ :: _, _ => trivial
    | .str _ :: _, _ => trivial
    | .tup _ :: _, _ => trivial
    | .ro _ :: _, _ => trivial
    | .dct _ :: _, _ => trivial
    | .dcT _ :: _, _ => trivial
    | .obj _ _ :: _, _ => trivial
    | .hdl _ :: _, _ => trivial
    | .exc _ _ :: _, _ => trivial
/-! ### n in range(a, b) -/
theorem op_notin_rng : OpR X (compareOp .NotIn) (fun x y H Q => ∃ i a lo hi, x = V.int i ∧ y = V.ref a ∧ H a = some (.rng lo hi) ∧ Q (.bl (!decide (lo ≤ i ∧ i < hi))) H) := by
  intro pins s σ H x y v u Q I rx ry h
  obtain ⟨i, a, lo, hi, rfl, rfl, ha, q⟩ := h
  obtain ⟨k, rfl⟩ := rx
  obtain rfl : u = Value.ref a := ry
  obtain ⟨t1, t2, t3, ho⟩ := I.hok a _ ha
  show wpAny _ _ (do return Value.bool (!(← contains (Value.ref a) (Value.int i k)))) _ _ s
  refine wpAny_bind (wpAny_contains_slot (T := "range") ⟨_, ho, rfl⟩ F.slot_range_contains (call_meets F.slot_range_contains ⟨_, ho, rfl⟩ F.entry_range_contains (F.args_range_contains_2 _ _) (q_contains a lo hi i t1 t2 t3 k)
    ⟨ho, wpAny_truthy_bool (wpAny_pure ⟨.bl _, H, I, rfl, ?_⟩)⟩))
  rw [place1]
  exact q
def two : List D → Option (Int × Int)
  | [.int lo, .int hi] => some (lo, hi)
  | _ => none
theorem two_ok {ds : List D} {p : Int × Int} (h : two ds = some p) : ds = [.int p.1, .int p.2] := by
  unfold two at h
  split at h
  · cases h; rfl
  · cases h
def mInR (neg : Bool) (me : Em) (ms : Cf → Res (List Rv)) : Em := fun c => (me c).st.bind fun r c1 => (ms c1).bind fun rs c2 => match view c2 r with
  | some (.int i) => (match (views c2 rs).bind two with
    | some p => .ok (.fz (.bl (decide (p.1 ≤ i ∧ i < p.2) != neg))) c2
    | none => .stuck)
  | _ => .stuck
theorem out_inR {tw : VK → Prop} {neg : Bool} {ms : Cf → Res (List Rv)} (he : Ex X e me) (ha : Ax X [a, b] ms) (s : SR X.K X.mg E η M c σ H)
    (imp : ∀ Q : VK, We X e σ H (fun x H1 => Wa X [a, b] σ H1 fun vs H2 => ∃ i lo hi, x = V.int i ∧ vs = [V.int lo, V.int hi] ∧ ∀ p, H2 p = none → Q (.bl (decide (lo ≤ i ∧ i < hi) != neg)) (upd H2 p (.rng lo hi))) → tw Q) :
    Out X (RV X.K X.mg) tw E η M σ (mInR neg me ms c) := by
  refine Out.bind (R := RVst X.K X.mg) (fun x H1 Q => Wa X [a, b] σ H1 fun vs H2 => ∃ i lo hi, x = V.int i ∧ vs = [V.int lo, V.int hi] ∧ ∀ p, H2 p = none → Q (.bl (decide (lo ≤ i ∧ i < hi) != neg)) (upd H2 p (.rng lo hi))) (out_st (he E η M c σ H s)) imp fun r c1 x η1 M1 H1 s1 x1 z1 => ?_
  refine Out.bind (R := RVs X.K X.mg) (fun vs H2 Q => ∃ i lo hi, x = V.int i ∧ vs = [V.int lo, V.int hi] ∧ ∀ p, H2 p = none → Q (.bl (decide (lo ≤ i ∧ i < hi) != neg)) (upd H2 p (.rng lo hi))) (ha E η1 M1 c1 σ H1 s1) (fun Q hq => hq) fun rs c2 vs η2 M2 H2 s2 x2 z2 => ?_
  cases e1 : view c2 r with
  | none => trivial
  | some d =>
    cases d with
    | int i =>
      cases e2 : (views c2 rs).bind two with
      | none => trivial
      | some p =>
        obtain ⟨ds, e3, e4⟩ := Option.bind_eq_some_iff.mp e2
        have v1 := (view_ok s2 (z1.2.keep x2 z1.1) e1).int
        have v2 := views_ok s2 z2.2 e3
        rw [two_ok e4] at v2
        cases v2 with
        | cons q1 r2 =>
          cases r2 with
          | cons q2 r3 =>
            cases r3
            exact fun Q hQ => ⟨i, p.1, p.2, v1, by rw [q1.int, q2.int], fun a ha => hQ _ η2 M2 _ (s2.alloc ha) .refl (Rep.bl _)⟩
    | _ => trivial
theorem in_tOp {op : CmpOp} {p cpos : Pos} {neg : Bool} (hm : X.mg "range" = none) (hg : Gl X "range") (hs : starEach [a, b] X.env = (false, eval a X.env) :: starEach [b] X.env) (hpl : (backTo cpos (starEach [b] X.env)).any (·.1) = false) {Q : VK}
    (hq : We X e σ H (fun x H1 => Wa X [a, b] σ H1 fun vs H2 => ∃ i lo hi, x = V.int i ∧ vs = [V.int lo, V.int hi] ∧ ∀ p, H2 p = none → Q (.bl (decide (lo ≤ i ∧ i < hi) != neg)) (upd H2 p (.rng lo hi)))) :
    tOp (fun x y H Q => ∃ i a lo hi, x = V.int i ∧ y = V.ref a ∧ H a = some (.rng lo hi) ∧ Q (.bl (decide (lo ≤ i ∧ i < hi) != neg)) H) (We X e) (fun σ H Q => Wa X [a, b] σ H fun vs H1 => ∃ i j, vs = [V.int i, V.int j] ∧ ∀ p, H1 p = none → Q (.ref p) (upd H1 p (.rng i j))) σ H Q := by
  intro pins st I
  refine thn (hq pins st I) fun u s1 ⟨v, H1, I1, r1, q⟩ => ⟨v, H1, I1, r1, fun pos pins2 s2 I2 => ?_⟩
  refine thn (q pos pins2 s2 I2) fun us s3 ⟨vs, H2, I3, r3, i, lo, hi, ex, ev, q2⟩ => ⟨vs, H2, I3, r3, lo, hi, ev, fun p hp => ⟨i, p, lo, hi, ex, rfl, upd_same, q2 p hp⟩⟩
theorem ex_inR {op : CmpOp} {p cpos : Pos} {neg : Bool} {ms : Cf → Res (List Rv)} (hop : OpR X (compareOp op) (fun x y H Q => ∃ i a lo hi, x = V.int i ∧ y = V.ref a ∧ H a = some (.rng lo hi) ∧ Q (.bl (decide (lo ≤ i ∧ i < hi) != neg)) H))
    (hm : X.mg "range" = none) (he : Ex X e me) (ha : Ax X [a, b] ms) (hg : Gl X "range" := by rfl) (h1 : behindInMarks op (.Call (.Name "range" p) [a, b] [] cpos) = false := by rfl)
    (hs : starEach [a, b] X.env = (false, eval a X.env) :: starEach [b] X.env := by rfl) (hpl : (backTo cpos (starEach [b] X.env)).any (·.1) = false := by rfl) : Ex X (.Compare e [op] [.Call (.Name "range" p) [a, b] [] cpos] pos) (mInR neg me ms) := ⟨fun E η M c σ H s =>
  out_inR he ha s fun Q hq => pe_we (pe_cmpR hop we_pe (pe_callTy cr_range2 hg hm PyProof.Rows.boot_range wa_pa (by decide) (by decide) hs hpl) h1) (in_tOp (op := op) (p := p) hm hg hs hpl hq)⟩
theorem tx_inR {op : CmpOp} {p cpos : Pos} {neg : Bool} {ms : Cf → Res (List Rv)} (hop : OpR X (compareOp op) (fun x y H Q => ∃ i a lo hi, x = V.int i ∧ y = V.ref a ∧ H a = some (.rng lo hi) ∧ Q (.bl (decide (lo ≤ i ∧ i < hi) != neg)) H))
    (hm : X.mg "range" = none) (he : Ex X e me) (ha : Ax X [a, b] ms) (hg : Gl X "range" := by rfl) (h1 : behindInMarks op (.Call (.Name "range" p) [a, b] [] cpos) = false := by rfl)
    (hs : starEach [a, b] X.env = (false, eval a X.env) :: starEach [b] X.env := by rfl) (hpl : (backTo cpos (starEach [b] X.env)).any (·.1) = false := by rfl) : Tx X (.Compare e [op] [.Call (.Name "range" p) [a, b] [] cpos] pos) (mBool (mInR neg me ms)) := ⟨fun E η M c σ H s =>
  out_bool (out_inR (tw := fun Q => tOp _ _ _ σ H Q) he ha s fun Q hq => in_tOp (op := op) (p := p) hm hg hs hpl hq) fun Q hq => pt_wt (pt_cmpR hop we_pe (pe_callTy cr_range2 hg hm PyProof.Rows.boot_range wa_pa (by decide) (by decide) hs hpl) h1) hq⟩
end
/-! ### classes in except clauses -/
structure XT (K : Fg) (mg : Mg) (x : Str) (yes no : List Str) : Prop where
  ex : ∃ C, mg x = some (.ref C) ∧ (∀ c ∈ yes, ∃ C', mg c = some (.ref C') ∧ PySem.W.exmOne K (.ref C') (.ref C) = some true) ∧ ∀ c ∈ no, ∃ C', mg c = some (.ref C') ∧ PySem.W.exmOne K (.ref C') (.ref C) = some false
theorem XT.test {X : Cx} {x : Str} {yes no : List Str} (h : XT X.K X.mg x yes no) (hg : Gl X x := by rfl) (hd : (x == ("__debug__" : Str)) = false := by decide) : XTest X x yes no := by
  obtain ⟨C, h1, h2, h3⟩ := h
  exact ⟨.ref C, ⟨hg, hd, .inl h1⟩, h2, h3⟩
/-- classes that isinstance asks for -/
structure KT (K : Fg) (mg : Mg) (ys : List Str) (one : Bool) (tE tO : List (Str × Bool)) (tB : List (String × Bool)) : Prop where
  ex : ∃ cs : List Value, Paired (fun y cv => (∃ v, ClsV v cv) ∧ (mg y = some cv ∨ (mg y = none ∧ bootBuiltins y = some cv ∧ y ≠ "__name__"))) ys cs ∧ (one = true → ∃ cv, cs = [cv]) ∧
    KTbl K mg (fun t => if one = true then (match cs with | [cv] => PySem.W.kitOne K t cv | _ => none) else PySem.W.kitAny K t cs) tE tO tB
/-! ### the mirrors, purely -/
section
variable {c : Cf} {m me : Em} {ms : Cf → Res (List Rv)}
theorem wE_sSetF {i : Nat} {Q : Fl → Cf → Prop} : wE (sSetF i m c) Q = wE (m c) fun r c1 => oE (toVal c1 r) fun p => i < p.2.ρ.length ∧ Q .nx { p.2 with ρ := p.2.ρ.set i (.fz p.1) } := by
  unfold sSetF
  rw [wE_bind]
  congr 1
  funext r c1
  cases toVal c1 r with
  | none => rfl
  | some p =>
    obtain ⟨d, c2⟩ := p
    show wE (if i < c2.ρ.length then _ else _) Q = (i < c2.ρ.length ∧ _)
    by_cases h : i < c2.ρ.length
    · rw [if_pos h]; simp [h]
    · rw [if_neg h]; simp [h]
theorem wE_sFrz {is : List Nat} {m : Sm} {Q : Fl → Cf → Prop} : wE (sFrz is m c) Q = wE (m c) fun fl c1 => match fl with | .nx => Q .nx (frzS is c1) | fl => Q fl c1 := by
  unfold sFrz
  cases m c with
  | ok fl c1 => cases fl <;> rfl
  | _ => rfl
theorem wE_mEnum {Q : List D → Cf → Prop} : wE (mEnum ms c) Q = wE (ms c) fun rs c1 => oE (vals c1 rs) fun p => match p.1 with | [.lst ds] => Q (enumD 0 ds) p.2 | _ => False := by
  unfold mEnum
  rw [wE_bind]
  congr 1
  funext rs c1
  cases vals c1 rs with
  | none => rfl
  | some p =>
    obtain ⟨ds, c2⟩ := p
    cases ds with
    | nil => rfl
    | cons d ds => cases ds with
      | nil => cases d <;> rfl
      | cons d2 ds => cases d <;> rfl
theorem wE_mInR {neg : Bool} {Q : Rv → Cf → Prop} : wE (mInR neg me ms c) Q = wE (me c) fun r c1 => wE (ms c1) fun rs c2 => oE (view c2 (settle r)) fun d => match d with | .int i => oE ((views c2 rs).bind two) fun p => Q (.fz (.bl (decide (p.1 ≤ i ∧ i < p.2) != neg))) c2 | _ => False := by
  unfold mInR
  rw [wE_bind, wE_st]
  congr 1
  funext r c1
  rw [wE_bind]
  congr 1
  funext rs c2
  cases view c2 (settle r) with
  | none => rfl
  | some d =>
    cases d with
    | int i =>
      simp only [oE_some]
      cases (views c2 rs).bind two <;> rfl
    | _ => rfl
end
/-- r ends in an exception, with Q -/
def wX {α : Type} (r : Res α) (Q : Xc → Cf → Prop) : Prop := match r with
  | .err x c => Q x c
  | _ => False
end LH
/-! LHCls: facts of classes, put together. -/
namespace LH
open PySem PySem.Spec PyProof.Rows L2
/-! ### except clauses -/
def XL (K : Fg) (mg : Mg) (C : Addr) (l : List Str) (b : Bool) : Prop := ∀ c ∈ l, ∃ C', mg c = some (.ref C') ∧ PySem.W.exmOne K (.ref C') (.ref C) = some b
theorem xl_nil {K : Fg} {mg : Mg} {C : Addr} {b : Bool} : XL K mg C [] b := fun c h => by simp at h
theorem xl_cons {K : Fg} {mg : Mg} {C C' : Addr} {b : Bool} {c : Str} {l : List Str} (h : mg c = some (.ref C')) (q : PySem.W.exmOne K (.ref C') (.ref C) = some b) (t : XL K mg C l b) : XL K mg C (c :: l) b := fun x hx => by
  rcases List.mem_cons.mp hx with rfl | hx
  · exact ⟨C', h, q⟩
  · exact t x hx
theorem xt_mk {K : Fg} {mg : Mg} {x : Str} {C : Addr} {yes no : List Str} (h : mg x = some (.ref C)) (h1 : XL K mg C yes true) (h2 : XL K mg C no false) : XT K mg x yes no := ⟨C, h, h1, h2⟩
/-! ### isinstance -/
def TE (K : Fg) (mg : Mg) (kq : Value → Option Bool) (l : List (Str × Bool)) : Prop := ∀ c b, l.lookup c = some b → ∃ C, mg c = some (.ref C) ∧ KitE K C ∧ kq (.ref C) = some b
def TO (K : Fg) (mg : Mg) (kq : Value → Option Bool) (l : List (Str × Bool)) : Prop := ∀ c b, l.lookup c = some b → ∃ C, mg c = some (.ref C) ∧ KitI K C ∧ kq (.ref C) = some b
def TB (kq : Value → Option Bool) (l : List (String × Bool)) : Prop := ∀ a b, l.lookup a = some b → kq (.type a) = some b
section
variable {K : Fg} {mg : Mg} {kq : Value → Option Bool}
theorem te_nil : TE K mg kq [] := fun c b h => by simp at h
theorem te_cons {C : Addr} {c : Str} {b : Bool} {l : List (Str × Bool)} (h : mg c = some (.ref C)) (k : KitE K C) (q : kq (.ref C) = some b) (t : TE K mg kq l) : TE K mg kq ((c, b) :: l) := fun x y hx => by
  rw [List.lookup_cons] at hx
  cases e : x == c with
  | true =>
    rw [e] at hx
    simp only at hx
    cases hx
    rw [beq_iff_eq.mp e]
    exact ⟨C, h, k, q⟩
  | false => rw [e] at hx; exact t x y hx
theorem to_nil : TO K mg kq [] := fun c b h => by simp at h
theorem to_cons {C : Addr} {c : Str} {b : Bool} {l : List (Str × Bool)} (h : mg c = some (.ref C)) (k : KitI K C) (q : kq (.ref C) = some b) (t : TO K mg kq l) : TO K mg kq ((c, b) :: l) := fun x y hx => by
  rw [List.lookup_cons] at hx
  cases e : x == c with
  | true =>
    rw [e] at hx
    simp only at hx
    cases hx
    rw [beq_iff_eq.mp e]
    exact ⟨C, h, k, q⟩
  | false => rw [e] at hx; exact t x y hx
theorem tb_nil : TB kq [] := fun c b h => by simp at h
theorem tb_cons {c : String} {b : Bool} {l : List (String × Bool)} (q : kq (.type c) = some b) (t : TB kq l) : TB kq ((c, b) :: l) := fun x y hx => by
  rw [List.lookup_cons] at hx
  cases e : x == c with
  | true =>
    rw [e] at hx
    simp only at hx
    cases hx
    rw [beq_iff_eq.mp e]
    exact q
  | false => rw [e] at hx; exact t x y hx
end
/-- how a class stands at a name -/
def ClsQ (mg : Mg) (y : Str) (cv : Value) : Prop := (∃ v, ClsV v cv) ∧ (mg y = some cv ∨ (mg y = none ∧ bootBuiltins y = some cv ∧ y ≠ "__name__"))
theorem clsQ_own {mg : Mg} {y : Str} {C : Addr} (h : mg y = some (.ref C)) : ClsQ mg y (.ref C) := ⟨⟨.ref C, .own C⟩, .inl h⟩
theorem clsQ_ty {mg : Mg} {y : Str} {T : String} (h : mg y = none) (hb : bootBuiltins y = some (.type T)) (hn : y ≠ "__name__" := by decide) : ClsQ mg y (.type T) := ⟨⟨.ty T, .ty T⟩, .inr ⟨h, hb, hn⟩⟩
structure KT1 (K : Fg) (mg : Mg) (y : Str) (tE tO : List (Str × Bool)) (tB : List (String × Bool)) : Prop where
  ex : ∃ cv, ClsQ mg y cv ∧ KTbl K mg (fun t => PySem.W.kitOne K t cv) tE tO tB
theorem kt1_mk {K : Fg} {mg : Mg} {y : Str} {cv : Value} {tE tO : List (Str × Bool)} {tB : List (String × Bool)} (h : ClsQ mg y cv) (e : TE K mg (fun t => PySem.W.kitOne K t cv) tE) (o : TO K mg (fun t => PySem.W.kitOne K t cv) tO) (b : TB (fun t => PySem.W.kitOne K t cv) tB) : KT1 K mg y tE tO tB := ⟨cv, h, e, o, b⟩
structure KTn (K : Fg) (mg : Mg) (ys : List Str) (tE tO : List (Str × Bool)) (tB : List (String × Bool)) : Prop where
  ex : ∃ cs, Paired (ClsQ mg) ys cs ∧ KTbl K mg (fun t => PySem.W.kitAny K t cs) tE tO tB
theorem ktn_mk {K : Fg} {mg : Mg} {ys : List Str} {cs : List Value} {tE tO : List (Str × Bool)} {tB : List (String × Bool)} (h : Paired (ClsQ mg) ys cs) (e : TE K mg (fun t => PySem.W.kitAny K t cs) tE) (o : TO K mg (fun t => PySem.W.kitAny K t cs) tO) (b : TB (fun t => PySem.W.kitAny K t cs) tB) : KTn K mg ys tE tO tB := ⟨cs, h, e, o, b⟩
/-- the names in a tuple -/
inductive NamesL (X : Cx) : List Expr → List Str → Prop
  | nil : NamesL X [] []
  | cons {y : Str} {py : Pos} {es : List Expr} {ys : List Str} (g : Gl X y) (d : (y == ("__debug__" : Str)) = false) (h : starEach (.Name y py :: es) X.env = (false, eval (.Name y py) X.env) :: starEach es X.env) (r : NamesL X es ys) : NamesL X (.Name y py :: es) (y :: ys)
theorem clsL_of {X : Cx} {es : List Expr} {ys : List Str} (h : NamesL X es ys) : ∀ {cs : List Value}, Paired (ClsQ X.mg) ys cs → ClsL X es cs := by
  induction h with
  | nil => intro cs p; cases p; exact .nil
  | cons g d h r ih =>
    intro cs p
    cases p with
    | cons q p => exact .cons ⟨g, d, q.2, q.1⟩ (ih p) h
section
variable {X : Cx} {e : Expr} {me : Em} {p pos : Pos} {tE tO : List (Str × Bool)} {tB : List (String × Bool)}
theorem ex_isK {y : Str} {py : Pos} (hi : X.mg "isinstance" = none) (k : KT1 X.K X.mg y tE tO tB) (he : Ex X e me) (gy : Gl X y := by rfl) (dy : (y == ("__debug__" : Str)) = false := by decide) (hg : Gl X "isinstance" := by rfl)
    (h1 : starEach [e, .Name y py] X.env = (false, eval e X.env) :: starEach [.Name y py] X.env := by rfl) (h2 : starEach [.Name y py] X.env = (false, eval (.Name y py) X.env) :: starEach [] X.env := by rfl) (hpl : (backTo pos (starEach [.Name y py] X.env)).any (·.1) = false := by rfl) :
    Ex X (.Call (.Name "isinstance" p) [e, .Name y py] [] pos) (mUn (gIs tE tO tB) me) := by
  obtain ⟨cv, q, T⟩ := k
  exact ex_is1 hi ⟨gy, dy, q.2, q.1⟩ T he hg h1 h2 hpl
theorem ex_isN' {es : List Expr} {ys : List Str} {n : Nat} {pt : Pos} (hi : X.mg "isinstance" = none) (L : NamesL X es ys) (hl : ys.length ≤ 100) (k : KTn X.K X.mg ys tE tO tB) (he : Ex X e me) (hg : Gl X "isinstance" := by rfl)
    (h1 : starEach [e, .Tuple es n pt] X.env = (false, eval e X.env) :: starEach [.Tuple es n pt] X.env := by rfl) (h2 : starEach [.Tuple es n pt] X.env = (false, eval (.Tuple es n pt) X.env) :: starEach [] X.env := by rfl) (hpl : (backTo pos (starEach [.Tuple es n pt] X.env)).any (·.1) = false := by rfl) :
    Ex X (.Call (.Name "isinstance" p) [e, .Tuple es n pt] [] pos) (mUn (gIs tE tO tB) me) := by
  obtain ⟨cs, q, T⟩ := k
  exact ex_isT hi (clsL_of L q) (by rw [← Paired.length q]; exact hl) T he hg h1 h2 hpl
end
/-! an argument that is no star -/
theorem st_Name {id p} {r : List Expr} {env : Env} : starEach (.Name id p :: r) env = (false, eval (.Name id p) env) :: starEach r env := rfl
theorem st_Call {f a k p} {r : List Expr} {env : Env} : starEach (.Call f a k p :: r) env = (false, eval (.Call f a k p) env) :: starEach r env := rfl
theorem st_BinOp {a o b p} {r : List Expr} {env : Env} : starEach (.BinOp a o b p :: r) env = (false, eval (.BinOp a o b p) env) :: starEach r env := rfl
theorem st_Constant {c n p} {r : List Expr} {env : Env} : starEach (.Constant c n p :: r) env = (false, eval (.Constant c n p) env) :: starEach r env := rfl
theorem st_Tuple {es n p} {r : List Expr} {env : Env} : starEach (.Tuple es n p :: r) env = (false, eval (.Tuple es n p) env) :: starEach r env := rfl
theorem st_List {es p} {r : List Expr} {env : Env} : starEach (.List es p :: r) env = (false, eval (.List es p) env) :: starEach r env := rfl
theorem st_Subscript {a b p} {r : List Expr} {env : Env} : starEach (.Subscript a b p :: r) env = (false, eval (.Subscript a b p) env) :: starEach r env := rfl
theorem st_Attribute {a n p} {r : List Expr} {env : Env} : starEach (.Attribute a n p :: r) env = (false, eval (.Attribute a n p) env) :: starEach r env := rfl
theorem st_Compare {a o b p} {r : List Expr} {env : Env} : starEach (.Compare a o b p :: r) env = (false, eval (.Compare a o b p) env) :: starEach r env := rfl
theorem st_ListComp {a g s p} {r : List Expr} {env : Env} : starEach (.ListComp a g s p :: r) env = (false, eval (.ListComp a g s p) env) :: starEach r env := rfl
theorem st_IfExp {a b c p} {r : List Expr} {env : Env} : starEach (.IfExp a b c p :: r) env = (false, eval (.IfExp a b c p) env) :: starEach r env := rfl
theorem st_UnaryOp {o a p} {r : List Expr} {env : Env} : starEach (.UnaryOp o a p :: r) env = (false, eval (.UnaryOp o a p) env) :: starEach r env := rfl
theorem st_BoolOp {o a p} {r : List Expr} {env : Env} : starEach (.BoolOp o a p :: r) env = (false, eval (.BoolOp o a p) env) :: starEach r env := rfl
theorem st_Dict {a b p} {r : List Expr} {env : Env} : starEach (.Dict a b p :: r) env = (false, eval (.Dict a b p) env) :: starEach r env := rfl
theorem pl_of {pos : Pos} {l : List (Bool × Sem Value)} (h : l.any (·.1) = false) : (backTo pos l).any (·.1) = false := by
  unfold backTo
  rw [List.any_map]
  exact h
theorem pl_nil {env : Env} : (starEach [] env).any (·.1) = false := rfl
theorem pl_Name {id p} {r : List Expr} {env : Env} (h : (starEach r env).any (·.1) = false) : (starEach (.Name id p :: r) env).any (·.1) = false := by rw [st_Name, List.any_cons, h]; rfl
theorem pl_Call {f a k p} {r : List Expr} {env : Env} (h : (starEach r env).any (·.1) = false) : (starEach (.Call f a k p :: r) env).any (·.1) = false := by rw [st_Call, List.any_cons, h]; rfl
theorem pl_BinOp {a o b p} {r : List Expr} {env : Env} (h : (starEach r env).any (·.1) = false) : (starEach (.BinOp a o b p :: r) env).any (·.1) = false := by rw [st_BinOp, List.any_cons, h]; rfl
theorem pl_Constant {c n p} {r : List Expr} {env : Env} (h : (starEach r env).any (·.1) = false) : (starEach (.Constant c n p :: r) env).any (·.1) = false := by rw [st_Constant, List.any_cons, h]; rfl
theorem pl_Tuple {es n p} {r : List Expr} {env : Env} (h : (starEach r env).any (·.1) = false) : (starEach (.Tuple es n p :: r) env).any (·.1) = false := by rw [st_Tuple, List.any_cons, h]; rfl
theorem pl_List {es p} {r : List Expr} {env : Env} (h : (starEach r env).any (·.1) = false) : (starEach (.List es p :: r) env).any (·.1) = false := by rw [st_List, List.any_cons, h]; rfl
theorem pl_Subscript {a b p} {r : List Expr} {env : Env} (h : (starEach r env).any (·.1) = false) : (starEach (.Subscript a b p :: r) env).any (·.1) = false := by rw [st_Subscript, List.any_cons, h]; rfl
theorem pl_Attribute {a n p} {r : List Expr} {env : Env} (h : (starEach r env).any (·.1) = false) : (starEach (.Attribute a n p :: r) env).any (·.1) = false := by rw [st_Attribute, List.any_cons, h]; rfl
theorem pl_Compare {a o b p} {r : List Expr} {env : Env} (h : (starEach r env).any (·.1) = false) : (starEach (.Compare a o b p :: r) env).any (·.1) = false := by rw [st_Compare, List.any_cons, h]; rfl
theorem pl_ListComp {a g s p} {r : List Expr} {env : Env} (h : (starEach r env).any (·.1) = false) : (starEach (.ListComp a g s p :: r) env).any (·.1) = false := by rw [st_ListComp, List.any_cons, h]; rfl
theorem pl_IfExp {a b c p} {r : List Expr} {env : Env} (h : (starEach r env).any (·.1) = false) : (starEach (.IfExp a b c p :: r) env).any (·.1) = false := by rw [st_IfExp, List.any_cons, h]; rfl
theorem pl_UnaryOp {o a p} {r : List Expr} {env : Env} (h : (starEach r env).any (·.1) = false) : (starEach (.UnaryOp o a p :: r) env).any (·.1) = false := by rw [st_UnaryOp, List.any_cons, h]; rfl
theorem pl_BoolOp {o a p} {r : List Expr} {env : Env} (h : (starEach r env).any (·.1) = false) : (starEach (.BoolOp o a p :: r) env).any (·.1) = false := by rw [st_BoolOp, List.any_cons, h]; rfl
theorem pl_Dict {a b p} {r : List Expr} {env : Env} (h : (starEach r env).any (·.1) = false) : (starEach (.Dict a b p :: r) env).any (·.1) = false := by rw [st_Dict, List.any_cons, h]; rfl
end LH
/-! LHLib: plain laws of the mirrors' words. -/
namespace LH
open PySem PySem.Spec PyProof.Rows L2
/-! ### numbers -/
@[simp] theorem gAdd_int {i j : Int} : gAdd (.int i) (.int j) = some (.fz (.int (i + j))) := rfl
@[simp] theorem gSub_int {i j : Int} : gSub (.int i) (.int j) = some (.fz (.int (i - j))) := rfl
@[simp] theorem gCmpI_int {p : Int → Int → Bool} {i j : Int} : gCmpI p (.int i) (.int j) = some (.fz (.bl (p i j))) := rfl
theorem log2_lt {i : Int} {n : Nat} (h : i.natAbs < 2 ^ n) (hn : 0 < n) : i.natAbs.log2 < n := by
  by_cases h0 : i.natAbs = 0
  · rw [h0]; simpa using hn
  · exact (Nat.log2_lt h0).mpr h
theorem gMul_small {i j : Int} (hi : i.natAbs < 2 ^ 100) (hj : j.natAbs < 2 ^ 100) : gMul (.int i) (.int j) = some (.fz (.int (i * j))) := by
  have h1 := log2_lt hi (by decide)
  have h2 := log2_lt hj (by decide)
  exact if_pos (by omega)
theorem gMod_pos {i j : Int} (h : 0 < j) : gMod (.int i) (.int j) = some (.fz (.int (i % j))) := if_pos h
theorem gFdiv_pos {i j : Int} (h : 0 < j) (h2 : j < 2 ^ 100) : gFdiv (.int i) (.int j) = some (.fz (.int (i / j))) := if_pos ⟨h, Nat.lt_of_lt_of_le (log2_lt (n := 100) (by omega) (by decide)) (by decide)⟩
theorem gNeg_int {i : Int} : gNeg (.int i) = some (.fz (.int (-i))) := rfl
theorem big {n : Nat} (h : n ≤ 16777216) : n ≤ sizeLine := by rw [sizeLine_eq]; exact h
theorem big64 {n : Nat} (h : n ≤ 1000) : n ≤ sizeLine := by rw [sizeLine_eq]; omega
/-! ### places -/
theorem atI_in {α : Type} {xs : List α} {i : Int} (h0 : 0 ≤ i) (h1 : i < xs.length) : ∃ x, atI xs i = some x ∧ x ∈ xs := by
  have hl : i.toNat < xs.length := by omega
  refine ⟨xs[i.toNat], ?_, List.getElem_mem hl⟩
  unfold atI ixN
  simp [h0, h1, hl]
theorem atI_natE {α : Type} {xs : List α} {k : Nat} : atI xs (k : Int) = xs[k]? := by
  unfold atI ixN
  by_cases h : k < xs.length
  · simp [h]
  · have : xs[k]? = none := List.getElem?_eq_none (by omega)
    rw [this]
    simp [h]
theorem ix_int {cells : List Int} {i : Int} (h0 : 0 ≤ i) (h1 : i < cells.length) : ∃ z, gIx (.lst (cells.map D.int)) (.int i) = some (.fz (.int z)) ∧ z ∈ cells := by
  obtain ⟨x, h2, h3⟩ := atI_in (xs := cells.map D.int) h0 (by simpa using h1)
  obtain ⟨z, hz, rfl⟩ := List.mem_map.mp h3
  exact ⟨z, by show (atI (cells.map D.int) i).map Rv.fz = _; rw [h2]; rfl, hz⟩
theorem gIx_lst {xs : List D} {i : Int} : gIx (.lst xs) (.int i) = (atI xs i).map .fz := rfl
theorem gIx_tup {xs : List D} {i : Int} : gIx (.tup xs) (.int i) = (atI xs i).map .fz := rfl
theorem gIx_str {x : Str} {i : Int} (h : x.length ≤ sizeLine) : gIx (.str x) (.int i) = (atI x.cps.toList i).map fun c => .fz (.str ⟨#[c]⟩) := if_pos h
/-! ### lists, texts -/
theorem gLen_lst {xs : List D} : g1 gLen [.lst xs] = some (.fz (.int xs.length)) := rfl
theorem gLen_tup {xs : List D} : g1 gLen [.tup xs] = some (.fz (.int xs.length)) := rfl
theorem gLen_ro {xs : List D} : g1 gLen [.ro xs] = some (.fz (.int xs.length)) := rfl
theorem gLen_str {x : Str} (h : x.length ≤ sizeLine) : g1 gLen [.str x] = some (.fz (.int x.length)) := if_pos h
theorem gAdd_lst {a b : List D} (h : a.length + b.length ≤ sizeLine) : gAdd (.lst a) (.lst b) = some (.nw (.lst (a ++ b))) := if_pos h
theorem gAdd_tup {a b : List D} (h : a.length + b.length ≤ sizeLine) : gAdd (.tup a) (.tup b) = some (.fz (.tup (a ++ b))) := if_pos h
theorem gAdd_str {a b : Str} (h : a.length + b.length ≤ sizeLine) : gAdd (.str a) (.str b) = some (.fz (.str (a ++ b))) := if_pos h
theorem gSl_str {a : Str} {lo hi : Option Int} (h : a.length ≤ sizeLine) : gSl (.str a) lo hi = some (.fz (.str (cutS a lo hi))) := if_pos h
theorem gSl_lst {a : List D} {lo hi : Option Int} : gSl (.lst a) lo hi = some (.nw (.lst (cutL a lo hi))) := rfl
theorem gSl_tup {a : List D} {lo hi : Option Int} : gSl (.tup a) lo hi = some (.fz (.tup (cutL a lo hi))) := rfl
theorem gAppend_ok {a : List D} {y : D} (h : a.length < sizeLine) : gAppend (.lst a) [y] = some (.lst (a ++ [y]), .non) := if_pos h
@[simp] theorem tyD_lst {a : List D} : tyD "list" (.lst a) = true := by simp [tyD]
theorem gList_lst {a : List D} : g1 gList [.lst a] = some (.nw (.lst a)) := rfl
theorem gTuple_lst {a : List D} : g1 gTuple [.lst a] = some (.fz (.tup a)) := rfl
theorem gTuple_tup {a : List D} : g1 gTuple [.tup a] = some (.fz (.tup a)) := rfl
@[simp] theorem truthD_bl {b : Bool} : truthD (.bl b) = some b := rfl
theorem str_beq {x y : Str} : (eqD (.str x) (.str y)) = (x == y) := rfl
theorem gEq_str {x y : Str} : gEq (.str x) (.str y) = some (.fz (.bl (x == y))) := by
  unfold gEq
  split <;> rfl
theorem gNe_str {x y : Str} : gNe (.str x) (.str y) = some (.fz (.bl (!(x == y)))) := by
  unfold gNe
  split <;> rfl
theorem gNe_strS {x : Str} : gNe (.str x) (.str x) = some (.fz (.bl false)) := by rw [gNe_str]; simp
theorem okq_int {i : Int} : okq (.int i) = true := rfl
theorem okq_bl {i : Bool} : okq (.bl i) = true := rfl
theorem okq_non : okq .non = true := rfl
theorem gEq_int {i j : Int} : gEq (.int i) (.int j) = some (.fz (.bl (i == j))) := rfl
theorem gNe_int {i j : Int} : gNe (.int i) (.int j) = some (.fz (.bl (!(i == j)))) := rfl
theorem gInt_bl {b : Bool} : g1 gInt [.bl b] = some (.fz (.int (if b then 1 else 0))) := rfl
theorem gMin_int {i j : Int} : g2 gMin2 [.int i, .int j] = some (.fz (.int (if j < i then j else i))) := rfl
theorem gMax_int {i j : Int} : g2 gMax2 [.int i, .int j] = some (.fz (.int (if j > i then j else i))) := rfl
theorem blsD_map {α : Type} (q : α → Bool) : ∀ xs : List α, blsD (xs.map fun x => D.bl (q x)) = some (xs.map q)
  | [] => rfl
  | x :: xs => by
    show (blsD (xs.map fun x => D.bl (q x))).map (q x :: ·) = _
    rw [blsD_map q xs]; rfl
theorem gAll_map {α : Type} (q : α → Bool) (xs : List α) : g1 gAll [.lst (xs.map fun x => D.bl (q x))] = some (.fz (.bl (xs.all q))) := by
  show (blsD _).map _ = _
  rw [blsD_map]
  simp [List.all_map, Function.comp_def]
theorem gAny_map {α : Type} (q : α → Bool) (xs : List α) : g1 gAny [.lst (xs.map fun x => D.bl (q x))] = some (.fz (.bl (xs.any q))) := by
  show (blsD _).map _ = _
  rw [blsD_map]
  simp [List.any_map, Function.comp_def]
theorem map_length {α β : Type} (f : α → β) (xs : List α) : (xs.map f).length = xs.length := List.length_map ..
theorem filter_true {α : Type} (xs : List α) : xs.filter (fun _ => true) = xs := by simp
/-! ### slices that stay within -/
theorem sIx_to {n d : Nat} {v : Int} (h0 : 0 ≤ v) : HT.sIx n d (some v) = min v.toNat n := by
  show (if v < 0 then _ else _) = _
  rw [if_neg (by omega)]
theorem cutL_to {α : Type} {xs : List α} {v : Int} (h0 : 0 ≤ v) : cutL xs none (some v) = xs.take v.toNat := by
  unfold cutL
  rw [HT.sIx_none, sIx_to h0, List.drop_zero, Nat.sub_zero, ← List.take_eq_take_min]
theorem cutL_from {α : Type} {xs : List α} {v : Int} (h0 : 0 ≤ v) : cutL xs (some v) none = xs.drop v.toNat := by
  unfold cutL
  rw [HT.sIx_none, sIx_to h0]
  by_cases h : v.toNat ≤ xs.length
  · rw [Nat.min_eq_left h, List.take_of_length_le (by simp)]
  · rw [Nat.min_eq_right (by omega), List.drop_of_length_le (Nat.le_refl _), List.drop_of_length_le (by omega), List.take_nil]
theorem cutS_to {x : Str} {v : Int} (h0 : 0 ≤ v) : cutS x none (some v) = ⟨(x.cps.toList.take v.toNat).toArray⟩ := by
  unfold cutS
  have e : x.length = x.cps.toList.length := by simp [Str.length]
  rw [HT.sIx_none, sIx_to h0, List.drop_zero, Nat.sub_zero, e, ← List.take_eq_take_min]
theorem cutS_from {x : Str} {v : Int} (h0 : 0 ≤ v) : cutS x (some v) none = ⟨(x.cps.toList.drop v.toNat).toArray⟩ := by
  unfold cutS
  have e : x.length = x.cps.toList.length := by simp [Str.length]
  rw [HT.sIx_none, sIx_to h0, e]
  by_cases h : v.toNat ≤ x.cps.toList.length
  · rw [Nat.min_eq_left h, List.take_of_length_le (by simp)]
  · rw [Nat.min_eq_right (by omega), List.drop_of_length_le (Nat.le_refl _), List.drop_of_length_le (by omega), List.take_nil]
theorem str_len {x : Str} : x.length = x.cps.toList.length := by simp [Str.length]
theorem len_mk {l : List Nat} : (⟨l.toArray⟩ : Str).length = l.length := by simp [Str.length]
theorem len_app {x y : Str} : (x ++ y).length = x.length + y.length := by
  show (x.cps ++ y.cps).size = _
  rw [Array.size_append]; rfl
theorem tl_app {x y : Str} : (x ++ y).cps.toList = x.cps.toList ++ y.cps.toList := by
  show (x.cps ++ y.cps).toList = _
  simp
/-! ### readings, once more -/
section
variable {c : Cf} {m mo me : Em}
@[simp] theorem wE_pNo {Q : Option Int → Cf → Prop} : wE (pNo c) Q = Q none c := propext Iff.rfl
@[simp] theorem wE_pSome {Q : Option Int → Cf → Prop} : wE (pSome m c) Q = wE (m c) fun r c1 => oE (view c1 r) fun d => match d with | .int i => Q (some i) c1 | _ => False := by
  unfold pSome
  rw [wE_bind]
  congr 1
  funext a c1
  cases view c1 a with
  | none => rfl
  | some d => cases d <;> rfl
@[simp] theorem wE_mSl {lo hi : Cf → Res (Option Int)} {Q : Rv → Cf → Prop} : wE (mSl m lo hi c) Q = wE (m c) fun r c1 => wE (lo c1) fun l c2 => wE (hi c2) fun h c3 => oE (view c3 (settle r)) fun d => oE (gSl d l h) fun r' => Q r' c3 := by
  unfold mSl
  rw [wE_bind, wE_st]
  congr 1
  funext r c1
  rw [wE_bind]
  congr 1
  funext l c2
  rw [wE_bind]
  congr 1
  funext h c3
  cases view c3 (settle r) with
  | none => rfl
  | some d =>
    rw [oE_some]
    dsimp only
    cases gSl d l h <;> rfl
theorem wE_mM1 {g : D → D → Option Rv} {Q : Rv → Cf → Prop} : wE (mM1 g mo me c) Q = wE (mo c) fun ro c1 => oE (view c1 (settle ro)) fun d => match d with | .str _ => wE (me c1) fun re c2 => wE (m2 g (settle ro) (settle re) c2) Q | _ => False := by
  unfold mM1
  rw [wE_bind, wE_st]
  congr 1
  funext r c1
  cases view c1 (settle r) with
  | none => rfl
  | some d => cases d <;> simp
theorem wE_mAnd {ma mb : Em} {Q : Rv → Cf → Prop} : wE (mAnd ma mb c) Q = wE (ma c) fun ra c1 => oE (view c1 ra) fun d => match d with | .bl true => wE (mb c1) Q | .bl false => Q (.fz (.bl false)) c1 | _ => False := by
  unfold mAnd
  rw [wE_bind]
  congr 1
  funext r c1
  cases view c1 r with
  | none => rfl
  | some d => cases d with
    | bl b => cases b <;> rfl
    | _ => rfl
theorem wE_mOr {ma mb : Em} {Q : Rv → Cf → Prop} : wE (mOr ma mb c) Q = wE (ma c) fun ra c1 => oE (view c1 ra) fun d => match d with | .bl false => wE (mb c1) Q | .bl true => Q (.fz (.bl true)) c1 | _ => False := by
  unfold mOr
  rw [wE_bind]
  congr 1
  funext r c1
  cases view c1 r with
  | none => rfl
  | some d => cases d with
    | bl b => cases b <;> rfl
    | _ => rfl
theorem wE_mChain {g g' : D → D → Option Rv} {ma mb mc : Em} {Q : Rv → Cf → Prop} : wE (mChain g g' ma mb mc c) Q = wE (ma c) fun ra c1 => wE (mb c1) fun rb c2 => wE (m2 g (settle ra) (settle rb) c2) fun rk c3 => oE (view c3 rk) fun d => match d with | .bl true => wE (mc c3) fun rc c4 => wE (m2 g' (settle rb) (settle rc) c4) Q | .bl false => Q (.fz (.bl false)) c3 | _ => False := by
  unfold mChain
  rw [wE_bind, wE_st]
  congr 1
  funext ra c1
  rw [wE_bind, wE_st]
  congr 1
  funext rb c2
  rw [wE_bind]
  congr 1
  funext rk c3
  cases view c3 rk with
  | none => rfl
  | some d => cases d with
    | bl b => cases b <;> simp
    | _ => rfl
theorem wE_mDct {Q : Rv → Cf → Prop} : wE (mDct c) Q = Q (.nw (.dct [])) c := propext Iff.rfl
theorem view_exc {n : Str} {x : List (Str × D)} : view c (.fz (.exc n x)) = some (.exc n x) := rfl
/-- a try whose body is known -/
theorem wE_sTry_ok {mb : Sm} {hs : List Hm} {fl : Fl} {c1 : Cf} {Q : Fl → Cf → Prop} (e : mb c = .ok fl c1) (h : Q fl c1) : wE (sTry mb hs c) Q := by
  unfold sTry
  rw [e]
  exact h
theorem wE_sTry_err {mb : Sm} {hs : List Hm} {x : Xc} {c1 : Cf} {Q : Fl → Cf → Prop} (e : mb c = .err x c1) (h : wE (runHs hs x c1) Q) : wE (sTry mb hs c) Q := by
  unfold sTry
  rw [e]
  exact h
end
theorem eq_of {α : Type} {r : Res α} {a : α} {c : Cf} (h : wE r fun x c' => x = a ∧ c' = c) : r = .ok a c := by
  cases r with
  | ok x c' => obtain ⟨rfl, rfl⟩ := h; rfl
  | _ => exact h.elim
theorem frzS_nil {c : Cf} : frzS [] c = c := rfl
theorem frzS_cons {i : Nat} {is : List Nat} {ρ : List Sl} {S : List D} : frzS (i :: is) ⟨ρ, S⟩ = frzS is (match ρ[i]? with | some (.ow d) => ⟨ρ.set i (.fz d), S⟩ | _ => ⟨ρ, S⟩) := rfl
theorem gFz_lt {i : Nat} {d : D} {ρ : List Sl} {S : List D} : gFz i d ⟨ρ, S⟩ = if i < ρ.length then some ⟨ρ.set i (.fz d), S⟩ else none := rfl
theorem gT_tup {gs : List D → Cf → Option Cf} {ds : List D} {c : Cf} : gT gs (.tup ds) c = gs ds c := rfl
theorem gC_cons {g : D → Cf → Option Cf} {gs : List D → Cf → Option Cf} {d : D} {ds : List D} {c : Cf} : gC g gs (d :: ds) c = (g d c).bind fun c1 => gs ds c1 := rfl
theorem gN_nil {c : Cf} : gN [] c = some c := rfl
/-! ### statements one by one, loops -/
theorem wE_seqE {m1 m2 : Sm} {c : Cf} {P : Cf → Prop} {Q : Fl → Cf → Prop} (h : wE (m1 c) fun fl c1 => fl = .nx ∧ P c1) (h2 : ∀ c1, P c1 → wE (m2 c1) Q) : wE (bCons m1 m2 c) Q := by
  rw [wE_bCons]
  refine wE_mono h fun fl c1 ⟨e, hp⟩ => ?_
  subst e
  exact h2 c1 hp
theorem for_E {mi : Cf → Res (List D)} {g : D → Cf → Option Cf} {body : Sm} {c : Cf} {Q : Fl → Cf → Prop} (ds : List D) (I : Nat → Cf → Prop) (R : Rv → Cf → Prop) (hi : wE (mi c) fun ds1 c1 => ds1 = ds ∧ I 0 c1)
    (hs : ∀ i d c, ds[i]? = some d → I i c → oE (g d c) fun c1 => wE (body c1) fun fl c2 => match fl with | .nx => I (i + 1) c2 | .ct => I (i + 1) c2 | .rt r => R r c2 | .bk => False)
    (hn : ∀ c, I ds.length c → Q .nx c) (hr : ∀ r c, R r c → Q (.rt r) c) : wE (sFor mi g body c) Q := by
  rw [wE_for]
  refine wE_mono hi fun ds1 c1 ⟨e, h0⟩ => ?_
  subst e
  refine wE_mono (wE_for_inv (R := R) I (ds := ds1) (k := 0) (c := c1) (fun i d c e hi => ?_) h0) fun fl c' h => ?_
  · have := hs i d c e (by rw [Nat.zero_add] at hi; exact hi)
    rw [Nat.zero_add]
    exact this
  · rcases h with ⟨rfl, h⟩ | ⟨r, rfl, h⟩
    · rw [Nat.zero_add] at h; exact hn c' h
    · exact hr r c' h
/-- a comprehension with one name whose turns change the shared objects alone -/
theorem comp_st {c : Cf} {mi : Cf → Res (List D)} {t : Cf → Res Bool} {j : Nat} {me : Em} {Q : Rv → Cf → Prop} (P : Nat → List D → List D → Prop) (ρ : List Sl) (S : List D) (s0 : Sl) (ds : List D) (hi : wE (mi c) fun ds1 c1 => ds1 = ds ∧ c1 = ⟨ρ, S⟩) (hj : ρ[j]? = some s0) (h0 : ∀ d, s0 ≠ .ow d) (hl : ds.length ≤ sizeLine) (hP : P 0 [] S)
    (hm : ∀ i d acc S', ds[i]? = some d → acc.length ≤ i → P i acc S' → wE (t ⟨ρ.set j (.fz d), S'⟩) fun b c => if b = true then wE (me c) fun r c2 => oE (toVal c2 r) fun p => p.2.ρ = ρ.set j (.fz d) ∧ P (i + 1) (acc ++ [p.1]) p.2.S else c.ρ = ρ.set j (.fz d) ∧ P (i + 1) acc c.S)
    (hQ : ∀ acc S', P ds.length acc S' → acc.length ≤ ds.length → Q (.nw (.lst acc)) ⟨ρ, S'⟩) : wE (mComp [j] mi (gFz j) t me c) Q := by
  have hjl : j < ρ.length := (List.getElem?_eq_some_iff.mp hj).1
  have gd : ρ.getD j .un = s0 := by rw [List.getD_eq_getElem?_getD, hj]; rfl
  rw [wE_mComp]
  refine wE_mono hi fun ds1 c1 ⟨e1, e2⟩ => ?_
  subst e1 e2
  refine ⟨?_, ?_⟩
  · unfold noOw
    simp only [List.all_cons, List.all_nil, Bool.and_true]
    rw [gd]
    cases s0 with
    | ow d => exact absurd rfl (h0 d)
    | _ => rfl
  · have key := comp_inv (g := gFz j) (t := t) (me := me) (vs := [j]) (fun acc rest c => ∃ i x S', rest = ds1.drop i ∧ i ≤ ds1.length ∧ acc.length ≤ i ∧ c = ⟨ρ.set j x, S'⟩ ∧ P i acc S') (fun d rest acc c ⟨i, x, S', e1, hil, e2, e3, e4⟩ => by
      subst e3
      have hlt : i < ds1.length := by
        rcases Nat.lt_or_ge i ds1.length with h | h
        · exact h
        · rw [List.drop_of_length_le h] at e1; cases e1
      have ed : ds1[i]? = some d := by
        rw [List.drop_eq_getElem_cons hlt] at e1
        cases e1
        exact List.getElem?_eq_getElem hlt
      have er : rest = ds1.drop (i + 1) := by
        rw [List.drop_eq_getElem_cons hlt] at e1
        cases e1
        rfl
      have ew : wipeR (ρ.set j x) [j] = ρ.set j .un := by simp [wipeR, List.set_set]
      rw [ew]
      unfold gFz
      rw [if_pos (by simpa using hjl)]
      simp only [oE_some, List.set_set]
      refine wE_mono (hm i d acc S' ed e2 e4) fun b c hb => ?_
      cases b with
      | false =>
        rw [if_neg (by simp)] at hb ⊢
        obtain ⟨hb1, hb2⟩ := hb
        obtain ⟨cr, cs⟩ := c
        have hb1 : cr = _ := hb1
        subst hb1
        exact ⟨i + 1, _, cs, er, hlt, by omega, rfl, hb2⟩
      | true =>
        rw [if_pos rfl] at hb ⊢
        refine wE_mono hb fun r c2 hv => ?_
        cases q : toVal c2 r with
        | none => rw [q] at hv; exact hv.elim
        | some p =>
          rw [q, oE_some] at hv
          obtain ⟨v, pr, ps⟩ := p
          obtain ⟨hv1, hv2⟩ := hv
          have hv1 : pr = _ := hv1
          subst hv1
          rw [oE_some]
          exact ⟨by omega, i + 1, _, ps, er, hlt, by simp; omega, rfl, hv2⟩) (ds := ds1) (acc := []) (c := ⟨ρ, S⟩) ⟨0, s0, S, rfl, Nat.zero_le _, Nat.le_refl _, by
          congr 1
          apply List.ext_getElem?
          intro k
          by_cases hk : k = j
          · subst hk; rw [List.getElem?_set_self hjl, hj]
          · rw [List.getElem?_set_ne (Ne.symm hk)], hP⟩
    cases e : compD (gFz j) t me [j] ds1 [] ⟨ρ, S⟩ with
    | none => rw [e] at key; exact key.elim
    | some q =>
      obtain ⟨acc, c2⟩ := q
      rw [e] at key
      obtain ⟨i, x, S', e1, hil, e2, e3, e4⟩ := key
      have hi2 : i = ds1.length := by
        have := congrArg List.length e1
        simp at this
        omega
      subst hi2
      have e3 : c2 = _ := e3
      subst e3
      have er : restR ρ (ρ.set j x) [j] = ρ := by
        simp only [restR, List.set_set, gd]
        apply List.ext_getElem?
        intro k
        by_cases hk : k = j
        · subst hk; rw [List.getElem?_set_self hjl, hj]
        · rw [List.getElem?_set_ne (Ne.symm hk)]
      show Q (.nw (.lst acc)) ⟨restR ρ (ρ.set j x) [j], S'⟩
      rw [er]
      exact hQ acc S' e4 e2
theorem comp_sd {c : Cf} {mi : Cf → Res (List D)} {t : Cf → Res Bool} {j : Nat} {me : Em} {Q : Rv → Cf → Prop} (ρ : List Sl) (s0 : Sl) (hj : ρ[j]? = some s0) (h0 : ∀ d, s0 ≠ .ow d) (hi : wE (mi c) fun ds c1 => c1.ρ = ρ ∧ ds.length ≤ sizeLine ∧ ∃ P : Nat → List D → List D → Prop, P 0 [] c1.S ∧
      (∀ i d acc S', ds[i]? = some d → acc.length ≤ i → P i acc S' → wE (t ⟨ρ.set j (.fz d), S'⟩) fun b c => if b = true then wE (me c) fun r c2 => oE (toVal c2 r) fun p => p.2.ρ = ρ.set j (.fz d) ∧ P (i + 1) (acc ++ [p.1]) p.2.S else c.ρ = ρ.set j (.fz d) ∧ P (i + 1) acc c.S) ∧
      ∀ acc S', P ds.length acc S' → acc.length ≤ ds.length → Q (.nw (.lst acc)) ⟨ρ, S'⟩) : wE (mComp [j] mi (gFz j) t me c) Q := by
  rw [wE_mComp]
  refine wE_mono hi fun ds c1 ⟨e, hl, P, h1, h2, h3⟩ => ?_
  have := comp_st (mi := fun _ => .ok ds c1) (t := t) (me := me) (c := c1) P ρ c1.S s0 ds ⟨rfl, by obtain ⟨cr, cs⟩ := c1; have e : cr = _ := e; subst e; rfl⟩ hj h0 hl h1 h2 h3
  rw [wE_mComp] at this
  exact this
theorem wE_seqR {m1 m2 : Sm} {c : Cf} {P : Cf → Prop} {Q : Fl → Cf → Prop} (h : wE (m1 c) fun fl c1 => match fl with | .nx => P c1 | fl => Q fl c1) (h2 : ∀ c1, P c1 → wE (m2 c1) Q) : wE (bCons m1 m2 c) Q := by
  rw [wE_bCons]
  refine wE_mono h fun fl c1 hp => ?_
  cases fl with
  | nx => exact h2 c1 hp
  | _ => exact hp
theorem comp_ok {c : Cf} {mi : Cf → Res (List D)} {t : Cf → Res Bool} {j : Nat} {me : Em} (p : D → Bool) (f : D → D) (ρ : List Sl) (S : List D) (s0 : Sl) (ds : List D) {Q : Rv → Cf → Prop} (hi : wE (mi c) fun ds1 c1 => ds1 = ds ∧ c1 = ⟨ρ, S⟩) (hj : ρ[j]? = some s0) (h0 : ∀ d, s0 ≠ .ow d) (hl : ds.length ≤ sizeLine)
    (ht : ∀ d ∈ ds, wE (t ⟨ρ.set j (.fz d), S⟩) fun b c => b = p d ∧ c = ⟨ρ.set j (.fz d), S⟩)
    (hm : ∀ d ∈ ds, p d = true → wE (me ⟨ρ.set j (.fz d), S⟩) fun r c => toVal c r = some (f d, ⟨ρ.set j (.fz d), S⟩))
    (hQ : Q (.nw (.lst ((ds.filter p).map f))) ⟨ρ, S⟩) : wE (mComp [j] mi (gFz j) t me c) Q := by
  rw [wE_mComp]
  refine wE_mono hi fun ds1 c1 ⟨e1, e2⟩ => ?_
  subst e1 e2
  exact comp_pure hj h0 hl ht hm hQ
/-! ### what repr shows -/
structure PP (p : PyData) (w : Nat) : Prop where
  s : p.showable = true
  l : p.leavesShort 13 = true
  d : p.hasDict = false
  w : p.weight ≤ w
structure PPL (p : List PyData) (w : Nat) : Prop where
  s : PyData.showableAll p = true
  l : PyData.leavesShortAll 13 p = true
  d : PyData.hasDictAll p = false
  w : PyData.weightAll p ≤ w
theorem PPL.nil : PPL [] 0 := ⟨rfl, rfl, rfl, by simp [PyData.weightAll]⟩
theorem PPL.cons {x : PyData} {xs : List PyData} {a b : Nat} (h : PP x a) (t : PPL xs b) : PPL (x :: xs) (a + 1 + b) :=
  ⟨by simp [PyData.showableAll, h.s, t.s], by simp [PyData.leavesShortAll, h.l, t.l], by simp [PyData.hasDictAll, h.d, t.d], by have := h.w; have := t.w; simp only [PyData.weightAll]; omega⟩
theorem PPL.tup {xs : List PyData} {b : Nat} (t : PPL xs b) : PP (.tuple xs) b := ⟨by simp [PyData.showable, t.s], by simp [PyData.leavesShort, t.l], by simp [PyData.hasDict, t.d], by simp only [PyData.weight]; exact t.w⟩
theorem PPL.lst {xs : List PyData} {b : Nat} (t : PPL xs b) : PP (.list xs) b := ⟨by simp [PyData.showable, t.s], by simp [PyData.leavesShort, t.l], by simp [PyData.hasDict, t.d], by simp only [PyData.weight]; exact t.w⟩
theorem shown_ok {p : PyData} {w : Nat} (h : PP p w) (hw : w ≤ 2 ^ 20) (hd : p.depth ≤ 64) : shownP p = some p.shown := by
  have hz := PyData.shown_fits (B := 13) (by decide) (by decide) h.l (Nat.le_trans h.w hw)
  unfold shownP
  rw [h.s, h.d]
  simp [hd, hz]
/-- d is shown, of such a weight, so deep -/
structure RD (d : D) (w k : Nat) : Prop where
  ex : ∃ p, toPy d = some p ∧ PP p w ∧ p.depth ≤ k
structure RDL (ds : List D) (w k : Nat) : Prop where
  ex : ∃ ps, toPyL ds = some ps ∧ PPL ps w ∧ PyData.depthAll ps ≤ k
theorem RD.mono {d : D} {w w' k k' : Nat} (h : RD d w k) (hw : w ≤ w') (hk : k ≤ k') : RD d w' k' := by
  obtain ⟨p, h1, h2, h3⟩ := h
  exact ⟨p, h1, ⟨h2.s, h2.l, h2.d, Nat.le_trans h2.w hw⟩, Nat.le_trans h3 hk⟩
theorem RDL.mono {d : List D} {w w' k k' : Nat} (h : RDL d w k) (hw : w ≤ w') (hk : k ≤ k') : RDL d w' k' := by
  obtain ⟨p, h1, h2, h3⟩ := h
  exact ⟨p, h1, ⟨h2.s, h2.l, h2.d, Nat.le_trans h2.w hw⟩, Nat.le_trans h3 hk⟩
theorem RD.non : RD .non 0 0 := ⟨.none, rfl, ⟨rfl, rfl, rfl, Nat.le_refl _⟩, Nat.le_refl _⟩
theorem RD.bl {b : Bool} : RD (.bl b) 0 0 := ⟨.bool b, rfl, ⟨rfl, rfl, rfl, by simp [PyData.weight]⟩, by simp [PyData.depth]⟩
theorem RD.int {n : Int} (h : n.natAbs < 10 ^ 12) : RD (.int n) 40 0 := by
  have h40 : n.natAbs < 2 ^ 40 := Nat.lt_of_lt_of_le h (by decide)
  have hl : n.natAbs.log2 < 40 := log2_lt h40 (by decide)
  refine ⟨.int n, rfl, ⟨?_, ?_, rfl, ?_⟩, by simp [PyData.depth]⟩
  · simp only [PyData.showable, decide_eq_true_eq]; omega
  · simp only [PyData.leavesShort, decide_eq_true_eq]
    exact PyData.shown_int_le h
  · simp only [PyData.weight]
    split <;> omega
theorem RD.str {x : Str} (h : ∀ c ∈ x.cps.toList, c < 1114112) : RD (.str x) x.length 0 := by
  refine ⟨.str x, rfl, ⟨rfl, ?_, rfl, by simp [PyData.weight, Str.length]⟩, by simp [PyData.depth]⟩
  simp only [PyData.leavesShort, List.all_eq_true, decide_eq_true_eq]
  intro c hc
  have := h c hc
  have e : (16 : Nat) ^ 8 = 4294967296 := by decide
  omega
theorem RDL.nil : RDL [] 0 0 := ⟨[], rfl, PPL.nil, by simp [PyData.depthAll]⟩
theorem RDL.cons {d : D} {ds : List D} {a b k : Nat} (h : RD d a k) (t : RDL ds b k) : RDL (d :: ds) (a + 1 + b) k := by
  obtain ⟨p, h1, h2, h3⟩ := h
  obtain ⟨ps, h4, h5, h6⟩ := t
  exact ⟨p :: ps, by unfold toPyL; rw [h1, h4], PPL.cons h2 h5, by unfold PyData.depthAll; omega⟩
theorem RDL.all {w k : Nat} : ∀ {ds : List D}, (∀ d ∈ ds, RD d w k) → RDL ds ((w + 1) * ds.length) k
  | [], _ => RDL.nil.mono (by simp) (Nat.zero_le _)
  | d :: ds, h => (RDL.cons (h d List.mem_cons_self) (RDL.all fun x hx => h x (List.mem_cons_of_mem _ hx))).mono (by rw [List.length_cons, Nat.mul_succ]; omega) (Nat.le_refl _)
theorem RDL.lst {ds : List D} {w k : Nat} (h : RDL ds w k) : RD (.lst ds) w (k + 1) := by
  obtain ⟨p, h1, h2, h3⟩ := h
  exact ⟨.list p, by unfold toPy; rw [h1]; rfl, h2.lst, by unfold PyData.depth; omega⟩
theorem RDL.tup {ds : List D} {w k : Nat} (h : RDL ds w k) : RD (.tup ds) w (k + 1) := by
  obtain ⟨p, h1, h2, h3⟩ := h
  exact ⟨.tuple p, by unfold toPy; rw [h1]; rfl, h2.tup, by unfold PyData.depth; omega⟩
theorem RD.repr {d : D} {w k : Nat} (h : RD d w k) (hw : w ≤ 2 ^ 20) (hk : k ≤ 64) : ∃ t, g1 gRepr [d] = some (.fz (.str t)) := by
  obtain ⟨p, h1, h2, h3⟩ := h
  refine ⟨p.shown, ?_⟩
  show ((toPy d).bind shownP).map (fun t => Rv.fz (.str t)) = _
  rw [h1, Option.bind_some, shown_ok h2 hw (by omega)]
  rfl
theorem rangeD_len {lo : Int} {n : Nat} : (rangeD lo n).length = n := by simp [rangeD]
end LH
/-! LHPen: the pen of the laws. -/
namespace LH
open PySem PySem.Spec PyProof.Rows L2
/-! ### the pen -/
abbrev penKv (cells : List Int) (t r : Int) : List (Key × D) := [(.inr "cells", .lst (cells.map D.int)), (.inr "turn", .int t), (.inr "rest", .int r)]
theorem kx1 : ¬ (("cells" : Str) = "turn") := by decide +kernel
theorem kx2 : ¬ (("cells" : Str) = "rest") := by decide +kernel
theorem kx3 : ¬ (("turn" : Str) = "rest") := by decide +kernel
theorem kx4 : ¬ (("turn" : Str) = "cells") := by decide +kernel
theorem kx5 : ¬ (("rest" : Str) = "cells") := by decide +kernel
theorem kx6 : ¬ (("rest" : Str) = "turn") := by decide +kernel
section
variable {cells : List Int} {t r y : Int}
theorem pen_c : gIx (.dct (penKv cells t r)) (.str "cells") = some (.fz (.lst (cells.map D.int))) := by simp [gIx, keyD, getK]
theorem pen_t : gIx (.dct (penKv cells t r)) (.str "turn") = some (.fz (.int t)) := by simp [gIx, keyD, getK, kx1]
theorem pen_r : gIx (.dct (penKv cells t r)) (.str "rest") = some (.fz (.int r)) := by simp [gIx, keyD, getK, kx2, kx3]
theorem pen_pt : gDput (.dct (penKv cells t r)) (.str "turn") (.int y) = some (.dct (penKv cells y r)) := by
  have : 3 < sizeLine := by rw [sizeLine_eq]; decide
  simp [gDput, keyD, setK, kx1, kx3, kx6, this]
theorem pen_pr : gDput (.dct (penKv cells t r)) (.str "rest") (.int y) = some (.dct (penKv cells t y)) := by
  have : 3 < sizeLine := by rw [sizeLine_eq]; decide
  simp [gDput, keyD, setK, kx2, kx3, this]
end
theorem plnL_ints : ∀ cs : List Int, plnL (cs.map D.int) = true
  | [] => rfl
  | c :: cs => by show (pln (.int c) && plnL (cs.map D.int)) = true; rw [plnL_ints cs]; rfl
theorem depL_ints : ∀ cs : List Int, depL (cs.map D.int) = 0
  | [] => rfl
  | c :: cs => by show max (dep (.int c)) (depL (cs.map D.int)) = 0; rw [depL_ints cs]; rfl
/-- the pen, at its handle -/
structure PenAt (S : List D) (h : Nat) (b : Int) : Prop where
  ex : ∃ cells t r, S[h]? = some (.dct (penKv cells t r)) ∧ cells.length ≤ 63 ∧ 0 ≤ t ∧ t ≤ b ∧ 0 ≤ r
theorem PenAt.mono {S : List D} {h : Nat} {b b' : Int} (p : PenAt S h b) (hb : b ≤ b') : PenAt S h b' := by
  obtain ⟨cells, t, r, h1, h2, h3, h4, h5⟩ := p
  exact ⟨cells, t, r, h1, h2, h3, by omega, h5⟩
theorem prime_ix {i : Int} (h0 : 0 ≤ i) (h1 : i < 5) : ∃ p, gIx (.lst [.int 2147483647, .int 2147483629, .int 2147483587, .int 2147483579, .int 2147483563]) (.int i) = some (.fz (.int p)) ∧ 0 < p ∧ p < 2 ^ 31 := by
  obtain ⟨z, h2, h3⟩ := ix_int (cells := [2147483647, 2147483629, 2147483587, 2147483579, 2147483563]) h0 (by simpa using h1)
  refine ⟨z, h2, ?_⟩
  simp only [List.mem_cons, List.not_mem_nil, or_false] at h3
  omega
theorem gNe_nilI {cells : List Int} : gNe (.lst (cells.map D.int)) (.lst []) = some (.fz (.bl (!cells.isEmpty))) := by
  have h1 : okq (.lst (cells.map D.int)) = true := by
    have e1 : pln (.lst (cells.map D.int)) = plnL (cells.map D.int) := by simp [pln]
    have e2 : dep (.lst (cells.map D.int)) = 1 := by simp [dep, depL_ints]
    unfold okq
    rw [e1, plnL_ints, e2]; rfl
  have h2 : okq (.lst []) = true := by decide
  unfold gNe
  rw [h1, h2]
  cases cells <;> simp [eqD, eqL]
theorem gPow_18 : gPow (.int 10) (.int 18) = some (.fz (.int 1000000000000000000)) := by
  show (if (0 : Int) ≤ 18 ∧ (18 : Int) ≤ 1000000 ∧ (10 : Int).natAbs < 2 ^ 64 then some (Rv.fz (.int (10 ^ (18 : Int).toNat))) else none) = _
  rw [if_pos (by decide)]
  rfl

theorem gSl_63 {ns : List Int} : gSl (.ro (ns.map D.int)) none (some 63) = some (.nw (.lst ((ns.take 63).map D.int))) := by
  show some (Rv.nw (.lst (cutL (ns.map D.int) none (some 63)))) = _
  rw [cutL_to (by decide), ← List.map_take]
  rfl
theorem merge_pen {ns : List Int} : mergeD [((.inr "cells" : Key), D.lst ((ns.take 63).map D.int)), (.inr "turn", .int 0), (.inr "rest", .int 0)] [] = penKv (ns.take 63) 0 0 := by
  simp [mergeD, setK, kx1, kx2, kx3]
end LH
/-! LHList: list(range(..)). -/
namespace LH
open PySem PySem.Spec PyProof.Rows L2
section
variable {X : Cx} {e a b : Expr} {ma mb : Em} {p q pos : Pos}
theorem ex_op2 {w : V → V → Hp → VK → Prop} {g : D → D → Option Rv} (hg : Op2 X w g) (pe : PE X e (fun σ H Q => We X a σ H fun x H1 => We X b σ H1 fun y H2 => w x y H2 Q)) (ha : Ex X a ma) (hb : Ex X b mb) : Ex X e (mBin g ma mb) := by
  refine ⟨fun E η M c σ H s => ?_⟩
  refine Out.bind (R := RVst X.K X.mg) (fun x H1 Q => We X b σ H1 fun y H2 => w x y H2 Q) (out_st (ha E η M c σ H s)) (fun Q hq => pe_we pe hq) fun ro c1 x η1 M1 H1 s1 x1 z1 => ?_
  refine Out.bind (R := RVst X.K X.mg) (fun y H2 Q => w x y H2 Q) (out_st (hb E η1 M1 c1 σ H1 s1)) (fun Q hq => hq) fun re c2 y η2 M2 H2 s2 x2 z2 => ?_
  exact out_m2 (w := w) hg s2 (z1.2.keep x2 z1.1) z2.2
def gListR (x y : D) : Option Rv := match x, y with
  | .int i, .int j => if -(2 ^ 62) ≤ i ∧ i < 2 ^ 62 ∧ -(2 ^ 62) ≤ j ∧ j < 2 ^ 62 ∧ (j - i).toNat ≤ 2 ^ 24 then some (.nw (.lst (rangeD i (j - i).toNat))) else none
  | _, _ => none
theorem repL_rg {K : Fg} {mg : Mg} {η : List Addr} {M : Hp} (i : Int) (n : Nat) : RepL K mg η M ((List.range n).map fun k => V.int (i + (k : Nat))) (rangeD i n) := by
  unfold rangeD
  induction n with
  | zero => exact .nil
  | succ n ih => rw [List.range_succ, List.map_append, List.map_append]; exact ih.append (.cons (.int _) .nil)
theorem ex_listR2 {p2 : Pos} (hc : X.calm = true) (hm : X.mg "range" = none) (hm2 : X.mg "list" = none) (ha : Ex X a ma) (hb : Ex X b mb) (hg : Gl X "range" := by rfl) (hg2 : Gl X "list" := by rfl)
    (na : starEach [a, b] X.env = (false, eval a X.env) :: starEach [b] X.env := by rfl) (nb : starEach [b] X.env = (false, eval b X.env) :: starEach [] X.env := by rfl) (hp : (backTo q (starEach [b] X.env)).any (·.1) = false := by rfl)
    (nc : starEach [.Call (.Name "range" p) [a, b] [] q] X.env = (false, eval (.Call (.Name "range" p) [a, b] [] q) X.env) :: starEach [] X.env := by rfl) :
    Ex X (.Call (.Name "list" p2) [.Call (.Name "range" p) [a, b] [] q] [] pos) (mBin gListR ma mb) := by
  have pe := pe_listRg (p := p2) (pos := pos) hc hg2 hm2 (prg_2 (p := p) (pos := q) hg hm (we_pe (e := a)) (we_pe (e := b)) na nb hp) nc
  refine ex_op2 (w := fun x y H Q => ∃ i j : Int, x = V.int i ∧ y = V.int j ∧ RgOk i j ∧ ∀ q, H q = none → Q (.ref q) (upd H q (.lst (rgV i j)))) (fun E η M c σ H x y dx dy r s h1 h2 e Q hQ => ?_) pe ha hb
  unfold gListR at e
  split at e
  · rename_i i j
    split at e
    · rename_i hr
      cases e
      obtain ⟨r1, r2, r3, r4, r5⟩ := hr
      exact ⟨i, j, h1.int, h2.int, ⟨r1, r2, r3, r4, r5⟩, pst_nw s hQ fun p hp => ⟨_, upd_same, repL_rg i _⟩⟩
    · cases e
  · cases e
end
end LH
/-! LHVals: list(d.values()), dict comprehensions. -/
namespace LH
open PySem PySem.Spec PyProof.Rows L2
section
variable {X : Cx} {o : Expr} {mo : Em} {p pos apos mpos : Pos}
theorem kv_vals {κ : Type} {kvs : List (κ × V)} {vs : List (κ × Value)} (r : KV kvs vs) : Vals (kvs.map (·.2)) (vs.map (·.2)) := by
  unfold KV at r
  induction r with
  | nil => exact .nil
  | cons r t ih => exact .cons r.2 ih
def tListVals (td : L2.TE) : L2.TE := fun σ H Q => td σ H fun x H1 => ∃ a kvs, x = V.ref a ∧ H1 a = some (.dK kvs) ∧ ∀ l, H1 l = none → Q (.ref l) (upd H1 l (.lst (kvs.map (·.2))))
theorem pe_listVals {td : L2.TE} (hc : X.calm = true) (hg : Gl X "list") (hm : X.mg "list" = none) (hd : PE X o td) (hbase : attributeBase o "values" X.env (eval o X.env) = eval o X.env := by rfl) (hline : (apos.endLine == mpos.line) = true := by rfl)
    (hse : starEach [Expr.Call (.Attribute o "values" apos) [] [] mpos] X.env = (false, eval (Expr.Call (.Attribute o "values" apos) [] [] mpos) X.env) :: starEach [] X.env := by rfl) :
    PE X (.Call (.Name "list" p) [.Call (.Attribute o "values" apos) [] [] mpos] [] pos) (tListVals td) := by
  refine ⟨fun pins s σ H Q I h => ?_⟩
  refine Call_ (ld_blt I hg hm boot_list (PyProof.Rows.callWith_type1 (args_cons (wpAny_Call_method0_late hbase hline (thn (hd.run pins s σ H _ I h) fun v s1 ⟨x, H1, I1, r1, a, kvs, ex, ha, q⟩ => ?_)) hse) hse))
  subst ex
  obtain rfl : v = Value.ref a := r1
  obtain ⟨hz, hsys, vs, rel, dof⟩ := dk_of I1.hok ha
  obtain ⟨ep, dat⟩ := dof.dictAt
  have dat' := dat
  obtain ⟨ob, es, ho, ex, hdat, hko, hpr, hnd⟩ := dat'
  refine ⟨"dict", "dict.values", F.plainAttrs_dict, F.slot_dict_values, F.type_dict_values, ⟨ob, ho, ex.1⟩, fun b e => ?_, Calls.callWith_builtin rfl (PySem.evalArgs_none ?_)⟩
  · cases e
    exact ⟨ob, ho, ex.2.1⟩
  refine call_meetsIn F.slot_dict_values ⟨ob, ho, ex.1⟩ F.entry_dict_values (F.args_dict_values_1 _) (meets_dict_values (mixKind X.prog X.w) a hsys) ⟨⟨vs, dof⟩, args_nil ?_⟩
  have k1 : ∀ b u, s1.heap.get? b = some u → (s1.heap.push { cls := .type "dict_values", data := .fields #[.ref a] }).get? b = some u := fun b u e => Heap.get?_push_of_some _ e
  have dat1 : (s1.heap.push { cls := .type "dict_values", data := .fields #[.ref a] }).DictAt (mixKind X.prog X.w) a vs ep := dat.keep k1
  have hl : vs.length = kvs.length := (KV.length rel).symm
  refine PySem.W.kdl_call (PySem.W.kdl_values (knd := mixKind X.prog X.w) (r := s1.heap.objs.size) (d := a) (kvs := vs) (ep := ep)) (I1.ok.hd hc) ⟨⟨_, Heap.get?_push_size _ rfl, rfl, rfl⟩, dat1⟩ (by rw [hl]; exact hz) fun h' tk acc c' hk hL hacc => ?_
  have hv : acc.toList = vs.map (·.2) := PySem.W.kdl_vals_eq acc.toList (by rw [Array.length_toList]; exact hacc.1) fun j v e => hacc.2 j v (by rw [← Array.getElem?_toList]; exact e)
  have I2 : Inv X pins σ H1 { s1 with heap := s1.heap.push { cls := .type "dict_values", data := .fields #[.ref a] } } := I1.kept k1
  refine ⟨.ref (s1.heap.push { cls := .type "dict_values", data := .fields #[.ref a] }).objs.size, _, I2.laid (t' := tk) hk (Nat.le_refl _) (show ObjOk X.prog X.w _ h' _ (.lst (kvs.map (·.2))) from ⟨by rw [List.length_map]; exact hz, acc.toList, c', by rw [hv]; exact kv_vals rel, by rw [Array.toArray_toList]; exact hL⟩), rfl, q _ (I2.hok.fresh (Nat.le_refl _))⟩
theorem ex_op1 {e a : Expr} {ma : Em} {w : V → Hp → VK → Prop} {g : D → Option Rv} (hg : Op1 X w g) (pe : PE X e (fun σ H Q => We X a σ H fun x H1 => w x H1 Q)) (ha : Ex X a ma) : Ex X e (mUn g ma) := by
  refine ⟨fun E η M c σ H s => ?_⟩
  exact Out.bind (fun x H1 Q => w x H1 Q) (ha E η M c σ H s) (fun Q hq => pe_we pe hq) fun ra c1 x η1 M1 H1 s1 x1 z1 => out_m1 hg s1 z1
def gVals : D → Option Rv
  | .dct kvs => some (.nw (.lst (kvs.map (·.2))))
  | _ => none
def wVals (x : V) (H : Hp) (Q : VK) : Prop := ∃ a kvs, x = V.ref a ∧ H a = some (.dK kvs) ∧ ∀ l, H l = none → Q (.ref l) (upd H l (.lst (kvs.map (·.2))))
theorem ex_listVals (hc : X.calm = true) (hm : X.mg "list" = none) (ho : Ex X o mo) (hg : Gl X "list" := by rfl) (hbase : attributeBase o "values" X.env (eval o X.env) = eval o X.env := by rfl) (hline : (apos.endLine == mpos.line) = true := by rfl)
    (hse : starEach [Expr.Call (.Attribute o "values" apos) [] [] mpos] X.env = (false, eval (Expr.Call (.Attribute o "values" apos) [] [] mpos) X.env) :: starEach [] X.env := by rfl) :
    Ex X (.Call (.Name "list" p) [.Call (.Attribute o "values" apos) [] [] mpos] [] pos) (mUn gVals mo) := by
  refine ex_op1 (a := o) (w := wVals) (fun E η M c σ H x dx r s h1 e Q hQ => ?_) (pe_listVals (p := p) (pos := pos) hc hg hm we_pe hbase hline hse) ho
  unfold gVals at e
  split at e
  · cases e
    obtain ⟨a, kvs, rfl, q, hk, hr⟩ := h1.dct s.sub
    exact ⟨a, kvs, rfl, q, pst_nw s hQ fun p hp => ⟨_, upd_same, hr⟩⟩
  · cases e
end
end LH
/-! LHDComp: dict comprehensions. -/
namespace LH
open PySem PySem.Spec PyProof.Rows L2
def RepK (K : Fg) (mg : Mg) (η : List Addr) (M : Hp) (kvs : List (Key × V)) (eds : List (Key × D)) : Prop := kvs.map (·.1) = eds.map (·.1) ∧ RepL K mg η M (kvs.map (·.2)) (eds.map (·.2))
def compDD (g : D → Cf → Option Cf) (t : Cf → Res Bool) (mk me : Em) (vs : List Nat) : List D → List (Key × D) → Cf → Option (List (Key × D) × Cf)
  | [], acc, c => some (acc, c)
  | d :: ds, acc, c => match g d { c with ρ := wipeR c.ρ vs } with
    | none => none
    | some c1 => match t c1 with
      | .ok false c2 => compDD g t mk me vs ds acc c2
      | .ok true c2 => match mk c2 with
        | .ok rk c3 => match view c3 rk with
          | some dk => match keyD dk with
            | some k => match me c3 with
              | .ok r c4 => match toVal c4 r with
                | some (v, c5) => if acc.length < sizeLine then compDD g t mk me vs ds (setK acc k v) c5 else none
                | none => none
              | _ => none
            | none => none
          | none => none
        | _ => none
      | _ => none
def mDComp (vs : List Nat) (mi : Cf → Res (List D)) (g : D → Cf → Option Cf) (t : Cf → Res Bool) (mk me : Em) : Em := fun c => (mi c).bind fun ds c1 =>
  if noOw c1.ρ vs then match compDD g t mk me vs ds [] c1 with
    | some (acc, c2) => .ok (.nw (.dct acc)) { c2 with ρ := restR c1.ρ c2.ρ vs }
    | none => .stuck
  else .stuck
section
variable {X : Cx} {E : En} {η η' : List Addr} {M M' H H' : Hp} {c c' : Cf} {σ σ' : St} {e tg it elt kx : Expr} {es ts ifs : List Expr} {me : Em} {ms : List Em} {pos tpos epos : Pos}
theorem dcomp_core {scope : Scope} {own : List (Str × Nat)} {mi : Cf → Res (List D)} {g : D → Cf → Option Cf} {js : List Nat} {t : Cf → Res Bool} {mk : Em} {tw : VK → Prop}
    (hi : Ix X tg it mi) (hg : ∀ s Hb C cl fp, Tgt (blkC X scope s Hb C cl fp) tg g js) (hj : ∀ j ∈ js, j ∈ own.map (·.2)) (ht : ∀ s Hb C cl fp, Txs (blkC X scope s Hb C cl fp) ifs t)
    (hk : ∀ s Hb C cl fp, Ex (blkC X scope s Hb C cl fp) kx mk) (he : ∀ s Hb C cl fp, Ex (blkC X scope s Hb C cl fp) elt me) (s : SR X.K X.mg E η M c σ H)
    (imp : ∀ Q, tDc (Wi X tg it) (Wgb X scope tg) (Wtb X scope ifs) (Web X scope kx) (Web X scope elt) (own.map (·.2)) σ H Q → tw Q) : Out X (RV X.K X.mg) tw E η M σ (mDComp (own.map (·.2)) mi g t mk me c) := by
  generalize hvs : own.map (·.2) = vs at hj imp
  refine Out.bind (fun (J : It) H1 (Q : VK) => ∀ Dn, H1 Dn = none → ∃ W : Nat → Nat → Hp → Prop, (∃ m, W 0 m (upd H1 Dn (.dK []))) ∧ ∀ i m H, W i m H →
    (J.stop i H ∧ Q (.ref Dn) H) ∨ (J.go i H ∧ ∃ Nx : Hp → Prop, (∀ H', Nx H' → ∃ m', m' < m ∧ W (i + 1) m' H') ∧ ∀ x H', J.yld i H x H' → Wgb X scope tg x (L2.wipe σ vs) H' fun σ2 H2 => L2.wipe σ2 vs = L2.wipe σ vs ∧ Wtb X scope ifs σ2 H2 fun b H3 =>
      if b = true then Web X scope kx σ2 H3 fun y H4 => Web X scope elt σ2 H4 fun z H5 => ∃ kvs k, y = kV k ∧ H5 Dn = some (.dK kvs) ∧ kvs.length < sizeLine ∧ Nx (upd H5 Dn (.dK (putK kvs k z))) else Nx H3)) (hi E η M c σ H s) imp fun ds c1 J η1 M1 H1 s1 x1 j1 => ?_
  cases no : noOw c1.ρ vs with
  | false => trivial
  | true =>
    rw [if_pos rfl]
    cases eF : compDD g t mk me vs ds [] c1 with
    | none => trivial
    | some q =>
      obtain ⟨accF, cF⟩ := q
      refine fun Q hQ Dn hDn => ?_
      have hj1 : JOk X.K X.mg η1 M1 J ds := j1
      obtain ⟨f1, f2, f3, f4⟩ := s1.free hDn
      -- the state ahead of turn i
      refine ⟨fun i m H => m = ds.length - i ∧ i ≤ ds.length ∧ ∃ η M c xs acc, SR X.K X.mg E η M { c with ρ := wipeR c.ρ vs } (L2.wipe σ vs) H ∧ Ext η1 M1 η M ∧ H Dn = some (.dK xs) ∧ RepK X.K X.mg η M xs acc ∧
        M Dn = none ∧ Dn ∉ η ∧ ¬ Own { c with ρ := wipeR c.ρ vs } (L2.wipe σ vs) Dn ∧ compDD g t mk me vs (ds.drop i) acc c = some (accF, cF),
        ⟨_, rfl, Nat.zero_le _, η1, M1, c1, [], [], (s1.wipe vs).alloc hDn,   .refl, upd_same, ⟨rfl, .nil⟩, f1, f3, fun z => ((s1.wipe vs).free hDn).2.2.2 z, eF⟩, ?_⟩
      rintro i m H2 ⟨rfl, hi2, η2, M2, c2, xs, acc, s2, x2, hD2, hr2, hM2, hn2, ho2, e2⟩
      have hsame : Same M1 H2 := x2.m.trans s2.sub
      by_cases hlt : i < ds.length
      · have ed : ds.drop i = ds[i] :: ds.drop (i + 1) := List.drop_eq_getElem_cons hlt
        obtain ⟨q1, q2⟩ := (hj1 i H2 hsame).1 ds[i] (List.getElem?_eq_getElem hlt)
        rw [ed] at e2
        unfold compDD at e2
        refine .inr ⟨q1, fun H' => ∃ η M c xs acc, SR X.K X.mg E η M { c with ρ := wipeR c.ρ vs } (L2.wipe σ vs) H' ∧ Ext η1 M1 η M ∧ H' Dn = some (.dK xs) ∧ RepK X.K X.mg η M xs acc ∧
          M Dn = none ∧ Dn ∉ η ∧ ¬ Own { c with ρ := wipeR c.ρ vs } (L2.wipe σ vs) Dn ∧ compDD g t mk me vs (ds.drop (i + 1)) acc c = some (accF, cF),
          fun H' h => ⟨ds.length - (i + 1), by omega, rfl, hlt, h⟩, fun x H' y => ?_⟩
        cases e3 : g ds[i] { c2 with ρ := wipeR c2.ρ vs } with
        | none => rw [e3] at e2; cases e2
        | some c3 =>
          rw [e3] at e2
          dsimp only at e2
          have t2 := s2.enter
          have item : ∃ M3, SR X.K X.mg ⟨mask { c2 with ρ := wipeR c2.ρ vs } (L2.wipe σ vs) H2, η2, M2⟩ η2 M3 { c2 with ρ := wipeR c2.ρ vs } (L2.wipe σ vs) H' ∧ Ext η2 M2 η2 M3 ∧ Rep X.K X.mg η2 M3 x ds[i] := by
            rcases q2 x H' y with ⟨rfl, r⟩ | ⟨p, ys, ts, hp, rfl, rfl, r, ed'⟩
            · exact ⟨M2, t2, .refl, r.mono x2⟩
            · obtain ⟨g1, g2, g3, g4⟩ := t2.free hp
              obtain ⟨s3, x3⟩ := (t2.alloc (o := .tup ys) hp).freeze g1 g2 g3 g4 upd_same
              exact ⟨_, s3, x3, by rw [ed']; exact .tup upd_same (r.mono (x2.trans x3))⟩
          obtain ⟨M3, s3, x3, r3⟩ := item
          intro bs bH bC bcl bfp
          refine hg bs bH bC bcl bfp _ η2 M3 _ _ H' x ds[i] c3 s3 r3 e3 _ fun σ4 s4 k4 l4 => ?_
          have hw : L2.wipe σ4 vs = L2.wipe σ vs := by
            have h1 : L2.wipe σ4 vs = L2.wipe (L2.wipe σ vs) vs := wipe_eq l4 fun j hjn => k4 j fun z => hjn (hj j z)
            have h2 : L2.wipe (L2.wipe σ vs) vs = L2.wipe σ vs := wipe_eq (wipe_length _ _) fun j hjn => wipe_out hjn
            rw [h1, h2]
          refine ⟨hw, fun ts tH tC tcl tfp => ?_⟩
          -- the end of a turn
          have fin : ∀ {η5 : List Addr} {M5 H5 : Hp} {c5 : Cf}, SR X.K X.mg ⟨mask { c2 with ρ := wipeR c2.ρ vs } (L2.wipe σ vs) H2, η2, M2⟩ η5 M5 c5 σ4 H5 → Ext η2 M2 η5 M5 →
              SR X.K X.mg E η5 M5 { c5 with ρ := wipeR c5.ρ vs } (L2.wipe σ vs) H5 ∧ H5 Dn = some (.dK xs) ∧ M5 Dn = none ∧ Dn ∉ η5 ∧ ¬ Own { c5 with ρ := wipeR c5.ρ vs } (L2.wipe σ vs) Dn := fun {η5 M5 H5 c5} s5 x5 => by
            obtain ⟨s6, fr⟩ := s2.leave s5
            obtain ⟨k1, k2⟩ := SR.leave_own s5 hD2 hn2 ho2
            have s7 := s6.wipe vs
            rw [hw] at s7
            refine ⟨s7, fr.h Dn _ hD2 hn2 ho2, fr.m Dn _ hD2 ho2 hM2, k2, fun ⟨j, d, o1, o2⟩ => ?_⟩
            rcases wipeR_get o1 with ⟨_, z⟩ | ⟨z1, z2⟩
            · cases z
            · rw [← hw, wipe_out z1] at o2
              exact k1 ⟨j, d, z2, o2⟩
          have o := ht ts tH tC tcl tfp _ η2 M3 c3 σ4 H' s4
          cases e4 : t c3 with
          | stuck => rw [e4] at e2; cases e2
          | err w c4 => rw [e4] at e2; cases e2
          | ok b c4 =>
            rw [e4] at e2 o
            refine o _ fun b' η5 M5 H5 s5 x5 z5 => ?_
            cases z5
            cases b with
            | false =>
              rw [if_neg Bool.false_ne_true]
              obtain ⟨g1, g2, g3, g4, g5⟩ := fin s5 (x3.trans x5)
              exact ⟨η5, M5, c4, xs, acc, g1, x2.trans (x3.trans x5), g2, ⟨hr2.1, hr2.2.mono (x3.trans x5)⟩, g3, g4, g5, e2⟩
            | true =>
              rw [if_pos rfl]
              intro es eH eC ecl efp
              have ok := hk es eH eC ecl efp _ η5 M5 c4 σ4 H5 s5
              dsimp only at e2
              cases e8 : mk c4 with
              | stuck => rw [e8] at e2; cases e2
              | err w c6 => rw [e8] at e2; cases e2
              | ok rk c8 =>
                rw [e8] at e2 ok
                dsimp only at e2
                cases e9 : view c8 rk with
                | none => rw [e9] at e2; cases e2
                | some dk =>
                  rw [e9] at e2
                  dsimp only at e2
                  cases e10 : keyD dk with
                  | none => rw [e10] at e2; cases e2
                  | some k =>
                    rw [e10] at e2
                    dsimp only at e2
                    refine ok _ fun vk η8 M8 H8 s8 x8 z8 => ?_
                    have ek : vk = kV k := rep_key (view_ok s8 z8 e9) e10
                    intro fs fH fC fcl ffp
                    have oe := he fs fH fC fcl ffp _ η8 M8 c8 σ4 H8 s8
                    cases e6 : me c8 with
                    | stuck => rw [e6] at e2; cases e2
                    | err w c6 => rw [e6] at e2; cases e2
                    | ok r c6 =>
                      rw [e6] at e2 oe
                      dsimp only at e2
                      cases e7 : toVal c6 r with
                      | none => rw [e7] at e2; cases e2
                      | some pq =>
                        obtain ⟨d7, c7⟩ := pq
                        rw [e7] at e2
                        dsimp only at e2
                        by_cases hz : acc.length < sizeLine
                        · rw [if_pos hz] at e2
                          refine oe _ fun v η6 M6 H6 s6 x6 z6 => ?_
                          obtain ⟨M7, s7, x7, r7⟩ := toVal_ok s6 z6 e7
                          have xx := x3.trans (x5.trans (x8.trans (x6.trans x7)))
                          obtain ⟨g1, g2, g3, g4, g5⟩ := fin s7 xx
                          have hl : xs.length = acc.length := by have := congrArg List.length hr2.1; simpa using this
                          have hr3 := rep_setK (k := k) r7 hr2.1 (hr2.2.mono xx)
                          refine ⟨xs, k, ek, g2, by rw [hl]; exact hz, η6, M7, c7, putK xs k v, setK acc k d7, ?_, x2.trans xx, upd_same, hr3, g3, g4, g5, e2⟩
                          exact g1.writeTmp g3 f2 g4 g5
                        · rw [if_neg hz] at e2; cases e2
      · have e : i = ds.length := by omega
        subst e
        rw [List.drop_length] at e2
        cases e2
        refine .inl ⟨(hj1 _ H2 hsame).2 (Nat.le_refl _), hQ _ η2 M2 H2 (s1.restore x2 no s2) x2 ⟨Dn, rfl, hM2, f2, hn2, fun ⟨j, d, o1, o2⟩ => ?_, xs, hD2, hr2⟩⟩
        rcases restR_get o1 with ⟨z1, z2⟩ | ⟨z1, z2⟩
        · have := List.all_eq_true.mp no j z1
          rw [← z2] at this; cases this
        · refine ho2 ⟨j, d, ?_, by rw [wipe_out z1]; exact o2⟩
          have hl : j < (wipeR cF.ρ vs).length := by rw [wipeR_length]; exact (List.getElem?_eq_some_iff.mp z2).1
          rcases wipeR_get (List.getElem?_eq_getElem hl) with ⟨h, _⟩ | ⟨_, h⟩
          · exact absurd h z1
          · show (wipeR cF.ρ vs)[j]? = _
            rw [List.getElem?_eq_getElem hl]
            rw [z2] at h
            exact h.symm
theorem ex_dcomp {scope : Scope} (own : List (Str × Nat)) {mi : Cf → Res (List D)} {g : D → Cf → Option Cf} {js : List Nat} {t : Cf → Res Bool} {mk : Em} (hc : X.calm = true) (hN : X.N.Nodup) (ok : BlkOk X.N X.env.scope scope own)
    (hi : Ix X tg it mi) (hg : ∀ s Hb C cl fp, Tgt (blkC X scope s Hb C cl fp) tg g js) (ht : ∀ s Hb C cl fp, Txs (blkC X scope s Hb C cl fp) ifs t) (hk : ∀ s Hb C cl fp, Ex (blkC X scope s Hb C cl fp) kx mk) (he : ∀ s Hb C cl fp, Ex (blkC X scope s Hb C cl fp) elt me)
    (hj : ∀ j ∈ js, j ∈ own.map (·.2) := by decide) (hs : ∀ x, foldedSetIterable it X.env x = pure x := by intro _; rfl) : Ex X (.DictComp kx elt [⟨tg, it, ifs, 0⟩] scope pos) (mDComp (own.map (·.2)) mi g t mk me) := by
  refine ⟨fun E η M c σ H s => ?_⟩
  refine dcomp_core hi hg hj ht hk he s fun Q hq => pe_we (pe_dc hc hN wi_pi ok (fun s H C cl fp => ⟨fun pins st σ H v u Q I r h => h s _ C cl fp pins st u I r⟩) (fun s H C cl fp => ⟨fun pins st σ H Q I h => h s _ C cl fp pins st I⟩) (fun s H C cl fp => ⟨fun pins st σ H Q I h => h s _ C cl fp pins st I⟩) (fun s H C cl fp => ⟨fun pins st σ H Q I h => h s _ C cl fp pins st I⟩) hs) hq
end
end LH
/-! LHSortD: sorted of a dict with texts as keys. -/
namespace LH
open PySem PySem.Spec PyProof.Rows L2
def leS (x y : Str) : Bool := decide (x.cps.toList ≤ y.cps.toList)
def sortS (ks : List Str) : List Str := ks.mergeSort leS
theorem leS_trans (x y z : Str) (h1 : leS x y = true) (h2 : leS y z = true) : leS x z = true := by
  unfold leS at *
  rw [decide_eq_true_eq] at *
  exact List.le_trans h1 h2
theorem leS_total (x y : Str) : (leS x y || leS y x) = true := by
  unfold leS
  rw [Bool.or_eq_true, decide_eq_true_eq, decide_eq_true_eq]
  exact List.le_total _ _
theorem leS_anti {x y : Str} (h1 : leS x y = true) (h2 : leS y x = true) : x = y := by
  unfold leS at *
  rw [decide_eq_true_eq] at *
  exact TL.ext_tl (List.le_antisymm h1 h2)
theorem perm_uniq : ∀ {l1 l2 : List Str}, l1.Perm l2 → l1.Pairwise (fun x y => leS x y = true) → l2.Pairwise (fun x y => leS x y = true) → l1 = l2
  | [], l2, hp, _, _ => by rw [List.nil_perm.mp hp]
  | a :: l1, [], hp, _, _ => by cases hp.eq_nil
  | a :: l1, b :: l2, hp, h1, h2 => by
    have e : a = b := by
      rw [List.pairwise_cons] at h1 h2
      have ha : a ∈ b :: l2 := hp.subset List.mem_cons_self
      have hb : b ∈ a :: l1 := hp.symm.subset List.mem_cons_self
      rcases List.mem_cons.mp ha with e | ha
      · exact e
      · rcases List.mem_cons.mp hb with e | hb
        · exact e.symm
        · exact leS_anti (h1.1 b hb) (h2.1 a ha)
    subst e
    rw [perm_uniq (List.Perm.cons_inv hp) (List.Pairwise.of_cons h1) (List.Pairwise.of_cons h2)]
theorem ltCps_lt : ∀ (a b : List Nat), a < b → ltCps a b = true
  | [], [], h => absurd h (List.lt_irrefl _)
  | [], _ :: _, _ => rfl
  | _ :: _, [], h => absurd h (List.not_lt_nil _)
  | a :: r, b :: t, h => by
    show (a < b || (a == b && ltCps r t)) = true
    rcases List.cons_lt_cons_iff.mp h with h | ⟨h, h2⟩
    · simp [h]
    · subst h
      simp [ltCps_lt r t h2]
theorem rising_pw : ∀ (r : List Str) (p : Str), risingS p r = true → (p :: r).Pairwise (fun x y => leS x y = true)
  | [], p, _ => by simp
  | x :: r, p, h => by
    have h : (!ltCps x.cps.toList p.cps.toList && risingS x r) = true := h
    rw [Bool.and_eq_true] at h
    have ih := rising_pw r x h.2
    have hx : leS p x = true := by
      unfold leS
      rw [decide_eq_true_eq]
      intro z
      have h1 := h.1
      have := ltCps_lt _ _ z
      rw [this] at h1
      cases h1
    rw [List.pairwise_cons]
    refine ⟨fun y hy => ?_, ih⟩
    rcases List.mem_cons.mp hy with rfl | hy
    · exact hx
    · exact leS_trans _ _ _ hx ((List.pairwise_cons.mp ih).1 y hy)
theorem sortedS_pw {ys : List Str} (h : sortedS ys = true) : ys.Pairwise (fun x y => leS x y = true) := by
  cases ys with
  | nil => exact .nil
  | cons x r => exact rising_pw r x h
theorem sortS_pw (ks : List Str) : (sortS ks).Pairwise (fun x y => leS x y = true) := List.pairwise_mergeSort leS_trans leS_total ks
theorem sortS_perm (ks : List Str) : (sortS ks).Perm ks := List.mergeSort_perm ks leS
theorem sortS_uniq {ys ks : List Str} (hp : ys.Perm ks) (hs : sortedS ys = true) : ys = sortS ks := perm_uniq (hp.trans (sortS_perm ks).symm) (sortedS_pw hs) (sortS_pw ks)
theorem sortS_self {ys : List Str} (h : ys.Pairwise (fun x y => leS x y = true)) : sortS ys = ys := perm_uniq (sortS_perm ys) (sortS_pw ys) h
def strKs : List (Key × D) → Option (List Str)
  | [] => some []
  | (.inr x, _) :: r => (strKs r).map (x :: ·)
  | (.inl _, _) :: _ => none
theorem strKs_map : ∀ {kvs : List (Key × D)} {ks : List Str}, strKs kvs = some ks → kvs.map (·.1) = ks.map Sum.inr
  | [], ks, h => by cases h; rfl
  | (.inr x, _) :: r, ks, h => by
    have h : (strKs r).map (x :: ·) = some ks := h
    obtain ⟨ks', h1, rfl⟩ := Option.map_eq_some_iff.mp h
    simp only [List.map_cons, strKs_map h1]
  | (.inl _, _) :: _, _, h => by cases h
def gSortedK (d : D) : Option Rv := match d with
  | .dct kvs => (strKs kvs).bind fun ks => if ks.length < 64 then some (.nw (.lst ((sortS ks).map D.str))) else none
  | d => gSorted d
theorem repL_strs2 {K : Fg} {mg : Mg} {η : List Addr} {M : Hp} : ∀ ys : List Str, RepL K mg η M (ys.map V.str) (ys.map D.str)
  | [] => .nil
  | y :: ys => .cons (.str y) (repL_strs2 ys)
theorem c_sortedK {X : Cx} (hc : X.calm = true) (hu : X.A.units + 70 < cLine) : OpN X (Wc X (.builtin "sorted")) (g1 gSortedK) := by
  refine opN1 fun E η M c σ H x dx r s h1 e Q hQ => ?_
  unfold gSortedK at e
  split at e
  · rename_i kvs
    obtain ⟨ks, e1, e2⟩ := Option.bind_eq_some_iff.mp e
    split at e2
    · rename_i hl
      cases e2
      obtain ⟨a, kv, rfl, q, hk, hr⟩ := h1.dct s.sub
      refine call_wc (L2.call_sortedD hc) ⟨a, kv, ks, rfl, .of q, by rw [hk]; exact strKs_map e1, hl, fun ys p hp hs hH => ?_⟩
      rw [sortS_uniq hp hs]
      exact pst_nw s hQ (fun p hp => ⟨_, upd_same, repL_strs2 _⟩) p hH
    · cases e2
  · have h := c_sorted (X := X) hu
    exact (h E η M c σ H [x] [dx] r s (.cons h1 .nil) e Q hQ)
end LH
/-! LHLib2: readings of objects, dict comprehensions, sorted. -/
namespace LH
open PySem PySem.Spec PyProof.Rows L2
section
variable {c : Cf}
theorem wE_sFldS {g : D → D → Option D} {mv mo : Em} {Q : Fl → Cf → Prop} : wE (sFldS g mv mo c) Q = wE (mv c) fun rv c1 => wE (mo c1) fun ro c2 => oE (toVal c2 (settle rv)) fun p => oE (cont p.2 (settle ro)) fun d => oE (g d p.1) fun d' => oE (putB p.2 (settle ro) d') fun c4 => Q .nx c4 := by
  unfold sFldS
  rw [wE_bind, wE_st]
  congr 1
  funext rv c1
  rw [wE_bind, wE_st]
  congr 1
  funext ro c2
  cases toVal c2 (settle rv) with
  | none => rfl
  | some p =>
    obtain ⟨dv, c3⟩ := p
    simp only [oE_some]
    cases cont c3 (settle ro) with
    | none => rfl
    | some d =>
      simp only [oE_some]
      cases g d dv with
      | none => rfl
      | some d' =>
        simp only [oE_some]
        cases putB c3 (settle ro) d' <;> rfl
theorem wE_mMeth {cn m : Str} {n : Nat} {F : Fm} {mo : Em} {ms : Cf → Res (List Rv)} {Q : Rv → Cf → Prop} : wE (mMeth cn m n F mo ms c) Q = wE (mo c) fun ro c1 => oE (view c1 (settle ro)) fun d => match d with
    | .obj c' fds => (c' = cn ∧ fds.lookup m = none) ∧ wE (ms c1) fun rs c2 => oE (vals c2 (settle ro :: rs)) fun p => p.1.length = n ∧ wE (F p.1 p.2.S) fun r c4 => Q r ⟨p.2.ρ, c4.S⟩
    | _ => False := by
  unfold mMeth
  rw [wE_bind, wE_st]
  congr 1
  funext ro c1
  cases view c1 (settle ro) with
  | none => rfl
  | some d =>
    cases d with
    | obj c' fds =>
      simp only [oE_some]
      by_cases h : c' = cn ∧ fds.lookup m = none
      · rw [if_pos h, wE_bind]
        simp only [h, and_self, true_and]
        congr 1
        funext rs c2
        cases vals c2 (settle ro :: rs) with
        | none => rfl
        | some p =>
          obtain ⟨ds, c3⟩ := p
          simp only [oE_some]
          by_cases hl : ds.length = n
          · rw [if_pos hl]
            simp only [hl, true_and]
            cases F ds c3.S <;> rfl
          · rw [if_neg hl]
            simp [hl, wE]
      · rw [if_neg h]
        refine propext ⟨fun z => z.elim, fun z => absurd z.1 h⟩
    | _ => rfl
theorem wE_mMake {cn : Str} {n : Nat} {F : Fm} {ms : Cf → Res (List Rv)} {Q : Rv → Cf → Prop} : wE (mMake cn n F ms c) Q = wE (ms c) fun rs c1 => oE (vals c1 rs) fun p => p.1.length + 1 = n ∧ wE (mkRes cn F p.1 p.2) Q := by
  unfold mMake
  rw [wE_bind]
  congr 1
  funext rs c1
  cases vals c1 rs with
  | none => rfl
  | some p =>
    obtain ⟨ds, c2⟩ := p
    simp only [oE_some]
    by_cases hl : ds.length + 1 = n
    · rw [if_pos hl]; simp only [hl, true_and]
    · rw [if_neg hl]; simp [hl, wE]
theorem wE_mDComp {vs : List Nat} {mi : Cf → Res (List D)} {g : D → Cf → Option Cf} {t : Cf → Res Bool} {mk me : Em} {Q : Rv → Cf → Prop} : wE (mDComp vs mi g t mk me c) Q = wE (mi c) fun ds c1 => noOw c1.ρ vs = true ∧ oE (compDD g t mk me vs ds [] c1) fun p => Q (.nw (.dct p.1)) { p.2 with ρ := restR c1.ρ p.2.ρ vs } := by
  unfold mDComp
  rw [wE_bind]
  congr 1
  funext ds c1
  rw [wE_ite]
  by_cases h : noOw c1.ρ vs = true
  · rw [if_pos h]
    cases compDD g t mk me vs ds [] c1 <;> simp [h]
  · rw [if_neg h]; simp [h]
end
theorem mkRes_ok {cn : Str} {F : Fm} {ds : List D} {c : Cf} {d : D} (h : F (.hdl c.S.length :: ds) (c.S ++ [.obj cn []]) = .ok (.fz .non) ⟨[], c.S ++ [d]⟩) (hS : c.S.all (noH c.S.length) = true) (hd : noH c.S.length d = true) : mkRes cn F ds c = .ok (.nw d) c := by
  unfold mkRes
  rw [h]
  have e1 : (c.S ++ [d]).length = c.S.length + 1 := by simp
  have e2 : (c.S ++ [d]).all (noH c.S.length) = true := by rw [List.all_append, hS]; simp [hd]
  have e3 : (c.S ++ [d])[c.S.length]? = some d := by simp
  dsimp only
  rw [if_pos ⟨e1, e2⟩, e3, List.take_left]
theorem app_get {S : List D} {x : D} : (S ++ [x])[S.length]? = some x := by simp
theorem app_set {S : List D} {x y : D} : (S ++ [x]).set S.length y = S ++ [y] := by simp
theorem setK_new {κ : Type} [DecidableEq κ] {kvs : List (κ × D)} {k : κ} {d : D} (h : k ∉ kvs.map (·.1)) : setK kvs k d = kvs ++ [(k, d)] := by
  unfold setK
  rw [if_neg]
  intro z
  rw [List.any_eq_true] at z
  obtain ⟨p, hp, e⟩ := z
  exact h (List.mem_map.mpr ⟨p, hp, by simpa using e⟩)
/-- a dict comprehension with one name, nothing changed, its keys distinct -/
theorem dcomp_ok {c : Cf} {mi : Cf → Res (List D)} {j : Nat} {mk me : Em} (k : D → Key) (f : D → D) (ρ : List Sl) (S : List D) (s0 : Sl) (ds : List D) {Q : Rv → Cf → Prop} (hi : wE (mi c) fun ds1 c1 => ds1 = ds ∧ c1 = ⟨ρ, S⟩) (hj : ρ[j]? = some s0) (h0 : ∀ d, s0 ≠ .ow d) (hl : ds.length ≤ sizeLine)
    (hk : ∀ d ∈ ds, wE (mk ⟨ρ.set j (.fz d), S⟩) fun r c => c = ⟨ρ.set j (.fz d), S⟩ ∧ (view c r).bind keyD = some (k d))
    (hm : ∀ d ∈ ds, wE (me ⟨ρ.set j (.fz d), S⟩) fun r c => toVal c r = some (f d, ⟨ρ.set j (.fz d), S⟩))
    (hn : (ds.map k).Nodup) (hQ : Q (.nw (.dct (ds.map fun d => (k d, f d)))) ⟨ρ, S⟩) : wE (mDComp [j] mi (gFz j) tmYes mk me c) Q := by
  have hjl : j < ρ.length := (List.getElem?_eq_some_iff.mp hj).1
  have gd : ρ.getD j .un = s0 := by rw [List.getD_eq_getElem?_getD, hj]; rfl
  rw [wE_mDComp]
  refine wE_mono hi fun ds1 c1 ⟨e1, e2⟩ => ?_
  subst e1 e2
  have nw : noOw ρ [j] = true := by
    unfold noOw
    simp only [List.all_cons, List.all_nil, Bool.and_true]
    rw [gd]
    cases s0 with
    | ow d => exact absurd rfl (h0 d)
    | _ => rfl
  refine ⟨nw, ?_⟩
  have key : ∀ (rest done : List D) (x : Sl), done ++ rest = ds1 → ∃ y, compDD (gFz j) tmYes mk me [j] rest (done.map fun d => (k d, f d)) ⟨ρ.set j x, S⟩ = some (ds1.map fun d => (k d, f d), ⟨ρ.set j y, S⟩) := by
    intro rest
    induction rest with
    | nil => intro done x e; rw [List.append_nil] at e; subst e; exact ⟨x, rfl⟩
    | cons d rest ih =>
      intro done x e
      have hd : d ∈ ds1 := by rw [← e]; simp
      have ew : wipeR (ρ.set j x) [j] = ρ.set j .un := by simp [wipeR, List.set_set]
      have eg : gFz j d ⟨ρ.set j .un, S⟩ = some ⟨ρ.set j (.fz d), S⟩ := by
        unfold gFz
        rw [if_pos (by simpa using hjl), List.set_set]
      have kk := hk d hd
      have mm := hm d hd
      unfold compDD
      dsimp only
      rw [ew, eg]
      dsimp only [tmYes]
      cases e3 : mk ⟨ρ.set j (.fz d), S⟩ with
      | stuck => rw [e3] at kk; exact kk.elim
      | err y c => rw [e3] at kk; exact kk.elim
      | ok r c =>
        rw [e3] at kk
        obtain ⟨rfl, kk⟩ := kk
        obtain ⟨dk, v1, v2⟩ := Option.bind_eq_some_iff.mp kk
        dsimp only
        rw [v1]
        dsimp only
        rw [v2]
        dsimp only
        cases e4 : me ⟨ρ.set j (.fz d), S⟩ with
        | stuck => rw [e4] at mm; exact mm.elim
        | err y c => rw [e4] at mm; exact mm.elim
        | ok r4 c4 =>
          rw [e4] at mm
          have mm : toVal c4 r4 = _ := mm
          dsimp only
          rw [mm]
          dsimp only
          have hlt : (done.map fun d => (k d, f d)).length < sizeLine := by
            rw [List.length_map]
            have : ds1.length = done.length + (rest.length + 1) := by rw [← e]; simp
            omega
          rw [if_pos hlt, setK_new]
          · have := ih (done ++ [d]) (.fz d) (by rw [← e]; simp)
            rw [List.map_append] at this
            exact this
          · rw [List.map_map]
            intro z
            have e5 : ds1.map k = done.map k ++ (k d :: rest.map k) := by rw [← e]; simp
            rw [e5, List.nodup_append] at hn
            obtain ⟨p, hp, hp2⟩ := List.mem_map.mp z
            exact hn.2.2 (k d) (List.mem_map.mpr ⟨p, hp, hp2⟩) (k d) List.mem_cons_self rfl
  have e0 : (⟨ρ, S⟩ : Cf) = ⟨ρ.set j s0, S⟩ := by
    congr 1
    apply List.ext_getElem?
    intro i
    by_cases hi : i = j
    · subst hi; rw [List.getElem?_set_self hjl, hj]
    · rw [List.getElem?_set_ne (Ne.symm hi)]
  obtain ⟨y, hy⟩ := key ds1 [] s0 rfl
  rw [← e0] at hy
  have hy' : compDD (gFz j) tmYes mk me [j] ds1 [] ⟨ρ, S⟩ = _ := hy
  rw [hy', oE_some]
  have er : restR ρ (ρ.set j y) [j] = ρ := by
    simp only [restR, List.set_set, gd]
    apply List.ext_getElem?
    intro i
    by_cases hi : i = j
    · subst hi; rw [List.getElem?_set_self hjl, hj]
    · rw [List.getElem?_set_ne (Ne.symm hi)]
  show Q (.nw (.dct (ds1.map fun d => (k d, f d)))) ⟨restR ρ (ρ.set j y) [j], S⟩
  rw [er]
  exact hQ
/-! ### sorted -/
theorem gSorted_id {ds : List D} (h : okSort ds = true) (hp : ds.Pairwise (fun a b => PySem.W.dataLe false encD a b = true)) : g1 gSorted [.lst ds] = some (.nw (.lst ds)) := by
  show (sortD ds).map _ = _
  unfold sortD
  rw [if_pos h, List.mergeSort_of_pairwise hp]
  rfl
theorem dle_str {x y : Str} : PySem.W.dataLe false encD (.str x) (.str y) = leS x y := by
  rw [PySem.W.dataLe_eq]
  show (!PySem.W.dataLt (.str y) (.str x)) = _
  rw [PySem.W.dataLt_str]
  unfold leS
  rw [← decide_not]
  rfl
theorem okSort_strs (xs : List Str) : okSort (xs.map D.str) = true := by
  unfold okSort
  simp only [Bool.and_eq_true, List.all_eq_true]
  refine ⟨fun d hd => ?_, fun d hd d' hd' => ?_⟩
  · obtain ⟨x, _, rfl⟩ := List.mem_map.mp hd
    simp [encD, toPy, notNon, PyData.depth]
  · obtain ⟨x, _, rfl⟩ := List.mem_map.mp hd
    obtain ⟨y, _, rfl⟩ := List.mem_map.mp hd'
    simp [encD, toPy, PySem.W.alike]
theorem sorted_strs_id {xs : List Str} (h : xs.Pairwise (fun x y => leS x y = true)) : g1 gSorted [.lst (xs.map D.str)] = some (.nw (.lst (xs.map D.str))) :=
  gSorted_id (okSort_strs xs) (List.pairwise_map.mpr (h.imp fun {x y} hxy => by rw [dle_str]; exact hxy))
theorem mergeSort_map {α β : Type} {f : α → β} {r : α → α → Bool} {s : β → β → Bool} (h : ∀ a b, s (f a) (f b) = r a b) (xs : List α) : (xs.map f).mergeSort s = (xs.mergeSort r).map f := (List.map_mergeSort (fun a _ b _ => (h a b).symm)).symm
theorem sorted_strs {xs : List Str} : g1 gSorted [.lst (xs.map D.str)] = some (.nw (.lst ((sortS xs).map D.str))) := by
  show (sortD (xs.map D.str)).map _ = _
  unfold sortD
  rw [if_pos (okSort_strs xs), mergeSort_map (r := leS) fun a b => dle_str]
  rfl
end LH
namespace LH
open PySem PySem.Spec PyProof.Rows L2
/-! the defs of the text, printed by gen.py -/
def top (i : Nat) : Stmt := PySem.Challenge.pw_likehouses_k09_steps_that_can_be_done.main.body.getD i (.Pass ⟨0, 0, 0, 0⟩)
section
variable {P : Program} {w : World} {K : Fg} {mg : Mg} {base : Heap}
/-! _law_at -/
abbrev N__law_at : List Str := ["street", "house", "at"]
theorem nd__law_at : N__law_at.Nodup := by decide +kernel
theorem sc__law_at : FnScope N__law_at ["street", "house"] (defScope (top 18)) := ⟨rfl, rfl, rfl, by decide +kernel, rfl, by decide +kernel, by decide +kernel⟩
def b__law_at : Sm := (bCons (sSetF 2 (mBin gSub (mVar 1) (mBin gIx (mVar 0) (mC (.str "first")))))
  (bCons (sIf (mBool (mBin (gCmpI fun i j => decide (i < j)) (mVar 2) (mC (.int 0)))) (sRet (mBin gIx (mVar 0) (mC (.str "left")))) bNil)
  (sRet (mIfE (mBool (mBin (gCmpI fun i j => decide (i < j)) (mVar 2) (mCB (g1 gLen) (maCons (mBin gIx (mVar 0) (mC (.str "odd"))) maNil)))) (mBin gIx (mBin gIx (mVar 0) (mC (.str "odd"))) (mVar 2)) (mBin gIx (mVar 0) (mC (.str "right")))))))
def m__law_at : Fm := runF 3 b__law_at
theorem fn__law_at {f : Addr} {fd : FuncData} (F : Fun K "_law_at" "_law_at" (top 18) f fd) (z_len : mg "len" = none) : FnG P w K mg base (L2.CX P w) 1 f fd ["street", "house"] (spF K mg 2 m__law_at) :=
  fn_runE (mb := b__law_at) F sc__law_at rfl rfl fun cdv A outer s H Ex hr =>
    (bx_cons (sx_setF 2 nd__law_at (ex_bin o_sub (ex_var 1) (ex_ix (o_ix (hU hr (by decide))) (ex_var 0) ex_str)))
      (bx_cons (sx_if (tx_cmp o_lt (ex_var 2) ex_int) (bx_one (sx_ret (ex_ix (o_ix (hU hr (by decide))) (ex_var 0) ex_str))) bx_nil)
      (bx_one (sx_ret (ex_if (tx_cmp o_lt (ex_var 2) (ex_callB c_len rfl z_len (by decide +kernel) (ax_cons (ex_ix (o_ix (hU hr (by decide))) (ex_var 0) ex_str) ax_nil st_Subscript) (he := st_Subscript) (hpl := (pl_of pl_nil)))) (ex_ix (o_ix (hU hr (by decide))) (ex_ix (o_ix (hU hr (by decide))) (ex_var 0) ex_str) (ex_var 2)) (ex_ix (o_ix (hU hr (by decide))) (ex_var 0) ex_str))))))
/-! _law_doors -/
abbrev N__law_doors : List Str := ["street", "stand", "house", "room", "found", "door"]
theorem nd__law_doors : N__law_doors.Nodup := by decide +kernel
theorem sc__law_doors : FnScope N__law_doors ["street", "stand"] (defScope (top 19)) := ⟨rfl, rfl, rfl, by decide +kernel, rfl, by decide +kernel, by decide +kernel⟩
def b__law_doors : Sm := (bCons (sUnp [2, 3] (mVar 1))
  (bCons (sSet 4 (mLst maNil))
  (bCons (sFor (mSeq (mBin gIx (mCall 2 m__law_at (maCons (mVar 0) (maCons (mVar 2) maNil))) (mC (.str "doors")))) (gFz 5) (sIf (tmAnd (mBool (mBin gEq (mBin gIx (mVar 5) (mC (.int 1))) (mVar 3))) (mBool (mBin (gIn false) (mBin gIx (mVar 5) (mC (.int 3))) (mBin gIx (mCall 2 m__law_at (maCons (mVar 0) (maCons (mBin gAdd (mVar 2) (mBin gIx (mVar 5) (mC (.int 2)))) maNil))) (mC (.str "rooms")))))) (sDrop (mMut "list" gAppend (mVar 4) (maCons (mVar 5) maNil))) bNil))
  (sRet (mVar 4)))))
def m__law_doors : Fm := runF 6 b__law_doors
theorem fn__law_doors {f : Addr} {fd : FuncData} (F : Fun K "_law_doors" "_law_doors" (top 19) f fd) (f__law_at : Fn P w K mg base "_law_at" 1 2 m__law_at) : FnG P w K mg base (L2.CX P w) 2 f fd ["street", "stand"] (spF K mg 2 m__law_doors) :=
  fn_runE (mb := b__law_doors) F sc__law_doors rfl rfl fun cdv A outer s H Ex hr =>
    (bx_cons (sx_unp rfl (nml_cons 2 nd__law_doors (nml_cons 3 nd__law_doors NmL.nil)) (ex_var 1))
      (bx_cons (sx_set 4 nd__law_doors (ex_lst ax_nil))
      (bx_cons (sx_for PassesOwn.leaving rfl (ix_seq (ex_ix (o_ix (hU hr (by decide))) (ex_call f__law_at (hr.mono (by decide)) (ax_cons (ex_var 0) (ax_cons (ex_var 2) ax_nil st_Name) st_Name) (he := st_Name) (hpl := (pl_of (pl_Name pl_nil)))) ex_str)) (tg_name 5 nd__law_doors) (bx_one (sx_if (txw_tx (txw_and (tx_cmp (o_eq (hU hr (by decide))) (ex_ix (o_ix (hU hr (by decide))) (ex_var 5) ex_int) (ex_var 3)) (txw_and1 (tx_cmp (o_in (hU hr (by decide))) (ex_ix (o_ix (hU hr (by decide))) (ex_var 5) ex_int) (ex_ix (o_ix (hU hr (by decide))) (ex_call f__law_at (hr.mono (by decide)) (ax_cons (ex_var 0) (ax_cons (ex_bin o_add (ex_var 2) (ex_ix (o_ix (hU hr (by decide))) (ex_var 5) ex_int)) ax_nil st_BinOp) st_Name) (he := st_Name) (hpl := (pl_of (pl_BinOp pl_nil)))) ex_str))))) (bx_one (sx_expr (ex_mut m_append PySem.F.plainAttrs_list PySem.F.slot_list_append PySem.F.type_list_append (ex_var 4) (ax_cons (ex_var 5) ax_nil st_Name)))) bx_nil)))
      (bx_one (sx_ret (ex_var 4))))))
/-! Sort.__init__ -/
abbrev N_Sort___init__ : List Str := ["self", "rooms", "doors", "door"]
theorem nd_Sort___init__ : N_Sort___init__.Nodup := by decide +kernel
theorem sc_Sort___init__ : FnScope N_Sort___init__ ["self", "rooms", "doors"] (defScope (inClass (top 2) 0)) := ⟨rfl, rfl, rfl, by decide +kernel, rfl, by decide +kernel, by decide +kernel⟩
theorem blk_Sort___init___0 : BlkOk N_Sort___init__ (defScope (inClass (top 2) 0)) ({ kind := PySem.ScopeKind.function, names := [ (PySem.Str.ofString ".0", PySem.NameKind.local), (PySem.Str.ofString "door", PySem.NameKind.local), (PySem.Str.ofString "tuple", PySem.NameKind.globalImplicit)], isGenerator := false, isCoroutine := false, more := [] : PySem.Scope } : Scope) [("door", 3)] := L2.blkOk_by (by decide +kernel)
def b_Sort___init__ : Sm := (bCons (sFldS (gStF ["Sort"] "chambers") (mCB (g1 gSorted) (maCons (mVar 1) maNil)) (mVar 0))
  (sFldS (gStF ["Sort"] "gates") (mDComp [3] (mSeq (mCB (g1 gSorted) (maCons (mVar 2) maNil))) (gFz 3) tmYes (mBin gIx (mVar 3) (mC (.int 0))) (mCB (g1 gTuple) (maCons (mVar 3) maNil))) (mVar 0)))
def m_Sort___init__ : Fm := runF 4 b_Sort___init__
theorem fn_Sort___init__ {f : Addr} {fd : FuncData} (F : Fun K "__init__" "Sort.__init__" (inClass (top 2) 0) f fd) (z_sorted : mg "sorted" = none) (z_tuple : mg "tuple" = none) (k_chambers : FldOk K mg ["Sort"] "chambers") (k_gates : FldOk K mg ["Sort"] "gates") : FnG P w K mg base (L2.CX P w) 1 f fd ["self", "rooms", "doors"] (spF K mg 3 m_Sort___init__) :=
  fn_runE (mb := b_Sort___init__) F sc_Sort___init__ rfl rfl fun cdv A outer s H Ex hr =>
    (bx_cons (sx_fld k_chambers (ex_var 0) (ex_callB (c_sorted (hU hr (by decide))) rfl z_sorted (by decide +kernel) (ax_cons (ex_var 1) ax_nil st_Name) (he := st_Name) (hpl := (pl_of pl_nil))))
      (bx_one (sx_fld k_gates (ex_var 0) (ex_dcomp [("door", 3)] rfl nd_Sort___init__ blk_Sort___init___0 (ix_seq (ex_callB (c_sorted (hU hr (by decide))) rfl z_sorted (by decide +kernel) (ax_cons (ex_var 2) ax_nil st_Name) (he := st_Name) (hpl := (pl_of pl_nil)))) (fun _ _ _ _ _ => (tg_name 3 nd_Sort___init__)) (fun _ _ _ _ _ => txs_nil) (fun _ _ _ _ _ => (ex_ix (o_ix (hU hr (by decide))) (ex_var 3) ex_int)) (fun _ _ _ _ _ => (ex_callTy c_tuple rfl z_tuple (by decide +kernel) (ax_cons (ex_var 3) ax_nil st_Name) (he := st_Name) (hpl := (pl_of pl_nil))))))))
/-! Street.__init__ -/
abbrev N_Street___init__ : List Str := ["self", "left", "first", "odd", "right"]
theorem nd_Street___init__ : N_Street___init__.Nodup := by decide +kernel
theorem sc_Street___init__ : FnScope N_Street___init__ ["self", "left", "first", "odd", "right"] (defScope (inClass (top 3) 0)) := ⟨rfl, rfl, rfl, by decide +kernel, rfl, by decide +kernel, by decide +kernel⟩
def b_Street___init__ : Sm := (bCons (sFldS (gStF ["Street"] "left_one") (mVar 1) (mVar 0))
  (bCons (sFldS (gStF ["Street"] "right_one") (mVar 4) (mVar 0))
  (bCons (sFldS (gStF ["Street"] "begin") (mVar 2) (mVar 0))
  (sFldS (gStF ["Street"] "strange") (mCB (g1 gList) (maCons (mVar 3) maNil)) (mVar 0)))))
def m_Street___init__ : Fm := runF 5 b_Street___init__
theorem fn_Street___init__ {f : Addr} {fd : FuncData} (F : Fun K "__init__" "Street.__init__" (inClass (top 3) 0) f fd) (z_list : mg "list" = none) (k_begin : FldOk K mg ["Street"] "begin") (k_left_one : FldOk K mg ["Street"] "left_one") (k_right_one : FldOk K mg ["Street"] "right_one") (k_strange : FldOk K mg ["Street"] "strange") : FnG P w K mg base (L2.CX P w) 1 f fd ["self", "left", "first", "odd", "right"] (spF K mg 5 m_Street___init__) :=
  fn_runE (mb := b_Street___init__) F sc_Street___init__ rfl rfl fun cdv A outer s H Ex hr =>
    (bx_cons (sx_fld k_left_one (ex_var 0) (ex_var 1))
      (bx_cons (sx_fld k_right_one (ex_var 0) (ex_var 4))
      (bx_cons (sx_fld k_begin (ex_var 0) (ex_var 2))
      (bx_one (sx_fld k_strange (ex_var 0) (ex_callTy c_list rfl z_list (by decide +kernel) (ax_cons (ex_var 3) ax_nil st_Name) (he := st_Name) (hpl := (pl_of pl_nil))))))))
/-! _law_made -/
abbrev N__law_made : List Str := ["street", "sorts", "one"]
theorem nd__law_made : N__law_made.Nodup := by decide +kernel
theorem sc__law_made : FnScope N__law_made ["street"] (defScope (top 17)) := ⟨rfl, rfl, rfl, by decide +kernel, rfl, by decide +kernel, by decide +kernel⟩
theorem blk__law_made_0 : BlkOk N__law_made (defScope (top 17)) ({ kind := PySem.ScopeKind.function, names := [ (PySem.Str.ofString ".0", PySem.NameKind.local), (PySem.Str.ofString "one", PySem.NameKind.local), (PySem.Str.ofString "Sort", PySem.NameKind.globalImplicit)], isGenerator := false, isCoroutine := false, more := [] : PySem.Scope } : Scope) [("one", 2)] := L2.blkOk_by (by decide +kernel)
def b__law_made : Sm := (bCons (sSetF 1 (mComp [2] (mSeq (mBin gAdd (mLst (maCons (mBin gIx (mVar 0) (mC (.str "left"))) (maCons (mBin gIx (mVar 0) (mC (.str "right"))) maNil))) (mBin gIx (mVar 0) (mC (.str "odd"))))) (gFz 2) tmYes (mMake "Sort" 3 m_Sort___init__ (maCons (mBin gIx (mVar 2) (mC (.str "rooms"))) (maCons (mBin gIx (mVar 2) (mC (.str "doors"))) maNil)))))
  (sRet (mMake "Street" 5 m_Street___init__ (maCons (mBin gIx (mVar 1) (mC (.int 0))) (maCons (mBin gIx (mVar 0) (mC (.str "first"))) (maCons (mSl (mVar 1) (pSome (mC (.int 2))) pNo) (maCons (mBin gIx (mVar 1) (mC (.int 1))) maNil)))))))
def m__law_made : Fm := runF 3 b__law_made
theorem fn__law_made {f : Addr} {fd : FuncData} (F : Fun K "_law_made" "_law_made" (top 17) f fd) (f_Sort___init__ : FnI P w K mg base "Sort" 1 3 m_Sort___init__) (f_Street___init__ : FnI P w K mg base "Street" 1 5 m_Street___init__) : FnG P w K mg base (L2.CX P w) 3 f fd ["street"] (spF K mg 1 m__law_made) :=
  fn_runE (mb := b__law_made) F sc__law_made rfl rfl fun cdv A outer s H Ex hr =>
    (bx_cons (sx_setCompF 1 [("one", 2)] rfl nd__law_made blk__law_made_0 (ix_seq (ex_bin o_add (ex_lst (ax_cons (ex_ix (o_ix (hU hr (by decide))) (ex_var 0) ex_str) (ax_cons (ex_ix (o_ix (hU hr (by decide))) (ex_var 0) ex_str) ax_nil st_Subscript) st_Subscript)) (ex_ix (o_ix (hU hr (by decide))) (ex_var 0) ex_str))) (fun _ _ _ _ _ => (tg_name 2 nd__law_made)) (fun _ _ _ _ _ => txs_nil) (fun _ _ _ _ _ => (ex_make f_Sort___init__ (hr.mono (by decide)) (ax_cons (ex_ix (o_ix (hU hr (by decide))) (ex_var 2) ex_str) (ax_cons (ex_ix (o_ix (hU hr (by decide))) (ex_var 2) ex_str) ax_nil st_Subscript) st_Subscript) (he := st_Subscript) (hpl := (pl_of (pl_Subscript pl_nil))))) rfl)
      (bx_one (sx_ret (ex_make f_Street___init__ (hr.mono (by decide)) (ax_cons (ex_ix (o_ix (hU hr (by decide))) (ex_var 1) ex_int) (ax_cons (ex_ix (o_ix (hU hr (by decide))) (ex_var 0) ex_str) (ax_cons (ex_slice (ex_var 1) (px_some ex_int) px_none) (ax_cons (ex_ix (o_ix (hU hr (by decide))) (ex_var 1) ex_int) ax_nil st_Subscript) st_Subscript) st_Subscript) st_Subscript) (he := st_Subscript) (hpl := (pl_of (pl_Subscript (pl_Subscript (pl_Subscript pl_nil)))))))))
/-! _law_pen -/
abbrev N__law_pen : List Str := ["script"]
theorem nd__law_pen : N__law_pen.Nodup := by decide +kernel
theorem sc__law_pen : FnScope N__law_pen ["script"] (defScope (top 9)) := ⟨rfl, rfl, rfl, by decide +kernel, rfl, by decide +kernel, by decide +kernel⟩
def b__law_pen : Sm := (sRet (mDisp [(.inr "cells", (mCB (g1 gList) (maCons (mSl (mVar 0) pNo (pSome (mC (.int 63)))) maNil))), (.inr "turn", (mC (.int 0))), (.inr "rest", (mC (.int 0)))]))
def m__law_pen : Fm := runF 1 b__law_pen
theorem fn__law_pen {f : Addr} {fd : FuncData} (F : Fun K "_law_pen" "_law_pen" (top 9) f fd) (z_list : mg "list" = none) : FnG P w K mg base (L2.CX P w) 1 f fd ["script"] (spF K mg 1 m__law_pen) :=
  fn_runE (mb := b__law_pen) F sc__law_pen rfl rfl fun cdv A outer s H Ex hr =>
    (bx_one (sx_ret (ex_disp (PrL.str (ex_callTy c_list rfl z_list (by decide +kernel) (ax_cons (ex_slice (ex_var 0) px_none (px_some ex_int)) ax_nil st_Subscript) (he := st_Subscript) (hpl := (pl_of pl_nil))) (PrL.str ex_int (PrL.str ex_int PrL.nil))))))
/-! _law_draw -/
abbrev N__law_draw : List Str := ["pen", "many", "digit", "turn", "cell", "primes", "prime", "drawn"]
theorem nd__law_draw : N__law_draw.Nodup := by decide +kernel
theorem sc__law_draw : FnScope N__law_draw ["pen", "many"] (defScope (top 10)) := ⟨rfl, rfl, rfl, by decide +kernel, rfl, by decide +kernel, by decide +kernel⟩
def b__law_draw : Sm := (bCons (sIf (mBool (mBin (gCmpI fun i j => decide (j < i)) (mBin gIx (mVar 0) (mC (.str "rest"))) (mC (.int 0)))) (bCons (sSetF 2 (mBin gMod (mBin gIx (mVar 0) (mC (.str "rest"))) (mVar 1)))
  (bCons (sPut gDput (mBin gFdiv (mBin gIx (mVar 0) (mC (.str "rest"))) (mVar 1)) (mVar 0) (mC (.str "rest")))
  (sRet (mVar 2)))) bNil)
  (bCons (sSetF 3 (mBin gIx (mVar 0) (mC (.str "turn"))))
  (bCons (sPut gDput (mBin gAdd (mVar 3) (mC (.int 1))) (mVar 0) (mC (.str "turn")))
  (bCons (sSetF 4 (mBin gAdd (mBin gMul (mC (.int 31)) (mVar 3)) (mC (.int 5))))
  (bCons (sIf (mBool (mBin gNe (mBin gIx (mVar 0) (mC (.str "cells"))) (mLst maNil))) (sSetF 4 (mBin gIx (mBin gIx (mVar 0) (mC (.str "cells"))) (mBin gMod (mVar 3) (mCB (g1 gLen) (maCons (mBin gIx (mVar 0) (mC (.str "cells"))) maNil))))) bNil)
  (bCons (sIf (tmAnd (mBool (mBin (gCmpI fun i j => decide (i < j)) (mVar 3) (mCB (g1 gLen) (maCons (mBin gIx (mVar 0) (mC (.str "cells"))) maNil)))) (mBool (mBin (gCmpI fun i j => decide (j ≤ i)) (mCB (g1 gAbs) (maCons (mVar 4) maNil)) (mBin gPow (mC (.int 10)) (mC (.int 18)))))) (bCons (sPut gDput (mBin gFdiv (mBin gSub (mCB (g1 gAbs) (maCons (mVar 4) maNil)) (mBin gPow (mC (.int 10)) (mC (.int 18)))) (mVar 1)) (mVar 0) (mC (.str "rest")))
  (sRet (mBin gMod (mBin gSub (mCB (g1 gAbs) (maCons (mVar 4) maNil)) (mBin gPow (mC (.int 10)) (mC (.int 18)))) (mVar 1)))) bNil)
  (bCons (sSetF 5 (mLst (maCons (mC (.int 2147483647)) (maCons (mC (.int 2147483629)) (maCons (mC (.int 2147483587)) (maCons (mC (.int 2147483579)) (maCons (mC (.int 2147483563)) maNil)))))))
  (bCons (sSetF 6 (mBin gIx (mVar 5) (mBin gMod (mVar 3) (mC (.int 5)))))
  (bCons (sSetF 7 (mBin gMod (mBin gAdd (mBin gAdd (mBin gMul (mBin gMod (mVar 4) (mVar 6)) (mC (.int 69621))) (mBin gMul (mBin gMul (mC (.int 40692)) (mVar 3)) (mVar 3))) (mC (.int 11))) (mVar 6)))
  (bCons (sSetF 7 (mBin gMod (mBin gMul (mVar 7) (mBin gAdd (mVar 7) (mC (.int 48271)))) (mBin gIx (mVar 5) (mBin gMod (mBin gAdd (mVar 3) (mC (.int 3))) (mC (.int 5))))))
  (sRet (mBin gMod (mBin gFdiv (mBin gMod (mBin gMul (mVar 7) (mVar 7)) (mC (.int 2147483549))) (mC (.int 64))) (mVar 1)))))))))))))
def m__law_draw : Fm := runF 8 b__law_draw
theorem fn__law_draw {f : Addr} {fd : FuncData} (F : Fun K "_law_draw" "_law_draw" (top 10) f fd) (z_abs : mg "abs" = none) (z_len : mg "len" = none) : FnG P w K mg base (L2.CX P w) 1 f fd ["pen", "many"] (spF K mg 2 m__law_draw) :=
  fn_runE (mb := b__law_draw) F sc__law_draw rfl rfl fun cdv A outer s H Ex hr =>
    (bx_cons (sx_if (tx_cmp o_gt (ex_ix (o_ix (hU hr (by decide))) (ex_var 0) ex_str) ex_int) (bx_cons (sx_setF 2 nd__law_draw (ex_bin o_mod (ex_ix (o_ix (hU hr (by decide))) (ex_var 0) ex_str) (ex_var 1)))
      (bx_cons (sx_dput (hU hr (by decide)) (ex_var 0) ex_str (ex_bin o_fdiv (ex_ix (o_ix (hU hr (by decide))) (ex_var 0) ex_str) (ex_var 1)))
      (bx_one (sx_ret (ex_var 2))))) bx_nil)
      (bx_cons (sx_setF 3 nd__law_draw (ex_ix (o_ix (hU hr (by decide))) (ex_var 0) ex_str))
      (bx_cons (sx_dput (hU hr (by decide)) (ex_var 0) ex_str (ex_bin o_add (ex_var 3) ex_int))
      (bx_cons (sx_setF 4 nd__law_draw (ex_bin o_add (ex_bin o_mul ex_int (ex_var 3)) ex_int))
      (bx_cons (sx_if (tx_cmp (o_ne (hU hr (by decide))) (ex_ix (o_ix (hU hr (by decide))) (ex_var 0) ex_str) (ex_lst ax_nil)) (bx_one (sx_setF 4 nd__law_draw (ex_ix (o_ix (hU hr (by decide))) (ex_ix (o_ix (hU hr (by decide))) (ex_var 0) ex_str) (ex_bin o_mod (ex_var 3) (ex_callB c_len rfl z_len (by decide +kernel) (ax_cons (ex_ix (o_ix (hU hr (by decide))) (ex_var 0) ex_str) ax_nil st_Subscript) (he := st_Subscript) (hpl := (pl_of pl_nil))))))) bx_nil)
      (bx_cons (sx_if (txw_tx (txw_and (tx_cmp o_lt (ex_var 3) (ex_callB c_len rfl z_len (by decide +kernel) (ax_cons (ex_ix (o_ix (hU hr (by decide))) (ex_var 0) ex_str) ax_nil st_Subscript) (he := st_Subscript) (hpl := (pl_of pl_nil)))) (txw_and1 (tx_cmp o_ge (ex_callB c_abs rfl z_abs (by decide +kernel) (ax_cons (ex_var 4) ax_nil st_Name) (he := st_Name) (hpl := (pl_of pl_nil))) (ex_bin o_pow ex_int ex_int))))) (bx_cons (sx_dput (hU hr (by decide)) (ex_var 0) ex_str (ex_bin o_fdiv (ex_bin o_sub (ex_callB c_abs rfl z_abs (by decide +kernel) (ax_cons (ex_var 4) ax_nil st_Name) (he := st_Name) (hpl := (pl_of pl_nil))) (ex_bin o_pow ex_int ex_int)) (ex_var 1)))
      (bx_one (sx_ret (ex_bin o_mod (ex_bin o_sub (ex_callB c_abs rfl z_abs (by decide +kernel) (ax_cons (ex_var 4) ax_nil st_Name) (he := st_Name) (hpl := (pl_of pl_nil))) (ex_bin o_pow ex_int ex_int)) (ex_var 1))))) bx_nil)
      (bx_cons (sx_setF 5 nd__law_draw (ex_lst (ax_cons ex_int (ax_cons ex_int (ax_cons ex_int (ax_cons ex_int (ax_cons ex_int ax_nil st_Constant) st_Constant) st_Constant) st_Constant) st_Constant)))
      (bx_cons (sx_setF 6 nd__law_draw (ex_ix (o_ix (hU hr (by decide))) (ex_var 5) (ex_bin o_mod (ex_var 3) ex_int)))
      (bx_cons (sx_setF 7 nd__law_draw (ex_bin o_mod (ex_bin o_add (ex_bin o_add (ex_bin o_mul (ex_bin o_mod (ex_var 4) (ex_var 6)) ex_int) (ex_bin o_mul (ex_bin o_mul ex_int (ex_var 3)) (ex_var 3))) ex_int) (ex_var 6)))
      (bx_cons (sx_setF 7 nd__law_draw (ex_bin o_mod (ex_bin o_mul (ex_var 7) (ex_bin o_add (ex_var 7) ex_int)) (ex_ix (o_ix (hU hr (by decide))) (ex_var 5) (ex_bin o_mod (ex_bin o_add (ex_var 3) ex_int) ex_int))))
      (bx_one (sx_ret (ex_bin o_mod (ex_bin o_fdiv (ex_bin o_mod (ex_bin o_mul (ex_var 7) (ex_var 7)) ex_int) ex_int) (ex_var 1))))))))))))))
/-! _law_pick -/
abbrev N__law_pick : List Str := ["pen", "some"]
theorem nd__law_pick : N__law_pick.Nodup := by decide +kernel
theorem sc__law_pick : FnScope N__law_pick ["pen", "some"] (defScope (top 11)) := ⟨rfl, rfl, rfl, by decide +kernel, rfl, by decide +kernel, by decide +kernel⟩
def b__law_pick : Sm := (sRet (mBin gIx (mVar 1) (mCall 2 m__law_draw (maCons (mVar 0) (maCons (mCB (g1 gLen) (maCons (mVar 1) maNil)) maNil)))))
def m__law_pick : Fm := runF 2 b__law_pick
theorem fn__law_pick {f : Addr} {fd : FuncData} (F : Fun K "_law_pick" "_law_pick" (top 11) f fd) (z_len : mg "len" = none) (f__law_draw : Fn P w K mg base "_law_draw" 1 2 m__law_draw) : FnG P w K mg base (L2.CX P w) 2 f fd ["pen", "some"] (spF K mg 2 m__law_pick) :=
  fn_runE (mb := b__law_pick) F sc__law_pick rfl rfl fun cdv A outer s H Ex hr =>
    (bx_one (sx_ret (ex_ix (o_ix (hU hr (by decide))) (ex_var 1) (ex_call f__law_draw (hr.mono (by decide)) (ax_cons (ex_var 0) (ax_cons (ex_callB c_len rfl z_len (by decide +kernel) (ax_cons (ex_var 1) ax_nil st_Name) (he := st_Name) (hpl := (pl_of pl_nil))) ax_nil st_Call) st_Name) (he := st_Name) (hpl := (pl_of (pl_Call pl_nil)))))))
/-! _law_names -/
abbrev N__law_names : List Str := ["pen", "many", "words", "turn", "letters", "base", "k", "at", "first", "cut", "step", "found", "tail"]
theorem nd__law_names : N__law_names.Nodup := by decide +kernel
theorem sc__law_names : FnScope N__law_names ["pen", "many"] (defScope (top 13)) := ⟨rfl, rfl, rfl, by decide +kernel, rfl, by decide +kernel, by decide +kernel⟩
theorem blk__law_names_0 : BlkOk N__law_names (defScope (top 13)) ({ kind := PySem.ScopeKind.function, names := [ (PySem.Str.ofString ".0", PySem.NameKind.local), (PySem.Str.ofString "k", PySem.NameKind.local), (PySem.Str.ofString "_law_pick", PySem.NameKind.globalImplicit), (PySem.Str.ofString "letters", PySem.NameKind.free), (PySem.Str.ofString "pen", PySem.NameKind.free)], isGenerator := false, isCoroutine := false, more := [] : PySem.Scope } : Scope) [("k", 6)] := L2.blkOk_by (by decide +kernel)
def b__law_names : Sm := (bCons (sIf (mBool (mBin gEq (mCall 2 m__law_draw (maCons (mVar 0) (maCons (mC (.int 7)) maNil))) (mC (.int 0)))) (bCons (sSetF 2 (mLst (maCons (mC (.str "room")) (maCons (mC (.str "door")) (maCons (mC (.str "house")) (maCons (mC (.str "first")) (maCons (mC (.str "left")) (maCons (mC (.str "right")) (maCons (mC (.str "odd")) (maCons (mC (.str "at")) (maCons (mC (.str "do")) (maCons (mC (.str "wall")) maNil))))))))))))
  (bCons (sSetF 3 (mCall 2 m__law_draw (maCons (mVar 0) (maCons (mC (.int 18)) maNil))))
  (sRet (mSl (mSl (mBin gMul (mBin gAdd (mVar 2) (mLst (maCons (mC (.str "ever")) (maCons (mC (.str "never")) (maCons (mC (.str "leap")) (maCons (mC (.str "go")) (maCons (mC (.str "back")) (maCons (mC (.str "on")) (maCons (mC (.str "a")) (maCons (mC (.str "b")) maNil)))))))))) (mC (.int 2))) (pSome (mVar 3)) pNo) pNo (pSome (mVar 1)))))) bNil)
  (bCons (sSetF 4 (mC (.str "abcdefghijklmnopqrstuvwxyz")))
  (bCons (sSetF 5 (mM1 gJoin (mC (.str "")) (mComp [6] (mRng1 (maCons (mBin gAdd (mC (.int 1)) (mCall 2 m__law_draw (maCons (mVar 0) (maCons (mC (.int 8)) maNil)))) maNil)) (gFz 6) tmYes (mCall 2 m__law_pick (maCons (mVar 0) (maCons (mVar 4) maNil))))))
  (bCons (sFrz [7, 8, 9] (sPend [7, 8, 9] [(mCall 2 m__law_draw (maCons (mVar 0) (maCons (mCB (g1 gLen) (maCons (mVar 5) maNil)) maNil))), (mCall 2 m__law_draw (maCons (mVar 0) (maCons (mC (.int 26)) maNil))), (mCall 2 m__law_draw (maCons (mVar 0) (maCons (mC (.int 2)) maNil)))]))
  (bCons (sFrz [10] (sPend [10, 11] [(mCall 2 m__law_pick (maCons (mVar 0) (maCons (mLst (maCons (mC (.int 1)) (maCons (mC (.int 3)) (maCons (mC (.int 5)) (maCons (mC (.int 7)) (maCons (mC (.int 9)) (maCons (mC (.int 11)) (maCons (mC (.int 15)) (maCons (mC (.int 17)) (maCons (mC (.int 19)) (maCons (mC (.int 21)) (maCons (mC (.int 23)) (maCons (mC (.int 25)) maNil))))))))))))) maNil))), (mLst maNil)]))
  (bCons (sFor (mRng1 (maCons (mVar 1) maNil)) (gFz 6) (bCons (sSetF 12 (mSl (mSl (mVar 5) (pSome (mBin gAdd (mVar 7) (mC (.int 1)))) pNo) pNo (pSome (mBin gIx (mLst (maCons (mC (.int 8)) (maCons (mBin gMod (mVar 6) (mC (.int 3))) maNil))) (mVar 9)))))
  (sDrop (mMut "list" gAppend (mVar 11) (maCons (mBin gAdd (mBin gAdd (mSl (mVar 5) pNo (pSome (mVar 7))) (mBin gIx (mVar 4) (mBin gMod (mBin gAdd (mVar 8) (mBin gMul (mVar 10) (mVar 6))) (mC (.int 26))))) (mVar 12)) maNil)))))
  (bCons (sIf (tmAnd (mBool (mBin (gCmpI fun i j => decide (j < i)) (mVar 7) (mC (.int 0)))) (mBool (mBin gEq (mCall 2 m__law_draw (maCons (mVar 0) (maCons (mC (.int 3)) maNil))) (mC (.int 0))))) (sPut gLput (mSl (mVar 5) pNo (pSome (mVar 7))) (mVar 11) (mCall 2 m__law_draw (maCons (mVar 0) (maCons (mVar 1) maNil)))) bNil)
  (sRet (mVar 11)))))))))
def m__law_names : Fm := runF 13 b__law_names
theorem fn__law_names {f : Addr} {fd : FuncData} (F : Fun K "_law_names" "_law_names" (top 13) f fd) (z_len : mg "len" = none) (z_range : mg "range" = none) (f__law_draw : Fn P w K mg base "_law_draw" 1 2 m__law_draw) (f__law_pick : Fn P w K mg base "_law_pick" 2 2 m__law_pick) : FnG P w K mg base (L2.CX P w) 3 f fd ["pen", "many"] (spF K mg 2 m__law_names) :=
  fn_runE (mb := b__law_names) F sc__law_names rfl rfl fun cdv A outer s H Ex hr =>
    (bx_cons (sx_if (tx_cmp (o_eq (hU hr (by decide))) (ex_call f__law_draw (hr.mono (by decide)) (ax_cons (ex_var 0) (ax_cons ex_int ax_nil st_Constant) st_Name) (he := st_Name) (hpl := (pl_of (pl_Constant pl_nil)))) ex_int) (bx_cons (sx_setF 2 nd__law_names (ex_lst (ax_cons ex_str (ax_cons ex_str (ax_cons ex_str (ax_cons ex_str (ax_cons ex_str (ax_cons ex_str (ax_cons ex_str (ax_cons ex_str (ax_cons ex_str (ax_cons ex_str ax_nil st_Constant) st_Constant) st_Constant) st_Constant) st_Constant) st_Constant) st_Constant) st_Constant) st_Constant) st_Constant)))
      (bx_cons (sx_setF 3 nd__law_names (ex_call f__law_draw (hr.mono (by decide)) (ax_cons (ex_var 0) (ax_cons ex_int ax_nil st_Constant) st_Name) (he := st_Name) (hpl := (pl_of (pl_Constant pl_nil)))))
      (bx_one (sx_ret (ex_slice (ex_slice (ex_bin o_mul (ex_bin o_add (ex_var 2) (ex_lst (ax_cons ex_str (ax_cons ex_str (ax_cons ex_str (ax_cons ex_str (ax_cons ex_str (ax_cons ex_str (ax_cons ex_str (ax_cons ex_str ax_nil st_Constant) st_Constant) st_Constant) st_Constant) st_Constant) st_Constant) st_Constant) st_Constant))) ex_int) (px_some (ex_var 3)) px_none) px_none (px_some (ex_var 1))))))) bx_nil)
      (bx_cons (sx_setF 4 nd__law_names ex_str)
      (bx_cons (sx_setF 5 nd__law_names (ex_join ex_str (ex_comp [("k", 6)] rfl nd__law_names blk__law_names_0 (ix_range1 z_range (ax_cons (ex_bin o_add ex_int (ex_call f__law_draw (hr.mono (by decide)) (ax_cons (ex_var 0) (ax_cons ex_int ax_nil st_Constant) st_Name) (he := st_Name) (hpl := (pl_of (pl_Constant pl_nil))))) ax_nil st_BinOp)) (fun _ _ _ _ _ => (tg_name 6 nd__law_names)) (fun _ _ _ _ _ => txs_nil) (fun _ _ _ _ _ => (ex_call f__law_pick (hr.mono (by decide)) (ax_cons (ex_var 0) (ax_cons (ex_var 4) ax_nil st_Name) st_Name) (he := st_Name) (hpl := (pl_of (pl_Name pl_nil))))))))
      (bx_cons (sx_frz [7, 8, 9] (sx_tup3 7 8 9 rfl nd__law_names (exl_cons (ex_call f__law_draw (hr.mono (by decide)) (ax_cons (ex_var 0) (ax_cons (ex_callB c_len rfl z_len (by decide +kernel) (ax_cons (ex_var 5) ax_nil st_Name) (he := st_Name) (hpl := (pl_of pl_nil))) ax_nil st_Call) st_Name) (he := st_Name) (hpl := (pl_of (pl_Call pl_nil)))) (exl_cons (ex_call f__law_draw (hr.mono (by decide)) (ax_cons (ex_var 0) (ax_cons ex_int ax_nil st_Constant) st_Name) (he := st_Name) (hpl := (pl_of (pl_Constant pl_nil)))) (exl_cons (ex_call f__law_draw (hr.mono (by decide)) (ax_cons (ex_var 0) (ax_cons ex_int ax_nil st_Constant) st_Name) (he := st_Name) (hpl := (pl_of (pl_Constant pl_nil)))) ExL.nil)))))
      (bx_cons (sx_frz [10] (sx_tup2 10 11 rfl nd__law_names (exl_cons (ex_call f__law_pick (hr.mono (by decide)) (ax_cons (ex_var 0) (ax_cons (ex_lst (ax_cons ex_int (ax_cons ex_int (ax_cons ex_int (ax_cons ex_int (ax_cons ex_int (ax_cons ex_int (ax_cons ex_int (ax_cons ex_int (ax_cons ex_int (ax_cons ex_int (ax_cons ex_int (ax_cons ex_int ax_nil st_Constant) st_Constant) st_Constant) st_Constant) st_Constant) st_Constant) st_Constant) st_Constant) st_Constant) st_Constant) st_Constant) st_Constant)) ax_nil st_List) st_Name) (he := st_Name) (hpl := (pl_of (pl_List pl_nil)))) (exl_cons (ex_lst ax_nil) ExL.nil))))
      (bx_cons (sx_for PassesOwn.leaving rfl (ix_range1 z_range (ax_cons (ex_var 1) ax_nil st_Name)) (tg_name 6 nd__law_names) (bx_cons (sx_setF 12 nd__law_names (ex_slice (ex_slice (ex_var 5) (px_some (ex_bin o_add (ex_var 7) ex_int)) px_none) px_none (px_some (ex_ix (o_ix (hU hr (by decide))) (ex_lst (ax_cons ex_int (ax_cons (ex_bin o_mod (ex_var 6) ex_int) ax_nil st_BinOp) st_Constant)) (ex_var 9)))))
      (bx_one (sx_expr (ex_mut m_append PySem.F.plainAttrs_list PySem.F.slot_list_append PySem.F.type_list_append (ex_var 11) (ax_cons (ex_bin o_add (ex_bin o_add (ex_slice (ex_var 5) px_none (px_some (ex_var 7))) (ex_ix (o_ix (hU hr (by decide))) (ex_var 4) (ex_bin o_mod (ex_bin o_add (ex_var 8) (ex_bin o_mul (ex_var 10) (ex_var 6))) ex_int))) (ex_var 12)) ax_nil st_BinOp))))))
      (bx_cons (sx_if (txw_tx (txw_and (tx_cmp o_gt (ex_var 7) ex_int) (txw_and1 (tx_cmp (o_eq (hU hr (by decide))) (ex_call f__law_draw (hr.mono (by decide)) (ax_cons (ex_var 0) (ax_cons ex_int ax_nil st_Constant) st_Name) (he := st_Name) (hpl := (pl_of (pl_Constant pl_nil)))) ex_int)))) (bx_one (sx_lput (ex_var 11) (ex_call f__law_draw (hr.mono (by decide)) (ax_cons (ex_var 0) (ax_cons (ex_var 1) ax_nil st_Name) st_Name) (he := st_Name) (hpl := (pl_of (pl_Name pl_nil)))) (ex_slice (ex_var 5) px_none (px_some (ex_var 7))) (by intro _; rfl))) bx_nil)
      (bx_one (sx_ret (ex_var 11))))))))))
/-! _law_shuffled -/
abbrev N__law_shuffled : List Str := ["pen", "some", "left", "found"]
theorem nd__law_shuffled : N__law_shuffled.Nodup := by decide +kernel
theorem sc__law_shuffled : FnScope N__law_shuffled ["pen", "some"] (defScope (top 12)) := ⟨rfl, rfl, rfl, by decide +kernel, rfl, by decide +kernel, by decide +kernel⟩
def b__law_shuffled : Sm := (bCons (sPend [2, 3] [(mCB (g1 gList) (maCons (mVar 1) maNil)), (mLst maNil)])
  (bCons (sWh 1000 (mBool (mBin gNe (mVar 2) (mLst maNil))) (sDrop (mMut "list" gAppend (mVar 3) (maCons (mMut "list" gPop (mVar 2) (maCons (mCall 2 m__law_draw (maCons (mVar 0) (maCons (mCB (g1 gLen) (maCons (mVar 2) maNil)) maNil))) maNil)) maNil))))
  (sRet (mVar 3))))
def m__law_shuffled : Fm := runF 4 b__law_shuffled
theorem fn__law_shuffled {f : Addr} {fd : FuncData} (F : Fun K "_law_shuffled" "_law_shuffled" (top 12) f fd) (z_len : mg "len" = none) (z_list : mg "list" = none) (f__law_draw : Fn P w K mg base "_law_draw" 1 2 m__law_draw) : FnG P w K mg base (L2.CX P w) 2 f fd ["pen", "some"] (spF K mg 2 m__law_shuffled) :=
  fn_runE (mb := b__law_shuffled) F sc__law_shuffled rfl rfl fun cdv A outer s H Ex hr =>
    (bx_cons (sx_tup2 2 3 rfl nd__law_shuffled (exl_cons (ex_callTy c_list rfl z_list (by decide +kernel) (ax_cons (ex_var 1) ax_nil st_Name) (he := st_Name) (hpl := (pl_of pl_nil))) (exl_cons (ex_lst ax_nil) ExL.nil)))
      (bx_cons (sx_while 1000 PassesOwn.leaving (tx_cmp (o_ne (hU hr (by decide))) (ex_var 2) (ex_lst ax_nil)) (bx_one (sx_expr (ex_mut m_append PySem.F.plainAttrs_list PySem.F.slot_list_append PySem.F.type_list_append (ex_var 3) (ax_cons (ex_mut m_pop PySem.F.plainAttrs_list PySem.F.slot_list_pop PySem.F.type_list_pop (ex_var 2) (ax_cons (ex_call f__law_draw (hr.mono (by decide)) (ax_cons (ex_var 0) (ax_cons (ex_callB c_len rfl z_len (by decide +kernel) (ax_cons (ex_var 2) ax_nil st_Name) (he := st_Name) (hpl := (pl_of pl_nil))) ax_nil st_Call) st_Name) (he := st_Name) (hpl := (pl_of (pl_Call pl_nil)))) ax_nil st_Call)) ax_nil st_Call)))))
      (bx_one (sx_ret (ex_var 3)))))
/-! _law_price -/
abbrev N__law_price : List Str := ["pen"]
theorem nd__law_price : N__law_price.Nodup := by decide +kernel
theorem sc__law_price : FnScope N__law_price ["pen"] (defScope (top 15)) := ⟨rfl, rfl, rfl, by decide +kernel, rfl, by decide +kernel, by decide +kernel⟩
def b__law_price : Sm := (sRet (mBin gIx (mLst (maCons (mC (.int 1)) (maCons (mBin gAdd (mC (.int 1)) (mCall 2 m__law_draw (maCons (mVar 0) (maCons (mC (.int 3)) maNil)))) (maCons (mBin gAdd (mC (.int 1)) (mCall 2 m__law_draw (maCons (mVar 0) (maCons (mC (.int 9)) maNil)))) (maCons (mBin gAdd (mC (.int 1)) (mCall 2 m__law_draw (maCons (mVar 0) (maCons (mC (.int 99)) maNil)))) (maCons (mC (.int 99)) maNil)))))) (mCall 2 m__law_draw (maCons (mVar 0) (maCons (mC (.int 5)) maNil)))))
def m__law_price : Fm := runF 1 b__law_price
theorem fn__law_price {f : Addr} {fd : FuncData} (F : Fun K "_law_price" "_law_price" (top 15) f fd) (f__law_draw : Fn P w K mg base "_law_draw" 1 2 m__law_draw) : FnG P w K mg base (L2.CX P w) 2 f fd ["pen"] (spF K mg 1 m__law_price) :=
  fn_runE (mb := b__law_price) F sc__law_price rfl rfl fun cdv A outer s H Ex hr =>
    (bx_one (sx_ret (ex_ix (o_ix (hU hr (by decide))) (ex_lst (ax_cons ex_int (ax_cons (ex_bin o_add ex_int (ex_call f__law_draw (hr.mono (by decide)) (ax_cons (ex_var 0) (ax_cons ex_int ax_nil st_Constant) st_Name) (he := st_Name) (hpl := (pl_of (pl_Constant pl_nil))))) (ax_cons (ex_bin o_add ex_int (ex_call f__law_draw (hr.mono (by decide)) (ax_cons (ex_var 0) (ax_cons ex_int ax_nil st_Constant) st_Name) (he := st_Name) (hpl := (pl_of (pl_Constant pl_nil))))) (ax_cons (ex_bin o_add ex_int (ex_call f__law_draw (hr.mono (by decide)) (ax_cons (ex_var 0) (ax_cons ex_int ax_nil st_Constant) st_Name) (he := st_Name) (hpl := (pl_of (pl_Constant pl_nil))))) (ax_cons ex_int ax_nil st_Constant) st_BinOp) st_BinOp) st_BinOp) st_Constant)) (ex_call f__law_draw (hr.mono (by decide)) (ax_cons (ex_var 0) (ax_cons ex_int ax_nil st_Constant) st_Name) (he := st_Name) (hpl := (pl_of (pl_Constant pl_nil)))))))
/-! _law_sort -/
abbrev N__law_sort : List Str := ["pen", "rooms", "goals", "doors", "names", "found", "name", "room", "move", "goal"]
theorem nd__law_sort : N__law_sort.Nodup := by decide +kernel
theorem sc__law_sort : FnScope N__law_sort ["pen", "rooms", "goals", "doors"] (defScope (top 14)) := ⟨rfl, rfl, rfl, by decide +kernel, rfl, by decide +kernel, by decide +kernel⟩
theorem blk__law_sort_0 : BlkOk N__law_sort (defScope (top 14)) ({ kind := PySem.ScopeKind.function, names := [ (PySem.Str.ofString ".0", PySem.NameKind.local), (PySem.Str.ofString "name", PySem.NameKind.local), (PySem.Str.ofString "found", PySem.NameKind.free)], isGenerator := false, isCoroutine := false, more := [] : PySem.Scope } : Scope) [("name", 6)] := L2.blkOk_by (by decide +kernel)
def b__law_sort : Sm := (bCons (sFrz [4] (sPend [4, 5] [(mCall 2 m__law_names (maCons (mVar 0) (maCons (mC (.int 18)) maNil))), mDct]))
  (bCons (sFor (mSeq (mSl (mVar 4) pNo (pSome (mCall 2 m__law_draw (maCons (mVar 0) (maCons (mBin gAdd (mVar 3) (mC (.int 1))) maNil)))))) (gFz 6) (bCons (sFrz [7, 8] (sPend [7, 8] [(mCall 2 m__law_pick (maCons (mVar 0) (maCons (mVar 1) maNil))), (mBin gSub (mCall 2 m__law_draw (maCons (mVar 0) (maCons (mC (.int 3)) maNil))) (mC (.int 1)))]))
  (bCons (sSetF 9 (mCall 2 m__law_pick (maCons (mVar 0) (maCons (mLst (maCons (mCall 2 m__law_pick (maCons (mVar 0) (maCons (mVar 1) maNil))) (maCons (mCall 2 m__law_pick (maCons (mVar 0) (maCons (mVar 1) maNil))) (maCons (mCall 2 m__law_pick (maCons (mVar 0) (maCons (mVar 2) maNil))) maNil)))) maNil))))
  (sPut gDput (mTup (maCons (mVar 6) (maCons (mVar 7) (maCons (mVar 8) (maCons (mVar 9) (maCons (mCall 1 m__law_price (maCons (mVar 0) maNil)) maNil)))))) (mVar 5) (mVar 6)))))
  (sRet (mDisp [(.inr "rooms", (mCB (g1 gSorted) (maCons (mVar 1) maNil))), (.inr "doors", (mComp [6] (mSeq (mCB (g1 gSortedK) (maCons (mVar 5) maNil))) (gFz 6) tmYes (mBin gIx (mVar 5) (mVar 6))))]))))
def m__law_sort : Fm := runF 10 b__law_sort
theorem fn__law_sort {f : Addr} {fd : FuncData} (F : Fun K "_law_sort" "_law_sort" (top 14) f fd) (z_sorted : mg "sorted" = none) (f__law_draw : Fn P w K mg base "_law_draw" 1 2 m__law_draw) (f__law_names : Fn P w K mg base "_law_names" 3 2 m__law_names) (f__law_pick : Fn P w K mg base "_law_pick" 2 2 m__law_pick) (f__law_price : Fn P w K mg base "_law_price" 2 1 m__law_price) : FnG P w K mg base (L2.CX P w) 4 f fd ["pen", "rooms", "goals", "doors"] (spF K mg 4 m__law_sort) :=
  fn_runE (mb := b__law_sort) F sc__law_sort rfl rfl fun cdv A outer s H Ex hr =>
    (bx_cons (sx_frz [4] (sx_tupN rfl (nml_cons 4 nd__law_sort (nml_cons 5 nd__law_sort NmL.nil)) (exl_cons (ex_call f__law_names (hr.mono (by decide)) (ax_cons (ex_var 0) (ax_cons ex_int ax_nil st_Constant) st_Name) (he := st_Name) (hpl := (pl_of (pl_Constant pl_nil)))) (exl_cons ex_dct ExL.nil))))
      (bx_cons (sx_for PassesOwn.leaving rfl (ix_seq (ex_slice (ex_var 4) px_none (px_some (ex_call f__law_draw (hr.mono (by decide)) (ax_cons (ex_var 0) (ax_cons (ex_bin o_add (ex_var 3) ex_int) ax_nil st_BinOp) st_Name) (he := st_Name) (hpl := (pl_of (pl_BinOp pl_nil))))))) (tg_name 6 nd__law_sort) (bx_cons (sx_frz [7, 8] (sx_tup2 7 8 rfl nd__law_sort (exl_cons (ex_call f__law_pick (hr.mono (by decide)) (ax_cons (ex_var 0) (ax_cons (ex_var 1) ax_nil st_Name) st_Name) (he := st_Name) (hpl := (pl_of (pl_Name pl_nil)))) (exl_cons (ex_bin o_sub (ex_call f__law_draw (hr.mono (by decide)) (ax_cons (ex_var 0) (ax_cons ex_int ax_nil st_Constant) st_Name) (he := st_Name) (hpl := (pl_of (pl_Constant pl_nil)))) ex_int) ExL.nil))))
      (bx_cons (sx_setF 9 nd__law_sort (ex_call f__law_pick (hr.mono (by decide)) (ax_cons (ex_var 0) (ax_cons (ex_lst (ax_cons (ex_call f__law_pick (hr.mono (by decide)) (ax_cons (ex_var 0) (ax_cons (ex_var 1) ax_nil st_Name) st_Name) (he := st_Name) (hpl := (pl_of (pl_Name pl_nil)))) (ax_cons (ex_call f__law_pick (hr.mono (by decide)) (ax_cons (ex_var 0) (ax_cons (ex_var 1) ax_nil st_Name) st_Name) (he := st_Name) (hpl := (pl_of (pl_Name pl_nil)))) (ax_cons (ex_call f__law_pick (hr.mono (by decide)) (ax_cons (ex_var 0) (ax_cons (ex_var 2) ax_nil st_Name) st_Name) (he := st_Name) (hpl := (pl_of (pl_Name pl_nil)))) ax_nil st_Call) st_Call) st_Call)) ax_nil st_List) st_Name) (he := st_Name) (hpl := (pl_of (pl_List pl_nil)))))
      (bx_one (sx_dput (hU hr (by decide)) (ex_var 5) (ex_var 6) (ex_tup (ax_cons (ex_var 6) (ax_cons (ex_var 7) (ax_cons (ex_var 8) (ax_cons (ex_var 9) (ax_cons (ex_call f__law_price (hr.mono (by decide)) (ax_cons (ex_var 0) ax_nil st_Name) (he := st_Name) (hpl := (pl_of pl_nil))) ax_nil st_Call) st_Name) st_Name) st_Name) st_Name)))))))
      (bx_one (sx_ret (ex_disp (PrL.str (ex_callB (c_sorted (hU hr (by decide))) rfl z_sorted (by decide +kernel) (ax_cons (ex_var 1) ax_nil st_Name) (he := st_Name) (hpl := (pl_of pl_nil))) (PrL.str (ex_comp [("name", 6)] rfl nd__law_sort blk__law_sort_0 (ix_seq (ex_callB (c_sortedK rfl (hU hr (by decide))) rfl z_sorted (by decide +kernel) (ax_cons (ex_var 5) ax_nil st_Name) (he := st_Name) (hpl := (pl_of pl_nil)))) (fun _ _ _ _ _ => (tg_name 6 nd__law_sort)) (fun _ _ _ _ _ => txs_nil) (fun _ _ _ _ _ => (ex_ix (o_ix (hU hr (by decide))) (ex_var 5) (ex_var 6)))) PrL.nil)))))))
/-! _law_street -/
abbrev N__law_street : List Str := ["pen", "rooms", "doors", "odd", "pool", "groups", "k", "group", "sorts", "first"]
theorem nd__law_street : N__law_street.Nodup := by decide +kernel
theorem sc__law_street : FnScope N__law_street ["pen", "rooms", "doors", "odd"] (defScope (top 16)) := ⟨rfl, rfl, rfl, by decide +kernel, rfl, by decide +kernel, by decide +kernel⟩
theorem blk__law_street_0 : BlkOk N__law_street (defScope (top 16)) ({ kind := PySem.ScopeKind.function, names := [ (PySem.Str.ofString ".0", PySem.NameKind.local), (PySem.Str.ofString "group", PySem.NameKind.local), (PySem.Str.ofString "groups", PySem.NameKind.free)], isGenerator := false, isCoroutine := false, more := [] : PySem.Scope } : Scope) [("group", 7)] := L2.blkOk_by (by decide +kernel)
theorem blk__law_street_1 : BlkOk N__law_street (defScope (top 16)) ({ kind := PySem.ScopeKind.function, names := [ (PySem.Str.ofString ".0", PySem.NameKind.local), (PySem.Str.ofString "group", PySem.NameKind.local), (PySem.Str.ofString "_law_sort", PySem.NameKind.globalImplicit), (PySem.Str.ofString "doors", PySem.NameKind.free), (PySem.Str.ofString "pen", PySem.NameKind.free), (PySem.Str.ofString "pool", PySem.NameKind.free)], isGenerator := false, isCoroutine := false, more := [] : PySem.Scope } : Scope) [("group", 7)] := L2.blkOk_by (by decide +kernel)
def b__law_street : Sm := (bCons (sSetF 4 (mSl (mCall 2 m__law_names (maCons (mVar 0) (maCons (mC (.int 18)) maNil))) pNo (pSome (mBin gAdd (mVar 1) (mC (.int 2))))))
  (bCons (sSet 5 (mLst maNil))
  (bCons (sFor (mRng1 (maCons (mBin gAdd (mC (.int 2)) (mCall 2 m__law_draw (maCons (mVar 0) (maCons (mBin gAdd (mVar 3) (mC (.int 1))) maNil)))) maNil)) (gFz 6) (sDrop (mMut "list" gAppend (mVar 5) (maCons (mSl (mCall 2 m__law_shuffled (maCons (mVar 0) (maCons (mVar 4) maNil))) pNo (pSome (mBin gAdd (mC (.int 1)) (mCall 2 m__law_draw (maCons (mVar 0) (maCons (mVar 1) maNil)))))) maNil))))
  (bCons (sIf (mBool (mBin gEq (mCall 2 m__law_draw (maCons (mVar 0) (maCons (mC (.int 3)) maNil))) (mC (.int 0)))) (sSet 5 (mComp [7] (mSeq (mVar 5)) (gFz 7) tmYes (mBin gIx (mVar 5) (mC (.int 0))))) bNil)
  (bCons (sSetF 8 (mComp [7] (mSeq (mVar 5)) (gFz 7) tmYes (mCall 4 m__law_sort (maCons (mVar 0) (maCons (mVar 7) (maCons (mVar 4) (maCons (mVar 2) maNil)))))))
  (bCons (sSetF 9 (mBin gIx (mLst (maCons (mBin gSub (mCall 2 m__law_draw (maCons (mVar 0) (maCons (mC (.int 7)) maNil))) (mC (.int 3))) (maCons (mBin gSub (mCall 2 m__law_draw (maCons (mVar 0) (maCons (mC (.int 101)) maNil))) (mC (.int 50))) maNil))) (mCall 2 m__law_draw (maCons (mVar 0) (maCons (mC (.int 2)) maNil)))))
  (sRet (mDisp [(.inr "left", (mBin gIx (mVar 8) (mC (.int 0)))), (.inr "first", (mVar 9)), (.inr "odd", (mSl (mVar 8) (pSome (mC (.int 1))) (pSome (mUn gNeg (mC (.int 1)))))), (.inr "right", (mBin gIx (mVar 8) (mUn gNeg (mC (.int 1)))))]))))))))
def m__law_street : Fm := runF 10 b__law_street
theorem fn__law_street {f : Addr} {fd : FuncData} (F : Fun K "_law_street" "_law_street" (top 16) f fd) (z_range : mg "range" = none) (f__law_draw : Fn P w K mg base "_law_draw" 1 2 m__law_draw) (f__law_names : Fn P w K mg base "_law_names" 3 2 m__law_names) (f__law_shuffled : Fn P w K mg base "_law_shuffled" 2 2 m__law_shuffled) (f__law_sort : Fn P w K mg base "_law_sort" 4 4 m__law_sort) : FnG P w K mg base (L2.CX P w) 5 f fd ["pen", "rooms", "doors", "odd"] (spF K mg 4 m__law_street) :=
  fn_runE (mb := b__law_street) F sc__law_street rfl rfl fun cdv A outer s H Ex hr =>
    (bx_cons (sx_setF 4 nd__law_street (ex_slice (ex_call f__law_names (hr.mono (by decide)) (ax_cons (ex_var 0) (ax_cons ex_int ax_nil st_Constant) st_Name) (he := st_Name) (hpl := (pl_of (pl_Constant pl_nil)))) px_none (px_some (ex_bin o_add (ex_var 1) ex_int))))
      (bx_cons (sx_set 5 nd__law_street (ex_lst ax_nil))
      (bx_cons (sx_for PassesOwn.leaving rfl (ix_range1 z_range (ax_cons (ex_bin o_add ex_int (ex_call f__law_draw (hr.mono (by decide)) (ax_cons (ex_var 0) (ax_cons (ex_bin o_add (ex_var 3) ex_int) ax_nil st_BinOp) st_Name) (he := st_Name) (hpl := (pl_of (pl_BinOp pl_nil))))) ax_nil st_BinOp)) (tg_name 6 nd__law_street) (bx_one (sx_expr (ex_mut m_append PySem.F.plainAttrs_list PySem.F.slot_list_append PySem.F.type_list_append (ex_var 5) (ax_cons (ex_slice (ex_call f__law_shuffled (hr.mono (by decide)) (ax_cons (ex_var 0) (ax_cons (ex_var 4) ax_nil st_Name) st_Name) (he := st_Name) (hpl := (pl_of (pl_Name pl_nil)))) px_none (px_some (ex_bin o_add ex_int (ex_call f__law_draw (hr.mono (by decide)) (ax_cons (ex_var 0) (ax_cons (ex_var 1) ax_nil st_Name) st_Name) (he := st_Name) (hpl := (pl_of (pl_Name pl_nil))))))) ax_nil st_Subscript)))))
      (bx_cons (sx_if (tx_cmp (o_eq (hU hr (by decide))) (ex_call f__law_draw (hr.mono (by decide)) (ax_cons (ex_var 0) (ax_cons ex_int ax_nil st_Constant) st_Name) (he := st_Name) (hpl := (pl_of (pl_Constant pl_nil)))) ex_int) (bx_one (sx_set 5 nd__law_street (ex_comp [("group", 7)] rfl nd__law_street blk__law_street_0 (ix_seq (ex_var 5)) (fun _ _ _ _ _ => (tg_name 7 nd__law_street)) (fun _ _ _ _ _ => txs_nil) (fun _ _ _ _ _ => (ex_ix (o_ix (hU hr (by decide))) (ex_var 5) ex_int))))) bx_nil)
      (bx_cons (sx_setCompF 8 [("group", 7)] rfl nd__law_street blk__law_street_1 (ix_seq (ex_var 5)) (fun _ _ _ _ _ => (tg_name 7 nd__law_street)) (fun _ _ _ _ _ => txs_nil) (fun _ _ _ _ _ => (ex_call f__law_sort (hr.mono (by decide)) (ax_cons (ex_var 0) (ax_cons (ex_var 7) (ax_cons (ex_var 4) (ax_cons (ex_var 2) ax_nil st_Name) st_Name) st_Name) st_Name) (he := st_Name) (hpl := (pl_of (pl_Name (pl_Name (pl_Name pl_nil))))))) rfl)
      (bx_cons (sx_setF 9 nd__law_street (ex_ix (o_ix (hU hr (by decide))) (ex_lst (ax_cons (ex_bin o_sub (ex_call f__law_draw (hr.mono (by decide)) (ax_cons (ex_var 0) (ax_cons ex_int ax_nil st_Constant) st_Name) (he := st_Name) (hpl := (pl_of (pl_Constant pl_nil)))) ex_int) (ax_cons (ex_bin o_sub (ex_call f__law_draw (hr.mono (by decide)) (ax_cons (ex_var 0) (ax_cons ex_int ax_nil st_Constant) st_Name) (he := st_Name) (hpl := (pl_of (pl_Constant pl_nil)))) ex_int) ax_nil st_BinOp) st_BinOp)) (ex_call f__law_draw (hr.mono (by decide)) (ax_cons (ex_var 0) (ax_cons ex_int ax_nil st_Constant) st_Name) (he := st_Name) (hpl := (pl_of (pl_Constant pl_nil))))))
      (bx_one (sx_ret (ex_disp (PrL.str (ex_ix (o_ix (hU hr (by decide))) (ex_var 8) ex_int) (PrL.str (ex_var 9) (PrL.str (ex_slice (ex_var 8) (px_some ex_int) (px_some (ex_un u_neg ex_int))) (PrL.str (ex_ix (o_ix (hU hr (by decide))) (ex_var 8) (ex_un u_neg ex_int)) PrL.nil)))))))))))))
/-! Sort.doors -/
abbrev N_Sort_doors : List Str := ["self"]
theorem nd_Sort_doors : N_Sort_doors.Nodup := by decide +kernel
theorem sc_Sort_doors : FnScope N_Sort_doors ["self"] (defScope (inClass (top 2) 3)) := ⟨rfl, rfl, rfl, by decide +kernel, rfl, by decide +kernel, by decide +kernel⟩
def b_Sort_doors : Sm := (sRet (mUn gVals (mUn (gFld ["Sort"] "gates") (mVar 0))))
def m_Sort_doors : Fm := runF 1 b_Sort_doors
theorem fn_Sort_doors {f : Addr} {fd : FuncData} (F : Fun K "doors" "Sort.doors" (inClass (top 2) 3) f fd) (z_list : mg "list" = none) (k_gates : FldOk K mg ["Sort"] "gates") : FnG P w K mg base (L2.CX P w) 1 f fd ["self"] (spF K mg 1 m_Sort_doors) :=
  fn_runE (mb := b_Sort_doors) F sc_Sort_doors rfl rfl fun cdv A outer s H Ex hr =>
    (bx_one (sx_ret (ex_listVals rfl z_list (ex_fld k_gates (ex_var 0)))))
/-! Street.sort_at -/
abbrev N_Street_sort_at : List Str := ["self", "house", "at"]
theorem nd_Street_sort_at : N_Street_sort_at.Nodup := by decide +kernel
theorem sc_Street_sort_at : FnScope N_Street_sort_at ["self", "house"] (defScope (inClass (top 3) 8)) := ⟨rfl, rfl, rfl, by decide +kernel, rfl, by decide +kernel, by decide +kernel⟩
def b_Street_sort_at : Sm := (bCons (sSetF 2 (mBin gSub (mVar 1) (mUn (gFld ["Street"] "begin") (mVar 0))))
  (bCons (sIf (mBool (mBin (gCmpI fun i j => decide (i < j)) (mVar 2) (mC (.int 0)))) (sRet (mUn (gFld ["Street"] "left_one") (mVar 0))) bNil)
  (sRet (mIfE (mBool (mBin (gCmpI fun i j => decide (i < j)) (mVar 2) (mCB (g1 gLen) (maCons (mUn (gFld ["Street"] "strange") (mVar 0)) maNil)))) (mBin gIx (mUn (gFld ["Street"] "strange") (mVar 0)) (mVar 2)) (mUn (gFld ["Street"] "right_one") (mVar 0))))))
def m_Street_sort_at : Fm := runF 3 b_Street_sort_at
theorem fn_Street_sort_at {f : Addr} {fd : FuncData} (F : Fun K "sort_at" "Street.sort_at" (inClass (top 3) 8) f fd) (z_len : mg "len" = none) (k_begin : FldOk K mg ["Street"] "begin") (k_left_one : FldOk K mg ["Street"] "left_one") (k_right_one : FldOk K mg ["Street"] "right_one") (k_strange : FldOk K mg ["Street"] "strange") : FnG P w K mg base (L2.CX P w) 1 f fd ["self", "house"] (spF K mg 2 m_Street_sort_at) :=
  fn_runE (mb := b_Street_sort_at) F sc_Street_sort_at rfl rfl fun cdv A outer s H Ex hr =>
    (bx_cons (sx_setF 2 nd_Street_sort_at (ex_bin o_sub (ex_var 1) (ex_fld k_begin (ex_var 0))))
      (bx_cons (sx_if (tx_cmp o_lt (ex_var 2) ex_int) (bx_one (sx_ret (ex_fld k_left_one (ex_var 0)))) bx_nil)
      (bx_one (sx_ret (ex_if (tx_cmp o_lt (ex_var 2) (ex_callB c_len rfl z_len (by decide +kernel) (ax_cons (ex_fld k_strange (ex_var 0)) ax_nil st_Attribute) (he := st_Attribute) (hpl := (pl_of pl_nil)))) (ex_ix (o_ix (hU hr (by decide))) (ex_fld k_strange (ex_var 0)) (ex_var 2)) (ex_fld k_right_one (ex_var 0)))))))
/-! Sort.has_room -/
abbrev N_Sort_has_room : List Str := ["self", "room"]
theorem nd_Sort_has_room : N_Sort_has_room.Nodup := by decide +kernel
theorem sc_Sort_has_room : FnScope N_Sort_has_room ["self", "room"] (defScope (inClass (top 2) 4)) := ⟨rfl, rfl, rfl, by decide +kernel, rfl, by decide +kernel, by decide +kernel⟩
def b_Sort_has_room : Sm := (sRet (mAnd (mUn (gIsi "str") (mVar 1)) (mBin (gIn false) (mVar 1) (mUn (gFld ["Sort"] "chambers") (mVar 0)))))
def m_Sort_has_room : Fm := runF 2 b_Sort_has_room
theorem fn_Sort_has_room {f : Addr} {fd : FuncData} (F : Fun K "has_room" "Sort.has_room" (inClass (top 2) 4) f fd) (z_isinstance : mg "isinstance" = none) (z_str : mg "str" = none) (k_chambers : FldOk K mg ["Sort"] "chambers") : FnG P w K mg base (L2.CX P w) 1 f fd ["self", "room"] (spF K mg 2 m_Sort_has_room) :=
  fn_runE (mb := b_Sort_has_room) F sc_Sort_has_room rfl rfl fun cdv A outer s H Ex hr =>
    (bx_one (sx_ret (ex_and (ex_isi (T := "str") z_isinstance z_str (by decide +kernel) (ex_var 1)) (ex_one (ex_cmp (o_in (hU hr (by decide))) (ex_var 1) (ex_fld k_chambers (ex_var 0)))))))
/-! is_there -/
abbrev N_is_there : List Str := ["street", "house", "door"]
theorem nd_is_there : N_is_there.Nodup := by decide +kernel
theorem sc_is_there : FnScope N_is_there ["street", "house", "door"] (defScope (top 5)) := ⟨rfl, rfl, rfl, by decide +kernel, rfl, by decide +kernel, by decide +kernel⟩
def b_is_there : Sm := (sRet (mMeth "Sort" "has_room" 2 m_Sort_has_room (mMeth "Street" "sort_at" 2 m_Street_sort_at (mVar 0) (maCons (mBin gAdd (mVar 1) (mBin gIx (mVar 2) (mC (.int 2)))) maNil)) (maCons (mBin gIx (mVar 2) (mC (.int 3))) maNil)))
def m_is_there : Fm := runF 3 b_is_there
theorem fn_is_there {f : Addr} {fd : FuncData} (F : Fun K "is_there" "is_there" (top 5) f fd) (f_Sort_has_room : FnM P w K mg base "Sort" "has_room" 1 2 m_Sort_has_room) (f_Street_sort_at : FnM P w K mg base "Street" "sort_at" 1 2 m_Street_sort_at) : FnG P w K mg base (L2.CX P w) 2 f fd ["street", "house", "door"] (spF K mg 3 m_is_there) :=
  fn_runE (mb := b_is_there) F sc_is_there rfl rfl fun cdv A outer s H Ex hr =>
    (bx_one (sx_ret (ex_meth f_Sort_has_room (hr.mono (by decide)) (ex_meth f_Street_sort_at (hr.mono (by decide)) (ex_var 0) (ax_cons (ex_bin o_add (ex_var 1) (ex_ix (o_ix (hU hr (by decide))) (ex_var 2) ex_int)) ax_nil st_BinOp) (hst := st_BinOp) (hpl := (pl_of pl_nil))) (ax_cons (ex_ix (o_ix (hU hr (by decide))) (ex_var 2) ex_int) ax_nil st_Subscript) (hst := st_Subscript) (hpl := (pl_of pl_nil)))))
/-! doors_at -/
abbrev N_doors_at : List Str := ["street", "stand", "house", "room", "door"]
theorem nd_doors_at : N_doors_at.Nodup := by decide +kernel
theorem sc_doors_at : FnScope N_doors_at ["street", "stand"] (defScope (top 6)) := ⟨rfl, rfl, rfl, by decide +kernel, rfl, by decide +kernel, by decide +kernel⟩
theorem blk_doors_at_0 : BlkOk N_doors_at (defScope (top 6)) ({ kind := PySem.ScopeKind.function, names := [ (PySem.Str.ofString ".0", PySem.NameKind.local), (PySem.Str.ofString "door", PySem.NameKind.local), (PySem.Str.ofString "is_there", PySem.NameKind.globalImplicit), (PySem.Str.ofString "house", PySem.NameKind.free), (PySem.Str.ofString "room", PySem.NameKind.free), (PySem.Str.ofString "street", PySem.NameKind.free)], isGenerator := false, isCoroutine := false, more := [] : PySem.Scope } : Scope) [("door", 4)] := L2.blkOk_by (by decide +kernel)
def b_doors_at : Sm := (bCons (sUnp [2, 3] (mVar 1))
  (sRet (mComp [4] (mSeq (mMeth "Sort" "doors" 1 m_Sort_doors (mMeth "Street" "sort_at" 2 m_Street_sort_at (mVar 0) (maCons (mVar 2) maNil)) maNil)) (gFz 4) (tmAnd (mBool (mBin gEq (mBin gIx (mVar 4) (mC (.int 1))) (mVar 3))) (mTruth (mCall 3 m_is_there (maCons (mVar 0) (maCons (mVar 2) (maCons (mVar 4) maNil)))))) (mVar 4))))
def m_doors_at : Fm := runF 5 b_doors_at
theorem fn_doors_at {f : Addr} {fd : FuncData} (F : Fun K "doors_at" "doors_at" (top 6) f fd) (f_Sort_doors : FnM P w K mg base "Sort" "doors" 1 1 m_Sort_doors) (f_Street_sort_at : FnM P w K mg base "Street" "sort_at" 1 2 m_Street_sort_at) (f_is_there : Fn P w K mg base "is_there" 2 3 m_is_there) : FnG P w K mg base (L2.CX P w) 3 f fd ["street", "stand"] (spF K mg 2 m_doors_at) :=
  fn_runE (mb := b_doors_at) F sc_doors_at rfl rfl fun cdv A outer s H Ex hr =>
    (bx_cons (sx_unp rfl (nml_cons 2 nd_doors_at (nml_cons 3 nd_doors_at NmL.nil)) (ex_var 1))
      (bx_one (sx_ret (ex_comp [("door", 4)] rfl nd_doors_at blk_doors_at_0 (ix_seq (ex_meth0 f_Sort_doors (hr.mono (by decide)) (ex_meth f_Street_sort_at (hr.mono (by decide)) (ex_var 0) (ax_cons (ex_var 2) ax_nil st_Name) (hst := st_Name) (hpl := (pl_of pl_nil))))) (fun _ _ _ _ _ => (tg_name 4 nd_doors_at)) (fun _ _ _ _ _ => (txs_one (txw_tx (txw_and (tx_cmp (o_eq (hU hr (by decide))) (ex_ix (o_ix (hU hr (by decide))) (ex_var 4) ex_int) (ex_var 3)) (txw_and1 (tx_any (ex_call f_is_there (hr.mono (by decide)) (ax_cons (ex_var 0) (ax_cons (ex_var 2) (ax_cons (ex_var 4) ax_nil st_Name) st_Name) st_Name) (he := st_Name) (hpl := (pl_of (pl_Name (pl_Name pl_nil))))))))))) (fun _ _ _ _ _ => (ex_var 4))))))
/-! steps -/
abbrev N_steps : List Str := ["street", "other", "door"]
theorem nd_steps : N_steps.Nodup := by decide +kernel
theorem sc_steps : FnScope N_steps ["street", "other"] (defScope (top 7)) := ⟨rfl, rfl, rfl, by decide +kernel, rfl, by decide +kernel, by decide +kernel⟩
theorem blk_steps_0 : BlkOk N_steps (defScope (top 7)) ({ kind := PySem.ScopeKind.function, names := [(PySem.Str.ofString ".0", PySem.NameKind.local), (PySem.Str.ofString "door", PySem.NameKind.local)], isGenerator := false, isCoroutine := false, more := [] : PySem.Scope } : Scope) [("door", 2)] := L2.blkOk_by (by decide +kernel)
def b_steps : Sm := (sRet (mComp [2] (mSeq (mCall 2 m_doors_at (maCons (mVar 0) (maCons (mVar 1) maNil)))) (gFz 2) tmYes (mBin gIx (mVar 2) (mC (.int 0)))))
def m_steps : Fm := runF 3 b_steps
theorem fn_steps {f : Addr} {fd : FuncData} (F : Fun K "steps" "steps" (top 7) f fd) (f_doors_at : Fn P w K mg base "doors_at" 3 2 m_doors_at) : FnG P w K mg base (L2.CX P w) 4 f fd ["street", "other"] (spF K mg 2 m_steps) :=
  fn_runE (mb := b_steps) F sc_steps rfl rfl fun cdv A outer s H Ex hr =>
    (bx_one (sx_ret (ex_comp [("door", 2)] rfl nd_steps blk_steps_0 (ix_seq (ex_call f_doors_at (hr.mono (by decide)) (ax_cons (ex_var 0) (ax_cons (ex_var 1) ax_nil st_Name) st_Name) (he := st_Name) (hpl := (pl_of (pl_Name pl_nil))))) (fun _ _ _ _ _ => (tg_name 2 nd_steps)) (fun _ _ _ _ _ => txs_nil) (fun _ _ _ _ _ => (ex_ix (o_ix (hU hr (by decide))) (ex_var 2) ex_int)))))
/-! law -/
abbrev N_law : List Str := ["script", "pen", "bout", "street", "made", "first", "house", "stand", "due", "kept", "door", "turn", "told"]
theorem nd_law : N_law.Nodup := by decide +kernel
theorem sc_law : FnScope N_law ["script"] (defScope (top 20)) := ⟨rfl, rfl, rfl, by decide +kernel, rfl, by decide +kernel, by decide +kernel⟩
theorem blk_law_0 : BlkOk N_law (defScope (top 20)) ({ kind := PySem.ScopeKind.function, names := [(PySem.Str.ofString ".0", PySem.NameKind.local), (PySem.Str.ofString "door", PySem.NameKind.local)], isGenerator := false, isCoroutine := false, more := [] : PySem.Scope } : Scope) [("door", 10)] := L2.blkOk_by (by decide +kernel)
def b_law : Sm := (bCons (sSetH 1 (mCall 1 m__law_pen (maCons (mVar 0) maNil)))
  (bCons (sFor (mRng1 (maCons (mBin gAdd (mC (.int 3)) (mCB (g2 gMin2) (maCons (mC (.int 6)) (maCons (mCB (g1 gLen) (maCons (mVar 0) maNil)) maNil)))) maNil)) (gFz 2) (bCons (sSetF 3 (mCall 4 m__law_street (maCons (mVar 1) (maCons (mC (.int 5)) (maCons (mC (.int 10)) (maCons (mC (.int 5)) maNil))))))
  (bCons (sFrz [4, 5] (sPend [4, 5] [(mCall 1 m__law_made (maCons (mVar 3) maNil)), (mBin gIx (mVar 3) (mC (.str "first")))]))
  (sFor (mSeq (mBin gAdd (mBin gListR (mBin gSub (mVar 5) (mC (.int 2))) (mBin gAdd (mBin gAdd (mVar 5) (mCB (g1 gLen) (maCons (mBin gIx (mVar 3) (mC (.str "odd"))) maNil))) (mC (.int 2)))) (mLst (maCons (mBin gSub (mBin gPow (mC (.int 10)) (mC (.int 12))) (mC (.int 9))) (maCons (mBin gSub (mC (.int 9)) (mBin gPow (mC (.int 10)) (mC (.int 12)))) maNil))))) (gFz 6) (bCons (sSetF 7 (mTup (maCons (mVar 6) (maCons (mCall 2 m__law_pick (maCons (mVar 1) (maCons (mBin gIx (mCall 2 m__law_at (maCons (mVar 3) (maCons (mVar 6) maNil))) (mC (.str "rooms"))) maNil))) maNil))))
  (bCons (sFrz [8, 9] (sPend [8, 9] [(mCB (g1 gRepr) (maCons (mComp [10] (mSeq (mCall 2 m__law_doors (maCons (mVar 3) (maCons (mVar 7) maNil)))) (gFz 10) tmYes (mBin gIx (mVar 10) (mC (.int 0)))) maNil)), (mCB (g1 gRepr) (maCons (mVar 7) maNil))]))
  (sFor (mRng1 (maCons (mC (.int 2)) maNil)) (gFz 11) (bCons (sSet 12 (mCall 2 m_steps (maCons (mVar 4) (maCons (mVar 7) maNil))))
  (bCons (sIf (tmOr (mBool (mBin gNe (mCB (g1 gRepr) (maCons (mVar 12) maNil)) (mVar 8))) (tmOr (mBool (mBin gNe (mCB (g1 gRepr) (maCons (mVar 7) maNil)) (mVar 9))) (mBool (mBin gNe (mVar 12) (mCB (g1 gSorted) (maCons (mVar 12) maNil)))))) (sRet (mC (.bl false))) bNil)
  (sDrop (mMut0 "list" gClear (mVar 12))))))))))))
  (sRet (mC (.bl true)))))
def m_law : Fm := runF 13 b_law
theorem fn_law {f : Addr} {fd : FuncData} (F : Fun K "law" "law" (top 20) f fd) (z_len : mg "len" = none) (z_list : mg "list" = none) (z_min : mg "min" = none) (z_range : mg "range" = none) (z_repr : mg "repr" = none) (z_sorted : mg "sorted" = none) (f__law_at : Fn P w K mg base "_law_at" 1 2 m__law_at) (f__law_doors : Fn P w K mg base "_law_doors" 2 2 m__law_doors) (f__law_made : Fn P w K mg base "_law_made" 3 1 m__law_made) (f__law_pen : Fn P w K mg base "_law_pen" 1 1 m__law_pen) (f__law_pick : Fn P w K mg base "_law_pick" 2 2 m__law_pick) (f__law_street : Fn P w K mg base "_law_street" 5 4 m__law_street) (f_steps : Fn P w K mg base "steps" 4 2 m_steps) : FnG P w K mg base (L2.CX P w) 6 f fd ["script"] (spF K mg 1 m_law) :=
  fn_runE (mb := b_law) F sc_law rfl rfl fun cdv A outer s H Ex hr =>
    (bx_cons (sx_setH 1 nd_law (ex_call f__law_pen (hr.mono (by decide)) (ax_cons (ex_var 0) ax_nil st_Name) (he := st_Name) (hpl := (pl_of pl_nil))))
      (bx_cons (sx_for PassesOwn.leaving rfl (ix_range1 z_range (ax_cons (ex_bin o_add ex_int (ex_callB (c_min2 rfl) rfl z_min (by decide +kernel) (ax_cons ex_int (ax_cons (ex_callB c_len rfl z_len (by decide +kernel) (ax_cons (ex_var 0) ax_nil st_Name) (he := st_Name) (hpl := (pl_of pl_nil))) ax_nil st_Call) st_Constant) (he := st_Constant) (hpl := (pl_of (pl_Call pl_nil))))) ax_nil st_BinOp)) (tg_name 2 nd_law) (bx_cons (sx_setF 3 nd_law (ex_call f__law_street (hr.mono (by decide)) (ax_cons (ex_var 1) (ax_cons ex_int (ax_cons ex_int (ax_cons ex_int ax_nil st_Constant) st_Constant) st_Constant) st_Name) (he := st_Name) (hpl := (pl_of (pl_Constant (pl_Constant (pl_Constant pl_nil)))))))
      (bx_cons (sx_frz [4, 5] (sx_tup2 4 5 rfl nd_law (exl_cons (ex_call f__law_made (hr.mono (by decide)) (ax_cons (ex_var 3) ax_nil st_Name) (he := st_Name) (hpl := (pl_of pl_nil))) (exl_cons (ex_ix (o_ix (hU hr (by decide))) (ex_var 3) ex_str) ExL.nil))))
      (bx_one (sx_for PassesOwn.leaving rfl (ix_seq (ex_bin o_add (ex_listR2 rfl z_range z_list (ex_bin o_sub (ex_var 5) ex_int) (ex_bin o_add (ex_bin o_add (ex_var 5) (ex_callB c_len rfl z_len (by decide +kernel) (ax_cons (ex_ix (o_ix (hU hr (by decide))) (ex_var 3) ex_str) ax_nil st_Subscript) (he := st_Subscript) (hpl := (pl_of pl_nil)))) ex_int)) (ex_lst (ax_cons (ex_bin o_sub (ex_bin o_pow ex_int ex_int) ex_int) (ax_cons (ex_bin o_sub ex_int (ex_bin o_pow ex_int ex_int)) ax_nil st_BinOp) st_BinOp)))) (tg_name 6 nd_law) (bx_cons (sx_setF 7 nd_law (ex_tup (ax_cons (ex_var 6) (ax_cons (ex_call f__law_pick (hr.mono (by decide)) (ax_cons (ex_var 1) (ax_cons (ex_ix (o_ix (hU hr (by decide))) (ex_call f__law_at (hr.mono (by decide)) (ax_cons (ex_var 3) (ax_cons (ex_var 6) ax_nil st_Name) st_Name) (he := st_Name) (hpl := (pl_of (pl_Name pl_nil)))) ex_str) ax_nil st_Subscript) st_Name) (he := st_Name) (hpl := (pl_of (pl_Subscript pl_nil)))) ax_nil st_Call) st_Name)))
      (bx_cons (sx_frz [8, 9] (sx_tup2 8 9 rfl nd_law (exl_cons (ex_callB (c_repr hr.gd (hU hr (by decide))) rfl z_repr (by decide +kernel) (ax_cons (ex_comp [("door", 10)] rfl nd_law blk_law_0 (ix_seq (ex_call f__law_doors (hr.mono (by decide)) (ax_cons (ex_var 3) (ax_cons (ex_var 7) ax_nil st_Name) st_Name) (he := st_Name) (hpl := (pl_of (pl_Name pl_nil))))) (fun _ _ _ _ _ => (tg_name 10 nd_law)) (fun _ _ _ _ _ => txs_nil) (fun _ _ _ _ _ => (ex_ix (o_ix (hU hr (by decide))) (ex_var 10) ex_int))) ax_nil st_ListComp) (he := st_ListComp) (hpl := (pl_of pl_nil))) (exl_cons (ex_callB (c_repr hr.gd (hU hr (by decide))) rfl z_repr (by decide +kernel) (ax_cons (ex_var 7) ax_nil st_Name) (he := st_Name) (hpl := (pl_of pl_nil))) ExL.nil))))
      (bx_one (sx_for PassesOwn.leaving rfl (ix_range1 z_range (ax_cons ex_int ax_nil st_Constant)) (tg_name 11 nd_law) (bx_cons (sx_set 12 nd_law (ex_call f_steps (hr.mono (by decide)) (ax_cons (ex_var 4) (ax_cons (ex_var 7) ax_nil st_Name) st_Name) (he := st_Name) (hpl := (pl_of (pl_Name pl_nil)))))
      (bx_cons (sx_if (txw_tx (txw_or (tx_cmp (o_ne (hU hr (by decide))) (ex_callB (c_repr hr.gd (hU hr (by decide))) rfl z_repr (by decide +kernel) (ax_cons (ex_var 12) ax_nil st_Name) (he := st_Name) (hpl := (pl_of pl_nil))) (ex_var 8)) (txw_or (tx_cmp (o_ne (hU hr (by decide))) (ex_callB (c_repr hr.gd (hU hr (by decide))) rfl z_repr (by decide +kernel) (ax_cons (ex_var 7) ax_nil st_Name) (he := st_Name) (hpl := (pl_of pl_nil))) (ex_var 9)) (txw_or1 (tx_cmp (o_ne (hU hr (by decide))) (ex_var 12) (ex_callB (c_sorted (hU hr (by decide))) rfl z_sorted (by decide +kernel) (ax_cons (ex_var 12) ax_nil st_Name) (he := st_Name) (hpl := (pl_of pl_nil)))))))) (bx_one (sx_ret ex_bl)) bx_nil)
      (bx_one (sx_expr (ex_mut0 m_clear PySem.F.plainAttrs_list PySem.F.slot_list_clear PySem.F.type_list_clear (ex_var 12)))))))))))))))
      (bx_one (sx_ret ex_bl))))
end
theorem draw_spec {S : List D} {h : Nat} {b many : Int} (p : PenAt S h b) (hb : b < 2 ^ 40) (hm : 0 < many) (hm2 : many < 2 ^ 40) :
    wE (m__law_draw [.hdl h, .int many] S) fun rv c => ∃ k pd, rv = .fz (.int k) ∧ 0 ≤ k ∧ k < many ∧ c.S = S.set h pd ∧ PenAt c.S h (b + 1) := by
  obtain ⟨cells, t, r, hp, hc, ht0, htb, hr0⟩ := p
  have hS : h < S.length := (List.getElem?_eq_some_iff.mp hp).1
  have hg : ∀ x, (S.set h x)[h]? = some x := fun x => List.getElem?_set_self hS
  have fin : ∀ {x t' r' : Int} {s1 : List D}, s1 = S.set h (.dct (penKv cells t' r')) → t ≤ t' → t' ≤ t + 1 → 0 ≤ r' → ∃ k pd, Rv.fz (.int (x % many)) = .fz (.int k) ∧ 0 ≤ k ∧ k < many ∧ s1 = S.set h pd ∧ PenAt s1 h (b + 1) :=
    fun {x t' r' s1} e h1 h2 h3 => ⟨_, _, rfl, Int.emod_nonneg _ (by omega), Int.emod_lt_of_pos _ hm, e, ⟨cells, t', r', by rw [e]; exact hg _, hc, by omega, by omega, h3⟩⟩
  apply wE_runF
  show wE (b__law_draw ⟨[.fz (.hdl h), .fz (.int many), .un, .un, .un, .un, .un, .un], S⟩) _
  have md : ∀ x, gMod (.int x) (.int many) = some (.fz (.int (x % many))) := fun x => gMod_pos hm
  have fd : ∀ x, gFdiv (.int x) (.int many) = some (.fz (.int (x / many))) := fun x => gFdiv_pos hm (by omega)
  by_cases hr : 0 < r
  · simp only [wE_bCons, wE_sIf, wE_bNil, wE_mBool, wE_mTruth, wE_tmAnd, wE_tmOr, wE_tmNot, wE_mBin, wE_mUn, wE_m1, wE_mVar, wE_m2, wE_mC, wE_sSet, wE_sSetH, wE_sPut, wE_sRet, wE_sDrop, wE_sUnp, wE_sPend, mPend_nil, mPend_cons, pend_fz, pend_nwl, pend_loc, putL_nil, putL_fz, putL_nw, fzL_nil, fzL_cons, wE_mLst, wE_mTup, wE_mCB, wE_mCall, wE_mMut, wE_mSeq, wE_mRng1, wE_for, wE_mDisp, wE_mPairs_nil, wE_mPairs_cons, wE_tmYes, wE_ok, wE_mIfE, wE_maCons, wE_maNil, views_cons, views_nil, vals_cons, vals_nil, Option.bind_some, Option.map_some, settle_fz, settle_loc, settle_nw, view_hdl, view_int, view_str, view_bl, view_lst, view_tup, view_ro, view_loc, view_nw, view_dct, oE_some, gCmpI_int, gAdd_int, gSub_int, toVal_fz, toVal_nw, toVal_loc, cont_hdl, cont_loc, putB_hdl, putB_loc, putH_nw, putR_fz, putR_nwl, putR_nwt, putR_nwd, putR_loc, leaveR_fz, leaveR_nw, leaveR_loc, List.getElem?_cons_zero, List.getElem?_cons_succ, List.length_cons, List.length_nil, List.set_cons_zero, List.set_cons_succ, decide_true, decide_false, if_true, if_false, Bool.not_true, Bool.not_false, Bool.false_eq_true, true_and, and_true, Nat.reduceAdd, Nat.reduceLT, Nat.reduceLeDiff, Nat.zero_add, reduceIte, and_self, eq_self, wE_sSetF, wE_sFrz, frzS_nil, frzS_cons, wE_mSl, wE_pNo, wE_pSome, wE_mM1, wE_mAnd, wE_mOr, wE_mChain, wE_mDct, truthD_bl, gNeg_int, view_exc, gFz_lt, gT_tup, gC_cons, gN_nil, tyD_lst, oE_none, b__law_draw, hp, pen_r, pen_pr, hr, md, fd]
    exact fin rfl (Int.le_refl _) (by omega) (Int.ediv_nonneg hr0 (by omega))
  · obtain ⟨p1, e1, q1, q2⟩ := prime_ix (i := t % 5) (by omega) (by omega)
    obtain ⟨p2, e2, q3, q4⟩ := prime_ix (i := (t + 3) % 5) (by omega) (by omega)
    have b1 : ∀ x : Int, 0 ≤ x % p1 ∧ x % p1 < p1 := fun x => ⟨Int.emod_nonneg _ (by omega), Int.emod_lt_of_pos _ q1⟩
    have b2 : ∀ x : Int, 0 ≤ x % p2 ∧ x % p2 < p2 := fun x => ⟨Int.emod_nonneg _ (by omega), Int.emod_lt_of_pos _ q3⟩
    have m1 : gMul (.int 31) (.int t) = some (.fz (.int (31 * t))) := gMul_small (by decide) (by omega)
    have m2 : gMul (.int 40692) (.int t) = some (.fz (.int (40692 * t))) := gMul_small (by decide) (by omega)
    have m3 : gMul (.int (40692 * t)) (.int t) = some (.fz (.int (40692 * t * t))) := gMul_small (by omega) (by omega)
    have m4 : ∀ x, gMul (.int (x % p1)) (.int 69621) = some (.fz (.int (x % p1 * 69621))) := fun x => by have := b1 x; exact gMul_small (by omega) (by decide)
    have m5 : ∀ x, gMul (.int (x % p1)) (.int (x % p1 + 48271)) = some (.fz (.int (x % p1 * (x % p1 + 48271)))) := fun x => by have := b1 x; exact gMul_small (by omega) (by omega)
    have m6 : ∀ x, gMul (.int (x % p2)) (.int (x % p2)) = some (.fz (.int (x % p2 * (x % p2)))) := fun x => by have := b2 x; exact gMul_small (by omega) (by omega)
    have d1 : ∀ x, gMod (.int x) (.int p1) = some (.fz (.int (x % p1))) := fun x => gMod_pos q1
    have d2 : ∀ x, gMod (.int x) (.int p2) = some (.fz (.int (x % p2))) := fun x => gMod_pos q3
    have d3 : ∀ x, gMod (.int x) (.int 5) = some (.fz (.int (x % 5))) := fun x => gMod_pos (by decide)
    have d4 : ∀ x, gMod (.int x) (.int 2147483549) = some (.fz (.int (x % 2147483549))) := fun x => gMod_pos (by decide)
    have d5 : ∀ x, gFdiv (.int x) (.int 64) = some (.fz (.int (x / 64))) := fun x => gFdiv_pos (by decide) (by decide)
    have z5 : 5 ≤ sizeLine := by rw [sizeLine_eq]; decide
    have z0 : 0 ≤ sizeLine := by omega
    by_cases hz : cells = []
    · have hz' : cells.isEmpty = true := by rw [hz]; rfl
      have hl : ¬ t < ((cells.map D.int).length : Int) := by rw [hz]; simpa using ht0
      simp only [wE_bCons, wE_sIf, wE_bNil, wE_mBool, wE_mTruth, wE_tmAnd, wE_tmOr, wE_tmNot, wE_mBin, wE_mUn, wE_m1, wE_mVar, wE_m2, wE_mC, wE_sSet, wE_sSetH, wE_sPut, wE_sRet, wE_sDrop, wE_sUnp, wE_sPend, mPend_nil, mPend_cons, pend_fz, pend_nwl, pend_loc, putL_nil, putL_fz, putL_nw, fzL_nil, fzL_cons, wE_mLst, wE_mTup, wE_mCB, wE_mCall, wE_mMut, wE_mSeq, wE_mRng1, wE_for, wE_mDisp, wE_mPairs_nil, wE_mPairs_cons, wE_tmYes, wE_ok, wE_mIfE, wE_maCons, wE_maNil, views_cons, views_nil, vals_cons, vals_nil, Option.bind_some, Option.map_some, settle_fz, settle_loc, settle_nw, view_hdl, view_int, view_str, view_bl, view_lst, view_tup, view_ro, view_loc, view_nw, view_dct, oE_some, gCmpI_int, gAdd_int, gSub_int, toVal_fz, toVal_nw, toVal_loc, cont_hdl, cont_loc, putB_hdl, putB_loc, putH_nw, putR_fz, putR_nwl, putR_nwt, putR_nwd, putR_loc, leaveR_fz, leaveR_nw, leaveR_loc, List.getElem?_cons_zero, List.getElem?_cons_succ, List.length_cons, List.length_nil, List.set_cons_zero, List.set_cons_succ, decide_true, decide_false, if_true, if_false, Bool.not_true, Bool.not_false, Bool.false_eq_true, true_and, and_true, Nat.reduceAdd, Nat.reduceLT, Nat.reduceLeDiff, Nat.zero_add, reduceIte, and_self, eq_self, wE_sSetF, wE_sFrz, frzS_nil, frzS_cons, wE_mSl, wE_pNo, wE_pSome, wE_mM1, wE_mAnd, wE_mOr, wE_mChain, wE_mDct, truthD_bl, gNeg_int, view_exc, gFz_lt, gT_tup, gC_cons, gN_nil, tyD_lst, oE_none, b__law_draw, hp, hg, pen_r, pen_t, pen_c, pen_pt, pen_pr, hr, md, fd, gNe_nilI, hz', gLen_lst, hl, m1, m2, m3, m4, m5, m6, d1, d2, d3, d4, d5, e1, e2, z5, z0]
      exact fin (by simp [List.set_set]) (by omega) (Int.le_refl _) hr0
    · have hz' : cells.isEmpty = false := by cases cells with
        | nil => exact absurd rfl hz
        | cons => rfl
      have hcl : 0 < (cells.length : Int) := by
        cases cells with
        | nil => exact absurd rfl hz
        | cons => simp
      have hcl' : 0 < ((cells.map D.int).length : Int) := by rw [List.length_map]; exact hcl
      have dl : gMod (.int t) (.int ((cells.map D.int).length : Int)) = some (.fz (.int (t % ((cells.map D.int).length : Int)))) := gMod_pos hcl'
      obtain ⟨z, e3, _⟩ := ix_int (cells := cells) (i := t % ((cells.map D.int).length : Int)) (Int.emod_nonneg _ (by omega)) (by have := Int.emod_lt_of_pos t hcl'; rw [List.length_map] at this ⊢; exact this)
      obtain ⟨az, ea, ha⟩ : ∃ y : Int, g1 gAbs [.int z] = some (.fz (.int y)) ∧ 0 ≤ y := ⟨_, rfl, by first | omega | (split <;> omega)⟩
      by_cases hl : t < ((cells.map D.int).length : Int)
      · by_cases hbig : (1000000000000000000 : Int) ≤ az
        · simp only [wE_bCons, wE_sIf, wE_bNil, wE_mBool, wE_mTruth, wE_tmAnd, wE_tmOr, wE_tmNot, wE_mBin, wE_mUn, wE_m1, wE_mVar, wE_m2, wE_mC, wE_sSet, wE_sSetH, wE_sPut, wE_sRet, wE_sDrop, wE_sUnp, wE_sPend, mPend_nil, mPend_cons, pend_fz, pend_nwl, pend_loc, putL_nil, putL_fz, putL_nw, fzL_nil, fzL_cons, wE_mLst, wE_mTup, wE_mCB, wE_mCall, wE_mMut, wE_mSeq, wE_mRng1, wE_for, wE_mDisp, wE_mPairs_nil, wE_mPairs_cons, wE_tmYes, wE_ok, wE_mIfE, wE_maCons, wE_maNil, views_cons, views_nil, vals_cons, vals_nil, Option.bind_some, Option.map_some, settle_fz, settle_loc, settle_nw, view_hdl, view_int, view_str, view_bl, view_lst, view_tup, view_ro, view_loc, view_nw, view_dct, oE_some, gCmpI_int, gAdd_int, gSub_int, toVal_fz, toVal_nw, toVal_loc, cont_hdl, cont_loc, putB_hdl, putB_loc, putH_nw, putR_fz, putR_nwl, putR_nwt, putR_nwd, putR_loc, leaveR_fz, leaveR_nw, leaveR_loc, List.getElem?_cons_zero, List.getElem?_cons_succ, List.length_cons, List.length_nil, List.set_cons_zero, List.set_cons_succ, decide_true, decide_false, if_true, if_false, Bool.not_true, Bool.not_false, Bool.false_eq_true, true_and, and_true, Nat.reduceAdd, Nat.reduceLT, Nat.reduceLeDiff, Nat.zero_add, reduceIte, and_self, eq_self, wE_sSetF, wE_sFrz, frzS_nil, frzS_cons, wE_mSl, wE_pNo, wE_pSome, wE_mM1, wE_mAnd, wE_mOr, wE_mChain, wE_mDct, truthD_bl, gNeg_int, view_exc, gFz_lt, gT_tup, gC_cons, gN_nil, tyD_lst, oE_none, b__law_draw, hp, hg, pen_r, pen_t, pen_c, pen_pt, pen_pr, hr, md, fd, gNe_nilI, hz', gLen_lst, hl, m1, m2, m3, m4, m5, m6, d1, d2, d3, d4, d5, dl, e1, e2, e3, ea, hbig, gPow_18, z5, z0]
          exact fin (t' := t + 1) (r' := (az - 1000000000000000000) / many) (by simp [List.set_set]) (by omega) (Int.le_refl _) (Int.ediv_nonneg (by omega) (by omega))
        · simp only [wE_bCons, wE_sIf, wE_bNil, wE_mBool, wE_mTruth, wE_tmAnd, wE_tmOr, wE_tmNot, wE_mBin, wE_mUn, wE_m1, wE_mVar, wE_m2, wE_mC, wE_sSet, wE_sSetH, wE_sPut, wE_sRet, wE_sDrop, wE_sUnp, wE_sPend, mPend_nil, mPend_cons, pend_fz, pend_nwl, pend_loc, putL_nil, putL_fz, putL_nw, fzL_nil, fzL_cons, wE_mLst, wE_mTup, wE_mCB, wE_mCall, wE_mMut, wE_mSeq, wE_mRng1, wE_for, wE_mDisp, wE_mPairs_nil, wE_mPairs_cons, wE_tmYes, wE_ok, wE_mIfE, wE_maCons, wE_maNil, views_cons, views_nil, vals_cons, vals_nil, Option.bind_some, Option.map_some, settle_fz, settle_loc, settle_nw, view_hdl, view_int, view_str, view_bl, view_lst, view_tup, view_ro, view_loc, view_nw, view_dct, oE_some, gCmpI_int, gAdd_int, gSub_int, toVal_fz, toVal_nw, toVal_loc, cont_hdl, cont_loc, putB_hdl, putB_loc, putH_nw, putR_fz, putR_nwl, putR_nwt, putR_nwd, putR_loc, leaveR_fz, leaveR_nw, leaveR_loc, List.getElem?_cons_zero, List.getElem?_cons_succ, List.length_cons, List.length_nil, List.set_cons_zero, List.set_cons_succ, decide_true, decide_false, if_true, if_false, Bool.not_true, Bool.not_false, Bool.false_eq_true, true_and, and_true, Nat.reduceAdd, Nat.reduceLT, Nat.reduceLeDiff, Nat.zero_add, reduceIte, and_self, eq_self, wE_sSetF, wE_sFrz, frzS_nil, frzS_cons, wE_mSl, wE_pNo, wE_pSome, wE_mM1, wE_mAnd, wE_mOr, wE_mChain, wE_mDct, truthD_bl, gNeg_int, view_exc, gFz_lt, gT_tup, gC_cons, gN_nil, tyD_lst, oE_none, b__law_draw, hp, hg, pen_r, pen_t, pen_c, pen_pt, pen_pr, hr, md, fd, gNe_nilI, hz', gLen_lst, hl, m1, m2, m3, m4, m5, m6, d1, d2, d3, d4, d5, dl, e1, e2, e3, ea, hbig, gPow_18, z5, z0]
          exact fin (by simp [List.set_set]) (by omega) (Int.le_refl _) hr0
      · simp only [wE_bCons, wE_sIf, wE_bNil, wE_mBool, wE_mTruth, wE_tmAnd, wE_tmOr, wE_tmNot, wE_mBin, wE_mUn, wE_m1, wE_mVar, wE_m2, wE_mC, wE_sSet, wE_sSetH, wE_sPut, wE_sRet, wE_sDrop, wE_sUnp, wE_sPend, mPend_nil, mPend_cons, pend_fz, pend_nwl, pend_loc, putL_nil, putL_fz, putL_nw, fzL_nil, fzL_cons, wE_mLst, wE_mTup, wE_mCB, wE_mCall, wE_mMut, wE_mSeq, wE_mRng1, wE_for, wE_mDisp, wE_mPairs_nil, wE_mPairs_cons, wE_tmYes, wE_ok, wE_mIfE, wE_maCons, wE_maNil, views_cons, views_nil, vals_cons, vals_nil, Option.bind_some, Option.map_some, settle_fz, settle_loc, settle_nw, view_hdl, view_int, view_str, view_bl, view_lst, view_tup, view_ro, view_loc, view_nw, view_dct, oE_some, gCmpI_int, gAdd_int, gSub_int, toVal_fz, toVal_nw, toVal_loc, cont_hdl, cont_loc, putB_hdl, putB_loc, putH_nw, putR_fz, putR_nwl, putR_nwt, putR_nwd, putR_loc, leaveR_fz, leaveR_nw, leaveR_loc, List.getElem?_cons_zero, List.getElem?_cons_succ, List.length_cons, List.length_nil, List.set_cons_zero, List.set_cons_succ, decide_true, decide_false, if_true, if_false, Bool.not_true, Bool.not_false, Bool.false_eq_true, true_and, and_true, Nat.reduceAdd, Nat.reduceLT, Nat.reduceLeDiff, Nat.zero_add, reduceIte, and_self, eq_self, wE_sSetF, wE_sFrz, frzS_nil, frzS_cons, wE_mSl, wE_pNo, wE_pSome, wE_mM1, wE_mAnd, wE_mOr, wE_mChain, wE_mDct, truthD_bl, gNeg_int, view_exc, gFz_lt, gT_tup, gC_cons, gN_nil, tyD_lst, oE_none, b__law_draw, hp, hg, pen_r, pen_t, pen_c, pen_pt, pen_pr, hr, md, fd, gNe_nilI, hz', gLen_lst, hl, m1, m2, m3, m4, m5, m6, d1, d2, d3, d4, d5, dl, e1, e2, e3, ea, gPow_18, z5, z0]
        exact fin (by simp [List.set_set]) (by omega) (Int.le_refl _) hr0
structure Pn (S0 S : List D) (b : Int) : Prop where
  p : PenAt S 0 b
  l : S.length = S0.length
  o : ∀ i, i ≠ 0 → S[i]? = S0[i]?
theorem Pn.mono {S0 S : List D} {b b' : Int} (p : Pn S0 S b) (h : b ≤ b') : Pn S0 S b' := ⟨p.p.mono h, p.l, p.o⟩
theorem draw_bw {S0 S : List D} {b many : Int} {Q : Rv → Cf → Prop} (p : Pn S0 S b) (hb : b < 2 ^ 40) (hm : 0 < many) (hm2 : many < 2 ^ 40) (h : ∀ k c, 0 ≤ k → k < many → Pn S0 c.S (b + 1) → Q (.fz (.int k)) c) :
    wE (m__law_draw [.hdl 0, .int many] S) Q := by
  refine wE_mono (draw_spec p.p hb hm hm2) fun rv c ⟨k, pd, e1, e2, e3, e4, e5⟩ => ?_
  subst e1
  exact h k c e2 e3 ⟨e5, by rw [e4, List.length_set, p.l], fun i hi => by rw [e4, List.getElem?_set_ne (Ne.symm hi), p.o i hi]⟩
theorem pick_lst {S0 S ds : List D} {b : Int} {Q : Rv → Cf → Prop} (p : Pn S0 S b) (hb : b < 2 ^ 40) (h0 : 0 < ds.length) (h1 : ds.length < 2 ^ 40) (h : ∀ d c, d ∈ ds → Pn S0 c.S (b + 1) → Q (.fz d) c) :
    wE (m__law_pick [.hdl 0, .lst ds] S) Q := by
  apply wE_runF
  show wE (b__law_pick ⟨[.fz (.hdl 0), .fz (.lst ds)], S⟩) _
  simp only [wE_bCons, wE_sIf, wE_bNil, wE_mBool, wE_mTruth, wE_tmAnd, wE_tmOr, wE_tmNot, wE_mBin, wE_mUn, wE_m1, wE_mVar, wE_m2, wE_mC, wE_sSet, wE_sSetH, wE_sPut, wE_sRet, wE_sDrop, wE_sUnp, wE_sPend, mPend_nil, mPend_cons, pend_fz, pend_nwl, pend_loc, putL_nil, putL_fz, putL_nw, fzL_nil, fzL_cons, wE_mLst, wE_mTup, wE_mCB, wE_mCall, wE_mMut, wE_mSeq, wE_mRng1, wE_for, wE_mDisp, wE_mPairs_nil, wE_mPairs_cons, wE_tmYes, wE_ok, wE_mIfE, wE_maCons, wE_maNil, views_cons, views_nil, vals_cons, vals_nil, Option.bind_some, Option.map_some, settle_fz, settle_loc, settle_nw, view_hdl, view_int, view_str, view_bl, view_lst, view_tup, view_ro, view_loc, view_nw, view_dct, oE_some, gCmpI_int, gAdd_int, gSub_int, toVal_fz, toVal_nw, toVal_loc, cont_hdl, cont_loc, putB_hdl, putB_loc, putH_nw, putR_fz, putR_nwl, putR_nwt, putR_nwd, putR_loc, leaveR_fz, leaveR_nw, leaveR_loc, List.getElem?_cons_zero, List.getElem?_cons_succ, List.length_cons, List.length_nil, List.set_cons_zero, List.set_cons_succ, decide_true, decide_false, if_true, if_false, Bool.not_true, Bool.not_false, Bool.false_eq_true, true_and, and_true, Nat.reduceAdd, Nat.reduceLT, Nat.reduceLeDiff, Nat.zero_add, reduceIte, and_self, eq_self, wE_sSetF, wE_sFrz, frzS_nil, frzS_cons, wE_mSl, wE_pNo, wE_pSome, wE_mM1, wE_mAnd, wE_mOr, wE_mChain, wE_mDct, truthD_bl, gNeg_int, view_exc, gFz_lt, gT_tup, gC_cons, gN_nil, tyD_lst, oE_none, b__law_pick, gLen_lst]
  refine draw_bw p hb (by omega) (by omega) fun k c e2 e3 p' => ?_
  obtain ⟨x, e6, e7⟩ := atI_in (xs := ds) (i := k) e2 e3
  simp only [wE_bCons, wE_sIf, wE_bNil, wE_mBool, wE_mTruth, wE_tmAnd, wE_tmOr, wE_tmNot, wE_mBin, wE_mUn, wE_m1, wE_mVar, wE_m2, wE_mC, wE_sSet, wE_sSetH, wE_sPut, wE_sRet, wE_sDrop, wE_sUnp, wE_sPend, mPend_nil, mPend_cons, pend_fz, pend_nwl, pend_loc, putL_nil, putL_fz, putL_nw, fzL_nil, fzL_cons, wE_mLst, wE_mTup, wE_mCB, wE_mCall, wE_mMut, wE_mSeq, wE_mRng1, wE_for, wE_mDisp, wE_mPairs_nil, wE_mPairs_cons, wE_tmYes, wE_ok, wE_mIfE, wE_maCons, wE_maNil, views_cons, views_nil, vals_cons, vals_nil, Option.bind_some, Option.map_some, settle_fz, settle_loc, settle_nw, view_hdl, view_int, view_str, view_bl, view_lst, view_tup, view_ro, view_loc, view_nw, view_dct, oE_some, gCmpI_int, gAdd_int, gSub_int, toVal_fz, toVal_nw, toVal_loc, cont_hdl, cont_loc, putB_hdl, putB_loc, putH_nw, putR_fz, putR_nwl, putR_nwt, putR_nwd, putR_loc, leaveR_fz, leaveR_nw, leaveR_loc, List.getElem?_cons_zero, List.getElem?_cons_succ, List.length_cons, List.length_nil, List.set_cons_zero, List.set_cons_succ, decide_true, decide_false, if_true, if_false, Bool.not_true, Bool.not_false, Bool.false_eq_true, true_and, and_true, Nat.reduceAdd, Nat.reduceLT, Nat.reduceLeDiff, Nat.zero_add, reduceIte, and_self, eq_self, wE_sSetF, wE_sFrz, frzS_nil, frzS_cons, wE_mSl, wE_pNo, wE_pSome, wE_mM1, wE_mAnd, wE_mOr, wE_mChain, wE_mDct, truthD_bl, gNeg_int, view_exc, gFz_lt, gT_tup, gC_cons, gN_nil, tyD_lst, oE_none, gIx_lst, e6]
  exact h x _ e7 p'
theorem pick_str {S0 S : List D} {x : Str} {b : Int} {Q : Rv → Cf → Prop} (p : Pn S0 S b) (hb : b < 2 ^ 40) (h0 : 0 < x.length) (h1 : x.length ≤ sizeLine) (h : ∀ z c, z ∈ x.cps.toList → Pn S0 c.S (b + 1) → Q (.fz (.str ⟨#[z]⟩)) c) :
    wE (m__law_pick [.hdl 0, .str x] S) Q := by
  apply wE_runF
  show wE (b__law_pick ⟨[.fz (.hdl 0), .fz (.str x)], S⟩) _
  have hz : x.length < 2 ^ 40 := by rw [sizeLine_eq] at h1; omega
  simp only [wE_bCons, wE_sIf, wE_bNil, wE_mBool, wE_mTruth, wE_tmAnd, wE_tmOr, wE_tmNot, wE_mBin, wE_mUn, wE_m1, wE_mVar, wE_m2, wE_mC, wE_sSet, wE_sSetH, wE_sPut, wE_sRet, wE_sDrop, wE_sUnp, wE_sPend, mPend_nil, mPend_cons, pend_fz, pend_nwl, pend_loc, putL_nil, putL_fz, putL_nw, fzL_nil, fzL_cons, wE_mLst, wE_mTup, wE_mCB, wE_mCall, wE_mMut, wE_mSeq, wE_mRng1, wE_for, wE_mDisp, wE_mPairs_nil, wE_mPairs_cons, wE_tmYes, wE_ok, wE_mIfE, wE_maCons, wE_maNil, views_cons, views_nil, vals_cons, vals_nil, Option.bind_some, Option.map_some, settle_fz, settle_loc, settle_nw, view_hdl, view_int, view_str, view_bl, view_lst, view_tup, view_ro, view_loc, view_nw, view_dct, oE_some, gCmpI_int, gAdd_int, gSub_int, toVal_fz, toVal_nw, toVal_loc, cont_hdl, cont_loc, putB_hdl, putB_loc, putH_nw, putR_fz, putR_nwl, putR_nwt, putR_nwd, putR_loc, leaveR_fz, leaveR_nw, leaveR_loc, List.getElem?_cons_zero, List.getElem?_cons_succ, List.length_cons, List.length_nil, List.set_cons_zero, List.set_cons_succ, decide_true, decide_false, if_true, if_false, Bool.not_true, Bool.not_false, Bool.false_eq_true, true_and, and_true, Nat.reduceAdd, Nat.reduceLT, Nat.reduceLeDiff, Nat.zero_add, reduceIte, and_self, eq_self, wE_sSetF, wE_sFrz, frzS_nil, frzS_cons, wE_mSl, wE_pNo, wE_pSome, wE_mM1, wE_mAnd, wE_mOr, wE_mChain, wE_mDct, truthD_bl, gNeg_int, view_exc, gFz_lt, gT_tup, gC_cons, gN_nil, tyD_lst, oE_none, b__law_pick, gLen_str h1]
  refine draw_bw p hb (by omega) (by omega) fun k c e2 e3 p' => ?_
  obtain ⟨z, e6, e7⟩ := atI_in (xs := x.cps.toList) (i := k) e2 (by rw [← str_len]; exact e3)
  simp only [wE_bCons, wE_sIf, wE_bNil, wE_mBool, wE_mTruth, wE_tmAnd, wE_tmOr, wE_tmNot, wE_mBin, wE_mUn, wE_m1, wE_mVar, wE_m2, wE_mC, wE_sSet, wE_sSetH, wE_sPut, wE_sRet, wE_sDrop, wE_sUnp, wE_sPend, mPend_nil, mPend_cons, pend_fz, pend_nwl, pend_loc, putL_nil, putL_fz, putL_nw, fzL_nil, fzL_cons, wE_mLst, wE_mTup, wE_mCB, wE_mCall, wE_mMut, wE_mSeq, wE_mRng1, wE_for, wE_mDisp, wE_mPairs_nil, wE_mPairs_cons, wE_tmYes, wE_ok, wE_mIfE, wE_maCons, wE_maNil, views_cons, views_nil, vals_cons, vals_nil, Option.bind_some, Option.map_some, settle_fz, settle_loc, settle_nw, view_hdl, view_int, view_str, view_bl, view_lst, view_tup, view_ro, view_loc, view_nw, view_dct, oE_some, gCmpI_int, gAdd_int, gSub_int, toVal_fz, toVal_nw, toVal_loc, cont_hdl, cont_loc, putB_hdl, putB_loc, putH_nw, putR_fz, putR_nwl, putR_nwt, putR_nwd, putR_loc, leaveR_fz, leaveR_nw, leaveR_loc, List.getElem?_cons_zero, List.getElem?_cons_succ, List.length_cons, List.length_nil, List.set_cons_zero, List.set_cons_succ, decide_true, decide_false, if_true, if_false, Bool.not_true, Bool.not_false, Bool.false_eq_true, true_and, and_true, Nat.reduceAdd, Nat.reduceLT, Nat.reduceLeDiff, Nat.zero_add, reduceIte, and_self, eq_self, wE_sSetF, wE_sFrz, frzS_nil, frzS_cons, wE_mSl, wE_pNo, wE_pSome, wE_mM1, wE_mAnd, wE_mOr, wE_mChain, wE_mDct, truthD_bl, gNeg_int, view_exc, gFz_lt, gT_tup, gC_cons, gN_nil, tyD_lst, oE_none, gIx_str h1, e6]
  exact h z _ e7 p'
theorem pen_bw {ns : List Int} {S : List D} {Q : Rv → Cf → Prop} (h : ∀ c, c.S = S → Q (.nw (.dct (penKv (ns.take 63) 0 0))) c) : wE (m__law_pen [.ro (ns.map D.int)] S) Q := by
  apply wE_runF
  show wE (b__law_pen ⟨[.fz (.ro (ns.map D.int))], S⟩) _
  have z3 : (3 : Nat) ≤ 15 := by decide
  simp only [wE_bCons, wE_sIf, wE_bNil, wE_mBool, wE_mTruth, wE_tmAnd, wE_tmOr, wE_tmNot, wE_mBin, wE_mUn, wE_m1, wE_mVar, wE_m2, wE_mC, wE_sSet, wE_sSetH, wE_sPut, wE_sRet, wE_sDrop, wE_sUnp, wE_sPend, mPend_nil, mPend_cons, pend_fz, pend_nwl, pend_loc, putL_nil, putL_fz, putL_nw, fzL_nil, fzL_cons, wE_mLst, wE_mTup, wE_mCB, wE_mCall, wE_mMut, wE_mSeq, wE_mRng1, wE_for, wE_mDisp, wE_mPairs_nil, wE_mPairs_cons, wE_tmYes, wE_ok, wE_mIfE, wE_maCons, wE_maNil, views_cons, views_nil, vals_cons, vals_nil, Option.bind_some, Option.map_some, settle_fz, settle_loc, settle_nw, view_hdl, view_int, view_str, view_bl, view_lst, view_tup, view_ro, view_loc, view_nw, view_dct, oE_some, gCmpI_int, gAdd_int, gSub_int, toVal_fz, toVal_nw, toVal_loc, cont_hdl, cont_loc, putB_hdl, putB_loc, putH_nw, putR_fz, putR_nwl, putR_nwt, putR_nwd, putR_loc, leaveR_fz, leaveR_nw, leaveR_loc, List.getElem?_cons_zero, List.getElem?_cons_succ, List.length_cons, List.length_nil, List.set_cons_zero, List.set_cons_succ, decide_true, decide_false, if_true, if_false, Bool.not_true, Bool.not_false, Bool.false_eq_true, true_and, and_true, Nat.reduceAdd, Nat.reduceLT, Nat.reduceLeDiff, Nat.zero_add, reduceIte, and_self, eq_self, wE_sSetF, wE_sFrz, frzS_nil, frzS_cons, wE_mSl, wE_pNo, wE_pSome, wE_mM1, wE_mAnd, wE_mOr, wE_mChain, wE_mDct, truthD_bl, gNeg_int, view_exc, gFz_lt, gT_tup, gC_cons, gN_nil, tyD_lst, oE_none, b__law_pen, gSl_63, gList_lst, z3, merge_pen]
  exact h _ rfl
theorem penAt_new {ns : List Int} : PenAt [.dct (penKv (ns.take 63) 0 0)] 0 0 := ⟨⟨ns.take 63, 0, 0, rfl, by rw [List.length_take]; omega, by omega, by omega, by omega⟩⟩
theorem pn_new {ns : List Int} : Pn [.dct (penKv (ns.take 63) 0 0)] [.dct (penKv (ns.take 63) 0 0)] 0 := ⟨penAt_new, rfl, fun _ _ => rfl⟩
/-! ### names -/
def letS : Str := "abcdefghijklmnopqrstuvwxyz"
theorem letS_len : letS.cps.toList.length = 26 := by decide +kernel
theorem letS_nd : letS.cps.toList.Nodup := by decide +kernel
theorem letS_lo : ∀ z ∈ letS.cps.toList, z < 128 := by decide +kernel
def isN (x : Str) : Bool := decide (0 < x.length) && (decide (x.length < 9) && x.cps.toList.all fun c => decide (c ∈ letS.cps.toList))
theorem isN_iff {x : Str} : isN x = true ↔ 0 < x.length ∧ x.length < 9 ∧ ∀ c ∈ x.cps.toList, c ∈ letS.cps.toList := by
  unfold isN
  simp only [Bool.and_eq_true, decide_eq_true_eq, List.all_eq_true]
def strL (xs : List Str) : List D := xs.map D.str
theorem strL_len {xs : List Str} : (strL xs).length = xs.length := by simp [strL]
theorem joinL_nil : ∀ l : List (List Nat), TL.joinL [] l = l.flatten
  | [] => rfl
  | [p] => by simp [TL.joinL]
  | p :: q :: r => by
    show p ++ ([] ++ TL.joinL [] (q :: r)) = _
    rw [List.nil_append, joinL_nil (q :: r)]; rfl
theorem strsD_strL : ∀ xs : List Str, strsD (strL xs) = some xs
  | [] => rfl
  | x :: xs => by
    show (strsD (strL xs)).map (x :: ·) = _
    rw [strsD_strL xs]; rfl
theorem gJoin_lst {y : Str} {xs : List Str} (h : (xs.map (·.length)).sum + xs.length * y.length ≤ 16777216) : gJoin (.str y) (.lst (strL xs)) = some (.fz (.str (Txt.join y xs))) := by
  show (strsD (strL xs)).bind _ = _
  rw [strsD_strL, Option.bind_some, if_pos h]
theorem gJoin_tup {y : Str} {xs : List Str} (h : (xs.map (·.length)).sum + xs.length * y.length ≤ 16777216) : gJoin (.str y) (.tup (strL xs)) = some (.fz (.str (Txt.join y xs))) := by
  show (strsD (strL xs)).bind _ = _
  rw [strsD_strL, Option.bind_some, if_pos h]
theorem join_signs (zs : List Nat) : (Txt.join ("" : Str) (zs.map fun z => (⟨#[z]⟩ : Str))).cps.toList = zs := by
  have h := TL.tl_join "" (zs.map fun z => (⟨#[z]⟩ : Str))
  rw [← TL.join_eq] at h
  have e0 : TL.tl ("" : Str) = [] := by decide +kernel
  rw [e0, joinL_nil] at h
  refine h.trans ?_
  rw [List.map_map]
  induction zs with
  | nil => rfl
  | cons z zs ih =>
    have ih' := ih (by
      have h := TL.tl_join "" (zs.map fun z => (⟨#[z]⟩ : Str))
      rw [← TL.join_eq, e0, joinL_nil] at h
      exact h)
    simp only [List.map_cons, List.flatten_cons]
    rw [ih']
    rfl
def wordsW : List Str := ["room", "door", "house", "first", "left", "right", "odd", "at", "do", "wall", "ever", "never", "leap", "go", "back", "on", "a", "b"]
theorem wordsW_ok : ∀ x ∈ wordsW, isN x = true := by decide +kernel
theorem wordsW_nd : ∀ t < 18, (((wordsW ++ wordsW).drop t).take 18).Nodup := by decide +kernel
/-- the k-th name from a base -/
def nmL (base : List Nat) (at' first cut step k : Nat) : List Nat := base.take at' ++ (letS.cps.toList.getD ((first + step * k) % 26) 0 :: (base.drop (at' + 1)).take (if cut = 0 then 8 else k % 3))
def steps12 : List Int := [1, 3, 5, 7, 9, 11, 15, 17, 19, 21, 23, 25]
theorem step_inj {s : Int} (hs : s ∈ steps12) {f k k' : Nat} (h1 : k < k') (h2 : k' < 18) : (f + s.toNat * k) % 26 ≠ (f + s.toNat * k') % 26 := by
  simp only [steps12, List.mem_cons, List.not_mem_nil, or_false] at hs
  rcases hs with rfl | rfl | rfl | rfl | rfl | rfl | rfl | rfl | rfl | rfl | rfl | rfl <;> simp <;> omega
theorem nmL_at {base : List Nat} {a f c s k : Nat} (ha : a < base.length) : (nmL base a f c s k)[a]? = some (letS.cps.toList.getD ((f + s * k) % 26) 0) := by
  unfold nmL
  have hl : (base.take a).length = a := by rw [List.length_take]; omega
  rw [List.getElem?_append_right (by omega), hl, Nat.sub_self]
  rfl
theorem nmL_len {base : List Nat} {a f c s k : Nat} (ha : a < base.length) : a < (nmL base a f c s k).length ∧ (nmL base a f c s k).length ≤ base.length := by
  unfold nmL
  simp only [List.length_append, List.length_cons, List.length_take, List.length_drop]
  omega
theorem getD_inj {l : List Nat} (h : l.Nodup) {i j : Nat} (hi : i < l.length) (hj : j < l.length) (e : l.getD i 0 = l.getD j 0) : i = j := by
  rw [List.getD_eq_getElem?_getD, List.getD_eq_getElem?_getD, List.getElem?_eq_getElem hi, List.getElem?_eq_getElem hj] at e
  exact (List.getElem_inj h).mp e
theorem nmL_ne {base : List Nat} {a f c k k' : Nat} {s : Int} (hs : s ∈ steps12) (ha : a < base.length) (h1 : k < k') (h2 : k' < 18) : nmL base a f c s.toNat k ≠ nmL base a f c s.toNat k' := fun e => by
  have e1 := nmL_at (f := f) (c := c) (s := s.toNat) (k := k) ha
  have e2 := nmL_at (f := f) (c := c) (s := s.toNat) (k := k') ha
  rw [e, e2] at e1
  have e3 := getD_inj letS_nd (by rw [letS_len]; exact Nat.mod_lt _ (by decide)) (by rw [letS_len]; exact Nat.mod_lt _ (by decide)) (Option.some.inj e1)
  exact step_inj hs h1 h2 e3.symm
theorem nmL_mem {base : List Nat} {a f c s k : Nat} (hb : ∀ z ∈ base, z ∈ letS.cps.toList) : ∀ z ∈ nmL base a f c s k, z ∈ letS.cps.toList := by
  intro z hz
  unfold nmL at hz
  rcases List.mem_append.mp hz with h | h
  · exact hb z (List.mem_of_mem_take h)
  · rcases List.mem_cons.mp h with rfl | h
    · rw [List.getD_eq_getElem?_getD, List.getElem?_eq_getElem (by rw [letS_len]; exact Nat.mod_lt _ (by decide))]
      exact List.getElem_mem _
    · exact hb z (List.mem_of_mem_drop (List.mem_of_mem_take h))
theorem mkN_inj {a b : List Nat} (h : (⟨a.toArray⟩ : Str) = ⟨b.toArray⟩) : a = b := by
  have := congrArg (fun x : Str => x.cps.toList) h
  simpa using this
theorem isN_mk {l : List Nat} (h0 : 0 < l.length) (h1 : l.length < 9) (h : ∀ z ∈ l, z ∈ letS.cps.toList) : isN ⟨l.toArray⟩ = true := by
  rw [isN_iff, len_mk]
  exact ⟨h0, h1, fun c hc => h c (by simpa using hc)⟩
/-- what _law_names gives -/
structure Names (ns : List Str) (n : Nat) : Prop where
  l : ns.length = n
  ok : ∀ x ∈ ns, isN x = true
  nd : ns.Nodup
theorem names_range {n : Nat} (hn : n ≤ 18) (g : Nat → List Nat) (h : ∀ k k', k < k' → k' < n → g k ≠ g k') (h0 : ∀ k < n, 0 < (g k).length ∧ (g k).length < 9 ∧ ∀ z ∈ g k, z ∈ letS.cps.toList) : Names ((List.range n).map fun k => (⟨(g k).toArray⟩ : Str)) n := by
  refine ⟨by simp, fun x hx => ?_, ?_⟩
  · obtain ⟨k, hk, rfl⟩ := List.mem_map.mp hx
    obtain ⟨h1, h2, h3⟩ := h0 k (List.mem_range.mp hk)
    exact isN_mk h1 h2 h3
  · unfold List.Nodup
    rw [List.pairwise_map]
    refine List.Pairwise.imp_of_mem (R := fun a b => a < b) (fun {a b} ha hb hab e => ?_) List.pairwise_lt_range
    exact h a b hab (List.mem_range.mp hb) (mkN_inj e)
theorem range_set {n i : Nat} {α : Type} (f : Nat → α) (y : α) : ((List.range n).map f).set i y = (List.range n).map fun k => if k = i then y else f k := by
  apply List.ext_getElem?
  intro k
  rw [List.getElem?_set, List.getElem?_map, List.getElem?_map]
  by_cases hk : i = k
  · subst hk
    by_cases hl : i < n
    · simp [hl]
    · have : (List.range n)[i]? = none := List.getElem?_eq_none (by simpa using hl)
      simp [this, hl]
  · rw [if_neg hk]
    by_cases hl : k < n
    · simp [hl, Ne.symm hk]
    · have : (List.range n)[k]? = none := List.getElem?_eq_none (by simpa using hl)
      simp [this]
abbrev namesBody : Sm := (bCons (sSetF 12 (mSl (mSl (mVar 5) (pSome (mBin gAdd (mVar 7) (mC (.int 1)))) pNo) pNo (pSome (mBin gIx (mLst (maCons (mC (.int 8)) (maCons (mBin gMod (mVar 6) (mC (.int 3))) maNil))) (mVar 9)))))
  (sDrop (mMut "list" gAppend (mVar 11) (maCons (mBin gAdd (mBin gAdd (mSl (mVar 5) pNo (pSome (mVar 7))) (mBin gIx (mVar 4) (mBin gMod (mBin gAdd (mVar 8) (mBin gMul (mVar 10) (mVar 6))) (mC (.int 26))))) (mVar 12)) maNil))))
theorem words_cut {t n : Nat} (ht : t < 18) (hn : n ≤ 18) : Names (((wordsW ++ wordsW).drop t).take n) n := by
  have hl : (wordsW ++ wordsW).length = 36 := rfl
  refine ⟨by rw [List.length_take, List.length_drop, hl]; omega, fun x hx => ?_, ?_⟩
  · have := List.mem_of_mem_drop (List.mem_of_mem_take hx)
    rcases List.mem_append.mp this with h | h <;> exact wordsW_ok x h
  · have h := wordsW_nd t ht
    have e : ((wordsW ++ wordsW).drop t).take n = (((wordsW ++ wordsW).drop t).take 18).take n := by rw [List.take_take, Nat.min_eq_left hn]
    rw [e]
    exact List.Pairwise.sublist (List.take_sublist _ _) h
theorem names_turn {S : List D} {pen : D} {many : Int} {base : List Nat} {a f c i : Nat} {s : Int} {x2 x3 x12 : Sl} {acc : List D} (hb0 : base.length ≤ 8) (ha : a < base.length) (hc : c < 2) (hf : f < 26) (hi : i < 18) (hs : 0 ≤ s ∧ s ≤ 25) (hacc : acc.length ≤ 18) :
    wE (namesBody ⟨[.fz pen, .fz (.int many), x2, x3, .fz (.str letS), .fz (.str ⟨base.toArray⟩), .fz (.int (i : Nat)), .fz (.int (a : Nat)), .fz (.int (f : Nat)), .fz (.int (c : Nat)), .fz (.int s), .ow (.lst acc), x12], S⟩) fun fl c' => fl = .nx ∧
      ∃ y12, c' = ⟨[.fz pen, .fz (.int many), x2, x3, .fz (.str letS), .fz (.str ⟨base.toArray⟩), .fz (.int (i : Nat)), .fz (.int (a : Nat)), .fz (.int (f : Nat)), .fz (.int (c : Nat)), .fz (.int s), .ow (.lst (acc ++ [.str ⟨(nmL base a f c s.toNat i).toArray⟩])), y12], S⟩ := by
  have z2 : 2 ≤ sizeLine := big64 (by decide)
  have hbl : (⟨base.toArray⟩ : Str).length ≤ sizeLine := by rw [len_mk]; exact big64 (by omega)
  have m3 : gMod (.int (i : Nat)) (.int 3) = some (.fz (.int ((i : Int) % 3))) := gMod_pos (by decide)
  have e1 : gSl (.str ⟨base.toArray⟩) (some ((a : Int) + 1)) none = some (.fz (.str ⟨(base.drop (a + 1)).toArray⟩)) := by
    rw [gSl_str hbl, cutS_from (by omega)]
    have : ((a : Int) + 1).toNat = a + 1 := by omega
    rw [this]
  have hdl : (⟨(base.drop (a + 1)).toArray⟩ : Str).length ≤ sizeLine := by rw [len_mk, List.length_drop]; exact big64 (by omega)
  have e2 : ∀ v : Int, 0 ≤ v → gSl (.str ⟨(base.drop (a + 1)).toArray⟩) none (some v) = some (.fz (.str ⟨((base.drop (a + 1)).take v.toNat).toArray⟩)) := fun v hv => by
    rw [gSl_str hdl, cutS_to hv]
  have e3 : gSl (.str ⟨base.toArray⟩) none (some ((a : Nat) : Int)) = some (.fz (.str ⟨(base.take a).toArray⟩)) := by
    rw [gSl_str hbl, cutS_to (by omega)]
    simp
  have mu : gMul (.int s) (.int (i : Nat)) = some (.fz (.int (s * (i : Nat)))) := gMul_small (by omega) (by omega)
  have m26 : gMod (.int ((f : Int) + s * (i : Nat))) (.int 26) = some (.fz (.int (((f : Int) + s * (i : Nat)) % 26))) := gMod_pos (by decide)
  have ez : (((f : Int) + s * (i : Nat)) % 26) = (((f + s.toNat * i) % 26 : Nat) : Int) := by
    have : s = (s.toNat : Int) := by omega
    rw [this]
    simp only [Int.toNat_natCast]
    omega
  have hll : letS.length ≤ sizeLine := by rw [str_len, letS_len]; exact big64 (by decide)
  have hlt : (f + s.toNat * i) % 26 < letS.cps.toList.length := by rw [letS_len]; exact Nat.mod_lt _ (by decide)
  have e4 : gIx (.str letS) (.int (((f : Int) + s * (i : Nat)) % 26)) = some (.fz (.str ⟨#[letS.cps.toList.getD ((f + s.toNat * i) % 26) 0]⟩)) := by
    rw [gIx_str hll, ez, atI_natE, List.getElem?_eq_getElem hlt, List.getD_eq_getElem?_getD, List.getElem?_eq_getElem hlt]
    rfl
  obtain ⟨v, hv0, hv1, hv2⟩ : ∃ v : Int, gIx (.lst [.int 8, .int ((i : Int) % 3)]) (.int (c : Nat)) = some (.fz (.int v)) ∧ 0 ≤ v ∧ v.toNat = (if c = 0 then 8 else i % 3) := by
    rcases (show c = 0 ∨ c = 1 by omega) with rfl | rfl
    · exact ⟨8, rfl, by decide, rfl⟩
    · exact ⟨(i : Int) % 3, rfl, by omega, by simp; omega⟩
  have hl1 : (base.take a).length ≤ 8 := by rw [List.length_take]; omega
  have hl2 : ((base.drop (a + 1)).take v.toNat).length ≤ 8 := by rw [List.length_take, List.length_drop]; omega
  have e5 : ∀ z, gAdd (.str ⟨(base.take a).toArray⟩) (.str ⟨#[z]⟩) = some (.fz (.str ((⟨(base.take a).toArray⟩ : Str) ++ ⟨#[z]⟩))) := fun z => gAdd_str (by rw [len_mk]; exact big64 (by show (base.take a).length + 1 ≤ 1000; omega))
  have e6 : ∀ z, gAdd (.str ((⟨(base.take a).toArray⟩ : Str) ++ ⟨#[z]⟩)) (.str ⟨((base.drop (a + 1)).take v.toNat).toArray⟩) = some (.fz (.str ((⟨(base.take a).toArray⟩ : Str) ++ ⟨#[z]⟩ ++ ⟨((base.drop (a + 1)).take v.toNat).toArray⟩))) := fun z => gAdd_str (by
    rw [len_app]
    simp only [len_mk]
    have e0 : ([z] : List Nat).length = 1 := rfl
    exact big64 (by omega))
  have e7 : gAppend (.lst acc) [.str ((⟨(base.take a).toArray⟩ : Str) ++ ⟨#[letS.cps.toList.getD ((f + s.toNat * i) % 26) 0]⟩ ++ ⟨((base.drop (a + 1)).take v.toNat).toArray⟩)] = some (.lst (acc ++ [.str ⟨(nmL base a f c s.toNat i).toArray⟩]), .non) := by
    rw [gAppend_ok (Nat.lt_of_lt_of_le (Nat.lt_succ_of_le hacc) (big64 (by decide)))]
    have : ((⟨(base.take a).toArray⟩ : Str) ++ ⟨#[letS.cps.toList.getD ((f + s.toNat * i) % 26) 0]⟩ ++ ⟨((base.drop (a + 1)).take v.toNat).toArray⟩) = ⟨(nmL base a f c s.toNat i).toArray⟩ := by
      unfold nmL
      rw [← hv2]
      show (⟨((base.take a).toArray ++ #[_]) ++ ((base.drop (a + 1)).take v.toNat).toArray⟩ : Str) = _
      simp
    rw [this]
  unfold namesBody
  simp only [wE_bCons, wE_sIf, wE_bNil, wE_mBool, wE_mTruth, wE_tmAnd, wE_tmOr, wE_tmNot, wE_mBin, wE_mUn, wE_m1, wE_mVar, wE_m2, wE_mC, wE_sSet, wE_sSetH, wE_sPut, wE_sRet, wE_sDrop, wE_sUnp, wE_sPend, mPend_nil, mPend_cons, pend_fz, pend_nwl, pend_loc, putL_nil, putL_fz, putL_nw, fzL_nil, fzL_cons, wE_mLst, wE_mTup, wE_mCB, wE_mCall, wE_mMut, wE_mSeq, wE_mRng1, wE_for, wE_mDisp, wE_mPairs_nil, wE_mPairs_cons, wE_tmYes, wE_ok, wE_mIfE, wE_maCons, wE_maNil, views_cons, views_nil, vals_cons, vals_nil, Option.bind_some, Option.map_some, settle_fz, settle_loc, settle_nw, view_hdl, view_int, view_str, view_bl, view_lst, view_tup, view_ro, view_loc, view_nw, view_dct, oE_some, gCmpI_int, gAdd_int, gSub_int, toVal_fz, toVal_nw, toVal_loc, cont_hdl, cont_loc, putB_hdl, putB_loc, putH_nw, putR_fz, putR_nwl, putR_nwt, putR_nwd, putR_loc, leaveR_fz, leaveR_nw, leaveR_loc, List.getElem?_cons_zero, List.getElem?_cons_succ, List.length_cons, List.length_nil, List.set_cons_zero, List.set_cons_succ, decide_true, decide_false, if_true, if_false, Bool.not_true, Bool.not_false, Bool.false_eq_true, true_and, and_true, Nat.reduceAdd, Nat.reduceLT, Nat.reduceLeDiff, Nat.zero_add, reduceIte, and_self, eq_self, wE_sSetF, wE_sFrz, frzS_nil, frzS_cons, wE_mSl, wE_pNo, wE_pSome, wE_mM1, wE_mAnd, wE_mOr, wE_mChain, wE_mDct, truthD_bl, gNeg_int, view_exc, gFz_lt, gT_tup, gC_cons, gN_nil, tyD_lst, oE_none, m3, e1, z2, hv0, e2 v hv1, e3, mu, m26, e4, e5, e6, e7]
  exact ⟨_, rfl⟩
theorem sum_ones {α : Type} : ∀ zs : List α, (zs.map fun _ => 1).sum = zs.length
  | [] => rfl
  | _ :: zs => by simp only [List.map_cons, List.sum_cons, sum_ones zs, List.length_cons]; omega
theorem gMul_two {xs : List D} (h : xs.length ≤ 1000) : gMul (.lst xs) (.int 2) = some (.nw (.lst (xs ++ xs))) := by
  show (if -(2 ^ 63) ≤ (2 : Int) ∧ (2 : Int) < 2 ^ 63 ∧ xs.length * (2 : Int).toNat ≤ sizeLine then some (Rv.nw (.lst (List.replicate (2 : Int).toNat xs).flatten)) else none) = _
  have z : xs.length * (2 : Int).toNat ≤ sizeLine := big (by show xs.length * 2 ≤ _; omega)
  rw [if_pos ⟨by decide, by decide, z⟩]
  show some (Rv.nw (.lst (xs ++ (xs ++ [])))) = _
  rw [List.append_nil]
theorem strL_app {a b : List Str} : strL a ++ strL b = strL (a ++ b) := by simp [strL]
theorem strL_drop {a : List Str} {k : Nat} : (strL a).drop k = strL (a.drop k) := by simp [strL]
theorem strL_take {a : List Str} {k : Nat} : (strL a).take k = strL (a.take k) := by simp [strL]
theorem strL_set {a : List Str} {k : Nat} {y : Str} : (strL a).set k (.str y) = strL (a.set k y) := by simp [strL]
theorem names_bw {S0 S : List D} {b many : Int} {n : Nat} {Q : Rv → Cf → Prop} (e : many = n) (hn : n ≤ 18) (h0 : 0 < n) (p : Pn S0 S b) (hb : b < 2 ^ 38) (h : ∀ ns c, Names ns n → Pn S0 c.S (b + 30) → Q (.nw (.lst (strL ns))) c) :
    wE (m__law_names [.hdl 0, .int many] S) Q := by
  apply wE_runF
  show wE (b__law_names ⟨[.fz (.hdl 0), .fz (.int many), .un, .un, .un, .un, .un, .un, .un, .un, .un, .un, .un], S⟩) _
  have z10 : 10 ≤ sizeLine := big64 (by decide)
  have z8 : 8 ≤ sizeLine := big64 (by decide)
  have z12 : 12 ≤ sizeLine := big64 (by decide)
  have z3 : 3 ≤ sizeLine := big64 (by decide)
  have z2 : 2 ≤ sizeLine := big64 (by decide)
  have z0 : 0 ≤ sizeLine := Nat.zero_le _
  unfold b__law_names
  refine wE_seqR (P := fun c => ∃ S', c = ⟨[.fz (.hdl 0), .fz (.int many), .un, .un, .un, .un, .un, .un, .un, .un, .un, .un, .un], S'⟩ ∧ Pn S0 S' (b + 1)) ?_ ?_
  · simp only [wE_bCons, wE_sIf, wE_bNil, wE_mBool, wE_mTruth, wE_tmAnd, wE_tmOr, wE_tmNot, wE_mBin, wE_mUn, wE_m1, wE_mVar, wE_m2, wE_mC, wE_sSet, wE_sSetH, wE_sPut, wE_sRet, wE_sDrop, wE_sUnp, wE_sPend, mPend_nil, mPend_cons, pend_fz, pend_nwl, pend_loc, putL_nil, putL_fz, putL_nw, fzL_nil, fzL_cons, wE_mLst, wE_mTup, wE_mCB, wE_mCall, wE_mMut, wE_mSeq, wE_mRng1, wE_for, wE_mDisp, wE_mPairs_nil, wE_mPairs_cons, wE_tmYes, wE_ok, wE_mIfE, wE_maCons, wE_maNil, views_cons, views_nil, vals_cons, vals_nil, Option.bind_some, Option.map_some, settle_fz, settle_loc, settle_nw, view_hdl, view_int, view_str, view_bl, view_lst, view_tup, view_ro, view_loc, view_nw, view_dct, oE_some, gCmpI_int, gAdd_int, gSub_int, toVal_fz, toVal_nw, toVal_loc, cont_hdl, cont_loc, putB_hdl, putB_loc, putH_nw, putR_fz, putR_nwl, putR_nwt, putR_nwd, putR_loc, leaveR_fz, leaveR_nw, leaveR_loc, List.getElem?_cons_zero, List.getElem?_cons_succ, List.length_cons, List.length_nil, List.set_cons_zero, List.set_cons_succ, decide_true, decide_false, if_true, if_false, Bool.not_true, Bool.not_false, Bool.false_eq_true, true_and, and_true, Nat.reduceAdd, Nat.reduceLT, Nat.reduceLeDiff, Nat.zero_add, reduceIte, and_self, eq_self, wE_sSetF, wE_sFrz, frzS_nil, frzS_cons, wE_mSl, wE_pNo, wE_pSome, wE_mM1, wE_mAnd, wE_mOr, wE_mChain, wE_mDct, truthD_bl, gNeg_int, view_exc, gFz_lt, gT_tup, gC_cons, gN_nil, tyD_lst, oE_none]
    refine draw_bw p (by omega) (by decide) (by decide) fun k c1 k0 k1 p1 => ?_
    simp only [wE_bCons, wE_sIf, wE_bNil, wE_mBool, wE_mTruth, wE_tmAnd, wE_tmOr, wE_tmNot, wE_mBin, wE_mUn, wE_m1, wE_mVar, wE_m2, wE_mC, wE_sSet, wE_sSetH, wE_sPut, wE_sRet, wE_sDrop, wE_sUnp, wE_sPend, mPend_nil, mPend_cons, pend_fz, pend_nwl, pend_loc, putL_nil, putL_fz, putL_nw, fzL_nil, fzL_cons, wE_mLst, wE_mTup, wE_mCB, wE_mCall, wE_mMut, wE_mSeq, wE_mRng1, wE_for, wE_mDisp, wE_mPairs_nil, wE_mPairs_cons, wE_tmYes, wE_ok, wE_mIfE, wE_maCons, wE_maNil, views_cons, views_nil, vals_cons, vals_nil, Option.bind_some, Option.map_some, settle_fz, settle_loc, settle_nw, view_hdl, view_int, view_str, view_bl, view_lst, view_tup, view_ro, view_loc, view_nw, view_dct, oE_some, gCmpI_int, gAdd_int, gSub_int, toVal_fz, toVal_nw, toVal_loc, cont_hdl, cont_loc, putB_hdl, putB_loc, putH_nw, putR_fz, putR_nwl, putR_nwt, putR_nwd, putR_loc, leaveR_fz, leaveR_nw, leaveR_loc, List.getElem?_cons_zero, List.getElem?_cons_succ, List.length_cons, List.length_nil, List.set_cons_zero, List.set_cons_succ, decide_true, decide_false, if_true, if_false, Bool.not_true, Bool.not_false, Bool.false_eq_true, true_and, and_true, Nat.reduceAdd, Nat.reduceLT, Nat.reduceLeDiff, Nat.zero_add, reduceIte, and_self, eq_self, wE_sSetF, wE_sFrz, frzS_nil, frzS_cons, wE_mSl, wE_pNo, wE_pSome, wE_mM1, wE_mAnd, wE_mOr, wE_mChain, wE_mDct, truthD_bl, gNeg_int, view_exc, gFz_lt, gT_tup, gC_cons, gN_nil, tyD_lst, oE_none, gEq_int]
    by_cases hk : k = 0
    · subst hk
      simp only [wE_bCons, wE_sIf, wE_bNil, wE_mBool, wE_mTruth, wE_tmAnd, wE_tmOr, wE_tmNot, wE_mBin, wE_mUn, wE_m1, wE_mVar, wE_m2, wE_mC, wE_sSet, wE_sSetH, wE_sPut, wE_sRet, wE_sDrop, wE_sUnp, wE_sPend, mPend_nil, mPend_cons, pend_fz, pend_nwl, pend_loc, putL_nil, putL_fz, putL_nw, fzL_nil, fzL_cons, wE_mLst, wE_mTup, wE_mCB, wE_mCall, wE_mMut, wE_mSeq, wE_mRng1, wE_for, wE_mDisp, wE_mPairs_nil, wE_mPairs_cons, wE_tmYes, wE_ok, wE_mIfE, wE_maCons, wE_maNil, views_cons, views_nil, vals_cons, vals_nil, Option.bind_some, Option.map_some, settle_fz, settle_loc, settle_nw, view_hdl, view_int, view_str, view_bl, view_lst, view_tup, view_ro, view_loc, view_nw, view_dct, oE_some, gCmpI_int, gAdd_int, gSub_int, toVal_fz, toVal_nw, toVal_loc, cont_hdl, cont_loc, putB_hdl, putB_loc, putH_nw, putR_fz, putR_nwl, putR_nwt, putR_nwd, putR_loc, leaveR_fz, leaveR_nw, leaveR_loc, List.getElem?_cons_zero, List.getElem?_cons_succ, List.length_cons, List.length_nil, List.set_cons_zero, List.set_cons_succ, decide_true, decide_false, if_true, if_false, Bool.not_true, Bool.not_false, Bool.false_eq_true, true_and, and_true, Nat.reduceAdd, Nat.reduceLT, Nat.reduceLeDiff, Nat.zero_add, reduceIte, and_self, eq_self, wE_sSetF, wE_sFrz, frzS_nil, frzS_cons, wE_mSl, wE_pNo, wE_pSome, wE_mM1, wE_mAnd, wE_mOr, wE_mChain, wE_mDct, truthD_bl, gNeg_int, view_exc, gFz_lt, gT_tup, gC_cons, gN_nil, tyD_lst, oE_none, beq_self_eq_true, z10]
      refine draw_bw p1 (by omega) (by decide) (by decide) fun t c2 t0 t1 p2 => ?_
      have eW : gAdd (.lst [.str "room", .str "door", .str "house", .str "first", .str "left", .str "right", .str "odd", .str "at", .str "do", .str "wall"]) (.lst [.str "ever", .str "never", .str "leap", .str "go", .str "back", .str "on", .str "a", .str "b"]) = some (.nw (.lst (strL wordsW))) := by
        rw [gAdd_lst (big64 (by decide))]; rfl
      have e1 : gSl (.lst (strL wordsW ++ strL wordsW)) (some t) none = some (.nw (.lst (strL ((wordsW ++ wordsW).drop t.toNat)))) := by
        rw [gSl_lst, cutL_from t0, strL_app, strL_drop]
      have e2 : gSl (.lst (strL ((wordsW ++ wordsW).drop t.toNat))) none (some many) = some (.nw (.lst (strL (((wordsW ++ wordsW).drop t.toNat).take n)))) := by
        rw [gSl_lst, cutL_to (by omega), strL_take, e]; rfl
      simp only [wE_bCons, wE_sIf, wE_bNil, wE_mBool, wE_mTruth, wE_tmAnd, wE_tmOr, wE_tmNot, wE_mBin, wE_mUn, wE_m1, wE_mVar, wE_m2, wE_mC, wE_sSet, wE_sSetH, wE_sPut, wE_sRet, wE_sDrop, wE_sUnp, wE_sPend, mPend_nil, mPend_cons, pend_fz, pend_nwl, pend_loc, putL_nil, putL_fz, putL_nw, fzL_nil, fzL_cons, wE_mLst, wE_mTup, wE_mCB, wE_mCall, wE_mMut, wE_mSeq, wE_mRng1, wE_for, wE_mDisp, wE_mPairs_nil, wE_mPairs_cons, wE_tmYes, wE_ok, wE_mIfE, wE_maCons, wE_maNil, views_cons, views_nil, vals_cons, vals_nil, Option.bind_some, Option.map_some, settle_fz, settle_loc, settle_nw, view_hdl, view_int, view_str, view_bl, view_lst, view_tup, view_ro, view_loc, view_nw, view_dct, oE_some, gCmpI_int, gAdd_int, gSub_int, toVal_fz, toVal_nw, toVal_loc, cont_hdl, cont_loc, putB_hdl, putB_loc, putH_nw, putR_fz, putR_nwl, putR_nwt, putR_nwd, putR_loc, leaveR_fz, leaveR_nw, leaveR_loc, List.getElem?_cons_zero, List.getElem?_cons_succ, List.length_cons, List.length_nil, List.set_cons_zero, List.set_cons_succ, decide_true, decide_false, if_true, if_false, Bool.not_true, Bool.not_false, Bool.false_eq_true, true_and, and_true, Nat.reduceAdd, Nat.reduceLT, Nat.reduceLeDiff, Nat.zero_add, reduceIte, and_self, eq_self, wE_sSetF, wE_sFrz, frzS_nil, frzS_cons, wE_mSl, wE_pNo, wE_pSome, wE_mM1, wE_mAnd, wE_mOr, wE_mChain, wE_mDct, truthD_bl, gNeg_int, view_exc, gFz_lt, gT_tup, gC_cons, gN_nil, tyD_lst, oE_none, z8, eW, gMul_two (show (strL wordsW).length ≤ 1000 by decide), e1, e2]
      exact h _ _ (words_cut (by omega) hn) (p2.mono (by omega))
    · have hk' : (k == 0) = false := by simpa using hk
      simp only [wE_bCons, wE_sIf, wE_bNil, wE_mBool, wE_mTruth, wE_tmAnd, wE_tmOr, wE_tmNot, wE_mBin, wE_mUn, wE_m1, wE_mVar, wE_m2, wE_mC, wE_sSet, wE_sSetH, wE_sPut, wE_sRet, wE_sDrop, wE_sUnp, wE_sPend, mPend_nil, mPend_cons, pend_fz, pend_nwl, pend_loc, putL_nil, putL_fz, putL_nw, fzL_nil, fzL_cons, wE_mLst, wE_mTup, wE_mCB, wE_mCall, wE_mMut, wE_mSeq, wE_mRng1, wE_for, wE_mDisp, wE_mPairs_nil, wE_mPairs_cons, wE_tmYes, wE_ok, wE_mIfE, wE_maCons, wE_maNil, views_cons, views_nil, vals_cons, vals_nil, Option.bind_some, Option.map_some, settle_fz, settle_loc, settle_nw, view_hdl, view_int, view_str, view_bl, view_lst, view_tup, view_ro, view_loc, view_nw, view_dct, oE_some, gCmpI_int, gAdd_int, gSub_int, toVal_fz, toVal_nw, toVal_loc, cont_hdl, cont_loc, putB_hdl, putB_loc, putH_nw, putR_fz, putR_nwl, putR_nwt, putR_nwd, putR_loc, leaveR_fz, leaveR_nw, leaveR_loc, List.getElem?_cons_zero, List.getElem?_cons_succ, List.length_cons, List.length_nil, List.set_cons_zero, List.set_cons_succ, decide_true, decide_false, if_true, if_false, Bool.not_true, Bool.not_false, Bool.false_eq_true, true_and, and_true, Nat.reduceAdd, Nat.reduceLT, Nat.reduceLeDiff, Nat.zero_add, reduceIte, and_self, eq_self, wE_sSetF, wE_sFrz, frzS_nil, frzS_cons, wE_mSl, wE_pNo, wE_pSome, wE_mM1, wE_mAnd, wE_mOr, wE_mChain, wE_mDct, truthD_bl, gNeg_int, view_exc, gFz_lt, gT_tup, gC_cons, gN_nil, tyD_lst, oE_none, hk']
      exact ⟨_, rfl, p1⟩
  rintro _ ⟨S1, rfl, p1⟩
  refine wE_seqE (P := fun c => c = ⟨[.fz (.hdl 0), .fz (.int many), .un, .un, .fz (.str letS), .un, .un, .un, .un, .un, .un, .un, .un], S1⟩) ?_ ?_
  · simp only [wE_bCons, wE_sIf, wE_bNil, wE_mBool, wE_mTruth, wE_tmAnd, wE_tmOr, wE_tmNot, wE_mBin, wE_mUn, wE_m1, wE_mVar, wE_m2, wE_mC, wE_sSet, wE_sSetH, wE_sPut, wE_sRet, wE_sDrop, wE_sUnp, wE_sPend, mPend_nil, mPend_cons, pend_fz, pend_nwl, pend_loc, putL_nil, putL_fz, putL_nw, fzL_nil, fzL_cons, wE_mLst, wE_mTup, wE_mCB, wE_mCall, wE_mMut, wE_mSeq, wE_mRng1, wE_for, wE_mDisp, wE_mPairs_nil, wE_mPairs_cons, wE_tmYes, wE_ok, wE_mIfE, wE_maCons, wE_maNil, views_cons, views_nil, vals_cons, vals_nil, Option.bind_some, Option.map_some, settle_fz, settle_loc, settle_nw, view_hdl, view_int, view_str, view_bl, view_lst, view_tup, view_ro, view_loc, view_nw, view_dct, oE_some, gCmpI_int, gAdd_int, gSub_int, toVal_fz, toVal_nw, toVal_loc, cont_hdl, cont_loc, putB_hdl, putB_loc, putH_nw, putR_fz, putR_nwl, putR_nwt, putR_nwd, putR_loc, leaveR_fz, leaveR_nw, leaveR_loc, List.getElem?_cons_zero, List.getElem?_cons_succ, List.length_cons, List.length_nil, List.set_cons_zero, List.set_cons_succ, decide_true, decide_false, if_true, if_false, Bool.not_true, Bool.not_false, Bool.false_eq_true, true_and, and_true, Nat.reduceAdd, Nat.reduceLT, Nat.reduceLeDiff, Nat.zero_add, reduceIte, and_self, eq_self, wE_sSetF, wE_sFrz, frzS_nil, frzS_cons, wE_mSl, wE_pNo, wE_pSome, wE_mM1, wE_mAnd, wE_mOr, wE_mChain, wE_mDct, truthD_bl, gNeg_int, view_exc, gFz_lt, gT_tup, gC_cons, gN_nil, tyD_lst, oE_none]
    rfl
  rintro _ rfl
  refine wE_seqE (P := fun c => ∃ (base : List Nat) (S' : List D), c = ⟨[.fz (.hdl 0), .fz (.int many), .un, .un, .fz (.str letS), .fz (.str ⟨base.toArray⟩), .un, .un, .un, .un, .un, .un, .un], S'⟩ ∧ 0 < base.length ∧ base.length ≤ 8 ∧ (∀ z ∈ base, z ∈ letS.cps.toList) ∧ Pn S0 S' (b + 15)) ?_ ?_
  · rw [wE_sSetF, wE_mM1]
    simp only [wE_bCons, wE_sIf, wE_bNil, wE_mBool, wE_mTruth, wE_tmAnd, wE_tmOr, wE_tmNot, wE_mBin, wE_mUn, wE_m1, wE_mVar, wE_m2, wE_mC, wE_sSet, wE_sSetH, wE_sPut, wE_sRet, wE_sDrop, wE_sUnp, wE_sPend, mPend_nil, mPend_cons, pend_fz, pend_nwl, pend_loc, putL_nil, putL_fz, putL_nw, fzL_nil, fzL_cons, wE_mLst, wE_mTup, wE_mCB, wE_mCall, wE_mMut, wE_mSeq, wE_mRng1, wE_for, wE_mDisp, wE_mPairs_nil, wE_mPairs_cons, wE_tmYes, wE_ok, wE_mIfE, wE_maCons, wE_maNil, views_cons, views_nil, vals_cons, vals_nil, Option.bind_some, Option.map_some, settle_fz, settle_loc, settle_nw, view_hdl, view_int, view_str, view_bl, view_lst, view_tup, view_ro, view_loc, view_nw, view_dct, oE_some, gCmpI_int, gAdd_int, gSub_int, toVal_fz, toVal_nw, toVal_loc, cont_hdl, cont_loc, putB_hdl, putB_loc, putH_nw, putR_fz, putR_nwl, putR_nwt, putR_nwd, putR_loc, leaveR_fz, leaveR_nw, leaveR_loc, List.getElem?_cons_zero, List.getElem?_cons_succ, List.length_cons, List.length_nil, List.set_cons_zero, List.set_cons_succ, decide_true, decide_false, if_true, if_false, Bool.not_true, Bool.not_false, Bool.false_eq_true, true_and, and_true, Nat.reduceAdd, Nat.reduceLT, Nat.reduceLeDiff, Nat.zero_add, reduceIte, and_self, eq_self, wE_sSetF, wE_sFrz, frzS_nil, frzS_cons, wE_mSl, wE_pNo, wE_pSome, wE_mM1, wE_mAnd, wE_mOr, wE_mChain, wE_mDct, truthD_bl, gNeg_int, view_exc, gFz_lt, gT_tup, gC_cons, gN_nil, tyD_lst, oE_none]
    refine comp_sd [.fz (.hdl 0), .fz (.int many), .un, .un, .fz (.str letS), .un, .un, .un, .un, .un, .un, .un, .un] .un rfl (fun _ z => by cases z) ?_
    simp only [wE_bCons, wE_sIf, wE_bNil, wE_mBool, wE_mTruth, wE_tmAnd, wE_tmOr, wE_tmNot, wE_mBin, wE_mUn, wE_m1, wE_mVar, wE_m2, wE_mC, wE_sSet, wE_sSetH, wE_sPut, wE_sRet, wE_sDrop, wE_sUnp, wE_sPend, mPend_nil, mPend_cons, pend_fz, pend_nwl, pend_loc, putL_nil, putL_fz, putL_nw, fzL_nil, fzL_cons, wE_mLst, wE_mTup, wE_mCB, wE_mCall, wE_mMut, wE_mSeq, wE_mRng1, wE_for, wE_mDisp, wE_mPairs_nil, wE_mPairs_cons, wE_tmYes, wE_ok, wE_mIfE, wE_maCons, wE_maNil, views_cons, views_nil, vals_cons, vals_nil, Option.bind_some, Option.map_some, settle_fz, settle_loc, settle_nw, view_hdl, view_int, view_str, view_bl, view_lst, view_tup, view_ro, view_loc, view_nw, view_dct, oE_some, gCmpI_int, gAdd_int, gSub_int, toVal_fz, toVal_nw, toVal_loc, cont_hdl, cont_loc, putB_hdl, putB_loc, putH_nw, putR_fz, putR_nwl, putR_nwt, putR_nwd, putR_loc, leaveR_fz, leaveR_nw, leaveR_loc, List.getElem?_cons_zero, List.getElem?_cons_succ, List.length_cons, List.length_nil, List.set_cons_zero, List.set_cons_succ, decide_true, decide_false, if_true, if_false, Bool.not_true, Bool.not_false, Bool.false_eq_true, true_and, and_true, Nat.reduceAdd, Nat.reduceLT, Nat.reduceLeDiff, Nat.zero_add, reduceIte, and_self, eq_self, wE_sSetF, wE_sFrz, frzS_nil, frzS_cons, wE_mSl, wE_pNo, wE_pSome, wE_mM1, wE_mAnd, wE_mOr, wE_mChain, wE_mDct, truthD_bl, gNeg_int, view_exc, gFz_lt, gT_tup, gC_cons, gN_nil, tyD_lst, oE_none]
    refine draw_bw p1 (by omega) (by decide) (by decide) fun m c2 m0 m1 p2 => ?_
    simp only [wE_bCons, wE_sIf, wE_bNil, wE_mBool, wE_mTruth, wE_tmAnd, wE_tmOr, wE_tmNot, wE_mBin, wE_mUn, wE_m1, wE_mVar, wE_m2, wE_mC, wE_sSet, wE_sSetH, wE_sPut, wE_sRet, wE_sDrop, wE_sUnp, wE_sPend, mPend_nil, mPend_cons, pend_fz, pend_nwl, pend_loc, putL_nil, putL_fz, putL_nw, fzL_nil, fzL_cons, wE_mLst, wE_mTup, wE_mCB, wE_mCall, wE_mMut, wE_mSeq, wE_mRng1, wE_for, wE_mDisp, wE_mPairs_nil, wE_mPairs_cons, wE_tmYes, wE_ok, wE_mIfE, wE_maCons, wE_maNil, views_cons, views_nil, vals_cons, vals_nil, Option.bind_some, Option.map_some, settle_fz, settle_loc, settle_nw, view_hdl, view_int, view_str, view_bl, view_lst, view_tup, view_ro, view_loc, view_nw, view_dct, oE_some, gCmpI_int, gAdd_int, gSub_int, toVal_fz, toVal_nw, toVal_loc, cont_hdl, cont_loc, putB_hdl, putB_loc, putH_nw, putR_fz, putR_nwl, putR_nwt, putR_nwd, putR_loc, leaveR_fz, leaveR_nw, leaveR_loc, List.getElem?_cons_zero, List.getElem?_cons_succ, List.length_cons, List.length_nil, List.set_cons_zero, List.set_cons_succ, decide_true, decide_false, if_true, if_false, Bool.not_true, Bool.not_false, Bool.false_eq_true, true_and, and_true, Nat.reduceAdd, Nat.reduceLT, Nat.reduceLeDiff, Nat.zero_add, reduceIte, and_self, eq_self, wE_sSetF, wE_sFrz, frzS_nil, frzS_cons, wE_mSl, wE_pNo, wE_pSome, wE_mM1, wE_mAnd, wE_mOr, wE_mChain, wE_mDct, truthD_bl, gNeg_int, view_exc, gFz_lt, gT_tup, gC_cons, gN_nil, tyD_lst, oE_none]
    refine ⟨⟨by omega, by omega⟩, by rw [rangeD_len]; exact big64 (by omega), fun i acc S' => ∃ zs : List Nat, acc = (zs.map fun z => D.str ⟨#[z]⟩) ∧ zs.length = i ∧ (∀ z ∈ zs, z ∈ letS.cps.toList) ∧ Pn S0 S' (b + 2 + i), ⟨[], rfl, rfl, by simp, p2.mono (by omega)⟩, ?_, ?_⟩
    · rintro i d acc S' hd hacc ⟨zs, rfl, hz, hzs, p3⟩
      obtain ⟨hi, rfl⟩ := rangeD_get hd
      simp only [wE_bCons, wE_sIf, wE_bNil, wE_mBool, wE_mTruth, wE_tmAnd, wE_tmOr, wE_tmNot, wE_mBin, wE_mUn, wE_m1, wE_mVar, wE_m2, wE_mC, wE_sSet, wE_sSetH, wE_sPut, wE_sRet, wE_sDrop, wE_sUnp, wE_sPend, mPend_nil, mPend_cons, pend_fz, pend_nwl, pend_loc, putL_nil, putL_fz, putL_nw, fzL_nil, fzL_cons, wE_mLst, wE_mTup, wE_mCB, wE_mCall, wE_mMut, wE_mSeq, wE_mRng1, wE_for, wE_mDisp, wE_mPairs_nil, wE_mPairs_cons, wE_tmYes, wE_ok, wE_mIfE, wE_maCons, wE_maNil, views_cons, views_nil, vals_cons, vals_nil, Option.bind_some, Option.map_some, settle_fz, settle_loc, settle_nw, view_hdl, view_int, view_str, view_bl, view_lst, view_tup, view_ro, view_loc, view_nw, view_dct, oE_some, gCmpI_int, gAdd_int, gSub_int, toVal_fz, toVal_nw, toVal_loc, cont_hdl, cont_loc, putB_hdl, putB_loc, putH_nw, putR_fz, putR_nwl, putR_nwt, putR_nwd, putR_loc, leaveR_fz, leaveR_nw, leaveR_loc, List.getElem?_cons_zero, List.getElem?_cons_succ, List.length_cons, List.length_nil, List.set_cons_zero, List.set_cons_succ, decide_true, decide_false, if_true, if_false, Bool.not_true, Bool.not_false, Bool.false_eq_true, true_and, and_true, Nat.reduceAdd, Nat.reduceLT, Nat.reduceLeDiff, Nat.zero_add, reduceIte, and_self, eq_self, wE_sSetF, wE_sFrz, frzS_nil, frzS_cons, wE_mSl, wE_pNo, wE_pSome, wE_mM1, wE_mAnd, wE_mOr, wE_mChain, wE_mDct, truthD_bl, gNeg_int, view_exc, gFz_lt, gT_tup, gC_cons, gN_nil, tyD_lst, oE_none]
      refine pick_str p3 (by omega) (by rw [str_len, letS_len]; decide) (by rw [str_len, letS_len]; exact big64 (by decide)) fun z c3 hz3 p4 => ?_
      simp only [wE_bCons, wE_sIf, wE_bNil, wE_mBool, wE_mTruth, wE_tmAnd, wE_tmOr, wE_tmNot, wE_mBin, wE_mUn, wE_m1, wE_mVar, wE_m2, wE_mC, wE_sSet, wE_sSetH, wE_sPut, wE_sRet, wE_sDrop, wE_sUnp, wE_sPend, mPend_nil, mPend_cons, pend_fz, pend_nwl, pend_loc, putL_nil, putL_fz, putL_nw, fzL_nil, fzL_cons, wE_mLst, wE_mTup, wE_mCB, wE_mCall, wE_mMut, wE_mSeq, wE_mRng1, wE_for, wE_mDisp, wE_mPairs_nil, wE_mPairs_cons, wE_tmYes, wE_ok, wE_mIfE, wE_maCons, wE_maNil, views_cons, views_nil, vals_cons, vals_nil, Option.bind_some, Option.map_some, settle_fz, settle_loc, settle_nw, view_hdl, view_int, view_str, view_bl, view_lst, view_tup, view_ro, view_loc, view_nw, view_dct, oE_some, gCmpI_int, gAdd_int, gSub_int, toVal_fz, toVal_nw, toVal_loc, cont_hdl, cont_loc, putB_hdl, putB_loc, putH_nw, putR_fz, putR_nwl, putR_nwt, putR_nwd, putR_loc, leaveR_fz, leaveR_nw, leaveR_loc, List.getElem?_cons_zero, List.getElem?_cons_succ, List.length_cons, List.length_nil, List.set_cons_zero, List.set_cons_succ, decide_true, decide_false, if_true, if_false, Bool.not_true, Bool.not_false, Bool.false_eq_true, true_and, and_true, Nat.reduceAdd, Nat.reduceLT, Nat.reduceLeDiff, Nat.zero_add, reduceIte, and_self, eq_self, wE_sSetF, wE_sFrz, frzS_nil, frzS_cons, wE_mSl, wE_pNo, wE_pSome, wE_mM1, wE_mAnd, wE_mOr, wE_mChain, wE_mDct, truthD_bl, gNeg_int, view_exc, gFz_lt, gT_tup, gC_cons, gN_nil, tyD_lst, oE_none]
      refine ⟨zs ++ [z], by simp, by simp [hz], fun y hy => ?_, p4.mono (by push_cast; omega)⟩
      rcases List.mem_append.mp hy with hy | hy
      · exact hzs y hy
      · rw [List.mem_singleton.mp hy]; exact hz3
    · rintro acc S' ⟨zs, rfl, hz, hzs, p3⟩ hl
      rw [rangeD_len] at hz
      have ej : gJoin (.str "") (.lst (zs.map fun z => D.str ⟨#[z]⟩)) = some (.fz (.str ⟨zs.toArray⟩)) := by
        have e1 : (zs.map fun z => D.str ⟨#[z]⟩) = strL (zs.map fun z => (⟨#[z]⟩ : Str)) := by simp [strL]
        rw [e1, gJoin_lst]
        · have e2 : Txt.join ("" : Str) (zs.map fun z => (⟨#[z]⟩ : Str)) = ⟨zs.toArray⟩ := by
            have := join_signs zs
            obtain ⟨⟨l⟩⟩ : ∃ y : Str, y = Txt.join ("" : Str) (zs.map fun z => (⟨#[z]⟩ : Str)) := ⟨_, rfl⟩
            apply TL.ext_tl
            show (Txt.join ("" : Str) (zs.map fun z => (⟨#[z]⟩ : Str))).cps.toList = _
            rw [this]
          rw [e2]
        · have e3 : ((zs.map fun z => (⟨#[z]⟩ : Str)).map (·.length)).sum = zs.length := by
            rw [List.map_map]
            have : ((fun x : Str => x.length) ∘ fun z => (⟨#[z]⟩ : Str)) = fun _ => 1 := by funext z; rfl
            rw [this]
            exact sum_ones zs
          have e4 : ("" : Str).length = 0 := by decide +kernel
          rw [e3, e4]
          omega
      simp only [wE_bCons, wE_sIf, wE_bNil, wE_mBool, wE_mTruth, wE_tmAnd, wE_tmOr, wE_tmNot, wE_mBin, wE_mUn, wE_m1, wE_mVar, wE_m2, wE_mC, wE_sSet, wE_sSetH, wE_sPut, wE_sRet, wE_sDrop, wE_sUnp, wE_sPend, mPend_nil, mPend_cons, pend_fz, pend_nwl, pend_loc, putL_nil, putL_fz, putL_nw, fzL_nil, fzL_cons, wE_mLst, wE_mTup, wE_mCB, wE_mCall, wE_mMut, wE_mSeq, wE_mRng1, wE_for, wE_mDisp, wE_mPairs_nil, wE_mPairs_cons, wE_tmYes, wE_ok, wE_mIfE, wE_maCons, wE_maNil, views_cons, views_nil, vals_cons, vals_nil, Option.bind_some, Option.map_some, settle_fz, settle_loc, settle_nw, view_hdl, view_int, view_str, view_bl, view_lst, view_tup, view_ro, view_loc, view_nw, view_dct, oE_some, gCmpI_int, gAdd_int, gSub_int, toVal_fz, toVal_nw, toVal_loc, cont_hdl, cont_loc, putB_hdl, putB_loc, putH_nw, putR_fz, putR_nwl, putR_nwt, putR_nwd, putR_loc, leaveR_fz, leaveR_nw, leaveR_loc, List.getElem?_cons_zero, List.getElem?_cons_succ, List.length_cons, List.length_nil, List.set_cons_zero, List.set_cons_succ, decide_true, decide_false, if_true, if_false, Bool.not_true, Bool.not_false, Bool.false_eq_true, true_and, and_true, Nat.reduceAdd, Nat.reduceLT, Nat.reduceLeDiff, Nat.zero_add, reduceIte, and_self, eq_self, wE_sSetF, wE_sFrz, frzS_nil, frzS_cons, wE_mSl, wE_pNo, wE_pSome, wE_mM1, wE_mAnd, wE_mOr, wE_mChain, wE_mDct, truthD_bl, gNeg_int, view_exc, gFz_lt, gT_tup, gC_cons, gN_nil, tyD_lst, oE_none, ej]
      exact ⟨zs, S', rfl, by omega, by omega, hzs, p3.mono (by rw [rangeD_len]; omega)⟩
  rintro _ ⟨base, S2, rfl, hb0, hb8, hbm, p2⟩
  have hbl : (⟨base.toArray⟩ : Str).length = base.length := len_mk
  refine wE_seqE (P := fun c => ∃ (a f ct : Nat) (S' : List D), c = ⟨[.fz (.hdl 0), .fz (.int many), .un, .un, .fz (.str letS), .fz (.str ⟨base.toArray⟩), .un, .fz (.int (a : Nat)), .fz (.int (f : Nat)), .fz (.int (ct : Nat)), .un, .un, .un], S'⟩ ∧ a < base.length ∧ f < 26 ∧ ct < 2 ∧ Pn S0 S' (b + 18)) ?_ ?_
  · simp only [wE_bCons, wE_sIf, wE_bNil, wE_mBool, wE_mTruth, wE_tmAnd, wE_tmOr, wE_tmNot, wE_mBin, wE_mUn, wE_m1, wE_mVar, wE_m2, wE_mC, wE_sSet, wE_sSetH, wE_sPut, wE_sRet, wE_sDrop, wE_sUnp, wE_sPend, mPend_nil, mPend_cons, pend_fz, pend_nwl, pend_loc, putL_nil, putL_fz, putL_nw, fzL_nil, fzL_cons, wE_mLst, wE_mTup, wE_mCB, wE_mCall, wE_mMut, wE_mSeq, wE_mRng1, wE_for, wE_mDisp, wE_mPairs_nil, wE_mPairs_cons, wE_tmYes, wE_ok, wE_mIfE, wE_maCons, wE_maNil, views_cons, views_nil, vals_cons, vals_nil, Option.bind_some, Option.map_some, settle_fz, settle_loc, settle_nw, view_hdl, view_int, view_str, view_bl, view_lst, view_tup, view_ro, view_loc, view_nw, view_dct, oE_some, gCmpI_int, gAdd_int, gSub_int, toVal_fz, toVal_nw, toVal_loc, cont_hdl, cont_loc, putB_hdl, putB_loc, putH_nw, putR_fz, putR_nwl, putR_nwt, putR_nwd, putR_loc, leaveR_fz, leaveR_nw, leaveR_loc, List.getElem?_cons_zero, List.getElem?_cons_succ, List.length_cons, List.length_nil, List.set_cons_zero, List.set_cons_succ, decide_true, decide_false, if_true, if_false, Bool.not_true, Bool.not_false, Bool.false_eq_true, true_and, and_true, Nat.reduceAdd, Nat.reduceLT, Nat.reduceLeDiff, Nat.zero_add, reduceIte, and_self, eq_self, wE_sSetF, wE_sFrz, frzS_nil, frzS_cons, wE_mSl, wE_pNo, wE_pSome, wE_mM1, wE_mAnd, wE_mOr, wE_mChain, wE_mDct, truthD_bl, gNeg_int, view_exc, gFz_lt, gT_tup, gC_cons, gN_nil, tyD_lst, oE_none, gLen_str (x := ⟨base.toArray⟩) (by rw [hbl]; exact big64 (by omega)), hbl]
    refine draw_bw p2 (by omega) (by omega) (by omega) fun a c3 a0 a1 p3 => ?_
    simp only [wE_bCons, wE_sIf, wE_bNil, wE_mBool, wE_mTruth, wE_tmAnd, wE_tmOr, wE_tmNot, wE_mBin, wE_mUn, wE_m1, wE_mVar, wE_m2, wE_mC, wE_sSet, wE_sSetH, wE_sPut, wE_sRet, wE_sDrop, wE_sUnp, wE_sPend, mPend_nil, mPend_cons, pend_fz, pend_nwl, pend_loc, putL_nil, putL_fz, putL_nw, fzL_nil, fzL_cons, wE_mLst, wE_mTup, wE_mCB, wE_mCall, wE_mMut, wE_mSeq, wE_mRng1, wE_for, wE_mDisp, wE_mPairs_nil, wE_mPairs_cons, wE_tmYes, wE_ok, wE_mIfE, wE_maCons, wE_maNil, views_cons, views_nil, vals_cons, vals_nil, Option.bind_some, Option.map_some, settle_fz, settle_loc, settle_nw, view_hdl, view_int, view_str, view_bl, view_lst, view_tup, view_ro, view_loc, view_nw, view_dct, oE_some, gCmpI_int, gAdd_int, gSub_int, toVal_fz, toVal_nw, toVal_loc, cont_hdl, cont_loc, putB_hdl, putB_loc, putH_nw, putR_fz, putR_nwl, putR_nwt, putR_nwd, putR_loc, leaveR_fz, leaveR_nw, leaveR_loc, List.getElem?_cons_zero, List.getElem?_cons_succ, List.length_cons, List.length_nil, List.set_cons_zero, List.set_cons_succ, decide_true, decide_false, if_true, if_false, Bool.not_true, Bool.not_false, Bool.false_eq_true, true_and, and_true, Nat.reduceAdd, Nat.reduceLT, Nat.reduceLeDiff, Nat.zero_add, reduceIte, and_self, eq_self, wE_sSetF, wE_sFrz, frzS_nil, frzS_cons, wE_mSl, wE_pNo, wE_pSome, wE_mM1, wE_mAnd, wE_mOr, wE_mChain, wE_mDct, truthD_bl, gNeg_int, view_exc, gFz_lt, gT_tup, gC_cons, gN_nil, tyD_lst, oE_none]
    refine draw_bw p3 (by omega) (by decide) (by decide) fun f c4 f0 f1 p4 => ?_
    simp only [wE_bCons, wE_sIf, wE_bNil, wE_mBool, wE_mTruth, wE_tmAnd, wE_tmOr, wE_tmNot, wE_mBin, wE_mUn, wE_m1, wE_mVar, wE_m2, wE_mC, wE_sSet, wE_sSetH, wE_sPut, wE_sRet, wE_sDrop, wE_sUnp, wE_sPend, mPend_nil, mPend_cons, pend_fz, pend_nwl, pend_loc, putL_nil, putL_fz, putL_nw, fzL_nil, fzL_cons, wE_mLst, wE_mTup, wE_mCB, wE_mCall, wE_mMut, wE_mSeq, wE_mRng1, wE_for, wE_mDisp, wE_mPairs_nil, wE_mPairs_cons, wE_tmYes, wE_ok, wE_mIfE, wE_maCons, wE_maNil, views_cons, views_nil, vals_cons, vals_nil, Option.bind_some, Option.map_some, settle_fz, settle_loc, settle_nw, view_hdl, view_int, view_str, view_bl, view_lst, view_tup, view_ro, view_loc, view_nw, view_dct, oE_some, gCmpI_int, gAdd_int, gSub_int, toVal_fz, toVal_nw, toVal_loc, cont_hdl, cont_loc, putB_hdl, putB_loc, putH_nw, putR_fz, putR_nwl, putR_nwt, putR_nwd, putR_loc, leaveR_fz, leaveR_nw, leaveR_loc, List.getElem?_cons_zero, List.getElem?_cons_succ, List.length_cons, List.length_nil, List.set_cons_zero, List.set_cons_succ, decide_true, decide_false, if_true, if_false, Bool.not_true, Bool.not_false, Bool.false_eq_true, true_and, and_true, Nat.reduceAdd, Nat.reduceLT, Nat.reduceLeDiff, Nat.zero_add, reduceIte, and_self, eq_self, wE_sSetF, wE_sFrz, frzS_nil, frzS_cons, wE_mSl, wE_pNo, wE_pSome, wE_mM1, wE_mAnd, wE_mOr, wE_mChain, wE_mDct, truthD_bl, gNeg_int, view_exc, gFz_lt, gT_tup, gC_cons, gN_nil, tyD_lst, oE_none]
    refine draw_bw p4 (by omega) (by decide) (by decide) fun ct c5 t0 t1 p5 => ?_
    simp only [wE_bCons, wE_sIf, wE_bNil, wE_mBool, wE_mTruth, wE_tmAnd, wE_tmOr, wE_tmNot, wE_mBin, wE_mUn, wE_m1, wE_mVar, wE_m2, wE_mC, wE_sSet, wE_sSetH, wE_sPut, wE_sRet, wE_sDrop, wE_sUnp, wE_sPend, mPend_nil, mPend_cons, pend_fz, pend_nwl, pend_loc, putL_nil, putL_fz, putL_nw, fzL_nil, fzL_cons, wE_mLst, wE_mTup, wE_mCB, wE_mCall, wE_mMut, wE_mSeq, wE_mRng1, wE_for, wE_mDisp, wE_mPairs_nil, wE_mPairs_cons, wE_tmYes, wE_ok, wE_mIfE, wE_maCons, wE_maNil, views_cons, views_nil, vals_cons, vals_nil, Option.bind_some, Option.map_some, settle_fz, settle_loc, settle_nw, view_hdl, view_int, view_str, view_bl, view_lst, view_tup, view_ro, view_loc, view_nw, view_dct, oE_some, gCmpI_int, gAdd_int, gSub_int, toVal_fz, toVal_nw, toVal_loc, cont_hdl, cont_loc, putB_hdl, putB_loc, putH_nw, putR_fz, putR_nwl, putR_nwt, putR_nwd, putR_loc, leaveR_fz, leaveR_nw, leaveR_loc, List.getElem?_cons_zero, List.getElem?_cons_succ, List.length_cons, List.length_nil, List.set_cons_zero, List.set_cons_succ, decide_true, decide_false, if_true, if_false, Bool.not_true, Bool.not_false, Bool.false_eq_true, true_and, and_true, Nat.reduceAdd, Nat.reduceLT, Nat.reduceLeDiff, Nat.zero_add, reduceIte, and_self, eq_self, wE_sSetF, wE_sFrz, frzS_nil, frzS_cons, wE_mSl, wE_pNo, wE_pSome, wE_mM1, wE_mAnd, wE_mOr, wE_mChain, wE_mDct, truthD_bl, gNeg_int, view_exc, gFz_lt, gT_tup, gC_cons, gN_nil, tyD_lst, oE_none, z3]
    refine ⟨a.toNat, f.toNat, ct.toNat, c5.S, ?_, by omega, by omega, by omega, p5.mono (by omega)⟩
    rw [Int.toNat_of_nonneg a0, Int.toNat_of_nonneg f0, Int.toNat_of_nonneg t0]
  rintro _ ⟨a, f, ct, S3, rfl, ha, hf, hct, p3⟩
  refine wE_seqE (P := fun c => ∃ (s : Int) (S' : List D), c = ⟨[.fz (.hdl 0), .fz (.int many), .un, .un, .fz (.str letS), .fz (.str ⟨base.toArray⟩), .un, .fz (.int (a : Nat)), .fz (.int (f : Nat)), .fz (.int (ct : Nat)), .fz (.int s), .ow (.lst []), .un], S'⟩ ∧ s ∈ steps12 ∧ Pn S0 S' (b + 19)) ?_ ?_
  · simp only [wE_bCons, wE_sIf, wE_bNil, wE_mBool, wE_mTruth, wE_tmAnd, wE_tmOr, wE_tmNot, wE_mBin, wE_mUn, wE_m1, wE_mVar, wE_m2, wE_mC, wE_sSet, wE_sSetH, wE_sPut, wE_sRet, wE_sDrop, wE_sUnp, wE_sPend, mPend_nil, mPend_cons, pend_fz, pend_nwl, pend_loc, putL_nil, putL_fz, putL_nw, fzL_nil, fzL_cons, wE_mLst, wE_mTup, wE_mCB, wE_mCall, wE_mMut, wE_mSeq, wE_mRng1, wE_for, wE_mDisp, wE_mPairs_nil, wE_mPairs_cons, wE_tmYes, wE_ok, wE_mIfE, wE_maCons, wE_maNil, views_cons, views_nil, vals_cons, vals_nil, Option.bind_some, Option.map_some, settle_fz, settle_loc, settle_nw, view_hdl, view_int, view_str, view_bl, view_lst, view_tup, view_ro, view_loc, view_nw, view_dct, oE_some, gCmpI_int, gAdd_int, gSub_int, toVal_fz, toVal_nw, toVal_loc, cont_hdl, cont_loc, putB_hdl, putB_loc, putH_nw, putR_fz, putR_nwl, putR_nwt, putR_nwd, putR_loc, leaveR_fz, leaveR_nw, leaveR_loc, List.getElem?_cons_zero, List.getElem?_cons_succ, List.length_cons, List.length_nil, List.set_cons_zero, List.set_cons_succ, decide_true, decide_false, if_true, if_false, Bool.not_true, Bool.not_false, Bool.false_eq_true, true_and, and_true, Nat.reduceAdd, Nat.reduceLT, Nat.reduceLeDiff, Nat.zero_add, reduceIte, and_self, eq_self, wE_sSetF, wE_sFrz, frzS_nil, frzS_cons, wE_mSl, wE_pNo, wE_pSome, wE_mM1, wE_mAnd, wE_mOr, wE_mChain, wE_mDct, truthD_bl, gNeg_int, view_exc, gFz_lt, gT_tup, gC_cons, gN_nil, tyD_lst, oE_none, z12]
    refine pick_lst p3 (by omega) (by decide) (by decide) fun d c4 hd p4 => ?_
    obtain ⟨s, hs, rfl⟩ : ∃ s, s ∈ steps12 ∧ D.int s = d := List.mem_map.mp (show d ∈ steps12.map D.int from hd)
    simp only [wE_bCons, wE_sIf, wE_bNil, wE_mBool, wE_mTruth, wE_tmAnd, wE_tmOr, wE_tmNot, wE_mBin, wE_mUn, wE_m1, wE_mVar, wE_m2, wE_mC, wE_sSet, wE_sSetH, wE_sPut, wE_sRet, wE_sDrop, wE_sUnp, wE_sPend, mPend_nil, mPend_cons, pend_fz, pend_nwl, pend_loc, putL_nil, putL_fz, putL_nw, fzL_nil, fzL_cons, wE_mLst, wE_mTup, wE_mCB, wE_mCall, wE_mMut, wE_mSeq, wE_mRng1, wE_for, wE_mDisp, wE_mPairs_nil, wE_mPairs_cons, wE_tmYes, wE_ok, wE_mIfE, wE_maCons, wE_maNil, views_cons, views_nil, vals_cons, vals_nil, Option.bind_some, Option.map_some, settle_fz, settle_loc, settle_nw, view_hdl, view_int, view_str, view_bl, view_lst, view_tup, view_ro, view_loc, view_nw, view_dct, oE_some, gCmpI_int, gAdd_int, gSub_int, toVal_fz, toVal_nw, toVal_loc, cont_hdl, cont_loc, putB_hdl, putB_loc, putH_nw, putR_fz, putR_nwl, putR_nwt, putR_nwd, putR_loc, leaveR_fz, leaveR_nw, leaveR_loc, List.getElem?_cons_zero, List.getElem?_cons_succ, List.length_cons, List.length_nil, List.set_cons_zero, List.set_cons_succ, decide_true, decide_false, if_true, if_false, Bool.not_true, Bool.not_false, Bool.false_eq_true, true_and, and_true, Nat.reduceAdd, Nat.reduceLT, Nat.reduceLeDiff, Nat.zero_add, reduceIte, and_self, eq_self, wE_sSetF, wE_sFrz, frzS_nil, frzS_cons, wE_mSl, wE_pNo, wE_pSome, wE_mM1, wE_mAnd, wE_mOr, wE_mChain, wE_mDct, truthD_bl, gNeg_int, view_exc, gFz_lt, gT_tup, gC_cons, gN_nil, tyD_lst, oE_none, z0, z2]
    exact ⟨s, c4.S, rfl, hs, p4.mono (by omega)⟩
  rintro _ ⟨s, S4, rfl, hs, p4⟩
  have hs25 : 0 ≤ s ∧ s ≤ 25 := by
    simp only [steps12, List.mem_cons, List.not_mem_nil, or_false] at hs
    omega
  refine wE_seqE (P := fun c => ∃ x6 x12, c = ⟨[.fz (.hdl 0), .fz (.int many), .un, .un, .fz (.str letS), .fz (.str ⟨base.toArray⟩), x6, .fz (.int (a : Nat)), .fz (.int (f : Nat)), .fz (.int (ct : Nat)), .fz (.int s), .ow (.lst (strL ((List.range n).map fun k => (⟨(nmL base a f ct s.toNat k).toArray⟩ : Str)))), x12], S4⟩) ?_ ?_
  · refine for_E (rangeD 0 n) (fun i c => ∃ x6 x12, c = ⟨[.fz (.hdl 0), .fz (.int many), .un, .un, .fz (.str letS), .fz (.str ⟨base.toArray⟩), x6, .fz (.int (a : Nat)), .fz (.int (f : Nat)), .fz (.int (ct : Nat)), .fz (.int s), .ow (.lst (strL ((List.range i).map fun k => (⟨(nmL base a f ct s.toNat k).toArray⟩ : Str)))), x12], S4⟩) (fun _ _ => False) ?_ ?_ ?_ (fun _ _ z => z.elim)
    · simp only [wE_bCons, wE_sIf, wE_bNil, wE_mBool, wE_mTruth, wE_tmAnd, wE_tmOr, wE_tmNot, wE_mBin, wE_mUn, wE_m1, wE_mVar, wE_m2, wE_mC, wE_sSet, wE_sSetH, wE_sPut, wE_sRet, wE_sDrop, wE_sUnp, wE_sPend, mPend_nil, mPend_cons, pend_fz, pend_nwl, pend_loc, putL_nil, putL_fz, putL_nw, fzL_nil, fzL_cons, wE_mLst, wE_mTup, wE_mCB, wE_mCall, wE_mMut, wE_mSeq, wE_mRng1, wE_for, wE_mDisp, wE_mPairs_nil, wE_mPairs_cons, wE_tmYes, wE_ok, wE_mIfE, wE_maCons, wE_maNil, views_cons, views_nil, vals_cons, vals_nil, Option.bind_some, Option.map_some, settle_fz, settle_loc, settle_nw, view_hdl, view_int, view_str, view_bl, view_lst, view_tup, view_ro, view_loc, view_nw, view_dct, oE_some, gCmpI_int, gAdd_int, gSub_int, toVal_fz, toVal_nw, toVal_loc, cont_hdl, cont_loc, putB_hdl, putB_loc, putH_nw, putR_fz, putR_nwl, putR_nwt, putR_nwd, putR_loc, leaveR_fz, leaveR_nw, leaveR_loc, List.getElem?_cons_zero, List.getElem?_cons_succ, List.length_cons, List.length_nil, List.set_cons_zero, List.set_cons_succ, decide_true, decide_false, if_true, if_false, Bool.not_true, Bool.not_false, Bool.false_eq_true, true_and, and_true, Nat.reduceAdd, Nat.reduceLT, Nat.reduceLeDiff, Nat.zero_add, reduceIte, and_self, eq_self, wE_sSetF, wE_sFrz, frzS_nil, frzS_cons, wE_mSl, wE_pNo, wE_pSome, wE_mM1, wE_mAnd, wE_mOr, wE_mChain, wE_mDct, truthD_bl, gNeg_int, view_exc, gFz_lt, gT_tup, gC_cons, gN_nil, tyD_lst, oE_none]
      refine ⟨⟨by omega, by omega⟩, by rw [e]; rfl, .un, .un, rfl⟩
    · rintro i d _ hd ⟨x6, x12, rfl⟩
      obtain ⟨hi, rfl⟩ := rangeD_get hd
      rw [gFz_lt, if_pos (by simp), oE_some, show (0 : Int) + (i : Int) = ((i : Nat) : Int) by omega]
      refine wE_mono (names_turn (S := S4) (pen := .hdl 0) (many := many) (i := i) (x2 := .un) (x3 := .un) (x12 := x12) (acc := strL ((List.range i).map fun k => (⟨(nmL base a f ct s.toNat k).toArray⟩ : Str))) hb8 ha hct hf (by omega) hs25 (by rw [strL_len, List.length_map, List.length_range]; omega)) fun fl c' ⟨hfl, y12, hc'⟩ => ?_
      subst hfl hc'
      refine ⟨.fz (.int (i : Nat)), y12, ?_⟩
      rw [List.range_succ, List.map_append]
      simp only [strL, List.map_append, List.map_cons, List.map_nil]
    · rintro c ⟨x6, x12, hc⟩
      rw [rangeD_len] at hc
      exact ⟨rfl, x6, x12, hc⟩
  rintro _ ⟨x6, x12, rfl⟩
  have nms := names_range hn (fun k => nmL base a f ct s.toNat k) (fun k k' h1 h2 => nmL_ne hs ha h1 (by omega)) fun k _ => ⟨by have := (nmL_len (f := f) (c := ct) (s := s.toNat) (k := k) ha).1; omega, by have := (nmL_len (f := f) (c := ct) (s := s.toNat) (k := k) ha).2; omega, nmL_mem hbm⟩
  by_cases ha0 : 0 < a
  · have e1 : gSl (.str ⟨base.toArray⟩) none (some ((a : Nat) : Int)) = some (.fz (.str ⟨(base.take a).toArray⟩)) := by
      rw [gSl_str (by rw [hbl]; exact big64 (by omega)), cutS_to (by omega)]
      simp
    have hda : decide ((0 : Int) < (a : Int)) = true := by simpa using ha0
    simp only [wE_bCons, wE_sIf, wE_bNil, wE_mBool, wE_mTruth, wE_tmAnd, wE_tmOr, wE_tmNot, wE_mBin, wE_mUn, wE_m1, wE_mVar, wE_m2, wE_mC, wE_sSet, wE_sSetH, wE_sPut, wE_sRet, wE_sDrop, wE_sUnp, wE_sPend, mPend_nil, mPend_cons, pend_fz, pend_nwl, pend_loc, putL_nil, putL_fz, putL_nw, fzL_nil, fzL_cons, wE_mLst, wE_mTup, wE_mCB, wE_mCall, wE_mMut, wE_mSeq, wE_mRng1, wE_for, wE_mDisp, wE_mPairs_nil, wE_mPairs_cons, wE_tmYes, wE_ok, wE_mIfE, wE_maCons, wE_maNil, views_cons, views_nil, vals_cons, vals_nil, Option.bind_some, Option.map_some, settle_fz, settle_loc, settle_nw, view_hdl, view_int, view_str, view_bl, view_lst, view_tup, view_ro, view_loc, view_nw, view_dct, oE_some, gCmpI_int, gAdd_int, gSub_int, toVal_fz, toVal_nw, toVal_loc, cont_hdl, cont_loc, putB_hdl, putB_loc, putH_nw, putR_fz, putR_nwl, putR_nwt, putR_nwd, putR_loc, leaveR_fz, leaveR_nw, leaveR_loc, List.getElem?_cons_zero, List.getElem?_cons_succ, List.length_cons, List.length_nil, List.set_cons_zero, List.set_cons_succ, decide_true, decide_false, if_true, if_false, Bool.not_true, Bool.not_false, Bool.false_eq_true, true_and, and_true, Nat.reduceAdd, Nat.reduceLT, Nat.reduceLeDiff, Nat.zero_add, reduceIte, and_self, eq_self, wE_sSetF, wE_sFrz, frzS_nil, frzS_cons, wE_mSl, wE_pNo, wE_pSome, wE_mM1, wE_mAnd, wE_mOr, wE_mChain, wE_mDct, truthD_bl, gNeg_int, view_exc, gFz_lt, gT_tup, gC_cons, gN_nil, tyD_lst, oE_none, hda]
    refine draw_bw p4 (by omega) (by decide) (by decide) fun k c5 k0 k1 p5 => ?_
    simp only [wE_bCons, wE_sIf, wE_bNil, wE_mBool, wE_mTruth, wE_tmAnd, wE_tmOr, wE_tmNot, wE_mBin, wE_mUn, wE_m1, wE_mVar, wE_m2, wE_mC, wE_sSet, wE_sSetH, wE_sPut, wE_sRet, wE_sDrop, wE_sUnp, wE_sPend, mPend_nil, mPend_cons, pend_fz, pend_nwl, pend_loc, putL_nil, putL_fz, putL_nw, fzL_nil, fzL_cons, wE_mLst, wE_mTup, wE_mCB, wE_mCall, wE_mMut, wE_mSeq, wE_mRng1, wE_for, wE_mDisp, wE_mPairs_nil, wE_mPairs_cons, wE_tmYes, wE_ok, wE_mIfE, wE_maCons, wE_maNil, views_cons, views_nil, vals_cons, vals_nil, Option.bind_some, Option.map_some, settle_fz, settle_loc, settle_nw, view_hdl, view_int, view_str, view_bl, view_lst, view_tup, view_ro, view_loc, view_nw, view_dct, oE_some, gCmpI_int, gAdd_int, gSub_int, toVal_fz, toVal_nw, toVal_loc, cont_hdl, cont_loc, putB_hdl, putB_loc, putH_nw, putR_fz, putR_nwl, putR_nwt, putR_nwd, putR_loc, leaveR_fz, leaveR_nw, leaveR_loc, List.getElem?_cons_zero, List.getElem?_cons_succ, List.length_cons, List.length_nil, List.set_cons_zero, List.set_cons_succ, decide_true, decide_false, if_true, if_false, Bool.not_true, Bool.not_false, Bool.false_eq_true, true_and, and_true, Nat.reduceAdd, Nat.reduceLT, Nat.reduceLeDiff, Nat.zero_add, reduceIte, and_self, eq_self, wE_sSetF, wE_sFrz, frzS_nil, frzS_cons, wE_mSl, wE_pNo, wE_pSome, wE_mM1, wE_mAnd, wE_mOr, wE_mChain, wE_mDct, truthD_bl, gNeg_int, view_exc, gFz_lt, gT_tup, gC_cons, gN_nil, tyD_lst, oE_none, gEq_int]
    by_cases hk : k = 0
    · subst hk
      simp only [wE_bCons, wE_sIf, wE_bNil, wE_mBool, wE_mTruth, wE_tmAnd, wE_tmOr, wE_tmNot, wE_mBin, wE_mUn, wE_m1, wE_mVar, wE_m2, wE_mC, wE_sSet, wE_sSetH, wE_sPut, wE_sRet, wE_sDrop, wE_sUnp, wE_sPend, mPend_nil, mPend_cons, pend_fz, pend_nwl, pend_loc, putL_nil, putL_fz, putL_nw, fzL_nil, fzL_cons, wE_mLst, wE_mTup, wE_mCB, wE_mCall, wE_mMut, wE_mSeq, wE_mRng1, wE_for, wE_mDisp, wE_mPairs_nil, wE_mPairs_cons, wE_tmYes, wE_ok, wE_mIfE, wE_maCons, wE_maNil, views_cons, views_nil, vals_cons, vals_nil, Option.bind_some, Option.map_some, settle_fz, settle_loc, settle_nw, view_hdl, view_int, view_str, view_bl, view_lst, view_tup, view_ro, view_loc, view_nw, view_dct, oE_some, gCmpI_int, gAdd_int, gSub_int, toVal_fz, toVal_nw, toVal_loc, cont_hdl, cont_loc, putB_hdl, putB_loc, putH_nw, putR_fz, putR_nwl, putR_nwt, putR_nwd, putR_loc, leaveR_fz, leaveR_nw, leaveR_loc, List.getElem?_cons_zero, List.getElem?_cons_succ, List.length_cons, List.length_nil, List.set_cons_zero, List.set_cons_succ, decide_true, decide_false, if_true, if_false, Bool.not_true, Bool.not_false, Bool.false_eq_true, true_and, and_true, Nat.reduceAdd, Nat.reduceLT, Nat.reduceLeDiff, Nat.zero_add, reduceIte, and_self, eq_self, wE_sSetF, wE_sFrz, frzS_nil, frzS_cons, wE_mSl, wE_pNo, wE_pSome, wE_mM1, wE_mAnd, wE_mOr, wE_mChain, wE_mDct, truthD_bl, gNeg_int, view_exc, gFz_lt, gT_tup, gC_cons, gN_nil, tyD_lst, oE_none, beq_self_eq_true, e1]
      refine draw_bw p5 (by omega) (by omega) (by omega) fun j c6 j0 j1 p6 => ?_
      have ej : j = (j.toNat : Int) := (Int.toNat_of_nonneg j0).symm
      have eP : gLput (.lst (strL ((List.range n).map fun k => (⟨(nmL base a f ct s.toNat k).toArray⟩ : Str)))) (.int j) (.str ⟨(base.take a).toArray⟩) = some (.lst (strL ((List.range n).map fun k => (⟨(if k = j.toNat then base.take a else nmL base a f ct s.toNat k).toArray⟩ : Str)))) := by
        have hx : ixN (strL ((List.range n).map fun k => (⟨(nmL base a f ct s.toNat k).toArray⟩ : Str))).length j = some j.toNat := by
          rw [strL_len, List.length_map, List.length_range]
          unfold ixN
          have h1 : 0 ≤ j := j0
          have h2 : j < (n : Int) := by omega
          simp [h1, h2]
        show (ixN _ j).map _ = _
        rw [hx, Option.map_some, strL_set, range_set]
        congr 4
        funext k
        by_cases hk : k = j.toNat
        · rw [if_pos hk, if_pos hk]
        · rw [if_neg hk, if_neg hk]
      simp only [wE_bCons, wE_sIf, wE_bNil, wE_mBool, wE_mTruth, wE_tmAnd, wE_tmOr, wE_tmNot, wE_mBin, wE_mUn, wE_m1, wE_mVar, wE_m2, wE_mC, wE_sSet, wE_sSetH, wE_sPut, wE_sRet, wE_sDrop, wE_sUnp, wE_sPend, mPend_nil, mPend_cons, pend_fz, pend_nwl, pend_loc, putL_nil, putL_fz, putL_nw, fzL_nil, fzL_cons, wE_mLst, wE_mTup, wE_mCB, wE_mCall, wE_mMut, wE_mSeq, wE_mRng1, wE_for, wE_mDisp, wE_mPairs_nil, wE_mPairs_cons, wE_tmYes, wE_ok, wE_mIfE, wE_maCons, wE_maNil, views_cons, views_nil, vals_cons, vals_nil, Option.bind_some, Option.map_some, settle_fz, settle_loc, settle_nw, view_hdl, view_int, view_str, view_bl, view_lst, view_tup, view_ro, view_loc, view_nw, view_dct, oE_some, gCmpI_int, gAdd_int, gSub_int, toVal_fz, toVal_nw, toVal_loc, cont_hdl, cont_loc, putB_hdl, putB_loc, putH_nw, putR_fz, putR_nwl, putR_nwt, putR_nwd, putR_loc, leaveR_fz, leaveR_nw, leaveR_loc, List.getElem?_cons_zero, List.getElem?_cons_succ, List.length_cons, List.length_nil, List.set_cons_zero, List.set_cons_succ, decide_true, decide_false, if_true, if_false, Bool.not_true, Bool.not_false, Bool.false_eq_true, true_and, and_true, Nat.reduceAdd, Nat.reduceLT, Nat.reduceLeDiff, Nat.zero_add, reduceIte, and_self, eq_self, wE_sSetF, wE_sFrz, frzS_nil, frzS_cons, wE_mSl, wE_pNo, wE_pSome, wE_mM1, wE_mAnd, wE_mOr, wE_mChain, wE_mDct, truthD_bl, gNeg_int, view_exc, gFz_lt, gT_tup, gC_cons, gN_nil, tyD_lst, oE_none, eP]
      refine h _ _ (names_range hn _ (fun k k' h1 h2 => ?_) fun k hk => ?_) (p6.mono (by omega))
      · by_cases e2 : k = j.toNat
        · have e3 : ¬ k' = j.toNat := by omega
          rw [if_pos e2, if_neg e3]
          intro z
          have := congrArg List.length z
          have h5 := (nmL_len (f := f) (c := ct) (s := s.toNat) (k := k') ha).1
          rw [List.length_take] at this
          omega
        · rw [if_neg e2]
          by_cases e3 : k' = j.toNat
          · rw [if_pos e3]
            intro z
            have := congrArg List.length z
            have h5 := (nmL_len (f := f) (c := ct) (s := s.toNat) (k := k) ha).1
            rw [List.length_take] at this
            omega
          · rw [if_neg e3]
            exact nmL_ne hs ha h1 (by omega)
      · by_cases e2 : k = j.toNat
        · rw [if_pos e2]
          exact ⟨by rw [List.length_take]; omega, by rw [List.length_take]; omega, fun z hz => hbm z (List.mem_of_mem_take hz)⟩
        · rw [if_neg e2]
          exact ⟨by have := (nmL_len (f := f) (c := ct) (s := s.toNat) (k := k) ha).1; omega, by have := (nmL_len (f := f) (c := ct) (s := s.toNat) (k := k) ha).2; omega, nmL_mem hbm⟩
    · have hk' : (k == 0) = false := by simpa using hk
      simp only [wE_bCons, wE_sIf, wE_bNil, wE_mBool, wE_mTruth, wE_tmAnd, wE_tmOr, wE_tmNot, wE_mBin, wE_mUn, wE_m1, wE_mVar, wE_m2, wE_mC, wE_sSet, wE_sSetH, wE_sPut, wE_sRet, wE_sDrop, wE_sUnp, wE_sPend, mPend_nil, mPend_cons, pend_fz, pend_nwl, pend_loc, putL_nil, putL_fz, putL_nw, fzL_nil, fzL_cons, wE_mLst, wE_mTup, wE_mCB, wE_mCall, wE_mMut, wE_mSeq, wE_mRng1, wE_for, wE_mDisp, wE_mPairs_nil, wE_mPairs_cons, wE_tmYes, wE_ok, wE_mIfE, wE_maCons, wE_maNil, views_cons, views_nil, vals_cons, vals_nil, Option.bind_some, Option.map_some, settle_fz, settle_loc, settle_nw, view_hdl, view_int, view_str, view_bl, view_lst, view_tup, view_ro, view_loc, view_nw, view_dct, oE_some, gCmpI_int, gAdd_int, gSub_int, toVal_fz, toVal_nw, toVal_loc, cont_hdl, cont_loc, putB_hdl, putB_loc, putH_nw, putR_fz, putR_nwl, putR_nwt, putR_nwd, putR_loc, leaveR_fz, leaveR_nw, leaveR_loc, List.getElem?_cons_zero, List.getElem?_cons_succ, List.length_cons, List.length_nil, List.set_cons_zero, List.set_cons_succ, decide_true, decide_false, if_true, if_false, Bool.not_true, Bool.not_false, Bool.false_eq_true, true_and, and_true, Nat.reduceAdd, Nat.reduceLT, Nat.reduceLeDiff, Nat.zero_add, reduceIte, and_self, eq_self, wE_sSetF, wE_sFrz, frzS_nil, frzS_cons, wE_mSl, wE_pNo, wE_pSome, wE_mM1, wE_mAnd, wE_mOr, wE_mChain, wE_mDct, truthD_bl, gNeg_int, view_exc, gFz_lt, gT_tup, gC_cons, gN_nil, tyD_lst, oE_none, hk']
      exact h _ _ nms (p5.mono (by omega))
  · have hda : decide ((0 : Int) < (a : Int)) = false := by simpa using ha0
    simp only [wE_bCons, wE_sIf, wE_bNil, wE_mBool, wE_mTruth, wE_tmAnd, wE_tmOr, wE_tmNot, wE_mBin, wE_mUn, wE_m1, wE_mVar, wE_m2, wE_mC, wE_sSet, wE_sSetH, wE_sPut, wE_sRet, wE_sDrop, wE_sUnp, wE_sPend, mPend_nil, mPend_cons, pend_fz, pend_nwl, pend_loc, putL_nil, putL_fz, putL_nw, fzL_nil, fzL_cons, wE_mLst, wE_mTup, wE_mCB, wE_mCall, wE_mMut, wE_mSeq, wE_mRng1, wE_for, wE_mDisp, wE_mPairs_nil, wE_mPairs_cons, wE_tmYes, wE_ok, wE_mIfE, wE_maCons, wE_maNil, views_cons, views_nil, vals_cons, vals_nil, Option.bind_some, Option.map_some, settle_fz, settle_loc, settle_nw, view_hdl, view_int, view_str, view_bl, view_lst, view_tup, view_ro, view_loc, view_nw, view_dct, oE_some, gCmpI_int, gAdd_int, gSub_int, toVal_fz, toVal_nw, toVal_loc, cont_hdl, cont_loc, putB_hdl, putB_loc, putH_nw, putR_fz, putR_nwl, putR_nwt, putR_nwd, putR_loc, leaveR_fz, leaveR_nw, leaveR_loc, List.getElem?_cons_zero, List.getElem?_cons_succ, List.length_cons, List.length_nil, List.set_cons_zero, List.set_cons_succ, decide_true, decide_false, if_true, if_false, Bool.not_true, Bool.not_false, Bool.false_eq_true, true_and, and_true, Nat.reduceAdd, Nat.reduceLT, Nat.reduceLeDiff, Nat.zero_add, reduceIte, and_self, eq_self, wE_sSetF, wE_sFrz, frzS_nil, frzS_cons, wE_mSl, wE_pNo, wE_pSome, wE_mM1, wE_mAnd, wE_mOr, wE_mChain, wE_mDct, truthD_bl, gNeg_int, view_exc, gFz_lt, gT_tup, gC_cons, gN_nil, tyD_lst, oE_none, hda]
    exact h _ _ nms (p4.mono (by omega))
/-! ### shuffled -/
theorem okq_nil' : okq (.lst []) = true := by decide
theorem gNe_emp {xs : List D} (h : okq (.lst xs) = true) : gNe (.lst xs) (.lst []) = some (.fz (.bl (!xs.isEmpty))) := by
  unfold gNe
  rw [h, okq_nil']
  cases xs <;> simp [eqD, eqL]
theorem erase_perm {α : Type} : ∀ {L : List α} {i : Nat} (h : i < L.length), (L[i] :: L.eraseIdx i).Perm L
  | [], _, h => absurd h (Nat.not_lt_zero _)
  | x :: L, 0, _ => .refl _
  | x :: L, i + 1, h => (List.Perm.swap x _ _).trans (.cons x (erase_perm (L := L) (i := i) (by simpa using h)))
theorem pop_ix {L : List D} {i : Int} (h0 : 0 ≤ i) (h1 : i < L.length) (hL : L.length ≤ 1000) : ∃ (y : D) (L' : List D), gPop (.lst L) [.int i] = some (.lst L', y) ∧ (y :: L').Perm L ∧ L'.length + 1 = L.length := by
  have hl : i.toNat < L.length := by omega
  refine ⟨L[i.toNat], L.eraseIdx i.toNat, ?_, erase_perm hl, ?_⟩
  · show (if -(2 ^ 63) ≤ i ∧ i < 2 ^ 63 then (seqIndex? i L.length).bind fun k => (L[k]?).map fun y => (D.lst (L.eraseIdx k), y) else none) = _
    rw [if_pos (by omega)]
    have e1 : seqIndex? i L.length = some i.toNat := by
      unfold seqIndex?
      simp [show ¬ i < 0 by omega, h0, h1]
    rw [e1]
    simp only [Option.bind_some, List.getElem?_eq_getElem hl, Option.map_some]
  · rw [List.length_eraseIdx_of_lt hl]; omega
theorem shuf_bw {S0 S ds : List D} {b : Int} {Q : Rv → Cf → Prop} (hq : ∀ L : List D, (∀ z ∈ L, z ∈ ds) → okq (.lst L) = true) (p : Pn S0 S b) (hb : b < 2 ^ 38) (hl : ds.length ≤ 900) (h : ∀ es c, es.Perm ds → Pn S0 c.S (b + ds.length) → Q (.nw (.lst es)) c) : wE (m__law_shuffled [.hdl 0, .lst ds] S) Q := by
  apply wE_runF
  show wE (b__law_shuffled ⟨[.fz (.hdl 0), .fz (.lst ds), .un, .un], S⟩) _
  unfold b__law_shuffled
  have z0 : 0 ≤ sizeLine := Nat.zero_le _
  have z2 : 2 ≤ sizeLine := big64 (by decide)
  refine wE_seqE (P := fun c => c = ⟨[.fz (.hdl 0), .fz (.lst ds), .ow (.lst ds), .ow (.lst [])], S⟩) ?_ ?_
  · simp only [wE_bCons, wE_sIf, wE_bNil, wE_mBool, wE_mTruth, wE_tmAnd, wE_tmOr, wE_tmNot, wE_mBin, wE_mUn, wE_m1, wE_mVar, wE_m2, wE_mC, wE_sSet, wE_sSetH, wE_sPut, wE_sRet, wE_sDrop, wE_sUnp, wE_sPend, mPend_nil, mPend_cons, pend_fz, pend_nwl, pend_loc, putL_nil, putL_fz, putL_nw, fzL_nil, fzL_cons, wE_mLst, wE_mTup, wE_mCB, wE_mCall, wE_mMut, wE_mSeq, wE_mRng1, wE_for, wE_mDisp, wE_mPairs_nil, wE_mPairs_cons, wE_tmYes, wE_ok, wE_mIfE, wE_maCons, wE_maNil, views_cons, views_nil, vals_cons, vals_nil, Option.bind_some, Option.map_some, settle_fz, settle_loc, settle_nw, view_hdl, view_int, view_str, view_bl, view_lst, view_tup, view_ro, view_loc, view_nw, view_dct, oE_some, gCmpI_int, gAdd_int, gSub_int, toVal_fz, toVal_nw, toVal_loc, cont_hdl, cont_loc, putB_hdl, putB_loc, putH_nw, putR_fz, putR_nwl, putR_nwt, putR_nwd, putR_loc, leaveR_fz, leaveR_nw, leaveR_loc, List.getElem?_cons_zero, List.getElem?_cons_succ, List.length_cons, List.length_nil, List.set_cons_zero, List.set_cons_succ, decide_true, decide_false, if_true, if_false, Bool.not_true, Bool.not_false, Bool.false_eq_true, true_and, and_true, Nat.reduceAdd, Nat.reduceLT, Nat.reduceLeDiff, Nat.zero_add, reduceIte, and_self, eq_self, wE_sSetF, wE_sFrz, frzS_nil, frzS_cons, wE_mSl, wE_pNo, wE_pSome, wE_mM1, wE_mAnd, wE_mOr, wE_mChain, wE_mDct, truthD_bl, gNeg_int, view_exc, gFz_lt, gT_tup, gC_cons, gN_nil, tyD_lst, oE_none, gList_lst, z0, z2]
  rintro _ rfl
  refine wE_seqE (P := fun c => ∃ (B S' : List D), c = ⟨[.fz (.hdl 0), .fz (.lst ds), .ow (.lst []), .ow (.lst B)], S'⟩ ∧ B.Perm ds ∧ Pn S0 S' (b + ds.length)) ?_ ?_
  · have key := wE_wh (t := (mBool (mBin gNe (mVar 2) (mLst maNil)))) (body := (sDrop (mMut "list" gAppend (mVar 3) (maCons (mMut "list" gPop (mVar 2) (maCons (mCall 2 m__law_draw (maCons (mVar 0) (maCons (mCB (g1 gLen) (maCons (mVar 2) maNil)) maNil))) maNil)) maNil)))) (R := fun _ _ => False)
      (Z := fun c => ∃ (B S' : List D), c = ⟨[.fz (.hdl 0), .fz (.lst ds), .ow (.lst []), .ow (.lst B)], S'⟩ ∧ B.Perm ds ∧ Pn S0 S' (b + ds.length))
      (fun m c => ∃ (L B S' : List D), c = ⟨[.fz (.hdl 0), .fz (.lst ds), .ow (.lst L), .ow (.lst B)], S'⟩ ∧ L.length = m ∧ (B ++ L).Perm ds ∧ Pn S0 S' (b + B.length))
      (fun m c ⟨L, B, S', hc, q1, q2, q3⟩ => ?_) (n := 1000) (m := ds.length) (c := ⟨[.fz (.hdl 0), .fz (.lst ds), .ow (.lst ds), .ow (.lst [])], S⟩) (by omega) ⟨ds, [], S, rfl, rfl, .refl _, p.mono (by simp)⟩
    · unfold sWh
      refine wE_mono key fun fl c hh => ?_
      rcases hh with ⟨h1, h2⟩ | ⟨_, _, hh⟩
      · exact ⟨h1, h2⟩
      · exact hh.elim
    · subst hc
      have ql := q2.length_eq
      rw [List.length_append] at ql
      have hok : okq (.lst L) = true := hq L fun z hz => q2.subset (List.mem_append_right _ hz)
      simp only [wE_bCons, wE_sIf, wE_bNil, wE_mBool, wE_mTruth, wE_tmAnd, wE_tmOr, wE_tmNot, wE_mBin, wE_mUn, wE_m1, wE_mVar, wE_m2, wE_mC, wE_sSet, wE_sSetH, wE_sPut, wE_sRet, wE_sDrop, wE_sUnp, wE_sPend, mPend_nil, mPend_cons, pend_fz, pend_nwl, pend_loc, putL_nil, putL_fz, putL_nw, fzL_nil, fzL_cons, wE_mLst, wE_mTup, wE_mCB, wE_mCall, wE_mMut, wE_mSeq, wE_mRng1, wE_for, wE_mDisp, wE_mPairs_nil, wE_mPairs_cons, wE_tmYes, wE_ok, wE_mIfE, wE_maCons, wE_maNil, views_cons, views_nil, vals_cons, vals_nil, Option.bind_some, Option.map_some, settle_fz, settle_loc, settle_nw, view_hdl, view_int, view_str, view_bl, view_lst, view_tup, view_ro, view_loc, view_nw, view_dct, oE_some, gCmpI_int, gAdd_int, gSub_int, toVal_fz, toVal_nw, toVal_loc, cont_hdl, cont_loc, putB_hdl, putB_loc, putH_nw, putR_fz, putR_nwl, putR_nwt, putR_nwd, putR_loc, leaveR_fz, leaveR_nw, leaveR_loc, List.getElem?_cons_zero, List.getElem?_cons_succ, List.length_cons, List.length_nil, List.set_cons_zero, List.set_cons_succ, decide_true, decide_false, if_true, if_false, Bool.not_true, Bool.not_false, Bool.false_eq_true, true_and, and_true, Nat.reduceAdd, Nat.reduceLT, Nat.reduceLeDiff, Nat.zero_add, reduceIte, and_self, eq_self, wE_sSetF, wE_sFrz, frzS_nil, frzS_cons, wE_mSl, wE_pNo, wE_pSome, wE_mM1, wE_mAnd, wE_mOr, wE_mChain, wE_mDct, truthD_bl, gNeg_int, view_exc, gFz_lt, gT_tup, gC_cons, gN_nil, tyD_lst, oE_none, gNe_emp hok, z0]
      by_cases hL : L = []
      · subst hL
        rw [List.append_nil] at q2
        have q1 : 0 = m := q1
        subst q1
        simp only [wE_bCons, wE_sIf, wE_bNil, wE_mBool, wE_mTruth, wE_tmAnd, wE_tmOr, wE_tmNot, wE_mBin, wE_mUn, wE_m1, wE_mVar, wE_m2, wE_mC, wE_sSet, wE_sSetH, wE_sPut, wE_sRet, wE_sDrop, wE_sUnp, wE_sPend, mPend_nil, mPend_cons, pend_fz, pend_nwl, pend_loc, putL_nil, putL_fz, putL_nw, fzL_nil, fzL_cons, wE_mLst, wE_mTup, wE_mCB, wE_mCall, wE_mMut, wE_mSeq, wE_mRng1, wE_for, wE_mDisp, wE_mPairs_nil, wE_mPairs_cons, wE_tmYes, wE_ok, wE_mIfE, wE_maCons, wE_maNil, views_cons, views_nil, vals_cons, vals_nil, Option.bind_some, Option.map_some, settle_fz, settle_loc, settle_nw, view_hdl, view_int, view_str, view_bl, view_lst, view_tup, view_ro, view_loc, view_nw, view_dct, oE_some, gCmpI_int, gAdd_int, gSub_int, toVal_fz, toVal_nw, toVal_loc, cont_hdl, cont_loc, putB_hdl, putB_loc, putH_nw, putR_fz, putR_nwl, putR_nwt, putR_nwd, putR_loc, leaveR_fz, leaveR_nw, leaveR_loc, List.getElem?_cons_zero, List.getElem?_cons_succ, List.length_cons, List.length_nil, List.set_cons_zero, List.set_cons_succ, decide_true, decide_false, if_true, if_false, Bool.not_true, Bool.not_false, Bool.false_eq_true, true_and, and_true, Nat.reduceAdd, Nat.reduceLT, Nat.reduceLeDiff, Nat.zero_add, reduceIte, and_self, eq_self, wE_sSetF, wE_sFrz, frzS_nil, frzS_cons, wE_mSl, wE_pNo, wE_pSome, wE_mM1, wE_mAnd, wE_mOr, wE_mChain, wE_mDct, truthD_bl, gNeg_int, view_exc, gFz_lt, gT_tup, gC_cons, gN_nil, tyD_lst, oE_none, List.isEmpty_nil]
        exact ⟨B, S', rfl, q2, q3.mono (by rw [q2.length_eq]; omega)⟩
      · have hne : L.isEmpty = false := by cases L with
          | nil => exact absurd rfl hL
          | cons => rfl
        have hpos : 0 < L.length := by cases L with
          | nil => exact absurd rfl hL
          | cons => simp
        simp only [wE_bCons, wE_sIf, wE_bNil, wE_mBool, wE_mTruth, wE_tmAnd, wE_tmOr, wE_tmNot, wE_mBin, wE_mUn, wE_m1, wE_mVar, wE_m2, wE_mC, wE_sSet, wE_sSetH, wE_sPut, wE_sRet, wE_sDrop, wE_sUnp, wE_sPend, mPend_nil, mPend_cons, pend_fz, pend_nwl, pend_loc, putL_nil, putL_fz, putL_nw, fzL_nil, fzL_cons, wE_mLst, wE_mTup, wE_mCB, wE_mCall, wE_mMut, wE_mSeq, wE_mRng1, wE_for, wE_mDisp, wE_mPairs_nil, wE_mPairs_cons, wE_tmYes, wE_ok, wE_mIfE, wE_maCons, wE_maNil, views_cons, views_nil, vals_cons, vals_nil, Option.bind_some, Option.map_some, settle_fz, settle_loc, settle_nw, view_hdl, view_int, view_str, view_bl, view_lst, view_tup, view_ro, view_loc, view_nw, view_dct, oE_some, gCmpI_int, gAdd_int, gSub_int, toVal_fz, toVal_nw, toVal_loc, cont_hdl, cont_loc, putB_hdl, putB_loc, putH_nw, putR_fz, putR_nwl, putR_nwt, putR_nwd, putR_loc, leaveR_fz, leaveR_nw, leaveR_loc, List.getElem?_cons_zero, List.getElem?_cons_succ, List.length_cons, List.length_nil, List.set_cons_zero, List.set_cons_succ, decide_true, decide_false, if_true, if_false, Bool.not_true, Bool.not_false, Bool.false_eq_true, true_and, and_true, Nat.reduceAdd, Nat.reduceLT, Nat.reduceLeDiff, Nat.zero_add, reduceIte, and_self, eq_self, wE_sSetF, wE_sFrz, frzS_nil, frzS_cons, wE_mSl, wE_pNo, wE_pSome, wE_mM1, wE_mAnd, wE_mOr, wE_mChain, wE_mDct, truthD_bl, gNeg_int, view_exc, gFz_lt, gT_tup, gC_cons, gN_nil, tyD_lst, oE_none, hne, gLen_lst, tyD_lst]
        refine draw_bw q3 (by omega) (by omega) (by omega) fun k c e2 e3 e5 => ?_
        obtain ⟨y, L', f1, f2, f3⟩ := pop_ix e2 e3 (by omega)
        have f5 := gAppend_ok (a := B) (y := y) (big (by omega))
        simp only [wE_bCons, wE_sIf, wE_bNil, wE_mBool, wE_mTruth, wE_tmAnd, wE_tmOr, wE_tmNot, wE_mBin, wE_mUn, wE_m1, wE_mVar, wE_m2, wE_mC, wE_sSet, wE_sSetH, wE_sPut, wE_sRet, wE_sDrop, wE_sUnp, wE_sPend, mPend_nil, mPend_cons, pend_fz, pend_nwl, pend_loc, putL_nil, putL_fz, putL_nw, fzL_nil, fzL_cons, wE_mLst, wE_mTup, wE_mCB, wE_mCall, wE_mMut, wE_mSeq, wE_mRng1, wE_for, wE_mDisp, wE_mPairs_nil, wE_mPairs_cons, wE_tmYes, wE_ok, wE_mIfE, wE_maCons, wE_maNil, views_cons, views_nil, vals_cons, vals_nil, Option.bind_some, Option.map_some, settle_fz, settle_loc, settle_nw, view_hdl, view_int, view_str, view_bl, view_lst, view_tup, view_ro, view_loc, view_nw, view_dct, oE_some, gCmpI_int, gAdd_int, gSub_int, toVal_fz, toVal_nw, toVal_loc, cont_hdl, cont_loc, putB_hdl, putB_loc, putH_nw, putR_fz, putR_nwl, putR_nwt, putR_nwd, putR_loc, leaveR_fz, leaveR_nw, leaveR_loc, List.getElem?_cons_zero, List.getElem?_cons_succ, List.length_cons, List.length_nil, List.set_cons_zero, List.set_cons_succ, decide_true, decide_false, if_true, if_false, Bool.not_true, Bool.not_false, Bool.false_eq_true, true_and, and_true, Nat.reduceAdd, Nat.reduceLT, Nat.reduceLeDiff, Nat.zero_add, reduceIte, and_self, eq_self, wE_sSetF, wE_sFrz, frzS_nil, frzS_cons, wE_mSl, wE_pNo, wE_pSome, wE_mM1, wE_mAnd, wE_mOr, wE_mChain, wE_mDct, truthD_bl, gNeg_int, view_exc, gFz_lt, gT_tup, gC_cons, gN_nil, tyD_lst, oE_none, f1, f5]
        refine ⟨m - 1, by omega, L', B ++ [y], c.S, rfl, by omega, ?_, e5.mono (by simp; omega)⟩
        rw [List.append_assoc]
        exact (List.Perm.append_left B f2).trans q2
  rintro _ ⟨B, S', rfl, hp, p'⟩
  simp only [wE_bCons, wE_sIf, wE_bNil, wE_mBool, wE_mTruth, wE_tmAnd, wE_tmOr, wE_tmNot, wE_mBin, wE_mUn, wE_m1, wE_mVar, wE_m2, wE_mC, wE_sSet, wE_sSetH, wE_sPut, wE_sRet, wE_sDrop, wE_sUnp, wE_sPend, mPend_nil, mPend_cons, pend_fz, pend_nwl, pend_loc, putL_nil, putL_fz, putL_nw, fzL_nil, fzL_cons, wE_mLst, wE_mTup, wE_mCB, wE_mCall, wE_mMut, wE_mSeq, wE_mRng1, wE_for, wE_mDisp, wE_mPairs_nil, wE_mPairs_cons, wE_tmYes, wE_ok, wE_mIfE, wE_maCons, wE_maNil, views_cons, views_nil, vals_cons, vals_nil, Option.bind_some, Option.map_some, settle_fz, settle_loc, settle_nw, view_hdl, view_int, view_str, view_bl, view_lst, view_tup, view_ro, view_loc, view_nw, view_dct, oE_some, gCmpI_int, gAdd_int, gSub_int, toVal_fz, toVal_nw, toVal_loc, cont_hdl, cont_loc, putB_hdl, putB_loc, putH_nw, putR_fz, putR_nwl, putR_nwt, putR_nwd, putR_loc, leaveR_fz, leaveR_nw, leaveR_loc, List.getElem?_cons_zero, List.getElem?_cons_succ, List.length_cons, List.length_nil, List.set_cons_zero, List.set_cons_succ, decide_true, decide_false, if_true, if_false, Bool.not_true, Bool.not_false, Bool.false_eq_true, true_and, and_true, Nat.reduceAdd, Nat.reduceLT, Nat.reduceLeDiff, Nat.zero_add, reduceIte, and_self, eq_self, wE_sSetF, wE_sFrz, frzS_nil, frzS_cons, wE_mSl, wE_pNo, wE_pSome, wE_mM1, wE_mAnd, wE_mOr, wE_mChain, wE_mDct, truthD_bl, gNeg_int, view_exc, gFz_lt, gT_tup, gC_cons, gN_nil, tyD_lst, oE_none]
  exact h _ _ hp p'
theorem okq_strs {xs : List Str} (h : ∀ x ∈ xs, ∀ c ∈ x.cps.toList, c < 1114112) : okq (.lst (strL xs)) = true := by
  have e1 : ∀ xs : List Str, (∀ x ∈ xs, ∀ c ∈ x.cps.toList, c < 1114112) → plnL (strL xs) = true := fun xs => by
    induction xs with
    | nil => intro _; rfl
    | cons z zs ih =>
      intro h
      show (pln (.str z) && plnL (strL zs)) = true
      rw [ih fun c hc => h c (List.mem_cons_of_mem _ hc), Bool.and_true]
      have hz := h z List.mem_cons_self
      show (z.cps.all (· < 0x110000)) = true
      rw [Array.all_eq_true_iff_forall_mem]
      intro c hc
      have := hz c (by simpa using hc)
      simpa using this
  have e2 : ∀ xs : List Str, depL (strL xs) = 0 := fun xs => by
    induction xs with
    | nil => rfl
    | cons z zs ih => show max (dep (.str z)) (depL (strL zs)) = 0; rw [ih]; rfl
  have e3 : pln (.lst (strL xs)) = plnL (strL xs) := by simp [pln]
  have e4 : dep (.lst (strL xs)) = 1 := by simp [dep, e2]
  unfold okq
  rw [e3, e1 xs h, e4]; rfl
theorem isN_chr {x : Str} (h : isN x = true) : ∀ c ∈ x.cps.toList, c < 1114112 := fun c hc => by have := letS_lo c ((isN_iff.mp h).2.2 c hc); omega
theorem mem_strL {xs : List Str} {d : D} : d ∈ strL xs ↔ ∃ x, x ∈ xs ∧ D.str x = d := List.mem_map
theorem strL_of : ∀ {L : List D}, (∀ z ∈ L, ∃ x, D.str x = z) → ∃ xs, L = strL xs
  | [], _ => ⟨[], rfl⟩
  | z :: L, h => by
    obtain ⟨x, rfl⟩ := h z List.mem_cons_self
    obtain ⟨xs, rfl⟩ := strL_of fun z hz => h z (List.mem_cons_of_mem _ hz)
    exact ⟨x :: xs, rfl⟩
theorem perm_strL {es : List D} {xs : List Str} (h : es.Perm (strL xs)) : ∃ ys, es = strL ys ∧ ys.Perm xs := by
  obtain ⟨ys, rfl⟩ := strL_of (L := es) fun z hz => by
    obtain ⟨x, _, e⟩ := mem_strL.mp (h.subset hz)
    exact ⟨x, e⟩
  refine ⟨ys, rfl, ?_⟩
  have e : ∀ zs : List Str, (strL zs).map (fun d => match d with | .str x => x | _ => "") = zs := fun zs => by
    unfold strL
    rw [List.map_map]
    conv => rhs; rw [← List.map_id zs]
    rfl
  have := h.map fun d => match d with | .str x => x | _ => ""
  rw [e, e] at this
  exact this
/-- names shuffled -/
theorem shuf_names {S0 S : List D} {xs : List Str} {b : Int} {Q : Rv → Cf → Prop} (hx : ∀ x ∈ xs, isN x = true) (p : Pn S0 S b) (hb : b < 2 ^ 38) (hl : xs.length ≤ 900) (h : ∀ ys c, ys.Perm xs → Pn S0 c.S (b + xs.length) → Q (.nw (.lst (strL ys))) c) : wE (m__law_shuffled [.hdl 0, .lst (strL xs)] S) Q := by
  refine shuf_bw (fun L hL => ?_) p hb (by rw [strL_len]; exact hl) fun es c hp p' => ?_
  · obtain ⟨ys, rfl⟩ := strL_of (L := L) fun z hz => by
      obtain ⟨x, _, e⟩ := mem_strL.mp (hL z hz)
      exact ⟨x, e⟩
    refine okq_strs fun x hxm => ?_
    obtain ⟨x', hx', e⟩ := mem_strL.mp (hL (.str x) (List.mem_map_of_mem hxm))
    cases e
    exact isN_chr (hx x hx')
  · obtain ⟨ys, rfl, hp'⟩ := perm_strL hp
    rw [strL_len] at p'
    exact h ys c hp' p'
theorem price_bw {S0 S : List D} {b : Int} {Q : Rv → Cf → Prop} (p : Pn S0 S b) (hb : b < 2 ^ 38) (h : ∀ k c, 1 ≤ k → k ≤ 99 → Pn S0 c.S (b + 4) → Q (.fz (.int k)) c) : wE (m__law_price [.hdl 0] S) Q := by
  apply wE_runF
  show wE (b__law_price ⟨[.fz (.hdl 0)], S⟩) _
  have z5 : 5 ≤ sizeLine := big64 (by decide)
  simp only [wE_bCons, wE_sIf, wE_bNil, wE_mBool, wE_mTruth, wE_tmAnd, wE_tmOr, wE_tmNot, wE_mBin, wE_mUn, wE_m1, wE_mVar, wE_m2, wE_mC, wE_sSet, wE_sSetH, wE_sPut, wE_sRet, wE_sDrop, wE_sUnp, wE_sPend, mPend_nil, mPend_cons, pend_fz, pend_nwl, pend_loc, putL_nil, putL_fz, putL_nw, fzL_nil, fzL_cons, wE_mLst, wE_mTup, wE_mCB, wE_mCall, wE_mMut, wE_mSeq, wE_mRng1, wE_for, wE_mDisp, wE_mPairs_nil, wE_mPairs_cons, wE_tmYes, wE_ok, wE_mIfE, wE_maCons, wE_maNil, views_cons, views_nil, vals_cons, vals_nil, Option.bind_some, Option.map_some, settle_fz, settle_loc, settle_nw, view_hdl, view_int, view_str, view_bl, view_lst, view_tup, view_ro, view_loc, view_nw, view_dct, oE_some, gCmpI_int, gAdd_int, gSub_int, toVal_fz, toVal_nw, toVal_loc, cont_hdl, cont_loc, putB_hdl, putB_loc, putH_nw, putR_fz, putR_nwl, putR_nwt, putR_nwd, putR_loc, leaveR_fz, leaveR_nw, leaveR_loc, List.getElem?_cons_zero, List.getElem?_cons_succ, List.length_cons, List.length_nil, List.set_cons_zero, List.set_cons_succ, decide_true, decide_false, if_true, if_false, Bool.not_true, Bool.not_false, Bool.false_eq_true, true_and, and_true, Nat.reduceAdd, Nat.reduceLT, Nat.reduceLeDiff, Nat.zero_add, reduceIte, and_self, eq_self, wE_sSetF, wE_sFrz, frzS_nil, frzS_cons, wE_mSl, wE_pNo, wE_pSome, wE_mM1, wE_mAnd, wE_mOr, wE_mChain, wE_mDct, truthD_bl, gNeg_int, view_exc, gFz_lt, gT_tup, gC_cons, gN_nil, tyD_lst, oE_none, b__law_price]
  refine draw_bw p (by omega) (by decide) (by decide) fun x c1 x0 x1 p1 => ?_
  simp only [wE_bCons, wE_sIf, wE_bNil, wE_mBool, wE_mTruth, wE_tmAnd, wE_tmOr, wE_tmNot, wE_mBin, wE_mUn, wE_m1, wE_mVar, wE_m2, wE_mC, wE_sSet, wE_sSetH, wE_sPut, wE_sRet, wE_sDrop, wE_sUnp, wE_sPend, mPend_nil, mPend_cons, pend_fz, pend_nwl, pend_loc, putL_nil, putL_fz, putL_nw, fzL_nil, fzL_cons, wE_mLst, wE_mTup, wE_mCB, wE_mCall, wE_mMut, wE_mSeq, wE_mRng1, wE_for, wE_mDisp, wE_mPairs_nil, wE_mPairs_cons, wE_tmYes, wE_ok, wE_mIfE, wE_maCons, wE_maNil, views_cons, views_nil, vals_cons, vals_nil, Option.bind_some, Option.map_some, settle_fz, settle_loc, settle_nw, view_hdl, view_int, view_str, view_bl, view_lst, view_tup, view_ro, view_loc, view_nw, view_dct, oE_some, gCmpI_int, gAdd_int, gSub_int, toVal_fz, toVal_nw, toVal_loc, cont_hdl, cont_loc, putB_hdl, putB_loc, putH_nw, putR_fz, putR_nwl, putR_nwt, putR_nwd, putR_loc, leaveR_fz, leaveR_nw, leaveR_loc, List.getElem?_cons_zero, List.getElem?_cons_succ, List.length_cons, List.length_nil, List.set_cons_zero, List.set_cons_succ, decide_true, decide_false, if_true, if_false, Bool.not_true, Bool.not_false, Bool.false_eq_true, true_and, and_true, Nat.reduceAdd, Nat.reduceLT, Nat.reduceLeDiff, Nat.zero_add, reduceIte, and_self, eq_self, wE_sSetF, wE_sFrz, frzS_nil, frzS_cons, wE_mSl, wE_pNo, wE_pSome, wE_mM1, wE_mAnd, wE_mOr, wE_mChain, wE_mDct, truthD_bl, gNeg_int, view_exc, gFz_lt, gT_tup, gC_cons, gN_nil, tyD_lst, oE_none]
  refine draw_bw p1 (by omega) (by decide) (by decide) fun y c2 y0 y1 p2 => ?_
  simp only [wE_bCons, wE_sIf, wE_bNil, wE_mBool, wE_mTruth, wE_tmAnd, wE_tmOr, wE_tmNot, wE_mBin, wE_mUn, wE_m1, wE_mVar, wE_m2, wE_mC, wE_sSet, wE_sSetH, wE_sPut, wE_sRet, wE_sDrop, wE_sUnp, wE_sPend, mPend_nil, mPend_cons, pend_fz, pend_nwl, pend_loc, putL_nil, putL_fz, putL_nw, fzL_nil, fzL_cons, wE_mLst, wE_mTup, wE_mCB, wE_mCall, wE_mMut, wE_mSeq, wE_mRng1, wE_for, wE_mDisp, wE_mPairs_nil, wE_mPairs_cons, wE_tmYes, wE_ok, wE_mIfE, wE_maCons, wE_maNil, views_cons, views_nil, vals_cons, vals_nil, Option.bind_some, Option.map_some, settle_fz, settle_loc, settle_nw, view_hdl, view_int, view_str, view_bl, view_lst, view_tup, view_ro, view_loc, view_nw, view_dct, oE_some, gCmpI_int, gAdd_int, gSub_int, toVal_fz, toVal_nw, toVal_loc, cont_hdl, cont_loc, putB_hdl, putB_loc, putH_nw, putR_fz, putR_nwl, putR_nwt, putR_nwd, putR_loc, leaveR_fz, leaveR_nw, leaveR_loc, List.getElem?_cons_zero, List.getElem?_cons_succ, List.length_cons, List.length_nil, List.set_cons_zero, List.set_cons_succ, decide_true, decide_false, if_true, if_false, Bool.not_true, Bool.not_false, Bool.false_eq_true, true_and, and_true, Nat.reduceAdd, Nat.reduceLT, Nat.reduceLeDiff, Nat.zero_add, reduceIte, and_self, eq_self, wE_sSetF, wE_sFrz, frzS_nil, frzS_cons, wE_mSl, wE_pNo, wE_pSome, wE_mM1, wE_mAnd, wE_mOr, wE_mChain, wE_mDct, truthD_bl, gNeg_int, view_exc, gFz_lt, gT_tup, gC_cons, gN_nil, tyD_lst, oE_none]
  refine draw_bw p2 (by omega) (by decide) (by decide) fun z c3 z0 z1 p3 => ?_
  simp only [wE_bCons, wE_sIf, wE_bNil, wE_mBool, wE_mTruth, wE_tmAnd, wE_tmOr, wE_tmNot, wE_mBin, wE_mUn, wE_m1, wE_mVar, wE_m2, wE_mC, wE_sSet, wE_sSetH, wE_sPut, wE_sRet, wE_sDrop, wE_sUnp, wE_sPend, mPend_nil, mPend_cons, pend_fz, pend_nwl, pend_loc, putL_nil, putL_fz, putL_nw, fzL_nil, fzL_cons, wE_mLst, wE_mTup, wE_mCB, wE_mCall, wE_mMut, wE_mSeq, wE_mRng1, wE_for, wE_mDisp, wE_mPairs_nil, wE_mPairs_cons, wE_tmYes, wE_ok, wE_mIfE, wE_maCons, wE_maNil, views_cons, views_nil, vals_cons, vals_nil, Option.bind_some, Option.map_some, settle_fz, settle_loc, settle_nw, view_hdl, view_int, view_str, view_bl, view_lst, view_tup, view_ro, view_loc, view_nw, view_dct, oE_some, gCmpI_int, gAdd_int, gSub_int, toVal_fz, toVal_nw, toVal_loc, cont_hdl, cont_loc, putB_hdl, putB_loc, putH_nw, putR_fz, putR_nwl, putR_nwt, putR_nwd, putR_loc, leaveR_fz, leaveR_nw, leaveR_loc, List.getElem?_cons_zero, List.getElem?_cons_succ, List.length_cons, List.length_nil, List.set_cons_zero, List.set_cons_succ, decide_true, decide_false, if_true, if_false, Bool.not_true, Bool.not_false, Bool.false_eq_true, true_and, and_true, Nat.reduceAdd, Nat.reduceLT, Nat.reduceLeDiff, Nat.zero_add, reduceIte, and_self, eq_self, wE_sSetF, wE_sFrz, frzS_nil, frzS_cons, wE_mSl, wE_pNo, wE_pSome, wE_mM1, wE_mAnd, wE_mOr, wE_mChain, wE_mDct, truthD_bl, gNeg_int, view_exc, gFz_lt, gT_tup, gC_cons, gN_nil, tyD_lst, oE_none, z5]
  refine draw_bw p3 (by omega) (by decide) (by decide) fun k c4 k0 k1 p4 => ?_
  obtain ⟨v, e, hv⟩ := ix_int (cells := [1, 1 + x, 1 + y, 1 + z, 99]) k0 k1
  have e : gIx (.lst [.int 1, .int (1 + x), .int (1 + y), .int (1 + z), .int 99]) (.int k) = some (.fz (.int v)) := e
  simp only [wE_bCons, wE_sIf, wE_bNil, wE_mBool, wE_mTruth, wE_tmAnd, wE_tmOr, wE_tmNot, wE_mBin, wE_mUn, wE_m1, wE_mVar, wE_m2, wE_mC, wE_sSet, wE_sSetH, wE_sPut, wE_sRet, wE_sDrop, wE_sUnp, wE_sPend, mPend_nil, mPend_cons, pend_fz, pend_nwl, pend_loc, putL_nil, putL_fz, putL_nw, fzL_nil, fzL_cons, wE_mLst, wE_mTup, wE_mCB, wE_mCall, wE_mMut, wE_mSeq, wE_mRng1, wE_for, wE_mDisp, wE_mPairs_nil, wE_mPairs_cons, wE_tmYes, wE_ok, wE_mIfE, wE_maCons, wE_maNil, views_cons, views_nil, vals_cons, vals_nil, Option.bind_some, Option.map_some, settle_fz, settle_loc, settle_nw, view_hdl, view_int, view_str, view_bl, view_lst, view_tup, view_ro, view_loc, view_nw, view_dct, oE_some, gCmpI_int, gAdd_int, gSub_int, toVal_fz, toVal_nw, toVal_loc, cont_hdl, cont_loc, putB_hdl, putB_loc, putH_nw, putR_fz, putR_nwl, putR_nwt, putR_nwd, putR_loc, leaveR_fz, leaveR_nw, leaveR_loc, List.getElem?_cons_zero, List.getElem?_cons_succ, List.length_cons, List.length_nil, List.set_cons_zero, List.set_cons_succ, decide_true, decide_false, if_true, if_false, Bool.not_true, Bool.not_false, Bool.false_eq_true, true_and, and_true, Nat.reduceAdd, Nat.reduceLT, Nat.reduceLeDiff, Nat.zero_add, reduceIte, and_self, eq_self, wE_sSetF, wE_sFrz, frzS_nil, frzS_cons, wE_mSl, wE_pNo, wE_pSome, wE_mM1, wE_mAnd, wE_mOr, wE_mChain, wE_mDct, truthD_bl, gNeg_int, view_exc, gFz_lt, gT_tup, gC_cons, gN_nil, tyD_lst, oE_none, e]
  simp only [List.mem_cons, List.not_mem_nil, or_false] at hv
  refine h _ _ (by omega) (by omega) (p4.mono (by omega))
/-! ### a sort by draws -/
structure Dr where
  n : Str
  r : Str
  m : Int
  g : Str
  p : Int
structure Srt where
  rooms : List Str
  doors : List Dr
def doorD (d : Dr) : D := .tup [.str d.n, .str d.r, .int d.m, .str d.g, .int d.p]
def sD (s : Srt) : D := .dct [(.inr "rooms", .lst (strL s.rooms)), (.inr "doors", .lst (s.doors.map doorD))]
structure DrOk (rs gs : List Str) (d : Dr) : Prop where
  n : isN d.n = true
  r : d.r ∈ rs
  m0 : -1 ≤ d.m
  m1 : d.m ≤ 1
  g : d.g ∈ rs ∨ d.g ∈ gs
  p0 : 1 ≤ d.p
  p1 : d.p ≤ 99
structure SrtOk (s : Srt) (rs gs : List Str) (n : Nat) : Prop where
  rooms : s.rooms = sortS rs
  names : (s.doors.map (·.n)).Pairwise (fun x y => leS x y = true)
  nd : (s.doors.map (·.n)).Nodup
  doors : ∀ d ∈ s.doors, DrOk rs gs d
  len : s.doors.length ≤ n
def fkv (ds : List Dr) : List (Key × D) := ds.map fun d => ((.inr d.n : Key), doorD d)
theorem fkv_new {ds : List Dr} {d : Dr} (h : d.n ∉ ds.map (·.n)) : setK (fkv ds) (.inr d.n) (doorD d) = fkv (ds ++ [d]) := by
  rw [setK_new]
  · simp [fkv]
  · intro z
    obtain ⟨p, hp, e⟩ := List.mem_map.mp z
    obtain ⟨d', hd, rfl⟩ := List.mem_map.mp hp
    have e : (.inr d'.n : Key) = .inr d.n := e
    exact h (List.mem_map.mpr ⟨d', hd, Sum.inr.inj e⟩)
theorem fkv_keys : ∀ ds : List Dr, strKs (fkv ds) = some (ds.map (·.n))
  | [] => rfl
  | d :: ds => by
    show (strKs (fkv ds)).map (d.n :: ·) = _
    rw [fkv_keys ds]; rfl
theorem fkv_get : ∀ {ds : List Dr} {d : Dr}, (ds.map (·.n)).Nodup → d ∈ ds → getK (fkv ds) (.inr d.n) = some (doorD d)
  | x :: ds, d, hn, hd => by
    rw [List.map_cons, List.nodup_cons] at hn
    unfold getK fkv
    rw [List.map_cons, List.find?_cons]
    rcases List.mem_cons.mp hd with rfl | hd
    · simp
    · have hne : x.n ≠ d.n := fun e => hn.1 (e ▸ List.mem_map_of_mem hd)
      have e1 : decide ((.inr x.n : Key) = .inr d.n) = false := by simpa using hne
      simp only [e1]
      exact fkv_get hn.2 hd
def sortDr (ds : List Dr) : List Dr := ds.mergeSort fun a b => leS a.n b.n
theorem sortDr_perm (ds : List Dr) : (sortDr ds).Perm ds := List.mergeSort_perm ds _
theorem sortDr_names (ds : List Dr) : sortS (ds.map (·.n)) = (sortDr ds).map (·.n) := mergeSort_map (f := Dr.n) (r := fun a b => leS a.n b.n) (s := leS) (fun _ _ => rfl) ds
theorem gSortK_fkv {ds : List Dr} (h : ds.length < 64) : g1 gSortedK [.dct (fkv ds)] = some (.nw (.lst (strL ((sortDr ds).map (·.n))))) := by
  show (strKs (fkv ds)).bind _ = _
  rw [fkv_keys, Option.bind_some, if_pos (by simpa using h), sortDr_names]
  rfl
theorem gDput_fkv {ds : List Dr} {d : Dr} {x : Str} (e : d.n = x) (h : x ∉ ds.map (·.n)) (hl : ds.length < sizeLine) : gDput (.dct (fkv ds)) (.str x) (doorD d) = some (.dct (fkv (ds ++ [d]))) := by
  subst e
  show (if (fkv ds).length < sizeLine then some (D.dct (setK (fkv ds) (.inr d.n) (doorD d))) else none) = _
  rw [if_pos (by unfold fkv; rw [List.length_map]; exact hl), fkv_new h]
theorem take_succ_get {α : Type} {xs : List α} {i : Nat} {x : α} (h : xs[i]? = some x) : xs.take (i + 1) = xs.take i ++ [x] := by
  rw [List.take_add_one, h]; rfl
theorem get_strL {xs : List Str} {i : Nat} {d : D} (h : (strL xs)[i]? = some d) : ∃ x, xs[i]? = some x ∧ d = .str x := by
  unfold strL at h
  rw [List.getElem?_map] at h
  obtain ⟨x, h1, h2⟩ := Option.map_eq_some_iff.mp h
  exact ⟨x, h1, h2.symm⟩
theorem kx_rd : decide ((.inr "rooms" : Key) = .inr "doors") = false := by decide +kernel
theorem kx_rd' : ¬ ("rooms" : Str) = "doors" := by decide +kernel
theorem merge_sD {a b : D} : mergeD [((.inr "rooms" : Key), a), (.inr "doors", b)] [] = [((.inr "rooms" : Key), a), (.inr "doors", b)] := by simp [mergeD, setK, kx_rd']
abbrev sortB : Sm := (bCons (sFrz [7, 8] (sPend [7, 8] [(mCall 2 m__law_pick (maCons (mVar 0) (maCons (mVar 1) maNil))), (mBin gSub (mCall 2 m__law_draw (maCons (mVar 0) (maCons (mC (.int 3)) maNil))) (mC (.int 1)))]))
  (bCons (sSetF 9 (mCall 2 m__law_pick (maCons (mVar 0) (maCons (mLst (maCons (mCall 2 m__law_pick (maCons (mVar 0) (maCons (mVar 1) maNil))) (maCons (mCall 2 m__law_pick (maCons (mVar 0) (maCons (mVar 1) maNil))) (maCons (mCall 2 m__law_pick (maCons (mVar 0) (maCons (mVar 2) maNil))) maNil)))) maNil))))
  (sPut gDput (mTup (maCons (mVar 6) (maCons (mVar 7) (maCons (mVar 8) (maCons (mVar 9) (maCons (mCall 1 m__law_price (maCons (mVar 0) maNil)) maNil)))))) (mVar 5) (mVar 6))))
theorem pick_name {S0 S : List D} {xs : List Str} {b : Int} {Q : Rv → Cf → Prop} (p : Pn S0 S b) (hb : b < 2 ^ 40) (h0 : 0 < xs.length) (h1 : xs.length < 2 ^ 40) (h : ∀ x c, x ∈ xs → Pn S0 c.S (b + 1) → Q (.fz (.str x)) c) : wE (m__law_pick [.hdl 0, .lst (strL xs)] S) Q := by
  refine pick_lst p hb (by rw [strL_len]; exact h0) (by rw [strL_len]; exact h1) fun d c hd p' => ?_
  obtain ⟨x, hx, rfl⟩ := mem_strL.mp hd
  exact h x c hx p'
theorem sort_turn {S0 S : List D} {rs gs ns : List Str} {ds : List Dr} {x : Str} {b n : Int} {x7 x8 x9 : Sl} (p : Pn S0 S b) (hb : b < 2 ^ 37) (hr0 : 0 < rs.length) (hr1 : rs.length ≤ 100) (hg0 : 0 < gs.length) (hg1 : gs.length ≤ 100) (hx : isN x = true) (hd : x ∉ ds.map (·.n)) (hl : ds.length ≤ 100) :
    wE (sortB ⟨[.fz (.hdl 0), .fz (.lst (strL rs)), .fz (.lst (strL gs)), .fz (.int n), .fz (.lst (strL ns)), .ow (.dct (fkv ds)), .fz (.str x), x7, x8, x9], S⟩) fun fl c => fl = .nx ∧ ∃ (d : Dr) (S' : List D) (y7 y8 y9 : Sl), d.n = x ∧ DrOk rs gs d ∧ Pn S0 S' (b + 10) ∧
      c = ⟨[.fz (.hdl 0), .fz (.lst (strL rs)), .fz (.lst (strL gs)), .fz (.int n), .fz (.lst (strL ns)), .ow (.dct (fkv (ds ++ [d]))), .fz (.str x), y7, y8, y9], S'⟩ := by
  have z2 : 2 ≤ sizeLine := big64 (by decide)
  have z3 : 3 ≤ sizeLine := big64 (by decide)
  have z5 : 5 ≤ sizeLine := big64 (by decide)
  refine wE_seqE (P := fun c => ∃ (r : Str) (m : Int) (S' : List D), r ∈ rs ∧ -1 ≤ m ∧ m ≤ 1 ∧ Pn S0 S' (b + 2) ∧ c = ⟨[.fz (.hdl 0), .fz (.lst (strL rs)), .fz (.lst (strL gs)), .fz (.int n), .fz (.lst (strL ns)), .ow (.dct (fkv ds)), .fz (.str x), .fz (.str r), .fz (.int m), x9], S'⟩) ?_ ?_
  · simp only [wE_bCons, wE_sIf, wE_bNil, wE_mBool, wE_mTruth, wE_tmAnd, wE_tmOr, wE_tmNot, wE_mBin, wE_mUn, wE_m1, wE_mVar, wE_m2, wE_mC, wE_sSet, wE_sSetH, wE_sPut, wE_sRet, wE_sDrop, wE_sUnp, wE_sPend, mPend_nil, mPend_cons, pend_fz, pend_nwl, pend_loc, putL_nil, putL_fz, putL_nw, fzL_nil, fzL_cons, wE_mLst, wE_mTup, wE_mCB, wE_mCall, wE_mMut, wE_mSeq, wE_mRng1, wE_for, wE_mDisp, wE_mPairs_nil, wE_mPairs_cons, wE_tmYes, wE_ok, wE_mIfE, wE_maCons, wE_maNil, views_cons, views_nil, vals_cons, vals_nil, Option.bind_some, Option.map_some, settle_fz, settle_loc, settle_nw, view_hdl, view_int, view_str, view_bl, view_lst, view_tup, view_ro, view_loc, view_nw, view_dct, oE_some, gCmpI_int, gAdd_int, gSub_int, toVal_fz, toVal_nw, toVal_loc, cont_hdl, cont_loc, putB_hdl, putB_loc, putH_nw, putR_fz, putR_nwl, putR_nwt, putR_nwd, putR_loc, leaveR_fz, leaveR_nw, leaveR_loc, List.getElem?_cons_zero, List.getElem?_cons_succ, List.length_cons, List.length_nil, List.set_cons_zero, List.set_cons_succ, decide_true, decide_false, if_true, if_false, Bool.not_true, Bool.not_false, Bool.false_eq_true, true_and, and_true, Nat.reduceAdd, Nat.reduceLT, Nat.reduceLeDiff, Nat.zero_add, reduceIte, and_self, eq_self, wE_sSetF, wE_sFrz, frzS_nil, frzS_cons, wE_mSl, wE_pNo, wE_pSome, wE_mM1, wE_mAnd, wE_mOr, wE_mChain, wE_mDct, truthD_bl, gNeg_int, view_exc, gFz_lt, gT_tup, gC_cons, gN_nil, tyD_lst, oE_none]
    refine pick_name p (by omega) hr0 (by omega) fun r c1 hr p1 => ?_
    simp only [wE_bCons, wE_sIf, wE_bNil, wE_mBool, wE_mTruth, wE_tmAnd, wE_tmOr, wE_tmNot, wE_mBin, wE_mUn, wE_m1, wE_mVar, wE_m2, wE_mC, wE_sSet, wE_sSetH, wE_sPut, wE_sRet, wE_sDrop, wE_sUnp, wE_sPend, mPend_nil, mPend_cons, pend_fz, pend_nwl, pend_loc, putL_nil, putL_fz, putL_nw, fzL_nil, fzL_cons, wE_mLst, wE_mTup, wE_mCB, wE_mCall, wE_mMut, wE_mSeq, wE_mRng1, wE_for, wE_mDisp, wE_mPairs_nil, wE_mPairs_cons, wE_tmYes, wE_ok, wE_mIfE, wE_maCons, wE_maNil, views_cons, views_nil, vals_cons, vals_nil, Option.bind_some, Option.map_some, settle_fz, settle_loc, settle_nw, view_hdl, view_int, view_str, view_bl, view_lst, view_tup, view_ro, view_loc, view_nw, view_dct, oE_some, gCmpI_int, gAdd_int, gSub_int, toVal_fz, toVal_nw, toVal_loc, cont_hdl, cont_loc, putB_hdl, putB_loc, putH_nw, putR_fz, putR_nwl, putR_nwt, putR_nwd, putR_loc, leaveR_fz, leaveR_nw, leaveR_loc, List.getElem?_cons_zero, List.getElem?_cons_succ, List.length_cons, List.length_nil, List.set_cons_zero, List.set_cons_succ, decide_true, decide_false, if_true, if_false, Bool.not_true, Bool.not_false, Bool.false_eq_true, true_and, and_true, Nat.reduceAdd, Nat.reduceLT, Nat.reduceLeDiff, Nat.zero_add, reduceIte, and_self, eq_self, wE_sSetF, wE_sFrz, frzS_nil, frzS_cons, wE_mSl, wE_pNo, wE_pSome, wE_mM1, wE_mAnd, wE_mOr, wE_mChain, wE_mDct, truthD_bl, gNeg_int, view_exc, gFz_lt, gT_tup, gC_cons, gN_nil, tyD_lst, oE_none]
    refine draw_bw p1 (by omega) (by decide) (by decide) fun k c2 k0 k1 p2 => ?_
    simp only [wE_bCons, wE_sIf, wE_bNil, wE_mBool, wE_mTruth, wE_tmAnd, wE_tmOr, wE_tmNot, wE_mBin, wE_mUn, wE_m1, wE_mVar, wE_m2, wE_mC, wE_sSet, wE_sSetH, wE_sPut, wE_sRet, wE_sDrop, wE_sUnp, wE_sPend, mPend_nil, mPend_cons, pend_fz, pend_nwl, pend_loc, putL_nil, putL_fz, putL_nw, fzL_nil, fzL_cons, wE_mLst, wE_mTup, wE_mCB, wE_mCall, wE_mMut, wE_mSeq, wE_mRng1, wE_for, wE_mDisp, wE_mPairs_nil, wE_mPairs_cons, wE_tmYes, wE_ok, wE_mIfE, wE_maCons, wE_maNil, views_cons, views_nil, vals_cons, vals_nil, Option.bind_some, Option.map_some, settle_fz, settle_loc, settle_nw, view_hdl, view_int, view_str, view_bl, view_lst, view_tup, view_ro, view_loc, view_nw, view_dct, oE_some, gCmpI_int, gAdd_int, gSub_int, toVal_fz, toVal_nw, toVal_loc, cont_hdl, cont_loc, putB_hdl, putB_loc, putH_nw, putR_fz, putR_nwl, putR_nwt, putR_nwd, putR_loc, leaveR_fz, leaveR_nw, leaveR_loc, List.getElem?_cons_zero, List.getElem?_cons_succ, List.length_cons, List.length_nil, List.set_cons_zero, List.set_cons_succ, decide_true, decide_false, if_true, if_false, Bool.not_true, Bool.not_false, Bool.false_eq_true, true_and, and_true, Nat.reduceAdd, Nat.reduceLT, Nat.reduceLeDiff, Nat.zero_add, reduceIte, and_self, eq_self, wE_sSetF, wE_sFrz, frzS_nil, frzS_cons, wE_mSl, wE_pNo, wE_pSome, wE_mM1, wE_mAnd, wE_mOr, wE_mChain, wE_mDct, truthD_bl, gNeg_int, view_exc, gFz_lt, gT_tup, gC_cons, gN_nil, tyD_lst, oE_none, z2]
    exact ⟨r, k - 1, c2.S, hr, by omega, by omega, p2.mono (by omega), rfl⟩
  rintro _ ⟨r, m, S1, hr, m0, m1, p1, rfl⟩
  refine wE_seqE (P := fun c => ∃ (g : Str) (S' : List D), (g ∈ rs ∨ g ∈ gs) ∧ Pn S0 S' (b + 6) ∧ c = ⟨[.fz (.hdl 0), .fz (.lst (strL rs)), .fz (.lst (strL gs)), .fz (.int n), .fz (.lst (strL ns)), .ow (.dct (fkv ds)), .fz (.str x), .fz (.str r), .fz (.int m), .fz (.str g)], S'⟩) ?_ ?_
  · simp only [wE_bCons, wE_sIf, wE_bNil, wE_mBool, wE_mTruth, wE_tmAnd, wE_tmOr, wE_tmNot, wE_mBin, wE_mUn, wE_m1, wE_mVar, wE_m2, wE_mC, wE_sSet, wE_sSetH, wE_sPut, wE_sRet, wE_sDrop, wE_sUnp, wE_sPend, mPend_nil, mPend_cons, pend_fz, pend_nwl, pend_loc, putL_nil, putL_fz, putL_nw, fzL_nil, fzL_cons, wE_mLst, wE_mTup, wE_mCB, wE_mCall, wE_mMut, wE_mSeq, wE_mRng1, wE_for, wE_mDisp, wE_mPairs_nil, wE_mPairs_cons, wE_tmYes, wE_ok, wE_mIfE, wE_maCons, wE_maNil, views_cons, views_nil, vals_cons, vals_nil, Option.bind_some, Option.map_some, settle_fz, settle_loc, settle_nw, view_hdl, view_int, view_str, view_bl, view_lst, view_tup, view_ro, view_loc, view_nw, view_dct, oE_some, gCmpI_int, gAdd_int, gSub_int, toVal_fz, toVal_nw, toVal_loc, cont_hdl, cont_loc, putB_hdl, putB_loc, putH_nw, putR_fz, putR_nwl, putR_nwt, putR_nwd, putR_loc, leaveR_fz, leaveR_nw, leaveR_loc, List.getElem?_cons_zero, List.getElem?_cons_succ, List.length_cons, List.length_nil, List.set_cons_zero, List.set_cons_succ, decide_true, decide_false, if_true, if_false, Bool.not_true, Bool.not_false, Bool.false_eq_true, true_and, and_true, Nat.reduceAdd, Nat.reduceLT, Nat.reduceLeDiff, Nat.zero_add, reduceIte, and_self, eq_self, wE_sSetF, wE_sFrz, frzS_nil, frzS_cons, wE_mSl, wE_pNo, wE_pSome, wE_mM1, wE_mAnd, wE_mOr, wE_mChain, wE_mDct, truthD_bl, gNeg_int, view_exc, gFz_lt, gT_tup, gC_cons, gN_nil, tyD_lst, oE_none]
    refine pick_name p1 (by omega) hr0 (by omega) fun g1 c1 h1 p2 => ?_
    simp only [wE_bCons, wE_sIf, wE_bNil, wE_mBool, wE_mTruth, wE_tmAnd, wE_tmOr, wE_tmNot, wE_mBin, wE_mUn, wE_m1, wE_mVar, wE_m2, wE_mC, wE_sSet, wE_sSetH, wE_sPut, wE_sRet, wE_sDrop, wE_sUnp, wE_sPend, mPend_nil, mPend_cons, pend_fz, pend_nwl, pend_loc, putL_nil, putL_fz, putL_nw, fzL_nil, fzL_cons, wE_mLst, wE_mTup, wE_mCB, wE_mCall, wE_mMut, wE_mSeq, wE_mRng1, wE_for, wE_mDisp, wE_mPairs_nil, wE_mPairs_cons, wE_tmYes, wE_ok, wE_mIfE, wE_maCons, wE_maNil, views_cons, views_nil, vals_cons, vals_nil, Option.bind_some, Option.map_some, settle_fz, settle_loc, settle_nw, view_hdl, view_int, view_str, view_bl, view_lst, view_tup, view_ro, view_loc, view_nw, view_dct, oE_some, gCmpI_int, gAdd_int, gSub_int, toVal_fz, toVal_nw, toVal_loc, cont_hdl, cont_loc, putB_hdl, putB_loc, putH_nw, putR_fz, putR_nwl, putR_nwt, putR_nwd, putR_loc, leaveR_fz, leaveR_nw, leaveR_loc, List.getElem?_cons_zero, List.getElem?_cons_succ, List.length_cons, List.length_nil, List.set_cons_zero, List.set_cons_succ, decide_true, decide_false, if_true, if_false, Bool.not_true, Bool.not_false, Bool.false_eq_true, true_and, and_true, Nat.reduceAdd, Nat.reduceLT, Nat.reduceLeDiff, Nat.zero_add, reduceIte, and_self, eq_self, wE_sSetF, wE_sFrz, frzS_nil, frzS_cons, wE_mSl, wE_pNo, wE_pSome, wE_mM1, wE_mAnd, wE_mOr, wE_mChain, wE_mDct, truthD_bl, gNeg_int, view_exc, gFz_lt, gT_tup, gC_cons, gN_nil, tyD_lst, oE_none]
    refine pick_name p2 (by omega) hr0 (by omega) fun g2 c2 h2 p3 => ?_
    simp only [wE_bCons, wE_sIf, wE_bNil, wE_mBool, wE_mTruth, wE_tmAnd, wE_tmOr, wE_tmNot, wE_mBin, wE_mUn, wE_m1, wE_mVar, wE_m2, wE_mC, wE_sSet, wE_sSetH, wE_sPut, wE_sRet, wE_sDrop, wE_sUnp, wE_sPend, mPend_nil, mPend_cons, pend_fz, pend_nwl, pend_loc, putL_nil, putL_fz, putL_nw, fzL_nil, fzL_cons, wE_mLst, wE_mTup, wE_mCB, wE_mCall, wE_mMut, wE_mSeq, wE_mRng1, wE_for, wE_mDisp, wE_mPairs_nil, wE_mPairs_cons, wE_tmYes, wE_ok, wE_mIfE, wE_maCons, wE_maNil, views_cons, views_nil, vals_cons, vals_nil, Option.bind_some, Option.map_some, settle_fz, settle_loc, settle_nw, view_hdl, view_int, view_str, view_bl, view_lst, view_tup, view_ro, view_loc, view_nw, view_dct, oE_some, gCmpI_int, gAdd_int, gSub_int, toVal_fz, toVal_nw, toVal_loc, cont_hdl, cont_loc, putB_hdl, putB_loc, putH_nw, putR_fz, putR_nwl, putR_nwt, putR_nwd, putR_loc, leaveR_fz, leaveR_nw, leaveR_loc, List.getElem?_cons_zero, List.getElem?_cons_succ, List.length_cons, List.length_nil, List.set_cons_zero, List.set_cons_succ, decide_true, decide_false, if_true, if_false, Bool.not_true, Bool.not_false, Bool.false_eq_true, true_and, and_true, Nat.reduceAdd, Nat.reduceLT, Nat.reduceLeDiff, Nat.zero_add, reduceIte, and_self, eq_self, wE_sSetF, wE_sFrz, frzS_nil, frzS_cons, wE_mSl, wE_pNo, wE_pSome, wE_mM1, wE_mAnd, wE_mOr, wE_mChain, wE_mDct, truthD_bl, gNeg_int, view_exc, gFz_lt, gT_tup, gC_cons, gN_nil, tyD_lst, oE_none]
    refine pick_name p3 (by omega) hg0 (by omega) fun g3 c3 h3 p4 => ?_
    simp only [wE_bCons, wE_sIf, wE_bNil, wE_mBool, wE_mTruth, wE_tmAnd, wE_tmOr, wE_tmNot, wE_mBin, wE_mUn, wE_m1, wE_mVar, wE_m2, wE_mC, wE_sSet, wE_sSetH, wE_sPut, wE_sRet, wE_sDrop, wE_sUnp, wE_sPend, mPend_nil, mPend_cons, pend_fz, pend_nwl, pend_loc, putL_nil, putL_fz, putL_nw, fzL_nil, fzL_cons, wE_mLst, wE_mTup, wE_mCB, wE_mCall, wE_mMut, wE_mSeq, wE_mRng1, wE_for, wE_mDisp, wE_mPairs_nil, wE_mPairs_cons, wE_tmYes, wE_ok, wE_mIfE, wE_maCons, wE_maNil, views_cons, views_nil, vals_cons, vals_nil, Option.bind_some, Option.map_some, settle_fz, settle_loc, settle_nw, view_hdl, view_int, view_str, view_bl, view_lst, view_tup, view_ro, view_loc, view_nw, view_dct, oE_some, gCmpI_int, gAdd_int, gSub_int, toVal_fz, toVal_nw, toVal_loc, cont_hdl, cont_loc, putB_hdl, putB_loc, putH_nw, putR_fz, putR_nwl, putR_nwt, putR_nwd, putR_loc, leaveR_fz, leaveR_nw, leaveR_loc, List.getElem?_cons_zero, List.getElem?_cons_succ, List.length_cons, List.length_nil, List.set_cons_zero, List.set_cons_succ, decide_true, decide_false, if_true, if_false, Bool.not_true, Bool.not_false, Bool.false_eq_true, true_and, and_true, Nat.reduceAdd, Nat.reduceLT, Nat.reduceLeDiff, Nat.zero_add, reduceIte, and_self, eq_self, wE_sSetF, wE_sFrz, frzS_nil, frzS_cons, wE_mSl, wE_pNo, wE_pSome, wE_mM1, wE_mAnd, wE_mOr, wE_mChain, wE_mDct, truthD_bl, gNeg_int, view_exc, gFz_lt, gT_tup, gC_cons, gN_nil, tyD_lst, oE_none, z3]
    refine pick_name (xs := [g1, g2, g3]) p4 (by omega) (by show 0 < 3; decide) (by show 3 < 2 ^ 40; decide) fun g c4 h4 p5 => ?_
    simp only [wE_bCons, wE_sIf, wE_bNil, wE_mBool, wE_mTruth, wE_tmAnd, wE_tmOr, wE_tmNot, wE_mBin, wE_mUn, wE_m1, wE_mVar, wE_m2, wE_mC, wE_sSet, wE_sSetH, wE_sPut, wE_sRet, wE_sDrop, wE_sUnp, wE_sPend, mPend_nil, mPend_cons, pend_fz, pend_nwl, pend_loc, putL_nil, putL_fz, putL_nw, fzL_nil, fzL_cons, wE_mLst, wE_mTup, wE_mCB, wE_mCall, wE_mMut, wE_mSeq, wE_mRng1, wE_for, wE_mDisp, wE_mPairs_nil, wE_mPairs_cons, wE_tmYes, wE_ok, wE_mIfE, wE_maCons, wE_maNil, views_cons, views_nil, vals_cons, vals_nil, Option.bind_some, Option.map_some, settle_fz, settle_loc, settle_nw, view_hdl, view_int, view_str, view_bl, view_lst, view_tup, view_ro, view_loc, view_nw, view_dct, oE_some, gCmpI_int, gAdd_int, gSub_int, toVal_fz, toVal_nw, toVal_loc, cont_hdl, cont_loc, putB_hdl, putB_loc, putH_nw, putR_fz, putR_nwl, putR_nwt, putR_nwd, putR_loc, leaveR_fz, leaveR_nw, leaveR_loc, List.getElem?_cons_zero, List.getElem?_cons_succ, List.length_cons, List.length_nil, List.set_cons_zero, List.set_cons_succ, decide_true, decide_false, if_true, if_false, Bool.not_true, Bool.not_false, Bool.false_eq_true, true_and, and_true, Nat.reduceAdd, Nat.reduceLT, Nat.reduceLeDiff, Nat.zero_add, reduceIte, and_self, eq_self, wE_sSetF, wE_sFrz, frzS_nil, frzS_cons, wE_mSl, wE_pNo, wE_pSome, wE_mM1, wE_mAnd, wE_mOr, wE_mChain, wE_mDct, truthD_bl, gNeg_int, view_exc, gFz_lt, gT_tup, gC_cons, gN_nil, tyD_lst, oE_none]
    refine ⟨g, c4.S, ?_, p5.mono (by omega), rfl⟩
    simp only [List.mem_cons, List.not_mem_nil, or_false] at h4
    rcases h4 with rfl | rfl | rfl
    · exact .inl h1
    · exact .inl h2
    · exact .inr h3
  rintro _ ⟨g, S2, hg, p2, rfl⟩
  simp only [wE_bCons, wE_sIf, wE_bNil, wE_mBool, wE_mTruth, wE_tmAnd, wE_tmOr, wE_tmNot, wE_mBin, wE_mUn, wE_m1, wE_mVar, wE_m2, wE_mC, wE_sSet, wE_sSetH, wE_sPut, wE_sRet, wE_sDrop, wE_sUnp, wE_sPend, mPend_nil, mPend_cons, pend_fz, pend_nwl, pend_loc, putL_nil, putL_fz, putL_nw, fzL_nil, fzL_cons, wE_mLst, wE_mTup, wE_mCB, wE_mCall, wE_mMut, wE_mSeq, wE_mRng1, wE_for, wE_mDisp, wE_mPairs_nil, wE_mPairs_cons, wE_tmYes, wE_ok, wE_mIfE, wE_maCons, wE_maNil, views_cons, views_nil, vals_cons, vals_nil, Option.bind_some, Option.map_some, settle_fz, settle_loc, settle_nw, view_hdl, view_int, view_str, view_bl, view_lst, view_tup, view_ro, view_loc, view_nw, view_dct, oE_some, gCmpI_int, gAdd_int, gSub_int, toVal_fz, toVal_nw, toVal_loc, cont_hdl, cont_loc, putB_hdl, putB_loc, putH_nw, putR_fz, putR_nwl, putR_nwt, putR_nwd, putR_loc, leaveR_fz, leaveR_nw, leaveR_loc, List.getElem?_cons_zero, List.getElem?_cons_succ, List.length_cons, List.length_nil, List.set_cons_zero, List.set_cons_succ, decide_true, decide_false, if_true, if_false, Bool.not_true, Bool.not_false, Bool.false_eq_true, true_and, and_true, Nat.reduceAdd, Nat.reduceLT, Nat.reduceLeDiff, Nat.zero_add, reduceIte, and_self, eq_self, wE_sSetF, wE_sFrz, frzS_nil, frzS_cons, wE_mSl, wE_pNo, wE_pSome, wE_mM1, wE_mAnd, wE_mOr, wE_mChain, wE_mDct, truthD_bl, gNeg_int, view_exc, gFz_lt, gT_tup, gC_cons, gN_nil, tyD_lst, oE_none]
  refine price_bw p2 (by omega) fun q c1 q0 q1 p3 => ?_
  have e := gDput_fkv (d := ⟨x, r, m, g, q⟩) (ds := ds) (x := x) rfl hd (by have := sizeLine_eq; omega)
  have e' : gDput (.dct (fkv ds)) (.str x) (.tup [.str x, .str r, .int m, .str g, .int q]) = _ := e
  simp only [wE_bCons, wE_sIf, wE_bNil, wE_mBool, wE_mTruth, wE_tmAnd, wE_tmOr, wE_tmNot, wE_mBin, wE_mUn, wE_m1, wE_mVar, wE_m2, wE_mC, wE_sSet, wE_sSetH, wE_sPut, wE_sRet, wE_sDrop, wE_sUnp, wE_sPend, mPend_nil, mPend_cons, pend_fz, pend_nwl, pend_loc, putL_nil, putL_fz, putL_nw, fzL_nil, fzL_cons, wE_mLst, wE_mTup, wE_mCB, wE_mCall, wE_mMut, wE_mSeq, wE_mRng1, wE_for, wE_mDisp, wE_mPairs_nil, wE_mPairs_cons, wE_tmYes, wE_ok, wE_mIfE, wE_maCons, wE_maNil, views_cons, views_nil, vals_cons, vals_nil, Option.bind_some, Option.map_some, settle_fz, settle_loc, settle_nw, view_hdl, view_int, view_str, view_bl, view_lst, view_tup, view_ro, view_loc, view_nw, view_dct, oE_some, gCmpI_int, gAdd_int, gSub_int, toVal_fz, toVal_nw, toVal_loc, cont_hdl, cont_loc, putB_hdl, putB_loc, putH_nw, putR_fz, putR_nwl, putR_nwt, putR_nwd, putR_loc, leaveR_fz, leaveR_nw, leaveR_loc, List.getElem?_cons_zero, List.getElem?_cons_succ, List.length_cons, List.length_nil, List.set_cons_zero, List.set_cons_succ, decide_true, decide_false, if_true, if_false, Bool.not_true, Bool.not_false, Bool.false_eq_true, true_and, and_true, Nat.reduceAdd, Nat.reduceLT, Nat.reduceLeDiff, Nat.zero_add, reduceIte, and_self, eq_self, wE_sSetF, wE_sFrz, frzS_nil, frzS_cons, wE_mSl, wE_pNo, wE_pSome, wE_mM1, wE_mAnd, wE_mOr, wE_mChain, wE_mDct, truthD_bl, gNeg_int, view_exc, gFz_lt, gT_tup, gC_cons, gN_nil, tyD_lst, oE_none, z5, e']
  exact ⟨⟨x, r, m, g, q⟩, c1.S, _, _, _, rfl, ⟨hx, hr, m0, m1, hg, q0, q1⟩, p3.mono (by omega), rfl⟩
theorem sort_bw {S0 S : List D} {rs gs : List Str} {b n : Int} {N : Nat} {Q : Rv → Cf → Prop} (e : n = N) (hN : N ≤ 17) (p : Pn S0 S b) (hb : b < 2 ^ 36) (hr0 : 0 < rs.length) (hr1 : rs.length ≤ 100) (hg0 : 0 < gs.length) (hg1 : gs.length ≤ 100)
    (h : ∀ s c, SrtOk s rs gs N → Pn S0 c.S (b + 300) → Q (.nw (sD s)) c) : wE (m__law_sort [.hdl 0, .lst (strL rs), .lst (strL gs), .int n] S) Q := by
  apply wE_runF
  show wE (b__law_sort ⟨[.fz (.hdl 0), .fz (.lst (strL rs)), .fz (.lst (strL gs)), .fz (.int n), .un, .un, .un, .un, .un, .un], S⟩) _
  unfold b__law_sort
  have z0 : 0 ≤ sizeLine := Nat.zero_le _
  have z2 : 2 ≤ sizeLine := big64 (by decide)
  refine wE_seqR (P := fun c => ∃ (ns : List Str) (S' : List D), Names ns 18 ∧ Pn S0 S' (b + 30) ∧ c = ⟨[.fz (.hdl 0), .fz (.lst (strL rs)), .fz (.lst (strL gs)), .fz (.int n), .fz (.lst (strL ns)), .ow (.dct (fkv [])), .un, .un, .un, .un], S'⟩) ?_ ?_
  · simp only [wE_bCons, wE_sIf, wE_bNil, wE_mBool, wE_mTruth, wE_tmAnd, wE_tmOr, wE_tmNot, wE_mBin, wE_mUn, wE_m1, wE_mVar, wE_m2, wE_mC, wE_sSet, wE_sSetH, wE_sPut, wE_sRet, wE_sDrop, wE_sUnp, wE_sPend, mPend_nil, mPend_cons, pend_fz, pend_nwl, pend_loc, putL_nil, putL_fz, putL_nw, fzL_nil, fzL_cons, wE_mLst, wE_mTup, wE_mCB, wE_mCall, wE_mMut, wE_mSeq, wE_mRng1, wE_for, wE_mDisp, wE_mPairs_nil, wE_mPairs_cons, wE_tmYes, wE_ok, wE_mIfE, wE_maCons, wE_maNil, views_cons, views_nil, vals_cons, vals_nil, Option.bind_some, Option.map_some, settle_fz, settle_loc, settle_nw, view_hdl, view_int, view_str, view_bl, view_lst, view_tup, view_ro, view_loc, view_nw, view_dct, oE_some, gCmpI_int, gAdd_int, gSub_int, toVal_fz, toVal_nw, toVal_loc, cont_hdl, cont_loc, putB_hdl, putB_loc, putH_nw, putR_fz, putR_nwl, putR_nwt, putR_nwd, putR_loc, leaveR_fz, leaveR_nw, leaveR_loc, List.getElem?_cons_zero, List.getElem?_cons_succ, List.length_cons, List.length_nil, List.set_cons_zero, List.set_cons_succ, decide_true, decide_false, if_true, if_false, Bool.not_true, Bool.not_false, Bool.false_eq_true, true_and, and_true, Nat.reduceAdd, Nat.reduceLT, Nat.reduceLeDiff, Nat.zero_add, reduceIte, and_self, eq_self, wE_sSetF, wE_sFrz, frzS_nil, frzS_cons, wE_mSl, wE_pNo, wE_pSome, wE_mM1, wE_mAnd, wE_mOr, wE_mChain, wE_mDct, truthD_bl, gNeg_int, view_exc, gFz_lt, gT_tup, gC_cons, gN_nil, tyD_lst, oE_none]
    refine names_bw (n := 18) rfl (by decide) (by decide) p (by omega) fun ns c hn p1 => ?_
    simp only [wE_bCons, wE_sIf, wE_bNil, wE_mBool, wE_mTruth, wE_tmAnd, wE_tmOr, wE_tmNot, wE_mBin, wE_mUn, wE_m1, wE_mVar, wE_m2, wE_mC, wE_sSet, wE_sSetH, wE_sPut, wE_sRet, wE_sDrop, wE_sUnp, wE_sPend, mPend_nil, mPend_cons, pend_fz, pend_nwl, pend_loc, putL_nil, putL_fz, putL_nw, fzL_nil, fzL_cons, wE_mLst, wE_mTup, wE_mCB, wE_mCall, wE_mMut, wE_mSeq, wE_mRng1, wE_for, wE_mDisp, wE_mPairs_nil, wE_mPairs_cons, wE_tmYes, wE_ok, wE_mIfE, wE_maCons, wE_maNil, views_cons, views_nil, vals_cons, vals_nil, Option.bind_some, Option.map_some, settle_fz, settle_loc, settle_nw, view_hdl, view_int, view_str, view_bl, view_lst, view_tup, view_ro, view_loc, view_nw, view_dct, oE_some, gCmpI_int, gAdd_int, gSub_int, toVal_fz, toVal_nw, toVal_loc, cont_hdl, cont_loc, putB_hdl, putB_loc, putH_nw, putR_fz, putR_nwl, putR_nwt, putR_nwd, putR_loc, leaveR_fz, leaveR_nw, leaveR_loc, List.getElem?_cons_zero, List.getElem?_cons_succ, List.length_cons, List.length_nil, List.set_cons_zero, List.set_cons_succ, decide_true, decide_false, if_true, if_false, Bool.not_true, Bool.not_false, Bool.false_eq_true, true_and, and_true, Nat.reduceAdd, Nat.reduceLT, Nat.reduceLeDiff, Nat.zero_add, reduceIte, and_self, eq_self, wE_sSetF, wE_sFrz, frzS_nil, frzS_cons, wE_mSl, wE_pNo, wE_pSome, wE_mM1, wE_mAnd, wE_mOr, wE_mChain, wE_mDct, truthD_bl, gNeg_int, view_exc, gFz_lt, gT_tup, gC_cons, gN_nil, tyD_lst, oE_none, z0, z2]
    exact ⟨ns, c.S, hn, p1, rfl⟩
  rintro _ ⟨ns, S1, hn, p1, rfl⟩
  refine wE_seqR (P := fun c => ∃ (ds : List Dr) (S' : List D) (y6 y7 y8 y9 : Sl), (ds.map (·.n)).Nodup ∧ (∀ d ∈ ds, DrOk rs gs d) ∧ ds.length ≤ N ∧ Pn S0 S' (b + 300) ∧ (∀ d, y6 ≠ .ow d) ∧ c = ⟨[.fz (.hdl 0), .fz (.lst (strL rs)), .fz (.lst (strL gs)), .fz (.int n), .fz (.lst (strL ns)), .ow (.dct (fkv ds)), y6, y7, y8, y9], S'⟩) ?_ ?_
  · rw [wE_for]
    simp only [wE_bCons, wE_sIf, wE_bNil, wE_mBool, wE_mTruth, wE_tmAnd, wE_tmOr, wE_tmNot, wE_mBin, wE_mUn, wE_m1, wE_mVar, wE_m2, wE_mC, wE_sSet, wE_sSetH, wE_sPut, wE_sRet, wE_sDrop, wE_sUnp, wE_sPend, mPend_nil, mPend_cons, pend_fz, pend_nwl, pend_loc, putL_nil, putL_fz, putL_nw, fzL_nil, fzL_cons, wE_mLst, wE_mTup, wE_mCB, wE_mCall, wE_mMut, wE_mSeq, wE_mRng1, wE_for, wE_mDisp, wE_mPairs_nil, wE_mPairs_cons, wE_tmYes, wE_ok, wE_mIfE, wE_maCons, wE_maNil, views_cons, views_nil, vals_cons, vals_nil, Option.bind_some, Option.map_some, settle_fz, settle_loc, settle_nw, view_hdl, view_int, view_str, view_bl, view_lst, view_tup, view_ro, view_loc, view_nw, view_dct, oE_some, gCmpI_int, gAdd_int, gSub_int, toVal_fz, toVal_nw, toVal_loc, cont_hdl, cont_loc, putB_hdl, putB_loc, putH_nw, putR_fz, putR_nwl, putR_nwt, putR_nwd, putR_loc, leaveR_fz, leaveR_nw, leaveR_loc, List.getElem?_cons_zero, List.getElem?_cons_succ, List.length_cons, List.length_nil, List.set_cons_zero, List.set_cons_succ, decide_true, decide_false, if_true, if_false, Bool.not_true, Bool.not_false, Bool.false_eq_true, true_and, and_true, Nat.reduceAdd, Nat.reduceLT, Nat.reduceLeDiff, Nat.zero_add, reduceIte, and_self, eq_self, wE_sSetF, wE_sFrz, frzS_nil, frzS_cons, wE_mSl, wE_pNo, wE_pSome, wE_mM1, wE_mAnd, wE_mOr, wE_mChain, wE_mDct, truthD_bl, gNeg_int, view_exc, gFz_lt, gT_tup, gC_cons, gN_nil, tyD_lst, oE_none]
    refine draw_bw p1 (by omega) (by omega) (by omega) fun k c1 k0 k1 p2 => ?_
    have e1 : gSl (.lst (strL ns)) none (some k) = some (.nw (.lst (strL (ns.take k.toNat)))) := by rw [gSl_lst, cutL_to k0, strL_take]
    simp only [wE_bCons, wE_sIf, wE_bNil, wE_mBool, wE_mTruth, wE_tmAnd, wE_tmOr, wE_tmNot, wE_mBin, wE_mUn, wE_m1, wE_mVar, wE_m2, wE_mC, wE_sSet, wE_sSetH, wE_sPut, wE_sRet, wE_sDrop, wE_sUnp, wE_sPend, mPend_nil, mPend_cons, pend_fz, pend_nwl, pend_loc, putL_nil, putL_fz, putL_nw, fzL_nil, fzL_cons, wE_mLst, wE_mTup, wE_mCB, wE_mCall, wE_mMut, wE_mSeq, wE_mRng1, wE_for, wE_mDisp, wE_mPairs_nil, wE_mPairs_cons, wE_tmYes, wE_ok, wE_mIfE, wE_maCons, wE_maNil, views_cons, views_nil, vals_cons, vals_nil, Option.bind_some, Option.map_some, settle_fz, settle_loc, settle_nw, view_hdl, view_int, view_str, view_bl, view_lst, view_tup, view_ro, view_loc, view_nw, view_dct, oE_some, gCmpI_int, gAdd_int, gSub_int, toVal_fz, toVal_nw, toVal_loc, cont_hdl, cont_loc, putB_hdl, putB_loc, putH_nw, putR_fz, putR_nwl, putR_nwt, putR_nwd, putR_loc, leaveR_fz, leaveR_nw, leaveR_loc, List.getElem?_cons_zero, List.getElem?_cons_succ, List.length_cons, List.length_nil, List.set_cons_zero, List.set_cons_succ, decide_true, decide_false, if_true, if_false, Bool.not_true, Bool.not_false, Bool.false_eq_true, true_and, and_true, Nat.reduceAdd, Nat.reduceLT, Nat.reduceLeDiff, Nat.zero_add, reduceIte, and_self, eq_self, wE_sSetF, wE_sFrz, frzS_nil, frzS_cons, wE_mSl, wE_pNo, wE_pSome, wE_mM1, wE_mAnd, wE_mOr, wE_mChain, wE_mDct, truthD_bl, gNeg_int, view_exc, gFz_lt, gT_tup, gC_cons, gN_nil, tyD_lst, oE_none, e1]
    have key := wE_for_inv (g := gFz 6) (body := sortB) (R := fun _ _ => False) (fun i c => ∃ (ds : List Dr) (S' : List D) (y6 y7 y8 y9 : Sl), ds.map (·.n) = ns.take i ∧ (∀ d ∈ ds, DrOk rs gs d) ∧ Pn S0 S' (b + 31 + 10 * i) ∧ (∀ d, y6 ≠ .ow d) ∧ c = ⟨[.fz (.hdl 0), .fz (.lst (strL rs)), .fz (.lst (strL gs)), .fz (.int n), .fz (.lst (strL ns)), .ow (.dct (fkv ds)), y6, y7, y8, y9], S'⟩)
      (ds := strL (ns.take k.toNat)) (k := 0) (c := ⟨[.fz (.hdl 0), .fz (.lst (strL rs)), .fz (.lst (strL gs)), .fz (.int n), .fz (.lst (strL ns)), .ow (.dct (fkv [])), .un, .un, .un, .un], c1.S⟩) (fun i d c' ei hi => ?_) ⟨[], c1.S, .un, .un, .un, .un, by simp, by simp, p2.mono (by omega), fun _ z => (by cases z), rfl⟩
    · refine wE_mono key fun fl c' hh => ?_
      rcases hh with ⟨h1, ds, S', y6, y7, y8, y9, h2, h3, h4, h5, h6⟩ | ⟨_, _, hh⟩
      · subst h1
        rw [strL_len, Nat.zero_add] at h2 h4
        have hlen : (ns.take k.toNat).length ≤ k.toNat := by rw [List.length_take]; omega
        have hdl : ds.length ≤ k.toNat := by
          have := congrArg List.length h2
          rw [List.length_map, List.length_take] at this
          omega
        exact ⟨ds, S', y6, y7, y8, y9, by rw [h2]; exact hn.nd.sublist (List.take_sublist _ _), h3, by omega, h4.mono (by omega), h5, h6⟩
      · exact hh.elim
    · obtain ⟨ds, S', y6, y7, y8, y9, h2, h3, h4, h5, rfl⟩ := hi
      obtain ⟨x, hx, rfl⟩ := get_strL ei
      rw [Nat.zero_add] at h2 h4 ⊢
      rw [List.getElem?_take] at hx
      have hx' : ns[i]? = some x := by
        by_cases hik : i < k.toNat
        · rw [if_pos hik] at hx; exact hx
        · rw [if_neg hik] at hx; cases hx
      have hil : i < ns.length := (List.getElem?_eq_some_iff.mp hx').1
      have hil' : i < 18 := by have := hn.l; omega
      have hxm := List.mem_of_getElem? hx'
      have hxn : x ∉ ds.map (·.n) := by
        rw [h2]
        intro z
        obtain ⟨j, hj, ej⟩ := List.mem_iff_getElem.mp z
        rw [List.length_take] at hj
        have hji : j < i := by omega
        have e3 : ns[j]? = some x := by
          rw [List.getElem_take] at ej
          rw [List.getElem?_eq_getElem (by omega), ej]
        have := (List.getElem?_inj hil hn.nd).mp (hx'.trans e3.symm)
        omega
      have hdl : ds.length = i := by
        have := congrArg List.length h2
        rw [List.length_map, List.length_take] at this
        omega
      rw [gFz_lt, if_pos (by simp), oE_some]
      refine wE_mono (sort_turn (S := S') (ns := ns) (n := n) (x7 := y7) (x8 := y8) (x9 := y9) h4 (by omega) hr0 hr1 hg0 hg1 (hn.ok x hxm) hxn (by omega)) fun fl c ⟨hf, d, S4, w7, w8, w9, q1, q2, q3, q4⟩ => ?_
      subst hf
      refine ⟨ds ++ [d], S4, _, w7, w8, w9, ?_, fun d' hd' => ?_, q3.mono (by push_cast; omega), fun _ z => (by cases z), q4⟩
      · rw [take_succ_get hx', List.map_append, h2]
        simp [q1]
      · rcases List.mem_append.mp hd' with hd' | hd'
        · exact h3 d' hd'
        · rw [List.mem_singleton.mp hd']; exact q2
  rintro _ ⟨ds, S2, y6, y7, y8, y9, hnd, hok, hdl, p2, hy6, rfl⟩
  have es : g1 gSorted [.lst (strL rs)] = some (.nw (.lst (strL (sortS rs)))) := sorted_strs
  have ek := gSortK_fkv (ds := ds) (by omega)
  have hpm := sortDr_perm ds
  simp only [wE_bCons, wE_sIf, wE_bNil, wE_mBool, wE_mTruth, wE_tmAnd, wE_tmOr, wE_tmNot, wE_mBin, wE_mUn, wE_m1, wE_mVar, wE_m2, wE_mC, wE_sSet, wE_sSetH, wE_sPut, wE_sRet, wE_sDrop, wE_sUnp, wE_sPend, mPend_nil, mPend_cons, pend_fz, pend_nwl, pend_loc, putL_nil, putL_fz, putL_nw, fzL_nil, fzL_cons, wE_mLst, wE_mTup, wE_mCB, wE_mCall, wE_mMut, wE_mSeq, wE_mRng1, wE_for, wE_mDisp, wE_mPairs_nil, wE_mPairs_cons, wE_tmYes, wE_ok, wE_mIfE, wE_maCons, wE_maNil, views_cons, views_nil, vals_cons, vals_nil, Option.bind_some, Option.map_some, settle_fz, settle_loc, settle_nw, view_hdl, view_int, view_str, view_bl, view_lst, view_tup, view_ro, view_loc, view_nw, view_dct, oE_some, gCmpI_int, gAdd_int, gSub_int, toVal_fz, toVal_nw, toVal_loc, cont_hdl, cont_loc, putB_hdl, putB_loc, putH_nw, putR_fz, putR_nwl, putR_nwt, putR_nwd, putR_loc, leaveR_fz, leaveR_nw, leaveR_loc, List.getElem?_cons_zero, List.getElem?_cons_succ, List.length_cons, List.length_nil, List.set_cons_zero, List.set_cons_succ, decide_true, decide_false, if_true, if_false, Bool.not_true, Bool.not_false, Bool.false_eq_true, true_and, and_true, Nat.reduceAdd, Nat.reduceLT, Nat.reduceLeDiff, Nat.zero_add, reduceIte, and_self, eq_self, wE_sSetF, wE_sFrz, frzS_nil, frzS_cons, wE_mSl, wE_pNo, wE_pSome, wE_mM1, wE_mAnd, wE_mOr, wE_mChain, wE_mDct, truthD_bl, gNeg_int, view_exc, gFz_lt, gT_tup, gC_cons, gN_nil, tyD_lst, oE_none, es]
  refine comp_ok (fun _ => true) (fun z => match z with | .str x => (getK (fkv ds) (.inr x)).getD .non | _ => .non) [.fz (.hdl 0), .fz (.lst (strL rs)), .fz (.lst (strL gs)), .fz (.int n), .fz (.lst (strL ns)), .ow (.dct (fkv ds)), y6, y7, y8, y9] S2 y6 (strL ((sortDr ds).map (·.n))) ?_ rfl hy6 ?_ ?_ ?_ ?_
  · simp only [wE_bCons, wE_sIf, wE_bNil, wE_mBool, wE_mTruth, wE_tmAnd, wE_tmOr, wE_tmNot, wE_mBin, wE_mUn, wE_m1, wE_mVar, wE_m2, wE_mC, wE_sSet, wE_sSetH, wE_sPut, wE_sRet, wE_sDrop, wE_sUnp, wE_sPend, mPend_nil, mPend_cons, pend_fz, pend_nwl, pend_loc, putL_nil, putL_fz, putL_nw, fzL_nil, fzL_cons, wE_mLst, wE_mTup, wE_mCB, wE_mCall, wE_mMut, wE_mSeq, wE_mRng1, wE_for, wE_mDisp, wE_mPairs_nil, wE_mPairs_cons, wE_tmYes, wE_ok, wE_mIfE, wE_maCons, wE_maNil, views_cons, views_nil, vals_cons, vals_nil, Option.bind_some, Option.map_some, settle_fz, settle_loc, settle_nw, view_hdl, view_int, view_str, view_bl, view_lst, view_tup, view_ro, view_loc, view_nw, view_dct, oE_some, gCmpI_int, gAdd_int, gSub_int, toVal_fz, toVal_nw, toVal_loc, cont_hdl, cont_loc, putB_hdl, putB_loc, putH_nw, putR_fz, putR_nwl, putR_nwt, putR_nwd, putR_loc, leaveR_fz, leaveR_nw, leaveR_loc, List.getElem?_cons_zero, List.getElem?_cons_succ, List.length_cons, List.length_nil, List.set_cons_zero, List.set_cons_succ, decide_true, decide_false, if_true, if_false, Bool.not_true, Bool.not_false, Bool.false_eq_true, true_and, and_true, Nat.reduceAdd, Nat.reduceLT, Nat.reduceLeDiff, Nat.zero_add, reduceIte, and_self, eq_self, wE_sSetF, wE_sFrz, frzS_nil, frzS_cons, wE_mSl, wE_pNo, wE_pSome, wE_mM1, wE_mAnd, wE_mOr, wE_mChain, wE_mDct, truthD_bl, gNeg_int, view_exc, gFz_lt, gT_tup, gC_cons, gN_nil, tyD_lst, oE_none, ek]
  · rw [strL_len, List.length_map, hpm.length_eq]; exact big (by omega)
  · intro d _
    exact ⟨rfl, rfl⟩
  · intro z hz _
    obtain ⟨x, hx, rfl⟩ := mem_strL.mp hz
    obtain ⟨d, hd, rfl⟩ := List.mem_map.mp hx
    have eg := fkv_get hnd (hpm.subset hd)
    have ei : gIx (.dct (fkv ds)) (.str d.n) = some (.fz (doorD d)) := by
      show (getK (fkv ds) (.inr d.n)).map Rv.fz = _
      rw [eg]; rfl
    simp only [wE_bCons, wE_sIf, wE_bNil, wE_mBool, wE_mTruth, wE_tmAnd, wE_tmOr, wE_tmNot, wE_mBin, wE_mUn, wE_m1, wE_mVar, wE_m2, wE_mC, wE_sSet, wE_sSetH, wE_sPut, wE_sRet, wE_sDrop, wE_sUnp, wE_sPend, mPend_nil, mPend_cons, pend_fz, pend_nwl, pend_loc, putL_nil, putL_fz, putL_nw, fzL_nil, fzL_cons, wE_mLst, wE_mTup, wE_mCB, wE_mCall, wE_mMut, wE_mSeq, wE_mRng1, wE_for, wE_mDisp, wE_mPairs_nil, wE_mPairs_cons, wE_tmYes, wE_ok, wE_mIfE, wE_maCons, wE_maNil, views_cons, views_nil, vals_cons, vals_nil, Option.bind_some, Option.map_some, settle_fz, settle_loc, settle_nw, view_hdl, view_int, view_str, view_bl, view_lst, view_tup, view_ro, view_loc, view_nw, view_dct, oE_some, gCmpI_int, gAdd_int, gSub_int, toVal_fz, toVal_nw, toVal_loc, cont_hdl, cont_loc, putB_hdl, putB_loc, putH_nw, putR_fz, putR_nwl, putR_nwt, putR_nwd, putR_loc, leaveR_fz, leaveR_nw, leaveR_loc, List.getElem?_cons_zero, List.getElem?_cons_succ, List.length_cons, List.length_nil, List.set_cons_zero, List.set_cons_succ, decide_true, decide_false, if_true, if_false, Bool.not_true, Bool.not_false, Bool.false_eq_true, true_and, and_true, Nat.reduceAdd, Nat.reduceLT, Nat.reduceLeDiff, Nat.zero_add, reduceIte, and_self, eq_self, wE_sSetF, wE_sFrz, frzS_nil, frzS_cons, wE_mSl, wE_pNo, wE_pSome, wE_mM1, wE_mAnd, wE_mOr, wE_mChain, wE_mDct, truthD_bl, gNeg_int, view_exc, gFz_lt, gT_tup, gC_cons, gN_nil, tyD_lst, oE_none, ei, eg, Option.getD_some]
  · rw [filter_true]
    have ef : (strL ((sortDr ds).map (·.n))).map (fun z => match z with | .str x => (getK (fkv ds) (.inr x)).getD .non | _ => .non) = (sortDr ds).map doorD := by
      unfold strL
      rw [List.map_map, List.map_map]
      refine List.map_congr_left fun d hd => ?_
      show (getK (fkv ds) (.inr d.n)).getD .non = doorD d
      rw [fkv_get hnd (hpm.subset hd)]; rfl
    rw [ef]
    simp only [wE_bCons, wE_sIf, wE_bNil, wE_mBool, wE_mTruth, wE_tmAnd, wE_tmOr, wE_tmNot, wE_mBin, wE_mUn, wE_m1, wE_mVar, wE_m2, wE_mC, wE_sSet, wE_sSetH, wE_sPut, wE_sRet, wE_sDrop, wE_sUnp, wE_sPend, mPend_nil, mPend_cons, pend_fz, pend_nwl, pend_loc, putL_nil, putL_fz, putL_nw, fzL_nil, fzL_cons, wE_mLst, wE_mTup, wE_mCB, wE_mCall, wE_mMut, wE_mSeq, wE_mRng1, wE_for, wE_mDisp, wE_mPairs_nil, wE_mPairs_cons, wE_tmYes, wE_ok, wE_mIfE, wE_maCons, wE_maNil, views_cons, views_nil, vals_cons, vals_nil, Option.bind_some, Option.map_some, settle_fz, settle_loc, settle_nw, view_hdl, view_int, view_str, view_bl, view_lst, view_tup, view_ro, view_loc, view_nw, view_dct, oE_some, gCmpI_int, gAdd_int, gSub_int, toVal_fz, toVal_nw, toVal_loc, cont_hdl, cont_loc, putB_hdl, putB_loc, putH_nw, putR_fz, putR_nwl, putR_nwt, putR_nwd, putR_loc, leaveR_fz, leaveR_nw, leaveR_loc, List.getElem?_cons_zero, List.getElem?_cons_succ, List.length_cons, List.length_nil, List.set_cons_zero, List.set_cons_succ, decide_true, decide_false, if_true, if_false, Bool.not_true, Bool.not_false, Bool.false_eq_true, true_and, and_true, Nat.reduceAdd, Nat.reduceLT, Nat.reduceLeDiff, Nat.zero_add, reduceIte, and_self, eq_self, wE_sSetF, wE_sFrz, frzS_nil, frzS_cons, wE_mSl, wE_pNo, wE_pSome, wE_mM1, wE_mAnd, wE_mOr, wE_mChain, wE_mDct, truthD_bl, gNeg_int, view_exc, gFz_lt, gT_tup, gC_cons, gN_nil, tyD_lst, oE_none, merge_sD]
    refine h ⟨sortS rs, sortDr ds⟩ _ ⟨rfl, ?_, ?_, fun d hd => hok d (hpm.subset hd), by rw [hpm.length_eq]; exact hdl⟩ p2
    · show ((sortDr ds).map (·.n)).Pairwise _
      rw [← sortDr_names]
      exact sortS_pw _
    · exact ((hpm.map (·.n)).nodup_iff).mpr hnd
theorem ixN_last {n : Nat} : ixN (n + 1) (-1) = some n := by
  unfold ixN
  have h2 : (-1 + ((n + 1 : Nat) : Int)).toNat = n := by omega
  simp only [h2]
  simp
  omega
theorem gIx_last {xs : List D} {y : D} : gIx (.lst (xs ++ [y])) (.int (-1)) = some (.fz y) := by
  have e : (xs ++ [y]).length = xs.length + 1 := by simp
  rw [gIx_lst]
  unfold atI
  rw [e, ixN_last]
  simp
theorem gIx_head {xs : List D} {y : D} : gIx (.lst (y :: xs)) (.int 0) = some (.fz y) := by
  show (atI (y :: xs) ((0 : Nat) : Int)).map Rv.fz = _
  rw [atI_natE]; rfl
/-! ### a street by draws -/
structure Stt where
  l : Srt
  f : Int
  o : List Srt
  r : Srt
def tD (t : Stt) : D := .dct [(.inr "left", sD t.l), (.inr "first", .int t.f), (.inr "odd", .lst (t.o.map sD)), (.inr "right", sD t.r)]
structure GrOk (pool : List Str) (R : Nat) (rs : List Str) : Prop where
  h0 : 0 < rs.length
  h1 : rs.length ≤ R
  nd : rs.Nodup
  sub : ∀ x ∈ rs, x ∈ pool
structure SorOk (pool : List Str) (R N : Nat) (s : Srt) : Prop where
  ex : ∃ rs, GrOk pool R rs ∧ SrtOk s rs pool N
structure StOk (t : Stt) (pool : List Str) (R N O : Nat) : Prop where
  pl : Names pool (R + 2)
  l : SorOk pool R N t.l
  r : SorOk pool R N t.r
  o : ∀ s ∈ t.o, SorOk pool R N s
  f0 : -50 ≤ t.f
  f1 : t.f ≤ 50
  len : t.o.length ≤ O
def grL (gl : List (List Str)) : List D := gl.map fun rs => D.lst (strL rs)
theorem grL_len {gl : List (List Str)} : (grL gl).length = gl.length := by simp [grL]
theorem kx_s : ¬ ("left" : Str) = "first" ∧ ¬ ("left" : Str) = "odd" ∧ ¬ ("left" : Str) = "right" ∧ ¬ ("first" : Str) = "odd" ∧ ¬ ("first" : Str) = "right" ∧ ¬ ("odd" : Str) = "right" := by decide +kernel
theorem merge_tD {a b c d : D} : mergeD [((.inr "left" : Key), a), (.inr "first", b), (.inr "odd", c), (.inr "right", d)] [] = [((.inr "left" : Key), a), (.inr "first", b), (.inr "odd", c), (.inr "right", d)] := by
  obtain ⟨h1, h2, h3, h4, h5, h6⟩ := kx_s
  simp [mergeD, setK, h1, h2, h3, h4, h5, h6]
theorem cutL_mid {α : Type} {x y : α} {xs : List α} : cutL (x :: (xs ++ [y])) (some 1) (some (-1)) = xs := by
  have e1 : (x :: (xs ++ [y])).length = xs.length + 2 := by simp
  have e2 : HT.sIx (xs.length + 2) 0 (some 1) = 1 := by unfold HT.sIx; simp
  have e3 : ∀ d, HT.sIx (xs.length + 2) d (some (-1)) = xs.length + 1 := fun d => by unfold HT.sIx; simp; omega
  unfold cutL
  rw [e1, e2, e3]
  simp
theorem two_ends {α : Type} {xs : List α} (h : 2 ≤ xs.length) : ∃ x ys y, xs = x :: (ys ++ [y]) := by
  cases xs with
  | nil => simp at h
  | cons x xs =>
    have hne : xs ≠ [] := by rintro rfl; simp at h
    exact ⟨x, xs.dropLast, xs.getLast hne, by rw [List.dropLast_concat_getLast]⟩
theorem street_bw {S0 S : List D} {b r n o : Int} {R N O : Nat} {Q : Rv → Cf → Prop} (er : r = R) (en : n = N) (eo : o = O) (hR0 : 0 < R) (hR : R ≤ 16) (hN : N ≤ 17) (hO : O ≤ 20) (p : Pn S0 S b) (hb : b < 2 ^ 34)
    (h : ∀ t pool c, StOk t pool R N O → Pn S0 c.S (b + 10000) → Q (.nw (tD t)) c) : wE (m__law_street [.hdl 0, .int r, .int n, .int o] S) Q := by
  apply wE_runF
  show wE (b__law_street ⟨[.fz (.hdl 0), .fz (.int r), .fz (.int n), .fz (.int o), .un, .un, .un, .un, .un, .un], S⟩) _
  unfold b__law_street
  have z0 : 0 ≤ sizeLine := Nat.zero_le _
  have z2 : 2 ≤ sizeLine := big64 (by decide)
  refine wE_seqR (P := fun c => ∃ (pool : List Str) (S' : List D), Names pool (R + 2) ∧ Pn S0 S' (b + 30) ∧ c = ⟨[.fz (.hdl 0), .fz (.int r), .fz (.int n), .fz (.int o), .fz (.lst (strL pool)), .un, .un, .un, .un, .un], S'⟩) ?_ ?_
  · simp only [wE_bCons, wE_sIf, wE_bNil, wE_mBool, wE_mTruth, wE_tmAnd, wE_tmOr, wE_tmNot, wE_mBin, wE_mUn, wE_m1, wE_mVar, wE_m2, wE_mC, wE_sSet, wE_sSetH, wE_sPut, wE_sRet, wE_sDrop, wE_sUnp, wE_sPend, mPend_nil, mPend_cons, pend_fz, pend_nwl, pend_loc, putL_nil, putL_fz, putL_nw, fzL_nil, fzL_cons, wE_mLst, wE_mTup, wE_mCB, wE_mCall, wE_mMut, wE_mSeq, wE_mRng1, wE_for, wE_mDisp, wE_mPairs_nil, wE_mPairs_cons, wE_tmYes, wE_ok, wE_mIfE, wE_maCons, wE_maNil, views_cons, views_nil, vals_cons, vals_nil, Option.bind_some, Option.map_some, settle_fz, settle_loc, settle_nw, view_hdl, view_int, view_str, view_bl, view_lst, view_tup, view_ro, view_loc, view_nw, view_dct, oE_some, gCmpI_int, gAdd_int, gSub_int, toVal_fz, toVal_nw, toVal_loc, cont_hdl, cont_loc, putB_hdl, putB_loc, putH_nw, putR_fz, putR_nwl, putR_nwt, putR_nwd, putR_loc, leaveR_fz, leaveR_nw, leaveR_loc, List.getElem?_cons_zero, List.getElem?_cons_succ, List.length_cons, List.length_nil, List.set_cons_zero, List.set_cons_succ, decide_true, decide_false, if_true, if_false, Bool.not_true, Bool.not_false, Bool.false_eq_true, true_and, and_true, Nat.reduceAdd, Nat.reduceLT, Nat.reduceLeDiff, Nat.zero_add, reduceIte, and_self, eq_self, wE_sSetF, wE_sFrz, frzS_nil, frzS_cons, wE_mSl, wE_pNo, wE_pSome, wE_mM1, wE_mAnd, wE_mOr, wE_mChain, wE_mDct, truthD_bl, gNeg_int, view_exc, gFz_lt, gT_tup, gC_cons, gN_nil, tyD_lst, oE_none]
    refine names_bw (n := 18) rfl (by decide) (by decide) p (by omega) fun ns c hn p1 => ?_
    have e1 : gSl (.lst (strL ns)) none (some (r + 2)) = some (.nw (.lst (strL (ns.take (R + 2))))) := by
      rw [gSl_lst, cutL_to (by omega), strL_take]
      have : (r + 2).toNat = R + 2 := by omega
      rw [this]
    simp only [wE_bCons, wE_sIf, wE_bNil, wE_mBool, wE_mTruth, wE_tmAnd, wE_tmOr, wE_tmNot, wE_mBin, wE_mUn, wE_m1, wE_mVar, wE_m2, wE_mC, wE_sSet, wE_sSetH, wE_sPut, wE_sRet, wE_sDrop, wE_sUnp, wE_sPend, mPend_nil, mPend_cons, pend_fz, pend_nwl, pend_loc, putL_nil, putL_fz, putL_nw, fzL_nil, fzL_cons, wE_mLst, wE_mTup, wE_mCB, wE_mCall, wE_mMut, wE_mSeq, wE_mRng1, wE_for, wE_mDisp, wE_mPairs_nil, wE_mPairs_cons, wE_tmYes, wE_ok, wE_mIfE, wE_maCons, wE_maNil, views_cons, views_nil, vals_cons, vals_nil, Option.bind_some, Option.map_some, settle_fz, settle_loc, settle_nw, view_hdl, view_int, view_str, view_bl, view_lst, view_tup, view_ro, view_loc, view_nw, view_dct, oE_some, gCmpI_int, gAdd_int, gSub_int, toVal_fz, toVal_nw, toVal_loc, cont_hdl, cont_loc, putB_hdl, putB_loc, putH_nw, putR_fz, putR_nwl, putR_nwt, putR_nwd, putR_loc, leaveR_fz, leaveR_nw, leaveR_loc, List.getElem?_cons_zero, List.getElem?_cons_succ, List.length_cons, List.length_nil, List.set_cons_zero, List.set_cons_succ, decide_true, decide_false, if_true, if_false, Bool.not_true, Bool.not_false, Bool.false_eq_true, true_and, and_true, Nat.reduceAdd, Nat.reduceLT, Nat.reduceLeDiff, Nat.zero_add, reduceIte, and_self, eq_self, wE_sSetF, wE_sFrz, frzS_nil, frzS_cons, wE_mSl, wE_pNo, wE_pSome, wE_mM1, wE_mAnd, wE_mOr, wE_mChain, wE_mDct, truthD_bl, gNeg_int, view_exc, gFz_lt, gT_tup, gC_cons, gN_nil, tyD_lst, oE_none, e1]
    exact ⟨ns.take (R + 2), c.S, ⟨by rw [List.length_take, hn.l]; omega, fun x hx => hn.ok x (List.mem_of_mem_take hx), hn.nd.sublist (List.take_sublist _ _)⟩, p1, rfl⟩
  rintro _ ⟨pool, S1, hp, p1, rfl⟩
  have hpl := hp.l
  refine wE_seqR (P := fun c => c = ⟨[.fz (.hdl 0), .fz (.int r), .fz (.int n), .fz (.int o), .fz (.lst (strL pool)), .ow (.lst (grL [])), .un, .un, .un, .un], S1⟩) ?_ ?_
  · simp only [wE_bCons, wE_sIf, wE_bNil, wE_mBool, wE_mTruth, wE_tmAnd, wE_tmOr, wE_tmNot, wE_mBin, wE_mUn, wE_m1, wE_mVar, wE_m2, wE_mC, wE_sSet, wE_sSetH, wE_sPut, wE_sRet, wE_sDrop, wE_sUnp, wE_sPend, mPend_nil, mPend_cons, pend_fz, pend_nwl, pend_loc, putL_nil, putL_fz, putL_nw, fzL_nil, fzL_cons, wE_mLst, wE_mTup, wE_mCB, wE_mCall, wE_mMut, wE_mSeq, wE_mRng1, wE_for, wE_mDisp, wE_mPairs_nil, wE_mPairs_cons, wE_tmYes, wE_ok, wE_mIfE, wE_maCons, wE_maNil, views_cons, views_nil, vals_cons, vals_nil, Option.bind_some, Option.map_some, settle_fz, settle_loc, settle_nw, view_hdl, view_int, view_str, view_bl, view_lst, view_tup, view_ro, view_loc, view_nw, view_dct, oE_some, gCmpI_int, gAdd_int, gSub_int, toVal_fz, toVal_nw, toVal_loc, cont_hdl, cont_loc, putB_hdl, putB_loc, putH_nw, putR_fz, putR_nwl, putR_nwt, putR_nwd, putR_loc, leaveR_fz, leaveR_nw, leaveR_loc, List.getElem?_cons_zero, List.getElem?_cons_succ, List.length_cons, List.length_nil, List.set_cons_zero, List.set_cons_succ, decide_true, decide_false, if_true, if_false, Bool.not_true, Bool.not_false, Bool.false_eq_true, true_and, and_true, Nat.reduceAdd, Nat.reduceLT, Nat.reduceLeDiff, Nat.zero_add, reduceIte, and_self, eq_self, wE_sSetF, wE_sFrz, frzS_nil, frzS_cons, wE_mSl, wE_pNo, wE_pSome, wE_mM1, wE_mAnd, wE_mOr, wE_mChain, wE_mDct, truthD_bl, gNeg_int, view_exc, gFz_lt, gT_tup, gC_cons, gN_nil, tyD_lst, oE_none, z0]
    rfl
  intro c0 hc0
  refine wE_seqR (P := fun c => ∃ (gl : List (List Str)) (S' : List D) (y6 : Sl), (∀ rs ∈ gl, GrOk pool R rs) ∧ 2 ≤ gl.length ∧ gl.length ≤ O + 2 ∧ Pn S0 S' (b + 1000) ∧ c = ⟨[.fz (.hdl 0), .fz (.int r), .fz (.int n), .fz (.int o), .fz (.lst (strL pool)), .ow (.lst (grL gl)), y6, .un, .un, .un], S'⟩) ?_ ?_
  · rw [wE_for, wE_mRng1]
    subst hc0
    simp only [wE_bCons, wE_sIf, wE_bNil, wE_mBool, wE_mTruth, wE_tmAnd, wE_tmOr, wE_tmNot, wE_mBin, wE_mUn, wE_m1, wE_mVar, wE_m2, wE_mC, wE_sSet, wE_sSetH, wE_sPut, wE_sRet, wE_sDrop, wE_sUnp, wE_sPend, mPend_nil, mPend_cons, pend_fz, pend_nwl, pend_loc, putL_nil, putL_fz, putL_nw, fzL_nil, fzL_cons, wE_mLst, wE_mTup, wE_mCB, wE_mCall, wE_mMut, wE_mSeq, wE_mRng1, wE_for, wE_mDisp, wE_mPairs_nil, wE_mPairs_cons, wE_tmYes, wE_ok, wE_mIfE, wE_maCons, wE_maNil, views_cons, views_nil, vals_cons, vals_nil, Option.bind_some, Option.map_some, settle_fz, settle_loc, settle_nw, view_hdl, view_int, view_str, view_bl, view_lst, view_tup, view_ro, view_loc, view_nw, view_dct, oE_some, gCmpI_int, gAdd_int, gSub_int, toVal_fz, toVal_nw, toVal_loc, cont_hdl, cont_loc, putB_hdl, putB_loc, putH_nw, putR_fz, putR_nwl, putR_nwt, putR_nwd, putR_loc, leaveR_fz, leaveR_nw, leaveR_loc, List.getElem?_cons_zero, List.getElem?_cons_succ, List.length_cons, List.length_nil, List.set_cons_zero, List.set_cons_succ, decide_true, decide_false, if_true, if_false, Bool.not_true, Bool.not_false, Bool.false_eq_true, true_and, and_true, Nat.reduceAdd, Nat.reduceLT, Nat.reduceLeDiff, Nat.zero_add, reduceIte, and_self, eq_self, wE_sSetF, wE_sFrz, frzS_nil, frzS_cons, wE_mSl, wE_pNo, wE_pSome, wE_mM1, wE_mAnd, wE_mOr, wE_mChain, wE_mDct, truthD_bl, gNeg_int, view_exc, gFz_lt, gT_tup, gC_cons, gN_nil, tyD_lst, oE_none]
    refine draw_bw p1 (by omega) (by omega) (by omega) fun k c1 k0 k1 p2 => ?_
    simp only [wE_bCons, wE_sIf, wE_bNil, wE_mBool, wE_mTruth, wE_tmAnd, wE_tmOr, wE_tmNot, wE_mBin, wE_mUn, wE_m1, wE_mVar, wE_m2, wE_mC, wE_sSet, wE_sSetH, wE_sPut, wE_sRet, wE_sDrop, wE_sUnp, wE_sPend, mPend_nil, mPend_cons, pend_fz, pend_nwl, pend_loc, putL_nil, putL_fz, putL_nw, fzL_nil, fzL_cons, wE_mLst, wE_mTup, wE_mCB, wE_mCall, wE_mMut, wE_mSeq, wE_mRng1, wE_for, wE_mDisp, wE_mPairs_nil, wE_mPairs_cons, wE_tmYes, wE_ok, wE_mIfE, wE_maCons, wE_maNil, views_cons, views_nil, vals_cons, vals_nil, Option.bind_some, Option.map_some, settle_fz, settle_loc, settle_nw, view_hdl, view_int, view_str, view_bl, view_lst, view_tup, view_ro, view_loc, view_nw, view_dct, oE_some, gCmpI_int, gAdd_int, gSub_int, toVal_fz, toVal_nw, toVal_loc, cont_hdl, cont_loc, putB_hdl, putB_loc, putH_nw, putR_fz, putR_nwl, putR_nwt, putR_nwd, putR_loc, leaveR_fz, leaveR_nw, leaveR_loc, List.getElem?_cons_zero, List.getElem?_cons_succ, List.length_cons, List.length_nil, List.set_cons_zero, List.set_cons_succ, decide_true, decide_false, if_true, if_false, Bool.not_true, Bool.not_false, Bool.false_eq_true, true_and, and_true, Nat.reduceAdd, Nat.reduceLT, Nat.reduceLeDiff, Nat.zero_add, reduceIte, and_self, eq_self, wE_sSetF, wE_sFrz, frzS_nil, frzS_cons, wE_mSl, wE_pNo, wE_pSome, wE_mM1, wE_mAnd, wE_mOr, wE_mChain, wE_mDct, truthD_bl, gNeg_int, view_exc, gFz_lt, gT_tup, gC_cons, gN_nil, tyD_lst, oE_none]
    refine ⟨⟨by omega, by omega⟩, ?_⟩
    have key := wE_for_inv (g := gFz 6) (body := (sDrop (mMut "list" gAppend (mVar 5) (maCons (mSl (mCall 2 m__law_shuffled (maCons (mVar 0) (maCons (mVar 4) maNil))) pNo (pSome (mBin gAdd (mC (.int 1)) (mCall 2 m__law_draw (maCons (mVar 0) (maCons (mVar 1) maNil)))))) maNil)))) (R := fun _ _ => False)
      (fun i c => ∃ (gl : List (List Str)) (S' : List D) (y6 : Sl), (∀ rs ∈ gl, GrOk pool R rs) ∧ gl.length = i ∧ Pn S0 S' (b + 31 + 20 * i) ∧ c = ⟨[.fz (.hdl 0), .fz (.int r), .fz (.int n), .fz (.int o), .fz (.lst (strL pool)), .ow (.lst (grL gl)), y6, .un, .un, .un], S'⟩)
      (ds := rangeD 0 (2 + k).toNat) (k := 0) (c := ⟨[.fz (.hdl 0), .fz (.int r), .fz (.int n), .fz (.int o), .fz (.lst (strL pool)), .ow (.lst (grL [])), .un, .un, .un, .un], c1.S⟩) (fun i d c' ei hi => ?_) ⟨[], c1.S, .un, by simp, rfl, p2.mono (by omega), rfl⟩
    · refine wE_mono key fun fl c' hh => ?_
      rcases hh with ⟨h1, gl, S', y6, h2, h3, h4, h5⟩ | ⟨_, _, hh⟩
      · subst h1
        rw [rangeD_len, Nat.zero_add] at h3 h4
        exact ⟨gl, S', y6, h2, by omega, by omega, h4.mono (by omega), h5⟩
      · exact hh.elim
    · obtain ⟨hlt, rfl⟩ := rangeD_get ei
      obtain ⟨gl, S', y6, h2, h3, h4, rfl⟩ := hi
      rw [Nat.zero_add] at h3 h4 ⊢
      rw [gFz_lt, if_pos (by simp), oE_some]
      simp only [wE_bCons, wE_sIf, wE_bNil, wE_mBool, wE_mTruth, wE_tmAnd, wE_tmOr, wE_tmNot, wE_mBin, wE_mUn, wE_m1, wE_mVar, wE_m2, wE_mC, wE_sSet, wE_sSetH, wE_sPut, wE_sRet, wE_sDrop, wE_sUnp, wE_sPend, mPend_nil, mPend_cons, pend_fz, pend_nwl, pend_loc, putL_nil, putL_fz, putL_nw, fzL_nil, fzL_cons, wE_mLst, wE_mTup, wE_mCB, wE_mCall, wE_mMut, wE_mSeq, wE_mRng1, wE_for, wE_mDisp, wE_mPairs_nil, wE_mPairs_cons, wE_tmYes, wE_ok, wE_mIfE, wE_maCons, wE_maNil, views_cons, views_nil, vals_cons, vals_nil, Option.bind_some, Option.map_some, settle_fz, settle_loc, settle_nw, view_hdl, view_int, view_str, view_bl, view_lst, view_tup, view_ro, view_loc, view_nw, view_dct, oE_some, gCmpI_int, gAdd_int, gSub_int, toVal_fz, toVal_nw, toVal_loc, cont_hdl, cont_loc, putB_hdl, putB_loc, putH_nw, putR_fz, putR_nwl, putR_nwt, putR_nwd, putR_loc, leaveR_fz, leaveR_nw, leaveR_loc, List.getElem?_cons_zero, List.getElem?_cons_succ, List.length_cons, List.length_nil, List.set_cons_zero, List.set_cons_succ, decide_true, decide_false, if_true, if_false, Bool.not_true, Bool.not_false, Bool.false_eq_true, true_and, and_true, Nat.reduceAdd, Nat.reduceLT, Nat.reduceLeDiff, Nat.zero_add, reduceIte, and_self, eq_self, wE_sSetF, wE_sFrz, frzS_nil, frzS_cons, wE_mSl, wE_pNo, wE_pSome, wE_mM1, wE_mAnd, wE_mOr, wE_mChain, wE_mDct, truthD_bl, gNeg_int, view_exc, gFz_lt, gT_tup, gC_cons, gN_nil, tyD_lst, oE_none]
      refine shuf_names hp.ok h4 (by omega) (by omega) fun ys c2 hys p3 => ?_
      simp only [wE_bCons, wE_sIf, wE_bNil, wE_mBool, wE_mTruth, wE_tmAnd, wE_tmOr, wE_tmNot, wE_mBin, wE_mUn, wE_m1, wE_mVar, wE_m2, wE_mC, wE_sSet, wE_sSetH, wE_sPut, wE_sRet, wE_sDrop, wE_sUnp, wE_sPend, mPend_nil, mPend_cons, pend_fz, pend_nwl, pend_loc, putL_nil, putL_fz, putL_nw, fzL_nil, fzL_cons, wE_mLst, wE_mTup, wE_mCB, wE_mCall, wE_mMut, wE_mSeq, wE_mRng1, wE_for, wE_mDisp, wE_mPairs_nil, wE_mPairs_cons, wE_tmYes, wE_ok, wE_mIfE, wE_maCons, wE_maNil, views_cons, views_nil, vals_cons, vals_nil, Option.bind_some, Option.map_some, settle_fz, settle_loc, settle_nw, view_hdl, view_int, view_str, view_bl, view_lst, view_tup, view_ro, view_loc, view_nw, view_dct, oE_some, gCmpI_int, gAdd_int, gSub_int, toVal_fz, toVal_nw, toVal_loc, cont_hdl, cont_loc, putB_hdl, putB_loc, putH_nw, putR_fz, putR_nwl, putR_nwt, putR_nwd, putR_loc, leaveR_fz, leaveR_nw, leaveR_loc, List.getElem?_cons_zero, List.getElem?_cons_succ, List.length_cons, List.length_nil, List.set_cons_zero, List.set_cons_succ, decide_true, decide_false, if_true, if_false, Bool.not_true, Bool.not_false, Bool.false_eq_true, true_and, and_true, Nat.reduceAdd, Nat.reduceLT, Nat.reduceLeDiff, Nat.zero_add, reduceIte, and_self, eq_self, wE_sSetF, wE_sFrz, frzS_nil, frzS_cons, wE_mSl, wE_pNo, wE_pSome, wE_mM1, wE_mAnd, wE_mOr, wE_mChain, wE_mDct, truthD_bl, gNeg_int, view_exc, gFz_lt, gT_tup, gC_cons, gN_nil, tyD_lst, oE_none]
      refine draw_bw p3 (by omega) (by omega) (by omega) fun j c3 j0 j1 p4 => ?_
      have e1 : gSl (.lst (strL ys)) none (some (1 + j)) = some (.nw (.lst (strL (ys.take (1 + j).toNat)))) := by rw [gSl_lst, cutL_to (by omega), strL_take]
      have e2 : gAppend (.lst (grL gl)) [.lst (strL (ys.take (1 + j).toNat))] = some (.lst (grL (gl ++ [ys.take (1 + j).toNat])), .non) := by
        rw [gAppend_ok (by rw [grL_len]; exact big (by omega))]
        simp [grL]
      simp only [wE_bCons, wE_sIf, wE_bNil, wE_mBool, wE_mTruth, wE_tmAnd, wE_tmOr, wE_tmNot, wE_mBin, wE_mUn, wE_m1, wE_mVar, wE_m2, wE_mC, wE_sSet, wE_sSetH, wE_sPut, wE_sRet, wE_sDrop, wE_sUnp, wE_sPend, mPend_nil, mPend_cons, pend_fz, pend_nwl, pend_loc, putL_nil, putL_fz, putL_nw, fzL_nil, fzL_cons, wE_mLst, wE_mTup, wE_mCB, wE_mCall, wE_mMut, wE_mSeq, wE_mRng1, wE_for, wE_mDisp, wE_mPairs_nil, wE_mPairs_cons, wE_tmYes, wE_ok, wE_mIfE, wE_maCons, wE_maNil, views_cons, views_nil, vals_cons, vals_nil, Option.bind_some, Option.map_some, settle_fz, settle_loc, settle_nw, view_hdl, view_int, view_str, view_bl, view_lst, view_tup, view_ro, view_loc, view_nw, view_dct, oE_some, gCmpI_int, gAdd_int, gSub_int, toVal_fz, toVal_nw, toVal_loc, cont_hdl, cont_loc, putB_hdl, putB_loc, putH_nw, putR_fz, putR_nwl, putR_nwt, putR_nwd, putR_loc, leaveR_fz, leaveR_nw, leaveR_loc, List.getElem?_cons_zero, List.getElem?_cons_succ, List.length_cons, List.length_nil, List.set_cons_zero, List.set_cons_succ, decide_true, decide_false, if_true, if_false, Bool.not_true, Bool.not_false, Bool.false_eq_true, true_and, and_true, Nat.reduceAdd, Nat.reduceLT, Nat.reduceLeDiff, Nat.zero_add, reduceIte, and_self, eq_self, wE_sSetF, wE_sFrz, frzS_nil, frzS_cons, wE_mSl, wE_pNo, wE_pSome, wE_mM1, wE_mAnd, wE_mOr, wE_mChain, wE_mDct, truthD_bl, gNeg_int, view_exc, gFz_lt, gT_tup, gC_cons, gN_nil, tyD_lst, oE_none, e1, e2]
      refine ⟨gl ++ [ys.take (1 + j).toNat], c3.S, _, fun rs hrs => ?_, by simp; omega, p4.mono (by push_cast; omega), rfl⟩
      rcases List.mem_append.mp hrs with hrs | hrs
      · exact h2 rs hrs
      · rw [List.mem_singleton.mp hrs]
        have hyl := hys.length_eq
        exact ⟨by rw [List.length_take]; omega, by rw [List.length_take]; omega, (hys.nodup_iff.mpr hp.nd).sublist (List.take_sublist _ _), fun x hx => hys.subset (List.mem_of_mem_take hx)⟩
  rintro _ ⟨gl, S2, y6, hgl, hg2, hgO, p2, rfl⟩
  refine wE_seqR (P := fun c => ∃ (gl : List (List Str)) (S' : List D), (∀ rs ∈ gl, GrOk pool R rs) ∧ 2 ≤ gl.length ∧ gl.length ≤ O + 2 ∧ Pn S0 S' (b + 1001) ∧ c = ⟨[.fz (.hdl 0), .fz (.int r), .fz (.int n), .fz (.int o), .fz (.lst (strL pool)), .ow (.lst (grL gl)), y6, .un, .un, .un], S'⟩) ?_ ?_
  · simp only [wE_bCons, wE_sIf, wE_bNil, wE_mBool, wE_mTruth, wE_tmAnd, wE_tmOr, wE_tmNot, wE_mBin, wE_mUn, wE_m1, wE_mVar, wE_m2, wE_mC, wE_sSet, wE_sSetH, wE_sPut, wE_sRet, wE_sDrop, wE_sUnp, wE_sPend, mPend_nil, mPend_cons, pend_fz, pend_nwl, pend_loc, putL_nil, putL_fz, putL_nw, fzL_nil, fzL_cons, wE_mLst, wE_mTup, wE_mCB, wE_mCall, wE_mMut, wE_mSeq, wE_mRng1, wE_for, wE_mDisp, wE_mPairs_nil, wE_mPairs_cons, wE_tmYes, wE_ok, wE_mIfE, wE_maCons, wE_maNil, views_cons, views_nil, vals_cons, vals_nil, Option.bind_some, Option.map_some, settle_fz, settle_loc, settle_nw, view_hdl, view_int, view_str, view_bl, view_lst, view_tup, view_ro, view_loc, view_nw, view_dct, oE_some, gCmpI_int, gAdd_int, gSub_int, toVal_fz, toVal_nw, toVal_loc, cont_hdl, cont_loc, putB_hdl, putB_loc, putH_nw, putR_fz, putR_nwl, putR_nwt, putR_nwd, putR_loc, leaveR_fz, leaveR_nw, leaveR_loc, List.getElem?_cons_zero, List.getElem?_cons_succ, List.length_cons, List.length_nil, List.set_cons_zero, List.set_cons_succ, decide_true, decide_false, if_true, if_false, Bool.not_true, Bool.not_false, Bool.false_eq_true, true_and, and_true, Nat.reduceAdd, Nat.reduceLT, Nat.reduceLeDiff, Nat.zero_add, reduceIte, and_self, eq_self, wE_sSetF, wE_sFrz, frzS_nil, frzS_cons, wE_mSl, wE_pNo, wE_pSome, wE_mM1, wE_mAnd, wE_mOr, wE_mChain, wE_mDct, truthD_bl, gNeg_int, view_exc, gFz_lt, gT_tup, gC_cons, gN_nil, tyD_lst, oE_none]
    refine draw_bw p2 (by omega) (by decide) (by decide) fun k c1 k0 k1 p3 => ?_
    simp only [wE_bCons, wE_sIf, wE_bNil, wE_mBool, wE_mTruth, wE_tmAnd, wE_tmOr, wE_tmNot, wE_mBin, wE_mUn, wE_m1, wE_mVar, wE_m2, wE_mC, wE_sSet, wE_sSetH, wE_sPut, wE_sRet, wE_sDrop, wE_sUnp, wE_sPend, mPend_nil, mPend_cons, pend_fz, pend_nwl, pend_loc, putL_nil, putL_fz, putL_nw, fzL_nil, fzL_cons, wE_mLst, wE_mTup, wE_mCB, wE_mCall, wE_mMut, wE_mSeq, wE_mRng1, wE_for, wE_mDisp, wE_mPairs_nil, wE_mPairs_cons, wE_tmYes, wE_ok, wE_mIfE, wE_maCons, wE_maNil, views_cons, views_nil, vals_cons, vals_nil, Option.bind_some, Option.map_some, settle_fz, settle_loc, settle_nw, view_hdl, view_int, view_str, view_bl, view_lst, view_tup, view_ro, view_loc, view_nw, view_dct, oE_some, gCmpI_int, gAdd_int, gSub_int, toVal_fz, toVal_nw, toVal_loc, cont_hdl, cont_loc, putB_hdl, putB_loc, putH_nw, putR_fz, putR_nwl, putR_nwt, putR_nwd, putR_loc, leaveR_fz, leaveR_nw, leaveR_loc, List.getElem?_cons_zero, List.getElem?_cons_succ, List.length_cons, List.length_nil, List.set_cons_zero, List.set_cons_succ, decide_true, decide_false, if_true, if_false, Bool.not_true, Bool.not_false, Bool.false_eq_true, true_and, and_true, Nat.reduceAdd, Nat.reduceLT, Nat.reduceLeDiff, Nat.zero_add, reduceIte, and_self, eq_self, wE_sSetF, wE_sFrz, frzS_nil, frzS_cons, wE_mSl, wE_pNo, wE_pSome, wE_mM1, wE_mAnd, wE_mOr, wE_mChain, wE_mDct, truthD_bl, gNeg_int, view_exc, gFz_lt, gT_tup, gC_cons, gN_nil, tyD_lst, oE_none, gEq_int]
    by_cases hk : k = 0
    · subst hk
      simp only [wE_bCons, wE_sIf, wE_bNil, wE_mBool, wE_mTruth, wE_tmAnd, wE_tmOr, wE_tmNot, wE_mBin, wE_mUn, wE_m1, wE_mVar, wE_m2, wE_mC, wE_sSet, wE_sSetH, wE_sPut, wE_sRet, wE_sDrop, wE_sUnp, wE_sPend, mPend_nil, mPend_cons, pend_fz, pend_nwl, pend_loc, putL_nil, putL_fz, putL_nw, fzL_nil, fzL_cons, wE_mLst, wE_mTup, wE_mCB, wE_mCall, wE_mMut, wE_mSeq, wE_mRng1, wE_for, wE_mDisp, wE_mPairs_nil, wE_mPairs_cons, wE_tmYes, wE_ok, wE_mIfE, wE_maCons, wE_maNil, views_cons, views_nil, vals_cons, vals_nil, Option.bind_some, Option.map_some, settle_fz, settle_loc, settle_nw, view_hdl, view_int, view_str, view_bl, view_lst, view_tup, view_ro, view_loc, view_nw, view_dct, oE_some, gCmpI_int, gAdd_int, gSub_int, toVal_fz, toVal_nw, toVal_loc, cont_hdl, cont_loc, putB_hdl, putB_loc, putH_nw, putR_fz, putR_nwl, putR_nwt, putR_nwd, putR_loc, leaveR_fz, leaveR_nw, leaveR_loc, List.getElem?_cons_zero, List.getElem?_cons_succ, List.length_cons, List.length_nil, List.set_cons_zero, List.set_cons_succ, decide_true, decide_false, if_true, if_false, Bool.not_true, Bool.not_false, Bool.false_eq_true, true_and, and_true, Nat.reduceAdd, Nat.reduceLT, Nat.reduceLeDiff, Nat.zero_add, reduceIte, and_self, eq_self, wE_sSetF, wE_sFrz, frzS_nil, frzS_cons, wE_mSl, wE_pNo, wE_pSome, wE_mM1, wE_mAnd, wE_mOr, wE_mChain, wE_mDct, truthD_bl, gNeg_int, view_exc, gFz_lt, gT_tup, gC_cons, gN_nil, tyD_lst, oE_none, beq_self_eq_true]
      obtain ⟨x, gl', rfl⟩ : ∃ x gl', gl = x :: gl' := by
        cases gl with
        | nil => simp at hg2
        | cons x gl' => exact ⟨x, gl', rfl⟩
      refine comp_ok (fun _ => true) (fun _ => D.lst (strL x)) [.fz (.hdl 0), .fz (.int r), .fz (.int n), .fz (.int o), .fz (.lst (strL pool)), .fz (.lst (grL (x :: gl'))), y6, .un, .un, .un] c1.S .un (grL (x :: gl')) ?_ rfl (fun _ z => by cases z) ?_ ?_ ?_ ?_
      · simp only [wE_bCons, wE_sIf, wE_bNil, wE_mBool, wE_mTruth, wE_tmAnd, wE_tmOr, wE_tmNot, wE_mBin, wE_mUn, wE_m1, wE_mVar, wE_m2, wE_mC, wE_sSet, wE_sSetH, wE_sPut, wE_sRet, wE_sDrop, wE_sUnp, wE_sPend, mPend_nil, mPend_cons, pend_fz, pend_nwl, pend_loc, putL_nil, putL_fz, putL_nw, fzL_nil, fzL_cons, wE_mLst, wE_mTup, wE_mCB, wE_mCall, wE_mMut, wE_mSeq, wE_mRng1, wE_for, wE_mDisp, wE_mPairs_nil, wE_mPairs_cons, wE_tmYes, wE_ok, wE_mIfE, wE_maCons, wE_maNil, views_cons, views_nil, vals_cons, vals_nil, Option.bind_some, Option.map_some, settle_fz, settle_loc, settle_nw, view_hdl, view_int, view_str, view_bl, view_lst, view_tup, view_ro, view_loc, view_nw, view_dct, oE_some, gCmpI_int, gAdd_int, gSub_int, toVal_fz, toVal_nw, toVal_loc, cont_hdl, cont_loc, putB_hdl, putB_loc, putH_nw, putR_fz, putR_nwl, putR_nwt, putR_nwd, putR_loc, leaveR_fz, leaveR_nw, leaveR_loc, List.getElem?_cons_zero, List.getElem?_cons_succ, List.length_cons, List.length_nil, List.set_cons_zero, List.set_cons_succ, decide_true, decide_false, if_true, if_false, Bool.not_true, Bool.not_false, Bool.false_eq_true, true_and, and_true, Nat.reduceAdd, Nat.reduceLT, Nat.reduceLeDiff, Nat.zero_add, reduceIte, and_self, eq_self, wE_sSetF, wE_sFrz, frzS_nil, frzS_cons, wE_mSl, wE_pNo, wE_pSome, wE_mM1, wE_mAnd, wE_mOr, wE_mChain, wE_mDct, truthD_bl, gNeg_int, view_exc, gFz_lt, gT_tup, gC_cons, gN_nil, tyD_lst, oE_none]
      · rw [grL_len]; exact big (by omega)
      · exact fun _ _ => ⟨rfl, rfl⟩
      · intro d _ _
        have ei : gIx (.lst (grL (x :: gl'))) (.int 0) = some (.fz (.lst (strL x))) := gIx_head
        simp only [wE_bCons, wE_sIf, wE_bNil, wE_mBool, wE_mTruth, wE_tmAnd, wE_tmOr, wE_tmNot, wE_mBin, wE_mUn, wE_m1, wE_mVar, wE_m2, wE_mC, wE_sSet, wE_sSetH, wE_sPut, wE_sRet, wE_sDrop, wE_sUnp, wE_sPend, mPend_nil, mPend_cons, pend_fz, pend_nwl, pend_loc, putL_nil, putL_fz, putL_nw, fzL_nil, fzL_cons, wE_mLst, wE_mTup, wE_mCB, wE_mCall, wE_mMut, wE_mSeq, wE_mRng1, wE_for, wE_mDisp, wE_mPairs_nil, wE_mPairs_cons, wE_tmYes, wE_ok, wE_mIfE, wE_maCons, wE_maNil, views_cons, views_nil, vals_cons, vals_nil, Option.bind_some, Option.map_some, settle_fz, settle_loc, settle_nw, view_hdl, view_int, view_str, view_bl, view_lst, view_tup, view_ro, view_loc, view_nw, view_dct, oE_some, gCmpI_int, gAdd_int, gSub_int, toVal_fz, toVal_nw, toVal_loc, cont_hdl, cont_loc, putB_hdl, putB_loc, putH_nw, putR_fz, putR_nwl, putR_nwt, putR_nwd, putR_loc, leaveR_fz, leaveR_nw, leaveR_loc, List.getElem?_cons_zero, List.getElem?_cons_succ, List.length_cons, List.length_nil, List.set_cons_zero, List.set_cons_succ, decide_true, decide_false, if_true, if_false, Bool.not_true, Bool.not_false, Bool.false_eq_true, true_and, and_true, Nat.reduceAdd, Nat.reduceLT, Nat.reduceLeDiff, Nat.zero_add, reduceIte, and_self, eq_self, wE_sSetF, wE_sFrz, frzS_nil, frzS_cons, wE_mSl, wE_pNo, wE_pSome, wE_mM1, wE_mAnd, wE_mOr, wE_mChain, wE_mDct, truthD_bl, gNeg_int, view_exc, gFz_lt, gT_tup, gC_cons, gN_nil, tyD_lst, oE_none, ei]
      · rw [filter_true]
        have e3 : (grL (x :: gl')).map (fun _ => D.lst (strL x)) = grL ((x :: gl').map fun _ => x) := by simp [grL]
        rw [e3]
        simp only [wE_bCons, wE_sIf, wE_bNil, wE_mBool, wE_mTruth, wE_tmAnd, wE_tmOr, wE_tmNot, wE_mBin, wE_mUn, wE_m1, wE_mVar, wE_m2, wE_mC, wE_sSet, wE_sSetH, wE_sPut, wE_sRet, wE_sDrop, wE_sUnp, wE_sPend, mPend_nil, mPend_cons, pend_fz, pend_nwl, pend_loc, putL_nil, putL_fz, putL_nw, fzL_nil, fzL_cons, wE_mLst, wE_mTup, wE_mCB, wE_mCall, wE_mMut, wE_mSeq, wE_mRng1, wE_for, wE_mDisp, wE_mPairs_nil, wE_mPairs_cons, wE_tmYes, wE_ok, wE_mIfE, wE_maCons, wE_maNil, views_cons, views_nil, vals_cons, vals_nil, Option.bind_some, Option.map_some, settle_fz, settle_loc, settle_nw, view_hdl, view_int, view_str, view_bl, view_lst, view_tup, view_ro, view_loc, view_nw, view_dct, oE_some, gCmpI_int, gAdd_int, gSub_int, toVal_fz, toVal_nw, toVal_loc, cont_hdl, cont_loc, putB_hdl, putB_loc, putH_nw, putR_fz, putR_nwl, putR_nwt, putR_nwd, putR_loc, leaveR_fz, leaveR_nw, leaveR_loc, List.getElem?_cons_zero, List.getElem?_cons_succ, List.length_cons, List.length_nil, List.set_cons_zero, List.set_cons_succ, decide_true, decide_false, if_true, if_false, Bool.not_true, Bool.not_false, Bool.false_eq_true, true_and, and_true, Nat.reduceAdd, Nat.reduceLT, Nat.reduceLeDiff, Nat.zero_add, reduceIte, and_self, eq_self, wE_sSetF, wE_sFrz, frzS_nil, frzS_cons, wE_mSl, wE_pNo, wE_pSome, wE_mM1, wE_mAnd, wE_mOr, wE_mChain, wE_mDct, truthD_bl, gNeg_int, view_exc, gFz_lt, gT_tup, gC_cons, gN_nil, tyD_lst, oE_none]
        refine ⟨(x :: gl').map fun _ => x, c1.S, fun rs hrs => ?_, by simpa using hg2, by simpa using hgO, p3.mono (by omega), rfl⟩
        obtain ⟨_, _, rfl⟩ := List.mem_map.mp hrs
        exact hgl _ List.mem_cons_self
    · have hk' : (k == 0) = false := by simpa using hk
      simp only [wE_bCons, wE_sIf, wE_bNil, wE_mBool, wE_mTruth, wE_tmAnd, wE_tmOr, wE_tmNot, wE_mBin, wE_mUn, wE_m1, wE_mVar, wE_m2, wE_mC, wE_sSet, wE_sSetH, wE_sPut, wE_sRet, wE_sDrop, wE_sUnp, wE_sPend, mPend_nil, mPend_cons, pend_fz, pend_nwl, pend_loc, putL_nil, putL_fz, putL_nw, fzL_nil, fzL_cons, wE_mLst, wE_mTup, wE_mCB, wE_mCall, wE_mMut, wE_mSeq, wE_mRng1, wE_for, wE_mDisp, wE_mPairs_nil, wE_mPairs_cons, wE_tmYes, wE_ok, wE_mIfE, wE_maCons, wE_maNil, views_cons, views_nil, vals_cons, vals_nil, Option.bind_some, Option.map_some, settle_fz, settle_loc, settle_nw, view_hdl, view_int, view_str, view_bl, view_lst, view_tup, view_ro, view_loc, view_nw, view_dct, oE_some, gCmpI_int, gAdd_int, gSub_int, toVal_fz, toVal_nw, toVal_loc, cont_hdl, cont_loc, putB_hdl, putB_loc, putH_nw, putR_fz, putR_nwl, putR_nwt, putR_nwd, putR_loc, leaveR_fz, leaveR_nw, leaveR_loc, List.getElem?_cons_zero, List.getElem?_cons_succ, List.length_cons, List.length_nil, List.set_cons_zero, List.set_cons_succ, decide_true, decide_false, if_true, if_false, Bool.not_true, Bool.not_false, Bool.false_eq_true, true_and, and_true, Nat.reduceAdd, Nat.reduceLT, Nat.reduceLeDiff, Nat.zero_add, reduceIte, and_self, eq_self, wE_sSetF, wE_sFrz, frzS_nil, frzS_cons, wE_mSl, wE_pNo, wE_pSome, wE_mM1, wE_mAnd, wE_mOr, wE_mChain, wE_mDct, truthD_bl, gNeg_int, view_exc, gFz_lt, gT_tup, gC_cons, gN_nil, tyD_lst, oE_none, hk']
      exact ⟨gl, c1.S, hgl, hg2, hgO, p3.mono (by omega), rfl⟩
  rintro _ ⟨gl, S3, hgl, hg2, hgO, p3, rfl⟩
  refine wE_seqR (P := fun c => ∃ (sl : List Srt) (S' : List D), (∀ s ∈ sl, SorOk pool R N s) ∧ sl.length = gl.length ∧ Pn S0 S' (b + 9000) ∧ c = ⟨[.fz (.hdl 0), .fz (.int r), .fz (.int n), .fz (.int o), .fz (.lst (strL pool)), .fz (.lst (grL gl)), y6, .un, .fz (.lst (sl.map sD)), .un], S'⟩) ?_ ?_
  · rw [wE_sSetF]
    refine comp_st (fun i acc S' => ∃ sl : List Srt, acc = sl.map sD ∧ sl.length = i ∧ (∀ s ∈ sl, SorOk pool R N s) ∧ Pn S0 S' (b + 1001 + 300 * i)) [.fz (.hdl 0), .fz (.int r), .fz (.int n), .fz (.int o), .fz (.lst (strL pool)), .fz (.lst (grL gl)), y6, .un, .un, .un] S3 .un (grL gl) ?_ rfl (fun _ z => by cases z) ?_ ⟨[], rfl, rfl, by simp, p3.mono (by omega)⟩ ?_ ?_
    · simp only [wE_bCons, wE_sIf, wE_bNil, wE_mBool, wE_mTruth, wE_tmAnd, wE_tmOr, wE_tmNot, wE_mBin, wE_mUn, wE_m1, wE_mVar, wE_m2, wE_mC, wE_sSet, wE_sSetH, wE_sPut, wE_sRet, wE_sDrop, wE_sUnp, wE_sPend, mPend_nil, mPend_cons, pend_fz, pend_nwl, pend_loc, putL_nil, putL_fz, putL_nw, fzL_nil, fzL_cons, wE_mLst, wE_mTup, wE_mCB, wE_mCall, wE_mMut, wE_mSeq, wE_mRng1, wE_for, wE_mDisp, wE_mPairs_nil, wE_mPairs_cons, wE_tmYes, wE_ok, wE_mIfE, wE_maCons, wE_maNil, views_cons, views_nil, vals_cons, vals_nil, Option.bind_some, Option.map_some, settle_fz, settle_loc, settle_nw, view_hdl, view_int, view_str, view_bl, view_lst, view_tup, view_ro, view_loc, view_nw, view_dct, oE_some, gCmpI_int, gAdd_int, gSub_int, toVal_fz, toVal_nw, toVal_loc, cont_hdl, cont_loc, putB_hdl, putB_loc, putH_nw, putR_fz, putR_nwl, putR_nwt, putR_nwd, putR_loc, leaveR_fz, leaveR_nw, leaveR_loc, List.getElem?_cons_zero, List.getElem?_cons_succ, List.length_cons, List.length_nil, List.set_cons_zero, List.set_cons_succ, decide_true, decide_false, if_true, if_false, Bool.not_true, Bool.not_false, Bool.false_eq_true, true_and, and_true, Nat.reduceAdd, Nat.reduceLT, Nat.reduceLeDiff, Nat.zero_add, reduceIte, and_self, eq_self, wE_sSetF, wE_sFrz, frzS_nil, frzS_cons, wE_mSl, wE_pNo, wE_pSome, wE_mM1, wE_mAnd, wE_mOr, wE_mChain, wE_mDct, truthD_bl, gNeg_int, view_exc, gFz_lt, gT_tup, gC_cons, gN_nil, tyD_lst, oE_none]
    · rw [grL_len]; exact big (by omega)
    · rintro i d acc S' hd hacc ⟨sl, rfl, hsl, hs, p4⟩
      unfold grL at hd
      rw [List.getElem?_map] at hd
      obtain ⟨rs, hrs, rfl⟩ := Option.map_eq_some_iff.mp hd
      have hi : i < gl.length := (List.getElem?_eq_some_iff.mp hrs).1
      have hg := hgl rs (List.mem_of_getElem? hrs)
      have hh0 := hg.h0
      have hh1 := hg.h1
      simp only [wE_bCons, wE_sIf, wE_bNil, wE_mBool, wE_mTruth, wE_tmAnd, wE_tmOr, wE_tmNot, wE_mBin, wE_mUn, wE_m1, wE_mVar, wE_m2, wE_mC, wE_sSet, wE_sSetH, wE_sPut, wE_sRet, wE_sDrop, wE_sUnp, wE_sPend, mPend_nil, mPend_cons, pend_fz, pend_nwl, pend_loc, putL_nil, putL_fz, putL_nw, fzL_nil, fzL_cons, wE_mLst, wE_mTup, wE_mCB, wE_mCall, wE_mMut, wE_mSeq, wE_mRng1, wE_for, wE_mDisp, wE_mPairs_nil, wE_mPairs_cons, wE_tmYes, wE_ok, wE_mIfE, wE_maCons, wE_maNil, views_cons, views_nil, vals_cons, vals_nil, Option.bind_some, Option.map_some, settle_fz, settle_loc, settle_nw, view_hdl, view_int, view_str, view_bl, view_lst, view_tup, view_ro, view_loc, view_nw, view_dct, oE_some, gCmpI_int, gAdd_int, gSub_int, toVal_fz, toVal_nw, toVal_loc, cont_hdl, cont_loc, putB_hdl, putB_loc, putH_nw, putR_fz, putR_nwl, putR_nwt, putR_nwd, putR_loc, leaveR_fz, leaveR_nw, leaveR_loc, List.getElem?_cons_zero, List.getElem?_cons_succ, List.length_cons, List.length_nil, List.set_cons_zero, List.set_cons_succ, decide_true, decide_false, if_true, if_false, Bool.not_true, Bool.not_false, Bool.false_eq_true, true_and, and_true, Nat.reduceAdd, Nat.reduceLT, Nat.reduceLeDiff, Nat.zero_add, reduceIte, and_self, eq_self, wE_sSetF, wE_sFrz, frzS_nil, frzS_cons, wE_mSl, wE_pNo, wE_pSome, wE_mM1, wE_mAnd, wE_mOr, wE_mChain, wE_mDct, truthD_bl, gNeg_int, view_exc, gFz_lt, gT_tup, gC_cons, gN_nil, tyD_lst, oE_none]
      refine sort_bw (N := N) en hN p4 (by omega) hg.h0 (by omega) (by omega) (by omega) fun s c5 hsk p5 => ?_
      simp only [wE_bCons, wE_sIf, wE_bNil, wE_mBool, wE_mTruth, wE_tmAnd, wE_tmOr, wE_tmNot, wE_mBin, wE_mUn, wE_m1, wE_mVar, wE_m2, wE_mC, wE_sSet, wE_sSetH, wE_sPut, wE_sRet, wE_sDrop, wE_sUnp, wE_sPend, mPend_nil, mPend_cons, pend_fz, pend_nwl, pend_loc, putL_nil, putL_fz, putL_nw, fzL_nil, fzL_cons, wE_mLst, wE_mTup, wE_mCB, wE_mCall, wE_mMut, wE_mSeq, wE_mRng1, wE_for, wE_mDisp, wE_mPairs_nil, wE_mPairs_cons, wE_tmYes, wE_ok, wE_mIfE, wE_maCons, wE_maNil, views_cons, views_nil, vals_cons, vals_nil, Option.bind_some, Option.map_some, settle_fz, settle_loc, settle_nw, view_hdl, view_int, view_str, view_bl, view_lst, view_tup, view_ro, view_loc, view_nw, view_dct, oE_some, gCmpI_int, gAdd_int, gSub_int, toVal_fz, toVal_nw, toVal_loc, cont_hdl, cont_loc, putB_hdl, putB_loc, putH_nw, putR_fz, putR_nwl, putR_nwt, putR_nwd, putR_loc, leaveR_fz, leaveR_nw, leaveR_loc, List.getElem?_cons_zero, List.getElem?_cons_succ, List.length_cons, List.length_nil, List.set_cons_zero, List.set_cons_succ, decide_true, decide_false, if_true, if_false, Bool.not_true, Bool.not_false, Bool.false_eq_true, true_and, and_true, Nat.reduceAdd, Nat.reduceLT, Nat.reduceLeDiff, Nat.zero_add, reduceIte, and_self, eq_self, wE_sSetF, wE_sFrz, frzS_nil, frzS_cons, wE_mSl, wE_pNo, wE_pSome, wE_mM1, wE_mAnd, wE_mOr, wE_mChain, wE_mDct, truthD_bl, gNeg_int, view_exc, gFz_lt, gT_tup, gC_cons, gN_nil, tyD_lst, oE_none]
      refine ⟨sl ++ [s], by simp, by simp [hsl], fun s' hs' => ?_, p5.mono (by push_cast; omega)⟩
      rcases List.mem_append.mp hs' with hs' | hs'
      · exact hs s' hs'
      · rw [List.mem_singleton.mp hs']; exact ⟨rs, hg, hsk⟩
    · rintro acc S' ⟨sl, rfl, hsl, hs, p4⟩ _
      rw [grL_len] at hsl p4
      simp only [wE_bCons, wE_sIf, wE_bNil, wE_mBool, wE_mTruth, wE_tmAnd, wE_tmOr, wE_tmNot, wE_mBin, wE_mUn, wE_m1, wE_mVar, wE_m2, wE_mC, wE_sSet, wE_sSetH, wE_sPut, wE_sRet, wE_sDrop, wE_sUnp, wE_sPend, mPend_nil, mPend_cons, pend_fz, pend_nwl, pend_loc, putL_nil, putL_fz, putL_nw, fzL_nil, fzL_cons, wE_mLst, wE_mTup, wE_mCB, wE_mCall, wE_mMut, wE_mSeq, wE_mRng1, wE_for, wE_mDisp, wE_mPairs_nil, wE_mPairs_cons, wE_tmYes, wE_ok, wE_mIfE, wE_maCons, wE_maNil, views_cons, views_nil, vals_cons, vals_nil, Option.bind_some, Option.map_some, settle_fz, settle_loc, settle_nw, view_hdl, view_int, view_str, view_bl, view_lst, view_tup, view_ro, view_loc, view_nw, view_dct, oE_some, gCmpI_int, gAdd_int, gSub_int, toVal_fz, toVal_nw, toVal_loc, cont_hdl, cont_loc, putB_hdl, putB_loc, putH_nw, putR_fz, putR_nwl, putR_nwt, putR_nwd, putR_loc, leaveR_fz, leaveR_nw, leaveR_loc, List.getElem?_cons_zero, List.getElem?_cons_succ, List.length_cons, List.length_nil, List.set_cons_zero, List.set_cons_succ, decide_true, decide_false, if_true, if_false, Bool.not_true, Bool.not_false, Bool.false_eq_true, true_and, and_true, Nat.reduceAdd, Nat.reduceLT, Nat.reduceLeDiff, Nat.zero_add, reduceIte, and_self, eq_self, wE_sSetF, wE_sFrz, frzS_nil, frzS_cons, wE_mSl, wE_pNo, wE_pSome, wE_mM1, wE_mAnd, wE_mOr, wE_mChain, wE_mDct, truthD_bl, gNeg_int, view_exc, gFz_lt, gT_tup, gC_cons, gN_nil, tyD_lst, oE_none]
      exact ⟨sl, S', hs, hsl, p4.mono (by omega), rfl⟩
  rintro _ ⟨sl, S4, hsl, hlen, p4, rfl⟩
  refine wE_seqR (P := fun c => ∃ (f : Int) (S' : List D), -50 ≤ f ∧ f ≤ 50 ∧ Pn S0 S' (b + 9003) ∧ c = ⟨[.fz (.hdl 0), .fz (.int r), .fz (.int n), .fz (.int o), .fz (.lst (strL pool)), .fz (.lst (grL gl)), y6, .un, .fz (.lst (sl.map sD)), .fz (.int f)], S'⟩) ?_ ?_
  · simp only [wE_bCons, wE_sIf, wE_bNil, wE_mBool, wE_mTruth, wE_tmAnd, wE_tmOr, wE_tmNot, wE_mBin, wE_mUn, wE_m1, wE_mVar, wE_m2, wE_mC, wE_sSet, wE_sSetH, wE_sPut, wE_sRet, wE_sDrop, wE_sUnp, wE_sPend, mPend_nil, mPend_cons, pend_fz, pend_nwl, pend_loc, putL_nil, putL_fz, putL_nw, fzL_nil, fzL_cons, wE_mLst, wE_mTup, wE_mCB, wE_mCall, wE_mMut, wE_mSeq, wE_mRng1, wE_for, wE_mDisp, wE_mPairs_nil, wE_mPairs_cons, wE_tmYes, wE_ok, wE_mIfE, wE_maCons, wE_maNil, views_cons, views_nil, vals_cons, vals_nil, Option.bind_some, Option.map_some, settle_fz, settle_loc, settle_nw, view_hdl, view_int, view_str, view_bl, view_lst, view_tup, view_ro, view_loc, view_nw, view_dct, oE_some, gCmpI_int, gAdd_int, gSub_int, toVal_fz, toVal_nw, toVal_loc, cont_hdl, cont_loc, putB_hdl, putB_loc, putH_nw, putR_fz, putR_nwl, putR_nwt, putR_nwd, putR_loc, leaveR_fz, leaveR_nw, leaveR_loc, List.getElem?_cons_zero, List.getElem?_cons_succ, List.length_cons, List.length_nil, List.set_cons_zero, List.set_cons_succ, decide_true, decide_false, if_true, if_false, Bool.not_true, Bool.not_false, Bool.false_eq_true, true_and, and_true, Nat.reduceAdd, Nat.reduceLT, Nat.reduceLeDiff, Nat.zero_add, reduceIte, and_self, eq_self, wE_sSetF, wE_sFrz, frzS_nil, frzS_cons, wE_mSl, wE_pNo, wE_pSome, wE_mM1, wE_mAnd, wE_mOr, wE_mChain, wE_mDct, truthD_bl, gNeg_int, view_exc, gFz_lt, gT_tup, gC_cons, gN_nil, tyD_lst, oE_none]
    refine draw_bw p4 (by omega) (by decide) (by decide) fun x c1 x0 x1 p5 => ?_
    simp only [wE_bCons, wE_sIf, wE_bNil, wE_mBool, wE_mTruth, wE_tmAnd, wE_tmOr, wE_tmNot, wE_mBin, wE_mUn, wE_m1, wE_mVar, wE_m2, wE_mC, wE_sSet, wE_sSetH, wE_sPut, wE_sRet, wE_sDrop, wE_sUnp, wE_sPend, mPend_nil, mPend_cons, pend_fz, pend_nwl, pend_loc, putL_nil, putL_fz, putL_nw, fzL_nil, fzL_cons, wE_mLst, wE_mTup, wE_mCB, wE_mCall, wE_mMut, wE_mSeq, wE_mRng1, wE_for, wE_mDisp, wE_mPairs_nil, wE_mPairs_cons, wE_tmYes, wE_ok, wE_mIfE, wE_maCons, wE_maNil, views_cons, views_nil, vals_cons, vals_nil, Option.bind_some, Option.map_some, settle_fz, settle_loc, settle_nw, view_hdl, view_int, view_str, view_bl, view_lst, view_tup, view_ro, view_loc, view_nw, view_dct, oE_some, gCmpI_int, gAdd_int, gSub_int, toVal_fz, toVal_nw, toVal_loc, cont_hdl, cont_loc, putB_hdl, putB_loc, putH_nw, putR_fz, putR_nwl, putR_nwt, putR_nwd, putR_loc, leaveR_fz, leaveR_nw, leaveR_loc, List.getElem?_cons_zero, List.getElem?_cons_succ, List.length_cons, List.length_nil, List.set_cons_zero, List.set_cons_succ, decide_true, decide_false, if_true, if_false, Bool.not_true, Bool.not_false, Bool.false_eq_true, true_and, and_true, Nat.reduceAdd, Nat.reduceLT, Nat.reduceLeDiff, Nat.zero_add, reduceIte, and_self, eq_self, wE_sSetF, wE_sFrz, frzS_nil, frzS_cons, wE_mSl, wE_pNo, wE_pSome, wE_mM1, wE_mAnd, wE_mOr, wE_mChain, wE_mDct, truthD_bl, gNeg_int, view_exc, gFz_lt, gT_tup, gC_cons, gN_nil, tyD_lst, oE_none]
    refine draw_bw p5 (by omega) (by decide) (by decide) fun y c2 y0 y1 p6 => ?_
    simp only [wE_bCons, wE_sIf, wE_bNil, wE_mBool, wE_mTruth, wE_tmAnd, wE_tmOr, wE_tmNot, wE_mBin, wE_mUn, wE_m1, wE_mVar, wE_m2, wE_mC, wE_sSet, wE_sSetH, wE_sPut, wE_sRet, wE_sDrop, wE_sUnp, wE_sPend, mPend_nil, mPend_cons, pend_fz, pend_nwl, pend_loc, putL_nil, putL_fz, putL_nw, fzL_nil, fzL_cons, wE_mLst, wE_mTup, wE_mCB, wE_mCall, wE_mMut, wE_mSeq, wE_mRng1, wE_for, wE_mDisp, wE_mPairs_nil, wE_mPairs_cons, wE_tmYes, wE_ok, wE_mIfE, wE_maCons, wE_maNil, views_cons, views_nil, vals_cons, vals_nil, Option.bind_some, Option.map_some, settle_fz, settle_loc, settle_nw, view_hdl, view_int, view_str, view_bl, view_lst, view_tup, view_ro, view_loc, view_nw, view_dct, oE_some, gCmpI_int, gAdd_int, gSub_int, toVal_fz, toVal_nw, toVal_loc, cont_hdl, cont_loc, putB_hdl, putB_loc, putH_nw, putR_fz, putR_nwl, putR_nwt, putR_nwd, putR_loc, leaveR_fz, leaveR_nw, leaveR_loc, List.getElem?_cons_zero, List.getElem?_cons_succ, List.length_cons, List.length_nil, List.set_cons_zero, List.set_cons_succ, decide_true, decide_false, if_true, if_false, Bool.not_true, Bool.not_false, Bool.false_eq_true, true_and, and_true, Nat.reduceAdd, Nat.reduceLT, Nat.reduceLeDiff, Nat.zero_add, reduceIte, and_self, eq_self, wE_sSetF, wE_sFrz, frzS_nil, frzS_cons, wE_mSl, wE_pNo, wE_pSome, wE_mM1, wE_mAnd, wE_mOr, wE_mChain, wE_mDct, truthD_bl, gNeg_int, view_exc, gFz_lt, gT_tup, gC_cons, gN_nil, tyD_lst, oE_none, z2]
    refine draw_bw p6 (by omega) (by decide) (by decide) fun k c3 k0 k1 p7 => ?_
    obtain ⟨v, e, hv⟩ := ix_int (cells := [x - 3, y - 50]) k0 k1
    have e : gIx (.lst [.int (x - 3), .int (y - 50)]) (.int k) = some (.fz (.int v)) := e
    simp only [wE_bCons, wE_sIf, wE_bNil, wE_mBool, wE_mTruth, wE_tmAnd, wE_tmOr, wE_tmNot, wE_mBin, wE_mUn, wE_m1, wE_mVar, wE_m2, wE_mC, wE_sSet, wE_sSetH, wE_sPut, wE_sRet, wE_sDrop, wE_sUnp, wE_sPend, mPend_nil, mPend_cons, pend_fz, pend_nwl, pend_loc, putL_nil, putL_fz, putL_nw, fzL_nil, fzL_cons, wE_mLst, wE_mTup, wE_mCB, wE_mCall, wE_mMut, wE_mSeq, wE_mRng1, wE_for, wE_mDisp, wE_mPairs_nil, wE_mPairs_cons, wE_tmYes, wE_ok, wE_mIfE, wE_maCons, wE_maNil, views_cons, views_nil, vals_cons, vals_nil, Option.bind_some, Option.map_some, settle_fz, settle_loc, settle_nw, view_hdl, view_int, view_str, view_bl, view_lst, view_tup, view_ro, view_loc, view_nw, view_dct, oE_some, gCmpI_int, gAdd_int, gSub_int, toVal_fz, toVal_nw, toVal_loc, cont_hdl, cont_loc, putB_hdl, putB_loc, putH_nw, putR_fz, putR_nwl, putR_nwt, putR_nwd, putR_loc, leaveR_fz, leaveR_nw, leaveR_loc, List.getElem?_cons_zero, List.getElem?_cons_succ, List.length_cons, List.length_nil, List.set_cons_zero, List.set_cons_succ, decide_true, decide_false, if_true, if_false, Bool.not_true, Bool.not_false, Bool.false_eq_true, true_and, and_true, Nat.reduceAdd, Nat.reduceLT, Nat.reduceLeDiff, Nat.zero_add, reduceIte, and_self, eq_self, wE_sSetF, wE_sFrz, frzS_nil, frzS_cons, wE_mSl, wE_pNo, wE_pSome, wE_mM1, wE_mAnd, wE_mOr, wE_mChain, wE_mDct, truthD_bl, gNeg_int, view_exc, gFz_lt, gT_tup, gC_cons, gN_nil, tyD_lst, oE_none, e]
    simp only [List.mem_cons, List.not_mem_nil, or_false] at hv
    exact ⟨v, c3.S, by omega, by omega, p7.mono (by omega), rfl⟩
  rintro _ ⟨f, S5, f0, f1, p5, rfl⟩
  obtain ⟨l, os, rr, rfl⟩ := two_ends (xs := sl) (by omega)
  have e1 : gIx (.lst ((l :: (os ++ [rr])).map sD)) (.int 0) = some (.fz (sD l)) := gIx_head
  have em : (l :: (os ++ [rr])).map sD = sD l :: (os.map sD ++ [sD rr]) := by simp
  have e2 : gSl (.lst ((l :: (os ++ [rr])).map sD)) (some 1) (some (-1)) = some (.nw (.lst (os.map sD))) := by rw [gSl_lst, em, cutL_mid]
  have e3 : gIx (.lst ((l :: (os ++ [rr])).map sD)) (.int (-1)) = some (.fz (sD rr)) := by
    have : (l :: (os ++ [rr])).map sD = (sD l :: os.map sD) ++ [sD rr] := by simp
    rw [this]
    exact gIx_last
  simp only [wE_bCons, wE_sIf, wE_bNil, wE_mBool, wE_mTruth, wE_tmAnd, wE_tmOr, wE_tmNot, wE_mBin, wE_mUn, wE_m1, wE_mVar, wE_m2, wE_mC, wE_sSet, wE_sSetH, wE_sPut, wE_sRet, wE_sDrop, wE_sUnp, wE_sPend, mPend_nil, mPend_cons, pend_fz, pend_nwl, pend_loc, putL_nil, putL_fz, putL_nw, fzL_nil, fzL_cons, wE_mLst, wE_mTup, wE_mCB, wE_mCall, wE_mMut, wE_mSeq, wE_mRng1, wE_for, wE_mDisp, wE_mPairs_nil, wE_mPairs_cons, wE_tmYes, wE_ok, wE_mIfE, wE_maCons, wE_maNil, views_cons, views_nil, vals_cons, vals_nil, Option.bind_some, Option.map_some, settle_fz, settle_loc, settle_nw, view_hdl, view_int, view_str, view_bl, view_lst, view_tup, view_ro, view_loc, view_nw, view_dct, oE_some, gCmpI_int, gAdd_int, gSub_int, toVal_fz, toVal_nw, toVal_loc, cont_hdl, cont_loc, putB_hdl, putB_loc, putH_nw, putR_fz, putR_nwl, putR_nwt, putR_nwd, putR_loc, leaveR_fz, leaveR_nw, leaveR_loc, List.getElem?_cons_zero, List.getElem?_cons_succ, List.length_cons, List.length_nil, List.set_cons_zero, List.set_cons_succ, decide_true, decide_false, if_true, if_false, Bool.not_true, Bool.not_false, Bool.false_eq_true, true_and, and_true, Nat.reduceAdd, Nat.reduceLT, Nat.reduceLeDiff, Nat.zero_add, reduceIte, and_self, eq_self, wE_sSetF, wE_sFrz, frzS_nil, frzS_cons, wE_mSl, wE_pNo, wE_pSome, wE_mM1, wE_mAnd, wE_mOr, wE_mChain, wE_mDct, truthD_bl, gNeg_int, view_exc, gFz_lt, gT_tup, gC_cons, gN_nil, tyD_lst, oE_none, e1, e2, e3, merge_tD]
  refine h ⟨l, f, os, rr⟩ pool _ ⟨hp, hsl _ List.mem_cons_self, hsl _ (by simp), fun s hs => hsl s (by simp [hs]), f0, f1, ?_⟩ (p5.mono (by omega))
  show os.length ≤ O
  simp only [List.length_cons, List.length_append, List.length_nil] at hlen
  omega
/-! ### streets made -/
def sO (s : Srt) : D := .obj "Sort" [("chambers", .lst (strL s.rooms)), ("gates", .dct (fkv s.doors))]
def tO (t : Stt) : D := .obj "Street" [("left_one", sO t.l), ("right_one", sO t.r), ("begin", .int t.f), ("strange", .lst (t.o.map sO))]
structure Sd (s : Srt) : Prop where
  rp : s.rooms.Pairwise (fun x y => leS x y = true)
  np : (s.doors.map (·.n)).Pairwise (fun x y => leS x y = true)
  nd : (s.doors.map (·.n)).Nodup
  rl : s.rooms.length ≤ 100
  r0 : 0 < s.rooms.length
  dl : s.doors.length ≤ 100
  rn : ∀ x ∈ s.rooms, isN x = true
  dn : ∀ d ∈ s.doors, isN d.n = true ∧ isN d.r = true ∧ isN d.g = true ∧ -1 ≤ d.m ∧ d.m ≤ 1 ∧ 1 ≤ d.p ∧ d.p ≤ 99
structure Td (t : Stt) : Prop where
  l : Sd t.l
  r : Sd t.r
  o : ∀ s ∈ t.o, Sd s
  f0 : -50 ≤ t.f
  f1 : t.f ≤ 50
  ol : t.o.length ≤ 100
theorem SorOk.sd {pool : List Str} {R N n : Nat} {s : Srt} (h : SorOk pool R N s) (hp : Names pool n) (hR : R ≤ 100) (hN : N ≤ 100) : Sd s := by
  obtain ⟨rs, g, k⟩ := h
  have hl : s.rooms.length = rs.length := by rw [k.rooms, (sortS_perm rs).length_eq]
  have h0 := g.h0
  have h1 := g.h1
  have hn : ∀ x ∈ rs, isN x = true := fun x hx => hp.ok x (g.sub x hx)
  refine ⟨by rw [k.rooms]; exact sortS_pw rs, k.names, k.nd, by omega, by omega, by have := k.len; omega, fun x hx => ?_, fun d hd => ?_⟩
  · rw [k.rooms] at hx
    exact hn x ((sortS_perm rs).subset hx)
  · have q := k.doors d hd
    refine ⟨q.n, hn _ q.r, ?_, q.m0, q.m1, q.p0, q.p1⟩
    rcases q.g with h | h
    · exact hn _ h
    · exact hp.ok _ h
theorem StOk.td {t : Stt} {pool : List Str} {R N O : Nat} (h : StOk t pool R N O) (hR : R ≤ 100) (hN : N ≤ 100) (hO : O ≤ 100) : Td t :=
  ⟨h.l.sd h.pl hR hN, h.r.sd h.pl hR hN, fun s hs => (h.o s hs).sd h.pl hR hN, h.f0, h.f1, by have := h.len; omega⟩
/-! no handles -/
theorem noHL_strs {n : Nat} : ∀ xs : List Str, noHL n (strL xs) = true
  | [] => rfl
  | x :: xs => by show (noH n (.str x) && noHL n (strL xs)) = true; rw [noHL_strs xs]; rfl
theorem noHK_fkv {n : Nat} : ∀ ds : List Dr, noHK n (fkv ds) = true
  | [] => rfl
  | d :: ds => by show (noH n (doorD d) && noHK n (fkv ds)) = true; rw [noHK_fkv ds]; rfl
theorem noH_sO {n : Nat} {s : Srt} : noH n (sO s) = true := by
  show (noH n (.lst (strL s.rooms)) && (noH n (.dct (fkv s.doors)) && true)) = true
  have e1 : noH n (.lst (strL s.rooms)) = noHL n (strL s.rooms) := by simp [noH]
  have e2 : noH n (.dct (fkv s.doors)) = noHK n (fkv s.doors) := by simp [noH]
  rw [e1, e2, noHL_strs, noHK_fkv]; rfl
theorem noHL_sO {n : Nat} : ∀ xs : List Srt, noHL n (xs.map sO) = true
  | [] => rfl
  | x :: xs => by show (noH n (sO x) && noHL n (xs.map sO)) = true; rw [noHL_sO xs, noH_sO]; rfl
theorem noH_tO {n : Nat} {t : Stt} : noH n (tO t) = true := by
  show (noH n (sO t.l) && (noH n (sO t.r) && (true && (noH n (.lst (t.o.map sO)) && true)))) = true
  have e1 : noH n (.lst (t.o.map sO)) = noHL n (t.o.map sO) := by simp [noH]
  rw [e1, noH_sO, noH_sO, noHL_sO]; rfl
def clean (S : List D) : Prop := ∀ n, S.all (noH n) = true
theorem noHL_ints {n : Nat} : ∀ xs : List Int, noHL n (xs.map D.int) = true
  | [] => rfl
  | x :: xs => by show (noH n (.int x) && noHL n (xs.map D.int)) = true; rw [noHL_ints xs]; rfl
theorem Pn.clean {S0 S : List D} {b : Int} (p : Pn S0 S b) (h : S0.length = 1) : clean S := by
  intro n
  obtain ⟨cells, t, r, hp, _⟩ := p.p
  have hl := p.l
  rw [h] at hl
  match S, hl, hp with
  | [x], _, hp =>
    have hp : some x = _ := hp
    cases hp
    show (noH n (.dct (penKv cells t r)) && true) = true
    have e1 : noH n (.dct (penKv cells t r)) = noHK n (penKv cells t r) := by simp [noH]
    have e2 : noHK n (penKv cells t r) = (noH n (.lst (cells.map D.int)) && (true && (true && true))) := rfl
    have e3 : noH n (.lst (cells.map D.int)) = noHL n (cells.map D.int) := by simp [noH]
    rw [e1, e2, e3, noHL_ints]; rfl
/-! sorted doors -/
theorem dle_door {a b : Dr} (h : leS a.n b.n = true) (hne : a.n ≠ b.n) : PySem.W.dataLe false encD (doorD a) (doorD b) = true := by
  rw [PySem.W.dataLe_eq]
  show (!PySem.W.dataLt (.tuple [.str b.n, .str b.r, .int b.m, .str b.g, .int b.p]) (.tuple [.str a.n, .str a.r, .int a.m, .str a.g, .int a.p])) = true
  have hne' : b.n.cps.toList ≠ a.n.cps.toList := fun e => hne (TL.ext_tl e).symm
  have e1 : PySem.W.dataLt (.tuple [.str b.n, .str b.r, .int b.m, .str b.g, .int b.p]) (.tuple [.str a.n, .str a.r, .int a.m, .str a.g, .int a.p]) = PySem.W.dataLt (.str b.n) (.str a.n) := by
    unfold PySem.W.dataLt
    simp only [PySem.W.keyToks, PySem.W.keyToksAll]
    refine (PySem.W.lex_pre [.inl 1] _ _).trans ?_
    exact PySem.W.lex_atom (by simpa using hne') _ _
  rw [e1, PySem.W.dataLt_str]
  unfold leS at h
  rw [decide_eq_true_eq] at h
  rw [Bool.not_eq_true', decide_eq_false_iff_not]
  exact h
theorem okSort_doors (ds : List Dr) : okSort (ds.map doorD) = true := by
  unfold okSort
  simp only [Bool.and_eq_true, List.all_eq_true]
  refine ⟨fun d hd => ?_, fun d hd d' hd' => ?_⟩
  · obtain ⟨x, _, rfl⟩ := List.mem_map.mp hd
    simp [encD, toPy, toPyL, doorD, notNon, PyData.depth, PyData.depthAll]
  · obtain ⟨x, _, rfl⟩ := List.mem_map.mp hd
    obtain ⟨y, _, rfl⟩ := List.mem_map.mp hd'
    simp [encD, toPy, toPyL, doorD, PySem.W.alike, PySem.W.alikeAll]
theorem sorted_doors {ds : List Dr} (h : (ds.map (·.n)).Pairwise (fun x y => leS x y = true)) (hn : (ds.map (·.n)).Nodup) : g1 gSorted [.lst (ds.map doorD)] = some (.nw (.lst (ds.map doorD))) := by
  refine gSorted_id (okSort_doors ds) (List.pairwise_map.mpr ?_)
  rw [List.pairwise_map] at h
  have hn : (ds.map (·.n)).Pairwise (· ≠ ·) := hn
  rw [List.pairwise_map] at hn
  exact (h.and hn).imp fun ⟨h1, h2⟩ => dle_door h1 h2
/-! the classes -/
theorem gs_c {d : D} : gStF ["Sort"] "chambers" (.obj "Sort" []) d = some (.obj "Sort" [("chambers", d)]) := by simp [gStF, putFd]
theorem kx_cg : ¬ ("chambers" : Str) = "gates" := by decide +kernel
theorem gs_g {d e : D} : gStF ["Sort"] "gates" (.obj "Sort" [("chambers", e)]) d = some (.obj "Sort" [("chambers", e), ("gates", d)]) := by simp [gStF, putFd, kx_cg]
theorem ix_rooms {a b : D} : gIx (.dct [(.inr "rooms", a), (.inr "doors", b)]) (.str "rooms") = some (.fz a) := by simp [gIx, keyD, getK]
theorem ix_doors {a b : D} : gIx (.dct [(.inr "rooms", a), (.inr "doors", b)]) (.str "doors") = some (.fz b) := by simp [gIx, keyD, getK, kx_rd']
def unN : D → Str
  | .tup (.str x :: _) => x
  | _ => ""
theorem sort_init {s : Srt} {S : List D} (h : Sd s) : m_Sort___init__ [.hdl S.length, .lst (strL s.rooms), .lst (s.doors.map doorD)] (S ++ [.obj "Sort" []]) = .ok (.fz .non) ⟨[], S ++ [sO s]⟩ := by
  apply eq_of
  apply wE_runF
  show wE (b_Sort___init__ ⟨[.fz (.hdl S.length), .fz (.lst (strL s.rooms)), .fz (.lst (s.doors.map doorD)), .un], S ++ [.obj "Sort" []]⟩) _
  unfold b_Sort___init__
  have e1 : g1 gSorted [.lst (strL s.rooms)] = some (.nw (.lst (strL s.rooms))) := sorted_strs_id h.rp
  have e2 := sorted_doors h.np h.nd
  refine wE_seqE (P := fun c => c = ⟨[.fz (.hdl S.length), .fz (.lst (strL s.rooms)), .fz (.lst (s.doors.map doorD)), .un], S ++ [.obj "Sort" [("chambers", .lst (strL s.rooms))]]⟩) ?_ ?_
  · simp only [wE_bCons, wE_sIf, wE_bNil, wE_mBool, wE_mTruth, wE_tmAnd, wE_tmOr, wE_tmNot, wE_mBin, wE_mUn, wE_m1, wE_mVar, wE_m2, wE_mC, wE_sSet, wE_sSetH, wE_sPut, wE_sRet, wE_sDrop, wE_sUnp, wE_sPend, mPend_nil, mPend_cons, pend_fz, pend_nwl, pend_loc, putL_nil, putL_fz, putL_nw, fzL_nil, fzL_cons, wE_mLst, wE_mTup, wE_mCB, wE_mCall, wE_mMut, wE_mSeq, wE_mRng1, wE_for, wE_mDisp, wE_mPairs_nil, wE_mPairs_cons, wE_tmYes, wE_ok, wE_mIfE, wE_maCons, wE_maNil, views_cons, views_nil, vals_cons, vals_nil, Option.bind_some, Option.map_some, settle_fz, settle_loc, settle_nw, view_hdl, view_int, view_str, view_bl, view_lst, view_tup, view_ro, view_loc, view_nw, view_dct, oE_some, gCmpI_int, gAdd_int, gSub_int, toVal_fz, toVal_nw, toVal_loc, cont_hdl, cont_loc, putB_hdl, putB_loc, putH_nw, putR_fz, putR_nwl, putR_nwt, putR_nwd, putR_loc, leaveR_fz, leaveR_nw, leaveR_loc, List.getElem?_cons_zero, List.getElem?_cons_succ, List.length_cons, List.length_nil, List.set_cons_zero, List.set_cons_succ, decide_true, decide_false, if_true, if_false, Bool.not_true, Bool.not_false, Bool.false_eq_true, true_and, and_true, Nat.reduceAdd, Nat.reduceLT, Nat.reduceLeDiff, Nat.zero_add, reduceIte, and_self, eq_self, wE_sSetF, wE_sFrz, frzS_nil, frzS_cons, wE_mSl, wE_pNo, wE_pSome, wE_mM1, wE_mAnd, wE_mOr, wE_mChain, wE_mDct, truthD_bl, gNeg_int, view_exc, gFz_lt, gT_tup, gC_cons, gN_nil, tyD_lst, oE_none, wE_sFldS, e1, app_get, gs_c, app_set]
  rintro _ rfl
  rw [wE_sFldS]
  refine dcomp_ok (fun z => .inr (unN z)) (fun z => z) [.fz (.hdl S.length), .fz (.lst (strL s.rooms)), .fz (.lst (s.doors.map doorD)), .un] (S ++ [.obj "Sort" [("chambers", .lst (strL s.rooms))]]) .un (s.doors.map doorD) ?_ rfl (fun _ z => by cases z) ?_ ?_ ?_ ?_ ?_
  · simp only [wE_bCons, wE_sIf, wE_bNil, wE_mBool, wE_mTruth, wE_tmAnd, wE_tmOr, wE_tmNot, wE_mBin, wE_mUn, wE_m1, wE_mVar, wE_m2, wE_mC, wE_sSet, wE_sSetH, wE_sPut, wE_sRet, wE_sDrop, wE_sUnp, wE_sPend, mPend_nil, mPend_cons, pend_fz, pend_nwl, pend_loc, putL_nil, putL_fz, putL_nw, fzL_nil, fzL_cons, wE_mLst, wE_mTup, wE_mCB, wE_mCall, wE_mMut, wE_mSeq, wE_mRng1, wE_for, wE_mDisp, wE_mPairs_nil, wE_mPairs_cons, wE_tmYes, wE_ok, wE_mIfE, wE_maCons, wE_maNil, views_cons, views_nil, vals_cons, vals_nil, Option.bind_some, Option.map_some, settle_fz, settle_loc, settle_nw, view_hdl, view_int, view_str, view_bl, view_lst, view_tup, view_ro, view_loc, view_nw, view_dct, oE_some, gCmpI_int, gAdd_int, gSub_int, toVal_fz, toVal_nw, toVal_loc, cont_hdl, cont_loc, putB_hdl, putB_loc, putH_nw, putR_fz, putR_nwl, putR_nwt, putR_nwd, putR_loc, leaveR_fz, leaveR_nw, leaveR_loc, List.getElem?_cons_zero, List.getElem?_cons_succ, List.length_cons, List.length_nil, List.set_cons_zero, List.set_cons_succ, decide_true, decide_false, if_true, if_false, Bool.not_true, Bool.not_false, Bool.false_eq_true, true_and, and_true, Nat.reduceAdd, Nat.reduceLT, Nat.reduceLeDiff, Nat.zero_add, reduceIte, and_self, eq_self, wE_sSetF, wE_sFrz, frzS_nil, frzS_cons, wE_mSl, wE_pNo, wE_pSome, wE_mM1, wE_mAnd, wE_mOr, wE_mChain, wE_mDct, truthD_bl, gNeg_int, view_exc, gFz_lt, gT_tup, gC_cons, gN_nil, tyD_lst, oE_none, e2]
  · rw [List.length_map]; exact big (by have := h.dl; omega)
  · intro z hz
    obtain ⟨d, hd, rfl⟩ := List.mem_map.mp hz
    have ei : gIx (doorD d) (.int 0) = some (.fz (.str d.n)) := rfl
    have ev : ∀ c, view c (.fz (doorD d)) = some (doorD d) := fun _ => rfl
    simp only [wE_bCons, wE_sIf, wE_bNil, wE_mBool, wE_mTruth, wE_tmAnd, wE_tmOr, wE_tmNot, wE_mBin, wE_mUn, wE_m1, wE_mVar, wE_m2, wE_mC, wE_sSet, wE_sSetH, wE_sPut, wE_sRet, wE_sDrop, wE_sUnp, wE_sPend, mPend_nil, mPend_cons, pend_fz, pend_nwl, pend_loc, putL_nil, putL_fz, putL_nw, fzL_nil, fzL_cons, wE_mLst, wE_mTup, wE_mCB, wE_mCall, wE_mMut, wE_mSeq, wE_mRng1, wE_for, wE_mDisp, wE_mPairs_nil, wE_mPairs_cons, wE_tmYes, wE_ok, wE_mIfE, wE_maCons, wE_maNil, views_cons, views_nil, vals_cons, vals_nil, Option.bind_some, Option.map_some, settle_fz, settle_loc, settle_nw, view_hdl, view_int, view_str, view_bl, view_lst, view_tup, view_ro, view_loc, view_nw, view_dct, oE_some, gCmpI_int, gAdd_int, gSub_int, toVal_fz, toVal_nw, toVal_loc, cont_hdl, cont_loc, putB_hdl, putB_loc, putH_nw, putR_fz, putR_nwl, putR_nwt, putR_nwd, putR_loc, leaveR_fz, leaveR_nw, leaveR_loc, List.getElem?_cons_zero, List.getElem?_cons_succ, List.length_cons, List.length_nil, List.set_cons_zero, List.set_cons_succ, decide_true, decide_false, if_true, if_false, Bool.not_true, Bool.not_false, Bool.false_eq_true, true_and, and_true, Nat.reduceAdd, Nat.reduceLT, Nat.reduceLeDiff, Nat.zero_add, reduceIte, and_self, eq_self, wE_sSetF, wE_sFrz, frzS_nil, frzS_cons, wE_mSl, wE_pNo, wE_pSome, wE_mM1, wE_mAnd, wE_mOr, wE_mChain, wE_mDct, truthD_bl, gNeg_int, view_exc, gFz_lt, gT_tup, gC_cons, gN_nil, tyD_lst, oE_none, ev, ei, keyD]
    rfl
  · intro z hz
    obtain ⟨d, hd, rfl⟩ := List.mem_map.mp hz
    have ei : g1 gTuple [doorD d] = some (.fz (doorD d)) := rfl
    have ev : ∀ c, view c (.fz (doorD d)) = some (doorD d) := fun _ => rfl
    simp only [wE_bCons, wE_sIf, wE_bNil, wE_mBool, wE_mTruth, wE_tmAnd, wE_tmOr, wE_tmNot, wE_mBin, wE_mUn, wE_m1, wE_mVar, wE_m2, wE_mC, wE_sSet, wE_sSetH, wE_sPut, wE_sRet, wE_sDrop, wE_sUnp, wE_sPend, mPend_nil, mPend_cons, pend_fz, pend_nwl, pend_loc, putL_nil, putL_fz, putL_nw, fzL_nil, fzL_cons, wE_mLst, wE_mTup, wE_mCB, wE_mCall, wE_mMut, wE_mSeq, wE_mRng1, wE_for, wE_mDisp, wE_mPairs_nil, wE_mPairs_cons, wE_tmYes, wE_ok, wE_mIfE, wE_maCons, wE_maNil, views_cons, views_nil, vals_cons, vals_nil, Option.bind_some, Option.map_some, settle_fz, settle_loc, settle_nw, view_hdl, view_int, view_str, view_bl, view_lst, view_tup, view_ro, view_loc, view_nw, view_dct, oE_some, gCmpI_int, gAdd_int, gSub_int, toVal_fz, toVal_nw, toVal_loc, cont_hdl, cont_loc, putB_hdl, putB_loc, putH_nw, putR_fz, putR_nwl, putR_nwt, putR_nwd, putR_loc, leaveR_fz, leaveR_nw, leaveR_loc, List.getElem?_cons_zero, List.getElem?_cons_succ, List.length_cons, List.length_nil, List.set_cons_zero, List.set_cons_succ, decide_true, decide_false, if_true, if_false, Bool.not_true, Bool.not_false, Bool.false_eq_true, true_and, and_true, Nat.reduceAdd, Nat.reduceLT, Nat.reduceLeDiff, Nat.zero_add, reduceIte, and_self, eq_self, wE_sSetF, wE_sFrz, frzS_nil, frzS_cons, wE_mSl, wE_pNo, wE_pSome, wE_mM1, wE_mAnd, wE_mOr, wE_mChain, wE_mDct, truthD_bl, gNeg_int, view_exc, gFz_lt, gT_tup, gC_cons, gN_nil, tyD_lst, oE_none, ev, ei]
  · rw [List.map_map]
    have : ((fun z => (.inr (unN z) : Key)) ∘ doorD) = fun d : Dr => (.inr d.n : Key) := by funext d; rfl
    rw [this]
    have e3 : (s.doors.map fun d => (.inr d.n : Key)) = (s.doors.map (·.n)).map Sum.inr := by simp
    rw [e3]
    exact h.nd.map _ fun a b hab e => hab (Sum.inr.inj e)
  · have e3 : (s.doors.map doorD).map (fun d => ((.inr (unN d) : Key), d)) = fkv s.doors := by
      unfold fkv
      rw [List.map_map]; rfl
    rw [e3]
    simp only [wE_bCons, wE_sIf, wE_bNil, wE_mBool, wE_mTruth, wE_tmAnd, wE_tmOr, wE_tmNot, wE_mBin, wE_mUn, wE_m1, wE_mVar, wE_m2, wE_mC, wE_sSet, wE_sSetH, wE_sPut, wE_sRet, wE_sDrop, wE_sUnp, wE_sPend, mPend_nil, mPend_cons, pend_fz, pend_nwl, pend_loc, putL_nil, putL_fz, putL_nw, fzL_nil, fzL_cons, wE_mLst, wE_mTup, wE_mCB, wE_mCall, wE_mMut, wE_mSeq, wE_mRng1, wE_for, wE_mDisp, wE_mPairs_nil, wE_mPairs_cons, wE_tmYes, wE_ok, wE_mIfE, wE_maCons, wE_maNil, views_cons, views_nil, vals_cons, vals_nil, Option.bind_some, Option.map_some, settle_fz, settle_loc, settle_nw, view_hdl, view_int, view_str, view_bl, view_lst, view_tup, view_ro, view_loc, view_nw, view_dct, oE_some, gCmpI_int, gAdd_int, gSub_int, toVal_fz, toVal_nw, toVal_loc, cont_hdl, cont_loc, putB_hdl, putB_loc, putH_nw, putR_fz, putR_nwl, putR_nwt, putR_nwd, putR_loc, leaveR_fz, leaveR_nw, leaveR_loc, List.getElem?_cons_zero, List.getElem?_cons_succ, List.length_cons, List.length_nil, List.set_cons_zero, List.set_cons_succ, decide_true, decide_false, if_true, if_false, Bool.not_true, Bool.not_false, Bool.false_eq_true, true_and, and_true, Nat.reduceAdd, Nat.reduceLT, Nat.reduceLeDiff, Nat.zero_add, reduceIte, and_self, eq_self, wE_sSetF, wE_sFrz, frzS_nil, frzS_cons, wE_mSl, wE_pNo, wE_pSome, wE_mM1, wE_mAnd, wE_mOr, wE_mChain, wE_mDct, truthD_bl, gNeg_int, view_exc, gFz_lt, gT_tup, gC_cons, gN_nil, tyD_lst, oE_none, app_get, gs_g, app_set]
    rfl
theorem kx_t : ¬ ("left_one" : Str) = "right_one" ∧ ¬ ("left_one" : Str) = "begin" ∧ ¬ ("left_one" : Str) = "strange" ∧ ¬ ("right_one" : Str) = "begin" ∧ ¬ ("right_one" : Str) = "strange" ∧ ¬ ("begin" : Str) = "strange" := by decide +kernel
theorem gt_1 {a : D} : gStF ["Street"] "left_one" (.obj "Street" []) a = some (.obj "Street" [("left_one", a)]) := by simp [gStF, putFd]
theorem gt_2 {a b : D} : gStF ["Street"] "right_one" (.obj "Street" [("left_one", a)]) b = some (.obj "Street" [("left_one", a), ("right_one", b)]) := by simp [gStF, putFd, kx_t.1]
theorem gt_3 {a b c : D} : gStF ["Street"] "begin" (.obj "Street" [("left_one", a), ("right_one", b)]) c = some (.obj "Street" [("left_one", a), ("right_one", b), ("begin", c)]) := by simp [gStF, putFd, kx_t.2.1, kx_t.2.2.2.1]
theorem gt_4 {a b c d : D} : gStF ["Street"] "strange" (.obj "Street" [("left_one", a), ("right_one", b), ("begin", c)]) d = some (.obj "Street" [("left_one", a), ("right_one", b), ("begin", c), ("strange", d)]) := by simp [gStF, putFd, kx_t.2.2.1, kx_t.2.2.2.2.1, kx_t.2.2.2.2.2]
theorem view_sO {s : Srt} {c : Cf} : view c (.fz (sO s)) = some (sO s) := rfl
theorem view_tO {t : Stt} {c : Cf} : view c (.fz (tO t)) = some (tO t) := rfl
theorem view_sD {s : Srt} {c : Cf} : view c (.fz (sD s)) = some (sD s) := rfl
theorem view_tD {t : Stt} {c : Cf} : view c (.fz (tD t)) = some (tD t) := rfl
theorem view_doorD {d : Dr} {c : Cf} : view c (.fz (doorD d)) = some (doorD d) := rfl
theorem street_init {t : Stt} {S : List D} : m_Street___init__ [.hdl S.length, sO t.l, .int t.f, .lst (t.o.map sO), sO t.r] (S ++ [.obj "Street" []]) = .ok (.fz .non) ⟨[], S ++ [tO t]⟩ := by
  apply eq_of
  apply wE_runF
  show wE (b_Street___init__ ⟨[.fz (.hdl S.length), .fz (sO t.l), .fz (.int t.f), .fz (.lst (t.o.map sO)), .fz (sO t.r)], S ++ [.obj "Street" []]⟩) _
  simp only [wE_bCons, wE_sIf, wE_bNil, wE_mBool, wE_mTruth, wE_tmAnd, wE_tmOr, wE_tmNot, wE_mBin, wE_mUn, wE_m1, wE_mVar, wE_m2, wE_mC, wE_sSet, wE_sSetH, wE_sPut, wE_sRet, wE_sDrop, wE_sUnp, wE_sPend, mPend_nil, mPend_cons, pend_fz, pend_nwl, pend_loc, putL_nil, putL_fz, putL_nw, fzL_nil, fzL_cons, wE_mLst, wE_mTup, wE_mCB, wE_mCall, wE_mMut, wE_mSeq, wE_mRng1, wE_for, wE_mDisp, wE_mPairs_nil, wE_mPairs_cons, wE_tmYes, wE_ok, wE_mIfE, wE_maCons, wE_maNil, views_cons, views_nil, vals_cons, vals_nil, Option.bind_some, Option.map_some, settle_fz, settle_loc, settle_nw, view_hdl, view_int, view_str, view_bl, view_lst, view_tup, view_ro, view_loc, view_nw, view_dct, oE_some, gCmpI_int, gAdd_int, gSub_int, toVal_fz, toVal_nw, toVal_loc, cont_hdl, cont_loc, putB_hdl, putB_loc, putH_nw, putR_fz, putR_nwl, putR_nwt, putR_nwd, putR_loc, leaveR_fz, leaveR_nw, leaveR_loc, List.getElem?_cons_zero, List.getElem?_cons_succ, List.length_cons, List.length_nil, List.set_cons_zero, List.set_cons_succ, decide_true, decide_false, if_true, if_false, Bool.not_true, Bool.not_false, Bool.false_eq_true, true_and, and_true, Nat.reduceAdd, Nat.reduceLT, Nat.reduceLeDiff, Nat.zero_add, reduceIte, and_self, eq_self, wE_sSetF, wE_sFrz, frzS_nil, frzS_cons, wE_mSl, wE_pNo, wE_pSome, wE_mM1, wE_mAnd, wE_mOr, wE_mChain, wE_mDct, truthD_bl, gNeg_int, view_exc, gFz_lt, gT_tup, gC_cons, gN_nil, tyD_lst, oE_none, b_Street___init__, wE_sFldS, app_get, app_set, gt_1, gt_2, gt_3, gt_4, gList_lst]
  rfl
theorem ix_left {a b c d : D} : gIx (.dct [(.inr "left", a), (.inr "first", b), (.inr "odd", c), (.inr "right", d)]) (.str "left") = some (.fz a) := by simp [gIx, keyD, getK]
theorem ix_first {a b c d : D} : gIx (.dct [(.inr "left", a), (.inr "first", b), (.inr "odd", c), (.inr "right", d)]) (.str "first") = some (.fz b) := by simp [gIx, keyD, getK, kx_s.1]
theorem ix_odd {a b c d : D} : gIx (.dct [(.inr "left", a), (.inr "first", b), (.inr "odd", c), (.inr "right", d)]) (.str "odd") = some (.fz c) := by simp [gIx, keyD, getK, kx_s.2.1, kx_s.2.2.2.1]
theorem ix_right {a b c d : D} : gIx (.dct [(.inr "left", a), (.inr "first", b), (.inr "odd", c), (.inr "right", d)]) (.str "right") = some (.fz d) := by simp [gIx, keyD, getK, kx_s.2.2.1, kx_s.2.2.2.2.1, kx_s.2.2.2.2.2]
theorem made_eq {t : Stt} {S : List D} (h : Td t) (hS : clean S) : m__law_made [tD t] S = .ok (.nw (tO t)) ⟨[], S⟩ := by
  apply eq_of
  apply wE_runF
  show wE (b__law_made ⟨[.fz (tD t), .un, .un], S⟩) _
  unfold b__law_made
  have hol := h.ol
  have z2 : 2 ≤ sizeLine := big64 (by decide)
  have all : ∀ s ∈ t.l :: t.r :: t.o, Sd s := fun s hs => by
    rcases List.mem_cons.mp hs with rfl | hs
    · exact h.l
    · rcases List.mem_cons.mp hs with rfl | hs
      · exact h.r
      · exact h.o s hs
  refine wE_seqE (P := fun c => c = ⟨[.fz (tD t), .fz (.lst ((t.l :: t.r :: t.o).map sO)), .un], S⟩) ?_ ?_
  · rw [wE_sSetF]
    refine comp_st (fun i acc S' => acc = ((t.l :: t.r :: t.o).take i).map sO ∧ S' = S) [.fz (tD t), .un, .un] S .un ((t.l :: t.r :: t.o).map sD) ?_ rfl (fun _ z => by cases z) ?_ ⟨rfl, rfl⟩ ?_ ?_
    · have ea : gAdd (.lst [sD t.l, sD t.r]) (.lst (t.o.map sD)) = some (.nw (.lst ((t.l :: t.r :: t.o).map sD))) := by
        rw [gAdd_lst (by rw [List.length_map]; exact big (by show 2 + _ ≤ _; omega))]; rfl
      have e1 := ix_left (a := sD t.l) (b := .int t.f) (c := .lst (t.o.map sD)) (d := sD t.r)
      have e2 := ix_right (a := sD t.l) (b := .int t.f) (c := .lst (t.o.map sD)) (d := sD t.r)
      have e3 := ix_odd (a := sD t.l) (b := .int t.f) (c := .lst (t.o.map sD)) (d := sD t.r)
      simp only [wE_bCons, wE_sIf, wE_bNil, wE_mBool, wE_mTruth, wE_tmAnd, wE_tmOr, wE_tmNot, wE_mBin, wE_mUn, wE_m1, wE_mVar, wE_m2, wE_mC, wE_sSet, wE_sSetH, wE_sPut, wE_sRet, wE_sDrop, wE_sUnp, wE_sPend, mPend_nil, mPend_cons, pend_fz, pend_nwl, pend_loc, putL_nil, putL_fz, putL_nw, fzL_nil, fzL_cons, wE_mLst, wE_mTup, wE_mCB, wE_mCall, wE_mMut, wE_mSeq, wE_mRng1, wE_for, wE_mDisp, wE_mPairs_nil, wE_mPairs_cons, wE_tmYes, wE_ok, wE_mIfE, wE_maCons, wE_maNil, views_cons, views_nil, vals_cons, vals_nil, Option.bind_some, Option.map_some, settle_fz, settle_loc, settle_nw, view_hdl, view_int, view_str, view_bl, view_lst, view_tup, view_ro, view_loc, view_nw, view_dct, oE_some, gCmpI_int, gAdd_int, gSub_int, toVal_fz, toVal_nw, toVal_loc, cont_hdl, cont_loc, putB_hdl, putB_loc, putH_nw, putR_fz, putR_nwl, putR_nwt, putR_nwd, putR_loc, leaveR_fz, leaveR_nw, leaveR_loc, List.getElem?_cons_zero, List.getElem?_cons_succ, List.length_cons, List.length_nil, List.set_cons_zero, List.set_cons_succ, decide_true, decide_false, if_true, if_false, Bool.not_true, Bool.not_false, Bool.false_eq_true, true_and, and_true, Nat.reduceAdd, Nat.reduceLT, Nat.reduceLeDiff, Nat.zero_add, reduceIte, and_self, eq_self, wE_sSetF, wE_sFrz, frzS_nil, frzS_cons, wE_mSl, wE_pNo, wE_pSome, wE_mM1, wE_mAnd, wE_mOr, wE_mChain, wE_mDct, truthD_bl, gNeg_int, view_exc, gFz_lt, gT_tup, gC_cons, gN_nil, tyD_lst, oE_none, tD, e1, e2, e3, z2, ea]
    · rw [List.length_map]; exact big (by simp only [List.length_cons]; omega)
    · rintro i d acc S' hd hacc ⟨rfl, rfl⟩
      rw [List.getElem?_map] at hd
      obtain ⟨s, hs, rfl⟩ := Option.map_eq_some_iff.mp hd
      have e1 : gIx (sD s) (.str "rooms") = some (.fz (.lst (strL s.rooms))) := ix_rooms
      have e2 : gIx (sD s) (.str "doors") = some (.fz (.lst (s.doors.map doorD))) := ix_doors
      have mk := mkRes_ok (cn := "Sort") (F := m_Sort___init__) (ds := [.lst (strL s.rooms), .lst (s.doors.map doorD)]) (c := ⟨[.fz (tD t), .un, .fz (sD s)], S'⟩) (d := sO s) (sort_init (all s (List.mem_of_getElem? hs))) (hS _) noH_sO
      simp only [wE_bCons, wE_sIf, wE_bNil, wE_mBool, wE_mTruth, wE_tmAnd, wE_tmOr, wE_tmNot, wE_mBin, wE_mUn, wE_m1, wE_mVar, wE_m2, wE_mC, wE_sSet, wE_sSetH, wE_sPut, wE_sRet, wE_sDrop, wE_sUnp, wE_sPend, mPend_nil, mPend_cons, pend_fz, pend_nwl, pend_loc, putL_nil, putL_fz, putL_nw, fzL_nil, fzL_cons, wE_mLst, wE_mTup, wE_mCB, wE_mCall, wE_mMut, wE_mSeq, wE_mRng1, wE_for, wE_mDisp, wE_mPairs_nil, wE_mPairs_cons, wE_tmYes, wE_ok, wE_mIfE, wE_maCons, wE_maNil, views_cons, views_nil, vals_cons, vals_nil, Option.bind_some, Option.map_some, settle_fz, settle_loc, settle_nw, view_hdl, view_int, view_str, view_bl, view_lst, view_tup, view_ro, view_loc, view_nw, view_dct, oE_some, gCmpI_int, gAdd_int, gSub_int, toVal_fz, toVal_nw, toVal_loc, cont_hdl, cont_loc, putB_hdl, putB_loc, putH_nw, putR_fz, putR_nwl, putR_nwt, putR_nwd, putR_loc, leaveR_fz, leaveR_nw, leaveR_loc, List.getElem?_cons_zero, List.getElem?_cons_succ, List.length_cons, List.length_nil, List.set_cons_zero, List.set_cons_succ, decide_true, decide_false, if_true, if_false, Bool.not_true, Bool.not_false, Bool.false_eq_true, true_and, and_true, Nat.reduceAdd, Nat.reduceLT, Nat.reduceLeDiff, Nat.zero_add, reduceIte, and_self, eq_self, wE_sSetF, wE_sFrz, frzS_nil, frzS_cons, wE_mSl, wE_pNo, wE_pSome, wE_mM1, wE_mAnd, wE_mOr, wE_mChain, wE_mDct, truthD_bl, gNeg_int, view_exc, gFz_lt, gT_tup, gC_cons, gN_nil, tyD_lst, oE_none, wE_mMake, view_sD, e1, e2, mk]
      rw [take_succ_get hs, List.map_append]; rfl
    · rintro acc S' ⟨rfl, rfl⟩ _
      rw [List.length_map, List.take_length]
      simp only [wE_bCons, wE_sIf, wE_bNil, wE_mBool, wE_mTruth, wE_tmAnd, wE_tmOr, wE_tmNot, wE_mBin, wE_mUn, wE_m1, wE_mVar, wE_m2, wE_mC, wE_sSet, wE_sSetH, wE_sPut, wE_sRet, wE_sDrop, wE_sUnp, wE_sPend, mPend_nil, mPend_cons, pend_fz, pend_nwl, pend_loc, putL_nil, putL_fz, putL_nw, fzL_nil, fzL_cons, wE_mLst, wE_mTup, wE_mCB, wE_mCall, wE_mMut, wE_mSeq, wE_mRng1, wE_for, wE_mDisp, wE_mPairs_nil, wE_mPairs_cons, wE_tmYes, wE_ok, wE_mIfE, wE_maCons, wE_maNil, views_cons, views_nil, vals_cons, vals_nil, Option.bind_some, Option.map_some, settle_fz, settle_loc, settle_nw, view_hdl, view_int, view_str, view_bl, view_lst, view_tup, view_ro, view_loc, view_nw, view_dct, oE_some, gCmpI_int, gAdd_int, gSub_int, toVal_fz, toVal_nw, toVal_loc, cont_hdl, cont_loc, putB_hdl, putB_loc, putH_nw, putR_fz, putR_nwl, putR_nwt, putR_nwd, putR_loc, leaveR_fz, leaveR_nw, leaveR_loc, List.getElem?_cons_zero, List.getElem?_cons_succ, List.length_cons, List.length_nil, List.set_cons_zero, List.set_cons_succ, decide_true, decide_false, if_true, if_false, Bool.not_true, Bool.not_false, Bool.false_eq_true, true_and, and_true, Nat.reduceAdd, Nat.reduceLT, Nat.reduceLeDiff, Nat.zero_add, reduceIte, and_self, eq_self, wE_sSetF, wE_sFrz, frzS_nil, frzS_cons, wE_mSl, wE_pNo, wE_pSome, wE_mM1, wE_mAnd, wE_mOr, wE_mChain, wE_mDct, truthD_bl, gNeg_int, view_exc, gFz_lt, gT_tup, gC_cons, gN_nil, tyD_lst, oE_none]
  rintro _ rfl
  have e1 : gIx (.lst ((t.l :: t.r :: t.o).map sO)) (.int 0) = some (.fz (sO t.l)) := gIx_head
  have e2 : gIx (.lst ((t.l :: t.r :: t.o).map sO)) (.int 1) = some (.fz (sO t.r)) := by
    show (atI ((t.l :: t.r :: t.o).map sO) ((1 : Nat) : Int)).map Rv.fz = _
    rw [atI_natE]; rfl
  have e3 : gSl (.lst ((t.l :: t.r :: t.o).map sO)) (some 2) none = some (.nw (.lst (t.o.map sO))) := by rw [gSl_lst, cutL_from (by decide)]; rfl
  have e4 : gIx (tD t) (.str "first") = some (.fz (.int t.f)) := ix_first
  have mk := mkRes_ok (cn := "Street") (F := m_Street___init__) (ds := [sO t.l, .int t.f, .lst (t.o.map sO), sO t.r]) (c := ⟨[.fz (tD t), .fz (.lst ((t.l :: t.r :: t.o).map sO)), .un], S⟩) (d := tO t) street_init (hS _) noH_tO
  simp only [wE_bCons, wE_sIf, wE_bNil, wE_mBool, wE_mTruth, wE_tmAnd, wE_tmOr, wE_tmNot, wE_mBin, wE_mUn, wE_m1, wE_mVar, wE_m2, wE_mC, wE_sSet, wE_sSetH, wE_sPut, wE_sRet, wE_sDrop, wE_sUnp, wE_sPend, mPend_nil, mPend_cons, pend_fz, pend_nwl, pend_loc, putL_nil, putL_fz, putL_nw, fzL_nil, fzL_cons, wE_mLst, wE_mTup, wE_mCB, wE_mCall, wE_mMut, wE_mSeq, wE_mRng1, wE_for, wE_mDisp, wE_mPairs_nil, wE_mPairs_cons, wE_tmYes, wE_ok, wE_mIfE, wE_maCons, wE_maNil, views_cons, views_nil, vals_cons, vals_nil, Option.bind_some, Option.map_some, settle_fz, settle_loc, settle_nw, view_hdl, view_int, view_str, view_bl, view_lst, view_tup, view_ro, view_loc, view_nw, view_dct, oE_some, gCmpI_int, gAdd_int, gSub_int, toVal_fz, toVal_nw, toVal_loc, cont_hdl, cont_loc, putB_hdl, putB_loc, putH_nw, putR_fz, putR_nwl, putR_nwt, putR_nwd, putR_loc, leaveR_fz, leaveR_nw, leaveR_loc, List.getElem?_cons_zero, List.getElem?_cons_succ, List.length_cons, List.length_nil, List.set_cons_zero, List.set_cons_succ, decide_true, decide_false, if_true, if_false, Bool.not_true, Bool.not_false, Bool.false_eq_true, true_and, and_true, Nat.reduceAdd, Nat.reduceLT, Nat.reduceLeDiff, Nat.zero_add, reduceIte, and_self, eq_self, wE_sSetF, wE_sFrz, frzS_nil, frzS_cons, wE_mSl, wE_pNo, wE_pSome, wE_mM1, wE_mAnd, wE_mOr, wE_mChain, wE_mDct, truthD_bl, gNeg_int, view_exc, gFz_lt, gT_tup, gC_cons, gN_nil, tyD_lst, oE_none, wE_mMake, view_tD, e1, e2, e3, e4, mk]
theorem gIsi_str {x : Str} : gIsi "str" (.str x) = some (.fz (.bl true)) := by
  unfold gIsi tyN
  have : kitB "str" "str" = some true := by decide +kernel
  rw [Option.bind_some, this]; rfl
/-! ### houses, doors, steps -/
def atT (t : Stt) (h : Int) : Srt := if h - t.f < 0 then t.l else if h - t.f < t.o.length then (t.o[(h - t.f).toNat]?).getD t.r else t.r
theorem atT_sd {t : Stt} (h : Td t) (x : Int) : Sd (atT t x) := by
  unfold atT
  split
  · exact h.l
  · split
    · cases e : t.o[(x - t.f).toNat]? with
      | none => exact h.r
      | some s => exact h.o s (List.mem_of_getElem? e)
    · exact h.r
theorem odd_get {t : Stt} {x : Int} {f : Srt → D} (h0 : ¬ x - t.f < 0) (h1 : x - t.f < t.o.length) : gIx (.lst (t.o.map f)) (.int (x - t.f)) = some (.fz (f (atT t x))) := by
  obtain ⟨k, hk⟩ : ∃ k : Nat, x - t.f = k := ⟨(x - t.f).toNat, by omega⟩
  have hl : k < t.o.length := by omega
  have ea : atT t x = t.o[k] := by
    unfold atT
    rw [if_neg h0, if_pos h1, hk, Int.toNat_natCast, List.getElem?_eq_getElem hl]; rfl
  rw [ea, hk, gIx_lst, atI_natE, List.getElem?_map, List.getElem?_eq_getElem hl]; rfl
theorem law_at_eq {t : Stt} {x : Int} {S : List D} : m__law_at [tD t, .int x] S = .ok (.fz (sD (atT t x))) ⟨[], S⟩ := by
  apply eq_of
  apply wE_runF
  show wE (b__law_at ⟨[.fz (tD t), .fz (.int x), .un], S⟩) _
  have e1 : gIx (tD t) (.str "first") = some (.fz (.int t.f)) := ix_first
  have e2 : gIx (tD t) (.str "left") = some (.fz (sD t.l)) := ix_left
  have e3 : gIx (tD t) (.str "right") = some (.fz (sD t.r)) := ix_right
  have e4 : gIx (tD t) (.str "odd") = some (.fz (.lst (t.o.map sD))) := ix_odd
  by_cases h0 : x - t.f < 0
  · have d0 : decide (x - t.f < 0) = true := by simpa using h0
    have ea : atT t x = t.l := by unfold atT; rw [if_pos h0]
    simp only [wE_bCons, wE_sIf, wE_bNil, wE_mBool, wE_mTruth, wE_tmAnd, wE_tmOr, wE_tmNot, wE_mBin, wE_mUn, wE_m1, wE_mVar, wE_m2, wE_mC, wE_sSet, wE_sSetH, wE_sPut, wE_sRet, wE_sDrop, wE_sUnp, wE_sPend, mPend_nil, mPend_cons, pend_fz, pend_nwl, pend_loc, putL_nil, putL_fz, putL_nw, fzL_nil, fzL_cons, wE_mLst, wE_mTup, wE_mCB, wE_mCall, wE_mMut, wE_mSeq, wE_mRng1, wE_for, wE_mDisp, wE_mPairs_nil, wE_mPairs_cons, wE_tmYes, wE_ok, wE_mIfE, wE_maCons, wE_maNil, views_cons, views_nil, vals_cons, vals_nil, Option.bind_some, Option.map_some, settle_fz, settle_loc, settle_nw, view_hdl, view_int, view_str, view_bl, view_lst, view_tup, view_ro, view_loc, view_nw, view_dct, oE_some, gCmpI_int, gAdd_int, gSub_int, toVal_fz, toVal_nw, toVal_loc, cont_hdl, cont_loc, putB_hdl, putB_loc, putH_nw, putR_fz, putR_nwl, putR_nwt, putR_nwd, putR_loc, leaveR_fz, leaveR_nw, leaveR_loc, List.getElem?_cons_zero, List.getElem?_cons_succ, List.length_cons, List.length_nil, List.set_cons_zero, List.set_cons_succ, decide_true, decide_false, if_true, if_false, Bool.not_true, Bool.not_false, Bool.false_eq_true, true_and, and_true, Nat.reduceAdd, Nat.reduceLT, Nat.reduceLeDiff, Nat.zero_add, reduceIte, and_self, eq_self, wE_sSetF, wE_sFrz, frzS_nil, frzS_cons, wE_mSl, wE_pNo, wE_pSome, wE_mM1, wE_mAnd, wE_mOr, wE_mChain, wE_mDct, truthD_bl, gNeg_int, view_exc, gFz_lt, gT_tup, gC_cons, gN_nil, tyD_lst, oE_none, b__law_at, view_tD, e1, e2, d0, ea]
  · have d0 : decide (x - t.f < 0) = false := by simpa using h0
    by_cases h1 : x - t.f < t.o.length
    · have d1 : decide (x - t.f < (t.o.length : Int)) = true := by simpa using h1
      have eg := odd_get (f := sD) h0 h1
      simp only [wE_bCons, wE_sIf, wE_bNil, wE_mBool, wE_mTruth, wE_tmAnd, wE_tmOr, wE_tmNot, wE_mBin, wE_mUn, wE_m1, wE_mVar, wE_m2, wE_mC, wE_sSet, wE_sSetH, wE_sPut, wE_sRet, wE_sDrop, wE_sUnp, wE_sPend, mPend_nil, mPend_cons, pend_fz, pend_nwl, pend_loc, putL_nil, putL_fz, putL_nw, fzL_nil, fzL_cons, wE_mLst, wE_mTup, wE_mCB, wE_mCall, wE_mMut, wE_mSeq, wE_mRng1, wE_for, wE_mDisp, wE_mPairs_nil, wE_mPairs_cons, wE_tmYes, wE_ok, wE_mIfE, wE_maCons, wE_maNil, views_cons, views_nil, vals_cons, vals_nil, Option.bind_some, Option.map_some, settle_fz, settle_loc, settle_nw, view_hdl, view_int, view_str, view_bl, view_lst, view_tup, view_ro, view_loc, view_nw, view_dct, oE_some, gCmpI_int, gAdd_int, gSub_int, toVal_fz, toVal_nw, toVal_loc, cont_hdl, cont_loc, putB_hdl, putB_loc, putH_nw, putR_fz, putR_nwl, putR_nwt, putR_nwd, putR_loc, leaveR_fz, leaveR_nw, leaveR_loc, List.getElem?_cons_zero, List.getElem?_cons_succ, List.length_cons, List.length_nil, List.set_cons_zero, List.set_cons_succ, decide_true, decide_false, if_true, if_false, Bool.not_true, Bool.not_false, Bool.false_eq_true, true_and, and_true, Nat.reduceAdd, Nat.reduceLT, Nat.reduceLeDiff, Nat.zero_add, reduceIte, and_self, eq_self, wE_sSetF, wE_sFrz, frzS_nil, frzS_cons, wE_mSl, wE_pNo, wE_pSome, wE_mM1, wE_mAnd, wE_mOr, wE_mChain, wE_mDct, truthD_bl, gNeg_int, view_exc, gFz_lt, gT_tup, gC_cons, gN_nil, tyD_lst, oE_none, b__law_at, view_tD, e1, e4, d0, gLen_lst, map_length, d1, eg]
    · have d1 : decide (x - t.f < (t.o.length : Int)) = false := by simpa using h1
      have ea : atT t x = t.r := by unfold atT; rw [if_neg h0, if_neg h1]
      simp only [wE_bCons, wE_sIf, wE_bNil, wE_mBool, wE_mTruth, wE_tmAnd, wE_tmOr, wE_tmNot, wE_mBin, wE_mUn, wE_m1, wE_mVar, wE_m2, wE_mC, wE_sSet, wE_sSetH, wE_sPut, wE_sRet, wE_sDrop, wE_sUnp, wE_sPend, mPend_nil, mPend_cons, pend_fz, pend_nwl, pend_loc, putL_nil, putL_fz, putL_nw, fzL_nil, fzL_cons, wE_mLst, wE_mTup, wE_mCB, wE_mCall, wE_mMut, wE_mSeq, wE_mRng1, wE_for, wE_mDisp, wE_mPairs_nil, wE_mPairs_cons, wE_tmYes, wE_ok, wE_mIfE, wE_maCons, wE_maNil, views_cons, views_nil, vals_cons, vals_nil, Option.bind_some, Option.map_some, settle_fz, settle_loc, settle_nw, view_hdl, view_int, view_str, view_bl, view_lst, view_tup, view_ro, view_loc, view_nw, view_dct, oE_some, gCmpI_int, gAdd_int, gSub_int, toVal_fz, toVal_nw, toVal_loc, cont_hdl, cont_loc, putB_hdl, putB_loc, putH_nw, putR_fz, putR_nwl, putR_nwt, putR_nwd, putR_loc, leaveR_fz, leaveR_nw, leaveR_loc, List.getElem?_cons_zero, List.getElem?_cons_succ, List.length_cons, List.length_nil, List.set_cons_zero, List.set_cons_succ, decide_true, decide_false, if_true, if_false, Bool.not_true, Bool.not_false, Bool.false_eq_true, true_and, and_true, Nat.reduceAdd, Nat.reduceLT, Nat.reduceLeDiff, Nat.zero_add, reduceIte, and_self, eq_self, wE_sSetF, wE_sFrz, frzS_nil, frzS_cons, wE_mSl, wE_pNo, wE_pSome, wE_mM1, wE_mAnd, wE_mOr, wE_mChain, wE_mDct, truthD_bl, gNeg_int, view_exc, gFz_lt, gT_tup, gC_cons, gN_nil, tyD_lst, oE_none, b__law_at, view_tD, e1, e3, e4, d0, gLen_lst, map_length, d1, ea]
theorem gf_chambers {s : Srt} : gFld ["Sort"] "chambers" (sO s) = some (.fz (.lst (strL s.rooms))) := by simp [gFld, sO]
theorem gf_gates {s : Srt} : gFld ["Sort"] "gates" (sO s) = some (.fz (.dct (fkv s.doors))) := by
  have : (("gates" : Str) == "chambers") = false := by decide +kernel
  simp [gFld, sO, List.lookup, this]
theorem kx_t' : (("right_one" : Str) == "left_one") = false ∧ (("begin" : Str) == "left_one") = false ∧ (("begin" : Str) == "right_one") = false ∧ (("strange" : Str) == "left_one") = false ∧ (("strange" : Str) == "right_one") = false ∧ (("strange" : Str) == "begin") = false := by decide +kernel
theorem gf_left {t : Stt} : gFld ["Street"] "left_one" (tO t) = some (.fz (sO t.l)) := by simp [gFld, tO]
theorem gf_right {t : Stt} : gFld ["Street"] "right_one" (tO t) = some (.fz (sO t.r)) := by simp [gFld, tO, List.lookup, kx_t']
theorem gf_begin {t : Stt} : gFld ["Street"] "begin" (tO t) = some (.fz (.int t.f)) := by simp [gFld, tO, List.lookup, kx_t']
theorem gf_strange {t : Stt} : gFld ["Street"] "strange" (tO t) = some (.fz (.lst (t.o.map sO))) := by simp [gFld, tO, List.lookup, kx_t']
theorem sort_at_eq {t : Stt} {x : Int} {S : List D} : m_Street_sort_at [tO t, .int x] S = .ok (.fz (sO (atT t x))) ⟨[], S⟩ := by
  apply eq_of
  apply wE_runF
  show wE (b_Street_sort_at ⟨[.fz (tO t), .fz (.int x), .un], S⟩) _
  by_cases h0 : x - t.f < 0
  · have d0 : decide (x - t.f < 0) = true := by simpa using h0
    have ea : atT t x = t.l := by unfold atT; rw [if_pos h0]
    simp only [wE_bCons, wE_sIf, wE_bNil, wE_mBool, wE_mTruth, wE_tmAnd, wE_tmOr, wE_tmNot, wE_mBin, wE_mUn, wE_m1, wE_mVar, wE_m2, wE_mC, wE_sSet, wE_sSetH, wE_sPut, wE_sRet, wE_sDrop, wE_sUnp, wE_sPend, mPend_nil, mPend_cons, pend_fz, pend_nwl, pend_loc, putL_nil, putL_fz, putL_nw, fzL_nil, fzL_cons, wE_mLst, wE_mTup, wE_mCB, wE_mCall, wE_mMut, wE_mSeq, wE_mRng1, wE_for, wE_mDisp, wE_mPairs_nil, wE_mPairs_cons, wE_tmYes, wE_ok, wE_mIfE, wE_maCons, wE_maNil, views_cons, views_nil, vals_cons, vals_nil, Option.bind_some, Option.map_some, settle_fz, settle_loc, settle_nw, view_hdl, view_int, view_str, view_bl, view_lst, view_tup, view_ro, view_loc, view_nw, view_dct, oE_some, gCmpI_int, gAdd_int, gSub_int, toVal_fz, toVal_nw, toVal_loc, cont_hdl, cont_loc, putB_hdl, putB_loc, putH_nw, putR_fz, putR_nwl, putR_nwt, putR_nwd, putR_loc, leaveR_fz, leaveR_nw, leaveR_loc, List.getElem?_cons_zero, List.getElem?_cons_succ, List.length_cons, List.length_nil, List.set_cons_zero, List.set_cons_succ, decide_true, decide_false, if_true, if_false, Bool.not_true, Bool.not_false, Bool.false_eq_true, true_and, and_true, Nat.reduceAdd, Nat.reduceLT, Nat.reduceLeDiff, Nat.zero_add, reduceIte, and_self, eq_self, wE_sSetF, wE_sFrz, frzS_nil, frzS_cons, wE_mSl, wE_pNo, wE_pSome, wE_mM1, wE_mAnd, wE_mOr, wE_mChain, wE_mDct, truthD_bl, gNeg_int, view_exc, gFz_lt, gT_tup, gC_cons, gN_nil, tyD_lst, oE_none, b_Street_sort_at, view_tO, gf_begin, gf_left, d0, ea]
  · have d0 : decide (x - t.f < 0) = false := by simpa using h0
    by_cases h1 : x - t.f < t.o.length
    · have d1 : decide (x - t.f < (t.o.length : Int)) = true := by simpa using h1
      have eg := odd_get (f := sO) h0 h1
      simp only [wE_bCons, wE_sIf, wE_bNil, wE_mBool, wE_mTruth, wE_tmAnd, wE_tmOr, wE_tmNot, wE_mBin, wE_mUn, wE_m1, wE_mVar, wE_m2, wE_mC, wE_sSet, wE_sSetH, wE_sPut, wE_sRet, wE_sDrop, wE_sUnp, wE_sPend, mPend_nil, mPend_cons, pend_fz, pend_nwl, pend_loc, putL_nil, putL_fz, putL_nw, fzL_nil, fzL_cons, wE_mLst, wE_mTup, wE_mCB, wE_mCall, wE_mMut, wE_mSeq, wE_mRng1, wE_for, wE_mDisp, wE_mPairs_nil, wE_mPairs_cons, wE_tmYes, wE_ok, wE_mIfE, wE_maCons, wE_maNil, views_cons, views_nil, vals_cons, vals_nil, Option.bind_some, Option.map_some, settle_fz, settle_loc, settle_nw, view_hdl, view_int, view_str, view_bl, view_lst, view_tup, view_ro, view_loc, view_nw, view_dct, oE_some, gCmpI_int, gAdd_int, gSub_int, toVal_fz, toVal_nw, toVal_loc, cont_hdl, cont_loc, putB_hdl, putB_loc, putH_nw, putR_fz, putR_nwl, putR_nwt, putR_nwd, putR_loc, leaveR_fz, leaveR_nw, leaveR_loc, List.getElem?_cons_zero, List.getElem?_cons_succ, List.length_cons, List.length_nil, List.set_cons_zero, List.set_cons_succ, decide_true, decide_false, if_true, if_false, Bool.not_true, Bool.not_false, Bool.false_eq_true, true_and, and_true, Nat.reduceAdd, Nat.reduceLT, Nat.reduceLeDiff, Nat.zero_add, reduceIte, and_self, eq_self, wE_sSetF, wE_sFrz, frzS_nil, frzS_cons, wE_mSl, wE_pNo, wE_pSome, wE_mM1, wE_mAnd, wE_mOr, wE_mChain, wE_mDct, truthD_bl, gNeg_int, view_exc, gFz_lt, gT_tup, gC_cons, gN_nil, tyD_lst, oE_none, b_Street_sort_at, view_tO, gf_begin, gf_strange, d0, gLen_lst, map_length, d1, eg]
    · have d1 : decide (x - t.f < (t.o.length : Int)) = false := by simpa using h1
      have ea : atT t x = t.r := by unfold atT; rw [if_neg h0, if_neg h1]
      simp only [wE_bCons, wE_sIf, wE_bNil, wE_mBool, wE_mTruth, wE_tmAnd, wE_tmOr, wE_tmNot, wE_mBin, wE_mUn, wE_m1, wE_mVar, wE_m2, wE_mC, wE_sSet, wE_sSetH, wE_sPut, wE_sRet, wE_sDrop, wE_sUnp, wE_sPend, mPend_nil, mPend_cons, pend_fz, pend_nwl, pend_loc, putL_nil, putL_fz, putL_nw, fzL_nil, fzL_cons, wE_mLst, wE_mTup, wE_mCB, wE_mCall, wE_mMut, wE_mSeq, wE_mRng1, wE_for, wE_mDisp, wE_mPairs_nil, wE_mPairs_cons, wE_tmYes, wE_ok, wE_mIfE, wE_maCons, wE_maNil, views_cons, views_nil, vals_cons, vals_nil, Option.bind_some, Option.map_some, settle_fz, settle_loc, settle_nw, view_hdl, view_int, view_str, view_bl, view_lst, view_tup, view_ro, view_loc, view_nw, view_dct, oE_some, gCmpI_int, gAdd_int, gSub_int, toVal_fz, toVal_nw, toVal_loc, cont_hdl, cont_loc, putB_hdl, putB_loc, putH_nw, putR_fz, putR_nwl, putR_nwt, putR_nwd, putR_loc, leaveR_fz, leaveR_nw, leaveR_loc, List.getElem?_cons_zero, List.getElem?_cons_succ, List.length_cons, List.length_nil, List.set_cons_zero, List.set_cons_succ, decide_true, decide_false, if_true, if_false, Bool.not_true, Bool.not_false, Bool.false_eq_true, true_and, and_true, Nat.reduceAdd, Nat.reduceLT, Nat.reduceLeDiff, Nat.zero_add, reduceIte, and_self, eq_self, wE_sSetF, wE_sFrz, frzS_nil, frzS_cons, wE_mSl, wE_pNo, wE_pSome, wE_mM1, wE_mAnd, wE_mOr, wE_mChain, wE_mDct, truthD_bl, gNeg_int, view_exc, gFz_lt, gT_tup, gC_cons, gN_nil, tyD_lst, oE_none, b_Street_sort_at, view_tO, gf_begin, gf_strange, gf_right, d0, gLen_lst, map_length, d1, ea]
theorem vals_fkv (ds : List Dr) : gVals (.dct (fkv ds)) = some (.nw (.lst (ds.map doorD))) := by
  show some (Rv.nw (.lst ((fkv ds).map (·.2)))) = _
  unfold fkv
  rw [List.map_map]; rfl
theorem sdoors_eq {s : Srt} {S : List D} : m_Sort_doors [sO s] S = .ok (.nw (.lst (s.doors.map doorD))) ⟨[], S⟩ := by
  apply eq_of
  apply wE_runF
  show wE (b_Sort_doors ⟨[.fz (sO s)], S⟩) _
  simp only [wE_bCons, wE_sIf, wE_bNil, wE_mBool, wE_mTruth, wE_tmAnd, wE_tmOr, wE_tmNot, wE_mBin, wE_mUn, wE_m1, wE_mVar, wE_m2, wE_mC, wE_sSet, wE_sSetH, wE_sPut, wE_sRet, wE_sDrop, wE_sUnp, wE_sPend, mPend_nil, mPend_cons, pend_fz, pend_nwl, pend_loc, putL_nil, putL_fz, putL_nw, fzL_nil, fzL_cons, wE_mLst, wE_mTup, wE_mCB, wE_mCall, wE_mMut, wE_mSeq, wE_mRng1, wE_for, wE_mDisp, wE_mPairs_nil, wE_mPairs_cons, wE_tmYes, wE_ok, wE_mIfE, wE_maCons, wE_maNil, views_cons, views_nil, vals_cons, vals_nil, Option.bind_some, Option.map_some, settle_fz, settle_loc, settle_nw, view_hdl, view_int, view_str, view_bl, view_lst, view_tup, view_ro, view_loc, view_nw, view_dct, oE_some, gCmpI_int, gAdd_int, gSub_int, toVal_fz, toVal_nw, toVal_loc, cont_hdl, cont_loc, putB_hdl, putB_loc, putH_nw, putR_fz, putR_nwl, putR_nwt, putR_nwd, putR_loc, leaveR_fz, leaveR_nw, leaveR_loc, List.getElem?_cons_zero, List.getElem?_cons_succ, List.length_cons, List.length_nil, List.set_cons_zero, List.set_cons_succ, decide_true, decide_false, if_true, if_false, Bool.not_true, Bool.not_false, Bool.false_eq_true, true_and, and_true, Nat.reduceAdd, Nat.reduceLT, Nat.reduceLeDiff, Nat.zero_add, reduceIte, and_self, eq_self, wE_sSetF, wE_sFrz, frzS_nil, frzS_cons, wE_mSl, wE_pNo, wE_pSome, wE_mM1, wE_mAnd, wE_mOr, wE_mChain, wE_mDct, truthD_bl, gNeg_int, view_exc, gFz_lt, gT_tup, gC_cons, gN_nil, tyD_lst, oE_none, b_Sort_doors, view_sO, gf_gates, vals_fkv]
theorem any_strs {x : Str} : ∀ ys : List Str, (strL ys).any (fun z => eqD z (.str x)) = decide (x ∈ ys)
  | [] => by simp [strL]
  | y :: ys => by
    show ((y == x) || (strL ys).any _) = _
    rw [any_strs ys]
    by_cases h : y = x
    · subst h; simp
    · have h' : ¬ x = y := fun e => h e.symm
      simp [h, h']
theorem okq_str {x : Str} (h : ∀ c ∈ x.cps.toList, c < 1114112) : okq (.str x) = true := by
  have e : pln (.str x) = true := by
    show (x.cps.all (· < 0x110000)) = true
    rw [Array.all_eq_true_iff_forall_mem]
    intro c hc
    have := h c (by simpa using hc)
    simpa using this
  unfold okq
  rw [e]; rfl
theorem gIn_names {x : Str} {ys : List Str} (hx : isN x = true) (hy : ∀ y ∈ ys, isN y = true) : gIn false (.str x) (.lst (strL ys)) = some (.fz (.bl (decide (x ∈ ys)))) := by
  show (if okq (.str x) && okq (.lst (strL ys)) then some (Rv.fz (.bl (((strL ys).any fun z => eqD z (.str x)) != false))) else none) = _
  rw [okq_str (isN_chr hx), okq_strs fun y h => isN_chr (hy y h), any_strs, Bool.bne_false]; rfl
theorem has_room_eq {s : Srt} {x : Str} {S : List D} (h : Sd s) (hx : isN x = true) : m_Sort_has_room [sO s, .str x] S = .ok (.fz (.bl (decide (x ∈ s.rooms)))) ⟨[], S⟩ := by
  apply eq_of
  apply wE_runF
  show wE (b_Sort_has_room ⟨[.fz (sO s), .fz (.str x)], S⟩) _
  simp only [wE_bCons, wE_sIf, wE_bNil, wE_mBool, wE_mTruth, wE_tmAnd, wE_tmOr, wE_tmNot, wE_mBin, wE_mUn, wE_m1, wE_mVar, wE_m2, wE_mC, wE_sSet, wE_sSetH, wE_sPut, wE_sRet, wE_sDrop, wE_sUnp, wE_sPend, mPend_nil, mPend_cons, pend_fz, pend_nwl, pend_loc, putL_nil, putL_fz, putL_nw, fzL_nil, fzL_cons, wE_mLst, wE_mTup, wE_mCB, wE_mCall, wE_mMut, wE_mSeq, wE_mRng1, wE_for, wE_mDisp, wE_mPairs_nil, wE_mPairs_cons, wE_tmYes, wE_ok, wE_mIfE, wE_maCons, wE_maNil, views_cons, views_nil, vals_cons, vals_nil, Option.bind_some, Option.map_some, settle_fz, settle_loc, settle_nw, view_hdl, view_int, view_str, view_bl, view_lst, view_tup, view_ro, view_loc, view_nw, view_dct, oE_some, gCmpI_int, gAdd_int, gSub_int, toVal_fz, toVal_nw, toVal_loc, cont_hdl, cont_loc, putB_hdl, putB_loc, putH_nw, putR_fz, putR_nwl, putR_nwt, putR_nwd, putR_loc, leaveR_fz, leaveR_nw, leaveR_loc, List.getElem?_cons_zero, List.getElem?_cons_succ, List.length_cons, List.length_nil, List.set_cons_zero, List.set_cons_succ, decide_true, decide_false, if_true, if_false, Bool.not_true, Bool.not_false, Bool.false_eq_true, true_and, and_true, Nat.reduceAdd, Nat.reduceLT, Nat.reduceLeDiff, Nat.zero_add, reduceIte, and_self, eq_self, wE_sSetF, wE_sFrz, frzS_nil, frzS_cons, wE_mSl, wE_pNo, wE_pSome, wE_mM1, wE_mAnd, wE_mOr, wE_mChain, wE_mDct, truthD_bl, gNeg_int, view_exc, gFz_lt, gT_tup, gC_cons, gN_nil, tyD_lst, oE_none, b_Sort_has_room, gIsi_str, view_sO, gf_chambers, gIn_names hx h.rn]
theorem lk_has : (([("chambers", D.non), ("gates", .non)] : List (Str × D)).map (·.1)).contains ("has_room" : Str) = false := by decide +kernel
theorem lk_s {a b : D} : List.lookup ("has_room" : Str) [("chambers", a), ("gates", b)] = none ∧ List.lookup ("doors" : Str) [("chambers", a), ("gates", b)] = none := by
  have h : (("has_room" : Str) == "chambers") = false ∧ (("has_room" : Str) == "gates") = false ∧ (("doors" : Str) == "chambers") = false ∧ (("doors" : Str) == "gates") = false := by decide +kernel
  simp [List.lookup, h]
theorem lk_t {a b c d : D} : List.lookup ("sort_at" : Str) [("left_one", a), ("right_one", b), ("begin", c), ("strange", d)] = none := by
  have h : (("sort_at" : Str) == "left_one") = false ∧ (("sort_at" : Str) == "right_one") = false ∧ (("sort_at" : Str) == "begin") = false ∧ (("sort_at" : Str) == "strange") = false := by decide +kernel
  simp [List.lookup, h]
/-- a method of a sort, of a street -/
theorem meth_s {c : Cf} {m : Str} {n : Nat} {F : Fm} {mo : Em} {ms : Cf → Res (List Rv)} {s : Srt} {Q : Rv → Cf → Prop} (hm : m = "has_room" ∨ m = "doors") (ho : wE (mo c) fun r c1 => r = .fz (sO s) ∧ wE (ms c1) fun rs c2 => oE (vals c2 (.fz (sO s) :: rs)) fun p => p.1.length = n ∧ wE (F p.1 p.2.S) fun r c4 => Q r ⟨p.2.ρ, c4.S⟩) : wE (mMeth "Sort" m n F mo ms c) Q := by
  rw [wE_mMeth]
  refine wE_mono ho fun r c1 ⟨e, h⟩ => ?_
  subst e
  rw [settle_fz, view_sO, oE_some]
  refine ⟨⟨rfl, ?_⟩, h⟩
  rcases hm with rfl | rfl
  · exact lk_s.1
  · exact lk_s.2
theorem meth_t {c : Cf} {n : Nat} {F : Fm} {mo : Em} {ms : Cf → Res (List Rv)} {t : Stt} {Q : Rv → Cf → Prop} (ho : wE (mo c) fun r c1 => r = .fz (tO t) ∧ wE (ms c1) fun rs c2 => oE (vals c2 (.fz (tO t) :: rs)) fun p => p.1.length = n ∧ wE (F p.1 p.2.S) fun r c4 => Q r ⟨p.2.ρ, c4.S⟩) : wE (mMeth "Street" "sort_at" n F mo ms c) Q := by
  rw [wE_mMeth]
  refine wE_mono ho fun r c1 ⟨e, h⟩ => ?_
  subst e
  rw [settle_fz, view_tO, oE_some]
  exact ⟨⟨rfl, lk_t⟩, h⟩
theorem ix_d1 {d : Dr} : gIx (doorD d) (.int 1) = some (.fz (.str d.r)) := rfl
theorem ix_d0 {d : Dr} : gIx (doorD d) (.int 0) = some (.fz (.str d.n)) := rfl
theorem ix_d2 {d : Dr} : gIx (doorD d) (.int 2) = some (.fz (.int d.m)) := rfl
theorem ix_d3 {d : Dr} : gIx (doorD d) (.int 3) = some (.fz (.str d.g)) := rfl
theorem ix_d4 {d : Dr} : gIx (doorD d) (.int 4) = some (.fz (.int d.p)) := rfl
theorem is_there_eq {t : Stt} {x : Int} {d : Dr} {S : List D} (h : Td t) (hg : isN d.g = true) : m_is_there [tO t, .int x, doorD d] S = .ok (.fz (.bl (decide (d.g ∈ (atT t (x + d.m)).rooms)))) ⟨[], S⟩ := by
  apply eq_of
  apply wE_runF
  show wE (b_is_there ⟨[.fz (tO t), .fz (.int x), .fz (doorD d)], S⟩) _
  unfold b_is_there
  rw [wE_sRet]
  refine meth_s (s := atT t (x + d.m)) (.inl rfl) (meth_t (t := t) ?_)
  simp only [wE_bCons, wE_sIf, wE_bNil, wE_mBool, wE_mTruth, wE_tmAnd, wE_tmOr, wE_tmNot, wE_mBin, wE_mUn, wE_m1, wE_mVar, wE_m2, wE_mC, wE_sSet, wE_sSetH, wE_sPut, wE_sRet, wE_sDrop, wE_sUnp, wE_sPend, mPend_nil, mPend_cons, pend_fz, pend_nwl, pend_loc, putL_nil, putL_fz, putL_nw, fzL_nil, fzL_cons, wE_mLst, wE_mTup, wE_mCB, wE_mCall, wE_mMut, wE_mSeq, wE_mRng1, wE_for, wE_mDisp, wE_mPairs_nil, wE_mPairs_cons, wE_tmYes, wE_ok, wE_mIfE, wE_maCons, wE_maNil, views_cons, views_nil, vals_cons, vals_nil, Option.bind_some, Option.map_some, settle_fz, settle_loc, settle_nw, view_hdl, view_int, view_str, view_bl, view_lst, view_tup, view_ro, view_loc, view_nw, view_dct, oE_some, gCmpI_int, gAdd_int, gSub_int, toVal_fz, toVal_nw, toVal_loc, cont_hdl, cont_loc, putB_hdl, putB_loc, putH_nw, putR_fz, putR_nwl, putR_nwt, putR_nwd, putR_loc, leaveR_fz, leaveR_nw, leaveR_loc, List.getElem?_cons_zero, List.getElem?_cons_succ, List.length_cons, List.length_nil, List.set_cons_zero, List.set_cons_succ, decide_true, decide_false, if_true, if_false, Bool.not_true, Bool.not_false, Bool.false_eq_true, true_and, and_true, Nat.reduceAdd, Nat.reduceLT, Nat.reduceLeDiff, Nat.zero_add, reduceIte, and_self, eq_self, wE_sSetF, wE_sFrz, frzS_nil, frzS_cons, wE_mSl, wE_pNo, wE_pSome, wE_mM1, wE_mAnd, wE_mOr, wE_mChain, wE_mDct, truthD_bl, gNeg_int, view_exc, gFz_lt, gT_tup, gC_cons, gN_nil, tyD_lst, oE_none, view_doorD, ix_d2, ix_d3, sort_at_eq, has_room_eq (atT_sd h _) hg]
def freeB (t : Stt) (x : Int) (r : Str) (d : Dr) : Bool := (d.r == r) && decide (d.g ∈ (atT t (x + d.m)).rooms)
/-- the doors that can be gone -/
def freeT (t : Stt) (x : Int) (r : Str) : List Dr := (atT t x).doors.filter (freeB t x r)
def unD : D → Dr
  | .tup [.str n, .str r, .int m, .str g, .int p] => ⟨n, r, m, g, p⟩
  | _ => ⟨"", "", 0, "", 0⟩
theorem unD_door {d : Dr} : unD (doorD d) = d := rfl
theorem filter_doors {p : Dr → Bool} (ds : List Dr) : (ds.map doorD).filter (fun z => p (unD z)) = (ds.filter p).map doorD := by
  rw [List.filter_map]
  congr 1
theorem doors_at_eq {t : Stt} {x : Int} {r : Str} {S : List D} (h : Td t) : m_doors_at [tO t, .tup [.int x, .str r]] S = .ok (.nw (.lst ((freeT t x r).map doorD))) ⟨[], S⟩ := by
  apply eq_of
  apply wE_runF
  show wE (b_doors_at ⟨[.fz (tO t), .fz (.tup [.int x, .str r]), .un, .un, .un], S⟩) _
  unfold b_doors_at
  refine wE_seqE (P := fun c => c = ⟨[.fz (tO t), .fz (.tup [.int x, .str r]), .fz (.int x), .fz (.str r), .un], S⟩) ?_ ?_
  · simp only [wE_bCons, wE_sIf, wE_bNil, wE_mBool, wE_mTruth, wE_tmAnd, wE_tmOr, wE_tmNot, wE_mBin, wE_mUn, wE_m1, wE_mVar, wE_m2, wE_mC, wE_sSet, wE_sSetH, wE_sPut, wE_sRet, wE_sDrop, wE_sUnp, wE_sPend, mPend_nil, mPend_cons, pend_fz, pend_nwl, pend_loc, putL_nil, putL_fz, putL_nw, fzL_nil, fzL_cons, wE_mLst, wE_mTup, wE_mCB, wE_mCall, wE_mMut, wE_mSeq, wE_mRng1, wE_for, wE_mDisp, wE_mPairs_nil, wE_mPairs_cons, wE_tmYes, wE_ok, wE_mIfE, wE_maCons, wE_maNil, views_cons, views_nil, vals_cons, vals_nil, Option.bind_some, Option.map_some, settle_fz, settle_loc, settle_nw, view_hdl, view_int, view_str, view_bl, view_lst, view_tup, view_ro, view_loc, view_nw, view_dct, oE_some, gCmpI_int, gAdd_int, gSub_int, toVal_fz, toVal_nw, toVal_loc, cont_hdl, cont_loc, putB_hdl, putB_loc, putH_nw, putR_fz, putR_nwl, putR_nwt, putR_nwd, putR_loc, leaveR_fz, leaveR_nw, leaveR_loc, List.getElem?_cons_zero, List.getElem?_cons_succ, List.length_cons, List.length_nil, List.set_cons_zero, List.set_cons_succ, decide_true, decide_false, if_true, if_false, Bool.not_true, Bool.not_false, Bool.false_eq_true, true_and, and_true, Nat.reduceAdd, Nat.reduceLT, Nat.reduceLeDiff, Nat.zero_add, reduceIte, and_self, eq_self, wE_sSetF, wE_sFrz, frzS_nil, frzS_cons, wE_mSl, wE_pNo, wE_pSome, wE_mM1, wE_mAnd, wE_mOr, wE_mChain, wE_mDct, truthD_bl, gNeg_int, view_exc, gFz_lt, gT_tup, gC_cons, gN_nil, tyD_lst, oE_none]
  rintro _ rfl
  rw [wE_sRet]
  have hd := (atT_sd h x)
  refine comp_ok (fun z => freeB t x r (unD z)) id [.fz (tO t), .fz (.tup [.int x, .str r]), .fz (.int x), .fz (.str r), .un] S .un ((atT t x).doors.map doorD) ?_ rfl (fun _ z => by cases z) ?_ ?_ ?_ ?_
  · rw [wE_mSeq]
    refine meth_s (s := atT t x) (.inr rfl) (meth_t (t := t) ?_)
    simp only [wE_bCons, wE_sIf, wE_bNil, wE_mBool, wE_mTruth, wE_tmAnd, wE_tmOr, wE_tmNot, wE_mBin, wE_mUn, wE_m1, wE_mVar, wE_m2, wE_mC, wE_sSet, wE_sSetH, wE_sPut, wE_sRet, wE_sDrop, wE_sUnp, wE_sPend, mPend_nil, mPend_cons, pend_fz, pend_nwl, pend_loc, putL_nil, putL_fz, putL_nw, fzL_nil, fzL_cons, wE_mLst, wE_mTup, wE_mCB, wE_mCall, wE_mMut, wE_mSeq, wE_mRng1, wE_for, wE_mDisp, wE_mPairs_nil, wE_mPairs_cons, wE_tmYes, wE_ok, wE_mIfE, wE_maCons, wE_maNil, views_cons, views_nil, vals_cons, vals_nil, Option.bind_some, Option.map_some, settle_fz, settle_loc, settle_nw, view_hdl, view_int, view_str, view_bl, view_lst, view_tup, view_ro, view_loc, view_nw, view_dct, oE_some, gCmpI_int, gAdd_int, gSub_int, toVal_fz, toVal_nw, toVal_loc, cont_hdl, cont_loc, putB_hdl, putB_loc, putH_nw, putR_fz, putR_nwl, putR_nwt, putR_nwd, putR_loc, leaveR_fz, leaveR_nw, leaveR_loc, List.getElem?_cons_zero, List.getElem?_cons_succ, List.length_cons, List.length_nil, List.set_cons_zero, List.set_cons_succ, decide_true, decide_false, if_true, if_false, Bool.not_true, Bool.not_false, Bool.false_eq_true, true_and, and_true, Nat.reduceAdd, Nat.reduceLT, Nat.reduceLeDiff, Nat.zero_add, reduceIte, and_self, eq_self, wE_sSetF, wE_sFrz, frzS_nil, frzS_cons, wE_mSl, wE_pNo, wE_pSome, wE_mM1, wE_mAnd, wE_mOr, wE_mChain, wE_mDct, truthD_bl, gNeg_int, view_exc, gFz_lt, gT_tup, gC_cons, gN_nil, tyD_lst, oE_none, sort_at_eq, sdoors_eq]
  · rw [List.length_map]; exact big (by have := hd.dl; omega)
  · intro z hz
    obtain ⟨d, hdm, rfl⟩ := List.mem_map.mp hz
    have hg := (hd.dn d hdm).2.2.1
    have it := is_there_eq (x := x) (d := d) (S := S) h hg
    unfold freeB
    rw [unD_door]
    by_cases hr : (d.r == r) = true
    · simp only [wE_bCons, wE_sIf, wE_bNil, wE_mBool, wE_mTruth, wE_tmAnd, wE_tmOr, wE_tmNot, wE_mBin, wE_mUn, wE_m1, wE_mVar, wE_m2, wE_mC, wE_sSet, wE_sSetH, wE_sPut, wE_sRet, wE_sDrop, wE_sUnp, wE_sPend, mPend_nil, mPend_cons, pend_fz, pend_nwl, pend_loc, putL_nil, putL_fz, putL_nw, fzL_nil, fzL_cons, wE_mLst, wE_mTup, wE_mCB, wE_mCall, wE_mMut, wE_mSeq, wE_mRng1, wE_for, wE_mDisp, wE_mPairs_nil, wE_mPairs_cons, wE_tmYes, wE_ok, wE_mIfE, wE_maCons, wE_maNil, views_cons, views_nil, vals_cons, vals_nil, Option.bind_some, Option.map_some, settle_fz, settle_loc, settle_nw, view_hdl, view_int, view_str, view_bl, view_lst, view_tup, view_ro, view_loc, view_nw, view_dct, oE_some, gCmpI_int, gAdd_int, gSub_int, toVal_fz, toVal_nw, toVal_loc, cont_hdl, cont_loc, putB_hdl, putB_loc, putH_nw, putR_fz, putR_nwl, putR_nwt, putR_nwd, putR_loc, leaveR_fz, leaveR_nw, leaveR_loc, List.getElem?_cons_zero, List.getElem?_cons_succ, List.length_cons, List.length_nil, List.set_cons_zero, List.set_cons_succ, decide_true, decide_false, if_true, if_false, Bool.not_true, Bool.not_false, Bool.false_eq_true, true_and, and_true, Nat.reduceAdd, Nat.reduceLT, Nat.reduceLeDiff, Nat.zero_add, reduceIte, and_self, eq_self, wE_sSetF, wE_sFrz, frzS_nil, frzS_cons, wE_mSl, wE_pNo, wE_pSome, wE_mM1, wE_mAnd, wE_mOr, wE_mChain, wE_mDct, truthD_bl, gNeg_int, view_exc, gFz_lt, gT_tup, gC_cons, gN_nil, tyD_lst, oE_none, view_doorD, view_tO, ix_d1, gEq_str, hr, it, Bool.true_and]
    · have hr' : (d.r == r) = false := by simpa using hr
      simp only [wE_bCons, wE_sIf, wE_bNil, wE_mBool, wE_mTruth, wE_tmAnd, wE_tmOr, wE_tmNot, wE_mBin, wE_mUn, wE_m1, wE_mVar, wE_m2, wE_mC, wE_sSet, wE_sSetH, wE_sPut, wE_sRet, wE_sDrop, wE_sUnp, wE_sPend, mPend_nil, mPend_cons, pend_fz, pend_nwl, pend_loc, putL_nil, putL_fz, putL_nw, fzL_nil, fzL_cons, wE_mLst, wE_mTup, wE_mCB, wE_mCall, wE_mMut, wE_mSeq, wE_mRng1, wE_for, wE_mDisp, wE_mPairs_nil, wE_mPairs_cons, wE_tmYes, wE_ok, wE_mIfE, wE_maCons, wE_maNil, views_cons, views_nil, vals_cons, vals_nil, Option.bind_some, Option.map_some, settle_fz, settle_loc, settle_nw, view_hdl, view_int, view_str, view_bl, view_lst, view_tup, view_ro, view_loc, view_nw, view_dct, oE_some, gCmpI_int, gAdd_int, gSub_int, toVal_fz, toVal_nw, toVal_loc, cont_hdl, cont_loc, putB_hdl, putB_loc, putH_nw, putR_fz, putR_nwl, putR_nwt, putR_nwd, putR_loc, leaveR_fz, leaveR_nw, leaveR_loc, List.getElem?_cons_zero, List.getElem?_cons_succ, List.length_cons, List.length_nil, List.set_cons_zero, List.set_cons_succ, decide_true, decide_false, if_true, if_false, Bool.not_true, Bool.not_false, Bool.false_eq_true, true_and, and_true, Nat.reduceAdd, Nat.reduceLT, Nat.reduceLeDiff, Nat.zero_add, reduceIte, and_self, eq_self, wE_sSetF, wE_sFrz, frzS_nil, frzS_cons, wE_mSl, wE_pNo, wE_pSome, wE_mM1, wE_mAnd, wE_mOr, wE_mChain, wE_mDct, truthD_bl, gNeg_int, view_exc, gFz_lt, gT_tup, gC_cons, gN_nil, tyD_lst, oE_none, view_doorD, view_tO, ix_d1, gEq_str, hr', Bool.false_and]
  · intro z hz _
    obtain ⟨d, hdm, rfl⟩ := List.mem_map.mp hz
    simp only [wE_bCons, wE_sIf, wE_bNil, wE_mBool, wE_mTruth, wE_tmAnd, wE_tmOr, wE_tmNot, wE_mBin, wE_mUn, wE_m1, wE_mVar, wE_m2, wE_mC, wE_sSet, wE_sSetH, wE_sPut, wE_sRet, wE_sDrop, wE_sUnp, wE_sPend, mPend_nil, mPend_cons, pend_fz, pend_nwl, pend_loc, putL_nil, putL_fz, putL_nw, fzL_nil, fzL_cons, wE_mLst, wE_mTup, wE_mCB, wE_mCall, wE_mMut, wE_mSeq, wE_mRng1, wE_for, wE_mDisp, wE_mPairs_nil, wE_mPairs_cons, wE_tmYes, wE_ok, wE_mIfE, wE_maCons, wE_maNil, views_cons, views_nil, vals_cons, vals_nil, Option.bind_some, Option.map_some, settle_fz, settle_loc, settle_nw, view_hdl, view_int, view_str, view_bl, view_lst, view_tup, view_ro, view_loc, view_nw, view_dct, oE_some, gCmpI_int, gAdd_int, gSub_int, toVal_fz, toVal_nw, toVal_loc, cont_hdl, cont_loc, putB_hdl, putB_loc, putH_nw, putR_fz, putR_nwl, putR_nwt, putR_nwd, putR_loc, leaveR_fz, leaveR_nw, leaveR_loc, List.getElem?_cons_zero, List.getElem?_cons_succ, List.length_cons, List.length_nil, List.set_cons_zero, List.set_cons_succ, decide_true, decide_false, if_true, if_false, Bool.not_true, Bool.not_false, Bool.false_eq_true, true_and, and_true, Nat.reduceAdd, Nat.reduceLT, Nat.reduceLeDiff, Nat.zero_add, reduceIte, and_self, eq_self, wE_sSetF, wE_sFrz, frzS_nil, frzS_cons, wE_mSl, wE_pNo, wE_pSome, wE_mM1, wE_mAnd, wE_mOr, wE_mChain, wE_mDct, truthD_bl, gNeg_int, view_exc, gFz_lt, gT_tup, gC_cons, gN_nil, tyD_lst, oE_none, view_doorD]
    rfl
  · rw [filter_doors]
    exact ⟨by rw [List.map_id]; rfl, rfl⟩
theorem steps_eq {t : Stt} {x : Int} {r : Str} {S : List D} (h : Td t) : m_steps [tO t, .tup [.int x, .str r]] S = .ok (.nw (.lst (strL ((freeT t x r).map (·.n))))) ⟨[], S⟩ := by
  apply eq_of
  apply wE_runF
  show wE (b_steps ⟨[.fz (tO t), .fz (.tup [.int x, .str r]), .un], S⟩) _
  unfold b_steps
  rw [wE_sRet]
  have hl : (freeT t x r).length ≤ 100 := Nat.le_trans (List.length_filter_le _ _) (atT_sd h x).dl
  refine comp_ok (fun _ => true) (fun z => .str (unD z).n) [.fz (tO t), .fz (.tup [.int x, .str r]), .un] S .un ((freeT t x r).map doorD) ?_ rfl (fun _ z => by cases z) ?_ (fun _ _ => ⟨rfl, rfl⟩) ?_ ?_
  · simp only [wE_bCons, wE_sIf, wE_bNil, wE_mBool, wE_mTruth, wE_tmAnd, wE_tmOr, wE_tmNot, wE_mBin, wE_mUn, wE_m1, wE_mVar, wE_m2, wE_mC, wE_sSet, wE_sSetH, wE_sPut, wE_sRet, wE_sDrop, wE_sUnp, wE_sPend, mPend_nil, mPend_cons, pend_fz, pend_nwl, pend_loc, putL_nil, putL_fz, putL_nw, fzL_nil, fzL_cons, wE_mLst, wE_mTup, wE_mCB, wE_mCall, wE_mMut, wE_mSeq, wE_mRng1, wE_for, wE_mDisp, wE_mPairs_nil, wE_mPairs_cons, wE_tmYes, wE_ok, wE_mIfE, wE_maCons, wE_maNil, views_cons, views_nil, vals_cons, vals_nil, Option.bind_some, Option.map_some, settle_fz, settle_loc, settle_nw, view_hdl, view_int, view_str, view_bl, view_lst, view_tup, view_ro, view_loc, view_nw, view_dct, oE_some, gCmpI_int, gAdd_int, gSub_int, toVal_fz, toVal_nw, toVal_loc, cont_hdl, cont_loc, putB_hdl, putB_loc, putH_nw, putR_fz, putR_nwl, putR_nwt, putR_nwd, putR_loc, leaveR_fz, leaveR_nw, leaveR_loc, List.getElem?_cons_zero, List.getElem?_cons_succ, List.length_cons, List.length_nil, List.set_cons_zero, List.set_cons_succ, decide_true, decide_false, if_true, if_false, Bool.not_true, Bool.not_false, Bool.false_eq_true, true_and, and_true, Nat.reduceAdd, Nat.reduceLT, Nat.reduceLeDiff, Nat.zero_add, reduceIte, and_self, eq_self, wE_sSetF, wE_sFrz, frzS_nil, frzS_cons, wE_mSl, wE_pNo, wE_pSome, wE_mM1, wE_mAnd, wE_mOr, wE_mChain, wE_mDct, truthD_bl, gNeg_int, view_exc, gFz_lt, gT_tup, gC_cons, gN_nil, tyD_lst, oE_none, doors_at_eq h, view_tO]
  · rw [List.length_map]; exact big (by omega)
  · intro z hz _
    obtain ⟨d, hdm, rfl⟩ := List.mem_map.mp hz
    simp only [wE_bCons, wE_sIf, wE_bNil, wE_mBool, wE_mTruth, wE_tmAnd, wE_tmOr, wE_tmNot, wE_mBin, wE_mUn, wE_m1, wE_mVar, wE_m2, wE_mC, wE_sSet, wE_sSetH, wE_sPut, wE_sRet, wE_sDrop, wE_sUnp, wE_sPend, mPend_nil, mPend_cons, pend_fz, pend_nwl, pend_loc, putL_nil, putL_fz, putL_nw, fzL_nil, fzL_cons, wE_mLst, wE_mTup, wE_mCB, wE_mCall, wE_mMut, wE_mSeq, wE_mRng1, wE_for, wE_mDisp, wE_mPairs_nil, wE_mPairs_cons, wE_tmYes, wE_ok, wE_mIfE, wE_maCons, wE_maNil, views_cons, views_nil, vals_cons, vals_nil, Option.bind_some, Option.map_some, settle_fz, settle_loc, settle_nw, view_hdl, view_int, view_str, view_bl, view_lst, view_tup, view_ro, view_loc, view_nw, view_dct, oE_some, gCmpI_int, gAdd_int, gSub_int, toVal_fz, toVal_nw, toVal_loc, cont_hdl, cont_loc, putB_hdl, putB_loc, putH_nw, putR_fz, putR_nwl, putR_nwt, putR_nwd, putR_loc, leaveR_fz, leaveR_nw, leaveR_loc, List.getElem?_cons_zero, List.getElem?_cons_succ, List.length_cons, List.length_nil, List.set_cons_zero, List.set_cons_succ, decide_true, decide_false, if_true, if_false, Bool.not_true, Bool.not_false, Bool.false_eq_true, true_and, and_true, Nat.reduceAdd, Nat.reduceLT, Nat.reduceLeDiff, Nat.zero_add, reduceIte, and_self, eq_self, wE_sSetF, wE_sFrz, frzS_nil, frzS_cons, wE_mSl, wE_pNo, wE_pSome, wE_mM1, wE_mAnd, wE_mOr, wE_mChain, wE_mDct, truthD_bl, gNeg_int, view_exc, gFz_lt, gT_tup, gC_cons, gN_nil, tyD_lst, oE_none, view_doorD, ix_d0]
    rfl
  · rw [filter_true, List.map_map]
    refine ⟨?_, rfl⟩
    unfold strL
    rw [List.map_map]; rfl
theorem law_doors_eq {t : Stt} {x : Int} {r : Str} {S : List D} (h : Td t) : m__law_doors [tD t, .tup [.int x, .str r]] S = .ok (.nw (.lst ((freeT t x r).map doorD))) ⟨[], S⟩ := by
  apply eq_of
  apply wE_runF
  show wE (b__law_doors ⟨[.fz (tD t), .fz (.tup [.int x, .str r]), .un, .un, .un, .un], S⟩) _
  unfold b__law_doors
  have z0 : 0 ≤ sizeLine := Nat.zero_le _
  have hd := (atT_sd h x)
  refine wE_seqE (P := fun c => c = ⟨[.fz (tD t), .fz (.tup [.int x, .str r]), .fz (.int x), .fz (.str r), .un, .un], S⟩) (by simp only [wE_bCons, wE_sIf, wE_bNil, wE_mBool, wE_mTruth, wE_tmAnd, wE_tmOr, wE_tmNot, wE_mBin, wE_mUn, wE_m1, wE_mVar, wE_m2, wE_mC, wE_sSet, wE_sSetH, wE_sPut, wE_sRet, wE_sDrop, wE_sUnp, wE_sPend, mPend_nil, mPend_cons, pend_fz, pend_nwl, pend_loc, putL_nil, putL_fz, putL_nw, fzL_nil, fzL_cons, wE_mLst, wE_mTup, wE_mCB, wE_mCall, wE_mMut, wE_mSeq, wE_mRng1, wE_for, wE_mDisp, wE_mPairs_nil, wE_mPairs_cons, wE_tmYes, wE_ok, wE_mIfE, wE_maCons, wE_maNil, views_cons, views_nil, vals_cons, vals_nil, Option.bind_some, Option.map_some, settle_fz, settle_loc, settle_nw, view_hdl, view_int, view_str, view_bl, view_lst, view_tup, view_ro, view_loc, view_nw, view_dct, oE_some, gCmpI_int, gAdd_int, gSub_int, toVal_fz, toVal_nw, toVal_loc, cont_hdl, cont_loc, putB_hdl, putB_loc, putH_nw, putR_fz, putR_nwl, putR_nwt, putR_nwd, putR_loc, leaveR_fz, leaveR_nw, leaveR_loc, List.getElem?_cons_zero, List.getElem?_cons_succ, List.length_cons, List.length_nil, List.set_cons_zero, List.set_cons_succ, decide_true, decide_false, if_true, if_false, Bool.not_true, Bool.not_false, Bool.false_eq_true, true_and, and_true, Nat.reduceAdd, Nat.reduceLT, Nat.reduceLeDiff, Nat.zero_add, reduceIte, and_self, eq_self, wE_sSetF, wE_sFrz, frzS_nil, frzS_cons, wE_mSl, wE_pNo, wE_pSome, wE_mM1, wE_mAnd, wE_mOr, wE_mChain, wE_mDct, truthD_bl, gNeg_int, view_exc, gFz_lt, gT_tup, gC_cons, gN_nil, tyD_lst, oE_none]) ?_
  rintro _ rfl
  refine wE_seqE (P := fun c => c = ⟨[.fz (tD t), .fz (.tup [.int x, .str r]), .fz (.int x), .fz (.str r), .ow (.lst []), .un], S⟩) (by simp only [wE_bCons, wE_sIf, wE_bNil, wE_mBool, wE_mTruth, wE_tmAnd, wE_tmOr, wE_tmNot, wE_mBin, wE_mUn, wE_m1, wE_mVar, wE_m2, wE_mC, wE_sSet, wE_sSetH, wE_sPut, wE_sRet, wE_sDrop, wE_sUnp, wE_sPend, mPend_nil, mPend_cons, pend_fz, pend_nwl, pend_loc, putL_nil, putL_fz, putL_nw, fzL_nil, fzL_cons, wE_mLst, wE_mTup, wE_mCB, wE_mCall, wE_mMut, wE_mSeq, wE_mRng1, wE_for, wE_mDisp, wE_mPairs_nil, wE_mPairs_cons, wE_tmYes, wE_ok, wE_mIfE, wE_maCons, wE_maNil, views_cons, views_nil, vals_cons, vals_nil, Option.bind_some, Option.map_some, settle_fz, settle_loc, settle_nw, view_hdl, view_int, view_str, view_bl, view_lst, view_tup, view_ro, view_loc, view_nw, view_dct, oE_some, gCmpI_int, gAdd_int, gSub_int, toVal_fz, toVal_nw, toVal_loc, cont_hdl, cont_loc, putB_hdl, putB_loc, putH_nw, putR_fz, putR_nwl, putR_nwt, putR_nwd, putR_loc, leaveR_fz, leaveR_nw, leaveR_loc, List.getElem?_cons_zero, List.getElem?_cons_succ, List.length_cons, List.length_nil, List.set_cons_zero, List.set_cons_succ, decide_true, decide_false, if_true, if_false, Bool.not_true, Bool.not_false, Bool.false_eq_true, true_and, and_true, Nat.reduceAdd, Nat.reduceLT, Nat.reduceLeDiff, Nat.zero_add, reduceIte, and_self, eq_self, wE_sSetF, wE_sFrz, frzS_nil, frzS_cons, wE_mSl, wE_pNo, wE_pSome, wE_mM1, wE_mAnd, wE_mOr, wE_mChain, wE_mDct, truthD_bl, gNeg_int, view_exc, gFz_lt, gT_tup, gC_cons, gN_nil, tyD_lst, oE_none, z0]) ?_
  rintro _ rfl
  refine wE_seqE (P := fun c => ∃ x5, c = ⟨[.fz (tD t), .fz (.tup [.int x, .str r]), .fz (.int x), .fz (.str r), .ow (.lst ((freeT t x r).map doorD)), x5], S⟩) ?_ ?_
  · refine for_E ((atT t x).doors.map doorD) (fun i c => ∃ x5, c = ⟨[.fz (tD t), .fz (.tup [.int x, .str r]), .fz (.int x), .fz (.str r), .ow (.lst ((((atT t x).doors.take i).filter (freeB t x r)).map doorD)), x5], S⟩) (fun _ _ => False) ?_ ?_ ?_ (fun _ _ z => z.elim)
    · have e1 : gIx (sD (atT t x)) (.str "doors") = some (.fz (.lst ((atT t x).doors.map doorD))) := ix_doors
      simp only [wE_bCons, wE_sIf, wE_bNil, wE_mBool, wE_mTruth, wE_tmAnd, wE_tmOr, wE_tmNot, wE_mBin, wE_mUn, wE_m1, wE_mVar, wE_m2, wE_mC, wE_sSet, wE_sSetH, wE_sPut, wE_sRet, wE_sDrop, wE_sUnp, wE_sPend, mPend_nil, mPend_cons, pend_fz, pend_nwl, pend_loc, putL_nil, putL_fz, putL_nw, fzL_nil, fzL_cons, wE_mLst, wE_mTup, wE_mCB, wE_mCall, wE_mMut, wE_mSeq, wE_mRng1, wE_for, wE_mDisp, wE_mPairs_nil, wE_mPairs_cons, wE_tmYes, wE_ok, wE_mIfE, wE_maCons, wE_maNil, views_cons, views_nil, vals_cons, vals_nil, Option.bind_some, Option.map_some, settle_fz, settle_loc, settle_nw, view_hdl, view_int, view_str, view_bl, view_lst, view_tup, view_ro, view_loc, view_nw, view_dct, oE_some, gCmpI_int, gAdd_int, gSub_int, toVal_fz, toVal_nw, toVal_loc, cont_hdl, cont_loc, putB_hdl, putB_loc, putH_nw, putR_fz, putR_nwl, putR_nwt, putR_nwd, putR_loc, leaveR_fz, leaveR_nw, leaveR_loc, List.getElem?_cons_zero, List.getElem?_cons_succ, List.length_cons, List.length_nil, List.set_cons_zero, List.set_cons_succ, decide_true, decide_false, if_true, if_false, Bool.not_true, Bool.not_false, Bool.false_eq_true, true_and, and_true, Nat.reduceAdd, Nat.reduceLT, Nat.reduceLeDiff, Nat.zero_add, reduceIte, and_self, eq_self, wE_sSetF, wE_sFrz, frzS_nil, frzS_cons, wE_mSl, wE_pNo, wE_pSome, wE_mM1, wE_mAnd, wE_mOr, wE_mChain, wE_mDct, truthD_bl, gNeg_int, view_exc, gFz_lt, gT_tup, gC_cons, gN_nil, tyD_lst, oE_none, view_tD, law_at_eq, view_sD, e1]
      exact ⟨.un, rfl⟩
    · rintro i d _ hdi ⟨x5, rfl⟩
      rw [List.getElem?_map] at hdi
      obtain ⟨d, hdm, rfl⟩ := Option.map_eq_some_iff.mp hdi
      have hil : i < (atT t x).doors.length := (List.getElem?_eq_some_iff.mp hdm).1
      have hg := (hd.dn d (List.mem_of_getElem? hdm)).2.2.1
      have e1 : gIx (sD (atT t (x + d.m))) (.str "rooms") = some (.fz (.lst (strL (atT t (x + d.m)).rooms))) := ix_rooms
      have e2 := gIn_names hg (atT_sd h (x + d.m)).rn
      have e3 : (((atT t x).doors.take i).filter (freeB t x r)).length ≤ 100 := by
        have := List.length_filter_le (freeB t x r) ((atT t x).doors.take i)
        rw [List.length_take] at this
        have := hd.dl
        omega
      rw [gFz_lt, if_pos (by simp), oE_some, take_succ_get hdm, List.filter_append]
      have e4 : [d].filter (freeB t x r) = if freeB t x r d = true then [d] else [] := by
        by_cases hf : freeB t x r d = true
        · rw [if_pos hf, List.filter_cons_of_pos hf]; rfl
        · rw [if_neg hf, List.filter_cons_of_neg hf]; rfl
      rw [e4]
      unfold freeB
      by_cases hr : (d.r == r) = true
      · by_cases hgm : d.g ∈ (atT t (x + d.m)).rooms
        · have dg : decide (d.g ∈ (atT t (x + d.m)).rooms) = true := by simpa using hgm
          have ea := gAppend_ok (a := (((atT t x).doors.take i).filter (freeB t x r)).map doorD) (y := doorD d) (by rw [List.length_map]; exact big (by omega))
          unfold freeB at ea
          simp only [wE_bCons, wE_sIf, wE_bNil, wE_mBool, wE_mTruth, wE_tmAnd, wE_tmOr, wE_tmNot, wE_mBin, wE_mUn, wE_m1, wE_mVar, wE_m2, wE_mC, wE_sSet, wE_sSetH, wE_sPut, wE_sRet, wE_sDrop, wE_sUnp, wE_sPend, mPend_nil, mPend_cons, pend_fz, pend_nwl, pend_loc, putL_nil, putL_fz, putL_nw, fzL_nil, fzL_cons, wE_mLst, wE_mTup, wE_mCB, wE_mCall, wE_mMut, wE_mSeq, wE_mRng1, wE_for, wE_mDisp, wE_mPairs_nil, wE_mPairs_cons, wE_tmYes, wE_ok, wE_mIfE, wE_maCons, wE_maNil, views_cons, views_nil, vals_cons, vals_nil, Option.bind_some, Option.map_some, settle_fz, settle_loc, settle_nw, view_hdl, view_int, view_str, view_bl, view_lst, view_tup, view_ro, view_loc, view_nw, view_dct, oE_some, gCmpI_int, gAdd_int, gSub_int, toVal_fz, toVal_nw, toVal_loc, cont_hdl, cont_loc, putB_hdl, putB_loc, putH_nw, putR_fz, putR_nwl, putR_nwt, putR_nwd, putR_loc, leaveR_fz, leaveR_nw, leaveR_loc, List.getElem?_cons_zero, List.getElem?_cons_succ, List.length_cons, List.length_nil, List.set_cons_zero, List.set_cons_succ, decide_true, decide_false, if_true, if_false, Bool.not_true, Bool.not_false, Bool.false_eq_true, true_and, and_true, Nat.reduceAdd, Nat.reduceLT, Nat.reduceLeDiff, Nat.zero_add, reduceIte, and_self, eq_self, wE_sSetF, wE_sFrz, frzS_nil, frzS_cons, wE_mSl, wE_pNo, wE_pSome, wE_mM1, wE_mAnd, wE_mOr, wE_mChain, wE_mDct, truthD_bl, gNeg_int, view_exc, gFz_lt, gT_tup, gC_cons, gN_nil, tyD_lst, oE_none, view_doorD, view_tD, ix_d1, ix_d2, ix_d3, gEq_str, hr, law_at_eq, view_sD, e1, e2, dg, ea, Bool.and_self]
          rw [List.map_append]
          exact ⟨_, rfl⟩
        · have dg : decide (d.g ∈ (atT t (x + d.m)).rooms) = false := by simpa using hgm
          simp only [wE_bCons, wE_sIf, wE_bNil, wE_mBool, wE_mTruth, wE_tmAnd, wE_tmOr, wE_tmNot, wE_mBin, wE_mUn, wE_m1, wE_mVar, wE_m2, wE_mC, wE_sSet, wE_sSetH, wE_sPut, wE_sRet, wE_sDrop, wE_sUnp, wE_sPend, mPend_nil, mPend_cons, pend_fz, pend_nwl, pend_loc, putL_nil, putL_fz, putL_nw, fzL_nil, fzL_cons, wE_mLst, wE_mTup, wE_mCB, wE_mCall, wE_mMut, wE_mSeq, wE_mRng1, wE_for, wE_mDisp, wE_mPairs_nil, wE_mPairs_cons, wE_tmYes, wE_ok, wE_mIfE, wE_maCons, wE_maNil, views_cons, views_nil, vals_cons, vals_nil, Option.bind_some, Option.map_some, settle_fz, settle_loc, settle_nw, view_hdl, view_int, view_str, view_bl, view_lst, view_tup, view_ro, view_loc, view_nw, view_dct, oE_some, gCmpI_int, gAdd_int, gSub_int, toVal_fz, toVal_nw, toVal_loc, cont_hdl, cont_loc, putB_hdl, putB_loc, putH_nw, putR_fz, putR_nwl, putR_nwt, putR_nwd, putR_loc, leaveR_fz, leaveR_nw, leaveR_loc, List.getElem?_cons_zero, List.getElem?_cons_succ, List.length_cons, List.length_nil, List.set_cons_zero, List.set_cons_succ, decide_true, decide_false, if_true, if_false, Bool.not_true, Bool.not_false, Bool.false_eq_true, true_and, and_true, Nat.reduceAdd, Nat.reduceLT, Nat.reduceLeDiff, Nat.zero_add, reduceIte, and_self, eq_self, wE_sSetF, wE_sFrz, frzS_nil, frzS_cons, wE_mSl, wE_pNo, wE_pSome, wE_mM1, wE_mAnd, wE_mOr, wE_mChain, wE_mDct, truthD_bl, gNeg_int, view_exc, gFz_lt, gT_tup, gC_cons, gN_nil, tyD_lst, oE_none, view_doorD, view_tD, ix_d1, ix_d2, ix_d3, gEq_str, hr, law_at_eq, view_sD, e1, e2, dg, Bool.and_false, List.append_nil]
          exact ⟨_, rfl⟩
      · have hr' : (d.r == r) = false := by simpa using hr
        simp only [wE_bCons, wE_sIf, wE_bNil, wE_mBool, wE_mTruth, wE_tmAnd, wE_tmOr, wE_tmNot, wE_mBin, wE_mUn, wE_m1, wE_mVar, wE_m2, wE_mC, wE_sSet, wE_sSetH, wE_sPut, wE_sRet, wE_sDrop, wE_sUnp, wE_sPend, mPend_nil, mPend_cons, pend_fz, pend_nwl, pend_loc, putL_nil, putL_fz, putL_nw, fzL_nil, fzL_cons, wE_mLst, wE_mTup, wE_mCB, wE_mCall, wE_mMut, wE_mSeq, wE_mRng1, wE_for, wE_mDisp, wE_mPairs_nil, wE_mPairs_cons, wE_tmYes, wE_ok, wE_mIfE, wE_maCons, wE_maNil, views_cons, views_nil, vals_cons, vals_nil, Option.bind_some, Option.map_some, settle_fz, settle_loc, settle_nw, view_hdl, view_int, view_str, view_bl, view_lst, view_tup, view_ro, view_loc, view_nw, view_dct, oE_some, gCmpI_int, gAdd_int, gSub_int, toVal_fz, toVal_nw, toVal_loc, cont_hdl, cont_loc, putB_hdl, putB_loc, putH_nw, putR_fz, putR_nwl, putR_nwt, putR_nwd, putR_loc, leaveR_fz, leaveR_nw, leaveR_loc, List.getElem?_cons_zero, List.getElem?_cons_succ, List.length_cons, List.length_nil, List.set_cons_zero, List.set_cons_succ, decide_true, decide_false, if_true, if_false, Bool.not_true, Bool.not_false, Bool.false_eq_true, true_and, and_true, Nat.reduceAdd, Nat.reduceLT, Nat.reduceLeDiff, Nat.zero_add, reduceIte, and_self, eq_self, wE_sSetF, wE_sFrz, frzS_nil, frzS_cons, wE_mSl, wE_pNo, wE_pSome, wE_mM1, wE_mAnd, wE_mOr, wE_mChain, wE_mDct, truthD_bl, gNeg_int, view_exc, gFz_lt, gT_tup, gC_cons, gN_nil, tyD_lst, oE_none, view_doorD, ix_d1, gEq_str, hr', Bool.false_and, List.append_nil]
        exact ⟨_, rfl⟩
    · rintro c ⟨x5, hc⟩
      rw [List.length_map, List.take_length] at hc
      exact ⟨rfl, x5, hc⟩
  rintro _ ⟨x5, rfl⟩
  simp only [wE_bCons, wE_sIf, wE_bNil, wE_mBool, wE_mTruth, wE_tmAnd, wE_tmOr, wE_tmNot, wE_mBin, wE_mUn, wE_m1, wE_mVar, wE_m2, wE_mC, wE_sSet, wE_sSetH, wE_sPut, wE_sRet, wE_sDrop, wE_sUnp, wE_sPend, mPend_nil, mPend_cons, pend_fz, pend_nwl, pend_loc, putL_nil, putL_fz, putL_nw, fzL_nil, fzL_cons, wE_mLst, wE_mTup, wE_mCB, wE_mCall, wE_mMut, wE_mSeq, wE_mRng1, wE_for, wE_mDisp, wE_mPairs_nil, wE_mPairs_cons, wE_tmYes, wE_ok, wE_mIfE, wE_maCons, wE_maNil, views_cons, views_nil, vals_cons, vals_nil, Option.bind_some, Option.map_some, settle_fz, settle_loc, settle_nw, view_hdl, view_int, view_str, view_bl, view_lst, view_tup, view_ro, view_loc, view_nw, view_dct, oE_some, gCmpI_int, gAdd_int, gSub_int, toVal_fz, toVal_nw, toVal_loc, cont_hdl, cont_loc, putB_hdl, putB_loc, putH_nw, putR_fz, putR_nwl, putR_nwt, putR_nwd, putR_loc, leaveR_fz, leaveR_nw, leaveR_loc, List.getElem?_cons_zero, List.getElem?_cons_succ, List.length_cons, List.length_nil, List.set_cons_zero, List.set_cons_succ, decide_true, decide_false, if_true, if_false, Bool.not_true, Bool.not_false, Bool.false_eq_true, true_and, and_true, Nat.reduceAdd, Nat.reduceLT, Nat.reduceLeDiff, Nat.zero_add, reduceIte, and_self, eq_self, wE_sSetF, wE_sFrz, frzS_nil, frzS_cons, wE_mSl, wE_pNo, wE_pSome, wE_mM1, wE_mAnd, wE_mOr, wE_mChain, wE_mDct, truthD_bl, gNeg_int, view_exc, gFz_lt, gT_tup, gC_cons, gN_nil, tyD_lst, oE_none]
/-- a method without arguments on a local of its own -/
theorem wE_mut0 {T : String} {g : D → List D → Option (D × D)} {mo : Em} {c c1 c2 : Cf} {Q : Rv → Cf → Prop} {j : Nat} {d d' res : D} (ho : mo c = .ok (.loc j) c1) (hc : cont c1 (.loc j) = some d) (ht : tyD T d = true) (hg : g d [] = some (d', res)) (hp : putB c1 (.loc j) d' = some c2) (h : Q (.fz res) c2) : wE (mMut0 T g mo c) Q := by
  unfold mMut0
  rw [ho]
  show wE (match cont c1 (.loc j) with | none => .stuck | some d => _) Q
  rw [hc]
  dsimp only
  rw [if_pos ht, hg]
  dsimp only
  rw [hp]
  exact h
/-! ### the law -/
theorem gPow_12 : gPow (.int 10) (.int 12) = some (.fz (.int 1000000000000)) := rfl
theorem rd_names {xs : List Str} (h : ∀ x ∈ xs, isN x = true) (hl : xs.length ≤ 1000) : RD (.lst (strL xs)) 9000 1 := by
  have := RDL.all (w := 8) (k := 0) (ds := strL xs) fun d hd => by
    obtain ⟨x, hx, rfl⟩ := mem_strL.mp hd
    exact (RD.str (isN_chr (h x hx))).mono (by have := (isN_iff.mp (h x hx)).2.1; omega) (Nat.le_refl _)
  rw [strL_len] at this
  exact this.lst.mono (by omega) (Nat.le_refl _)
theorem rd_stand {x : Int} {r : Str} (hx : x.natAbs < 10 ^ 12) (hr : isN r = true) : RD (.tup [.int x, .str r]) 100 1 := by
  have h1 : RD (.str r) 8 0 := (RD.str (isN_chr hr)).mono (by have := (isN_iff.mp hr).2.1; omega) (Nat.le_refl _)
  exact (RDL.tup (RDL.cons (RD.int hx) (RDL.cons h1 RDL.nil))).mono (by omega) (Nat.le_refl _)
theorem eqL_strs : ∀ xs : List Str, eqL (strL xs) (strL xs) = true
  | [] => rfl
  | x :: xs => by
    show ((x == x) && eqL (strL xs) (strL xs)) = true
    rw [eqL_strs xs]; simp
theorem gNe_namesS {xs : List Str} (h : ∀ x ∈ xs, isN x = true) : gNe (.lst (strL xs)) (.lst (strL xs)) = some (.fz (.bl false)) := by
  unfold gNe
  rw [okq_strs fun x hx => isN_chr (h x hx)]
  have : eqD (.lst (strL xs)) (.lst (strL xs)) = eqL (strL xs) (strL xs) := by simp [eqD]
  rw [this, eqL_strs]; rfl
theorem free_names {t : Stt} {x : Int} {r : Str} (h : Td t) : (∀ y ∈ (freeT t x r).map (·.n), isN y = true) ∧ ((freeT t x r).map (·.n)).length ≤ 100 ∧ ((freeT t x r).map (·.n)).Pairwise (fun x y => leS x y = true) := by
  have hd := atT_sd h x
  refine ⟨fun y hy => ?_, ?_, ?_⟩
  · obtain ⟨d, hdm, rfl⟩ := List.mem_map.mp hy
    exact (hd.dn d (List.mem_filter.mp hdm).1).1
  · rw [List.length_map]
    exact Nat.le_trans (List.length_filter_le _ _) hd.dl
  · exact hd.np.sublist (List.filter_sublist.map _)
abbrev turnB : Sm := (bCons (sSet 12 (mCall 2 m_steps (maCons (mVar 4) (maCons (mVar 7) maNil))))
  (bCons (sIf (tmOr (mBool (mBin gNe (mCB (g1 gRepr) (maCons (mVar 12) maNil)) (mVar 8))) (tmOr (mBool (mBin gNe (mCB (g1 gRepr) (maCons (mVar 7) maNil)) (mVar 9))) (mBool (mBin gNe (mVar 12) (mCB (g1 gSorted) (maCons (mVar 12) maNil)))))) (sRet (mC (.bl false))) bNil)
  (sDrop (mMut0 "list" gClear (mVar 12)))))
abbrev houseB : Sm := (bCons (sSetF 7 (mTup (maCons (mVar 6) (maCons (mCall 2 m__law_pick (maCons (mVar 1) (maCons (mBin gIx (mCall 2 m__law_at (maCons (mVar 3) (maCons (mVar 6) maNil))) (mC (.str "rooms"))) maNil))) maNil))))
  (bCons (sFrz [8, 9] (sPend [8, 9] [(mCB (g1 gRepr) (maCons (mComp [10] (mSeq (mCall 2 m__law_doors (maCons (mVar 3) (maCons (mVar 7) maNil)))) (gFz 10) tmYes (mBin gIx (mVar 10) (mC (.int 0)))) maNil)), (mCB (g1 gRepr) (maCons (mVar 7) maNil))]))
  (sFor (mRng1 (maCons (mC (.int 2)) maNil)) (gFz 11) turnB)))
abbrev boutB : Sm := (bCons (sSetF 3 (mCall 4 m__law_street (maCons (mVar 1) (maCons (mC (.int 5)) (maCons (mC (.int 10)) (maCons (mC (.int 5)) maNil))))))
  (bCons (sFrz [4, 5] (sPend [4, 5] [(mCall 1 m__law_made (maCons (mVar 3) maNil)), (mBin gIx (mVar 3) (mC (.str "first")))]))
  (sFor (mSeq (mBin gAdd (mBin gListR (mBin gSub (mVar 5) (mC (.int 2))) (mBin gAdd (mBin gAdd (mVar 5) (mCB (g1 gLen) (maCons (mBin gIx (mVar 3) (mC (.str "odd"))) maNil))) (mC (.int 2)))) (mLst (maCons (mBin gSub (mBin gPow (mC (.int 10)) (mC (.int 12))) (mC (.int 9))) (maCons (mBin gSub (mC (.int 9)) (mBin gPow (mC (.int 10)) (mC (.int 12)))) maNil))))) (gFz 6) houseB)))
theorem turn {S0 S : List D} {R : D} {t : Stt} {b i x : Int} {r y1 y2 : Str} {x5 x6 x11 x12 : Sl} (h : Td t) (hx : x.natAbs < 10 ^ 12) (hr : isN r = true)
    (e1 : g1 gRepr [.lst (strL ((freeT t x r).map (·.n)))] = some (.fz (.str y1))) (e2 : g1 gRepr [.tup [.int x, .str r]] = some (.fz (.str y2))) :
    wE (turnB ⟨[.fz R, .fz (.hdl 0), .fz (.int i), .fz (tD t), .fz (tO t), x5, x6, .fz (.tup [.int x, .str r]), .fz (.str y1), .fz (.str y2), .un, x11, x12], S⟩) fun fl c => fl = .nx ∧ ∃ z12, c = ⟨[.fz R, .fz (.hdl 0), .fz (.int i), .fz (tD t), .fz (tO t), x5, x6, .fz (.tup [.int x, .str r]), .fz (.str y1), .fz (.str y2), .un, x11, z12], S⟩ := by
  obtain ⟨n1, n2, n3⟩ := free_names (x := x) (r := r) h
  have es : g1 gSorted [.lst (strL ((freeT t x r).map (·.n)))] = some (.nw (.lst (strL ((freeT t x r).map (·.n))))) := sorted_strs_id n3
  refine wE_seqE (P := fun c => c = ⟨[.fz R, .fz (.hdl 0), .fz (.int i), .fz (tD t), .fz (tO t), x5, x6, .fz (.tup [.int x, .str r]), .fz (.str y1), .fz (.str y2), .un, x11, .ow (.lst (strL ((freeT t x r).map (·.n))))], S⟩) ?_ ?_
  · simp only [wE_bCons, wE_sIf, wE_bNil, wE_mBool, wE_mTruth, wE_tmAnd, wE_tmOr, wE_tmNot, wE_mBin, wE_mUn, wE_m1, wE_mVar, wE_m2, wE_mC, wE_sSet, wE_sSetH, wE_sPut, wE_sRet, wE_sDrop, wE_sUnp, wE_sPend, mPend_nil, mPend_cons, pend_fz, pend_nwl, pend_loc, putL_nil, putL_fz, putL_nw, fzL_nil, fzL_cons, wE_mLst, wE_mTup, wE_mCB, wE_mCall, wE_mMut, wE_mSeq, wE_mRng1, wE_for, wE_mDisp, wE_mPairs_nil, wE_mPairs_cons, wE_tmYes, wE_ok, wE_mIfE, wE_maCons, wE_maNil, views_cons, views_nil, vals_cons, vals_nil, Option.bind_some, Option.map_some, settle_fz, settle_loc, settle_nw, view_hdl, view_int, view_str, view_bl, view_lst, view_tup, view_ro, view_loc, view_nw, view_dct, oE_some, gCmpI_int, gAdd_int, gSub_int, toVal_fz, toVal_nw, toVal_loc, cont_hdl, cont_loc, putB_hdl, putB_loc, putH_nw, putR_fz, putR_nwl, putR_nwt, putR_nwd, putR_loc, leaveR_fz, leaveR_nw, leaveR_loc, List.getElem?_cons_zero, List.getElem?_cons_succ, List.length_cons, List.length_nil, List.set_cons_zero, List.set_cons_succ, decide_true, decide_false, if_true, if_false, Bool.not_true, Bool.not_false, Bool.false_eq_true, true_and, and_true, Nat.reduceAdd, Nat.reduceLT, Nat.reduceLeDiff, Nat.zero_add, reduceIte, and_self, eq_self, wE_sSetF, wE_sFrz, frzS_nil, frzS_cons, wE_mSl, wE_pNo, wE_pSome, wE_mM1, wE_mAnd, wE_mOr, wE_mChain, wE_mDct, truthD_bl, gNeg_int, view_exc, gFz_lt, gT_tup, gC_cons, gN_nil, tyD_lst, oE_none, view_tO, steps_eq h]
  rintro _ rfl
  refine wE_seqE (P := fun c => c = ⟨[.fz R, .fz (.hdl 0), .fz (.int i), .fz (tD t), .fz (tO t), x5, x6, .fz (.tup [.int x, .str r]), .fz (.str y1), .fz (.str y2), .un, x11, .ow (.lst (strL ((freeT t x r).map (·.n))))], S⟩) ?_ ?_
  · simp only [wE_bCons, wE_sIf, wE_bNil, wE_mBool, wE_mTruth, wE_tmAnd, wE_tmOr, wE_tmNot, wE_mBin, wE_mUn, wE_m1, wE_mVar, wE_m2, wE_mC, wE_sSet, wE_sSetH, wE_sPut, wE_sRet, wE_sDrop, wE_sUnp, wE_sPend, mPend_nil, mPend_cons, pend_fz, pend_nwl, pend_loc, putL_nil, putL_fz, putL_nw, fzL_nil, fzL_cons, wE_mLst, wE_mTup, wE_mCB, wE_mCall, wE_mMut, wE_mSeq, wE_mRng1, wE_for, wE_mDisp, wE_mPairs_nil, wE_mPairs_cons, wE_tmYes, wE_ok, wE_mIfE, wE_maCons, wE_maNil, views_cons, views_nil, vals_cons, vals_nil, Option.bind_some, Option.map_some, settle_fz, settle_loc, settle_nw, view_hdl, view_int, view_str, view_bl, view_lst, view_tup, view_ro, view_loc, view_nw, view_dct, oE_some, gCmpI_int, gAdd_int, gSub_int, toVal_fz, toVal_nw, toVal_loc, cont_hdl, cont_loc, putB_hdl, putB_loc, putH_nw, putR_fz, putR_nwl, putR_nwt, putR_nwd, putR_loc, leaveR_fz, leaveR_nw, leaveR_loc, List.getElem?_cons_zero, List.getElem?_cons_succ, List.length_cons, List.length_nil, List.set_cons_zero, List.set_cons_succ, decide_true, decide_false, if_true, if_false, Bool.not_true, Bool.not_false, Bool.false_eq_true, true_and, and_true, Nat.reduceAdd, Nat.reduceLT, Nat.reduceLeDiff, Nat.zero_add, reduceIte, and_self, eq_self, wE_sSetF, wE_sFrz, frzS_nil, frzS_cons, wE_mSl, wE_pNo, wE_pSome, wE_mM1, wE_mAnd, wE_mOr, wE_mChain, wE_mDct, truthD_bl, gNeg_int, view_exc, gFz_lt, gT_tup, gC_cons, gN_nil, tyD_lst, oE_none, e1, e2, gNe_strS, es, gNe_namesS n1]
  rintro _ rfl
  simp only [wE_bCons, wE_sIf, wE_bNil, wE_mBool, wE_mTruth, wE_tmAnd, wE_tmOr, wE_tmNot, wE_mBin, wE_mUn, wE_m1, wE_mVar, wE_m2, wE_mC, wE_sSet, wE_sSetH, wE_sPut, wE_sRet, wE_sDrop, wE_sUnp, wE_sPend, mPend_nil, mPend_cons, pend_fz, pend_nwl, pend_loc, putL_nil, putL_fz, putL_nw, fzL_nil, fzL_cons, wE_mLst, wE_mTup, wE_mCB, wE_mCall, wE_mMut, wE_mSeq, wE_mRng1, wE_for, wE_mDisp, wE_mPairs_nil, wE_mPairs_cons, wE_tmYes, wE_ok, wE_mIfE, wE_maCons, wE_maNil, views_cons, views_nil, vals_cons, vals_nil, Option.bind_some, Option.map_some, settle_fz, settle_loc, settle_nw, view_hdl, view_int, view_str, view_bl, view_lst, view_tup, view_ro, view_loc, view_nw, view_dct, oE_some, gCmpI_int, gAdd_int, gSub_int, toVal_fz, toVal_nw, toVal_loc, cont_hdl, cont_loc, putB_hdl, putB_loc, putH_nw, putR_fz, putR_nwl, putR_nwt, putR_nwd, putR_loc, leaveR_fz, leaveR_nw, leaveR_loc, List.getElem?_cons_zero, List.getElem?_cons_succ, List.length_cons, List.length_nil, List.set_cons_zero, List.set_cons_succ, decide_true, decide_false, if_true, if_false, Bool.not_true, Bool.not_false, Bool.false_eq_true, true_and, and_true, Nat.reduceAdd, Nat.reduceLT, Nat.reduceLeDiff, Nat.zero_add, reduceIte, and_self, eq_self, wE_sSetF, wE_sFrz, frzS_nil, frzS_cons, wE_mSl, wE_pNo, wE_pSome, wE_mM1, wE_mAnd, wE_mOr, wE_mChain, wE_mDct, truthD_bl, gNeg_int, view_exc, gFz_lt, gT_tup, gC_cons, gN_nil, tyD_lst, oE_none]
  refine wE_mut0 (d := .lst (strL ((freeT t x r).map (·.n)))) rfl rfl tyD_lst rfl rfl ?_
  simp only [wE_bCons, wE_sIf, wE_bNil, wE_mBool, wE_mTruth, wE_tmAnd, wE_tmOr, wE_tmNot, wE_mBin, wE_mUn, wE_m1, wE_mVar, wE_m2, wE_mC, wE_sSet, wE_sSetH, wE_sPut, wE_sRet, wE_sDrop, wE_sUnp, wE_sPend, mPend_nil, mPend_cons, pend_fz, pend_nwl, pend_loc, putL_nil, putL_fz, putL_nw, fzL_nil, fzL_cons, wE_mLst, wE_mTup, wE_mCB, wE_mCall, wE_mMut, wE_mSeq, wE_mRng1, wE_for, wE_mDisp, wE_mPairs_nil, wE_mPairs_cons, wE_tmYes, wE_ok, wE_mIfE, wE_maCons, wE_maNil, views_cons, views_nil, vals_cons, vals_nil, Option.bind_some, Option.map_some, settle_fz, settle_loc, settle_nw, view_hdl, view_int, view_str, view_bl, view_lst, view_tup, view_ro, view_loc, view_nw, view_dct, oE_some, gCmpI_int, gAdd_int, gSub_int, toVal_fz, toVal_nw, toVal_loc, cont_hdl, cont_loc, putB_hdl, putB_loc, putH_nw, putR_fz, putR_nwl, putR_nwt, putR_nwd, putR_loc, leaveR_fz, leaveR_nw, leaveR_loc, List.getElem?_cons_zero, List.getElem?_cons_succ, List.length_cons, List.length_nil, List.set_cons_zero, List.set_cons_succ, decide_true, decide_false, if_true, if_false, Bool.not_true, Bool.not_false, Bool.false_eq_true, true_and, and_true, Nat.reduceAdd, Nat.reduceLT, Nat.reduceLeDiff, Nat.zero_add, reduceIte, and_self, eq_self, wE_sSetF, wE_sFrz, frzS_nil, frzS_cons, wE_mSl, wE_pNo, wE_pSome, wE_mM1, wE_mAnd, wE_mOr, wE_mChain, wE_mDct, truthD_bl, gNeg_int, view_exc, gFz_lt, gT_tup, gC_cons, gN_nil, tyD_lst, oE_none]
  exact ⟨_, rfl⟩

theorem house {S0 S : List D} {R : D} {t : Stt} {b i x : Int} {x5 x7 x8 x9 x11 x12 : Sl} (h : Td t) (hx : x.natAbs < 10 ^ 12) (p : Pn S0 S b) (hb : b < 2 ^ 38) :
    wE (houseB ⟨[.fz R, .fz (.hdl 0), .fz (.int i), .fz (tD t), .fz (tO t), x5, .fz (.int x), x7, x8, x9, .un, x11, x12], S⟩) fun fl c => fl = .nx ∧ ∃ (z7 z8 z9 z11 z12 : Sl) (S' : List D), c = ⟨[.fz R, .fz (.hdl 0), .fz (.int i), .fz (tD t), .fz (tO t), x5, .fz (.int x), z7, z8, z9, .un, z11, z12], S'⟩ ∧ Pn S0 S' (b + 1) := by
  have hd := atT_sd h x
  have hr0 := hd.r0
  have hrl := hd.rl
  have z2 : 2 ≤ sizeLine := big64 (by decide)
  have er : gIx (sD (atT t x)) (.str "rooms") = some (.fz (.lst (strL (atT t x).rooms))) := ix_rooms
  refine wE_seqE (P := fun c => ∃ (r : Str) (S' : List D), isN r = true ∧ Pn S0 S' (b + 1) ∧ c = ⟨[.fz R, .fz (.hdl 0), .fz (.int i), .fz (tD t), .fz (tO t), x5, .fz (.int x), .fz (.tup [.int x, .str r]), x8, x9, .un, x11, x12], S'⟩) ?_ ?_
  · simp only [wE_bCons, wE_sIf, wE_bNil, wE_mBool, wE_mTruth, wE_tmAnd, wE_tmOr, wE_tmNot, wE_mBin, wE_mUn, wE_m1, wE_mVar, wE_m2, wE_mC, wE_sSet, wE_sSetH, wE_sPut, wE_sRet, wE_sDrop, wE_sUnp, wE_sPend, mPend_nil, mPend_cons, pend_fz, pend_nwl, pend_loc, putL_nil, putL_fz, putL_nw, fzL_nil, fzL_cons, wE_mLst, wE_mTup, wE_mCB, wE_mCall, wE_mMut, wE_mSeq, wE_mRng1, wE_for, wE_mDisp, wE_mPairs_nil, wE_mPairs_cons, wE_tmYes, wE_ok, wE_mIfE, wE_maCons, wE_maNil, views_cons, views_nil, vals_cons, vals_nil, Option.bind_some, Option.map_some, settle_fz, settle_loc, settle_nw, view_hdl, view_int, view_str, view_bl, view_lst, view_tup, view_ro, view_loc, view_nw, view_dct, oE_some, gCmpI_int, gAdd_int, gSub_int, toVal_fz, toVal_nw, toVal_loc, cont_hdl, cont_loc, putB_hdl, putB_loc, putH_nw, putR_fz, putR_nwl, putR_nwt, putR_nwd, putR_loc, leaveR_fz, leaveR_nw, leaveR_loc, List.getElem?_cons_zero, List.getElem?_cons_succ, List.length_cons, List.length_nil, List.set_cons_zero, List.set_cons_succ, decide_true, decide_false, if_true, if_false, Bool.not_true, Bool.not_false, Bool.false_eq_true, true_and, and_true, Nat.reduceAdd, Nat.reduceLT, Nat.reduceLeDiff, Nat.zero_add, reduceIte, and_self, eq_self, wE_sSetF, wE_sFrz, frzS_nil, frzS_cons, wE_mSl, wE_pNo, wE_pSome, wE_mM1, wE_mAnd, wE_mOr, wE_mChain, wE_mDct, truthD_bl, gNeg_int, view_exc, gFz_lt, gT_tup, gC_cons, gN_nil, tyD_lst, oE_none, view_tD, law_at_eq, view_sD, er]
    refine pick_name p (by omega) hr0 (by omega) fun r c hr p1 => ?_
    simp only [wE_bCons, wE_sIf, wE_bNil, wE_mBool, wE_mTruth, wE_tmAnd, wE_tmOr, wE_tmNot, wE_mBin, wE_mUn, wE_m1, wE_mVar, wE_m2, wE_mC, wE_sSet, wE_sSetH, wE_sPut, wE_sRet, wE_sDrop, wE_sUnp, wE_sPend, mPend_nil, mPend_cons, pend_fz, pend_nwl, pend_loc, putL_nil, putL_fz, putL_nw, fzL_nil, fzL_cons, wE_mLst, wE_mTup, wE_mCB, wE_mCall, wE_mMut, wE_mSeq, wE_mRng1, wE_for, wE_mDisp, wE_mPairs_nil, wE_mPairs_cons, wE_tmYes, wE_ok, wE_mIfE, wE_maCons, wE_maNil, views_cons, views_nil, vals_cons, vals_nil, Option.bind_some, Option.map_some, settle_fz, settle_loc, settle_nw, view_hdl, view_int, view_str, view_bl, view_lst, view_tup, view_ro, view_loc, view_nw, view_dct, oE_some, gCmpI_int, gAdd_int, gSub_int, toVal_fz, toVal_nw, toVal_loc, cont_hdl, cont_loc, putB_hdl, putB_loc, putH_nw, putR_fz, putR_nwl, putR_nwt, putR_nwd, putR_loc, leaveR_fz, leaveR_nw, leaveR_loc, List.getElem?_cons_zero, List.getElem?_cons_succ, List.length_cons, List.length_nil, List.set_cons_zero, List.set_cons_succ, decide_true, decide_false, if_true, if_false, Bool.not_true, Bool.not_false, Bool.false_eq_true, true_and, and_true, Nat.reduceAdd, Nat.reduceLT, Nat.reduceLeDiff, Nat.zero_add, reduceIte, and_self, eq_self, wE_sSetF, wE_sFrz, frzS_nil, frzS_cons, wE_mSl, wE_pNo, wE_pSome, wE_mM1, wE_mAnd, wE_mOr, wE_mChain, wE_mDct, truthD_bl, gNeg_int, view_exc, gFz_lt, gT_tup, gC_cons, gN_nil, tyD_lst, oE_none, z2]
    exact ⟨r, c.S, hd.rn r hr, p1, rfl⟩
  rintro _ ⟨r, S1, hr, p1, rfl⟩
  obtain ⟨n1, n2, n3⟩ := free_names (x := x) (r := r) h
  obtain ⟨y1, e1⟩ := (rd_names n1 (by omega)).repr (by decide) (by decide)
  obtain ⟨y2, e2⟩ := (rd_stand hx hr).repr (by decide) (by decide)
  refine wE_seqE (P := fun c => c = ⟨[.fz R, .fz (.hdl 0), .fz (.int i), .fz (tD t), .fz (tO t), x5, .fz (.int x), .fz (.tup [.int x, .str r]), .fz (.str y1), .fz (.str y2), .un, x11, x12], S1⟩) ?_ ?_
  · simp only [wE_bCons, wE_sIf, wE_bNil, wE_mBool, wE_mTruth, wE_tmAnd, wE_tmOr, wE_tmNot, wE_mBin, wE_mUn, wE_m1, wE_mVar, wE_m2, wE_mC, wE_sSet, wE_sSetH, wE_sPut, wE_sRet, wE_sDrop, wE_sUnp, wE_sPend, mPend_nil, mPend_cons, pend_fz, pend_nwl, pend_loc, putL_nil, putL_fz, putL_nw, fzL_nil, fzL_cons, wE_mLst, wE_mTup, wE_mCB, wE_mCall, wE_mMut, wE_mSeq, wE_mRng1, wE_for, wE_mDisp, wE_mPairs_nil, wE_mPairs_cons, wE_tmYes, wE_ok, wE_mIfE, wE_maCons, wE_maNil, views_cons, views_nil, vals_cons, vals_nil, Option.bind_some, Option.map_some, settle_fz, settle_loc, settle_nw, view_hdl, view_int, view_str, view_bl, view_lst, view_tup, view_ro, view_loc, view_nw, view_dct, oE_some, gCmpI_int, gAdd_int, gSub_int, toVal_fz, toVal_nw, toVal_loc, cont_hdl, cont_loc, putB_hdl, putB_loc, putH_nw, putR_fz, putR_nwl, putR_nwt, putR_nwd, putR_loc, leaveR_fz, leaveR_nw, leaveR_loc, List.getElem?_cons_zero, List.getElem?_cons_succ, List.length_cons, List.length_nil, List.set_cons_zero, List.set_cons_succ, decide_true, decide_false, if_true, if_false, Bool.not_true, Bool.not_false, Bool.false_eq_true, true_and, and_true, Nat.reduceAdd, Nat.reduceLT, Nat.reduceLeDiff, Nat.zero_add, reduceIte, and_self, eq_self, wE_sSetF, wE_sFrz, frzS_nil, frzS_cons, wE_mSl, wE_pNo, wE_pSome, wE_mM1, wE_mAnd, wE_mOr, wE_mChain, wE_mDct, truthD_bl, gNeg_int, view_exc, gFz_lt, gT_tup, gC_cons, gN_nil, tyD_lst, oE_none]
    refine comp_ok (fun _ => true) (fun z => .str (unD z).n) [.fz R, .fz (.hdl 0), .fz (.int i), .fz (tD t), .fz (tO t), x5, .fz (.int x), .fz (.tup [.int x, .str r]), x8, x9, .un, x11, x12] S1 .un ((freeT t x r).map doorD) ?_ rfl (fun _ z => by cases z) ?_ (fun _ _ => ⟨rfl, rfl⟩) ?_ ?_
    · simp only [wE_bCons, wE_sIf, wE_bNil, wE_mBool, wE_mTruth, wE_tmAnd, wE_tmOr, wE_tmNot, wE_mBin, wE_mUn, wE_m1, wE_mVar, wE_m2, wE_mC, wE_sSet, wE_sSetH, wE_sPut, wE_sRet, wE_sDrop, wE_sUnp, wE_sPend, mPend_nil, mPend_cons, pend_fz, pend_nwl, pend_loc, putL_nil, putL_fz, putL_nw, fzL_nil, fzL_cons, wE_mLst, wE_mTup, wE_mCB, wE_mCall, wE_mMut, wE_mSeq, wE_mRng1, wE_for, wE_mDisp, wE_mPairs_nil, wE_mPairs_cons, wE_tmYes, wE_ok, wE_mIfE, wE_maCons, wE_maNil, views_cons, views_nil, vals_cons, vals_nil, Option.bind_some, Option.map_some, settle_fz, settle_loc, settle_nw, view_hdl, view_int, view_str, view_bl, view_lst, view_tup, view_ro, view_loc, view_nw, view_dct, oE_some, gCmpI_int, gAdd_int, gSub_int, toVal_fz, toVal_nw, toVal_loc, cont_hdl, cont_loc, putB_hdl, putB_loc, putH_nw, putR_fz, putR_nwl, putR_nwt, putR_nwd, putR_loc, leaveR_fz, leaveR_nw, leaveR_loc, List.getElem?_cons_zero, List.getElem?_cons_succ, List.length_cons, List.length_nil, List.set_cons_zero, List.set_cons_succ, decide_true, decide_false, if_true, if_false, Bool.not_true, Bool.not_false, Bool.false_eq_true, true_and, and_true, Nat.reduceAdd, Nat.reduceLT, Nat.reduceLeDiff, Nat.zero_add, reduceIte, and_self, eq_self, wE_sSetF, wE_sFrz, frzS_nil, frzS_cons, wE_mSl, wE_pNo, wE_pSome, wE_mM1, wE_mAnd, wE_mOr, wE_mChain, wE_mDct, truthD_bl, gNeg_int, view_exc, gFz_lt, gT_tup, gC_cons, gN_nil, tyD_lst, oE_none, view_tD, law_doors_eq h]
    · rw [List.length_map] at n2 ⊢; exact big (by omega)
    · intro z hz _
      obtain ⟨d, hdm, rfl⟩ := List.mem_map.mp hz
      simp only [wE_bCons, wE_sIf, wE_bNil, wE_mBool, wE_mTruth, wE_tmAnd, wE_tmOr, wE_tmNot, wE_mBin, wE_mUn, wE_m1, wE_mVar, wE_m2, wE_mC, wE_sSet, wE_sSetH, wE_sPut, wE_sRet, wE_sDrop, wE_sUnp, wE_sPend, mPend_nil, mPend_cons, pend_fz, pend_nwl, pend_loc, putL_nil, putL_fz, putL_nw, fzL_nil, fzL_cons, wE_mLst, wE_mTup, wE_mCB, wE_mCall, wE_mMut, wE_mSeq, wE_mRng1, wE_for, wE_mDisp, wE_mPairs_nil, wE_mPairs_cons, wE_tmYes, wE_ok, wE_mIfE, wE_maCons, wE_maNil, views_cons, views_nil, vals_cons, vals_nil, Option.bind_some, Option.map_some, settle_fz, settle_loc, settle_nw, view_hdl, view_int, view_str, view_bl, view_lst, view_tup, view_ro, view_loc, view_nw, view_dct, oE_some, gCmpI_int, gAdd_int, gSub_int, toVal_fz, toVal_nw, toVal_loc, cont_hdl, cont_loc, putB_hdl, putB_loc, putH_nw, putR_fz, putR_nwl, putR_nwt, putR_nwd, putR_loc, leaveR_fz, leaveR_nw, leaveR_loc, List.getElem?_cons_zero, List.getElem?_cons_succ, List.length_cons, List.length_nil, List.set_cons_zero, List.set_cons_succ, decide_true, decide_false, if_true, if_false, Bool.not_true, Bool.not_false, Bool.false_eq_true, true_and, and_true, Nat.reduceAdd, Nat.reduceLT, Nat.reduceLeDiff, Nat.zero_add, reduceIte, and_self, eq_self, wE_sSetF, wE_sFrz, frzS_nil, frzS_cons, wE_mSl, wE_pNo, wE_pSome, wE_mM1, wE_mAnd, wE_mOr, wE_mChain, wE_mDct, truthD_bl, gNeg_int, view_exc, gFz_lt, gT_tup, gC_cons, gN_nil, tyD_lst, oE_none, view_doorD, ix_d0]
      rfl
    · rw [filter_true, List.map_map]
      have ef : (freeT t x r).map ((fun z => D.str (unD z).n) ∘ doorD) = strL ((freeT t x r).map (·.n)) := by
        unfold strL
        rw [List.map_map]; rfl
      rw [ef]
      simp only [wE_bCons, wE_sIf, wE_bNil, wE_mBool, wE_mTruth, wE_tmAnd, wE_tmOr, wE_tmNot, wE_mBin, wE_mUn, wE_m1, wE_mVar, wE_m2, wE_mC, wE_sSet, wE_sSetH, wE_sPut, wE_sRet, wE_sDrop, wE_sUnp, wE_sPend, mPend_nil, mPend_cons, pend_fz, pend_nwl, pend_loc, putL_nil, putL_fz, putL_nw, fzL_nil, fzL_cons, wE_mLst, wE_mTup, wE_mCB, wE_mCall, wE_mMut, wE_mSeq, wE_mRng1, wE_for, wE_mDisp, wE_mPairs_nil, wE_mPairs_cons, wE_tmYes, wE_ok, wE_mIfE, wE_maCons, wE_maNil, views_cons, views_nil, vals_cons, vals_nil, Option.bind_some, Option.map_some, settle_fz, settle_loc, settle_nw, view_hdl, view_int, view_str, view_bl, view_lst, view_tup, view_ro, view_loc, view_nw, view_dct, oE_some, gCmpI_int, gAdd_int, gSub_int, toVal_fz, toVal_nw, toVal_loc, cont_hdl, cont_loc, putB_hdl, putB_loc, putH_nw, putR_fz, putR_nwl, putR_nwt, putR_nwd, putR_loc, leaveR_fz, leaveR_nw, leaveR_loc, List.getElem?_cons_zero, List.getElem?_cons_succ, List.length_cons, List.length_nil, List.set_cons_zero, List.set_cons_succ, decide_true, decide_false, if_true, if_false, Bool.not_true, Bool.not_false, Bool.false_eq_true, true_and, and_true, Nat.reduceAdd, Nat.reduceLT, Nat.reduceLeDiff, Nat.zero_add, reduceIte, and_self, eq_self, wE_sSetF, wE_sFrz, frzS_nil, frzS_cons, wE_mSl, wE_pNo, wE_pSome, wE_mM1, wE_mAnd, wE_mOr, wE_mChain, wE_mDct, truthD_bl, gNeg_int, view_exc, gFz_lt, gT_tup, gC_cons, gN_nil, tyD_lst, oE_none, e1, e2, z2]
  rintro _ rfl
  refine for_E (rangeD 0 2) (fun _ c => ∃ z11 z12, c = ⟨[.fz R, .fz (.hdl 0), .fz (.int i), .fz (tD t), .fz (tO t), x5, .fz (.int x), .fz (.tup [.int x, .str r]), .fz (.str y1), .fz (.str y2), .un, z11, z12], S1⟩) (fun _ _ => False) ?_ ?_ ?_ (fun _ _ z => z.elim)
  · rw [wE_mRng1]
    simp only [wE_bCons, wE_sIf, wE_bNil, wE_mBool, wE_mTruth, wE_tmAnd, wE_tmOr, wE_tmNot, wE_mBin, wE_mUn, wE_m1, wE_mVar, wE_m2, wE_mC, wE_sSet, wE_sSetH, wE_sPut, wE_sRet, wE_sDrop, wE_sUnp, wE_sPend, mPend_nil, mPend_cons, pend_fz, pend_nwl, pend_loc, putL_nil, putL_fz, putL_nw, fzL_nil, fzL_cons, wE_mLst, wE_mTup, wE_mCB, wE_mCall, wE_mMut, wE_mSeq, wE_mRng1, wE_for, wE_mDisp, wE_mPairs_nil, wE_mPairs_cons, wE_tmYes, wE_ok, wE_mIfE, wE_maCons, wE_maNil, views_cons, views_nil, vals_cons, vals_nil, Option.bind_some, Option.map_some, settle_fz, settle_loc, settle_nw, view_hdl, view_int, view_str, view_bl, view_lst, view_tup, view_ro, view_loc, view_nw, view_dct, oE_some, gCmpI_int, gAdd_int, gSub_int, toVal_fz, toVal_nw, toVal_loc, cont_hdl, cont_loc, putB_hdl, putB_loc, putH_nw, putR_fz, putR_nwl, putR_nwt, putR_nwd, putR_loc, leaveR_fz, leaveR_nw, leaveR_loc, List.getElem?_cons_zero, List.getElem?_cons_succ, List.length_cons, List.length_nil, List.set_cons_zero, List.set_cons_succ, decide_true, decide_false, if_true, if_false, Bool.not_true, Bool.not_false, Bool.false_eq_true, true_and, and_true, Nat.reduceAdd, Nat.reduceLT, Nat.reduceLeDiff, Nat.zero_add, reduceIte, and_self, eq_self, wE_sSetF, wE_sFrz, frzS_nil, frzS_cons, wE_mSl, wE_pNo, wE_pSome, wE_mM1, wE_mAnd, wE_mOr, wE_mChain, wE_mDct, truthD_bl, gNeg_int, view_exc, gFz_lt, gT_tup, gC_cons, gN_nil, tyD_lst, oE_none]
    exact ⟨⟨by omega, by omega⟩, rfl, _, _, rfl⟩
  · rintro j d _ hd ⟨z11, z12, rfl⟩
    rw [gFz_lt, if_pos (by simp), oE_some]
    refine wE_mono (turn (S0 := S0) (b := b) (i := i) (x5 := x5) (x6 := .fz (.int x)) (x12 := z12) (S := S1) (R := R) (x11 := .fz d) h hx hr e1 e2) fun fl c ⟨hf, z, hc⟩ => ?_
    subst hf
    exact ⟨_, z, hc⟩
  · rintro c ⟨z11, z12, hc⟩
    exact ⟨rfl, _, _, _, z11, z12, S1, hc, p1⟩
theorem pend_tO {t : Stt} {c : Cf} : pend c (.nw (tO t)) = some (.nw (tO t), c) := rfl
structure TI (S0 : List D) (R : D) (b : Int) (c : Cf) : Prop where
  ex : ∃ (x2 x3 x4 x5 x6 x7 x8 x9 x11 x12 : Sl) (S : List D), c = ⟨[.fz R, .fz (.hdl 0), x2, x3, x4, x5, x6, x7, x8, x9, .un, x11, x12], S⟩ ∧ Pn S0 S b
theorem bout {S0 S : List D} {R : D} {b i : Int} {x3 x4 x5 x6 x7 x8 x9 x11 x12 : Sl} (p : Pn S0 S b) (h1 : S0.length = 1) (hb : b < 2 ^ 33) :
    wE (boutB ⟨[.fz R, .fz (.hdl 0), .fz (.int i), x3, x4, x5, x6, x7, x8, x9, .un, x11, x12], S⟩) fun fl c => fl = .nx ∧ TI S0 R (b + 20000) c := by
  have z2 : 2 ≤ sizeLine := big64 (by decide)
  refine wE_seqE (P := fun c => ∃ (t : Stt) (S' : List D), Td t ∧ t.o.length ≤ 5 ∧ Pn S0 S' (b + 10000) ∧ c = ⟨[.fz R, .fz (.hdl 0), .fz (.int i), .fz (tD t), x4, x5, x6, x7, x8, x9, .un, x11, x12], S'⟩) ?_ ?_
  · simp only [wE_bCons, wE_sIf, wE_bNil, wE_mBool, wE_mTruth, wE_tmAnd, wE_tmOr, wE_tmNot, wE_mBin, wE_mUn, wE_m1, wE_mVar, wE_m2, wE_mC, wE_sSet, wE_sSetH, wE_sPut, wE_sRet, wE_sDrop, wE_sUnp, wE_sPend, mPend_nil, mPend_cons, pend_fz, pend_nwl, pend_loc, putL_nil, putL_fz, putL_nw, fzL_nil, fzL_cons, wE_mLst, wE_mTup, wE_mCB, wE_mCall, wE_mMut, wE_mSeq, wE_mRng1, wE_for, wE_mDisp, wE_mPairs_nil, wE_mPairs_cons, wE_tmYes, wE_ok, wE_mIfE, wE_maCons, wE_maNil, views_cons, views_nil, vals_cons, vals_nil, Option.bind_some, Option.map_some, settle_fz, settle_loc, settle_nw, view_hdl, view_int, view_str, view_bl, view_lst, view_tup, view_ro, view_loc, view_nw, view_dct, oE_some, gCmpI_int, gAdd_int, gSub_int, toVal_fz, toVal_nw, toVal_loc, cont_hdl, cont_loc, putB_hdl, putB_loc, putH_nw, putR_fz, putR_nwl, putR_nwt, putR_nwd, putR_loc, leaveR_fz, leaveR_nw, leaveR_loc, List.getElem?_cons_zero, List.getElem?_cons_succ, List.length_cons, List.length_nil, List.set_cons_zero, List.set_cons_succ, decide_true, decide_false, if_true, if_false, Bool.not_true, Bool.not_false, Bool.false_eq_true, true_and, and_true, Nat.reduceAdd, Nat.reduceLT, Nat.reduceLeDiff, Nat.zero_add, reduceIte, and_self, eq_self, wE_sSetF, wE_sFrz, frzS_nil, frzS_cons, wE_mSl, wE_pNo, wE_pSome, wE_mM1, wE_mAnd, wE_mOr, wE_mChain, wE_mDct, truthD_bl, gNeg_int, view_exc, gFz_lt, gT_tup, gC_cons, gN_nil, tyD_lst, oE_none]
    refine street_bw (R := 5) (N := 10) (O := 5) rfl rfl rfl (by decide) (by decide) (by decide) (by decide) p (by omega) fun t pool c hk p1 => ?_
    simp only [wE_bCons, wE_sIf, wE_bNil, wE_mBool, wE_mTruth, wE_tmAnd, wE_tmOr, wE_tmNot, wE_mBin, wE_mUn, wE_m1, wE_mVar, wE_m2, wE_mC, wE_sSet, wE_sSetH, wE_sPut, wE_sRet, wE_sDrop, wE_sUnp, wE_sPend, mPend_nil, mPend_cons, pend_fz, pend_nwl, pend_loc, putL_nil, putL_fz, putL_nw, fzL_nil, fzL_cons, wE_mLst, wE_mTup, wE_mCB, wE_mCall, wE_mMut, wE_mSeq, wE_mRng1, wE_for, wE_mDisp, wE_mPairs_nil, wE_mPairs_cons, wE_tmYes, wE_ok, wE_mIfE, wE_maCons, wE_maNil, views_cons, views_nil, vals_cons, vals_nil, Option.bind_some, Option.map_some, settle_fz, settle_loc, settle_nw, view_hdl, view_int, view_str, view_bl, view_lst, view_tup, view_ro, view_loc, view_nw, view_dct, oE_some, gCmpI_int, gAdd_int, gSub_int, toVal_fz, toVal_nw, toVal_loc, cont_hdl, cont_loc, putB_hdl, putB_loc, putH_nw, putR_fz, putR_nwl, putR_nwt, putR_nwd, putR_loc, leaveR_fz, leaveR_nw, leaveR_loc, List.getElem?_cons_zero, List.getElem?_cons_succ, List.length_cons, List.length_nil, List.set_cons_zero, List.set_cons_succ, decide_true, decide_false, if_true, if_false, Bool.not_true, Bool.not_false, Bool.false_eq_true, true_and, and_true, Nat.reduceAdd, Nat.reduceLT, Nat.reduceLeDiff, Nat.zero_add, reduceIte, and_self, eq_self, wE_sSetF, wE_sFrz, frzS_nil, frzS_cons, wE_mSl, wE_pNo, wE_pSome, wE_mM1, wE_mAnd, wE_mOr, wE_mChain, wE_mDct, truthD_bl, gNeg_int, view_exc, gFz_lt, gT_tup, gC_cons, gN_nil, tyD_lst, oE_none]
    exact ⟨t, c.S, hk.td (by decide) (by decide) (by decide), hk.len, p1, rfl⟩
  rintro _ ⟨t, S1, ht, hol, p1, rfl⟩
  have ef : gIx (tD t) (.str "first") = some (.fz (.int t.f)) := ix_first
  have eo : gIx (tD t) (.str "odd") = some (.fz (.lst (t.o.map sD))) := ix_odd
  have f0 := ht.f0
  have f1 := ht.f1
  refine wE_seqE (P := fun c => c = ⟨[.fz R, .fz (.hdl 0), .fz (.int i), .fz (tD t), .fz (tO t), .fz (.int t.f), x6, x7, x8, x9, .un, x11, x12], S1⟩) ?_ ?_
  · simp only [wE_bCons, wE_sIf, wE_bNil, wE_mBool, wE_mTruth, wE_tmAnd, wE_tmOr, wE_tmNot, wE_mBin, wE_mUn, wE_m1, wE_mVar, wE_m2, wE_mC, wE_sSet, wE_sSetH, wE_sPut, wE_sRet, wE_sDrop, wE_sUnp, wE_sPend, mPend_nil, mPend_cons, pend_fz, pend_nwl, pend_loc, putL_nil, putL_fz, putL_nw, fzL_nil, fzL_cons, wE_mLst, wE_mTup, wE_mCB, wE_mCall, wE_mMut, wE_mSeq, wE_mRng1, wE_for, wE_mDisp, wE_mPairs_nil, wE_mPairs_cons, wE_tmYes, wE_ok, wE_mIfE, wE_maCons, wE_maNil, views_cons, views_nil, vals_cons, vals_nil, Option.bind_some, Option.map_some, settle_fz, settle_loc, settle_nw, view_hdl, view_int, view_str, view_bl, view_lst, view_tup, view_ro, view_loc, view_nw, view_dct, oE_some, gCmpI_int, gAdd_int, gSub_int, toVal_fz, toVal_nw, toVal_loc, cont_hdl, cont_loc, putB_hdl, putB_loc, putH_nw, putR_fz, putR_nwl, putR_nwt, putR_nwd, putR_loc, leaveR_fz, leaveR_nw, leaveR_loc, List.getElem?_cons_zero, List.getElem?_cons_succ, List.length_cons, List.length_nil, List.set_cons_zero, List.set_cons_succ, decide_true, decide_false, if_true, if_false, Bool.not_true, Bool.not_false, Bool.false_eq_true, true_and, and_true, Nat.reduceAdd, Nat.reduceLT, Nat.reduceLeDiff, Nat.zero_add, reduceIte, and_self, eq_self, wE_sSetF, wE_sFrz, frzS_nil, frzS_cons, wE_mSl, wE_pNo, wE_pSome, wE_mM1, wE_mAnd, wE_mOr, wE_mChain, wE_mDct, truthD_bl, gNeg_int, view_exc, gFz_lt, gT_tup, gC_cons, gN_nil, tyD_lst, oE_none, view_tD, made_eq ht (p1.clean h1), pend_tO, ef, z2]
  rintro _ rfl
  have eR : gListR (.int (t.f - 2)) (.int (t.f + (t.o.length : Int) + 2)) = some (.nw (.lst (rangeD (t.f - 2) (t.o.length + 4)))) := by
    show (if _ then some (Rv.nw (.lst (rangeD (t.f - 2) (t.f + (t.o.length : Int) + 2 - (t.f - 2)).toNat))) else none) = _
    have e : (t.f + (t.o.length : Int) + 2 - (t.f - 2)).toNat = t.o.length + 4 := by omega
    rw [if_pos (by omega), e]
  have eA : gAdd (.lst (rangeD (t.f - 2) (t.o.length + 4))) (.lst [.int (1000000000000 - 9), .int (9 - 1000000000000)]) = some (.nw (.lst (rangeD (t.f - 2) (t.o.length + 4) ++ [.int (1000000000000 - 9), .int (9 - 1000000000000)]))) := gAdd_lst (by rw [rangeD_len]; exact big (by show _ + 2 ≤ _; omega))
  refine for_E (rangeD (t.f - 2) (t.o.length + 4) ++ [.int (1000000000000 - 9), .int (9 - 1000000000000)]) (fun j c => ∃ (z6 z7 z8 z9 z11 z12 : Sl) (S' : List D), c = ⟨[.fz R, .fz (.hdl 0), .fz (.int i), .fz (tD t), .fz (tO t), .fz (.int t.f), z6, z7, z8, z9, .un, z11, z12], S'⟩ ∧ Pn S0 S' (b + 10000 + j)) (fun _ _ => False) ?_ ?_ ?_ (fun _ _ z => z.elim)
  · simp only [wE_bCons, wE_sIf, wE_bNil, wE_mBool, wE_mTruth, wE_tmAnd, wE_tmOr, wE_tmNot, wE_mBin, wE_mUn, wE_m1, wE_mVar, wE_m2, wE_mC, wE_sSet, wE_sSetH, wE_sPut, wE_sRet, wE_sDrop, wE_sUnp, wE_sPend, mPend_nil, mPend_cons, pend_fz, pend_nwl, pend_loc, putL_nil, putL_fz, putL_nw, fzL_nil, fzL_cons, wE_mLst, wE_mTup, wE_mCB, wE_mCall, wE_mMut, wE_mSeq, wE_mRng1, wE_for, wE_mDisp, wE_mPairs_nil, wE_mPairs_cons, wE_tmYes, wE_ok, wE_mIfE, wE_maCons, wE_maNil, views_cons, views_nil, vals_cons, vals_nil, Option.bind_some, Option.map_some, settle_fz, settle_loc, settle_nw, view_hdl, view_int, view_str, view_bl, view_lst, view_tup, view_ro, view_loc, view_nw, view_dct, oE_some, gCmpI_int, gAdd_int, gSub_int, toVal_fz, toVal_nw, toVal_loc, cont_hdl, cont_loc, putB_hdl, putB_loc, putH_nw, putR_fz, putR_nwl, putR_nwt, putR_nwd, putR_loc, leaveR_fz, leaveR_nw, leaveR_loc, List.getElem?_cons_zero, List.getElem?_cons_succ, List.length_cons, List.length_nil, List.set_cons_zero, List.set_cons_succ, decide_true, decide_false, if_true, if_false, Bool.not_true, Bool.not_false, Bool.false_eq_true, true_and, and_true, Nat.reduceAdd, Nat.reduceLT, Nat.reduceLeDiff, Nat.zero_add, reduceIte, and_self, eq_self, wE_sSetF, wE_sFrz, frzS_nil, frzS_cons, wE_mSl, wE_pNo, wE_pSome, wE_mM1, wE_mAnd, wE_mOr, wE_mChain, wE_mDct, truthD_bl, gNeg_int, view_exc, gFz_lt, gT_tup, gC_cons, gN_nil, tyD_lst, oE_none, view_tD, eo, gLen_lst, map_length, eR, gPow_12, z2, eA]
    exact ⟨_, _, _, _, _, _, S1, rfl, p1.mono (by omega)⟩
  · rintro j d _ hd ⟨z6, z7, z8, z9, z11, z12, S', rfl, p2⟩
    have hj : j < t.o.length + 4 + 2 := by
      have := (List.getElem?_eq_some_iff.mp hd).1
      rw [List.length_append, rangeD_len] at this
      exact this
    obtain ⟨x, rfl, hx⟩ : ∃ x : Int, d = .int x ∧ x.natAbs < 10 ^ 12 := by
      rcases List.mem_append.mp (List.mem_of_getElem? hd) with hm | hm
      · obtain ⟨k, hk⟩ := List.getElem?_of_mem hm
        obtain ⟨hk1, rfl⟩ := rangeD_get hk
        exact ⟨_, rfl, by omega⟩
      · simp only [List.mem_cons, List.not_mem_nil, or_false] at hm
        rcases hm with rfl | rfl
        · exact ⟨_, rfl, by decide⟩
        · exact ⟨_, rfl, by decide⟩
    rw [gFz_lt, if_pos (by simp), oE_some]
    refine wE_mono (house (S0 := S0) (S := S') (R := R) (i := i) (x5 := .fz (.int t.f)) (x7 := z7) (x8 := z8) (x9 := z9) (x11 := z11) (x12 := z12) ht hx p2 (by omega)) fun fl c ⟨hf, w7, w8, w9, w11, w12, S3, hc, p3⟩ => ?_
    subst hf
    exact ⟨_, w7, w8, w9, w11, w12, S3, hc, p3.mono (by push_cast; omega)⟩
  · rintro c ⟨z6, z7, z8, z9, z11, z12, S', hc, p2⟩
    refine ⟨rfl, _, _, _, _, z6, z7, z8, z9, z11, z12, S', hc, p2.mono ?_⟩
    rw [List.length_append, rangeD_len]
    show b + 10000 + ((t.o.length + 4 + 2 : Nat) : Int) ≤ _
    omega
theorem law_true : LawTrue 63 m_law := by
  intro ns hns
  have key : wE (m_law [.ro (ns.map D.int)] []) fun rv c => rv = .fz (.bl true) := by
    apply wE_runF
    show wE (b_law ⟨[.fz (.ro (ns.map D.int)), .un, .un, .un, .un, .un, .un, .un, .un, .un, .un, .un, .un], []⟩) _
    unfold b_law
    refine wE_seqE (P := fun c => TI [.dct (penKv (ns.take 63) 0 0)] (.ro (ns.map D.int)) 0 c) ?_ ?_
    · simp only [wE_bCons, wE_sIf, wE_bNil, wE_mBool, wE_mTruth, wE_tmAnd, wE_tmOr, wE_tmNot, wE_mBin, wE_mUn, wE_m1, wE_mVar, wE_m2, wE_mC, wE_sSet, wE_sSetH, wE_sPut, wE_sRet, wE_sDrop, wE_sUnp, wE_sPend, mPend_nil, mPend_cons, pend_fz, pend_nwl, pend_loc, putL_nil, putL_fz, putL_nw, fzL_nil, fzL_cons, wE_mLst, wE_mTup, wE_mCB, wE_mCall, wE_mMut, wE_mSeq, wE_mRng1, wE_for, wE_mDisp, wE_mPairs_nil, wE_mPairs_cons, wE_tmYes, wE_ok, wE_mIfE, wE_maCons, wE_maNil, views_cons, views_nil, vals_cons, vals_nil, Option.bind_some, Option.map_some, settle_fz, settle_loc, settle_nw, view_hdl, view_int, view_str, view_bl, view_lst, view_tup, view_ro, view_loc, view_nw, view_dct, oE_some, gCmpI_int, gAdd_int, gSub_int, toVal_fz, toVal_nw, toVal_loc, cont_hdl, cont_loc, putB_hdl, putB_loc, putH_nw, putR_fz, putR_nwl, putR_nwt, putR_nwd, putR_loc, leaveR_fz, leaveR_nw, leaveR_loc, List.getElem?_cons_zero, List.getElem?_cons_succ, List.length_cons, List.length_nil, List.set_cons_zero, List.set_cons_succ, decide_true, decide_false, if_true, if_false, Bool.not_true, Bool.not_false, Bool.false_eq_true, true_and, and_true, Nat.reduceAdd, Nat.reduceLT, Nat.reduceLeDiff, Nat.zero_add, reduceIte, and_self, eq_self, wE_sSetF, wE_sFrz, frzS_nil, frzS_cons, wE_mSl, wE_pNo, wE_pSome, wE_mM1, wE_mAnd, wE_mOr, wE_mChain, wE_mDct, truthD_bl, gNeg_int, view_exc, gFz_lt, gT_tup, gC_cons, gN_nil, tyD_lst, oE_none]
      refine pen_bw fun c hc => ?_
      rw [hc]
      simp only [wE_bCons, wE_sIf, wE_bNil, wE_mBool, wE_mTruth, wE_tmAnd, wE_tmOr, wE_tmNot, wE_mBin, wE_mUn, wE_m1, wE_mVar, wE_m2, wE_mC, wE_sSet, wE_sSetH, wE_sPut, wE_sRet, wE_sDrop, wE_sUnp, wE_sPend, mPend_nil, mPend_cons, pend_fz, pend_nwl, pend_loc, putL_nil, putL_fz, putL_nw, fzL_nil, fzL_cons, wE_mLst, wE_mTup, wE_mCB, wE_mCall, wE_mMut, wE_mSeq, wE_mRng1, wE_for, wE_mDisp, wE_mPairs_nil, wE_mPairs_cons, wE_tmYes, wE_ok, wE_mIfE, wE_maCons, wE_maNil, views_cons, views_nil, vals_cons, vals_nil, Option.bind_some, Option.map_some, settle_fz, settle_loc, settle_nw, view_hdl, view_int, view_str, view_bl, view_lst, view_tup, view_ro, view_loc, view_nw, view_dct, oE_some, gCmpI_int, gAdd_int, gSub_int, toVal_fz, toVal_nw, toVal_loc, cont_hdl, cont_loc, putB_hdl, putB_loc, putH_nw, putR_fz, putR_nwl, putR_nwt, putR_nwd, putR_loc, leaveR_fz, leaveR_nw, leaveR_loc, List.getElem?_cons_zero, List.getElem?_cons_succ, List.length_cons, List.length_nil, List.set_cons_zero, List.set_cons_succ, decide_true, decide_false, if_true, if_false, Bool.not_true, Bool.not_false, Bool.false_eq_true, true_and, and_true, Nat.reduceAdd, Nat.reduceLT, Nat.reduceLeDiff, Nat.zero_add, reduceIte, and_self, eq_self, wE_sSetF, wE_sFrz, frzS_nil, frzS_cons, wE_mSl, wE_pNo, wE_pSome, wE_mM1, wE_mAnd, wE_mOr, wE_mChain, wE_mDct, truthD_bl, gNeg_int, view_exc, gFz_lt, gT_tup, gC_cons, gN_nil, tyD_lst, oE_none]
      exact ⟨_, _, _, _, _, _, _, _, _, _, _, rfl, pn_new⟩
    · rintro _ ⟨x2, x3, x4, x5, x6, x7, x8, x9, x11, x12, S, rfl, p⟩
      obtain ⟨m, em, hm0, hm⟩ : ∃ m : Int, (if ((ns.map D.int).length : Int) < 6 then ((ns.map D.int).length : Int) else 6) = m ∧ 0 ≤ m ∧ m ≤ 6 := ⟨_, rfl, by split <;> omega, by split <;> omega⟩
      refine wE_seqE (P := fun _ => True) ?_ ?_
      · refine for_E (rangeD 0 (3 + m).toNat) (fun i c => TI [.dct (penKv (ns.take 63) 0 0)] (.ro (ns.map D.int)) (20000 * i) c) (fun _ _ => False) ?_ ?_ ?_ (fun _ _ z => z.elim)
        · rw [wE_mRng1]
          simp only [wE_bCons, wE_sIf, wE_bNil, wE_mBool, wE_mTruth, wE_tmAnd, wE_tmOr, wE_tmNot, wE_mBin, wE_mUn, wE_m1, wE_mVar, wE_m2, wE_mC, wE_sSet, wE_sSetH, wE_sPut, wE_sRet, wE_sDrop, wE_sUnp, wE_sPend, mPend_nil, mPend_cons, pend_fz, pend_nwl, pend_loc, putL_nil, putL_fz, putL_nw, fzL_nil, fzL_cons, wE_mLst, wE_mTup, wE_mCB, wE_mCall, wE_mMut, wE_mSeq, wE_mRng1, wE_for, wE_mDisp, wE_mPairs_nil, wE_mPairs_cons, wE_tmYes, wE_ok, wE_mIfE, wE_maCons, wE_maNil, views_cons, views_nil, vals_cons, vals_nil, Option.bind_some, Option.map_some, settle_fz, settle_loc, settle_nw, view_hdl, view_int, view_str, view_bl, view_lst, view_tup, view_ro, view_loc, view_nw, view_dct, oE_some, gCmpI_int, gAdd_int, gSub_int, toVal_fz, toVal_nw, toVal_loc, cont_hdl, cont_loc, putB_hdl, putB_loc, putH_nw, putR_fz, putR_nwl, putR_nwt, putR_nwd, putR_loc, leaveR_fz, leaveR_nw, leaveR_loc, List.getElem?_cons_zero, List.getElem?_cons_succ, List.length_cons, List.length_nil, List.set_cons_zero, List.set_cons_succ, decide_true, decide_false, if_true, if_false, Bool.not_true, Bool.not_false, Bool.false_eq_true, true_and, and_true, Nat.reduceAdd, Nat.reduceLT, Nat.reduceLeDiff, Nat.zero_add, reduceIte, and_self, eq_self, wE_sSetF, wE_sFrz, frzS_nil, frzS_cons, wE_mSl, wE_pNo, wE_pSome, wE_mM1, wE_mAnd, wE_mOr, wE_mChain, wE_mDct, truthD_bl, gNeg_int, view_exc, gFz_lt, gT_tup, gC_cons, gN_nil, tyD_lst, oE_none, gLen_ro, gMin_int, em]
          exact ⟨⟨by omega, by omega⟩, x2, x3, x4, x5, x6, x7, x8, x9, x11, x12, S, rfl, p⟩
        · rintro i d _ hd ⟨y2, y3, y4, y5, y6, y7, y8, y9, y11, y12, S', rfl, p'⟩
          obtain ⟨hi, rfl⟩ := rangeD_get hd
          rw [gFz_lt, if_pos (by simp), oE_some]
          refine wE_mono (bout p' rfl (by omega)) fun fl c ⟨h1, h2⟩ => ?_
          subst h1
          have ez : (20000 : Int) * ((i + 1 : Nat) : Int) = 20000 * (i : Int) + 20000 := by omega
          show TI _ _ (20000 * ((i + 1 : Nat) : Int)) c
          rw [ez]
          exact h2
        · intro c _
          exact ⟨rfl, trivial⟩
      · rintro c -
        simp only [wE_bCons, wE_sIf, wE_bNil, wE_mBool, wE_mTruth, wE_tmAnd, wE_tmOr, wE_tmNot, wE_mBin, wE_mUn, wE_m1, wE_mVar, wE_m2, wE_mC, wE_sSet, wE_sSetH, wE_sPut, wE_sRet, wE_sDrop, wE_sUnp, wE_sPend, mPend_nil, mPend_cons, pend_fz, pend_nwl, pend_loc, putL_nil, putL_fz, putL_nw, fzL_nil, fzL_cons, wE_mLst, wE_mTup, wE_mCB, wE_mCall, wE_mMut, wE_mSeq, wE_mRng1, wE_for, wE_mDisp, wE_mPairs_nil, wE_mPairs_cons, wE_tmYes, wE_ok, wE_mIfE, wE_maCons, wE_maNil, views_cons, views_nil, vals_cons, vals_nil, Option.bind_some, Option.map_some, settle_fz, settle_loc, settle_nw, view_hdl, view_int, view_str, view_bl, view_lst, view_tup, view_ro, view_loc, view_nw, view_dct, oE_some, gCmpI_int, gAdd_int, gSub_int, toVal_fz, toVal_nw, toVal_loc, cont_hdl, cont_loc, putB_hdl, putB_loc, putH_nw, putR_fz, putR_nwl, putR_nwt, putR_nwd, putR_loc, leaveR_fz, leaveR_nw, leaveR_loc, List.getElem?_cons_zero, List.getElem?_cons_succ, List.length_cons, List.length_nil, List.set_cons_zero, List.set_cons_succ, decide_true, decide_false, if_true, if_false, Bool.not_true, Bool.not_false, Bool.false_eq_true, true_and, and_true, Nat.reduceAdd, Nat.reduceLT, Nat.reduceLeDiff, Nat.zero_add, reduceIte, and_self, eq_self, wE_sSetF, wE_sFrz, frzS_nil, frzS_cons, wE_mSl, wE_pNo, wE_pSome, wE_mM1, wE_mAnd, wE_mOr, wE_mChain, wE_mDct, truthD_bl, gNeg_int, view_exc, gFz_lt, gT_tup, gC_cons, gN_nil, tyD_lst, oE_none]
  obtain ⟨rv, c, e, h⟩ := wE_ex key
  exact ⟨c, by rw [e, h]⟩
/-! the end -/
theorem all_mk {l : PySem.W.OpenLaw} {w : World} {K : Fg} {h : Heap} {mg : Mg} {fa : Addr} (X : K.In h) (G : h.Ns mainGlobals mg) (hfa : mg "law" = some (.ref fa))
    {C_Sort : Addr}
    {C_Street : Addr}
    {f0 : Addr} {od0 an0 : Option Addr} {sl0 : Array (Option Value)} {oc0 kV0 dc0 pm0 cd0 ct0 : Value}
    {f1 : Addr} {od1 an1 : Option Addr} {sl1 : Array (Option Value)} {oc1 kV1 dc1 pm1 cd1 ct1 : Value}
    {f2 : Addr} {od2 an2 : Option Addr} {sl2 : Array (Option Value)} {oc2 kV2 dc2 pm2 cd2 ct2 : Value}
    {f3 : Addr} {od3 an3 : Option Addr} {sl3 : Array (Option Value)} {oc3 kV3 dc3 pm3 cd3 ct3 : Value}
    {f4 : Addr} {od4 an4 : Option Addr} {sl4 : Array (Option Value)} {oc4 kV4 dc4 pm4 cd4 ct4 : Value}
    {f5 : Addr} {od5 an5 : Option Addr} {sl5 : Array (Option Value)} {oc5 kV5 dc5 pm5 cd5 ct5 : Value}
    {f6 : Addr} {od6 an6 : Option Addr} {sl6 : Array (Option Value)} {oc6 kV6 dc6 pm6 cd6 ct6 : Value}
    {f7 : Addr} {od7 an7 : Option Addr} {sl7 : Array (Option Value)} {oc7 kV7 dc7 pm7 cd7 ct7 : Value}
    {f8 : Addr} {od8 an8 : Option Addr} {sl8 : Array (Option Value)} {oc8 kV8 dc8 pm8 cd8 ct8 : Value}
    {f9 : Addr} {od9 an9 : Option Addr} {sl9 : Array (Option Value)} {oc9 kV9 dc9 pm9 cd9 ct9 : Value}
    {f10 : Addr} {od10 an10 : Option Addr} {sl10 : Array (Option Value)} {oc10 kV10 dc10 pm10 cd10 ct10 : Value}
    {f11 : Addr} {od11 an11 : Option Addr} {sl11 : Array (Option Value)} {oc11 kV11 dc11 pm11 cd11 ct11 : Value}
    {f12 : Addr} {od12 an12 : Option Addr} {sl12 : Array (Option Value)} {oc12 kV12 dc12 pm12 cd12 ct12 : Value}
    {f13 : Addr} {od13 an13 : Option Addr} {sl13 : Array (Option Value)} {oc13 kV13 dc13 pm13 cd13 ct13 : Value}
    {f14 : Addr} {od14 an14 : Option Addr} {sl14 : Array (Option Value)} {oc14 kV14 dc14 pm14 cd14 ct14 : Value}
    {f15 : Addr} {od15 an15 : Option Addr} {sl15 : Array (Option Value)} {oc15 kV15 dc15 pm15 cd15 ct15 : Value}
    {f16 : Addr} {od16 an16 : Option Addr} {sl16 : Array (Option Value)} {oc16 kV16 dc16 pm16 cd16 ct16 : Value}
    {f17 : Addr} {od17 an17 : Option Addr} {sl17 : Array (Option Value)} {oc17 kV17 dc17 pm17 cd17 ct17 : Value}
    {f18 : Addr} {od18 an18 : Option Addr} {sl18 : Array (Option Value)} {oc18 kV18 dc18 pm18 cd18 ct18 : Value}
    {f19 : Addr} {od19 an19 : Option Addr} {sl19 : Array (Option Value)} {oc19 kV19 dc19 pm19 cd19 ct19 : Value}
    (aC_Sort : PySem.W.nsIn K mainGlobals "Sort" = some (some (.ref C_Sort)))
    (aC_Street : PySem.W.nsIn K mainGlobals "Street" = some (some (.ref C_Street)))
    (pg_Sort : PySem.W.plainGet K C_Sort Str.empty = true)
    (hd_Sort : PySem.W.hasDictIn K C_Sort = true)
    (po_Sort : PySem.W.plainOver K C_Sort = true)
    (sa_Sort : PySem.W.findIn K (.ref C_Sort) "__setattr__" = some (some (.builtin "object.__setattr__")))
    (mk_Sort : PySem.W.makesIn K C_Sort = true)
    (kC_Sort : PySem.W.keepIn K (.ref C_Sort) = true)
    (pg_Street : PySem.W.plainGet K C_Street Str.empty = true)
    (hd_Street : PySem.W.hasDictIn K C_Street = true)
    (po_Street : PySem.W.plainOver K C_Street = true)
    (sa_Street : PySem.W.findIn K (.ref C_Street) "__setattr__" = some (some (.builtin "object.__setattr__")))
    (mk_Street : PySem.W.makesIn K C_Street = true)
    (kC_Street : PySem.W.keepIn K (.ref C_Street) = true)
    (nz_abs : PySem.W.nsIn K mainGlobals "abs" = some none)
    (nz_isinstance : PySem.W.nsIn K mainGlobals "isinstance" = some none)
    (nz_len : PySem.W.nsIn K mainGlobals "len" = some none)
    (nz_list : PySem.W.nsIn K mainGlobals "list" = some none)
    (nz_min : PySem.W.nsIn K mainGlobals "min" = some none)
    (nz_range : PySem.W.nsIn K mainGlobals "range" = some none)
    (nz_repr : PySem.W.nsIn K mainGlobals "repr" = some none)
    (nz_sorted : PySem.W.nsIn K mainGlobals "sorted" = some none)
    (nz_str : PySem.W.nsIn K mainGlobals "str" = some none)
    (nz_tuple : PySem.W.nsIn K mainGlobals "tuple" = some none)
    (n_Street_begin : PySem.W.findIn K (.ref C_Street) "begin" = some none)
    (n_Sort_chambers : PySem.W.findIn K (.ref C_Sort) "chambers" = some none)
    (n_Sort_gates : PySem.W.findIn K (.ref C_Sort) "gates" = some none)
    (n_Street_left_one : PySem.W.findIn K (.ref C_Street) "left_one" = some none)
    (n_Street_right_one : PySem.W.findIn K (.ref C_Street) "right_one" = some none)
    (n_Street_strange : PySem.W.findIn K (.ref C_Street) "strange" = some none)
    (a0 : PySem.W.nsIn K mainGlobals "_law_at" = some (some (.ref f0)))
    (l0 : K.lookup f0 = some ⟨oc0, od0, .func (PySem.W.fnOf "_law_at" "_law_at" (defArgs (top 18)) (defBody (top 18)) (defScope (top 18)) .none kV0 dc0 pm0 an0 cd0 ct0), sl0⟩)
    (c0 : PySem.W.codeIn K cd0 "_law_at" = true)
    (k0 : PySem.W.keepIn K (.ref f0) = true)
    (a1 : PySem.W.nsIn K mainGlobals "_law_doors" = some (some (.ref f1)))
    (l1 : K.lookup f1 = some ⟨oc1, od1, .func (PySem.W.fnOf "_law_doors" "_law_doors" (defArgs (top 19)) (defBody (top 19)) (defScope (top 19)) .none kV1 dc1 pm1 an1 cd1 ct1), sl1⟩)
    (c1 : PySem.W.codeIn K cd1 "_law_doors" = true)
    (k1 : PySem.W.keepIn K (.ref f1) = true)
    (a2 : PySem.W.findIn K (.ref C_Sort) "__init__" = some (some (.ref f2)))
    (i2 : PySem.W.isFn K (.ref f2) = true)
    (l2 : K.lookup f2 = some ⟨oc2, od2, .func (PySem.W.fnOf "__init__" "Sort.__init__" (defArgs (inClass (top 2) 0)) (defBody (inClass (top 2) 0)) (defScope (inClass (top 2) 0)) .none kV2 dc2 pm2 an2 cd2 ct2), sl2⟩)
    (c2 : PySem.W.codeIn K cd2 "Sort.__init__" = true)
    (k2 : PySem.W.keepIn K (.ref f2) = true)
    (a3 : PySem.W.findIn K (.ref C_Street) "__init__" = some (some (.ref f3)))
    (i3 : PySem.W.isFn K (.ref f3) = true)
    (l3 : K.lookup f3 = some ⟨oc3, od3, .func (PySem.W.fnOf "__init__" "Street.__init__" (defArgs (inClass (top 3) 0)) (defBody (inClass (top 3) 0)) (defScope (inClass (top 3) 0)) .none kV3 dc3 pm3 an3 cd3 ct3), sl3⟩)
    (c3 : PySem.W.codeIn K cd3 "Street.__init__" = true)
    (k3 : PySem.W.keepIn K (.ref f3) = true)
    (a4 : PySem.W.nsIn K mainGlobals "_law_made" = some (some (.ref f4)))
    (l4 : K.lookup f4 = some ⟨oc4, od4, .func (PySem.W.fnOf "_law_made" "_law_made" (defArgs (top 17)) (defBody (top 17)) (defScope (top 17)) .none kV4 dc4 pm4 an4 cd4 ct4), sl4⟩)
    (c4 : PySem.W.codeIn K cd4 "_law_made" = true)
    (k4 : PySem.W.keepIn K (.ref f4) = true)
    (a5 : PySem.W.nsIn K mainGlobals "_law_pen" = some (some (.ref f5)))
    (l5 : K.lookup f5 = some ⟨oc5, od5, .func (PySem.W.fnOf "_law_pen" "_law_pen" (defArgs (top 9)) (defBody (top 9)) (defScope (top 9)) .none kV5 dc5 pm5 an5 cd5 ct5), sl5⟩)
    (c5 : PySem.W.codeIn K cd5 "_law_pen" = true)
    (k5 : PySem.W.keepIn K (.ref f5) = true)
    (a6 : PySem.W.nsIn K mainGlobals "_law_draw" = some (some (.ref f6)))
    (l6 : K.lookup f6 = some ⟨oc6, od6, .func (PySem.W.fnOf "_law_draw" "_law_draw" (defArgs (top 10)) (defBody (top 10)) (defScope (top 10)) .none kV6 dc6 pm6 an6 cd6 ct6), sl6⟩)
    (c6 : PySem.W.codeIn K cd6 "_law_draw" = true)
    (k6 : PySem.W.keepIn K (.ref f6) = true)
    (a7 : PySem.W.nsIn K mainGlobals "_law_pick" = some (some (.ref f7)))
    (l7 : K.lookup f7 = some ⟨oc7, od7, .func (PySem.W.fnOf "_law_pick" "_law_pick" (defArgs (top 11)) (defBody (top 11)) (defScope (top 11)) .none kV7 dc7 pm7 an7 cd7 ct7), sl7⟩)
    (c7 : PySem.W.codeIn K cd7 "_law_pick" = true)
    (k7 : PySem.W.keepIn K (.ref f7) = true)
    (a8 : PySem.W.nsIn K mainGlobals "_law_names" = some (some (.ref f8)))
    (l8 : K.lookup f8 = some ⟨oc8, od8, .func (PySem.W.fnOf "_law_names" "_law_names" (defArgs (top 13)) (defBody (top 13)) (defScope (top 13)) .none kV8 dc8 pm8 an8 cd8 ct8), sl8⟩)
    (c8 : PySem.W.codeIn K cd8 "_law_names" = true)
    (k8 : PySem.W.keepIn K (.ref f8) = true)
    (a9 : PySem.W.nsIn K mainGlobals "_law_shuffled" = some (some (.ref f9)))
    (l9 : K.lookup f9 = some ⟨oc9, od9, .func (PySem.W.fnOf "_law_shuffled" "_law_shuffled" (defArgs (top 12)) (defBody (top 12)) (defScope (top 12)) .none kV9 dc9 pm9 an9 cd9 ct9), sl9⟩)
    (c9 : PySem.W.codeIn K cd9 "_law_shuffled" = true)
    (k9 : PySem.W.keepIn K (.ref f9) = true)
    (a10 : PySem.W.nsIn K mainGlobals "_law_price" = some (some (.ref f10)))
    (l10 : K.lookup f10 = some ⟨oc10, od10, .func (PySem.W.fnOf "_law_price" "_law_price" (defArgs (top 15)) (defBody (top 15)) (defScope (top 15)) .none kV10 dc10 pm10 an10 cd10 ct10), sl10⟩)
    (c10 : PySem.W.codeIn K cd10 "_law_price" = true)
    (k10 : PySem.W.keepIn K (.ref f10) = true)
    (a11 : PySem.W.nsIn K mainGlobals "_law_sort" = some (some (.ref f11)))
    (l11 : K.lookup f11 = some ⟨oc11, od11, .func (PySem.W.fnOf "_law_sort" "_law_sort" (defArgs (top 14)) (defBody (top 14)) (defScope (top 14)) .none kV11 dc11 pm11 an11 cd11 ct11), sl11⟩)
    (c11 : PySem.W.codeIn K cd11 "_law_sort" = true)
    (k11 : PySem.W.keepIn K (.ref f11) = true)
    (a12 : PySem.W.nsIn K mainGlobals "_law_street" = some (some (.ref f12)))
    (l12 : K.lookup f12 = some ⟨oc12, od12, .func (PySem.W.fnOf "_law_street" "_law_street" (defArgs (top 16)) (defBody (top 16)) (defScope (top 16)) .none kV12 dc12 pm12 an12 cd12 ct12), sl12⟩)
    (c12 : PySem.W.codeIn K cd12 "_law_street" = true)
    (k12 : PySem.W.keepIn K (.ref f12) = true)
    (a13 : PySem.W.findIn K (.ref C_Sort) "doors" = some (some (.ref f13)))
    (i13 : PySem.W.isFn K (.ref f13) = true)
    (l13 : K.lookup f13 = some ⟨oc13, od13, .func (PySem.W.fnOf "doors" "Sort.doors" (defArgs (inClass (top 2) 3)) (defBody (inClass (top 2) 3)) (defScope (inClass (top 2) 3)) .none kV13 dc13 pm13 an13 cd13 ct13), sl13⟩)
    (c13 : PySem.W.codeIn K cd13 "Sort.doors" = true)
    (k13 : PySem.W.keepIn K (.ref f13) = true)
    (a14 : PySem.W.findIn K (.ref C_Street) "sort_at" = some (some (.ref f14)))
    (i14 : PySem.W.isFn K (.ref f14) = true)
    (l14 : K.lookup f14 = some ⟨oc14, od14, .func (PySem.W.fnOf "sort_at" "Street.sort_at" (defArgs (inClass (top 3) 8)) (defBody (inClass (top 3) 8)) (defScope (inClass (top 3) 8)) .none kV14 dc14 pm14 an14 cd14 ct14), sl14⟩)
    (c14 : PySem.W.codeIn K cd14 "Street.sort_at" = true)
    (k14 : PySem.W.keepIn K (.ref f14) = true)
    (a15 : PySem.W.findIn K (.ref C_Sort) "has_room" = some (some (.ref f15)))
    (i15 : PySem.W.isFn K (.ref f15) = true)
    (l15 : K.lookup f15 = some ⟨oc15, od15, .func (PySem.W.fnOf "has_room" "Sort.has_room" (defArgs (inClass (top 2) 4)) (defBody (inClass (top 2) 4)) (defScope (inClass (top 2) 4)) .none kV15 dc15 pm15 an15 cd15 ct15), sl15⟩)
    (c15 : PySem.W.codeIn K cd15 "Sort.has_room" = true)
    (k15 : PySem.W.keepIn K (.ref f15) = true)
    (a16 : PySem.W.nsIn K mainGlobals "is_there" = some (some (.ref f16)))
    (l16 : K.lookup f16 = some ⟨oc16, od16, .func (PySem.W.fnOf "is_there" "is_there" (defArgs (top 5)) (defBody (top 5)) (defScope (top 5)) .none kV16 dc16 pm16 an16 cd16 ct16), sl16⟩)
    (c16 : PySem.W.codeIn K cd16 "is_there" = true)
    (k16 : PySem.W.keepIn K (.ref f16) = true)
    (a17 : PySem.W.nsIn K mainGlobals "doors_at" = some (some (.ref f17)))
    (l17 : K.lookup f17 = some ⟨oc17, od17, .func (PySem.W.fnOf "doors_at" "doors_at" (defArgs (top 6)) (defBody (top 6)) (defScope (top 6)) .none kV17 dc17 pm17 an17 cd17 ct17), sl17⟩)
    (c17 : PySem.W.codeIn K cd17 "doors_at" = true)
    (k17 : PySem.W.keepIn K (.ref f17) = true)
    (a18 : PySem.W.nsIn K mainGlobals "steps" = some (some (.ref f18)))
    (l18 : K.lookup f18 = some ⟨oc18, od18, .func (PySem.W.fnOf "steps" "steps" (defArgs (top 7)) (defBody (top 7)) (defScope (top 7)) .none kV18 dc18 pm18 an18 cd18 ct18), sl18⟩)
    (c18 : PySem.W.codeIn K cd18 "steps" = true)
    (k18 : PySem.W.keepIn K (.ref f18) = true)
    (a19 : PySem.W.nsIn K mainGlobals "law" = some (some (.ref f19)))
    (l19 : K.lookup f19 = some ⟨oc19, od19, .func (PySem.W.fnOf "law" "law" (defArgs (top 20)) (defBody (top 20)) (defScope (top 20)) .none kV19 dc19 pm19 an19 cd19 ct19), sl19⟩)
    (c19 : PySem.W.codeIn K cd19 "law" = true)
    (k19 : PySem.W.keepIn K (.ref f19) = true)
    : ∃ fd : FuncData, (∀ (s : Shared) (v : Value), BindsTo s fd ⟨[v], []⟩ [("script", v)]) ∧ ∀ base : Heap, K.In base → base.Ns mainGlobals mg → FnG l.prog w K mg base (L2.CX l.prog w) 6 fa fd ["script"] (spF K mg 1 m_law) := by
  cases hfa.symm.trans (PySem.W.mg_of X G a19)
  have mC_Sort := PySem.W.mg_of X G aC_Sort
  have mC_Street := PySem.W.mg_of X G aC_Street
  have cl_Sort : Cls K C_Sort := ⟨pg_Sort, hd_Sort, po_Sort, sa_Sort⟩
  have cl_Street : Cls K C_Street := ⟨pg_Street, hd_Street, po_Street, sa_Street⟩
  have z_abs : mg "abs" = none := PySem.W.mg_none_of X G nz_abs
  have z_isinstance : mg "isinstance" = none := PySem.W.mg_none_of X G nz_isinstance
  have z_len : mg "len" = none := PySem.W.mg_none_of X G nz_len
  have z_list : mg "list" = none := PySem.W.mg_none_of X G nz_list
  have z_min : mg "min" = none := PySem.W.mg_none_of X G nz_min
  have z_range : mg "range" = none := PySem.W.mg_none_of X G nz_range
  have z_repr : mg "repr" = none := PySem.W.mg_none_of X G nz_repr
  have z_sorted : mg "sorted" = none := PySem.W.mg_none_of X G nz_sorted
  have z_str : mg "str" = none := PySem.W.mg_none_of X G nz_str
  have z_tuple : mg "tuple" = none := PySem.W.mg_none_of X G nz_tuple
  have k_begin : FldOk K mg ["Street"] "begin" := (fldOk_cons mC_Street cl_Street n_Street_begin fldOk_nil)
  have k_chambers : FldOk K mg ["Sort"] "chambers" := (fldOk_cons mC_Sort cl_Sort n_Sort_chambers fldOk_nil)
  have k_gates : FldOk K mg ["Sort"] "gates" := (fldOk_cons mC_Sort cl_Sort n_Sort_gates fldOk_nil)
  have k_left_one : FldOk K mg ["Street"] "left_one" := (fldOk_cons mC_Street cl_Street n_Street_left_one fldOk_nil)
  have k_right_one : FldOk K mg ["Street"] "right_one" := (fldOk_cons mC_Street cl_Street n_Street_right_one fldOk_nil)
  have k_strange : FldOk K mg ["Street"] "strange" := (fldOk_cons mC_Street cl_Street n_Street_strange fldOk_nil)
  have F0 := fun_mk (st := (top 18)) l0 c0 k0
  have q0 := F0.binds (ps := ["street", "house"]) fun _ _ _ _ _ _ us hl => match us, hl with | [_, _], _ => rfl
  have F1 := fun_mk (st := (top 19)) l1 c1 k1
  have q1 := F1.binds (ps := ["street", "stand"]) fun _ _ _ _ _ _ us hl => match us, hl with | [_, _], _ => rfl
  have F2 := fun_mk (st := (inClass (top 2) 0)) l2 c2 k2
  have q2 := F2.binds (ps := ["self", "rooms", "doors"]) fun _ _ _ _ _ _ us hl => match us, hl with | [_, _, _], _ => rfl
  have F3 := fun_mk (st := (inClass (top 3) 0)) l3 c3 k3
  have q3 := F3.binds (ps := ["self", "left", "first", "odd", "right"]) fun _ _ _ _ _ _ us hl => match us, hl with | [_, _, _, _, _], _ => rfl
  have F4 := fun_mk (st := (top 17)) l4 c4 k4
  have q4 := F4.binds (ps := ["street"]) fun _ _ _ _ _ _ us hl => match us, hl with | [_], _ => rfl
  have F5 := fun_mk (st := (top 9)) l5 c5 k5
  have q5 := F5.binds (ps := ["script"]) fun _ _ _ _ _ _ us hl => match us, hl with | [_], _ => rfl
  have F6 := fun_mk (st := (top 10)) l6 c6 k6
  have q6 := F6.binds (ps := ["pen", "many"]) fun _ _ _ _ _ _ us hl => match us, hl with | [_, _], _ => rfl
  have F7 := fun_mk (st := (top 11)) l7 c7 k7
  have q7 := F7.binds (ps := ["pen", "some"]) fun _ _ _ _ _ _ us hl => match us, hl with | [_, _], _ => rfl
  have F8 := fun_mk (st := (top 13)) l8 c8 k8
  have q8 := F8.binds (ps := ["pen", "many"]) fun _ _ _ _ _ _ us hl => match us, hl with | [_, _], _ => rfl
  have F9 := fun_mk (st := (top 12)) l9 c9 k9
  have q9 := F9.binds (ps := ["pen", "some"]) fun _ _ _ _ _ _ us hl => match us, hl with | [_, _], _ => rfl
  have F10 := fun_mk (st := (top 15)) l10 c10 k10
  have q10 := F10.binds (ps := ["pen"]) fun _ _ _ _ _ _ us hl => match us, hl with | [_], _ => rfl
  have F11 := fun_mk (st := (top 14)) l11 c11 k11
  have q11 := F11.binds (ps := ["pen", "rooms", "goals", "doors"]) fun _ _ _ _ _ _ us hl => match us, hl with | [_, _, _, _], _ => rfl
  have F12 := fun_mk (st := (top 16)) l12 c12 k12
  have q12 := F12.binds (ps := ["pen", "rooms", "doors", "odd"]) fun _ _ _ _ _ _ us hl => match us, hl with | [_, _, _, _], _ => rfl
  have F13 := fun_mk (st := (inClass (top 2) 3)) l13 c13 k13
  have q13 := F13.binds (ps := ["self"]) fun _ _ _ _ _ _ us hl => match us, hl with | [_], _ => rfl
  have F14 := fun_mk (st := (inClass (top 3) 8)) l14 c14 k14
  have q14 := F14.binds (ps := ["self", "house"]) fun _ _ _ _ _ _ us hl => match us, hl with | [_, _], _ => rfl
  have F15 := fun_mk (st := (inClass (top 2) 4)) l15 c15 k15
  have q15 := F15.binds (ps := ["self", "room"]) fun _ _ _ _ _ _ us hl => match us, hl with | [_, _], _ => rfl
  have F16 := fun_mk (st := (top 5)) l16 c16 k16
  have q16 := F16.binds (ps := ["street", "house", "door"]) fun _ _ _ _ _ _ us hl => match us, hl with | [_, _, _], _ => rfl
  have F17 := fun_mk (st := (top 6)) l17 c17 k17
  have q17 := F17.binds (ps := ["street", "stand"]) fun _ _ _ _ _ _ us hl => match us, hl with | [_, _], _ => rfl
  have F18 := fun_mk (st := (top 7)) l18 c18 k18
  have q18 := F18.binds (ps := ["street", "other"]) fun _ _ _ _ _ _ us hl => match us, hl with | [_, _], _ => rfl
  have F19 := fun_mk (st := (top 20)) l19 c19 k19
  have q19 := F19.binds (ps := ["script"]) fun _ _ _ _ _ _ us hl => match us, hl with | [_], _ => rfl
  refine ⟨PySem.W.fnOf "law" "law" (defArgs (top 20)) (defBody (top 20)) (defScope (top 20)) .none kV19 dc19 pm19 an19 cd19 ct19, fun s v => .of_eq rfl, fun base _ _ => ?_⟩
  have f__law_at : Fn l.prog w K mg base "_law_at" 1 2 m__law_at := ⟨_, _, _, PySem.W.mg_of X G a0, k0, q0, fn__law_at F0 z_len⟩
  have f__law_doors : Fn l.prog w K mg base "_law_doors" 2 2 m__law_doors := ⟨_, _, _, PySem.W.mg_of X G a1, k1, q1, fn__law_doors F1 f__law_at⟩
  have f_Sort___init__ : FnI l.prog w K mg base "Sort" 1 3 m_Sort___init__ := ⟨_, _, _, _, mC_Sort, ⟨mk_Sort, a2, i2, kC_Sort⟩, q2, fn_Sort___init__ F2 z_sorted z_tuple k_chambers k_gates⟩
  have f_Street___init__ : FnI l.prog w K mg base "Street" 1 5 m_Street___init__ := ⟨_, _, _, _, mC_Street, ⟨mk_Street, a3, i3, kC_Street⟩, q3, fn_Street___init__ F3 z_list k_begin k_left_one k_right_one k_strange⟩
  have f__law_made : Fn l.prog w K mg base "_law_made" 3 1 m__law_made := ⟨_, _, _, PySem.W.mg_of X G a4, k4, q4, fn__law_made F4 f_Sort___init__ f_Street___init__⟩
  have f__law_pen : Fn l.prog w K mg base "_law_pen" 1 1 m__law_pen := ⟨_, _, _, PySem.W.mg_of X G a5, k5, q5, fn__law_pen F5 z_list⟩
  have f__law_draw : Fn l.prog w K mg base "_law_draw" 1 2 m__law_draw := ⟨_, _, _, PySem.W.mg_of X G a6, k6, q6, fn__law_draw F6 z_abs z_len⟩
  have f__law_pick : Fn l.prog w K mg base "_law_pick" 2 2 m__law_pick := ⟨_, _, _, PySem.W.mg_of X G a7, k7, q7, fn__law_pick F7 z_len f__law_draw⟩
  have f__law_names : Fn l.prog w K mg base "_law_names" 3 2 m__law_names := ⟨_, _, _, PySem.W.mg_of X G a8, k8, q8, fn__law_names F8 z_len z_range f__law_draw f__law_pick⟩
  have f__law_shuffled : Fn l.prog w K mg base "_law_shuffled" 2 2 m__law_shuffled := ⟨_, _, _, PySem.W.mg_of X G a9, k9, q9, fn__law_shuffled F9 z_len z_list f__law_draw⟩
  have f__law_price : Fn l.prog w K mg base "_law_price" 2 1 m__law_price := ⟨_, _, _, PySem.W.mg_of X G a10, k10, q10, fn__law_price F10 f__law_draw⟩
  have f__law_sort : Fn l.prog w K mg base "_law_sort" 4 4 m__law_sort := ⟨_, _, _, PySem.W.mg_of X G a11, k11, q11, fn__law_sort F11 z_sorted f__law_draw f__law_names f__law_pick f__law_price⟩
  have f__law_street : Fn l.prog w K mg base "_law_street" 5 4 m__law_street := ⟨_, _, _, PySem.W.mg_of X G a12, k12, q12, fn__law_street F12 z_range f__law_draw f__law_names f__law_shuffled f__law_sort⟩
  have f_Sort_doors : FnM l.prog w K mg base "Sort" "doors" 1 1 m_Sort_doors := ⟨_, _, _, _, mC_Sort, cl_Sort, ⟨a13, i13, k13⟩, q13, fn_Sort_doors F13 z_list k_gates⟩
  have f_Street_sort_at : FnM l.prog w K mg base "Street" "sort_at" 1 2 m_Street_sort_at := ⟨_, _, _, _, mC_Street, cl_Street, ⟨a14, i14, k14⟩, q14, fn_Street_sort_at F14 z_len k_begin k_left_one k_right_one k_strange⟩
  have f_Sort_has_room : FnM l.prog w K mg base "Sort" "has_room" 1 2 m_Sort_has_room := ⟨_, _, _, _, mC_Sort, cl_Sort, ⟨a15, i15, k15⟩, q15, fn_Sort_has_room F15 z_isinstance z_str k_chambers⟩
  have f_is_there : Fn l.prog w K mg base "is_there" 2 3 m_is_there := ⟨_, _, _, PySem.W.mg_of X G a16, k16, q16, fn_is_there F16 f_Sort_has_room f_Street_sort_at⟩
  have f_doors_at : Fn l.prog w K mg base "doors_at" 3 2 m_doors_at := ⟨_, _, _, PySem.W.mg_of X G a17, k17, q17, fn_doors_at F17 f_Sort_doors f_Street_sort_at f_is_there⟩
  have f_steps : Fn l.prog w K mg base "steps" 4 2 m_steps := ⟨_, _, _, PySem.W.mg_of X G a18, k18, q18, fn_steps F18 f_doors_at⟩
  exact fn_law F19 z_len z_list z_min z_range z_repr z_sorted f__law_at f__law_doors f__law_made f__law_pen f__law_pick f__law_street f_steps
end LH
open PySem PySem.W PyProof.Rows
set_option maxRecDepth 100000 in
set_option maxHeartbeats 0 in
theorem PySem.Challenge.cw_likehouses_k09_steps_that_can_be_done_holds : PySem.Challenge.rw_likehouses_k09_steps_that_can_be_done.Holds := by
  w_on; o_law; k_head; (case hw => w_witness2)
  k_fill
  refine LH.walkG (l := PySem.Challenge.rw_likehouses_k09_steps_that_can_be_done) (n := 63) (k := 6) (x := "script") rfl (by decide) rfl ⟨⟨rfl, by decide, by decide⟩, rfl⟩ (fun w h Y => PySem.W.kIn_of Y) LH.law_true ?F
  case F =>
    intro w mg fa h KX G hmg
    refine' LH.all_mk KX G hmg ?aC_Sort ?aC_Street ?pg_Sort ?hd_Sort ?po_Sort ?sa_Sort ?mk_Sort ?kC_Sort ?pg_Street ?hd_Street ?po_Street ?sa_Street ?mk_Street ?kC_Street ?nz_abs ?nz_isinstance ?nz_len ?nz_list ?nz_min ?nz_range ?nz_repr ?nz_sorted ?nz_str ?nz_tuple ?n_Street_begin ?n_Sort_chambers ?n_Sort_gates ?n_Street_left_one ?n_Street_right_one ?n_Street_strange ?a0 ?l0 ?c0 ?k0 ?a1 ?l1 ?c1 ?k1 ?a2 ?i2 ?l2 ?c2 ?k2 ?a3 ?i3 ?l3 ?c3 ?k3 ?a4 ?l4 ?c4 ?k4 ?a5 ?l5 ?c5 ?k5 ?a6 ?l6 ?c6 ?k6 ?a7 ?l7 ?c7 ?k7 ?a8 ?l8 ?c8 ?k8 ?a9 ?l9 ?c9 ?k9 ?a10 ?l10 ?c10 ?k10 ?a11 ?l11 ?c11 ?k11 ?a12 ?l12 ?c12 ?k12 ?a13 ?i13 ?l13 ?c13 ?k13 ?a14 ?i14 ?l14 ?c14 ?k14 ?a15 ?i15 ?l15 ?c15 ?k15 ?a16 ?l16 ?c16 ?k16 ?a17 ?l17 ?c17 ?k17 ?a18 ?l18 ?c18 ?k18 ?a19 ?l19 ?c19 ?k19
    (case aC_Sort => k_is)
    (case aC_Street => k_is)
    (case pg_Sort => k_is)
    (case hd_Sort => k_is)
    (case po_Sort => k_is)
    (case sa_Sort => k_is)
    (case mk_Sort => k_is)
    (case kC_Sort => k_is)
    (case pg_Street => k_is)
    (case hd_Street => k_is)
    (case po_Street => k_is)
    (case sa_Street => k_is)
    (case mk_Street => k_is)
    (case kC_Street => k_is)
    (case nz_abs => k_is)
    (case nz_isinstance => k_is)
    (case nz_len => k_is)
    (case nz_list => k_is)
    (case nz_min => k_is)
    (case nz_range => k_is)
    (case nz_repr => k_is)
    (case nz_sorted => k_is)
    (case nz_str => k_is)
    (case nz_tuple => k_is)
    (case n_Street_begin => k_is)
    (case n_Sort_chambers => k_is)
    (case n_Sort_gates => k_is)
    (case n_Street_left_one => k_is)
    (case n_Street_right_one => k_is)
    (case n_Street_strange => k_is)
    (case a0 => k_is)
    (case l0 => k_is)
    (case c0 => k_is)
    (case k0 => k_is)
    (case a1 => k_is)
    (case l1 => k_is)
    (case c1 => k_is)
    (case k1 => k_is)
    (case a2 => k_is)
    (case i2 => k_is)
    (case l2 => k_is)
    (case c2 => k_is)
    (case k2 => k_is)
    (case a3 => k_is)
    (case i3 => k_is)
    (case l3 => k_is)
    (case c3 => k_is)
    (case k3 => k_is)
    (case a4 => k_is)
    (case l4 => k_is)
    (case c4 => k_is)
    (case k4 => k_is)
    (case a5 => k_is)
    (case l5 => k_is)
    (case c5 => k_is)
    (case k5 => k_is)
    (case a6 => k_is)
    (case l6 => k_is)
    (case c6 => k_is)
    (case k6 => k_is)
    (case a7 => k_is)
    (case l7 => k_is)
    (case c7 => k_is)
    (case k7 => k_is)
    (case a8 => k_is)
    (case l8 => k_is)
    (case c8 => k_is)
    (case k8 => k_is)
    (case a9 => k_is)
    (case l9 => k_is)
    (case c9 => k_is)
    (case k9 => k_is)
    (case a10 => k_is)
    (case l10 => k_is)
    (case c10 => k_is)
    (case k10 => k_is)
    (case a11 => k_is)
    (case l11 => k_is)
    (case c11 => k_is)
    (case k11 => k_is)
    (case a12 => k_is)
    (case l12 => k_is)
    (case c12 => k_is)
    (case k12 => k_is)
    (case a13 => k_is)
    (case i13 => k_is)
    (case l13 => k_is)
    (case c13 => k_is)
    (case k13 => k_is)
    (case a14 => k_is)
    (case i14 => k_is)
    (case l14 => k_is)
    (case c14 => k_is)
    (case k14 => k_is)
    (case a15 => k_is)
    (case i15 => k_is)
    (case l15 => k_is)
    (case c15 => k_is)
    (case k15 => k_is)
    (case a16 => k_is)
    (case l16 => k_is)
    (case c16 => k_is)
    (case k16 => k_is)
    (case a17 => k_is)
    (case l17 => k_is)
    (case c17 => k_is)
    (case k17 => k_is)
    (case a18 => k_is)
    (case l18 => k_is)
    (case c18 => k_is)
    (case k18 => k_is)
    (case a19 => k_is)
    (case l19 => k_is)
    (case c19 => k_is)
    (case k19 => k_is)
