import PyProof.Rows.All
import Wide.All
import OpenK.AllK
import Wide.FinOn
import HandS.ForMost
import HandS.EndBits
import HandS.Wide
import HandS.IsInst
import HandS.Conv
import HandS.TupAny
import PyProof.Rows.RuleB_pow
import HandS.Star
import HandS.Style
import HandS.NoneIn
import HandS.WideMore
import PyProof.StrOps2
import KE.SortData
import KE.KSortTup
import PyProof.ReprRoads
import KE.GoesNew
import KE.GoesEnum
import HandS.Zip
import HandS.Defaults
import PyProof.ReprLen
import PySem.Challenge.RW_whatcounts_k09_whole_free_patterns_and_n
set_option Elab.async false
set_option linter.all false
set_option maxRecDepth 100000
set_option maxHeartbeats 4000000
/-! Dk: plain data over the hand layer. Frozen data stands in a part F of the heap H, an owned object stands outside F, its items in F. -/
namespace Dk
open PySem PySem.Spec PyProof.Rows L2

inductive D where
  | non | bl (b : Bool) | int (i : Int) | str (x : Str) | lst (xs : List D) | tup (xs : List D) | dic (kvs : List (Key × D)) | scr (ns : List Int)

mutual
inductive Rp (K : PySem.W.Frag) (F : Hp) : V → D → Prop
  | non : Rp K F .non .non
  | bl (b : Bool) : Rp K F (.bl b) (.bl b)
  | int (i : Int) : Rp K F (.int i) (.int i)
  | str (x : Str) : Rp K F (.str x) (.str x)
  | lst {a : Addr} {xs : List V} {ds : List D} : F a = some (.lst xs) → RpL K F xs ds → Rp K F (.ref a) (.lst ds)
  | scr {a : Addr} {ns : List Int} : SqL K F a (ns.map V.int) → Rp K F (.ref a) (.scr ns)
  | tup {a : Addr} {xs : List V} {ds : List D} : SqT K F a xs → RpL K F xs ds → Rp K F (.ref a) (.tup ds)
  | dic {a : Addr} {kvs : List (Key × V)} {es : List (Key × D)} : F a = some (.dK kvs) → RpK K F kvs es → Rp K F (.ref a) (.dic es)
inductive RpL (K : PySem.W.Frag) (F : Hp) : List V → List D → Prop
  | nil : RpL K F [] []
  | cons {v : V} {vs : List V} {d : D} {ds : List D} : Rp K F v d → RpL K F vs ds → RpL K F (v :: vs) (d :: ds)
inductive RpK (K : PySem.W.Frag) (F : Hp) : List (Key × V) → List (Key × D) → Prop
  | nil : RpK K F [] []
  | cons {k : Key} {v : V} {vs : List (Key × V)} {d : D} {ds : List (Key × D)} : Rp K F v d → RpK K F vs ds → RpK K F ((k, v) :: vs) ((k, d) :: ds)
end

variable {K : PySem.W.Frag}

theorem seqT {H H' : Hp} {a : Addr} {xs : List V} (e : Same H H') (h : SqT K H a xs) : SqT K H' a xs := by
  rcases h with (h | ⟨o, h⟩) | h
  · exact .inl (.inl (e _ _ h))
  · exact .inl (.inr ⟨o, e _ _ h⟩)
  · exact .inr h

mutual
theorem Rp.mono {F F' : Hp} (s : Same F F') : ∀ {v : V} {d : D}, Rp K F v d → Rp K F' v d
  | _, _, .non => .non
  | _, _, .bl b => .bl b
  | _, _, .int i => .int i
  | _, _, .str x => .str x
  | _, _, .lst h r => .lst (s _ _ h) (RpL.mono s r)
  | _, _, .scr h => .scr (s.seq h)
  | _, _, .tup h r => .tup (seqT s h) (RpL.mono s r)
  | _, _, .dic h r => .dic (s _ _ h) (RpK.mono s r)
theorem RpL.mono {F F' : Hp} (s : Same F F') : ∀ {v : List V} {d : List D}, RpL K F v d → RpL K F' v d
  | _, _, .nil => .nil
  | _, _, .cons h r => .cons (Rp.mono s h) (RpL.mono s r)
theorem RpK.mono {F F' : Hp} (s : Same F F') : ∀ {v : List (Key × V)} {d : List (Key × D)}, RpK K F v d → RpK K F' v d
  | _, _, .nil => .nil
  | _, _, .cons h r => .cons (Rp.mono s h) (RpK.mono s r)
end

theorem RpL.length {F : Hp} : ∀ {v : List V} {d : List D}, RpL K F v d → v.length = d.length
  | _, _, .nil => rfl
  | _, _, .cons _ r => by rw [List.length_cons, List.length_cons, r.length]
theorem RpL.get {F : Hp} : ∀ {v : List V} {d : List D} {i : Nat} {x : D}, RpL K F v d → d[i]? = some x → ∃ y, v[i]? = some y ∧ Rp K F y x
  | _, _, i, x, .nil, e => by simp at e
  | _, _, 0, x, .cons h _, e => by simp at e; subst e; exact ⟨_, rfl, h⟩
  | _, _, i + 1, x, .cons _ r, e => by
    obtain ⟨y, h1, h2⟩ := RpL.get (i := i) (x := x) r (by simpa using e)
    exact ⟨y, by simpa using h1, h2⟩
theorem RpL.app {F : Hp} : ∀ {v u : List V} {d c : List D}, RpL K F v d → RpL K F u c → RpL K F (v ++ u) (d ++ c)
  | _, _, _, _, .nil, s => s
  | _, _, _, _, .cons h r, s => .cons h (r.app s)
theorem RpL.one {F : Hp} {v : V} {d : D} (h : Rp K F v d) : RpL K F [v] [d] := .cons h .nil
theorem RpL.set {F : Hp} {v : V} {d : D} (h : Rp K F v d) : ∀ {vs : List V} {ds : List D} (i : Nat), RpL K F vs ds → RpL K F (vs.set i v) (ds.set i d)
  | _, _, _, .nil => .nil
  | _, _, 0, .cons _ r => .cons h r
  | _, _, i + 1, .cons q r => .cons q (RpL.set h i r)
theorem RpL.take {F : Hp} : ∀ {vs : List V} {ds : List D} (n : Nat), RpL K F vs ds → RpL K F (vs.take n) (ds.take n)
  | _, _, 0, _ => .nil
  | _, _, _ + 1, .nil => .nil
  | _, _, n + 1, .cons h r => .cons h (RpL.take n r)
theorem RpL.drop {F : Hp} : ∀ {vs : List V} {ds : List D} (n : Nat), RpL K F vs ds → RpL K F (vs.drop n) (ds.drop n)
  | _, _, 0, r => r
  | _, _, _ + 1, .nil => .nil
  | _, _, n + 1, .cons h r => RpL.drop n r
theorem RpL.erase {F : Hp} : ∀ {vs : List V} {ds : List D} (n : Nat), RpL K F vs ds → RpL K F (vs.eraseIdx n) (ds.eraseIdx n)
  | _, _, _, .nil => .nil
  | _, _, 0, .cons _ r => r
  | _, _, n + 1, .cons h r => .cons h (RpL.erase n r)
theorem RpL.dropLast {F : Hp} {vs : List V} {ds : List D} (r : RpL K F vs ds) : RpL K F vs.dropLast ds.dropLast := by
  rw [List.dropLast_eq_take, List.dropLast_eq_take, r.length]
  exact r.take _
theorem RpL.rev {F : Hp} : ∀ {vs : List V} {ds : List D}, RpL K F vs ds → RpL K F vs.reverse ds.reverse
  | _, _, .nil => .nil
  | _, _, .cons h r => by rw [List.reverse_cons, List.reverse_cons]; exact r.rev.app (.one h)
theorem RpL.ints {F : Hp} : ∀ ns : List Int, RpL K F (ns.map V.int) (ns.map D.int)
  | [] => .nil
  | n :: r => .cons (.int n) (RpL.ints r)
theorem RpL.ofInts {F : Hp} : ∀ {ns : List Int} {vs : List V}, RpL K F vs (ns.map D.int) → vs = ns.map V.int
  | [], _, .nil => rfl
  | n :: r, _, .cons (.int _) q => by rw [List.map_cons, RpL.ofInts q]
theorem RpL.strs {F : Hp} : ∀ ns : List Str, RpL K F (ns.map V.str) (ns.map D.str)
  | [] => .nil
  | n :: r => .cons (.str n) (RpL.strs r)
theorem RpL.ofStrs {F : Hp} : ∀ {ns : List Str} {vs : List V}, RpL K F vs (ns.map D.str) → vs = ns.map V.str
  | [], _, .nil => rfl
  | n :: r, _, .cons (.str _) q => by rw [List.map_cons, RpL.ofStrs q]
theorem RpL.bls {F : Hp} : ∀ ns : List Bool, RpL K F (ns.map V.bl) (ns.map D.bl)
  | [] => .nil
  | n :: r => .cons (.bl n) (RpL.bls r)
theorem RpL.ofBls {F : Hp} : ∀ {ns : List Bool} {vs : List V}, RpL K F vs (ns.map D.bl) → vs = ns.map V.bl
  | [], _, .nil => rfl
  | n :: r, _, .cons (.bl _) q => by rw [List.map_cons, RpL.ofBls q]

/-- the object at p is owned: it stands outside F, its items in F -/
def Ob (K : PySem.W.Frag) (F H : Hp) (p : Addr) (d : D) : Prop := F p = none ∧ match d with
  | .lst ds => ∃ xs, H p = some (.lst xs) ∧ RpL K F xs ds
  | .dic es => ∃ kvs, H p = some (.dK kvs) ∧ RpK K F kvs es
  | _ => False
theorem Ob.has {F H : Hp} {p : Addr} {d : D} (h : Ob K F H p d) : ∃ o, H p = some o := by
  obtain ⟨_, h⟩ := h
  cases d <;> first | exact h.elim | (obtain ⟨_, e, _⟩ := h; exact ⟨_, e⟩)
theorem Ob.keep {F F' H H' : Hp} {p : Addr} {d : D} (h : Ob K F H p d) (s : Same F F') (e : H' p = H p) (n : F' p = none) : Ob K F' H' p d := by
  obtain ⟨_, h⟩ := h
  refine ⟨n, ?_⟩
  cases d <;> first | exact h.elim | skip
  · obtain ⟨xs, e1, r⟩ := h
    exact ⟨xs, by rw [e]; exact e1, r.mono s⟩
  · obtain ⟨xs, e1, r⟩ := h
    exact ⟨xs, by rw [e]; exact e1, r.mono s⟩
/-- an owned object, frozen -/
theorem Ob.freeze {F H : Hp} {p : Addr} {d : D} {o : HO} (h : Ob K F H p d) (e : H p = some o) : Rp K (upd F p o) (.ref p) d := by
  obtain ⟨n, h⟩ := h
  have s : Same F (upd F p o) := fun b x q => by rw [upd_ne (ne_of_none q n)]; exact q
  cases d <;> first | exact h.elim | skip
  · obtain ⟨xs, e1, r⟩ := h
    rw [e] at e1; cases e1
    exact .lst upd_same (r.mono s)
  · obtain ⟨xs, e1, r⟩ := h
    rw [e] at e1; cases e1
    exact .dic upd_same (r.mono s)

/-- a slot: nothing known, frozen data, an owned object, one that a caller owns -/
inductive Sl where
  | no | fz (d : D) | ow (d : D) | io (d : D)
abbrev Env := List Sl
def SlOk (K : PySem.W.Frag) (F H : Hp) (v : Option V) (s : Sl) (o : Option Addr) : Prop := match s with
  | .no => o = none
  | .fz d => o = none ∧ ∃ x, v = some x ∧ Rp K F x d
  | .ow d => ∃ p, o = some p ∧ v = some (.ref p) ∧ Ob K F H p d
  | .io d => ∃ p, o = some p ∧ v = some (.ref p) ∧ Ob K F H p d

structure WOk (K : PySem.W.Frag) (F0 Gd : Hp) (ios : List (Option Addr)) (F H : Hp) (σ : L2.St) (e : Env) (os : List (Option Addr)) : Prop where
  fh : Same F H
  f0 : Same F0 F
  gd : ∀ a o, Gd a = some o → H a = some o ∧ F a = none ∧ ∀ i : Nat, os[i]? ≠ some (some a)
  le : σ.length = e.length
  lo : os.length = e.length
  sl : ∀ (i : Nat) s, e[i]? = some s → SlOk K F H (σ[i]?.join) s (os[i]?.join)
  ds : ∀ (i j : Nat) p, os[i]? = some (some p) → os[j]? = some (some p) → i = j
  io : ∀ (i : Nat) p, ios[i]? = some (some p) → os[i]? = some (some p) ∧ ∃ d, e[i]? = some (.io d)

/-- nothing that stood has changed; what is new may be frozen -/
structure Ext (F H F' H' : Hp) : Prop where
  f : Same F F'
  h : Same H H'
  fh : Same F' H'
  n : ∀ a o, H a = some o → F a = none → F' a = none
theorem Ext.refl {F H : Hp} (s : Same F H) : Ext F H F H := ⟨Same.refl _, Same.refl _, s, fun _ _ _ h => h⟩
theorem Ext.trans {F H F1 H1 F2 H2 : Hp} (a : Ext F H F1 H1) (b : Ext F1 H1 F2 H2) : Ext F H F2 H2 :=
  ⟨a.f.trans b.f, a.h.trans b.h, b.fh, fun c o h n => b.n c o (a.h c o h) (a.n c o h n)⟩
theorem Same.new {H : Hp} {p : Addr} {o : HO} (h : H p = none) : Same H (upd H p o) := fun b x e => by
  rw [upd_ne (ne_of_none e h)]; exact e
theorem same_upd2 {F H : Hp} {p : Addr} {o : HO} (s : Same F H) : Same (upd F p o) (upd H p o) := fun b x e => by
  by_cases q : b = p
  · subst q; rw [upd_same] at e ⊢; exact e
  · rw [upd_ne q] at e ⊢; exact s b x e
/-- a new object, frozen at once -/
theorem Ext.new {F H : Hp} {p : Addr} {o : HO} (s : Same F H) (h : H p = none) : Ext F H (upd F p o) (upd H p o) :=
  ⟨Same.new (s.free h), Same.new h, same_upd2 s, fun a x e n => by rw [upd_ne (ne_of_none e h)]; exact n⟩

section
variable {F0 Gd F H F' H' : Hp} {ios os : List (Option Addr)} {σ : L2.St} {e : Env}
theorem WOk.own {i : Nat} {p : Addr} (W : WOk K F0 Gd ios F H σ e os) (h : os[i]? = some (some p)) : ∃ d, Ob K F H p d := by
  have hi : i < e.length := by rw [← W.lo]; exact (List.getElem?_eq_some_iff.mp h).1
  have q := W.sl i e[i] (List.getElem?_eq_getElem hi)
  rw [h] at q
  cases z : e[i] with
  | no => rw [z] at q; cases q
  | fz d => rw [z] at q; exact nomatch q.1
  | ow d => rw [z] at q; obtain ⟨p', e1, _, ob⟩ := q; cases e1; exact ⟨d, ob⟩
  | io d => rw [z] at q; obtain ⟨p', e1, _, ob⟩ := q; cases e1; exact ⟨d, ob⟩
theorem WOk.notOwn {p : Addr} (W : WOk K F0 Gd ios F H σ e os) (h : H p = none) : ∀ i : Nat, os[i]? ≠ some (some p) := fun i q => by
  obtain ⟨d, ob⟩ := W.own q
  obtain ⟨o, z⟩ := ob.has
  rw [h] at z; cases z
theorem WOk.noGd {p : Addr} (W : WOk K F0 Gd ios F H σ e os) (h : H p = none) : Gd p = none := by
  cases q : Gd p with
  | none => rfl
  | some o => rw [(W.gd p o q).1] at h; cases h
theorem SlOk.ext {v : Option V} {s : Sl} {o : Option Addr} (h : SlOk K F H v s o) (x : Ext F H F' H') : SlOk K F' H' v s o := by
  have keep : ∀ p d, Ob K F H p d → Ob K F' H' p d := fun p d ob => by
    obtain ⟨u, hu⟩ := ob.has
    exact ob.keep x.f (by rw [hu]; exact x.h _ _ hu) (x.n _ _ hu ob.1)
  cases s with
  | no => exact h
  | fz d => obtain ⟨a, y, b, r⟩ := h; exact ⟨a, y, b, r.mono x.f⟩
  | ow d => obtain ⟨p, a, b, ob⟩ := h; exact ⟨p, a, b, keep _ _ ob⟩
  | io d => obtain ⟨p, a, b, ob⟩ := h; exact ⟨p, a, b, keep _ _ ob⟩
theorem WOk.ext (W : WOk K F0 Gd ios F H σ e os) (x : Ext F H F' H') : WOk K F0 Gd ios F' H' σ e os where
  fh := x.fh
  f0 := W.f0.trans x.f
  gd := fun a o h => let ⟨h1, h2, h3⟩ := W.gd a o h; ⟨x.h _ _ h1, x.n _ _ h1 h2, h3⟩
  le := W.le
  lo := W.lo
  sl := fun i s h => (W.sl i s h).ext x
  ds := W.ds
  io := W.io
end

/-! ### late values -/
inductive L where
  | v (d : D) | s (i : Nat)
def rdS : Option Sl → Option D
  | some (.fz d) => some d
  | some (.ow d) => some d
  | some (.io d) => some d
  | _ => none
/-- what a late value holds now -/
def rd (e : Env) : L → Option D
  | .v d => some d
  | .s i => rdS e[i]?
/-- a late value taken: an owned object is frozen by it -/
def tk (e : Env) : L → Option (D × Env)
  | .v d => some (d, e)
  | .s i => match e[i]? with
    | some (.fz d) => some (d, e)
    | some (.ow d) => some (d, e.set i (.fz d))
    | _ => none
def LOk (K : PySem.W.Frag) (F : Hp) (σ : L2.St) (x : V) : L → Prop
  | .v d => Rp K F x d
  | .s i => σ[i]? = some (some x)
theorem LOk.mono {F F' : Hp} {σ : L2.St} {x : V} {l : L} (h : LOk K F σ x l) (s : Same F F') : LOk K F' σ x l := by
  cases l with
  | v d => exact Rp.mono s h
  | s i => exact h
/-- readable now -/
def Bw (K : PySem.W.Frag) (F H : Hp) (x : V) (d : D) : Prop := Rp K F x d ∨ ∃ p, x = .ref p ∧ Ob K F H p d

section
variable {F0 Gd F H F' H' : Hp} {ios os : List (Option Addr)} {σ : L2.St} {e : Env}
theorem WOk.bw {x : V} {l : L} {d : D} (W : WOk K F0 Gd ios F H σ e os) (h : LOk K F σ x l) (r : rd e l = some d) : Bw K F H x d := by
  cases l with
  | v c => cases r; exact .inl h
  | s i =>
    have h : σ[i]? = some (some x) := h
    have r : rdS e[i]? = some d := r
    cases q : e[i]? with
    | none => rw [q] at r; cases r
    | some s =>
      have z := W.sl i s q
      rw [h] at z
      rw [q] at r
      cases s with
      | no => cases r
      | fz c => cases r; obtain ⟨_, y, e1, r⟩ := z; cases e1; exact .inl r
      | ow c => cases r; obtain ⟨p, _, e1, ob⟩ := z; cases e1; exact .inr ⟨p, rfl, ob⟩
      | io c => cases r; obtain ⟨p, _, e1, ob⟩ := z; cases e1; exact .inr ⟨p, rfl, ob⟩
theorem getElem?_set_eq {α : Type} {l : List α} {i : Nat} {a b : α} (h : l[i]? = some b) : (l.set i a)[i]? = some a := by
  rw [List.getElem?_set_self (List.getElem?_eq_some_iff.mp h).1]
theorem set_join {α : Type} {l : List (Option α)} {i : Nat} (hi : i < l.length) (a : Option α) : ((l.set i a)[i]?).join = a := by
  rw [List.getElem?_set_self hi]; rfl
/-- the slot i is filled anew: v, s, o; nothing else changes but what Ext allows -/
theorem WOk.put {i : Nat} {v : Option V} {s : Sl} {o : Option Addr} (W : WOk K F0 Gd ios F H σ e os) (hi : i < e.length) (hn : ∀ p, ios[i]? ≠ some (some p))
    (hs : SlOk K F H v s o) (ho : ∀ p, o = some p → Gd p = none ∧ ∀ j : Nat, j ≠ i → os[j]? ≠ some (some p)) : WOk K F0 Gd ios F H (σ.set i v) (e.set i s) (os.set i o) where
  fh := W.fh
  f0 := W.f0
  gd := fun a u h => by
    obtain ⟨h1, h2, h3⟩ := W.gd a u h
    refine ⟨h1, h2, fun j q => ?_⟩
    by_cases e : i = j
    · subst e
      rw [List.getElem?_set_self (by rw [W.lo]; exact hi)] at q
      have := (ho a (Option.some.inj q)).1
      rw [h] at this; cases this
    · rw [List.getElem?_set_ne e] at q
      exact h3 j q
  le := by rw [List.length_set, List.length_set]; exact W.le
  lo := by rw [List.length_set, List.length_set]; exact W.lo
  sl := fun j t h => by
    by_cases z : i = j
    · subst z
      rw [List.getElem?_set_self hi] at h
      cases h
      rw [set_join (by rw [W.le]; exact hi), set_join (by rw [W.lo]; exact hi)]
      exact hs
    · rw [List.getElem?_set_ne z] at h
      rw [List.getElem?_set_ne z, List.getElem?_set_ne z]
      exact W.sl j t h
  ds := fun j k p h1 h2 => by
    by_cases z : i = j
    · by_cases y : i = k
      · exact z.symm.trans y
      · subst z
        rw [List.getElem?_set_self (by rw [W.lo]; exact hi)] at h1
        rw [List.getElem?_set_ne y] at h2
        exact absurd h2 ((ho p (Option.some.inj h1)).2 k (fun q => y q.symm))
    · rw [List.getElem?_set_ne z] at h1
      by_cases y : i = k
      · subst y
        rw [List.getElem?_set_self (by rw [W.lo]; exact hi)] at h2
        exact absurd h1 ((ho p (Option.some.inj h2)).2 j (fun q => z q.symm))
      · rw [List.getElem?_set_ne y] at h2
        exact W.ds j k p h1 h2
  io := fun j p h => by
    have z : i ≠ j := fun z => by subst z; exact hn p h
    rw [List.getElem?_set_ne z, List.getElem?_set_ne z]
    exact W.io j p h
theorem WOk.noIo {i : Nat} {s : Sl} (W : WOk K F0 Gd ios F H σ e os) (h : e[i]? = some s) (hs : ∀ d, s ≠ .io d) : ∀ p, ios[i]? ≠ some (some p) := fun p q => by
  obtain ⟨_, d, z⟩ := W.io i p q
  rw [h] at z; cases z; exact hs d rfl
/-- the owned object of the slot i, frozen -/
theorem WOk.freeze {i : Nat} {d : D} {x : V} (W : WOk K F0 Gd ios F H σ e os) (h : e[i]? = some (.ow d)) (hx : σ[i]? = some (some x)) :
    ∃ F' os', WOk K F0 Gd ios F' H σ (e.set i (.fz d)) os' ∧ Same F F' ∧ Rp K F' x d := by
  have z := W.sl i _ h
  rw [hx] at z
  obtain ⟨p, e1, e2, ob⟩ := z
  cases e2
  obtain ⟨u, hu⟩ := ob.has
  have hi : i < e.length := (List.getElem?_eq_some_iff.mp h).1
  have hio : i < os.length := by rw [W.lo]; exact hi
  have ep : os[i]? = some (some p) := by
    cases q : os[i]? with
    | none => rw [q] at e1; cases e1
    | some y => rw [q] at e1; cases y with
      | none => cases e1
      | some y => cases e1; rfl
  have s : Same F (upd F p u) := Same.new ob.1
  have rp : Rp K (upd F p u) (.ref p) d := ob.freeze hu
  have W1 : WOk K F0 Gd ios (upd F p u) H σ (e.set i (.fz d)) (os.set i none) := by
    refine ⟨fun b o q => ?_, W.f0.trans s, fun a o q => ?_, by rw [List.length_set]; exact W.le, by rw [List.length_set, List.length_set]; exact W.lo, fun j t q => ?_, fun j k b q1 q2 => ?_, fun j b q => ?_⟩
    · by_cases y : b = p
      · subst y; rw [upd_same] at q; cases q; exact hu
      · rw [upd_ne y] at q; exact W.fh b o q
    · obtain ⟨h1, h2, h3⟩ := W.gd a o q
      have y : a ≠ p := fun y => by subst y; exact h3 i ep
      refine ⟨h1, by rw [upd_ne y]; exact h2, fun j q' => ?_⟩
      by_cases w : i = j
      · subst w; rw [List.getElem?_set_self hio] at q'; cases q'
      · rw [List.getElem?_set_ne w] at q'; exact h3 j q'
    · by_cases w : i = j
      · subst w
        rw [List.getElem?_set_self hi] at q
        cases q
        rw [set_join hio, hx]
        exact ⟨rfl, _, rfl, rp⟩
      · rw [List.getElem?_set_ne w] at q
        rw [List.getElem?_set_ne w]
        have z := W.sl j t q
        have keep : ∀ b c, os[j]?.join = some b → Ob K F H b c → Ob K (upd F p u) H b c := fun b c hb ob' => by
          refine ob'.keep s rfl ?_
          have y : b ≠ p := fun y => by
            subst y
            have hb' : os[j]? = some (some b) := by
              cases q : os[j]? with
              | none => rw [q] at hb; cases hb
              | some y => rw [q] at hb; cases y with
                | none => cases hb
                | some y => cases hb; rfl
            exact w (W.ds i j b ep hb')
          rw [upd_ne y]; exact ob'.1
        cases t with
        | no => exact z
        | fz c => obtain ⟨a1, y, b1, r⟩ := z; exact ⟨a1, y, b1, r.mono s⟩
        | ow c => obtain ⟨b, a1, b1, ob'⟩ := z; exact ⟨b, a1, b1, keep _ _ a1 ob'⟩
        | io c => obtain ⟨b, a1, b1, ob'⟩ := z; exact ⟨b, a1, b1, keep _ _ a1 ob'⟩
    · by_cases w : i = j
      · subst w; rw [List.getElem?_set_self hio] at q1; cases q1
      · by_cases w2 : i = k
        · subst w2; rw [List.getElem?_set_self hio] at q2; cases q2
        · rw [List.getElem?_set_ne w] at q1; rw [List.getElem?_set_ne w2] at q2
          exact W.ds j k b q1 q2
    · obtain ⟨h1, c, h2⟩ := W.io j b q
      have w : i ≠ j := fun w => by subst w; rw [h] at h2; cases h2
      rw [List.getElem?_set_ne w, List.getElem?_set_ne w]
      exact ⟨h1, c, h2⟩
  exact ⟨_, _, W1, s, rp⟩
theorem WOk.take {x : V} {l : L} {d : D} {e' : Env} (W : WOk K F0 Gd ios F H σ e os) (h : LOk K F σ x l) (r : tk e l = some (d, e')) :
    ∃ F' os', WOk K F0 Gd ios F' H σ e' os' ∧ Same F F' ∧ Rp K F' x d := by
  cases l with
  | v c => cases r; exact ⟨F, os, W, Same.refl _, h⟩
  | s i =>
    have h : σ[i]? = some (some x) := h
    simp only [tk] at r
    cases q : e[i]? with
    | none => rw [q] at r; cases r
    | some s =>
      rw [q] at r
      have z := W.sl i s q
      rw [h] at z
      cases s with
      | no => cases r
      | fz c => cases r; obtain ⟨_, y, e1, r⟩ := z; cases e1; exact ⟨F, os, W, Same.refl _, r⟩
      | ow c => cases r; exact W.freeze q h
      | io c => cases r
end
end Dk
namespace Dk
open PySem PySem.Spec PyProof.Rows L2

/-! ### what a piece of text means, over slots -/
abbrev ME := Env → Option (L × Env)
abbrev MN := Env → Option (D × Env)
abbrev MT := Env → Option (Bool × Env)
abbrev MA := Env → Option (List L × Env)
abbrev MG := D → Env → Option Env
abbrev MI := Env → Option (List D × Env)
/-- how a block ends: it goes on, returns (rn: a new object), breaks, continues -/
inductive Fl where
  | nx | rt (d : D) | rn (d : D) | bk | ct
abbrev MS := Env → Option (Fl × Env)

variable {K : PySem.W.Frag}

structure SimE (K : PySem.W.Frag) (t : TE) (m : ME) : Prop where
  run : ∀ {F0 Gd : Hp} {ios : List (Option Addr)} {F H : Hp} {σ : L2.St} {e : Env} {os : List (Option Addr)} {l : L} {e' : Env} {Q : VK}, WOk K F0 Gd ios F H σ e os → m e = some (l, e') →
    (∀ F' H' os' x, WOk K F0 Gd ios F' H' σ e' os' → Same F F' → LOk K F' σ x l → Q x H') → t σ H Q
/-- p is a new owned object -/
structure Nw (K : PySem.W.Frag) (Gd F H : Hp) (os : List (Option Addr)) (p : Addr) (d : D) : Prop where
  ob : Ob K F H p d
  gd : Gd p = none
  no : ∀ i : Nat, os[i]? ≠ some (some p)
structure SimN (K : PySem.W.Frag) (t : TE) (m : MN) : Prop where
  run : ∀ {F0 Gd : Hp} {ios : List (Option Addr)} {F H : Hp} {σ : L2.St} {e : Env} {os : List (Option Addr)} {d : D} {e' : Env} {Q : VK}, WOk K F0 Gd ios F H σ e os → m e = some (d, e') →
    (∀ F' H' os' p, WOk K F0 Gd ios F' H' σ e' os' → Same F F' → Nw K Gd F' H' os' p d → Q (.ref p) H') → t σ H Q
structure SimT (K : PySem.W.Frag) (t : TT) (m : MT) : Prop where
  run : ∀ {F0 Gd : Hp} {ios : List (Option Addr)} {F H : Hp} {σ : L2.St} {e : Env} {os : List (Option Addr)} {b : Bool} {e' : Env} {Q : Bool → Hp → Prop}, WOk K F0 Gd ios F H σ e os → m e = some (b, e') →
    (∀ F' H' os', WOk K F0 Gd ios F' H' σ e' os' → Same F F' → Q b H') → t σ H Q
inductive LsOk (K : PySem.W.Frag) (F : Hp) (σ : L2.St) : List V → List L → Prop
  | nil : LsOk K F σ [] []
  | cons {x : V} {xs : List V} {l : L} {ls : List L} : LOk K F σ x l → LsOk K F σ xs ls → LsOk K F σ (x :: xs) (l :: ls)
theorem LsOk.mono {F F' : Hp} {σ : L2.St} (s : Same F F') : ∀ {xs : List V} {ls : List L}, LsOk K F σ xs ls → LsOk K F' σ xs ls
  | _, _, .nil => .nil
  | _, _, .cons h r => .cons (h.mono s) (LsOk.mono s r)
structure SimA (K : PySem.W.Frag) (t : TA) (m : MA) : Prop where
  run : ∀ {F0 Gd : Hp} {ios : List (Option Addr)} {F H : Hp} {σ : L2.St} {e : Env} {os : List (Option Addr)} {ls : List L} {e' : Env} {Q : List V → Hp → Prop}, WOk K F0 Gd ios F H σ e os → m e = some (ls, e') →
    (∀ F' H' os' xs, WOk K F0 Gd ios F' H' σ e' os' → Same F F' → LsOk K F' σ xs ls → Q xs H') → t σ H Q
/-- σ' is σ but for the slots js -/
def But (js : List Nat) (σ σ' : L2.St) : Prop := σ'.length = σ.length ∧ ∀ i : Nat, i ∉ js → σ'[i]? = σ[i]?
structure SimG (K : PySem.W.Frag) (t : TG) (js : List Nat) (m : MG) : Prop where
  run : ∀ {F0 Gd : Hp} {ios : List (Option Addr)} {F H : Hp} {σ : L2.St} {e : Env} {os : List (Option Addr)} {x : V} {d : D} {e' : Env} {Q : L2.St → Hp → Prop}, WOk K F0 Gd ios F H σ e os → Rp K F x d → m d e = some e' →
    (∀ F' H' σ' os', WOk K F0 Gd ios F' H' σ' e' os' → Same F F' → But js σ σ' → Q σ' H') → t x σ H Q
/-- an iterator that goes through ds, whatever is laid meanwhile -/
def ItOk (K : PySem.W.Frag) (F : Hp) (J : It) (ds : List D) : Prop := ∀ F' H (i : Nat), Same F F' → Same F' H →
  (∀ d, ds[i]? = some d → J.go i H ∧ ∀ x H', J.yld i H x H' → ∃ F2, Ext F' H F2 H' ∧ Rp K F2 x d) ∧ (i = ds.length → J.stop i H)
structure SimI (K : PySem.W.Frag) (t : TI) (m : MI) : Prop where
  run : ∀ {F0 Gd : Hp} {ios : List (Option Addr)} {F H : Hp} {σ : L2.St} {e : Env} {os : List (Option Addr)} {ds : List D} {e' : Env} {R : It → Hp → Prop}, WOk K F0 Gd ios F H σ e os → m e = some (ds, e') →
    (∀ F' H' os' J, WOk K F0 Gd ios F' H' σ e' os' → Same F F' → ItOk K F' J ds → R J H') → t σ H R
/-- what stands behind a block -/
def FlOk (K : PySem.W.Frag) (F0 Gd : Hp) (ios : List (Option Addr)) (F : Hp) (e' : Env) (G : Ends) : Fl → Prop
  | .nx => ∀ F' H' σ' os', WOk K F0 Gd ios F' H' σ' e' os' → Same F F' → G.nx σ' H'
  | .bk => ∀ F' H' σ' os', WOk K F0 Gd ios F' H' σ' e' os' → Same F F' → G.bk σ' H'
  | .ct => ∀ F' H' σ' os', WOk K F0 Gd ios F' H' σ' e' os' → Same F F' → G.ct σ' H'
  | .rt d => ∀ F' H' σ' os' x, WOk K F0 Gd ios F' H' σ' e' os' → Same F F' → Rp K F' x d → G.rt x H'
  | .rn d => ∀ F' H' σ' os' p, WOk K F0 Gd ios F' H' σ' e' os' → Same F F' → Ob K F' H' p d → Gd p = none → F0 p = none → (∀ i : Nat, ios[i]? ≠ some (some p)) → G.rt (.ref p) H'
theorem FlOk.mono {F0 Gd F F' : Hp} {ios : List (Option Addr)} {e' : Env} {G : Ends} {fl : Fl} (h : FlOk K F0 Gd ios F e' G fl) (s : Same F F') : FlOk K F0 Gd ios F' e' G fl := by
  cases fl with
  | nx => exact fun F2 H2 σ2 os2 W q => h F2 H2 σ2 os2 W (s.trans q)
  | bk => exact fun F2 H2 σ2 os2 W q => h F2 H2 σ2 os2 W (s.trans q)
  | ct => exact fun F2 H2 σ2 os2 W q => h F2 H2 σ2 os2 W (s.trans q)
  | rt d => exact fun F2 H2 σ2 os2 x W q => h F2 H2 σ2 os2 x W (s.trans q)
  | rn d => exact fun F2 H2 σ2 os2 x W q => h F2 H2 σ2 os2 x W (s.trans q)
structure SimS (K : PySem.W.Frag) (t : TS) (m : MS) : Prop where
  run : ∀ {F0 Gd : Hp} {ios : List (Option Addr)} {F H : Hp} {σ : L2.St} {e : Env} {os : List (Option Addr)} {fl : Fl} {e' : Env} {G : Ends}, WOk K F0 Gd ios F H σ e os → m e = some (fl, e') →
    FlOk K F0 Gd ios F e' G fl → t G σ H

/-! ### a new object is frozen -/
section
variable {F0 Gd F H F' H' : Hp} {ios os : List (Option Addr)} {σ : L2.St} {e : Env}
theorem Nw.freeze {p : Addr} {d : D} (n : Nw K Gd F H os p d) (W : WOk K F0 Gd ios F H σ e os) : ∃ F', WOk K F0 Gd ios F' H σ e os ∧ Same F F' ∧ Rp K F' (.ref p) d := by
  obtain ⟨u, hu⟩ := n.ob.has
  have s : Same F (upd F p u) := Same.new n.ob.1
  refine ⟨upd F p u, ⟨fun b o q => ?_, W.f0.trans s, fun a o q => ?_, W.le, W.lo, fun j t q => ?_, W.ds, W.io⟩, s, n.ob.freeze hu⟩
  · by_cases y : b = p
    · subst y; rw [upd_same] at q; cases q; exact hu
    · rw [upd_ne y] at q; exact W.fh b o q
  · obtain ⟨h1, h2, h3⟩ := W.gd a o q
    have y : a ≠ p := fun y => by subst y; rw [n.gd] at q; cases q
    exact ⟨h1, by rw [upd_ne y]; exact h2, h3⟩
  · have z := W.sl j t q
    have keep : ∀ b c, os[j]?.join = some b → Ob K F H b c → Ob K (upd F p u) H b c := fun b c hb ob' => by
      refine ob'.keep s rfl ?_
      have y : b ≠ p := fun y => by
        subst y
        have hb' : os[j]? = some (some b) := by
          cases q : os[j]? with
          | none => rw [q] at hb; cases hb
          | some y => rw [q] at hb; cases y with
            | none => cases hb
            | some y => cases hb; rfl
        exact n.no j hb'
      rw [upd_ne y]; exact ob'.1
    cases t with
    | no => exact z
    | fz c => obtain ⟨a1, y, b1, r⟩ := z; exact ⟨a1, y, b1, r.mono s⟩
    | ow c => obtain ⟨b, a1, b1, ob'⟩ := z; exact ⟨b, a1, b1, keep _ _ a1 ob'⟩
    | io c => obtain ⟨b, a1, b1, ob'⟩ := z; exact ⟨b, a1, b1, keep _ _ a1 ob'⟩
end
def frzM (m : MN) : ME := fun e => (m e).map fun p => (.v p.1, p.2)
theorem sim_frz {t : TE} {m : MN} (h : SimN K t m) : SimE K t (frzM m) := ⟨fun {F0 Gd ios F H σ e os l e' Q} W hm q => by
  unfold frzM at hm
  cases z : m e with
  | none => rw [z] at hm; cases hm
  | some p =>
    rw [z] at hm; cases hm
    refine h.run W z fun F1 H1 os1 p1 W1 s1 n => ?_
    obtain ⟨F2, W2, s2, r⟩ := n.freeze W1
    exact q F2 H1 os1 _ W2 (s1.trans s2) r⟩

/-! ### names, constants -/
def varM (i : Nat) : ME := fun e => (rdS e[i]?).map fun _ => (.s i, e)
theorem sim_var (i : Nat) : SimE K (tVar i) (varM i) := ⟨fun {F0 Gd ios F H σ e os l e' Q} W hm q => by
  unfold varM at hm
  cases z : rdS e[i]? with
  | none => rw [z] at hm; cases hm
  | some d =>
    rw [z] at hm; cases hm
    cases y : e[i]? with
    | none => rw [y] at z; cases z
    | some s =>
      have k := W.sl i s y
      rw [y] at z
      have : ∃ x, σ[i]? = some (some x) := by
        have jn : ∀ x, σ[i]?.join = some x → σ[i]? = some (some x) := fun x h => by
          cases w : σ[i]? with
          | none => rw [w] at h; cases h
          | some o => rw [w] at h; cases o with
            | none => cases h
            | some o => cases h; rfl
        cases s with
        | no => cases z
        | fz c => obtain ⟨_, x, h, _⟩ := k; exact ⟨x, jn x h⟩
        | ow c => obtain ⟨p, _, h, _⟩ := k; exact ⟨_, jn _ h⟩
        | io c => obtain ⟨p, _, h, _⟩ := k; exact ⟨_, jn _ h⟩
      obtain ⟨x, hx⟩ := this
      exact ⟨x, hx, q F H os x W (Same.refl _) hx⟩⟩
def cM (d : D) : ME := fun e => some (.v d, e)
theorem sim_cst {v : V} {d : D} (h : ∀ F : Hp, Rp K F v d) : SimE K (tC v) (cM d) := ⟨fun {F0 Gd ios F H σ e os l e' Q} W hm q => by
  cases hm; exact q F H os v W (Same.refl _) (h F)⟩
theorem sim_int (i : Int) : SimE K (tC (.int i)) (cM (.int i)) := sim_cst fun _ => .int i
theorem sim_str (i : Str) : SimE K (tC (.str i)) (cM (.str i)) := sim_cst fun _ => .str i
theorem sim_bl (i : Bool) : SimE K (tC (.bl i)) (cM (.bl i)) := sim_cst fun _ => .bl i
theorem sim_non : SimE K (tC .non) (cM .non) := sim_cst fun _ => .non

/-! ### operations on what can be read -/
def Op2 (K : PySem.W.Frag) (r : R2) (op : D → D → Option D) : Prop := ∀ {F H : Hp} {x y : V} {dx dy d : D} {Q : VK}, Same F H → Bw K F H x dx → Bw K F H y dy → op dx dy = some d →
  (∀ F' H' v, Ext F H F' H' → Rp K F' v d → Q v H') → r x y H Q
def binM (op : D → D → Option D) (ma mb : ME) : ME := fun e => (ma e).bind fun p => (mb p.2).bind fun q => (rd q.2 p.1).bind fun a => (rd q.2 q.1).bind fun b => (op a b).map fun d => (.v d, q.2)
theorem sim_op {r : R2} {op : D → D → Option D} {ta tb : TE} {ma mb : ME} (ho : Op2 K r op) (ha : SimE K ta ma) (hb : SimE K tb mb) : SimE K (tOp r ta tb) (binM op ma mb) := ⟨fun {F0 Gd ios F H σ e os l e' Q} W hm q => by
  unfold binM at hm
  obtain ⟨⟨l1, e1⟩, h1, hm⟩ := Option.bind_eq_some_iff.mp hm
  obtain ⟨⟨l2, e2⟩, h2, hm⟩ := Option.bind_eq_some_iff.mp hm
  obtain ⟨a, ra, hm⟩ := Option.bind_eq_some_iff.mp hm
  obtain ⟨b, rb, hm⟩ := Option.bind_eq_some_iff.mp hm
  obtain ⟨d, hd, hm⟩ := Option.map_eq_some_iff.mp hm
  cases hm
  exact ha.run W h1 fun F1 H1 os1 x W1 s1 k1 => hb.run W1 h2 fun F2 H2 os2 y W2 s2 k2 =>
    ho W2.fh (W2.bw (k1.mono s2) ra) (W2.bw k2 rb) hd fun F3 H3 v x3 rp => q F3 H3 os2 v (W2.ext x3) ((s1.trans s2).trans x3.f) rp⟩
def Op1 (K : PySem.W.Frag) (r : V → Hp → VK → Prop) (op : D → Option D) : Prop := ∀ {F H : Hp} {x : V} {dx d : D} {Q : VK}, Same F H → Bw K F H x dx → op dx = some d →
  (∀ F' H' v, Ext F H F' H' → Rp K F' v d → Q v H') → r x H Q
def unM (op : D → Option D) (ma : ME) : ME := fun e => (ma e).bind fun p => (rd p.2 p.1).bind fun a => (op a).map fun d => (.v d, p.2)
theorem sim_un {r : V → Hp → VK → Prop} {op : D → Option D} {ta : TE} {ma : ME} (ho : Op1 K r op) (ha : SimE K ta ma) : SimE K (tUn r ta) (unM op ma) := ⟨fun {F0 Gd ios F H σ e os l e' Q} W hm q => by
  unfold unM at hm
  obtain ⟨⟨l1, e1⟩, h1, hm⟩ := Option.bind_eq_some_iff.mp hm
  obtain ⟨a, ra, hm⟩ := Option.bind_eq_some_iff.mp hm
  obtain ⟨d, hd, hm⟩ := Option.map_eq_some_iff.mp hm
  cases hm
  exact ha.run W h1 fun F1 H1 os1 x W1 s1 k1 => ho W1.fh (W1.bw k1 ra) hd fun F3 H3 v x3 rp => q F3 H3 os1 v (W1.ext x3) (s1.trans x3.f) rp⟩
/-- .. that make a new list or dict -/
def Op2N (K : PySem.W.Frag) (r : R2) (op : D → D → Option D) : Prop := ∀ {F H : Hp} {x y : V} {dx dy d : D} {Q : VK}, Same F H → Bw K F H x dx → Bw K F H y dy → op dx dy = some d →
  (∀ p o, H p = none → Ob K F (upd H p o) p d → Q (.ref p) (upd H p o)) → r x y H Q
def binN (op : D → D → Option D) (ma mb : ME) : MN := fun e => (ma e).bind fun p => (mb p.2).bind fun q => (rd q.2 p.1).bind fun a => (rd q.2 q.1).bind fun b => (op a b).map fun d => (d, q.2)
section
variable {F0 Gd F H F' H' : Hp} {ios os : List (Option Addr)} {σ : L2.St} {e : Env}
/-- a new object is laid: the world stands, the object is new -/
theorem WOk.lay {p : Addr} {o : HO} {d : D} (W : WOk K F0 Gd ios F H σ e os) (n : H p = none) (ob : Ob K F (upd H p o) p d) : WOk K F0 Gd ios F (upd H p o) σ e os ∧ Nw K Gd F (upd H p o) os p d :=
  ⟨W.ext ⟨Same.refl _, Same.new n, W.fh.trans (Same.new n), fun _ _ _ h => h⟩, ob, W.noGd n, W.notOwn n⟩
end
theorem sim_op2N {r : R2} {op : D → D → Option D} {ta tb : TE} {ma mb : ME} (ho : Op2N K r op) (ha : SimE K ta ma) (hb : SimE K tb mb) : SimN K (tOp r ta tb) (binN op ma mb) := ⟨fun {F0 Gd ios F H σ e os l e' Q} W hm q => by
  unfold binN at hm
  obtain ⟨⟨l1, e1⟩, h1, hm⟩ := Option.bind_eq_some_iff.mp hm
  obtain ⟨⟨l2, e2⟩, h2, hm⟩ := Option.bind_eq_some_iff.mp hm
  obtain ⟨a, ra, hm⟩ := Option.bind_eq_some_iff.mp hm
  obtain ⟨b, rb, hm⟩ := Option.bind_eq_some_iff.mp hm
  obtain ⟨d, hd, hm⟩ := Option.map_eq_some_iff.mp hm
  cases hm
  exact ha.run W h1 fun F1 H1 os1 x W1 s1 k1 => hb.run W1 h2 fun F2 H2 os2 y W2 s2 k2 =>
    ho W2.fh (W2.bw (k1.mono s2) ra) (W2.bw k2 rb) hd fun p o n ob => by
      obtain ⟨W3, nw⟩ := W2.lay n ob
      exact q F2 _ os2 p W3 (s1.trans s2) nw⟩

/-! ### the canonical readings -/
def rE (K : PySem.W.Frag) (m : ME) : TE := fun σ H Q => ∃ F0 Gd ios F e os l e', WOk K F0 Gd ios F H σ e os ∧ m e = some (l, e') ∧ ∀ F' H' os' x, WOk K F0 Gd ios F' H' σ e' os' → Same F F' → LOk K F' σ x l → Q x H'
def rN (K : PySem.W.Frag) (m : MN) : TE := fun σ H Q => ∃ F0 Gd ios F e os d e', WOk K F0 Gd ios F H σ e os ∧ m e = some (d, e') ∧ ∀ F' H' os' p, WOk K F0 Gd ios F' H' σ e' os' → Same F F' → Nw K Gd F' H' os' p d → Q (.ref p) H'
def rT (K : PySem.W.Frag) (m : MT) : TT := fun σ H Q => ∃ F0 Gd ios F e os b e', WOk K F0 Gd ios F H σ e os ∧ m e = some (b, e') ∧ ∀ F' H' os', WOk K F0 Gd ios F' H' σ e' os' → Same F F' → Q b H'
def rA (K : PySem.W.Frag) (m : MA) : TA := fun σ H Q => ∃ F0 Gd ios F e os ls e', WOk K F0 Gd ios F H σ e os ∧ m e = some (ls, e') ∧ ∀ F' H' os' xs, WOk K F0 Gd ios F' H' σ e' os' → Same F F' → LsOk K F' σ xs ls → Q xs H'
def rG (K : PySem.W.Frag) (js : List Nat) (m : MG) : TG := fun x σ H Q => ∃ F0 Gd ios F e os d e', WOk K F0 Gd ios F H σ e os ∧ Rp K F x d ∧ m d e = some e' ∧ ∀ F' H' σ' os', WOk K F0 Gd ios F' H' σ' e' os' → Same F F' → But js σ σ' → Q σ' H'
def rIt (K : PySem.W.Frag) (m : MI) : TI := fun σ H R => ∃ F0 Gd ios F e os ds e', WOk K F0 Gd ios F H σ e os ∧ m e = some (ds, e') ∧ ∀ F' H' os' J, WOk K F0 Gd ios F' H' σ e' os' → Same F F' → ItOk K F' J ds → R J H'
def rS (K : PySem.W.Frag) (m : MS) : TS := fun G σ H => ∃ F0 Gd ios F e os fl e', WOk K F0 Gd ios F H σ e os ∧ m e = some (fl, e') ∧ FlOk K F0 Gd ios F e' G fl
theorem sim_rE {m : ME} : SimE K (rE K m) m := ⟨fun W h q => ⟨_, _, _, _, _, _, _, _, W, h, q⟩⟩
theorem sim_rN {m : MN} : SimN K (rN K m) m := ⟨fun W h q => ⟨_, _, _, _, _, _, _, _, W, h, q⟩⟩
theorem sim_rT {m : MT} : SimT K (rT K m) m := ⟨fun W h q => ⟨_, _, _, _, _, _, _, _, W, h, q⟩⟩
theorem sim_rA {m : MA} : SimA K (rA K m) m := ⟨fun W h q => ⟨_, _, _, _, _, _, _, _, W, h, q⟩⟩
theorem sim_rG {js : List Nat} {m : MG} : SimG K (rG K js m) js m := ⟨fun W r h q => ⟨_, _, _, _, _, _, _, _, W, r, h, q⟩⟩
theorem sim_rI {m : MI} : SimI K (rIt K m) m := ⟨fun W h q => ⟨_, _, _, _, _, _, _, _, W, h, q⟩⟩
theorem sim_rS {m : MS} : SimS K (rS K m) m := ⟨fun W h q => ⟨_, _, _, _, _, _, _, _, W, h, q⟩⟩
section
variable {X : Cx} {e : Expr} {es : List Expr} {st : Stmt} {sts : List Stmt}
theorem toE {t : TE} {m : ME} (h : PE X e t) (s : SimE X.K t m) : PE X e (rE X.K m) := ⟨fun pins sh σ H Q I ⟨_, _, _, _, _, _, _, _, W, hm, q⟩ => h.run pins sh σ H Q I (s.run W hm q)⟩
theorem toN {t : TE} {m : MN} (h : PE X e t) (s : SimN X.K t m) : PE X e (rN X.K m) := ⟨fun pins sh σ H Q I ⟨_, _, _, _, _, _, _, _, W, hm, q⟩ => h.run pins sh σ H Q I (s.run W hm q)⟩
theorem toT {t : TT} {m : MT} (h : PT X e t) (s : SimT X.K t m) : PT X e (rT X.K m) := ⟨fun pins sh σ H Q I ⟨_, _, _, _, _, _, _, _, W, hm, q⟩ => h.run pins sh σ H Q I (s.run W hm q)⟩
theorem toW {t : TT} {m : MT} (h : PW X e t) (s : SimT X.K t m) : PW X e (rT X.K m) := ⟨fun wh pins sh σ H Q I ⟨_, _, _, _, _, _, _, _, W, hm, q⟩ => h.run wh pins sh σ H Q I (s.run W hm q)⟩
theorem toA {t : TA} {m : MA} (h : PA X es t) (s : SimA X.K t m) : PA X es (rA X.K m) := ⟨fun pos pins sh σ H Q I ⟨_, _, _, _, _, _, _, _, W, hm, q⟩ => h.run pos pins sh σ H Q I (s.run W hm q)⟩
theorem toG {t : TG} {js : List Nat} {m : MG} (h : PG X e t) (s : SimG X.K t js m) : PG X e (rG X.K js m) := ⟨fun pins sh σ H v u Q I r ⟨_, _, _, _, _, _, _, _, W, rp, hm, q⟩ => h.run pins sh σ H v u Q I r (s.run W rp hm q)⟩
theorem toI {tg : Expr} {t : TI} {m : MI} (h : PI X tg e t) (s : SimI X.K t m) : PI X tg e (rIt X.K m) := ⟨fun pins sh σ H R I ⟨_, _, _, _, _, _, _, _, W, hm, q⟩ => h.run pins sh σ H R I (s.run W hm q)⟩
theorem toS {t : TS} {m : MS} (h : PS X st t) (s : SimS X.K t m) : PS X st (rS X.K m) := ⟨fun pins sh σ H G I ⟨_, _, _, _, _, _, _, _, W, hm, q⟩ => h.run pins sh σ H G I (s.run W hm q)⟩
theorem toSs {t : TS} {m : MS} (h : PSs X sts t) (s : SimS X.K t m) : PSs X sts (rS X.K m) := ⟨fun pins sh σ H G I ⟨_, _, _, _, _, _, _, _, W, hm, q⟩ => h.run pins sh σ H G I (s.run W hm q)⟩
end

/-! ### arguments, displays -/
def nilA : MA := fun e => some ([], e)
def consA (ma : ME) (mr : MA) : MA := fun e => (ma e).bind fun p => (mr p.2).map fun q => (p.1 :: q.1, q.2)
theorem sim_nil : SimA K tNil nilA := ⟨fun {F0 Gd ios F H σ e os l e' Q} W hm q => by cases hm; exact q F H os [] W (Same.refl _) .nil⟩
theorem sim_cons {te : TE} {t : TA} {ma : ME} {mr : MA} (ha : SimE K te ma) (hr : SimA K t mr) : SimA K (tCons te t) (consA ma mr) := ⟨fun {F0 Gd ios F H σ e os l e' Q} W hm q => by
  unfold consA at hm
  obtain ⟨⟨l1, e1⟩, h1, hm⟩ := Option.bind_eq_some_iff.mp hm
  obtain ⟨⟨ls, e2⟩, h2, hm⟩ := Option.map_eq_some_iff.mp hm
  cases hm
  exact ha.run W h1 fun F1 H1 os1 x W1 s1 k1 => hr.run W1 h2 fun F2 H2 os2 xs W2 s2 k2 => q F2 H2 os2 _ W2 (s1.trans s2) (.cons (k1.mono s2) k2)⟩
/-- all late values taken -/
def tks (e : Env) : List L → Option (List D × Env)
  | [] => some ([], e)
  | l :: ls => (tk e l).bind fun p => (tks p.2 ls).map fun q => (p.1 :: q.1, q.2)
theorem WOk.takes {F0 Gd : Hp} {ios : List (Option Addr)} {H : Hp} {σ : L2.St} : ∀ {ls : List L} {F : Hp} {e : Env} {os : List (Option Addr)} {xs : List V} {ds : List D} {e' : Env}, WOk K F0 Gd ios F H σ e os → LsOk K F σ xs ls → tks e ls = some (ds, e') →
    ∃ F' os', WOk K F0 Gd ios F' H σ e' os' ∧ Same F F' ∧ RpL K F' xs ds
  | [], F, e, os, _, _, _, W, .nil, h => by cases h; exact ⟨F, os, W, Same.refl _, .nil⟩
  | l :: ls, F, e, os, _, _, _, W, .cons k r, h => by
    unfold tks at h
    obtain ⟨⟨d, e1⟩, h1, h⟩ := Option.bind_eq_some_iff.mp h
    obtain ⟨⟨ds, e2⟩, h2, h⟩ := Option.map_eq_some_iff.mp h
    cases h
    obtain ⟨F1, os1, W1, s1, r1⟩ := W.take k h1
    obtain ⟨F2, os2, W2, s2, r2⟩ := WOk.takes W1 (r.mono s1) h2
    exact ⟨F2, os2, W2, s1.trans s2, .cons (r1.mono s2) r2⟩
def few (n : Nat) : Bool := decide (n ≤ 1000000)
theorem few_ok {n : Nat} (h : few n = true) : n ≤ sizeLine := Nat.le_trans (of_decide_eq_true h) (by decide)
theorem few_lt {n : Nat} (h : few n = true) : n < sizeLine := Nat.lt_of_le_of_lt (of_decide_eq_true h) (by decide)
def lstM (ma : MA) : MN := fun e => (ma e).bind fun p => (tks p.2 p.1).bind fun q => if few q.1.length then some (.lst q.1, q.2) else none
def tupM (ma : MA) : ME := fun e => (ma e).bind fun p => (tks p.2 p.1).bind fun q => if few q.1.length then some (.v (.tup q.1), q.2) else none
theorem sim_lst {t : TA} {ma : MA} (ha : SimA K t ma) : SimN K (tLst t) (lstM ma) := ⟨fun {F0 Gd ios F H σ e os l e' Q} W hm q => by
  unfold lstM at hm
  obtain ⟨⟨ls, e1⟩, h1, hm⟩ := Option.bind_eq_some_iff.mp hm
  obtain ⟨⟨ds, e2⟩, h2, hm⟩ := Option.bind_eq_some_iff.mp hm
  split at hm
  · rename_i hf
    cases hm
    refine ha.run W h1 fun F1 H1 os1 xs W1 s1 k1 => ?_
    obtain ⟨F2, os2, W2, s2, r⟩ := W1.takes k1 h2
    refine ⟨by rw [r.length]; exact few_ok hf, fun p n => ?_⟩
    obtain ⟨W3, nw⟩ := W2.lay (o := .lst xs) (d := .lst ds) n ⟨W2.fh.free n, xs, upd_same, r⟩
    exact q F2 _ os2 p W3 (s1.trans s2) nw
  · cases hm⟩
theorem sim_tup {t : TA} {ma : MA} (ha : SimA K t ma) : SimE K (tTup t) (tupM ma) := ⟨fun {F0 Gd ios F H σ e os l e' Q} W hm q => by
  unfold tupM at hm
  obtain ⟨⟨ls, e1⟩, h1, hm⟩ := Option.bind_eq_some_iff.mp hm
  obtain ⟨⟨ds, e2⟩, h2, hm⟩ := Option.bind_eq_some_iff.mp hm
  split at hm
  · rename_i hf
    cases hm
    refine ha.run W h1 fun F1 H1 os1 xs W1 s1 k1 => ?_
    obtain ⟨F2, os2, W2, s2, r⟩ := W1.takes k1 h2
    refine ⟨by rw [r.length]; exact few_ok hf, fun p n => ?_⟩
    have x := Ext.new (o := .tup xs) W2.fh n
    exact q _ _ os2 _ (W2.ext x) ((s1.trans s2).trans x.f) (.tup (.inl (.inl upd_same)) (r.mono x.f))
  · cases hm⟩

/-! ### calls of built-ins by their arguments -/
inductive BwL (K : PySem.W.Frag) (F H : Hp) : List V → List D → Prop
  | nil : BwL K F H [] []
  | cons {x : V} {xs : List V} {d : D} {ds : List D} : Bw K F H x d → BwL K F H xs ds → BwL K F H (x :: xs) (d :: ds)
def rds (e : Env) : List L → Option (List D)
  | [] => some []
  | l :: ls => (rd e l).bind fun d => (rds e ls).map fun r => d :: r
theorem WOk.bwL {F0 Gd F H : Hp} {ios os : List (Option Addr)} {σ : L2.St} {e : Env} (W : WOk K F0 Gd ios F H σ e os) : ∀ {xs : List V} {ls : List L} {ds : List D}, LsOk K F σ xs ls → rds e ls = some ds → BwL K F H xs ds
  | _, _, _, .nil, h => by cases h; exact .nil
  | _, _, _, .cons k r, h => by
    unfold rds at h
    obtain ⟨d, h1, h⟩ := Option.bind_eq_some_iff.mp h
    obtain ⟨ds, h2, h⟩ := Option.map_eq_some_iff.mp h
    cases h
    exact .cons (W.bw k h1) (W.bwL r h2)
def OpA (K : PySem.W.Frag) (r : List V → Hp → VK → Prop) (op : List D → Option D) : Prop := ∀ {F H : Hp} {xs : List V} {ds : List D} {d : D} {Q : VK}, Same F H → BwL K F H xs ds → op ds = some d →
  (∀ F' H' v, Ext F H F' H' → Rp K F' v d → Q v H') → r xs H Q
def OpAN (K : PySem.W.Frag) (r : List V → Hp → VK → Prop) (op : List D → Option D) : Prop := ∀ {F H : Hp} {xs : List V} {ds : List D} {d : D} {Q : VK}, Same F H → BwL K F H xs ds → op ds = some d →
  (∀ p o, H p = none → Ob K F (upd H p o) p d → Q (.ref p) (upd H p o)) → r xs H Q
def cbM (op : List D → Option D) (ma : MA) : ME := fun e => (ma e).bind fun p => (rds p.2 p.1).bind fun ds => (op ds).map fun d => (.v d, p.2)
def cbN (op : List D → Option D) (ma : MA) : MN := fun e => (ma e).bind fun p => (rds p.2 p.1).bind fun ds => (op ds).map fun d => (d, p.2)
theorem sim_cb {r : List V → Hp → VK → Prop} {op : List D → Option D} {t : TA} {ma : MA} (ho : OpA K r op) (ha : SimA K t ma) : SimE K (tCB r t) (cbM op ma) := ⟨fun {F0 Gd ios F H σ e os l e' Q} W hm q => by
  unfold cbM at hm
  obtain ⟨⟨ls, e1⟩, h1, hm⟩ := Option.bind_eq_some_iff.mp hm
  obtain ⟨ds, h2, hm⟩ := Option.bind_eq_some_iff.mp hm
  obtain ⟨d, hd, hm⟩ := Option.map_eq_some_iff.mp hm
  cases hm
  exact ha.run W h1 fun F1 H1 os1 xs W1 s1 k1 => ho W1.fh (W1.bwL k1 h2) hd fun F3 H3 v x3 rp => q F3 H3 os1 v (W1.ext x3) (s1.trans x3.f) rp⟩
theorem sim_cbN {r : List V → Hp → VK → Prop} {op : List D → Option D} {t : TA} {ma : MA} (ho : OpAN K r op) (ha : SimA K t ma) : SimN K (tCB r t) (cbN op ma) := ⟨fun {F0 Gd ios F H σ e os l e' Q} W hm q => by
  unfold cbN at hm
  obtain ⟨⟨ls, e1⟩, h1, hm⟩ := Option.bind_eq_some_iff.mp hm
  obtain ⟨ds, h2, hm⟩ := Option.bind_eq_some_iff.mp hm
  obtain ⟨d, hd, hm⟩ := Option.map_eq_some_iff.mp hm
  cases hm
  exact ha.run W h1 fun F1 H1 os1 xs W1 s1 k1 => ho W1.fh (W1.bwL k1 h2) hd fun p o n ob => by
    obtain ⟨W3, nw⟩ := W1.lay n ob
    exact q F1 _ os1 p W3 s1 nw⟩

/-! ### tests -/
/-- a value that is a bool, as a test -/
def bM (m : ME) : MT := fun e => (m e).bind fun p => (rd p.2 p.1).bind fun d => match d with
  | .bl b => some (b, p.2)
  | _ => none
theorem Bw.isBl {F H : Hp} {x : V} {b : Bool} (h : Bw K F H x (.bl b)) : x = .bl b := by
  rcases h with h | ⟨p, _, h⟩
  · cases h; rfl
  · exact h.2.elim
theorem Bw.isInt {F H : Hp} {x : V} {b : Int} (h : Bw K F H x (.int b)) : x = .int b := by
  rcases h with h | ⟨p, _, h⟩
  · cases h; rfl
  · exact h.2.elim
theorem Bw.isStr {F H : Hp} {x : V} {b : Str} (h : Bw K F H x (.str b)) : x = .str b := by
  rcases h with h | ⟨p, _, h⟩
  · cases h; rfl
  · exact h.2.elim
theorem Bw.isNon {F H : Hp} {x : V} (h : Bw K F H x .non) : x = .non := by
  rcases h with h | ⟨p, _, h⟩
  · cases h; rfl
  · exact h.2.elim
theorem Bw.isLst {F H : Hp} {x : V} {ds : List D} (s : Same F H) (h : Bw K F H x (.lst ds)) : ∃ a xs, x = .ref a ∧ H a = some (.lst xs) ∧ RpL K F xs ds := by
  rcases h with h | ⟨p, rfl, h⟩
  · cases h with
    | lst h r => exact ⟨_, _, rfl, s _ _ h, r⟩
  · obtain ⟨_, xs, e, r⟩ := h
    exact ⟨p, xs, rfl, e, r⟩
theorem Bw.isScr {F H : Hp} {x : V} {ns : List Int} (s : Same F H) (h : Bw K F H x (.scr ns)) : ∃ a, x = .ref a ∧ SqL K H a (ns.map V.int) := by
  rcases h with h | ⟨p, rfl, h⟩
  · cases h with
    | scr h => exact ⟨_, rfl, s.seq h⟩
  · exact h.2.elim
theorem Bw.isTup {F H : Hp} {x : V} {ds : List D} (s : Same F H) (h : Bw K F H x (.tup ds)) : ∃ a xs, x = .ref a ∧ SqT K H a xs ∧ RpL K F xs ds ∧ SqT K F a xs := by
  rcases h with h | ⟨p, rfl, h⟩
  · cases h with
    | tup h r => exact ⟨_, _, rfl, seqT s h, r, h⟩
  · exact h.2.elim
theorem Bw.isDic {F H : Hp} {x : V} {ds : List (Key × D)} (s : Same F H) (h : Bw K F H x (.dic ds)) : ∃ a xs, x = .ref a ∧ H a = some (.dK xs) ∧ RpK K F xs ds := by
  rcases h with h | ⟨p, rfl, h⟩
  · cases h with
    | dic h r => exact ⟨_, _, rfl, s _ _ h, r⟩
  · obtain ⟨_, xs, e, r⟩ := h
    exact ⟨p, xs, rfl, e, r⟩
theorem sim_tTest {t : TE} {m : ME} (h : SimE K t m) : SimT K (tTest t) (bM m) := ⟨fun {F0 Gd ios F H σ e os b e' Q} W hm q => by
  unfold bM at hm
  obtain ⟨⟨l1, e1⟩, h1, hm⟩ := Option.bind_eq_some_iff.mp hm
  obtain ⟨d, hd, hm⟩ := Option.bind_eq_some_iff.mp hm
  cases d <;> first | cases hm | skip
  exact h.run W h1 fun F1 H1 os1 x W1 s1 k1 => ⟨_, (W1.bw k1 hd).isBl, q F1 H1 os1 W1 s1⟩⟩
theorem sim_tB {t : TE} {m : ME} (h : SimE K t m) : SimT K (tB t) (bM m) := ⟨fun {F0 Gd ios F H σ e os b e' Q} W hm q => by
  unfold bM at hm
  obtain ⟨⟨l1, e1⟩, h1, hm⟩ := Option.bind_eq_some_iff.mp hm
  obtain ⟨d, hd, hm⟩ := Option.bind_eq_some_iff.mp hm
  cases d <;> first | cases hm | skip
  exact h.run W h1 fun F1 H1 os1 x W1 s1 k1 => ⟨_, (W1.bw k1 hd).isBl, q F1 H1 os1 W1 s1⟩⟩
def andT (ma mb : MT) : MT := fun e => (ma e).bind fun p => if p.1 = true then mb p.2 else some (false, p.2)
def orT (ma mb : MT) : MT := fun e => (ma e).bind fun p => if p.1 = true then some (true, p.2) else mb p.2
def notT (ma : MT) : MT := fun e => (ma e).map fun p => (!p.1, p.2)
theorem sim_and {ta tb : TT} {ma mb : MT} (ha : SimT K ta ma) (hb : SimT K tb mb) : SimT K (tAnd ta tb) (andT ma mb) := ⟨fun {F0 Gd ios F H σ e os b e' Q} W hm q => by
  unfold andT at hm
  obtain ⟨⟨c, e1⟩, h1, hm⟩ := Option.bind_eq_some_iff.mp hm
  refine ha.run W h1 fun F1 H1 os1 W1 s1 => ?_
  cases c with
  | true => exact iteT (hb.run W1 hm fun F2 H2 os2 W2 s2 => q F2 H2 os2 W2 (s1.trans s2))
  | false => cases hm; exact iteF (q F1 H1 os1 W1 s1)⟩
theorem sim_or {ta tb : TT} {ma mb : MT} (ha : SimT K ta ma) (hb : SimT K tb mb) : SimT K (tOr ta tb) (orT ma mb) := ⟨fun {F0 Gd ios F H σ e os b e' Q} W hm q => by
  unfold orT at hm
  obtain ⟨⟨c, e1⟩, h1, hm⟩ := Option.bind_eq_some_iff.mp hm
  refine ha.run W h1 fun F1 H1 os1 W1 s1 => ?_
  cases c with
  | false => exact iteF (hb.run W1 hm fun F2 H2 os2 W2 s2 => q F2 H2 os2 W2 (s1.trans s2))
  | true => cases hm; exact iteT (q F1 H1 os1 W1 s1)⟩
theorem sim_not {ta : TT} {ma : MT} (ha : SimT K ta ma) : SimT K (tNot ta) (notT ma) := ⟨fun {F0 Gd ios F H σ e os b e' Q} W hm q => by
  unfold notT at hm
  obtain ⟨⟨c, e1⟩, h1, hm⟩ := Option.map_eq_some_iff.mp hm
  cases hm
  exact ha.run W h1 fun F1 H1 os1 W1 s1 => q F1 H1 os1 W1 s1⟩
/-- .. as values: bools -/
def andV (ma mb : ME) : ME := fun e => (bM ma e).bind fun p => if p.1 = true then mb p.2 else some (.v (.bl false), p.2)
def orV (ma mb : ME) : ME := fun e => (bM ma e).bind fun p => if p.1 = true then some (.v (.bl true), p.2) else mb p.2
def notV (ma : ME) : ME := fun e => (bM ma e).map fun p => (.v (.bl (!p.1)), p.2)
theorem sim_bM {t : TE} {m : ME} (h : SimE K t m) {F0 Gd : Hp} {ios : List (Option Addr)} {F H : Hp} {σ : L2.St} {e : Env} {os : List (Option Addr)} {b : Bool} {e' : Env} {Q : VK} (W : WOk K F0 Gd ios F H σ e os) (hm : bM m e = some (b, e'))
    (q : ∀ F' H' os', WOk K F0 Gd ios F' H' σ e' os' → Same F F' → Q (.bl b) H') : t σ H Q := by
  unfold bM at hm
  obtain ⟨⟨l1, e1⟩, h1, hm⟩ := Option.bind_eq_some_iff.mp hm
  obtain ⟨d, hd, hm⟩ := Option.bind_eq_some_iff.mp hm
  cases d <;> first | cases hm | skip
  exact h.run W h1 fun F1 H1 os1 x W1 s1 k1 => by
    rw [(W1.bw k1 hd).isBl]; exact q F1 H1 os1 W1 s1
theorem sim_andV {ta tb : TE} {ma mb : ME} (ha : SimE K ta ma) (hb : SimE K tb mb) : SimE K (tAndV ta tb) (andV ma mb) := ⟨fun {F0 Gd ios F H σ e os b e' Q} W hm q => by
  unfold andV at hm
  obtain ⟨⟨c, e1⟩, h1, hm⟩ := Option.bind_eq_some_iff.mp hm
  refine sim_bM ha W h1 fun F1 H1 os1 W1 s1 => ⟨c, rfl, ?_⟩
  cases c with
  | true => exact iteT (hb.run W1 hm fun F2 H2 os2 x W2 s2 k => q F2 H2 os2 x W2 (s1.trans s2) k)
  | false => cases hm; exact iteF (q F1 H1 os1 _ W1 s1 (Rp.bl false))⟩
theorem sim_orV {ta tb : TE} {ma mb : ME} (ha : SimE K ta ma) (hb : SimE K tb mb) : SimE K (tOrV ta tb) (orV ma mb) := ⟨fun {F0 Gd ios F H σ e os b e' Q} W hm q => by
  unfold orV at hm
  obtain ⟨⟨c, e1⟩, h1, hm⟩ := Option.bind_eq_some_iff.mp hm
  refine sim_bM ha W h1 fun F1 H1 os1 W1 s1 => ⟨c, rfl, ?_⟩
  cases c with
  | false => exact iteF (hb.run W1 hm fun F2 H2 os2 x W2 s2 k => q F2 H2 os2 x W2 (s1.trans s2) k)
  | true => cases hm; exact iteT (q F1 H1 os1 _ W1 s1 (Rp.bl true))⟩
theorem sim_notV {ta : TE} {ma : ME} (ha : SimE K ta ma) : SimE K (tNotV ta) (notV ma) := ⟨fun {F0 Gd ios F H σ e os b e' Q} W hm q => by
  unfold notV at hm
  obtain ⟨⟨c, e1⟩, h1, hm⟩ := Option.map_eq_some_iff.mp hm
  cases hm
  exact sim_bM ha W h1 fun F1 H1 os1 W1 s1 => ⟨c, rfl, q F1 H1 os1 _ W1 s1 (Rp.bl _)⟩⟩
def ifM (mc : MT) (ma mb : ME) : ME := fun e => (mc e).bind fun p => if p.1 = true then ma p.2 else mb p.2
theorem sim_if {tc : TT} {ta tb : TE} {mc : MT} {ma mb : ME} (hc : SimT K tc mc) (ha : SimE K ta ma) (hb : SimE K tb mb) : SimE K (tIf tc ta tb) (ifM mc ma mb) := ⟨fun {F0 Gd ios F H σ e os b e' Q} W hm q => by
  unfold ifM at hm
  obtain ⟨⟨c, e1⟩, h1, hm⟩ := Option.bind_eq_some_iff.mp hm
  refine hc.run W h1 fun F1 H1 os1 W1 s1 => ?_
  cases c with
  | true => exact iteT (ha.run W1 hm fun F2 H2 os2 x W2 s2 k => q F2 H2 os2 x W2 (s1.trans s2) k)
  | false => exact iteF (hb.run W1 hm fun F2 H2 os2 x W2 s2 k => q F2 H2 os2 x W2 (s1.trans s2) k)⟩
end Dk
namespace Dk
open PySem PySem.Spec PyProof.Rows L2
variable {K : PySem.W.Frag}

/-! ### blocks -/
def nxM : MS := fun e => some (.nx, e)
theorem sim_next : SimS K tNext nxM := ⟨fun {F0 Gd ios F H σ e os fl e' G} W hm q => by cases hm; exact q F H σ os W (Same.refl _)⟩
def bkM : MS := fun e => some (.bk, e)
theorem sim_break : SimS K tBreak bkM := ⟨fun {F0 Gd ios F H σ e os fl e' G} W hm q => by cases hm; exact q F H σ os W (Same.refl _)⟩
def ctM : MS := fun e => some (.ct, e)
theorem sim_cont : SimS K tCont ctM := ⟨fun {F0 Gd ios F H σ e os fl e' G} W hm q => by cases hm; exact q F H σ os W (Same.refl _)⟩
def noM : MS := fun _ => none
theorem sim_never : SimS K tNever noM := ⟨fun _ hm _ => nomatch hm⟩
def seqM (m1 m2 : MS) : MS := fun e => (m1 e).bind fun p => match p.1 with
  | .nx => m2 p.2
  | f => some (f, p.2)
theorem sim_seq {t u : TS} {m1 m2 : MS} (h1 : SimS K t m1) (h2 : SimS K u m2) : SimS K (tSeq t u) (seqM m1 m2) := ⟨fun {F0 Gd ios F H σ e os fl e' G} W hm q => by
  unfold seqM at hm
  obtain ⟨⟨f1, e1⟩, z, hm⟩ := Option.bind_eq_some_iff.mp hm
  refine h1.run W z ?_
  cases f1 with
  | nx => exact fun F1 H1 σ1 os1 W1 s1 => h2.run W1 hm (q.mono s1)
  | bk => cases hm; exact q
  | ct => cases hm; exact q
  | rt d => cases hm; exact q
  | rn d => cases hm; exact q⟩
def ifS (mc : MT) (m1 m2 : MS) : MS := fun e => (mc e).bind fun p => if p.1 = true then m1 p.2 else m2 p.2
theorem sim_ifS {tc : TT} {t u : TS} {mc : MT} {m1 m2 : MS} (hc : SimT K tc mc) (h1 : SimS K t m1) (h2 : SimS K u m2) : SimS K (tIfS tc t u) (ifS mc m1 m2) := ⟨fun {F0 Gd ios F H σ e os fl e' G} W hm q => by
  unfold ifS at hm
  obtain ⟨⟨c, e1⟩, z, hm⟩ := Option.bind_eq_some_iff.mp hm
  refine hc.run W z fun F1 H1 os1 W1 s1 => ?_
  cases c with
  | true => exact iteT (h1.run W1 hm (q.mono s1))
  | false => exact iteF (h2.run W1 hm (q.mono s1))⟩
def exM (m : ME) : MS := fun e => (m e).map fun p => (.nx, p.2)
theorem sim_drop {t : TE} {m : ME} (h : SimE K t m) : SimS K (tDrop t) (exM m) := ⟨fun {F0 Gd ios F H σ e os fl e' G} W hm q => by
  unfold exM at hm
  obtain ⟨⟨l, e1⟩, z, hm⟩ := Option.map_eq_some_iff.mp hm
  cases hm
  exact h.run W z fun F1 H1 os1 x W1 s1 _ => q F1 H1 σ os1 W1 s1⟩
def retM (m : ME) : MS := fun e => (m e).bind fun p => (tk p.2 p.1).map fun q => (.rt q.1, q.2)
theorem sim_ret {t : TE} {m : ME} (h : SimE K t m) : SimS K (tRet t) (retM m) := ⟨fun {F0 Gd ios F H σ e os fl e' G} W hm q => by
  unfold retM at hm
  obtain ⟨⟨l, e1⟩, z, hm⟩ := Option.bind_eq_some_iff.mp hm
  obtain ⟨⟨d, e2⟩, y, hm⟩ := Option.map_eq_some_iff.mp hm
  cases hm
  refine h.run W z fun F1 H1 os1 x W1 s1 k => ?_
  obtain ⟨F2, os2, W2, s2, r⟩ := W1.take k y
  exact q F2 H1 σ os2 x W2 (s1.trans s2) r⟩
def retN (m : MN) : MS := fun e => (m e).map fun p => (.rn p.1, p.2)
theorem WOk.newIo {F0 Gd F H : Hp} {ios os : List (Option Addr)} {σ : L2.St} {e : Env} {p : Addr} (W : WOk K F0 Gd ios F H σ e os) (n : ∀ i : Nat, os[i]? ≠ some (some p)) : ∀ i : Nat, ios[i]? ≠ some (some p) := fun i h => n i (W.io i p h).1
theorem sim_retN {t : TE} {m : MN} (h : SimN K t m) : SimS K (tRet t) (retN m) := ⟨fun {F0 Gd ios F H σ e os fl e' G} W hm q => by
  unfold retN at hm
  obtain ⟨⟨l, e1⟩, z, hm⟩ := Option.map_eq_some_iff.mp hm
  cases hm
  exact h.run W z fun F1 H1 os1 p W1 s1 nw => q F1 H1 σ os1 p W1 s1 nw.ob nw.gd (W1.f0.free nw.ob.1) (W1.newIo nw.no)⟩
/-- return of an owned name: its object is handed on as a new one -/
def retO (i : Nat) : MS := fun e => match e[i]? with
  | some (.ow d) => some (.rn d, e)
  | _ => none
theorem join_some {α : Type} {o : Option (Option α)} {x : α} (h : o.join = some x) : o = some (some x) := by
  cases o with
  | none => cases h
  | some o => cases o with
    | none => cases h
    | some o => cases h; rfl
theorem sim_retO (i : Nat) : SimS K (tRet (tVar i)) (retO i) := ⟨fun {F0 Gd ios F H σ e os fl e' G} W hm q => by
  unfold retO at hm
  split at hm
  · rename_i d hd
    cases hm
    obtain ⟨p, h1, h2, ob⟩ := W.sl i _ hd
    refine ⟨.ref p, join_some h2, q F H σ os p W (Same.refl _) ob ?_ (W.f0.free ob.1) fun j hj => ?_⟩
    · cases z : Gd p with
      | none => rfl
      | some o => exact absurd (join_some h1) ((W.gd p o z).2.2 i)
    · obtain ⟨y1, c, y2⟩ := W.io j p hj
      have := W.ds i j p (join_some h1) y1
      subst this
      rw [hd] at y2; cases y2
  · cases hm⟩
def retNon : MS := fun e => some (.rt .non, e)
theorem sim_retNon : SimS K tRetN retNon := ⟨fun {F0 Gd ios F H σ e os fl e' G} W hm q => by cases hm; exact q F H σ os .non W (Same.refl _) .non⟩

/-! ### targets, stores -/
/-- the slot i gets frozen data -/
def putZ (i : Nat) (d : D) (e : Env) : Option Env := match e[i]? with
  | some (.io _) => none
  | some _ => some (e.set i (.fz d))
  | none => none
section
variable {F0 Gd F H : Hp} {ios os : List (Option Addr)} {σ : L2.St} {e : Env}
theorem WOk.putZ {i : Nat} {d : D} {e' : Env} {x : V} (W : WOk K F0 Gd ios F H σ e os) (r : Rp K F x d) (h : putZ i d e = some e') : WOk K F0 Gd ios F H (σ.set i (some x)) e' (os.set i none) := by
  unfold Dk.putZ at h
  have go : ∀ s, e[i]? = some s → (∀ d, s ≠ .io d) → some (e.set i (.fz d)) = some e' → WOk K F0 Gd ios F H (σ.set i (some x)) e' (os.set i none) := fun s hs hn q => by
    cases q
    exact W.put (List.getElem?_eq_some_iff.mp hs).1 (W.noIo hs hn) ⟨rfl, x, rfl, r⟩ fun p q => nomatch q
  split at h
  · cases h
  · rename_i s hs hn
    exact go s hn (fun d z => hs d z) h
  · cases h
/-- the slot i gets a new owned object -/
theorem WOk.putO {i : Nat} {d : D} {p : Addr} (W : WOk K F0 Gd ios F H σ e os) (nw : Nw K Gd F H os p d) {s : Sl} (hs : e[i]? = some s) (hn : ∀ d, s ≠ .io d) : WOk K F0 Gd ios F H (σ.set i (some (.ref p))) (e.set i (.ow d)) (os.set i (some p)) :=
  W.put (List.getElem?_eq_some_iff.mp hs).1 (W.noIo hs hn) ⟨p, rfl, rfl, nw.ob⟩ fun b q => by cases q; exact ⟨nw.gd, fun j _ => nw.no j⟩
end
def nameG (i : Nat) : MG := fun d e => putZ i d e
theorem But.set (i : Nat) (σ : L2.St) (v : Option V) : But [i] σ (σ.set i v) := ⟨by rw [List.length_set], fun j h => by rw [List.getElem?_set_ne (fun z => h (by rw [z]; exact List.mem_singleton.mpr rfl))]⟩
theorem But.trans {a b : List Nat} {σ σ1 σ2 : L2.St} (h : But a σ σ1) (h2 : But b σ1 σ2) : But (a ++ b) σ σ2 := ⟨h2.1.trans h.1, fun i hi => by
  rw [h2.2 i (fun z => hi (List.mem_append.mpr (.inr z))), h.2 i (fun z => hi (List.mem_append.mpr (.inl z)))]⟩
theorem sim_gName (i : Nat) : SimG K (gName i) [i] (nameG i) := ⟨fun {F0 Gd ios F H σ e os x d e' Q} W r hm q => q F H _ _ (W.putZ r hm) (Same.refl _) (But.set i σ _)⟩
def nilG : List D → Env → Option Env := fun ds e => match ds with
  | [] => some e
  | _ => none
def consG (m : MG) (r : List D → Env → Option Env) : List D → Env → Option Env := fun ds e => match ds with
  | d :: ds => (m d e).bind fun e1 => r ds e1
  | [] => none
structure SimGs (K : PySem.W.Frag) (t : TGs) (js : List Nat) (m : List D → Env → Option Env) : Prop where
  run : ∀ {F0 Gd : Hp} {ios : List (Option Addr)} {F H : Hp} {σ : L2.St} {e : Env} {os : List (Option Addr)} {xs : List V} {ds : List D} {e' : Env} {Q : L2.St → Hp → Prop}, WOk K F0 Gd ios F H σ e os → RpL K F xs ds → m ds e = some e' →
    (∀ F' H' σ' os', WOk K F0 Gd ios F' H' σ' e' os' → Same F F' → But js σ σ' → Q σ' H') → t xs σ H Q
theorem sim_gNil : SimGs K gNil [] nilG := ⟨fun {F0 Gd ios F H σ e os xs ds e' Q} W r hm q => by
  cases r with
  | nil => cases hm; exact ⟨rfl, q F H _ _ W (Same.refl _) ⟨rfl, fun _ _ => rfl⟩⟩
  | cons _ _ => cases hm⟩
theorem sim_gCons {t : TG} {u : TGs} {js ks : List Nat} {m : MG} {r : List D → Env → Option Env} (h : SimG K t js m) (hr : SimGs K u ks r) : SimGs K (gCons t u) (js ++ ks) (consG m r) := ⟨fun {F0 Gd ios F H σ e os xs ds e' Q} W rp hm q => by
  cases rp with
  | nil => cases hm
  | cons r1 r2 =>
    obtain ⟨e1, h1, h2⟩ := Option.bind_eq_some_iff.mp hm
    exact ⟨_, _, rfl, h.run W r1 h1 fun F1 H1 σ1 os1 W1 s1 b1 => hr.run W1 (r2.mono s1) h2 fun F2 H2 σ2 os2 W2 s2 b2 => q F2 H2 σ2 os2 W2 (s1.trans s2) (b1.trans b2)⟩⟩
def tupG (n : Nat) (m : List D → Env → Option Env) : MG := fun d e => match d with
  | .tup ds => if ds.length = n then m ds e else none
  | _ => none
theorem sim_gTup {n : Nat} {t : TGs} {js : List Nat} {m : List D → Env → Option Env} (h : SimGs K t js m) : SimG K (gTup K n t) js (tupG n m) := ⟨fun {F0 Gd ios F H σ e os x d e' Q} W rp hm q => by
  cases rp with
  | tup hs r =>
    simp only [tupG] at hm
    split at hm
    · rename_i hl
      exact ⟨_, _, rfl, seqT W.fh hs, by rw [r.length]; exact hl, h.run W r hm q⟩
    · cases hm
  | _ => cases hm⟩
def asgM (m : ME) (g : MG) : MS := fun e => (m e).bind fun p => (tk p.2 p.1).bind fun q => (g q.1 q.2).map fun e2 => (.nx, e2)
theorem sim_asg {t : TE} {g : TG} {js : List Nat} {m : ME} {mg : MG} (h : SimE K t m) (hg : SimG K g js mg) : SimS K (tAsg t g) (asgM m mg) := ⟨fun {F0 Gd ios F H σ e os fl e' G} W hm q => by
  unfold asgM at hm
  obtain ⟨⟨l, e1⟩, z, hm⟩ := Option.bind_eq_some_iff.mp hm
  obtain ⟨⟨d, e2⟩, y, hm⟩ := Option.bind_eq_some_iff.mp hm
  obtain ⟨e3, u, hm⟩ := Option.map_eq_some_iff.mp hm
  cases hm
  refine h.run W z fun F1 H1 os1 x W1 s1 k => ?_
  obtain ⟨F2, os2, W2, s2, r⟩ := W1.take k y
  exact hg.run W2 r u fun F3 H3 σ3 os3 W3 s3 _ => q F3 H3 σ3 os3 W3 ((s1.trans s2).trans s3)⟩
def asgN (m : MN) (i : Nat) : MS := fun e => (m e).bind fun p => match p.2[i]? with
  | some (.io _) => none
  | some _ => some (.nx, p.2.set i (.ow p.1))
  | none => none
theorem sim_asgN {t : TE} {m : MN} {i : Nat} (h : SimN K t m) : SimS K (tAsg t (gName i)) (asgN m i) := ⟨fun {F0 Gd ios F H σ e os fl e' G} W hm q => by
  unfold asgN at hm
  obtain ⟨⟨d, e1⟩, z, hm⟩ := Option.bind_eq_some_iff.mp hm
  refine h.run W z fun F1 H1 os1 p W1 s1 nw => ?_
  simp only at hm
  split at hm
  · cases hm
  · rename_i s hs hn
    cases hm
    exact q F1 H1 _ _ (W1.putO nw hn fun d z => hs d z) s1
  · cases hm⟩
/-- a, b = x, y -/
def parM (i j : Nat) (m : MA) : MS := fun e => (m e).bind fun p => (tks p.2 p.1).bind fun q => match q.1 with
  | [a, b] => (putZ i a q.2).bind fun e1 => (putZ j b e1).map fun e2 => (.nx, e2)
  | _ => none
theorem sim_par {i j : Nat} {t : TA} {m : MA} (h : SimA K t m) : SimS K (tPar i j t) (parM i j m) := ⟨fun {F0 Gd ios F H σ e os fl e' G} W hm q => by
  unfold parM at hm
  obtain ⟨⟨ls, e1⟩, z, hm⟩ := Option.bind_eq_some_iff.mp hm
  obtain ⟨⟨ds, e2⟩, y, hm⟩ := Option.bind_eq_some_iff.mp hm
  refine h.run W z fun F1 H1 os1 xs W1 s1 k => ?_
  obtain ⟨F2, os2, W2, s2, r⟩ := W1.takes k y
  simp only at hm
  split at hm
  · rename_i a b
    cases r with
    | cons r1 r =>
      cases r with
      | cons r2 r =>
        cases r
        obtain ⟨e3, u, hm⟩ := Option.bind_eq_some_iff.mp hm
        obtain ⟨e4, v, hm⟩ := Option.map_eq_some_iff.mp hm
        cases hm
        exact ⟨_, _, rfl, q F2 H1 _ _ ((W2.putZ r1 u).putZ r2 v) (s1.trans s2)⟩
  · cases hm⟩
theorem WOk.val {F0 Gd F H : Hp} {ios os : List (Option Addr)} {σ : L2.St} {e : Env} {i : Nat} {d : D} (W : WOk K F0 Gd ios F H σ e os) (h : rdS e[i]? = some d) : ∃ x, σ[i]? = some (some x) := by
  cases y : e[i]? with
  | none => rw [y] at h; cases h
  | some s =>
    have k := W.sl i s y
    rw [y] at h
    cases s with
    | no => cases h
    | fz c => obtain ⟨_, x, h, _⟩ := k; exact ⟨x, join_some h⟩
    | ow c => obtain ⟨p, _, h, _⟩ := k; exact ⟨_, join_some h⟩
    | io c => obtain ⟨p, _, h, _⟩ := k; exact ⟨_, join_some h⟩
/-- x op= e, scalars -/
def augM (op : D → D → Option D) (i : Nat) (m : ME) : MS := fun e => (rdS e[i]?).bind fun _ => (m e).bind fun p => (rd p.2 (.s i)).bind fun a => (rd p.2 p.1).bind fun b => (op a b).bind fun d => (putZ i d p.2).map fun e2 => (.nx, e2)
theorem sim_aug {op : D → D → Option D} {i : Nat} {te : TE} {ti : TIp} {m : ME} (ho : Op2 K ti op) (h : SimE K te m) : SimS K (tAug i te ti) (augM op i m) := ⟨fun {F0 Gd ios F H σ e os fl e' G} W hm q => by
  unfold augM at hm
  obtain ⟨c, hc, hm⟩ := Option.bind_eq_some_iff.mp hm
  obtain ⟨⟨l, e1⟩, z, hm⟩ := Option.bind_eq_some_iff.mp hm
  obtain ⟨a, ra, hm⟩ := Option.bind_eq_some_iff.mp hm
  obtain ⟨b, rb, hm⟩ := Option.bind_eq_some_iff.mp hm
  obtain ⟨d, hd, hm⟩ := Option.bind_eq_some_iff.mp hm
  obtain ⟨e2, u, hm⟩ := Option.map_eq_some_iff.mp hm
  cases hm
  obtain ⟨x, hx⟩ := W.val hc
  refine ⟨x, hx, h.run W z fun F1 H1 os1 y W1 s1 k => ?_⟩
  refine ho W1.fh (W1.bw (l := .s i) hx ra) (W1.bw k rb) hd fun F3 H3 v x3 rp => ?_
  exact q F3 H3 _ _ ((W1.ext x3).putZ rp u) (s1.trans x3.f)⟩

/-! ### an owned object is written -/
def wr (e : Env) (k : Nat) (d : D) : Option Env := match e[k]? with
  | some (.ow _) => some (e.set k (.ow d))
  | some (.io _) => some (e.set k (.io d))
  | _ => none
/-- what is owned at the slot k -/
def ownD (e : Env) (k : Nat) : Option D := match e[k]? with
  | some (.ow d) => some d
  | some (.io d) => some d
  | _ => none
section
variable {F0 Gd F H F' H' : Hp} {ios os : List (Option Addr)} {σ : L2.St} {e : Env}
theorem WOk.at_ {k : Nat} {d : D} (W : WOk K F0 Gd ios F H σ e os) (h : ownD e k = some d) : ∃ p, os[k]? = some (some p) ∧ σ[k]? = some (some (.ref p)) ∧ Ob K F H p d := by
  unfold ownD at h
  split at h
  · rename_i c hc
    cases h
    obtain ⟨p, h1, h2, ob⟩ := W.sl k _ hc
    exact ⟨p, join_some h1, join_some h2, ob⟩
  · rename_i c hc
    cases h
    obtain ⟨p, h1, h2, ob⟩ := W.sl k _ hc
    exact ⟨p, join_some h1, join_some h2, ob⟩
  · cases h
/-- the world behind a change of the object that the slot k owns: F' H' keep all else -/
theorem WOk.chg {k : Nat} {d : D} {p : Addr} {e' : Env} (W : WOk K F0 Gd ios F H σ e os) (hp : os[k]? = some (some p)) (sf : Same F F') (fh : Same F' H')
    (keep : ∀ b o, H b = some o → F b = none → b ≠ p → H' b = some o ∧ F' b = none) (ob : Ob K F' H' p d) (hw : wr e k d = some e') : WOk K F0 Gd ios F' H' σ e' os := by
  have hk : k < e.length := by rw [← W.lo]; exact (List.getElem?_eq_some_iff.mp hp).1
  have hv : σ[k]?.join = some (.ref p) := by
    obtain ⟨c, hc⟩ : ∃ c, e[k]? = some c := ⟨e[k], List.getElem?_eq_getElem hk⟩
    have z := W.sl k c hc
    rw [hp] at z
    unfold wr at hw
    rw [hc] at hw
    cases c with
    | no => cases hw
    | fz c => cases hw
    | ow c => obtain ⟨p', h1, h2, _⟩ := z; cases h1; exact h2
    | io c => obtain ⟨p', h1, h2, _⟩ := z; cases h1; exact h2
  have kOb : ∀ b c (j : Nat), os[j]? = some (some b) → j ≠ k → Ob K F H b c → Ob K F' H' b c := fun b c j hj hjk o => by
    obtain ⟨u, hu⟩ := o.has
    have hb : b ≠ p := fun z => by subst z; exact hjk (W.ds j k b hj hp)
    obtain ⟨h1, h2⟩ := keep b u hu o.1 hb
    exact o.keep sf (by rw [hu]; exact h1) h2
  have main : ∀ s, (∀ q, SlOk K F' H' (some (V.ref q)) s (some q) ↔ Ob K F' H' q d) → (∀ q, ios[k]? = some (some q) → ∃ c : D, s = .io c) → e' = e.set k s → WOk K F0 Gd ios F' H' σ e' os := fun s hs hi he => by
    subst he
    refine ⟨fh, W.f0.trans sf, fun a o h => ?_, by rw [List.length_set]; exact W.le, by rw [List.length_set]; exact W.lo, fun j t h => ?_, W.ds, fun j q h => ?_⟩
    · obtain ⟨h1, h2, h3⟩ := W.gd a o h
      have := keep a o h1 h2 fun z => by subst z; exact h3 k hp
      exact ⟨this.1, this.2, h3⟩
    · by_cases z : k = j
      · subst z
        rw [List.getElem?_set_self hk] at h
        cases h
        rw [hv, hp]
        exact (hs p).mpr ob
      · rw [List.getElem?_set_ne z] at h
        have y := W.sl j t h
        cases t with
        | no => exact y
        | fz c => obtain ⟨a1, x, b1, r⟩ := y; exact ⟨a1, x, b1, r.mono sf⟩
        | ow c => obtain ⟨b, a1, b1, o⟩ := y; exact ⟨b, a1, b1, kOb b c j (join_some a1) (fun q => z q.symm) o⟩
        | io c => obtain ⟨b, a1, b1, o⟩ := y; exact ⟨b, a1, b1, kOb b c j (join_some a1) (fun q => z q.symm) o⟩
    · obtain ⟨h1, c, h2⟩ := W.io j q h
      refine ⟨h1, ?_⟩
      by_cases z : k = j
      · subst z
        obtain ⟨c', rfl⟩ := hi q h
        exact ⟨c', List.getElem?_set_self hk⟩
      · exact ⟨c, by rw [List.getElem?_set_ne z]; exact h2⟩
  unfold wr at hw
  split at hw
  · rename_i c hc
    cases hw
    refine main (.ow d) (fun q => ⟨fun ⟨q', h1, _, h3⟩ => by cases h1; exact h3, fun h => ⟨q, rfl, rfl, h⟩⟩) (fun q h => ?_) rfl
    obtain ⟨_, c2, h2⟩ := W.io k q h
    rw [hc] at h2; cases h2
  · rename_i c hc
    cases hw
    exact main (.io d) (fun q => ⟨fun ⟨q', h1, _, h3⟩ => by cases h1; exact h3, fun h => ⟨q, rfl, rfl, h⟩⟩) (fun q h => ⟨d, rfl⟩) rfl
  · cases hw
theorem WOk.write {k : Nat} {d : D} {p : Addr} {o : HO} {e' : Env} (W : WOk K F0 Gd ios F H σ e os) (hp : os[k]? = some (some p)) (ob : Ob K F (upd H p o) p d) (hw : wr e k d = some e') : WOk K F0 Gd ios F (upd H p o) σ e' os :=
  W.chg hp (Same.refl _) (fun b u h => by rw [upd_ne (ne_of_none h ob.1)]; exact W.fh b u h) (fun b u h n hb => ⟨by rw [upd_ne hb]; exact h, n⟩) ob hw
end
def asL : D → Option (List D)
  | .lst ds => some ds
  | _ => none
def asT : D → Option (List D)
  | .tup ds => some ds
  | _ => none
def asI : D → Option Int
  | .int i => some i
  | _ => none
def asB : D → Option Bool
  | .bl i => some i
  | _ => none
def asS : D → Option Str
  | .str i => some i
  | _ => none
def asD : D → Option (List (Key × D))
  | .dic i => some i
  | _ => none
def okB (b : Bool) : Option Unit := if b then some () else none
theorem asL_iff {d : D} {x : List D} (h : asL d = some x) : d = .lst x := by cases d <;> first | (cases h; done) | (cases h; rfl)
theorem asT_iff {d : D} {x : List D} (h : asT d = some x) : d = .tup x := by cases d <;> first | (cases h; done) | (cases h; rfl)
theorem asI_iff {d : D} {x : Int} (h : asI d = some x) : d = .int x := by cases d <;> first | (cases h; done) | (cases h; rfl)
theorem asB_iff {d : D} {x : Bool} (h : asB d = some x) : d = .bl x := by cases d <;> first | (cases h; done) | (cases h; rfl)
theorem asS_iff {d : D} {x : Str} (h : asS d = some x) : d = .str x := by cases d <;> first | (cases h; done) | (cases h; rfl)
theorem asD_iff {d : D} {x : List (Key × D)} (h : asD d = some x) : d = .dic x := by cases d <;> first | (cases h; done) | (cases h; rfl)
theorem okB_iff {b : Bool} {u : Unit} (h : okB b = some u) : b = true := by cases b <;> first | rfl | (cases h; done)
/-- xs.append(e), xs an owned name -/
def appM (k : Nat) (m : ME) : ME := fun e => (ownD e k).bind fun c => (asL c).bind fun _ => (m e).bind fun p => (tk p.2 p.1).bind fun q => (ownD q.2 k).bind fun c => (asL c).bind fun ds => (okB (few ds.length)).bind fun _ =>
  (wr q.2 k (.lst (ds ++ [q.1]))).map fun e2 => (.v .non, e2)
theorem Ob.lst {F H : Hp} {p : Addr} {ds : List D} (h : Ob K F H p (.lst ds)) : ∃ xs, H p = some (.lst xs) ∧ RpL K F xs ds := h.2
theorem sim_app {k : Nat} {te : TE} {m : ME} (h : SimE K te m) : SimE K (tBM K "list" rAppend (tVar k) (tCons te tNil)) (appM k m) := ⟨fun {F0 Gd ios F H σ e os l e' Q} W hm q => by
  unfold appM at hm
  obtain ⟨c0, hc0, hm⟩ := Option.bind_eq_some_iff.mp hm
  obtain ⟨ds0, hd0, hm⟩ := Option.bind_eq_some_iff.mp hm
  obtain ⟨⟨l1, e1⟩, h1, hm⟩ := Option.bind_eq_some_iff.mp hm
  obtain ⟨⟨d, e2⟩, h2, hm⟩ := Option.bind_eq_some_iff.mp hm
  obtain ⟨c, hc, hm⟩ := Option.bind_eq_some_iff.mp hm
  obtain ⟨ds, hd, hm⟩ := Option.bind_eq_some_iff.mp hm
  obtain ⟨u, hf, hm⟩ := Option.bind_eq_some_iff.mp hm
  obtain ⟨e3, hw, hm⟩ := Option.map_eq_some_iff.mp hm
  cases hm
  cases asL_iff hd0
  cases asL_iff hd
  have hf := okB_iff hf
  obtain ⟨p, hp, hv, ob⟩ := W.at_ hc0
  obtain ⟨xs0, hx0, _⟩ := ob.lst
  refine ⟨.ref p, hv, .inl ⟨rfl, xs0, .inl (.inl hx0)⟩, ?_⟩
  refine h.run W h1 fun F1 H1 os1 y W1 s1 k1 => ?_
  obtain ⟨F2, os2, W2, s2, r⟩ := W1.take k1 h2
  obtain ⟨p2, hp2, hv2, ob2⟩ := W2.at_ hc
  rw [hv] at hv2; cases hv2
  obtain ⟨xs, hx, rx⟩ := ob2.lst
  refine ⟨p, xs, y, rfl, rfl, hx, by rw [rx.length]; exact few_lt hf, ?_⟩
  have ob3 : Ob K F2 (upd H1 p (.lst (xs ++ [y]))) p (.lst (ds ++ [d])) := ⟨ob2.1, _, upd_same, rx.app (.one r)⟩
  exact q F2 _ os2 .non (W2.write hp2 ob3 hw) (s1.trans s2) Rp.non⟩
/-- xs.pop(i), xs an owned name -/
def popM (k : Nat) (m : ME) : ME := fun e => (ownD e k).bind fun c => (asL c).bind fun _ => (m e).bind fun p => (rd p.2 p.1).bind fun i => (asI i).bind fun i => (ownD p.2 k).bind fun c => (asL c).bind fun ds =>
  (okB (decide (0 ≤ i) && decide (i < 2 ^ 63))).bind fun _ => (ds[i.toNat]?).bind fun d => (wr p.2 k (.lst (ds.eraseIdx i.toNat))).map fun e2 => (.v d, e2)
theorem seqIndex_nat {i : Int} {n : Nat} (h0 : 0 ≤ i) (h : i.toNat < n) : seqIndex? i n = some i.toNat := by
  have := (ixN_seq (n := n) (i := i) (j := i.toNat) (by unfold ixN; rw [if_pos h0, if_pos (by omega)]))
  exact this.1
theorem sim_pop {k : Nat} {te : TE} {m : ME} (h : SimE K te m) : SimE K (tBM K "list" rPopAt (tVar k) (tCons te tNil)) (popM k m) := ⟨fun {F0 Gd ios F H σ e os l e' Q} W hm q => by
  unfold popM at hm
  obtain ⟨c0, hc0, hm⟩ := Option.bind_eq_some_iff.mp hm
  obtain ⟨ds0, hd0, hm⟩ := Option.bind_eq_some_iff.mp hm
  obtain ⟨⟨l1, e1⟩, h1, hm⟩ := Option.bind_eq_some_iff.mp hm
  obtain ⟨c1, h2, hm⟩ := Option.bind_eq_some_iff.mp hm
  obtain ⟨j, hj, hm⟩ := Option.bind_eq_some_iff.mp hm
  obtain ⟨c, hc, hm⟩ := Option.bind_eq_some_iff.mp hm
  obtain ⟨ds, hd, hm⟩ := Option.bind_eq_some_iff.mp hm
  obtain ⟨u, hf, hm⟩ := Option.bind_eq_some_iff.mp hm
  obtain ⟨d, hz, hm⟩ := Option.bind_eq_some_iff.mp hm
  obtain ⟨e3, hw, hm⟩ := Option.map_eq_some_iff.mp hm
  cases hm
  cases asL_iff hd0
  cases asL_iff hd
  cases asI_iff hj
  have hf := Bool.and_eq_true_iff.mp (okB_iff hf)
  have f1 : 0 ≤ j := of_decide_eq_true hf.1
  have f2 : j < 2 ^ 63 := of_decide_eq_true hf.2
  obtain ⟨p, hp, hv, ob⟩ := W.at_ hc0
  obtain ⟨xs0, hx0, _⟩ := ob.lst
  refine ⟨.ref p, hv, .inl ⟨rfl, xs0, .inl (.inl hx0)⟩, ?_⟩
  refine h.run W h1 fun F1 H1 os1 y W1 s1 k1 => ?_
  obtain ⟨p2, hp2, hv2, ob2⟩ := W1.at_ hc
  rw [hv] at hv2; cases hv2
  obtain ⟨xs, hx, rx⟩ := ob2.lst
  obtain ⟨z, hz, rz⟩ := rx.get hz
  have hl : j.toNat < xs.length := (List.getElem?_eq_some_iff.mp hz).1
  have hy := (W1.bw k1 h2).isInt
  subst hy
  refine ⟨p, xs, j, j.toNat, z, rfl, rfl, hx, by omega, f2, seqIndex_nat f1 hl, hz, ?_⟩
  have ob3 : Ob K F1 (upd H1 p (.lst (xs.eraseIdx j.toNat))) p (.lst (ds.eraseIdx j.toNat)) := ⟨ob2.1, _, upd_same, rx.erase _⟩
  exact q F1 _ os1 z (W1.write hp2 ob3 hw) s1 rz⟩
/-- xs[i] = e, xs an owned name -/
def setM (k : Nat) (m mi : ME) : MS := fun e => (m e).bind fun p => (tk p.2 p.1).bind fun q => (rdS q.2[k]?).bind fun _ => (mi q.2).bind fun r => (rd r.2 r.1).bind fun i => (asI i).bind fun i => (ownD r.2 k).bind fun c => (asL c).bind fun ds => (ixN ds.length i).bind fun j =>
  (wr r.2 k (.lst (ds.set j q.1))).map fun e2 => (.nx, e2)
theorem sim_setL {k : Nat} {te ti : TE} {m mi : ME} (h : SimE K te m) (hi : SimE K ti mi) : SimS K (tAsg te (gSub (tVar k) ti rSetL)) (setM k m mi) := ⟨fun {F0 Gd ios F H σ e os fl e' G} W hm q => by
  unfold setM at hm
  obtain ⟨⟨l1, e1⟩, h1, hm⟩ := Option.bind_eq_some_iff.mp hm
  obtain ⟨⟨d, e2⟩, h2, hm⟩ := Option.bind_eq_some_iff.mp hm
  obtain ⟨c0, hc0, hm⟩ := Option.bind_eq_some_iff.mp hm
  obtain ⟨⟨l3, e3⟩, h3, hm⟩ := Option.bind_eq_some_iff.mp hm
  obtain ⟨c1, h4, hm⟩ := Option.bind_eq_some_iff.mp hm
  obtain ⟨i, hj, hm⟩ := Option.bind_eq_some_iff.mp hm
  obtain ⟨c, hc, hm⟩ := Option.bind_eq_some_iff.mp hm
  obtain ⟨ds, hd, hm⟩ := Option.bind_eq_some_iff.mp hm
  obtain ⟨j, hx, hm⟩ := Option.bind_eq_some_iff.mp hm
  obtain ⟨e4, hw, hm⟩ := Option.map_eq_some_iff.mp hm
  cases hm
  cases asL_iff hd
  cases asI_iff hj
  refine h.run W h1 fun F1 H1 os1 y W1 s1 k1 => ?_
  obtain ⟨F2, os2, W2, s2, r⟩ := W1.take k1 h2
  obtain ⟨xv, hxv⟩ := W2.val hc0
  refine ⟨xv, hxv, hi.run W2 h3 fun F3 H3 os3 z W3 s3 k3 => ?_⟩
  obtain ⟨p2, hp2, hv2, ob2⟩ := W3.at_ hc
  rw [hxv] at hv2; cases hv2
  obtain ⟨xs, hx2, rx⟩ := ob2.lst
  have hy := (W3.bw k3 h4).isInt
  subst hy
  refine ⟨p2, xs, i, j, rfl, rfl, hx2, by rw [rx.length]; exact hx, ?_⟩
  have ob3 : Ob K F3 (upd H3 p2 (.lst (xs.set j y))) p2 (.lst (ds.set j d)) := ⟨ob2.1, _, upd_same, rx.set (r.mono s3) j⟩
  exact q F3 _ σ os3 (W3.write hp2 ob3 hw) ((s1.trans s2).trans s3)⟩
end Dk
namespace Dk
open PySem PySem.Spec PyProof.Rows L2
variable {K : PySem.W.Frag}

/-! ### for -/
def forL (g : MG) (b : MS) : List D → MS
  | [], e => some (.nx, e)
  | d :: r, e => (g d e).bind fun e1 => (b e1).bind fun p => match p.1 with
    | .nx => forL g b r p.2
    | .ct => forL g b r p.2
    | .bk => some (.nx, p.2)
    | f => some (f, p.2)
def forM (mi : MI) (g : MG) (b : MS) : MS := fun e => (mi e).bind fun p => forL g b p.1 p.2
theorem sim_for {wi : TI} {g : TG} {tb : TS} {mi : MI} {js : List Nat} {mg : MG} {b : MS} (hi : SimI K wi mi) (hg : SimG K g js mg) (hb : SimS K tb b) : SimS K (tFor wi g tb) (forM mi mg b) := ⟨fun {F0 Gd ios F H σ e os fl e' G} W hm q => by
  unfold forM at hm
  obtain ⟨⟨ds, e1⟩, h1, hm⟩ := Option.bind_eq_some_iff.mp hm
  refine hi.run W h1 fun F1 H1 os1 J W1 s1 it => ?_
  refine ⟨fun i m σ' H' => ∃ F' os' c, WOk K F0 Gd ios F' H' σ' c os' ∧ Same F1 F' ∧ forL mg b (ds.drop i) c = some (fl, e') ∧ m = ds.length - i ∧ i ≤ ds.length, ⟨ds.length, F1, os1, e1, W1, Same.refl _, hm, rfl, Nat.zero_le _⟩, ?_⟩
  rintro i m σ' H' ⟨F', os', c, W', s', hf, rfl, hle⟩
  have J' := it F' H' i s' W'.fh
  by_cases hl : i < ds.length
  · have hd : ds[i]? = some ds[i] := List.getElem?_eq_getElem hl
    obtain ⟨go, yl⟩ := J'.1 _ hd
    rw [List.drop_eq_getElem_cons hl] at hf
    unfold forL at hf
    obtain ⟨e2, h2, hf⟩ := Option.bind_eq_some_iff.mp hf
    obtain ⟨⟨f3, e3⟩, h3, hf⟩ := Option.bind_eq_some_iff.mp hf
    refine .inr ⟨go, fun σ2 H2 => ∃ F2 os2 c2, WOk K F0 Gd ios F2 H2 σ2 c2 os2 ∧ Same F1 F2 ∧ forL mg b (ds.drop (i + 1)) c2 = some (fl, e'), ?_, ?_⟩
    · rintro σ2 H2 ⟨F2, os2, c2, W2, s2, hf2⟩
      exact ⟨ds.length - (i + 1), by omega, F2, os2, c2, W2, s2, hf2, rfl, hl⟩
    · intro x H2 hy
      obtain ⟨F2, x2, rp⟩ := yl x H2 hy
      refine hg.run (W'.ext x2) rp h2 fun F3 H3 σ3 os3 W3 s3 _ => ?_
      refine hb.run W3 h3 ?_
      have sAll : Same F1 F3 := (s'.trans x2.f).trans s3
      cases f3 with
      | nx => exact fun F4 H4 σ4 os4 W4 s4 => ⟨F4, os4, e3, W4, sAll.trans s4, hf⟩
      | ct => exact fun F4 H4 σ4 os4 W4 s4 => ⟨F4, os4, e3, W4, sAll.trans s4, hf⟩
      | bk => cases hf; exact fun F4 H4 σ4 os4 W4 s4 => q F4 H4 σ4 os4 W4 ((s1.trans sAll).trans s4)
      | rt d => cases hf; exact fun F4 H4 σ4 os4 x W4 s4 r => q F4 H4 σ4 os4 x W4 ((s1.trans sAll).trans s4) r
      | rn d => cases hf; exact fun F4 H4 σ4 os4 p W4 s4 o a b c => q F4 H4 σ4 os4 p W4 ((s1.trans sAll).trans s4) o a b c
  · have hn : ds.length ≤ i := Nat.le_of_not_lt hl
    rw [List.drop_of_length_le hn] at hf
    cases hf
    exact .inl ⟨J'.2 (Nat.le_antisymm hle hn), q F' H' σ' os' W' (s1.trans s')⟩⟩

/-! ### while -/
def whL (c : MT) (b : MS) : Nat → MS
  | 0, _ => none
  | n + 1, e => (c e).bind fun p => if p.1 = true then (b p.2).bind fun r => match r.1 with
    | .nx => whL c b n r.2
    | .ct => whL c b n r.2
    | .bk => some (.nx, r.2)
    | f => some (f, r.2) else some (.nx, p.2)
def fuel : Nat := 1000000000
def whM (c : MT) (b : MS) : MS := fun e => whL c b fuel e
theorem sim_while {tc : TT} {tb : TS} {c : MT} {b : MS} (hc : SimT K tc c) (hb : SimS K tb b) : SimS K (tWhile tc tb) (whM c b) := ⟨fun {F0 Gd ios F H σ e os fl e' G} W hm q => by
  unfold whM at hm
  generalize fuel = n0 at hm
  refine ⟨fun n σ' H' => ∃ F' os' a, WOk K F0 Gd ios F' H' σ' a os' ∧ Same F F' ∧ whL c b n a = some (fl, e'), ⟨n0, F, os, e, W, Same.refl _, hm⟩, ?_⟩
  rintro n σ' H' ⟨F', os', a, W', s', hf⟩
  cases n with
  | zero => cases hf
  | succ n =>
    unfold whL at hf
    obtain ⟨⟨t, e1⟩, h1, hf⟩ := Option.bind_eq_some_iff.mp hf
    refine hc.run W' h1 fun F1 H1 os1 W1 s1 => ?_
    cases t with
    | false => cases hf; exact iteF (q F1 H1 σ' os1 W1 (s'.trans s1))
    | true =>
      rw [if_pos rfl] at hf
      obtain ⟨⟨f3, e3⟩, h3, hf⟩ := Option.bind_eq_some_iff.mp hf
      refine iteT ⟨fun σ2 H2 => ∃ F2 os2 c2, WOk K F0 Gd ios F2 H2 σ2 c2 os2 ∧ Same F F2 ∧ whL c b n c2 = some (fl, e'), ?_, ?_⟩
      · rintro σ2 H2 ⟨F2, os2, c2, W2, s2, hf2⟩
        exact ⟨n, Nat.lt_succ_self n, F2, os2, c2, W2, s2, hf2⟩
      · refine hb.run W1 h3 ?_
        have sAll : Same F F1 := s'.trans s1
        cases f3 with
        | nx => exact fun F4 H4 σ4 os4 W4 s4 => ⟨F4, os4, e3, W4, sAll.trans s4, hf⟩
        | ct => exact fun F4 H4 σ4 os4 W4 s4 => ⟨F4, os4, e3, W4, sAll.trans s4, hf⟩
        | bk => cases hf; exact fun F4 H4 σ4 os4 W4 s4 => q F4 H4 σ4 os4 W4 (sAll.trans s4)
        | rt d => cases hf; exact fun F4 H4 σ4 os4 x W4 s4 r => q F4 H4 σ4 os4 x W4 (sAll.trans s4) r
        | rn d => cases hf; exact fun F4 H4 σ4 os4 p W4 s4 o a b c => q F4 H4 σ4 os4 p W4 (sAll.trans s4) o a b c⟩

/-! ### what is walked -/
/-- a list, a tuple: frozen while it is walked -/
def itL (m : ME) : MI := fun e => (m e).bind fun p => (tk p.2 p.1).bind fun q => (asL q.1).map fun ds => (ds, q.2)
def itT (m : ME) : MI := fun e => (m e).bind fun p => (tk p.2 p.1).bind fun q => (asT q.1).map fun ds => (ds, q.2)
theorem it_list {F : Hp} {a : Addr} {xs : List V} {ds : List D} (h : SqL K F a xs) (r : RpL K F xs ds) : ItOk K F (Itl K a) ds := fun F' H i s1 s2 =>
  ⟨fun d hd => by
    obtain ⟨y, hy, ry⟩ := r.get hd
    have hs := s2.seq (s1.seq h)
    refine ⟨⟨xs, y, hs, hy⟩, fun x H' hq => ?_⟩
    obtain ⟨rfl, hx⟩ := hq
    have := hx xs hs
    rw [hy] at this; cases this
    exact ⟨F', Ext.refl s2, ry.mono s1⟩, fun hn => ⟨xs, s2.seq (s1.seq h), by rw [r.length]; exact Nat.le_of_eq hn.symm⟩⟩
theorem it_tup {F : Hp} {a : Addr} {xs : List V} {ds : List D} (h : SqT K F a xs) (r : RpL K F xs ds) : ItOk K F (Itt K a) ds := fun F' H i s1 s2 =>
  ⟨fun d hd => by
    obtain ⟨y, hy, ry⟩ := r.get hd
    have hs := seqT s2 (seqT s1 h)
    refine ⟨⟨xs, y, hs, hy⟩, fun x H' hq => ?_⟩
    obtain ⟨rfl, hx⟩ := hq
    have := hx xs hs
    rw [hy] at this; cases this
    exact ⟨F', Ext.refl s2, ry.mono s1⟩, fun hn => ⟨xs, seqT s2 (seqT s1 h), by rw [r.length]; exact Nat.le_of_eq hn.symm⟩⟩
theorem sim_itL {t : TE} {m : ME} (h : SimE K t m) : SimI K (iList K t) (itL m) := ⟨fun {F0 Gd ios F H σ e os ds e' R} W hm q => by
  unfold itL at hm
  obtain ⟨⟨l, e1⟩, h1, hm⟩ := Option.bind_eq_some_iff.mp hm
  obtain ⟨⟨d, e2⟩, h2, hm⟩ := Option.bind_eq_some_iff.mp hm
  obtain ⟨ds2, h3, hm⟩ := Option.map_eq_some_iff.mp hm
  cases hm
  cases asL_iff h3
  refine h.run W h1 fun F1 H1 os1 x W1 s1 k1 => ?_
  obtain ⟨F2, os2, W2, s2, r⟩ := W1.take k1 h2
  cases r with
  | lst hs r => exact ⟨_, rfl, ⟨_, .inl (.inl (W2.fh _ _ hs))⟩, q F2 H1 os2 _ W2 (s1.trans s2) (it_list (.inl (.inl hs)) r)⟩⟩
theorem sim_itT {t : TE} {m : ME} (h : SimE K t m) : SimI K (iTup K t) (itT m) := ⟨fun {F0 Gd ios F H σ e os ds e' R} W hm q => by
  unfold itT at hm
  obtain ⟨⟨l, e1⟩, h1, hm⟩ := Option.bind_eq_some_iff.mp hm
  obtain ⟨⟨d, e2⟩, h2, hm⟩ := Option.bind_eq_some_iff.mp hm
  obtain ⟨ds2, h3, hm⟩ := Option.map_eq_some_iff.mp hm
  cases hm
  cases asT_iff h3
  refine h.run W h1 fun F1 H1 os1 x W1 s1 k1 => ?_
  obtain ⟨F2, os2, W2, s2, r⟩ := W1.take k1 h2
  cases r with
  | tup hs r => exact ⟨_, rfl, ⟨_, seqT W2.fh hs⟩, q F2 H1 os2 _ W2 (s1.trans s2) (it_tup hs r)⟩⟩
/-- the signs of a text -/
def signs (x : Str) : List D := x.cps.toList.map fun c => D.str ⟨#[c]⟩
def itS (m : ME) : MI := fun e => (m e).bind fun p => (rd p.2 p.1).bind fun d => (asS d).map fun x => (signs x, p.2)
theorem it_str {F : Hp} (x : Str) : ItOk K F (Its x) (signs x) := fun F' H i s1 s2 =>
  ⟨fun d hd => by
    unfold signs at hd
    rw [List.getElem?_map] at hd
    obtain ⟨c, hc, rfl⟩ := Option.map_eq_some_iff.mp hd
    have hl : i < x.cps.size := by simpa using (List.getElem?_eq_some_iff.mp hc).1
    refine ⟨hl, fun v H' hq => ?_⟩
    obtain ⟨rfl, c2, h2, rfl⟩ := hq
    rw [← Array.getElem?_toList, hc] at h2
    cases h2
    exact ⟨F', Ext.refl s2, .str _⟩, fun hn => by
    unfold signs at hn
    rw [List.length_map, Array.length_toList] at hn
    exact Nat.le_of_eq hn.symm⟩
theorem sim_itS {t : TE} {m : ME} (h : SimE K t m) : SimI K (iStr t) (itS m) := ⟨fun {F0 Gd ios F H σ e os ds e' R} W hm q => by
  unfold itS at hm
  obtain ⟨⟨l, e1⟩, h1, hm⟩ := Option.bind_eq_some_iff.mp hm
  obtain ⟨d, h2, hm⟩ := Option.bind_eq_some_iff.mp hm
  obtain ⟨x, h3, hm⟩ := Option.map_eq_some_iff.mp hm
  cases hm
  cases asS_iff h3
  exact h.run W h1 fun F1 H1 os1 y W1 s1 k1 => ⟨x, (W1.bw k1 h2).isStr, q F1 H1 os1 _ W1 s1 (it_str x)⟩⟩
def rangeD (lo : Int) (n : Nat) : List D := (List.range n).map fun (i : Nat) => D.int (lo + i)
theorem it_range {F : Hp} (lo : Int) (n : Nat) : ItOk K F (Itr lo n) (rangeD lo n) := fun F' H i s1 s2 =>
  ⟨fun d hd => by
    unfold rangeD at hd
    rw [List.getElem?_map] at hd
    obtain ⟨c, hc, rfl⟩ := Option.map_eq_some_iff.mp hd
    obtain ⟨h1, h2⟩ := List.getElem?_eq_some_iff.mp hc
    rw [List.getElem_range] at h2
    rw [List.length_range] at h1
    subst h2
    refine ⟨h1, fun v H' hq => ?_⟩
    obtain ⟨rfl, rfl⟩ := hq
    exact ⟨F', Ext.refl s2, .int _⟩, fun hn => by
    unfold rangeD at hn
    rw [List.length_map, List.length_range] at hn
    exact Nat.le_of_eq hn.symm⟩
def rgOk (i : Int) : Bool := decide (-(2 ^ 62) ≤ i) && decide (i < 2 ^ 62)
def itR1 (m : MA) : MI := fun e => (m e).bind fun p => (rds p.2 p.1).bind fun ds => match ds with
  | [a] => (asI a).bind fun n => (okB (rgOk n)).map fun _ => (rangeD 0 n.toNat, p.2)
  | _ => none
def itR2 (m : MA) : MI := fun e => (m e).bind fun p => (rds p.2 p.1).bind fun ds => match ds with
  | [a, b] => (asI a).bind fun i => (asI b).bind fun j => (okB (rgOk i && rgOk j)).map fun _ => (rangeD i (j - i).toNat, p.2)
  | _ => none
theorem sim_itR1 {t : TA} {m : MA} (h : SimA K t m) : SimI K (iRng1 t) (itR1 m) := ⟨fun {F0 Gd ios F H σ e os ds e' R} W hm q => by
  unfold itR1 at hm
  obtain ⟨⟨ls, e1⟩, h1, hm⟩ := Option.bind_eq_some_iff.mp hm
  obtain ⟨ds1, h2, hm⟩ := Option.bind_eq_some_iff.mp hm
  refine h.run W h1 fun F1 H1 os1 xs W1 s1 k1 => ?_
  have b := W1.bwL k1 h2
  simp only at hm
  split at hm
  · cases b with
    | cons b1 b =>
      cases b
      obtain ⟨n, h3, hm⟩ := Option.bind_eq_some_iff.mp hm
      obtain ⟨u, h4, hm⟩ := Option.map_eq_some_iff.mp hm
      cases hm
      cases asI_iff h3
      cases b1.isInt
      have z := Bool.and_eq_true_iff.mp (okB_iff h4)
      exact ⟨n, rfl, of_decide_eq_true z.1, of_decide_eq_true z.2, q F1 H1 os1 _ W1 s1 (it_range 0 _)⟩
  · cases hm⟩
theorem sim_itR2 {t : TA} {m : MA} (h : SimA K t m) : SimI K (iRng2 t) (itR2 m) := ⟨fun {F0 Gd ios F H σ e os ds e' R} W hm q => by
  unfold itR2 at hm
  obtain ⟨⟨ls, e1⟩, h1, hm⟩ := Option.bind_eq_some_iff.mp hm
  obtain ⟨ds1, h2, hm⟩ := Option.bind_eq_some_iff.mp hm
  refine h.run W h1 fun F1 H1 os1 xs W1 s1 k1 => ?_
  have b := W1.bwL k1 h2
  simp only at hm
  split at hm
  · cases b with
    | cons b1 b =>
      cases b with
      | cons b2 b =>
        cases b
        obtain ⟨n, h3, hm⟩ := Option.bind_eq_some_iff.mp hm
        obtain ⟨n2, h5, hm⟩ := Option.bind_eq_some_iff.mp hm
        obtain ⟨u, h4, hm⟩ := Option.map_eq_some_iff.mp hm
        cases hm
        cases asI_iff h3
        cases asI_iff h5
        cases b1.isInt
        cases b2.isInt
        have z := Bool.and_eq_true_iff.mp (okB_iff h4)
        have z1 := Bool.and_eq_true_iff.mp z.1
        have z2 := Bool.and_eq_true_iff.mp z.2
        exact ⟨n, n2, rfl, ⟨of_decide_eq_true z1.1, of_decide_eq_true z1.2, of_decide_eq_true z2.1, of_decide_eq_true z2.2⟩, q F1 H1 os1 _ W1 s1 (it_range _ _)⟩
  · cases hm⟩
end Dk
namespace Dk
open PySem PySem.Spec PyProof.Rows L2
variable {K : PySem.W.Frag}

/-! ### a comprehension's own slots -/
def putNo (i : Nat) (e : Env) : Option Env := match e[i]? with
  | some (.io _) => none
  | some _ => some (e.set i .no)
  | none => none
def wipeE (e : Env) : List Nat → Option Env
  | [] => some e
  | v :: vs => (wipeE e vs).bind fun c => putNo v c
section
variable {F0 Gd F H : Hp} {ios os : List (Option Addr)} {σ : L2.St} {e : Env}
theorem WOk.putNo {i : Nat} {e' : Env} (W : WOk K F0 Gd ios F H σ e os) (h : putNo i e = some e') : WOk K F0 Gd ios F H (σ.set i none) e' (os.set i none) := by
  unfold Dk.putNo at h
  split at h
  · cases h
  · rename_i s hs hn
    cases h
    exact W.put (List.getElem?_eq_some_iff.mp hn).1 (W.noIo hn fun d z => hs d z) rfl fun p q => nomatch q
  · cases h
theorem WOk.wipe : ∀ {vs : List Nat} {e' : Env}, WOk K F0 Gd ios F H σ e os → wipeE e vs = some e' → ∃ os', WOk K F0 Gd ios F H (L2.wipe σ vs) e' os'
  | [], e', W, h => by cases h; exact ⟨os, W⟩
  | v :: vs, e', W, h => by
    obtain ⟨c, h1, h2⟩ := Option.bind_eq_some_iff.mp h
    obtain ⟨os1, W1⟩ := WOk.wipe W h1
    exact ⟨_, W1.putNo h2⟩
theorem putNo_get {i j : Nat} {e e' : Env} (h : Dk.putNo i e = some e') : e'[j]? = if i = j then some .no else e[j]? := by
  unfold Dk.putNo at h
  split at h
  · cases h
  · rename_i s hs hn
    cases h
    by_cases z : i = j
    · subst z; rw [if_pos rfl, List.getElem?_set_self (List.getElem?_eq_some_iff.mp hn).1]
    · rw [if_neg z, List.getElem?_set_ne z]
  · cases h
theorem wipeE_no : ∀ {vs : List Nat} {e e' : Env}, wipeE e vs = some e' → ∀ v ∈ vs, e'[v]? = some .no
  | v :: vs, e, e', h, u, hu => by
    obtain ⟨c, h1, h2⟩ := Option.bind_eq_some_iff.mp h
    rw [putNo_get h2]
    by_cases z : v = u
    · rw [if_pos z]
    · rw [if_neg z]
      rcases List.mem_cons.mp hu with q | q
      · exact absurd q.symm z
      · exact wipeE_no h1 u q
theorem wipe_get (σ : L2.St) (j : Nat) : ∀ vs : List Nat, j ∉ vs → (L2.wipe σ vs)[j]? = σ[j]?
  | [], _ => rfl
  | v :: vs, h => by
    show ((L2.wipe σ vs).set v none)[j]? = σ[j]?
    rw [List.getElem?_set_ne (fun z => h (by rw [z]; exact List.mem_cons_self)), wipe_get σ j vs fun z => h (List.mem_cons_of_mem _ z)]
theorem wipe_in (σ : L2.St) (j : Nat) (hj : j < σ.length) : ∀ vs : List Nat, j ∈ vs → (L2.wipe σ vs)[j]? = some none
  | v :: vs, h => by
    show ((L2.wipe σ vs).set v none)[j]? = some none
    by_cases z : v = j
    · subst z; rw [List.getElem?_set_self (by rw [wipe_length]; exact hj)]
    · rw [List.getElem?_set_ne z]
      rcases List.mem_cons.mp h with q | q
      · exact absurd q.symm z
      · exact wipe_in σ j hj vs q
theorem wipe_but {σ σ' : L2.St} {js vs : List Nat} (b : But js (L2.wipe σ vs) σ') (hj : ∀ j ∈ js, j ∈ vs) : L2.wipe σ' vs = L2.wipe σ vs := by
  refine List.ext_getElem? fun i => ?_
  have hl : σ'.length = σ.length := by rw [b.1, wipe_length]
  by_cases h : i ∈ vs
  · by_cases hi : i < σ.length
    · rw [wipe_in σ' i (by rw [hl]; exact hi) vs h, wipe_in σ i hi vs h]
    · rw [List.getElem?_eq_none (by rw [wipe_length, hl]; exact Nat.le_of_not_lt hi), List.getElem?_eq_none (by rw [wipe_length]; exact Nat.le_of_not_lt hi)]
  · rw [wipe_get σ' i vs h, b.2 i fun z => h (hj i z)]
/-- the slots of a block are forgotten behind it -/
theorem WOk.unwipe {vs : List Nat} (W : WOk K F0 Gd ios F H (L2.wipe σ vs) e os) (h : ∀ v ∈ vs, e[v]? = some .no) : WOk K F0 Gd ios F H σ e os where
  fh := W.fh
  f0 := W.f0
  gd := W.gd
  le := by rw [← W.le, wipe_length]
  lo := W.lo
  sl := fun i s hs => by
    by_cases z : i ∈ vs
    · rw [h i z] at hs
      cases hs
      exact W.sl i .no (h i z)
    · have := W.sl i s hs
      rw [wipe_get σ i vs z] at this
      exact this
  ds := W.ds
  io := W.io
/-- a guarded object is written by its guard -/
theorem WOk.guard {p : Addr} {o o' : HO} (W : WOk K F0 (upd Gd p o) ios F H σ e os) : WOk K F0 (upd Gd p o') ios F (upd H p o') σ e os := by
  obtain ⟨hp, hf, hn⟩ := W.gd p o upd_same
  have fh : Same F (upd H p o') := fun b u h => by rw [upd_ne (ne_of_none h hf)]; exact W.fh b u h
  have kOb : ∀ b c (j : Nat), os[j]?.join = some b → Ob K F H b c → Ob K F (upd H p o') b c := fun b c j hj ob =>
    ob.keep (Same.refl _) (upd_ne fun z => by subst z; exact hn j (join_some hj)) ob.1
  refine ⟨fh, W.f0, fun a u h => ?_, W.le, W.lo, fun j t h => ?_, W.ds, W.io⟩
  · by_cases z : a = p
    · subst z
      rw [upd_same] at h; cases h
      exact ⟨upd_same, hf, hn⟩
    · rw [upd_ne z] at h
      obtain ⟨h1, h2, h3⟩ := W.gd a u (by rw [upd_ne z]; exact h)
      exact ⟨by rw [upd_ne z]; exact h1, h2, h3⟩
  · have y := W.sl j t h
    cases t with
    | no => exact y
    | fz c => exact y
    | ow c => obtain ⟨b, a1, b1, ob⟩ := y; exact ⟨b, a1, b1, kOb b c j a1 ob⟩
    | io c => obtain ⟨b, a1, b1, ob⟩ := y; exact ⟨b, a1, b1, kOb b c j a1 ob⟩
/-- a new object is put under guard -/
theorem WOk.guardNew {p : Addr} {o : HO} (W : WOk K F0 Gd ios F H σ e os) (n : H p = none) : WOk K F0 (upd Gd p o) ios F (upd H p o) σ e os := by
  have W1 : WOk K F0 Gd ios F (upd H p o) σ e os := W.ext ⟨Same.refl _, Same.new n, W.fh.trans (Same.new n), fun _ _ _ h => h⟩
  refine { W1 with gd := fun a u h => ?_ }
  by_cases z : a = p
  · subst z
    rw [upd_same] at h; cases h
    exact ⟨upd_same, W.fh.free n, W.notOwn n⟩
  · rw [upd_ne z] at h
    exact W1.gd a u h
theorem WOk.unguard {p : Addr} {o : HO} (W : WOk K F0 (upd Gd p o) ios F H σ e os) (g : Gd p = none) : WOk K F0 Gd ios F H σ e os :=
  { W with gd := fun a u h => W.gd a u (by rw [upd_ne (ne_of_none h g)]; exact h) }
end

/-! ### [e for x in xs if t] -/
def cpL (g : MG) (t : MT) (m : ME) (vs : List Nat) : List D → Env → List D → Option (List D × Env)
  | [], e, acc => some (acc, e)
  | d :: r, e, acc => (g d e).bind fun e1 => (t e1).bind fun p => if p.1 = true then (m p.2).bind fun q => (tk q.2 q.1).bind fun z => (okB (few acc.length)).bind fun _ => (wipeE z.2 vs).bind fun c => cpL g t m vs r c (acc ++ [z.1])
    else (wipeE p.2 vs).bind fun c => cpL g t m vs r c acc
def cpM (mi : MI) (g : MG) (t : MT) (m : ME) (vs : List Nat) : MN := fun e => (mi e).bind fun p => (wipeE p.2 vs).bind fun c => (cpL g t m vs p.1 c []).map fun r => (.lst r.1, r.2)
def yesM : MT := fun e => some (true, e)
theorem sim_yes : SimT K tYes yesM := ⟨fun {F0 Gd ios F H σ e os b e' Q} W hm q => by cases hm; exact q F H os W (Same.refl _)⟩
theorem sim_lc {wi : TI} {g : TG} {tt : TT} {te : TE} {vs js : List Nat} {mi : MI} {mg : MG} {mt : MT} {m : ME} (hi : SimI K wi mi) (hg : SimG K g js mg) (ht : SimT K tt mt) (he : SimE K te m) (hj : ∀ j ∈ js, j ∈ vs) :
    SimN K (tLc wi g tt te vs) (cpM mi mg mt m vs) := ⟨fun {F0 Gd ios F H σ e os dres e' Q} W hm q => by
  unfold cpM at hm
  obtain ⟨⟨ds, e1⟩, h1, hm⟩ := Option.bind_eq_some_iff.mp hm
  obtain ⟨c0, h2, hm⟩ := Option.bind_eq_some_iff.mp hm
  obtain ⟨⟨res, ef⟩, h3, hm⟩ := Option.map_eq_some_iff.mp hm
  cases hm
  refine hi.run W h1 fun F1 H1 os1 J W1 s1 it => ?_
  intro P nP
  obtain ⟨os2, W2⟩ := W1.wipe h2
  have gP : Gd P = none := W1.noGd nP
  refine ⟨fun i n Hc => ∃ F' os' c av ad, WOk K F0 (upd Gd P (.lst av)) ios F' Hc (L2.wipe σ vs) c os' ∧ Same F1 F' ∧ RpL K F' av ad ∧ (∀ v ∈ vs, c[v]? = some .no) ∧ cpL mg mt m vs (ds.drop i) c ad = some (res, ef) ∧ n = ds.length - i ∧ i ≤ ds.length,
    ⟨ds.length, F1, os2, c0, [], [], W2.guardNew nP, Same.refl _, .nil, wipeE_no h2, h3, rfl, Nat.zero_le _⟩, ?_⟩
  rintro i n Hc ⟨F', os', c, av, ad, W', s', ra, hno, hf, rfl, hle⟩
  have J' := it F' Hc i s' W'.fh
  by_cases hl : i < ds.length
  · have hd : ds[i]? = some ds[i] := List.getElem?_eq_getElem hl
    obtain ⟨go, yl⟩ := J'.1 _ hd
    rw [List.drop_eq_getElem_cons hl] at hf
    unfold cpL at hf
    obtain ⟨e2, k2, hf⟩ := Option.bind_eq_some_iff.mp hf
    obtain ⟨⟨b3, e3⟩, k3, hf⟩ := Option.bind_eq_some_iff.mp hf
    refine .inr ⟨go, fun H2 => ∃ F2 os2 c2 av ad, WOk K F0 (upd Gd P (.lst av)) ios F2 H2 (L2.wipe σ vs) c2 os2 ∧ Same F1 F2 ∧ RpL K F2 av ad ∧ (∀ v ∈ vs, c2[v]? = some .no) ∧ cpL mg mt m vs (ds.drop (i + 1)) c2 ad = some (res, ef), ?_, ?_⟩
    · rintro H2 ⟨F2, os2, c2, av2, ad2, W2, s2, r2, n2, f2⟩
      exact ⟨ds.length - (i + 1), by omega, F2, os2, c2, av2, ad2, W2, s2, r2, n2, f2, rfl, hl⟩
    · intro x H2 hy
      obtain ⟨F2, x2, rp⟩ := yl x H2 hy
      refine hg.run (W'.ext x2) rp k2 fun F3 H3 σ3 os3 W3 s3 b3' => ?_
      have wb : L2.wipe σ3 vs = L2.wipe σ vs := wipe_but b3' hj
      refine ⟨wb, ht.run W3 k3 fun F4 H4 os4 W4 s4 => ?_⟩
      have sAll : Same F' F4 := (x2.f.trans s3).trans s4
      cases b3 with
      | false =>
        refine iteF ?_
        rw [if_neg Bool.false_ne_true] at hf
        obtain ⟨c5, k5, hf⟩ := Option.bind_eq_some_iff.mp hf
        obtain ⟨os5, W5⟩ := W4.wipe k5
        rw [wb] at W5
        exact ⟨F4, os5, c5, av, ad, W5, s'.trans sAll, ra.mono sAll, wipeE_no k5, hf⟩
      | true =>
        refine iteT ?_
        rw [if_pos rfl] at hf
        obtain ⟨⟨l5, e5⟩, k5, hf⟩ := Option.bind_eq_some_iff.mp hf
        obtain ⟨⟨d6, e6⟩, k6, hf⟩ := Option.bind_eq_some_iff.mp hf
        obtain ⟨u7, k7, hf⟩ := Option.bind_eq_some_iff.mp hf
        obtain ⟨c8, k8, hf⟩ := Option.bind_eq_some_iff.mp hf
        refine he.run W4 k5 fun F5 H5 os5 y W5 s5 l5' => ?_
        obtain ⟨F6, os6, W6, s6, r6⟩ := W5.take l5' k6
        have sA2 : Same F' F6 := (sAll.trans s5).trans s6
        refine ⟨av, (W6.gd P _ upd_same).1, by rw [ra.length]; exact few_lt (okB_iff k7), ?_⟩
        obtain ⟨os8, W8⟩ := (W6.guard (o' := .lst (av ++ [y]))).wipe k8
        rw [wb] at W8
        exact ⟨F6, os8, c8, _, _, W8, s'.trans sA2, (ra.mono sA2).app (.one r6), wipeE_no k8, hf⟩
  · have hn : ds.length ≤ i := Nat.le_of_not_lt hl
    rw [List.drop_of_length_le hn] at hf
    cases hf
    obtain ⟨g1, g2, g3⟩ := W'.gd P _ upd_same
    refine .inl ⟨J'.2 (Nat.le_antisymm hle hn), q F' Hc os' P ((W'.unguard gP).unwipe hno) (s1.trans s') ⟨⟨g2, av, g1, ra⟩, gP, g3⟩⟩⟩

/-! ### [e for x in xs if t for y in ys if u] -/
theorem wipe_wipe {σ : L2.St} {vs vs1 : List Nat} (hv : ∀ i ∈ vs1, i ∈ vs) : L2.wipe (L2.wipe σ vs1) vs = L2.wipe σ vs :=
  wipe_but (js := vs) ⟨by rw [wipe_length, wipe_length], fun i hi => by rw [wipe_get σ i vs1 (fun z => hi (hv i z)), wipe_get σ i vs hi]⟩ fun _ h => h
def c2L (g : MG) (t : MT) (mi1 : MI) (g1 : MG) (t1 : MT) (m : ME) (vs vs1 : List Nat) : List D → Env → List D → Option (List D × Env)
  | [], e, acc => some (acc, e)
  | d :: r, e, acc => (g d e).bind fun e1 => (t e1).bind fun p => if p.1 = true then (mi1 p.2).bind fun q => (wipeE q.2 vs1).bind fun c1 => (cpL g1 t1 m vs1 q.1 c1 acc).bind fun z => (wipeE z.2 vs).bind fun c => c2L g t mi1 g1 t1 m vs vs1 r c z.1
    else (wipeE p.2 vs).bind fun c => c2L g t mi1 g1 t1 m vs vs1 r c acc
def c2M (mi : MI) (g : MG) (t : MT) (mi1 : MI) (g1 : MG) (t1 : MT) (m : ME) (vs vs1 : List Nat) : MN := fun e => (mi e).bind fun p => (wipeE p.2 vs).bind fun c => (c2L g t mi1 g1 t1 m vs vs1 p.1 c []).map fun r => (.lst r.1, r.2)
theorem sim_lc2 {wi wi1 : TI} {g g1 : TG} {tt tt1 : TT} {te : TE} {vs vs1 js js1 : List Nat} {mi mi1 : MI} {mg mg1 : MG} {mt mt1 : MT} {m : ME} (hi : SimI K wi mi) (hg : SimG K g js mg) (ht : SimT K tt mt) (hi1 : SimI K wi1 mi1) (hg1 : SimG K g1 js1 mg1) (ht1 : SimT K tt1 mt1) (he : SimE K te m)
    (hj : ∀ j ∈ js, j ∈ vs) (hj1 : ∀ j ∈ js1, j ∈ vs1) (hv : ∀ j ∈ vs1, j ∈ vs) : SimN K (tLc2 wi g tt wi1 g1 tt1 te vs vs1) (c2M mi mg mt mi1 mg1 mt1 m vs vs1) := ⟨fun {F0 Gd ios F H σ e os dres e' Q} W hm q => by
  unfold c2M at hm
  obtain ⟨⟨ds, e1⟩, h1, hm⟩ := Option.bind_eq_some_iff.mp hm
  obtain ⟨c0, h2, hm⟩ := Option.bind_eq_some_iff.mp hm
  obtain ⟨⟨res, ef⟩, h3, hm⟩ := Option.map_eq_some_iff.mp hm
  cases hm
  refine hi.run W h1 fun F1 H1 os1 J W1 s1 it => ?_
  intro P nP
  obtain ⟨os2, W2⟩ := W1.wipe h2
  have gP : Gd P = none := W1.noGd nP
  refine ⟨fun i n Hc => ∃ F' os' c av ad, WOk K F0 (upd Gd P (.lst av)) ios F' Hc (L2.wipe σ vs) c os' ∧ Same F1 F' ∧ RpL K F' av ad ∧ (∀ v ∈ vs, c[v]? = some .no) ∧ c2L mg mt mi1 mg1 mt1 m vs vs1 (ds.drop i) c ad = some (res, ef) ∧ n = ds.length - i ∧ i ≤ ds.length,
    ⟨ds.length, F1, os2, c0, [], [], W2.guardNew nP, Same.refl _, .nil, wipeE_no h2, h3, rfl, Nat.zero_le _⟩, ?_⟩
  rintro i n Hc ⟨F', os', c, av, ad, W', s', ra, hno, hf, rfl, hle⟩
  have J' := it F' Hc i s' W'.fh
  by_cases hl : i < ds.length
  · have hd : ds[i]? = some ds[i] := List.getElem?_eq_getElem hl
    obtain ⟨go, yl⟩ := J'.1 _ hd
    rw [List.drop_eq_getElem_cons hl] at hf
    unfold c2L at hf
    obtain ⟨e2, k2, hf⟩ := Option.bind_eq_some_iff.mp hf
    obtain ⟨⟨b3, e3⟩, k3, hf⟩ := Option.bind_eq_some_iff.mp hf
    refine .inr ⟨go, fun H2 => ∃ F2 os2 c2 av ad, WOk K F0 (upd Gd P (.lst av)) ios F2 H2 (L2.wipe σ vs) c2 os2 ∧ Same F1 F2 ∧ RpL K F2 av ad ∧ (∀ v ∈ vs, c2[v]? = some .no) ∧ c2L mg mt mi1 mg1 mt1 m vs vs1 (ds.drop (i + 1)) c2 ad = some (res, ef), ?_, ?_⟩
    · rintro H2 ⟨F2, os2, c2, av2, ad2, W2, s2, r2, n2, f2⟩
      exact ⟨ds.length - (i + 1), by omega, F2, os2, c2, av2, ad2, W2, s2, r2, n2, f2, rfl, hl⟩
    · intro x H2 hy
      obtain ⟨F2, x2, rp⟩ := yl x H2 hy
      refine hg.run (W'.ext x2) rp k2 fun F3 H3 σ3 os3 W3 s3 b3' => ?_
      have wb : L2.wipe σ3 vs = L2.wipe σ vs := wipe_but b3' hj
      refine ⟨wb, ht.run W3 k3 fun F4 H4 os4 W4 s4 => ?_⟩
      have sAll : Same F' F4 := (x2.f.trans s3).trans s4
      cases b3 with
      | false =>
        refine iteF ?_
        rw [if_neg Bool.false_ne_true] at hf
        obtain ⟨c5, k5, hf⟩ := Option.bind_eq_some_iff.mp hf
        obtain ⟨os5, W5⟩ := W4.wipe k5
        rw [wb] at W5
        exact ⟨F4, os5, c5, av, ad, W5, s'.trans sAll, ra.mono sAll, wipeE_no k5, hf⟩
      | true =>
        refine iteT ?_
        rw [if_pos rfl] at hf
        obtain ⟨⟨ds1, e5⟩, k5, hf⟩ := Option.bind_eq_some_iff.mp hf
        obtain ⟨c6, k6, hf⟩ := Option.bind_eq_some_iff.mp hf
        obtain ⟨⟨ad7, e7⟩, k7, hf⟩ := Option.bind_eq_some_iff.mp hf
        obtain ⟨c8, k8, hf⟩ := Option.bind_eq_some_iff.mp hf
        refine hi1.run W4 k5 fun F5 H5 os5 J5 W5 s5 it5 => ?_
        obtain ⟨os6, W6⟩ := W5.wipe k6
        refine ⟨fun j n Hd => ∃ Fd osd cd avd add, WOk K F0 (upd Gd P (.lst avd)) ios Fd Hd (L2.wipe σ3 vs1) cd osd ∧ Same F5 Fd ∧ RpL K Fd avd add ∧ cpL mg1 mt1 m vs1 (ds1.drop j) cd add = some (ad7, e7) ∧ n = ds1.length - j ∧ j ≤ ds1.length,
          ⟨ds1.length, F5, os6, c6, av, ad, W6, Same.refl _, ra.mono (sAll.trans s5), k7, rfl, Nat.zero_le _⟩, ?_⟩
        rintro j n Hd ⟨Fd, osd, cd, avd, add, Wd, sd, rad, hfd, rfl, hled⟩
        have Jd := it5 Fd Hd j sd Wd.fh
        by_cases hld : j < ds1.length
        · have hdd : ds1[j]? = some ds1[j] := List.getElem?_eq_getElem hld
          obtain ⟨god, yld⟩ := Jd.1 _ hdd
          rw [List.drop_eq_getElem_cons hld] at hfd
          unfold cpL at hfd
          obtain ⟨e12, k12, hfd⟩ := Option.bind_eq_some_iff.mp hfd
          obtain ⟨⟨b13, e13⟩, k13, hfd⟩ := Option.bind_eq_some_iff.mp hfd
          refine .inr ⟨god, fun H2 => ∃ F2 os2 c2 av2 ad2, WOk K F0 (upd Gd P (.lst av2)) ios F2 H2 (L2.wipe σ3 vs1) c2 os2 ∧ Same F5 F2 ∧ RpL K F2 av2 ad2 ∧ cpL mg1 mt1 m vs1 (ds1.drop (j + 1)) c2 ad2 = some (ad7, e7), ?_, ?_⟩
          · rintro H2 ⟨F2, os2, c2, av2, ad2, W2, s2, r2, f2⟩
            exact ⟨ds1.length - (j + 1), by omega, F2, os2, c2, av2, ad2, W2, s2, r2, f2, rfl, hld⟩
          · intro x H2 hy
            obtain ⟨F2, x2, rp⟩ := yld x H2 hy
            refine hg1.run (Wd.ext x2) rp k12 fun F13 H13 σ13 os13 W13 s13 b13' => ?_
            have wb1 : L2.wipe σ13 vs1 = L2.wipe σ3 vs1 := wipe_but b13' hj1
            refine ⟨wb1, ht1.run W13 k13 fun F14 H14 os14 W14 s14 => ?_⟩
            have sA1 : Same Fd F14 := (x2.f.trans s13).trans s14
            cases b13 with
            | false =>
              refine iteF ?_
              rw [if_neg Bool.false_ne_true] at hfd
              obtain ⟨c15, k15, hfd⟩ := Option.bind_eq_some_iff.mp hfd
              obtain ⟨os15, W15⟩ := W14.wipe k15
              rw [wb1] at W15
              exact ⟨F14, os15, c15, avd, add, W15, sd.trans sA1, rad.mono sA1, hfd⟩
            | true =>
              refine iteT ?_
              rw [if_pos rfl] at hfd
              obtain ⟨⟨l15, e15⟩, k15, hfd⟩ := Option.bind_eq_some_iff.mp hfd
              obtain ⟨⟨d16, e16⟩, k16, hfd⟩ := Option.bind_eq_some_iff.mp hfd
              obtain ⟨u17, k17, hfd⟩ := Option.bind_eq_some_iff.mp hfd
              obtain ⟨c18, k18, hfd⟩ := Option.bind_eq_some_iff.mp hfd
              refine he.run W14 k15 fun F15 H15 os15 y W15 s15 l15' => ?_
              obtain ⟨F16, os16, W16, s16, r16⟩ := W15.take l15' k16
              have sA2 : Same Fd F16 := (sA1.trans s15).trans s16
              refine ⟨avd, (W16.gd P _ upd_same).1, by rw [rad.length]; exact few_lt (okB_iff k17), ?_⟩
              obtain ⟨os18, W18⟩ := (W16.guard (o' := .lst (avd ++ [y]))).wipe k18
              rw [wb1] at W18
              exact ⟨F16, os18, c18, _, _, W18, sd.trans sA2, (rad.mono sA2).app (.one r16), hfd⟩
        · have hn : ds1.length ≤ j := Nat.le_of_not_lt hld
          rw [List.drop_of_length_le hn] at hfd
          cases hfd
          obtain ⟨os8, W8⟩ := Wd.wipe k8
          rw [wipe_wipe hv, wb] at W8
          exact .inl ⟨Jd.2 (Nat.le_antisymm hled hn), Fd, os8, c8, avd, ad7, W8, (s'.trans (sAll.trans s5)).trans sd, rad, wipeE_no k8, hf⟩
  · have hn : ds.length ≤ i := Nat.le_of_not_lt hl
    rw [List.drop_of_length_le hn] at hf
    cases hf
    obtain ⟨g1, g2, g3⟩ := W'.gd P _ upd_same
    refine .inl ⟨J'.2 (Nat.le_antisymm hle hn), q F' Hc os' P ((W'.unguard gP).unwipe hno) (s1.trans s') ⟨⟨g2, av, g1, ra⟩, gP, g3⟩⟩⟩
end Dk
namespace Dk
open PySem PySem.Spec PyProof.Rows L2
variable {K : PySem.W.Frag}

/-! ### a def by its meaning -/
/-- what a caller gets of a def's end -/
def RtOk (K : PySem.W.Frag) (H F' H' : Hp) (Q : VK) : Fl → Prop
  | .nx => Q .non H'
  | .rt d => ∀ x, Rp K F' x d → Q x H'
  | .rn d => ∀ p, H p = none → Ob K F' H' p d → Q (.ref p) H'
  | _ => False
structure ArgOk (K : PySem.W.Frag) (F H : Hp) (vs : List V) (a : Env) (os : List (Option Addr)) : Prop where
  fh : Same F H
  lv : vs.length = a.length
  lo : os.length = a.length
  sl : ∀ (i : Nat) s, a[i]? = some s → (∀ d, s ≠ .ow d) ∧ SlOk K F H vs[i]? s (os[i]?.join)
  ds : ∀ (i j : Nat) p, os[i]? = some (some p) → os[j]? = some (some p) → i = j
def spD (K : PySem.W.Frag) (m : MS) (vs : List V) (H : Hp) (Q : VK) : Prop := ∃ F a os fl a', ArgOk K F H vs a os ∧ m a = some (fl, a') ∧
  ∀ F' H', Same F F' → Same F' H' → (∀ b o, H b = some o → F b = none → (∀ i : Nat, os[i]? ≠ some (some b)) → H' b = some o ∧ F' b = none) →
    (∀ (i : Nat) p, os[i]? = some (some p) → ∃ d, a'[i]? = some (.io d) ∧ Ob K F' H' p d) → RtOk K H F' H' Q fl
def fnM (n k : Nat) (body : MS) : MS := fun a => if a.length = n then body (a ++ List.replicate k .no) else none
theorem fnM_len {n k : Nat} {body : MS} {vs : List V} {H : Hp} {Q : VK} (h : spD K (fnM n k body) vs H Q) : vs.length = n := by
  obtain ⟨F, a, os, fl, a', A, hm, _⟩ := h
  unfold fnM at hm
  split at hm
  · rename_i q; rw [A.lv]; exact q
  · cases hm
open Classical in
noncomputable def gdOf (F H : Hp) (os : List (Option Addr)) : Hp := fun b => if F b = none ∧ ∀ i : Nat, os[i]? ≠ some (some b) then H b else none
theorem gdOf_iff {F H : Hp} {os : List (Option Addr)} {b : Addr} {o : HO} (h : gdOf F H os b = some o) : H b = some o ∧ F b = none ∧ ∀ i : Nat, os[i]? ≠ some (some b) := by
  unfold gdOf at h
  split at h
  · rename_i q; exact ⟨h, q.1, q.2⟩
  · cases h
theorem gdOf_of {F H : Hp} {os : List (Option Addr)} {b : Addr} (h1 : F b = none) (h2 : ∀ i : Nat, os[i]? ≠ some (some b)) : gdOf F H os b = H b := by
  unfold gdOf
  rw [if_pos ⟨h1, h2⟩]
theorem fn_sim {t : TS} {m : MS} {N : List Str} {vs : List V} {n k : Nat} {H : Hp} {Q : VK} (h : SimS K t m) (hk : N.length - vs.length = k) (hs : spD K (fnM n k m) vs H Q) : t { nx := fun _ H' => Q .non H', rt := Q } (L2.start N vs) H := by
  obtain ⟨F, a, os, fl, a', A, hm, post⟩ := hs
  have hm : m (a ++ List.replicate k .no) = some (fl, a') := by
    unfold fnM at hm
    split at hm
    · exact hm
    · cases hm
  have ga : ∀ (i : Nat), i < a.length → (a ++ List.replicate k Sl.no)[i]? = a[i]? := fun i hi => List.getElem?_append_left hi
  have go : ∀ (i : Nat) p, (os ++ List.replicate k none)[i]? = some (some p) → os[i]? = some (some p) := fun i p q => by
    by_cases hi : i < os.length
    · rw [List.getElem?_append_left hi] at q; exact q
    · rw [List.getElem?_append_right (Nat.le_of_not_lt hi), List.getElem?_replicate] at q
      split at q <;> cases q
  have W : WOk K F (gdOf F H os) os F H (L2.start N vs) (a ++ List.replicate k .no) (os ++ List.replicate k none) := by
    unfold L2.start
    rw [hk]
    refine ⟨A.fh, Same.refl _, fun b o q => ?_, ?_, ?_, fun i s q => ?_, fun i j p q1 q2 => A.ds i j p (go i p q1) (go j p q2), fun i p q => ?_⟩
    · obtain ⟨h1, h2, h3⟩ := gdOf_iff q
      exact ⟨h1, h2, fun i z => h3 i (go i b z)⟩
    · rw [List.length_append, List.length_append, List.length_map, List.length_replicate, List.length_replicate, A.lv]
    · rw [List.length_append, List.length_append, List.length_replicate, List.length_replicate, A.lo]
    · by_cases hi : i < a.length
      · rw [ga i hi] at q
        have z := (A.sl i s q).2
        rw [List.getElem?_append_left (by rw [List.length_map, A.lv]; exact hi), List.getElem?_append_left (by rw [A.lo]; exact hi), List.getElem?_map]
        have e : ((vs[i]?).map some).join = vs[i]? := by cases vs[i]? <;> rfl
        rw [e]
        exact z
      · have hi := Nat.le_of_not_lt hi
        rw [List.getElem?_append_right hi, List.getElem?_replicate] at q
        split at q
        · cases q
          rw [List.getElem?_append_right (l₁ := os) (by rw [A.lo]; exact hi), List.getElem?_replicate]
          show Option.join _ = none
          split <;> rfl
        · cases q
    · have hi : i < a.length := by rw [← A.lo]; exact (List.getElem?_eq_some_iff.mp q).1
      refine ⟨by rw [List.getElem?_append_left (by rw [A.lo]; exact hi)]; exact q, ?_⟩
      rw [ga i hi]
      have hs : a[i]? = some a[i] := List.getElem?_eq_getElem hi
      have z := A.sl i _ hs
      rw [q] at z
      rw [hs]
      cases y : a[i] with
      | no => rw [y] at z; cases z.2
      | fz d => rw [y] at z; exact nomatch z.2.1
      | ow d => exact absurd y (z.1 d)
      | io d => exact ⟨d, rfl⟩
  have go2 : ∀ {F' H' : Hp} {σ' : L2.St} {os' : List (Option Addr)}, WOk K F (gdOf F H os) os F' H' σ' a' os' → RtOk K H F' H' Q fl := fun {F' H' σ' os'} W' =>
    post F' H' W'.f0 W'.fh (fun b o h1 h2 h3 => by
      obtain ⟨q1, q2, _⟩ := W'.gd b o (by rw [gdOf_of h2 h3]; exact h1)
      exact ⟨q1, q2⟩) fun i p q => by
      obtain ⟨q1, d, q2⟩ := W'.io i p q
      refine ⟨d, q2, ?_⟩
      obtain ⟨p2, h1, h2, ob⟩ := W'.sl i _ q2
      rw [q1] at h1; cases h1
      exact ob
  refine h.run W hm ?_
  cases fl with
  | nx => exact fun F' H' σ' os' W' _ => go2 W'
  | bk => exact fun F' H' σ' os' W' _ => go2 W'
  | ct => exact fun F' H' σ' os' W' _ => go2 W'
  | rt d => exact fun F' H' σ' os' x W' _ r => go2 W' x r
  | rn d => exact fun F' H' σ' os' p W' _ ob g f i => go2 W' p (by
      cases z : H p with
      | none => rfl
      | some o => rw [gdOf_of f i, z] at g; cases g) ob

/-! ### calls -/
def tCallD (K : PySem.W.Frag) (m : MS) (t : TA) : TE := fun σ H Q => t σ H fun vs H1 => spD K m vs H1 Q
def resV : Fl → Option D
  | .rt d => some d
  | .rn d => some d
  | .nx => some .non
  | _ => none
def resN : Fl → Option D
  | .rn d => some d
  | _ => none
def callM (m : MS) (ma : MA) : ME := fun e => (ma e).bind fun p => (tks p.2 p.1).bind fun q => (m (q.1.map .fz)).bind fun r => (resV r.1).map fun d => (.v d, q.2)
def callN (m : MS) (ma : MA) : MN := fun e => (ma e).bind fun p => (tks p.2 p.1).bind fun q => (m (q.1.map .fz)).bind fun r => (resN r.1).map fun d => (d, q.2)
theorem args_pure {F H : Hp} {xs : List V} {ds : List D} (s : Same F H) (r : RpL K F xs ds) : ArgOk K F H xs (ds.map .fz) (ds.map fun _ => none) where
  fh := s
  lv := by rw [r.length, List.length_map]
  lo := by rw [List.length_map, List.length_map]
  sl := fun i t h => by
    rw [List.getElem?_map] at h
    obtain ⟨d, hd, rfl⟩ := Option.map_eq_some_iff.mp h
    refine ⟨fun _ z => (nomatch z), ?_⟩
    rw [List.getElem?_map, hd]
    obtain ⟨y, hy, ry⟩ := r.get hd
    exact ⟨rfl, y, hy, ry⟩
  ds := fun i j p h _ => by
    rw [List.getElem?_map] at h
    obtain ⟨d, _, h⟩ := Option.map_eq_some_iff.mp h
    cases h
theorem noneOs {ds : List D} (b : Addr) (i : Nat) : (ds.map fun _ => (none : Option Addr))[i]? ≠ some (some b) := fun h => by
  rw [List.getElem?_map] at h
  obtain ⟨d, _, h⟩ := Option.map_eq_some_iff.mp h
  cases h
theorem ext_of {F H F' H' : Hp} (s : Same F H) (a : Same F F') (b : Same F' H') (g : ∀ c o, H c = some o → F c = none → H' c = some o ∧ F' c = none) : Ext F H F' H' :=
  ⟨a, fun c o h => by
    cases q : F c with
    | none => exact (g c o h q).1
    | some u =>
      have := s c u q
      rw [h] at this; cases this
      exact b c _ (a c _ q), b, fun c o h n => (g c o h n).2⟩
theorem sim_callN {m : MS} {t : TA} {ma : MA} (ha : SimA K t ma) : SimN K (tCallD K m t) (callN m ma) := ⟨fun {F0 Gd ios F H σ e os l e' Q} W hm q => by
  unfold callN at hm
  obtain ⟨⟨ls, e1⟩, h1, hm⟩ := Option.bind_eq_some_iff.mp hm
  obtain ⟨⟨ds, e2⟩, h2, hm⟩ := Option.bind_eq_some_iff.mp hm
  obtain ⟨⟨fl, a'⟩, h3, hm⟩ := Option.bind_eq_some_iff.mp hm
  obtain ⟨d, h4, hm⟩ := Option.map_eq_some_iff.mp hm
  cases hm
  refine ha.run W h1 fun F1 H1 os1 xs W1 s1 k1 => ?_
  obtain ⟨F2, os2, W2, s2, r⟩ := W1.takes k1 h2
  refine ⟨F2, _, _, fl, a', args_pure W2.fh r, h3, fun F' H' sf fh g _ => ?_⟩
  have x := ext_of W2.fh sf fh fun c o h n => g c o h n (noneOs c)
  have W3 := W2.ext x
  have s3 := (s1.trans s2).trans sf
  cases fl <;> first | (cases h4; done) | skip
  cases h4
  exact fun p n ob => q F' H' os2 p W3 s3 ⟨ob, W2.noGd n, W2.notOwn n⟩⟩
theorem sim_call {m : MS} {t : TA} {ma : MA} (ha : SimA K t ma) : SimE K (tCallD K m t) (callM m ma) := ⟨fun {F0 Gd ios F H σ e os l e' Q} W hm q => by
  unfold callM at hm
  obtain ⟨⟨ls, e1⟩, h1, hm⟩ := Option.bind_eq_some_iff.mp hm
  obtain ⟨⟨ds, e2⟩, h2, hm⟩ := Option.bind_eq_some_iff.mp hm
  obtain ⟨⟨fl, a'⟩, h3, hm⟩ := Option.bind_eq_some_iff.mp hm
  obtain ⟨d, h4, hm⟩ := Option.map_eq_some_iff.mp hm
  cases hm
  refine ha.run W h1 fun F1 H1 os1 xs W1 s1 k1 => ?_
  obtain ⟨F2, os2, W2, s2, r⟩ := W1.takes k1 h2
  refine ⟨F2, _, _, fl, a', args_pure W2.fh r, h3, fun F' H' sf fh g _ => ?_⟩
  have x := ext_of W2.fh sf fh fun c o h n => g c o h n (noneOs c)
  have W3 := W2.ext x
  have s3 := (s1.trans s2).trans sf
  cases fl with
  | nx => cases h4; exact q F' H' os2 _ W3 s3 Rp.non
  | rt c => cases h4; exact fun y ry => q F' H' os2 y W3 s3 ry
  | rn c =>
    cases h4
    intro p n ob
    obtain ⟨F4, W4, s4, r4⟩ := Nw.freeze ⟨ob, W2.noGd n, W2.notOwn n⟩ W3
    exact q F4 H' os2 _ W4 (s3.trans s4) r4
  | bk => cases h4
  | ct => cases h4⟩
/-- f(c, ..): c an owned name that f changes -/
def ioOf (a : Env) : Option D := match a[(0 : Nat)]? with
  | some (.io d) => some d
  | _ => none
def callC (k : Nat) (m : MS) (ma : MA) : ME := fun e => (ownD e k).bind fun _ => (ma e).bind fun p => (tks p.2 p.1).bind fun q => (ownD q.2 k).bind fun c => (m (.io c :: q.1.map .fz)).bind fun r => (ioOf r.2).bind fun c2 => (wr q.2 k c2).bind fun e2 => (resV r.1).map fun d => (.v d, e2)
def callCN (k : Nat) (m : MS) (ma : MA) : MN := fun e => (ownD e k).bind fun _ => (ma e).bind fun p => (tks p.2 p.1).bind fun q => (ownD q.2 k).bind fun c => (m (.io c :: q.1.map .fz)).bind fun r => (ioOf r.2).bind fun c2 => (wr q.2 k c2).bind fun e2 => (resN r.1).map fun d => (d, e2)
theorem args_io {F H : Hp} {xs : List V} {ds : List D} {p : Addr} {c : D} (s : Same F H) (r : RpL K F xs ds) (ob : Ob K F H p c) : ArgOk K F H (.ref p :: xs) (.io c :: ds.map .fz) (some p :: ds.map fun _ => none) where
  fh := s
  lv := by rw [List.length_cons, List.length_cons, r.length, List.length_map]
  lo := by rw [List.length_cons, List.length_cons, List.length_map, List.length_map]
  sl := fun i t h => by
    cases i with
    | zero => cases h; exact ⟨fun _ z => (nomatch z), p, rfl, rfl, ob⟩
    | succ i => exact (args_pure s r).sl i t h
  ds := fun i j b h h2 => by
    cases i with
    | succ i => exact absurd h (noneOs b i)
    | zero => cases j with
      | zero => rfl
      | succ j => exact absurd h2 (noneOs b j)
theorem callC_core {F0 Gd F2 H1 : Hp} {ios os2 : List (Option Addr)} {σ : L2.St} {e2 e3 a' : Env} {k : Nat} {p : Addr} {c c2 : D} {xs : List V} {ds : List D} {fl : Fl} {m : MS} {Q : VK} (W2 : WOk K F0 Gd ios F2 H1 σ e2 os2)
    (r : RpL K F2 xs ds) (hp : os2[k]? = some (some p)) (ob : Ob K F2 H1 p c) (h3 : m (.io c :: ds.map .fz) = some (fl, a')) (hi : ioOf a' = some c2) (hw : wr e2 k c2 = some e3)
    (q : ∀ F' H', WOk K F0 Gd ios F' H' σ e3 os2 → Same F2 F' → RtOk K H1 F' H' Q fl) : spD K m (.ref p :: xs) H1 Q := by
  refine ⟨F2, _, _, fl, a', args_io W2.fh r ob, h3, fun F' H' sf fh g o => ?_⟩
  refine q F' H' (W2.chg hp sf fh (fun b u hb n ne => g b u hb n fun i z => ?_) ?_ hw) sf
  · cases i with
    | zero => cases z; exact ne rfl
    | succ i => exact noneOs b i z
  · obtain ⟨d, h1, h2⟩ := o 0 p rfl
    unfold ioOf at hi
    rw [h1] at hi
    cases hi
    exact h2
theorem sim_callC {k : Nat} {m : MS} {t : TA} {ma : MA} (ha : SimA K t ma) : SimE K (tCallD K m (tCons (tVar k) t)) (callC k m ma) := ⟨fun {F0 Gd ios F H σ e os l e' Q} W hm q => by
  unfold callC at hm
  obtain ⟨c0, h0, hm⟩ := Option.bind_eq_some_iff.mp hm
  obtain ⟨⟨ls, e1⟩, h1, hm⟩ := Option.bind_eq_some_iff.mp hm
  obtain ⟨⟨ds, e2⟩, h2, hm⟩ := Option.bind_eq_some_iff.mp hm
  obtain ⟨c, hc, hm⟩ := Option.bind_eq_some_iff.mp hm
  obtain ⟨⟨fl, a'⟩, h3, hm⟩ := Option.bind_eq_some_iff.mp hm
  obtain ⟨c2, hi, hm⟩ := Option.bind_eq_some_iff.mp hm
  obtain ⟨e3, hw, hm⟩ := Option.bind_eq_some_iff.mp hm
  obtain ⟨d, h4, hm⟩ := Option.map_eq_some_iff.mp hm
  cases hm
  obtain ⟨p, hp, hv, ob⟩ := W.at_ h0
  refine ⟨.ref p, hv, ha.run W h1 fun F1 H1 os1 xs W1 s1 k1 => ?_⟩
  obtain ⟨F2, os2, W2, s2, r⟩ := W1.takes k1 h2
  obtain ⟨p2, hp2, hv2, ob2⟩ := W2.at_ hc
  rw [hv] at hv2; cases hv2
  refine callC_core W2 r hp2 ob2 h3 hi hw fun F' H' W3 sf => ?_
  have s3 := (s1.trans s2).trans sf
  cases fl with
  | nx => cases h4; exact q F' H' os2 _ W3 s3 Rp.non
  | rt c => cases h4; exact fun y ry => q F' H' os2 y W3 s3 ry
  | rn c =>
    cases h4
    intro p n ob
    obtain ⟨F4, W4, s4, r4⟩ := Nw.freeze ⟨ob, W2.noGd n, W2.notOwn n⟩ W3
    exact q F4 H' os2 _ W4 (s3.trans s4) r4
  | bk => cases h4
  | ct => cases h4⟩
theorem sim_callCN {k : Nat} {m : MS} {t : TA} {ma : MA} (ha : SimA K t ma) : SimN K (tCallD K m (tCons (tVar k) t)) (callCN k m ma) := ⟨fun {F0 Gd ios F H σ e os l e' Q} W hm q => by
  unfold callCN at hm
  obtain ⟨c0, h0, hm⟩ := Option.bind_eq_some_iff.mp hm
  obtain ⟨⟨ls, e1⟩, h1, hm⟩ := Option.bind_eq_some_iff.mp hm
  obtain ⟨⟨ds, e2⟩, h2, hm⟩ := Option.bind_eq_some_iff.mp hm
  obtain ⟨c, hc, hm⟩ := Option.bind_eq_some_iff.mp hm
  obtain ⟨⟨fl, a'⟩, h3, hm⟩ := Option.bind_eq_some_iff.mp hm
  obtain ⟨c2, hi, hm⟩ := Option.bind_eq_some_iff.mp hm
  obtain ⟨e3, hw, hm⟩ := Option.bind_eq_some_iff.mp hm
  obtain ⟨d, h4, hm⟩ := Option.map_eq_some_iff.mp hm
  cases hm
  obtain ⟨p, hp, hv, ob⟩ := W.at_ h0
  refine ⟨.ref p, hv, ha.run W h1 fun F1 H1 os1 xs W1 s1 k1 => ?_⟩
  obtain ⟨F2, os2, W2, s2, r⟩ := W1.takes k1 h2
  obtain ⟨p2, hp2, hv2, ob2⟩ := W2.at_ hc
  rw [hv] at hv2; cases hv2
  refine callC_core W2 r hp2 ob2 h3 hi hw fun F' H' W3 sf => ?_
  have s3 := (s1.trans s2).trans sf
  cases fl <;> first | (cases h4; done) | skip
  cases h4
  exact fun p n ob => q F' H' os2 p W3 s3 ⟨ob, W2.noGd n, W2.notOwn n⟩⟩

/-! ### defs in the text -/
structure FnD (P : Program) (w : World) (K : PySem.W.Frag) (mg : Str → Option Value) (base : Heap) (k : Nat) (f : Addr) (fd : FuncData) (ps : List Str) (m : MS) : Prop where
  len : ∀ vs H Q, spD K m vs H Q → vs.length = ps.length
  run : ∀ (A : Around) (outer : List PySem.Env) (s : Shared) (H : Hp) (args : Args) (us : List Value) (vs : List V) (Q : VK), Room k A → A.guards = some [] → Env0 P w K mg base A outer s H → BindsTo s fd args (ps.zip us) → Vals vs us → spD K m vs H Q →
    codeAny (model P w) A (.call (.ref f) args) (CR CX0 outer P w H s Q E0) s
theorem FnD.mono {P : Program} {w : World} {mg : Str → Option Value} {base : Heap} {j k : Nat} {f : Addr} {fd : FuncData} {ps : List Str} {m : MS} (F : FnD P w K mg base j f fd ps m) (h : j ≤ k) : FnD P w K mg base k f fd ps m :=
  ⟨F.len, fun A outer s H args us vs Q hr => F.run A outer s H args us vs Q (hr.mono h)⟩
theorem fnD {P : Program} {w : World} {mg : Str → Option Value} {base : Heap} {x qual : Str} {st : Stmt} {f : Addr} {fd : FuncData} {N ps : List Str} {k a n : Nat} {m : MS} (Fu : Fun K x qual st f fd) (S : FnScope N ps (defScope st)) (ha : ps.length = a) (hn : N.length - ps.length = n)
    (hb : ∀ (cdv : Value) (A : Around) (outer : List PySem.Env) (s : Shared) (H : Hp), Room k (A.deeper (envOfC qual (defScope st) s.heap.objs.size f cdv)) → (A.deeper (envOfC qual (defScope st) s.heap.objs.size f cdv)).guards = some [] →
      PSs (cxOf CX0 P w K mg base N qual (defScope st) f cdv A outer s H E0).nox (defBody st) (rS K m)) : FnD P w K mg base (k + 1) f fd ps (fnM a n m) := by
  obtain ⟨oc, od, kV, doc, pm, an, cdv, ct, osl, rfl, lk, hcd⟩ := Fu.ex
  refine ⟨fun vs H Q h => (fnM_len h).trans ha.symm, fun A outer s H args us vs Q hr hg e0 bt rv hs => ?_⟩
  have hl : vs.length = ps.length := (fnM_len hs).trans ha.symm
  have inK : K.In s.heap := e0.mod.kin.keeps fun b o h => (e0.bs b o h).1
  have noL : s.heap.NoLimit := e0.mod.nolimit.keeps fun b o h => (e0.bs b o h).1
  have kinds : ∀ y ∈ ps.zip us, (defScope st).names.lookup y.1 = some .local ∨
      ((defScope st).names.lookup y.1 = some .cell ∧ ((cellsFrom (s.heap.objs.size + 1) (defScope st).names []).lookup y.1).isSome = true) := by
    rintro ⟨z, v⟩ hz
    rcases S.par z (List.of_mem_zip hz).1 with h | h
    · exact Or.inl h
    · exact Or.inr ⟨h, PySem.W.cellsFrom_some _ _ _ (Or.inl h)⟩
  refine codeAny_call_function hr.depth (inK _ _ lk) rfl
    S.co S.gen rfl (PySem.W.codeRec_of inK hcd) (bt _ _ _ _ ?_)
  refine wpAny_newFunctionEnv_cells S.kind kinds fun env henv s1 ic => ?_
  subst henv
  refine ⟨noL.keeps ic.toInCall.keep, codeAny_func ?_⟩
  have body := (hb cdv A outer s H (hr.deeper _) hg).nox
  have read := fn_sim (t := rS K m) (N := N) sim_rS (by rw [hl]; exact hn) hs
  have I0 := inv_start (CX := CX0) (P := P) (w := w) (mg := mg) (base := base)
    (E := E0) S hr.hd e0 hl rv ic
  refine wpAny_mono (body.run [] s1 _ H _ I0 read)
    (fun fl s' hq => ?_) fun x s' hq => hq
  cases fl with
  | brk =>
    obtain ⟨_, _, _, no⟩ := hq
    exact no.elim
  | cont =>
    obtain ⟨_, _, _, no⟩ := hq
    exact no.elim
  | next =>
    obtain ⟨σ', H', J, hQ⟩ := hq
    exact ⟨V.non, H', J.os, J.bare, J.base, J.hok, rfl, hQ⟩
  | ret u =>
    obtain ⟨v, σ', H', J, rl, hQ⟩ := hq
    exact ⟨v, H', J.os, J.bare, J.base, J.hok, rl, hQ⟩
section
variable {X : Cx} {k : Nat} {f : Addr} {fd : FuncData} {ps : List Str} {m : MS} {x : Str} {p pos : Pos} {e : Expr} {es : List Expr} {t : TA}
theorem pe_callD (F : FnD X.prog X.w X.K X.mg X.base k f fd ps m) (hr : Room k X.A) (hgd : X.A.guards = some []) (hg : Gl X x) (hm : X.mg x = some (.ref f)) (hk : PySem.W.keepIn X.K (.ref f) = true) (hb : Binds X.K fd ps []) (ha : PA X (e :: es) t)
    (hdb : (x == ("__debug__" : Str)) = false := by decide) (he : starEach (e :: es) X.env = (false, eval e X.env) :: starEach es X.env := by rfl) (hpl : (backTo pos (starEach es X.env)).any (·.1) = false := by rfl) :
    PE X (.Call (.Name x p) (e :: es) [] pos) (tCallD X.K m t) := by
  refine ⟨fun pins s σ H Q I h => ?_⟩
  refine wpAny_Call_Name_kw (ld_glob I hg hm ?_ hdb)
  refine PySem.W.callWith_K (h₀ := X.base) I.ok.mod.kin hk (thn (ha.run pos pins s σ H _ I h) ?_) he hpl
  rintro us s1 ⟨vs, H1, I1, r, q⟩
  refine ⟨I1.kIn, ?_⟩
  have el : vs.length = ps.length := F.len _ _ _ q
  have eu : (us ++ []).length = ps.length := by rw [List.append_nil, ← r.length]; exact el
  have bd := hb s1 us I1.kIn eu
  rw [List.append_nil] at bd
  refine wpAny_call (codeAny_mono (F.run X.A X.stack s1 H1 ⟨us, []⟩ us vs Q hr hgd I1.env0 bd r q) ?_)
  intro rs s' hq
  cases rs with
  | error _ => exact False.elim hq
  | ok fl => cases fl with
    | ret u => exact I1.after hq
    | next => exact False.elim hq
    | brk => exact False.elim hq
    | cont => exact False.elim hq
end

/-! ### the law's own call -/
theorem law_callD {P : Program} {w : World} {mg mb : Str → Option Value} {k : Nat} {fa a : Addr} {fd : FuncData} {x : Str} {m : MS} {s1 : Shared} {vs : List Value} {ns : List Int}
    (KX : K.In s1.heap) (hns : s1.heap.Ns mainGlobals mg) (hb : s1.heap.Ns builtinsNs mb) (hbb : ∀ x : Str, x ≠ "__name__" → mb x = bootBuiltins x) (hlim : s1.heap.NoLimit) (hg : s1.gens = #[])
    (ha : s1.heap.get? a = some { cls := .type "list", data := .seq vs.toArray }) (hi : IntsAre vs ns) (hl : ns.length ≤ sizeLine) (hr : Room k callerA)
    (F : ∀ base : Heap, K.In base → base.Ns mainGlobals mg → FnD P w K mg base k fa fd [x] m) (hbind : ∀ (s : Shared) (u : Value), BindsTo s fd ⟨[u], []⟩ [(x, u)])
    (hm : ∃ e, m [.fz (.scr ns)] = some (.rt (.bl true), e)) :
    codeAny (model P w) callerA (.call (.ref fa) ⟨[.ref a], []⟩) (fun r s' => r = .ok (.ret (.bool true)) ∧ OldK s1.heap s'.heap ∧ s'.os = s1.os ∧ AllBare s'.gens) s1 := by
  have rv : Vals (ns.map V.int) vs := vals_of_ints hi
  have lenV : vs.length = ns.length := hi.length
  obtain ⟨e9, hm⟩ := hm
  have core : ∀ H : Hp, Only H → SqL K H a (ns.map V.int) → HOk P w H s1.heap → (∀ b, H b ≠ none → b = a) →
      (H a ≠ none → K.lookup a = none) → codeAny (model P w) callerA (.call (.ref fa) ⟨[.ref a], []⟩)
        (fun r s' => r = .ok (.ret (.bool true)) ∧ OldK s1.heap s'.heap ∧ s'.os = s1.os ∧ AllBare s'.gens) s1 := by
    intro H only sq hok hA hK
    have dict0 : ∀ {b : Addr} {o : Obj} {es : Array DictEntry} {ep : Nat}, s1.heap.get? b = some o → o.data = .dict es ep → H b = none := by
      intro b o es ep h1 h2
      cases q : H b with
      | none => rfl
      | some u =>
        cases hA b (by rw [q]; simp)
        rw [ha] at h1
        cases h1
        exact nomatch (show Data.seq vs.toArray _ = Data.dict es ep from h2)
    have ns0 : ∀ {b : Addr} {mm : Str → Option Value}, s1.heap.Ns b mm → (hidT s1.heap H).Ns b mm := by
      rintro b mm ⟨o, es, ep, h1, h2, r⟩
      exact ⟨o, es, ep, hidT_get h1 (dict0 h1 h2), h2, r⟩
    have kb : K.In (hidT s1.heap H) := by
      intro b o h
      refine hidT_get (KX b o h) ?_
      cases q : H b with
      | none => rfl
      | some u =>
        cases hA b (by rw [q]; simp)
        rw [hK (by rw [q]; simp)] at h
        cases h
    have md : Mod K mg (hidT s1.heap H) := by
      obtain ⟨mc, c1, c2⟩ := hlim
      exact ⟨kb, ns0 hns, ⟨mb, ns0 hb, hbb⟩, ⟨mc, ns0 c1, c2⟩⟩
    have e0 : Env0 P w K mg (hidT s1.heap H) callerA [] s1 H :=
      ⟨rfl, md, fun b o h => of_hidT h, Nat.le_of_eq (hidT_size _ _), trivial,
        fun b h => absurd (show b ∈ ([] : List Addr) from h) (by simp), hok, .of_eq hg⟩
    have rp : RpL K H [V.ref a] [D.scr ns] := .one (.scr sq)
    have sp : spD K m [.ref a] H (fun v _ => v = .bl true) :=
      ⟨H, _, _, _, _, args_pure (Same.refl H) rp, hm, fun F' H' _ _ _ _ y ry => by cases ry; rfl⟩
    refine codeAny_mono ((F _ kb (ns0 hns)).run callerA [] s1 H ⟨[.ref a], []⟩ [.ref a] [.ref a] _ hr rfl e0
      (hbind s1 (.ref a)) (.cons rfl .nil) sp) ?_
    intro r s' h
    cases r with
    | error e => exact False.elim h
    | ok fl => cases fl with
      | next => exact False.elim h
      | brk => exact False.elim h
      | cont => exact False.elim h
      | ret u =>
        obtain ⟨v, H', os', bare, un, hok', rl, hq⟩ := h
        cases (show v = V.bl true from hq)
        cases (show u = Value.bool true from rl)
        refine ⟨rfl, OldK.of_keep ?_, os', bare⟩
        intro b o h
        cases q : H b with
        | none => exact un.keep b o h q (fun z => absurd (show b ∈ ([] : List Addr) from z) (by simp)) (by simp)
        | some u =>
          rcases only b with z | ⟨ob, xs, z⟩
          · rw [q] at z; cases z
          · have z2 := un.frzs b ob _ z
            have o1 := (hok b _ z).1
            have o2 := (hok' b _ z2).1
            rw [h] at o1; cases o1
            exact o2
  cases hk : K.lookup a with
  | some o =>
    have h := KX a o hk
    rw [ha] at h
    cases h
    refine core (fun _ => none) (fun _ => Or.inl rfl) (Or.inr ⟨_, vs.toArray, _, hk, rfl, rfl, rfl, ?_, ?_⟩) ?_ ?_ ?_
    · rw [List.size_toArray, lenV]; exact hl
    · simpa using rv
    · intro b u z; exact nomatch (show (none : Option HO) = some u from z)
    · intro b z; exact absurd rfl z
    · intro z; exact absurd rfl z
  | none =>
    let fz : HO := .frz { cls := .type "list", data := .seq vs.toArray } (.lst (ns.map V.int))
    have at1 : (fun b => if b = a then some fz else none : Hp) a = some fz := if_pos rfl
    refine core (fun b => if b = a then some fz else none) (fun b => ?_) (Or.inl (Or.inr ⟨_, at1⟩)) (fun b u z => ?_) (fun b z => ?_) fun _ => hk
    · by_cases h : b = a
      · exact Or.inr ⟨_, _, if_pos h⟩
      · exact Or.inl (if_neg h)
    · by_cases h : b = a
      · have z2 := (if_pos h).symm.trans z
        cases z2
        subst h
        exact ⟨ha, by rw [List.length_map]; exact hl, vs, _, rv, ha⟩
      · have z2 := (if_neg h).symm.trans z
        cases z2
    · by_cases h : b = a
      · exact h
      · exact absurd (if_neg h) z
theorem walk_D {l : PySem.W.OpenLaw} {n k : Nat} {q : Program} {loose : List Str} {XP : (Str → Option Value) → Heap → Prop} {YP : World → Heap → Prop} {d : DefRec} {K : Params → PySem.W.Frag} {x : Str} {m : MS}
    (hn : l.most = some n) (hn2 : n ≤ sizeLine) (hdf : d.params.defaults = []) (hr : Room k callerA)
    (hY : ∀ (w : World) (h : Heap), YP w h → (K w.params).In h)
    (F : ∀ (w : World) (mg : Str → Option Value) (fa : Addr) (h : Heap), (K w.params).In h → h.Ns mainGlobals mg → mg d.name = some (.ref fa) →
      ∃ fd : FuncData, (∀ (s : Shared) (u : Value), BindsTo s fd ⟨[u], []⟩ [(x, u)]) ∧
        ∀ base : Heap, (K w.params).In base → base.Ns mainGlobals mg → FnD l.prog w (K w.params) mg base k fa fd [x] m)
    (hm : ∀ ns : List Int, ns.length ≤ n → (∀ z ∈ ns, Builtin.Int.intBits z ≤ 1048576) → ∃ e, m [.fz (.scr ns)] = some (.rt (.bl true), e)) :
    PySem.W.WalkO q loose XP YP l.row.toRowW d [] (fun f vs => PySem.call f vs) := by
  refine Att.attach_callB hn hdf ?_
  intro w s0 s1 mg mb fa o pm cd doc a vs ns G Y ho hd hcd hmg hobj hints hlen hbits hg
  have KX := hY w _ Y
  obtain ⟨fd, hb, hF⟩ := F w mg fa _ KX G.T.g hmg
  exact law_callD KX G.T.g G.T.b G.T.builtins G.T.nolimit hg hobj hints (Nat.le_trans hlen hn2) hr hF hb (hm ns hlen hbits)
end Dk
namespace Dk
open PySem PySem.Spec PyProof.Rows L2
variable {K : PySem.W.Frag}

/-! ### + - * // % ** -/
def rAddStr : R2 := fun x y H Q => ∃ i j, x = .str i ∧ y = .str j ∧ i.length + j.length ≤ sizeLine ∧ Q (.str (i ++ j)) H
def rAddI : R2 := rI0 fun i j => .int (i + j)
def rAddAny (K : PySem.W.Frag) : R2 := fun x y H Q => rAddI x y H Q ∨ rAddStr x y H Q ∨ rCat x y H Q
def addD : D → D → Option D
  | .int i, .int j => some (.int (i + j))
  | .str i, .str j => (okB (few (i.length + j.length))).map fun _ => .str (i ++ j)
  | .lst i, .lst j => (okB (few (i.length + j.length))).map fun _ => .lst (i ++ j)
  | _, _ => none
theorem op2_add : Op2 K (rAddAny K) addD := fun {F H x y dx dy d Q} s bx bY hd q => by
  unfold addD at hd
  split at hd
  · cases hd
    cases bx.isInt; cases bY.isInt
    exact .inl ⟨_, _, rfl, rfl, q F H _ (Ext.refl s) (.int _)⟩
  · obtain ⟨_, h, hd⟩ := Option.map_eq_some_iff.mp hd
    cases hd
    cases bx.isStr; cases bY.isStr
    exact .inr (.inl ⟨_, _, rfl, rfl, few_ok (okB_iff h), q F H _ (Ext.refl s) (.str _)⟩)
  · obtain ⟨_, h, hd⟩ := Option.map_eq_some_iff.mp hd
    cases hd
    obtain ⟨a, xs, rfl, ha, rx⟩ := bx.isLst s
    obtain ⟨b, ys, rfl, hb, ry⟩ := bY.isLst s
    refine .inr (.inr ⟨a, b, xs, ys, rfl, rfl, ha, hb, by rw [rx.length, ry.length]; exact few_ok (okB_iff h), fun p n => ?_⟩)
    have x := Ext.new (o := .lst (xs ++ ys)) s n
    exact q _ _ _ x (.lst upd_same ((rx.app ry).mono x.f))
  · cases hd
def addL : D → D → Option D
  | .lst i, .lst j => (okB (few (i.length + j.length))).map fun _ => .lst (i ++ j)
  | _, _ => none
theorem op2N_add : Op2N K rCat addL := fun {F H x y dx dy d Q} s bx bY hd q => by
  unfold addL at hd
  split at hd
  · obtain ⟨_, h, hd⟩ := Option.map_eq_some_iff.mp hd
    cases hd
    obtain ⟨a, xs, rfl, ha, rx⟩ := bx.isLst s
    obtain ⟨b, ys, rfl, hb, ry⟩ := bY.isLst s
    refine ⟨a, b, xs, ys, rfl, rfl, ha, hb, by rw [rx.length, ry.length]; exact few_ok (okB_iff h), fun p n => ?_⟩
    exact q p _ n ⟨s.free n, _, upd_same, rx.app ry⟩
  · cases hd
def i2 (c : Int → Int → Bool) (g : Int → Int → D) : D → D → Option D
  | .int i, .int j => (okB (c i j)).map fun _ => g i j
  | _, _ => none
/-- an operation on ints under a test -/
theorem op2_i2 {C : Int → Int → Prop} {c : Int → Int → Bool} {g : Int → Int → V} {gd : Int → Int → D} (hc : ∀ i j, c i j = true → C i j) (hg : ∀ F i j, Rp K F (g i j) (gd i j)) : Op2 K (rI C g) (i2 c gd) := fun {F H x y dx dy d Q} s bx bY hd q => by
  unfold i2 at hd
  split at hd
  · obtain ⟨_, h, hd⟩ := Option.map_eq_some_iff.mp hd
    cases hd
    cases bx.isInt; cases bY.isInt
    exact ⟨_, _, rfl, rfl, hc _ _ (okB_iff h), q F H _ (Ext.refl s) (hg F _ _)⟩
  · cases hd
def i2z (g : Int → Int → D) : D → D → Option D
  | .int i, .int j => some (g i j)
  | _, _ => none
theorem op2_i2z {g : Int → Int → V} {gd : Int → Int → D} (hg : ∀ F i j, Rp K F (g i j) (gd i j)) : Op2 K (rI0 g) (i2z gd) := fun {F H x y dx dy d Q} s bx bY hd q => by
  unfold i2z at hd
  split at hd
  · cases hd
    cases bx.isInt; cases bY.isInt
    exact ⟨_, _, rfl, rfl, q F H _ (Ext.refl s) (hg F _ _)⟩
  · cases hd
def subD : D → D → Option D := i2z fun i j => .int (i - j)
def cMul (i j : Int) : Bool := decide (i.natAbs.log2 + j.natAbs.log2 < 1000000)
def mulI : D → D → Option D := i2 cMul fun i j => .int (i * j)
def cDiv (_ j : Int) : Bool := decide (0 < j) && decide (j.natAbs.log2 < 9000)
def divD : D → D → Option D := i2 cDiv fun i j => .int (i / j)
def cMod (_ j : Int) : Bool := decide (0 < j)
def modD : D → D → Option D := i2 cMod fun i j => .int (i % j)
def cPow (i j : Int) : Bool := decide (0 ≤ j) && decide ((Builtin.Int.intBits i : Int) * j ≤ 2 ^ 27)
def powD : D → D → Option D := i2 cPow fun i j => .int (i ^ j.toNat)
theorem op_powW {X : Cx} : OpR X (binaryOp .Pow) (rI (fun i j => 0 ≤ j ∧ (Builtin.Int.intBits i : Int) * j ≤ 2 ^ 27) fun i j => .int (i ^ j.toNat)) := opI fun _ _ _ _ _ _ _ hc q => pow_int hc.1 hc.2 q
theorem op2_sub : Op2 K (rI0 fun i j => .int (i - j)) subD := op2_i2z fun _ _ _ => .int _
theorem op2_mul : Op2 K (rI CMulW fun i j => .int (i * j)) mulI := op2_i2 (fun _ _ h => of_decide_eq_true h) fun _ _ _ => .int _
theorem op2_div : Op2 K (rI CDivW fun i j => .int (i / j)) divD := op2_i2 (fun _ _ h => by
  have h := Bool.and_eq_true_iff.mp h
  exact ⟨of_decide_eq_true h.1, of_decide_eq_true h.2⟩) fun _ _ _ => .int _
theorem op2_mod : Op2 K (rI (fun _ j => 0 < j) fun i j => .int (i % j)) modD := op2_i2 (fun _ _ h => of_decide_eq_true h) fun _ _ _ => .int _
theorem op2_pow : Op2 K (rI (fun i j => 0 ≤ j ∧ (Builtin.Int.intBits i : Int) * j ≤ 2 ^ 27) fun i j => .int (i ^ j.toNat)) powD := op2_i2 (fun _ _ h => by
  have h := Bool.and_eq_true_iff.mp h
  exact ⟨of_decide_eq_true h.1, of_decide_eq_true h.2⟩) fun _ _ _ => .int _
/-- a list times an int: a new list -/
def repL : D → D → Option D
  | .lst xs, .int k => (okB (decide (-(2 ^ 63) ≤ k) && decide (k < 2 ^ 63) && few (xs.length * k.toNat))).map fun _ => .lst (List.replicate k.toNat xs).flatten
  | _, _ => none
theorem RpL.rep {F : Hp} {vs : List V} {ds : List D} (r : RpL K F vs ds) : ∀ n : Nat, RpL K F (List.replicate n vs).flatten (List.replicate n ds).flatten
  | 0 => .nil
  | n + 1 => by rw [List.replicate_succ, List.replicate_succ, List.flatten_cons, List.flatten_cons]; exact r.app (RpL.rep r n)
theorem op2N_rep : Op2N K rRep repL := fun {F H x y dx dy d Q} s bx bY hd q => by
  unfold repL at hd
  split at hd
  · obtain ⟨_, h, hd⟩ := Option.map_eq_some_iff.mp hd
    cases hd
    obtain ⟨a, xs, rfl, ha, rx⟩ := bx.isLst s
    cases bY.isInt
    have h := Bool.and_eq_true_iff.mp (okB_iff h)
    have h1 := Bool.and_eq_true_iff.mp h.1
    refine ⟨a, _, xs, rfl, rfl, ha, of_decide_eq_true h1.1, of_decide_eq_true h1.2, by rw [rx.length]; exact few_ok h.2, fun p n => ?_⟩
    exact q p _ n ⟨s.free n, _, upd_same, rx.rep _⟩
  · cases hd
def u1 (g : Int → D) : D → Option D
  | .int i => some (g i)
  | _ => none
theorem op1_neg : Op1 K (rU fun i => .int (-i)) (u1 fun i => .int (-i)) := fun {F H x dx d Q} s bx hd q => by
  unfold u1 at hd
  split at hd
  · cases hd
    cases bx.isInt
    exact ⟨_, rfl, q F H _ (Ext.refl s) (.int _)⟩
  · cases hd

/-! ### comparisons -/
mutual
/-- the data of the kit; none where there is no such form -/
def toPy : D → Option PyData
  | .non => some .none
  | .bl b => some (.bool b)
  | .int i => some (.int i)
  | .str x => some (.str x)
  | .lst xs => (toPyL xs).map .list
  | .tup xs => (toPyL xs).map .tuple
  | .dic _ => none
  | .scr _ => none
def toPyL : List D → Option (List PyData)
  | [] => some []
  | d :: r => (toPy d).bind fun a => (toPyL r).map fun b => a :: b
end
mutual
theorem Rp.dp {F H : Hp} (s : Same F H) : ∀ {v : V} {d : D} {p : PyData}, Rp K F v d → toPy d = some p → Dp K H v p
  | _, _, _, .non, h => by cases h; exact .non
  | _, _, _, .bl b, h => by cases h; exact .bl b
  | _, _, _, .int b, h => by cases h; exact .int b
  | _, _, _, .str b, h => by cases h; exact .str b
  | _, _, _, .lst e r, h => by
    obtain ⟨ps, h1, h2⟩ := Option.map_eq_some_iff.mp h
    cases h2
    exact .lst (.inl (.inl (s _ _ e))) (RpL.dp s r h1)
  | _, _, _, .tup e r, h => by
    obtain ⟨ps, h1, h2⟩ := Option.map_eq_some_iff.mp h
    cases h2
    exact .tup (seqT s e) (RpL.dp s r h1)
  | _, _, _, .dic _ _, h => by cases h
  | _, _, _, .scr _, h => by cases h
theorem RpL.dp {F H : Hp} (s : Same F H) : ∀ {v : List V} {d : List D} {p : List PyData}, RpL K F v d → toPyL d = some p → DpAll K H v p
  | _, _, _, .nil, h => by cases h; exact .nil
  | _, _, _, .cons e r, h => by
    obtain ⟨a, h1, h⟩ := Option.bind_eq_some_iff.mp h
    obtain ⟨b, h2, h⟩ := Option.map_eq_some_iff.mp h
    cases h
    exact .cons (Rp.dp s e h1) (RpL.dp s r h2)
end
theorem Bw.dp {F H : Hp} {x : V} {d : D} {p : PyData} (s : Same F H) (h : Bw K F H x d) (e : toPy d = some p) : Dp K H x p := by
  rcases h with h | ⟨a, rfl, h⟩
  · exact h.dp s e
  · cases d with
    | lst ds =>
      obtain ⟨_, xs, e1, r⟩ := h
      obtain ⟨ps, h1, h2⟩ := Option.map_eq_some_iff.mp e
      cases h2
      exact .lst (.inl (.inl e1)) (RpL.dp s r h1)
    | dic ds => cases e
    | _ => exact h.2.elim
def shp (d : D) : Option PyData := (toPy d).bind fun p => (okB (SeqAt.shaped p)).map fun _ => p
def eqD (a b : D) : Option D := (shp a).bind fun p => (shp b).map fun q => .bl (PyData.eqv p q)
def neD (a b : D) : Option D := (shp a).bind fun p => (shp b).map fun q => .bl (!PyData.eqv p q)
theorem shp_iff {d : D} {p : PyData} (h : shp d = some p) : toPy d = some p ∧ SeqAt.shaped p = true := by
  obtain ⟨a, h1, h⟩ := Option.bind_eq_some_iff.mp h
  obtain ⟨u, h2, h⟩ := Option.map_eq_some_iff.mp h
  cases h
  exact ⟨h1, okB_iff h2⟩
theorem op2_eq : Op2 K (rEqD K) eqD := fun {F H x y dx dy d Q} s bx bY hd q => by
  obtain ⟨a, h1, hd⟩ := Option.bind_eq_some_iff.mp hd
  obtain ⟨b, h2, hd⟩ := Option.map_eq_some_iff.mp hd
  cases hd
  obtain ⟨e1, s1⟩ := shp_iff h1
  obtain ⟨e2, s2⟩ := shp_iff h2
  exact ⟨a, b, bx.dp s e1, bY.dp s e2, s1, s2, q F H _ (Ext.refl s) (.bl _)⟩
theorem op2_ne : Op2 K (rNeD K) neD := fun {F H x y dx dy d Q} s bx bY hd q => by
  obtain ⟨a, h1, hd⟩ := Option.bind_eq_some_iff.mp hd
  obtain ⟨b, h2, hd⟩ := Option.map_eq_some_iff.mp hd
  cases hd
  obtain ⟨e1, s1⟩ := shp_iff h1
  obtain ⟨e2, s2⟩ := shp_iff h2
  exact ⟨a, b, bx.dp s e1, bY.dp s e2, s1, s2, q F H _ (Ext.refl s) (.bl _)⟩
/-- <, <=, >, >= of ints and of texts -/
def cmpD (f : Int → Int → Bool) (g : Str → Str → Bool) : D → D → Option D
  | .int i, .int j => some (.bl (f i j))
  | .str i, .str j => some (.bl (g i j))
  | _, _ => none
def rCmp (f : Int → Int → Bool) (g : Str → Str → Bool) : R2 := fun x y H Q => rI0 (fun i j => .bl (f i j)) x y H Q ∨ ∃ i j, x = .str i ∧ y = .str j ∧ Q (.bl (g i j)) H
theorem op2_cmp {f : Int → Int → Bool} {g : Str → Str → Bool} : Op2 K (rCmp f g) (cmpD f g) := fun {F H x y dx dy d Q} s bx bY hd q => by
  unfold cmpD at hd
  split at hd
  · cases hd
    cases bx.isInt; cases bY.isInt
    exact .inl ⟨_, _, rfl, rfl, q F H _ (Ext.refl s) (.bl _)⟩
  · cases hd
    cases bx.isStr; cases bY.isStr
    exact .inr ⟨_, _, rfl, rfl, q F H _ (Ext.refl s) (.bl _)⟩
  · cases hd
def ltS (i j : Str) : Bool := decide (i.cps.toList < j.cps.toList)
def ltD : D → D → Option D := cmpD (fun i j => decide (i < j)) ltS
def leD : D → D → Option D := cmpD (fun i j => decide (i ≤ j)) fun i j => !ltS j i
def gtD : D → D → Option D := cmpD (fun i j => decide (j < i)) fun i j => ltS j i
def geD : D → D → Option D := cmpD (fun i j => decide (j ≤ i)) fun i j => !ltS i j
theorem opr_lt {X : Cx} : OpR X (compareOp .Lt) (rCmp (fun i j => decide (i < j)) ltS) := op_lt.or op_lt_str
theorem opr_le {X : Cx} : OpR X (compareOp .LtE) (rCmp (fun i j => decide (i ≤ j)) fun i j => !ltS j i) := op_le.or op_le_str
theorem opr_gt {X : Cx} : OpR X (compareOp .Gt) (rCmp (fun i j => decide (j < i)) fun i j => ltS j i) := op_gt.or op_gt_str
theorem opr_ge {X : Cx} : OpR X (compareOp .GtE) (rCmp (fun i j => decide (j ≤ i)) fun i j => !ltS i j) := op_ge.or op_ge_str
theorem opr_add {X : Cx} : OpR X (binaryOp .Add) (rAddAny X.K) := op_add.or (op_add_str.or op_cat)
/-- is None, is not None -/
def isNonD : D → D → Option D
  | .non, .non => some (.bl true)
  | _, .non => some (.bl false)
  | _, _ => none
def notNonD : D → D → Option D
  | .non, .non => some (.bl false)
  | _, .non => some (.bl true)
  | _, _ => none
theorem Bw.notNon {F H : Hp} {x : V} {d : D} (h : Bw K F H x d) (n : d ≠ .non) : x ≠ .non := fun e => by
  subst e
  rcases h with h | ⟨p, e, _⟩
  · cases h; exact n rfl
  · cases e
theorem op2_isN : Op2 K (fun x y H Q => y = .non ∧ Q (.bl (decide (x = .non))) H) isNonD := fun {F H x y dx dy d Q} s bx bY hd q => by
  unfold isNonD at hd
  split at hd
  · cases hd
    cases bx.isNon; cases bY.isNon
    exact ⟨rfl, q F H _ (Ext.refl s) (.bl _)⟩
  · rename_i h
    cases hd
    cases bY.isNon
    rw [decide_eq_false (bx.notNon fun z => h z)]
    exact ⟨rfl, q F H _ (Ext.refl s) (.bl _)⟩
  · cases hd
theorem op2_notN : Op2 K (fun x y H Q => y = .non ∧ Q (.bl (!decide (x = .non))) H) notNonD := fun {F H x y dx dy d Q} s bx bY hd q => by
  unfold notNonD at hd
  split at hd
  · cases hd
    cases bx.isNon; cases bY.isNon
    exact ⟨rfl, q F H _ (Ext.refl s) (.bl _)⟩
  · rename_i h
    cases hd
    cases bY.isNon
    rw [decide_eq_false (bx.notNon fun z => h z)]
    exact ⟨rfl, q F H _ (Ext.refl s) (.bl _)⟩
  · cases hd
/-- a < b < c -/
def chM (op op' : D → D → Option D) (ma mb mc : ME) : ME := fun e => (ma e).bind fun p => (mb p.2).bind fun q => (rd q.2 p.1).bind fun a => (rd q.2 q.1).bind fun b => (op a b).bind fun c => (asB c).bind fun c =>
  if c = true then (mc q.2).bind fun r => (rd r.2 q.1).bind fun b => (rd r.2 r.1).bind fun c => (op' b c).map fun d => (.v d, r.2) else some (.v (.bl false), q.2)
theorem sim_chain {r r' : R2} {op op' : D → D → Option D} {ta tb tc : TE} {ma mb mc : ME} (ho : Op2 K r op) (ho' : Op2 K r' op') (ha : SimE K ta ma) (hb : SimE K tb mb) (hc : SimE K tc mc) : SimE K (tChain r r' ta tb tc) (chM op op' ma mb mc) := ⟨fun {F0 Gd ios F H σ e os l e' Q} W hm q => by
  unfold chM at hm
  obtain ⟨⟨l1, e1⟩, h1, hm⟩ := Option.bind_eq_some_iff.mp hm
  obtain ⟨⟨l2, e2⟩, h2, hm⟩ := Option.bind_eq_some_iff.mp hm
  obtain ⟨a, ra, hm⟩ := Option.bind_eq_some_iff.mp hm
  obtain ⟨b, rb, hm⟩ := Option.bind_eq_some_iff.mp hm
  obtain ⟨d, hd, hm⟩ := Option.bind_eq_some_iff.mp hm
  obtain ⟨c, hc1, hz⟩ := Option.bind_eq_some_iff.mp hm
  clear hm
  have ed := asB_iff hc1
  subst ed
  refine ha.run W h1 fun F1 H1 os1 x W1 s1 k1 => hb.run W1 h2 fun F2 H2 os2 y W2 s2 k2 => ?_
  refine ho W2.fh (W2.bw (k1.mono s2) ra) (W2.bw k2 rb) hd fun F3 H3 v x3 rp => ?_
  have s3 := (s1.trans s2).trans x3.f
  have W3 := W2.ext x3
  cases rp
  refine ⟨c, rfl, ?_⟩
  cases c with
  | false => cases hz; exact iteF (q F3 H3 os2 _ W3 s3 (Rp.bl false))
  | true =>
    simp only [if_true] at hz
    obtain ⟨⟨l4, e4⟩, h4, hz⟩ := Option.bind_eq_some_iff.mp hz
    obtain ⟨b4, rb4, hz⟩ := Option.bind_eq_some_iff.mp hz
    obtain ⟨c4, rc4, hz⟩ := Option.bind_eq_some_iff.mp hz
    obtain ⟨d4, hd4, hz⟩ := Option.map_eq_some_iff.mp hz
    cases hz
    refine iteT (hc.run W3 h4 fun F4 H4 os4 z W4 s4 k4 => ?_)
    exact ho' W4.fh (W4.bw ((k2.mono x3.f).mono s4) rb4) (W4.bw k4 rc4) hd4 fun F5 H5 v x5 rp => q F5 H5 os4 v (W4.ext x5) ((s3.trans s4).trans x5.f) rp⟩

/-! ### subscripts -/
def ixD : D → D → Option D
  | .lst xs, .int i => atI xs i
  | .tup xs, .int i => atI xs i
  | .scr xs, .int i => (atI xs i).map .int
  | .str x, .int i => (okB (few x.length)).bind fun _ => (atI x.cps.toList i).map fun c => .str ⟨#[c]⟩
  | _, _ => none
theorem RpL.atI {F : Hp} {vs : List V} {ds : List D} (r : RpL K F vs ds) {i : Int} {d : D} (h : atI ds i = some d) : ∃ v, L2.atI vs i = some v ∧ Rp K F v d := by
  unfold L2.atI at h ⊢
  rw [r.length]
  obtain ⟨j, h1, h2⟩ := Option.bind_eq_some_iff.mp h
  obtain ⟨y, hy, ry⟩ := r.get h2
  exact ⟨y, by rw [h1]; exact hy, ry⟩
theorem atI_map {α β : Type} (f : α → β) (xs : List α) (i : Int) : atI (xs.map f) i = (atI xs i).map f := by
  unfold atI
  rw [List.length_map]
  cases ixN xs.length i with
  | none => rfl
  | some j => simp
theorem op2_ix : Op2 K (rIx K) ixD := fun {F H x y dx dy d Q} s bx bY hd q => by
  unfold ixD at hd
  split at hd
  · obtain ⟨a, xs, rfl, ha, rx⟩ := bx.isLst s
    cases bY.isInt
    obtain ⟨v, hv, rv⟩ := rx.atI hd
    exact .inl ⟨a, xs, _, v, rfl, rfl, .inl (.inl ha), hv, q F H v (Ext.refl s) rv⟩
  · obtain ⟨a, xs, rfl, ha, rx, _⟩ := bx.isTup s
    cases bY.isInt
    obtain ⟨v, hv, rv⟩ := rx.atI hd
    exact .inr (.inl ⟨a, xs, _, v, rfl, rfl, ha, hv, q F H v (Ext.refl s) rv⟩)
  · obtain ⟨a, rfl, ha⟩ := bx.isScr s
    cases bY.isInt
    obtain ⟨n, h1, hd⟩ := Option.map_eq_some_iff.mp hd
    cases hd
    exact .inl ⟨a, _, _, .int n, rfl, rfl, ha, by rw [atI_map, h1]; rfl, q F H _ (Ext.refl s) (.int n)⟩
  · cases bx.isStr
    cases bY.isInt
    obtain ⟨_, h1, hd⟩ := Option.bind_eq_some_iff.mp hd
    obtain ⟨c, h2, hd⟩ := Option.map_eq_some_iff.mp hd
    cases hd
    exact .inr (.inr ⟨_, _, c, rfl, rfl, few_ok (okB_iff h1), h2, q F H _ (Ext.refl s) (.str _)⟩)
  · cases hd

/-! ### built-ins -/
theorem BwL.one {F H : Hp} {xs : List V} {d : D} (h : BwL K F H xs [d]) : ∃ x, xs = [x] ∧ Bw K F H x d := by
  cases h with
  | cons a b => cases b; exact ⟨_, rfl, a⟩
theorem BwL.two {F H : Hp} {xs : List V} {d c : D} (h : BwL K F H xs [d, c]) : ∃ x y, xs = [x, y] ∧ Bw K F H x d ∧ Bw K F H y c := by
  cases h with
  | cons a b => cases b with
    | cons b r => cases r; exact ⟨_, _, rfl, a, b⟩
def lenD : List D → Option D
  | [.lst xs] => some (.int xs.length)
  | [.tup xs] => some (.int xs.length)
  | [.scr xs] => some (.int xs.length)
  | [.str x] => (okB (few x.length)).map fun _ => .int x.length
  | [.dic kvs] => some (.int kvs.length)
  | _ => none
def rLen (K : PySem.W.Frag) : List V → Hp → VK → Prop := fun xs H Q => (∃ x n, xs = [x] ∧ LenV K x H n ∧ Q (.int n) H) ∨ ∃ d kvs, xs = [.ref d] ∧ H d = some (.dK kvs) ∧ Q (.int kvs.length) H
theorem RpK.length {F : Hp} : ∀ {v : List (Key × V)} {d : List (Key × D)}, RpK K F v d → v.length = d.length
  | _, _, .nil => rfl
  | _, _, .cons _ r => by rw [List.length_cons, List.length_cons, r.length]
theorem opA_len : OpA K (rLen K) lenD := fun {F H xs ds d Q} s b hd q => by
  unfold lenD at hd
  split at hd
  · cases hd
    obtain ⟨x, rfl, b1⟩ := b.one
    obtain ⟨a, xs, rfl, ha, rx⟩ := b1.isLst s
    refine .inl ⟨_, _, rfl, .inl ⟨xs, .inl (.inl ha), rfl⟩, ?_⟩
    rw [rx.length]; exact q F H _ (Ext.refl s) (.int _)
  · cases hd
    obtain ⟨x, rfl, b1⟩ := b.one
    obtain ⟨a, xs, rfl, ha, rx, _⟩ := b1.isTup s
    refine .inl ⟨_, _, rfl, .inr ⟨xs, ha, rfl⟩, ?_⟩
    rw [rx.length]; exact q F H _ (Ext.refl s) (.int _)
  · cases hd
    obtain ⟨x, rfl, b1⟩ := b.one
    obtain ⟨a, rfl, ha⟩ := b1.isScr s
    refine .inl ⟨_, _, rfl, .inl ⟨_, ha, rfl⟩, ?_⟩
    rw [List.length_map]; exact q F H _ (Ext.refl s) (.int _)
  · obtain ⟨_, h, hd⟩ := Option.map_eq_some_iff.mp hd
    cases hd
    obtain ⟨x, rfl, b1⟩ := b.one
    cases b1.isStr
    exact .inl ⟨_, _, rfl, ⟨few_ok (okB_iff h), rfl⟩, q F H _ (Ext.refl s) (.int _)⟩
  · cases hd
    obtain ⟨x, rfl, b1⟩ := b.one
    obtain ⟨a, xs, rfl, ha, rx⟩ := b1.isDic s
    refine .inr ⟨a, xs, rfl, ha, ?_⟩
    rw [rx.length]; exact q F H _ (Ext.refl s) (.int _)
  · cases hd
theorem cr_len {X : Cx} : CallR X (.builtin "len") (rLen X.K) := call_len.or call_lenD
def absD : List D → Option D
  | [.int i] => some (.int (if i < 0 then -i else i))
  | _ => none
theorem opA_abs : OpA K (fun xs H Q => ∃ i, xs = [.int i] ∧ Q (.int (if i < 0 then -i else i)) H) absD := fun {F H xs ds d Q} s b hd q => by
  unfold absD at hd
  split at hd
  · cases hd
    obtain ⟨x, rfl, b1⟩ := b.one
    cases b1.isInt
    exact ⟨_, rfl, q F H _ (Ext.refl s) (.int _)⟩
  · cases hd
def intD : List D → Option D
  | [.int i] => some (.int i)
  | [.bl k] => some (.int (if k then 1 else 0))
  | _ => none
theorem opA_int : OpA K (fun xs H Q => (∃ i, xs = [.int i] ∧ Q (.int i) H) ∨ ∃ k, xs = [.bl k] ∧ Q (.int (if k then 1 else 0)) H) intD := fun {F H xs ds d Q} s b hd q => by
  unfold intD at hd
  split at hd
  · cases hd
    obtain ⟨x, rfl, b1⟩ := b.one
    cases b1.isInt
    exact .inl ⟨_, rfl, q F H _ (Ext.refl s) (.int _)⟩
  · cases hd
    obtain ⟨x, rfl, b1⟩ := b.one
    cases b1.isBl
    exact .inr ⟨_, rfl, q F H _ (Ext.refl s) (.int _)⟩
  · cases hd
def maxD : List D → Option D
  | [.int i, .int j] => some (.int (if j > i then j else i))
  | _ => none
def minD : List D → Option D
  | [.int i, .int j] => some (.int (if j < i then j else i))
  | _ => none
theorem opA_max : OpA K (fun xs H Q => ∃ i j, xs = [.int i, .int j] ∧ Q (.int (if j > i then j else i)) H) maxD := fun {F H xs ds d Q} s b hd q => by
  unfold maxD at hd
  split at hd
  · cases hd
    obtain ⟨x, y, rfl, b1, c1⟩ := b.two
    cases b1.isInt; cases c1.isInt
    exact ⟨_, _, rfl, q F H _ (Ext.refl s) (.int _)⟩
  · cases hd
theorem opA_min : OpA K (fun xs H Q => ∃ i j, xs = [.int i, .int j] ∧ Q (.int (if j < i then j else i)) H) minD := fun {F H xs ds d Q} s b hd q => by
  unfold minD at hd
  split at hd
  · cases hd
    obtain ⟨x, y, rfl, b1, c1⟩ := b.two
    cases b1.isInt; cases c1.isInt
    exact ⟨_, _, rfl, q F H _ (Ext.refl s) (.int _)⟩
  · cases hd
def allBl : List D → Option (List Bool)
  | [] => some []
  | d :: r => (asB d).bind fun b => (allBl r).map fun c => b :: c
theorem allBl_iff : ∀ {ds : List D} {bs : List Bool}, allBl ds = some bs → ds = bs.map .bl
  | [], _, h => by cases h; rfl
  | d :: r, _, h => by
    obtain ⟨b, h1, h⟩ := Option.bind_eq_some_iff.mp h
    obtain ⟨c, h2, h⟩ := Option.map_eq_some_iff.mp h
    cases h
    rw [asB_iff h1, allBl_iff h2]; rfl
def allD : List D → Option D
  | [.lst xs] => (allBl xs).map fun bs => .bl (bs.all id)
  | _ => none
def anyD : List D → Option D
  | [.lst xs] => (allBl xs).map fun bs => .bl (bs.any id)
  | _ => none
theorem opA_all : OpA K (rAll K) allD := fun {F H xs ds d Q} s b hd q => by
  unfold allD at hd
  split at hd
  · obtain ⟨bs, h, hd⟩ := Option.map_eq_some_iff.mp hd
    cases hd
    obtain ⟨x, rfl, b1⟩ := b.one
    obtain ⟨a, xs, rfl, ha, rx⟩ := b1.isLst s
    rw [allBl_iff h] at rx
    rw [rx.ofBls] at ha
    exact ⟨a, bs, rfl, .inl (.inl ha), q F H _ (Ext.refl s) (.bl _)⟩
  · cases hd
theorem opA_any : OpA K (rAny K) anyD := fun {F H xs ds d Q} s b hd q => by
  unfold anyD at hd
  split at hd
  · obtain ⟨bs, h, hd⟩ := Option.map_eq_some_iff.mp hd
    cases hd
    obtain ⟨x, rfl, b1⟩ := b.one
    obtain ⟨a, xs, rfl, ha, rx⟩ := b1.isLst s
    rw [allBl_iff h] at rx
    rw [rx.ofBls] at ha
    exact ⟨a, bs, rfl, .inl (.inl ha), q F H _ (Ext.refl s) (.bl _)⟩
  · cases hd
/-- list(x), tuple(x) -/
def listD : List D → Option D
  | [.lst xs] => some (.lst xs)
  | [.tup xs] => some (.lst xs)
  | _ => none
def tupleD : List D → Option D
  | [.lst xs] => some (.tup xs)
  | [.tup xs] => some (.tup xs)
  | _ => none
theorem opAN_list : OpAN K (fun xs H Q => ∃ p ys, xs = [.ref p] ∧ (SqL K H p ys ∨ SqT K H p ys) ∧ ∀ l, H l = none → Q (.ref l) (upd H l (.lst ys))) listD := fun {F H xs ds d Q} s b hd q => by
  unfold listD at hd
  split at hd
  · cases hd
    obtain ⟨x, rfl, b1⟩ := b.one
    obtain ⟨a, xs, rfl, ha, rx⟩ := b1.isLst s
    exact ⟨a, xs, rfl, .inl (.inl (.inl ha)), fun p n => q p _ n ⟨s.free n, _, upd_same, rx⟩⟩
  · cases hd
    obtain ⟨x, rfl, b1⟩ := b.one
    obtain ⟨a, xs, rfl, ha, rx, _⟩ := b1.isTup s
    exact ⟨a, xs, rfl, .inr ha, fun p n => q p _ n ⟨s.free n, _, upd_same, rx⟩⟩
  · cases hd
theorem opA_tuple : OpA K (fun xs H Q => ∃ p ys, xs = [.ref p] ∧ ((SqL K H p ys ∧ ∀ l, H l = none → Q (.ref l) (upd H l (.tup ys))) ∨ (SqT K H p ys ∧ Q (.ref p) H))) tupleD := fun {F H xs ds d Q} s b hd q => by
  unfold tupleD at hd
  split at hd
  · cases hd
    obtain ⟨x, rfl, b1⟩ := b.one
    obtain ⟨a, xs, rfl, ha, rx⟩ := b1.isLst s
    refine ⟨a, xs, rfl, .inl ⟨.inl (.inl ha), fun p n => ?_⟩⟩
    have x := Ext.new (o := .tup xs) s n
    exact q _ _ _ x (.tup (.inl (.inl upd_same)) (rx.mono x.f))
  · cases hd
    obtain ⟨x, rfl, b1⟩ := b.one
    obtain ⟨a, xs, rfl, ha, rx, hf⟩ := b1.isTup s
    exact ⟨a, xs, rfl, .inr ⟨ha, q F H _ (Ext.refl s) (.tup hf rx)⟩⟩
  · cases hd
end Dk
namespace Dk
open PySem PySem.Spec PyProof.Rows L2
section
variable {X : Cx} {a b c e : Expr} {es : List Expr} {ma mb mc m : ME} {pos : Pos} {k : Nat}

/-! ### expressions -/
theorem d_var (i : Nat) {x : Str} (hN : X.N[i]? = some x := by rfl) (hv : Vis X.env.scope x := by first | exact Or.inl rfl | exact Or.inr (Or.inl rfl) | exact Or.inr (Or.inr rfl)) (hd : (x == ("__debug__" : Str)) = false := by decide)
    (hcd : (x == ("__classdict__" : Str)) = false := by decide) : PE X (.Name x pos) (rE X.K (varM i)) := toE (pe_var hN hv hd hcd) (sim_var i)
theorem d_int {i : Int} {j : Nat} : PE X (.Constant (.int i) j pos) (rE X.K (cM (.int i))) := toE pe_int (sim_int i)
theorem d_str {i : Str} {j : Nat} : PE X (.Constant (.str i) j pos) (rE X.K (cM (.str i))) := toE pe_str (sim_str i)
theorem d_bl {i : Bool} {j : Nat} : PE X (.Constant (.bool i) j pos) (rE X.K (cM (.bl i))) := toE pe_bl (sim_bl i)
theorem d_non {j : Nat} : PE X (.Constant .none j pos) (rE X.K (cM .non)) := toE pe_non sim_non
/-- a constant of the module -/
theorem d_glob {x : Str} {v : V} {u : Value} {d : D} (hm : X.mg x = some u) (r : RelV v u) (h : ∀ F : Hp, Rp X.K F v d) (hg : Gl X x := by rfl) (hd : (x == ("__debug__" : Str)) = false := by decide) : PE X (.Name x pos) (rE X.K (cM d)) := toE (pe_glob hg hm r hd) (sim_cst h)
theorem d_frz {m : MN} (h : PE X e (rN X.K m)) : PE X e (rE X.K (frzM m)) := toE h (sim_frz sim_rN)
theorem d_op {op : Operator} {r : R2} {f : D → D → Option D} (ho : OpR X (binaryOp op) r) (h2 : Op2 X.K r f) (ha : PE X a (rE X.K ma)) (hb : PE X b (rE X.K mb)) : PE X (.BinOp a op b pos) (rE X.K (binM f ma mb)) := toE (pe_op ho ha hb) (sim_op h2 sim_rE sim_rE)
theorem d_opN {op : Operator} {r : R2} {f : D → D → Option D} (ho : OpR X (binaryOp op) r) (h2 : Op2N X.K r f) (ha : PE X a (rE X.K ma)) (hb : PE X b (rE X.K mb)) : PE X (.BinOp a op b pos) (rN X.K (binN f ma mb)) := toN (pe_op ho ha hb) (sim_op2N h2 sim_rE sim_rE)
theorem d_add (ha : PE X a (rE X.K ma)) (hb : PE X b (rE X.K mb)) : PE X (.BinOp a .Add b pos) (rE X.K (binM addD ma mb)) := d_op opr_add op2_add ha hb
theorem d_addN (ha : PE X a (rE X.K ma)) (hb : PE X b (rE X.K mb)) : PE X (.BinOp a .Add b pos) (rN X.K (binN addL ma mb)) := d_opN op_cat op2N_add ha hb
theorem d_sub (ha : PE X a (rE X.K ma)) (hb : PE X b (rE X.K mb)) : PE X (.BinOp a .Sub b pos) (rE X.K (binM subD ma mb)) := d_op op_sub op2_sub ha hb
theorem d_mul (ha : PE X a (rE X.K ma)) (hb : PE X b (rE X.K mb)) : PE X (.BinOp a .Mult b pos) (rE X.K (binM mulI ma mb)) := d_op op_mulW op2_mul ha hb
theorem d_repN (ha : PE X a (rE X.K ma)) (hb : PE X b (rE X.K mb)) : PE X (.BinOp a .Mult b pos) (rN X.K (binN repL ma mb)) := d_opN op_rep op2N_rep ha hb
theorem d_div (ha : PE X a (rE X.K ma)) (hb : PE X b (rE X.K mb)) : PE X (.BinOp a .FloorDiv b pos) (rE X.K (binM divD ma mb)) := d_op op_fdivW op2_div ha hb
theorem d_mod (ha : PE X a (rE X.K ma)) (hb : PE X b (rE X.K mb)) : PE X (.BinOp a .Mod b pos) (rE X.K (binM modD ma mb)) := d_op op_mod op2_mod ha hb
theorem d_pow (ha : PE X a (rE X.K ma)) (hb : PE X b (rE X.K mb)) : PE X (.BinOp a .Pow b pos) (rE X.K (binM powD ma mb)) := d_op op_powW op2_pow ha hb
theorem d_neg (ha : PE X a (rE X.K ma)) : PE X (.UnaryOp .USub a pos) (rE X.K (unM (u1 fun i => .int (-i)) ma)) := toE (pe_un un_neg ha) (sim_un op1_neg sim_rE)

/-! ### comparisons as values -/
theorem d_cmp {op : CmpOp} {r : R2} {f : D → D → Option D} (ho : OpR X (compareOp op) r) (h2 : Op2 X.K r f) (ha : PE X a (rE X.K ma)) (hb : PE X b (rE X.K mb)) (hm : behindInMarks op b = false) : PE X (.Compare a [op] [b] pos) (rE X.K (binM f ma mb)) := toE (pe_cmpR ho ha hb hm) (sim_op h2 sim_rE sim_rE)
theorem d_lt (ha : PE X a (rE X.K ma)) (hb : PE X b (rE X.K mb)) : PE X (.Compare a [.Lt] [b] pos) (rE X.K (binM ltD ma mb)) := d_cmp opr_lt op2_cmp ha hb (nomark _)
theorem d_le (ha : PE X a (rE X.K ma)) (hb : PE X b (rE X.K mb)) : PE X (.Compare a [.LtE] [b] pos) (rE X.K (binM leD ma mb)) := d_cmp opr_le op2_cmp ha hb (nomark _)
theorem d_gt (ha : PE X a (rE X.K ma)) (hb : PE X b (rE X.K mb)) : PE X (.Compare a [.Gt] [b] pos) (rE X.K (binM gtD ma mb)) := d_cmp opr_gt op2_cmp ha hb (nomark _)
theorem d_ge (ha : PE X a (rE X.K ma)) (hb : PE X b (rE X.K mb)) : PE X (.Compare a [.GtE] [b] pos) (rE X.K (binM geD ma mb)) := d_cmp opr_ge op2_cmp ha hb (nomark _)
theorem d_eq (hr : Room k X.A) (ha : PE X a (rE X.K ma)) (hb : PE X b (rE X.K mb)) : PE X (.Compare a [.Eq] [b] pos) (rE X.K (binM eqD ma mb)) := d_cmp (op_eqD hr.units) op2_eq ha hb (nomark _)
theorem d_ne (hr : Room k X.A) (ha : PE X a (rE X.K ma)) (hb : PE X b (rE X.K mb)) : PE X (.Compare a [.NotEq] [b] pos) (rE X.K (binM neD ma mb)) := d_cmp (op_neD hr.units) op2_ne ha hb (nomark _)
theorem d_is (ha : PE X a (rE X.K ma)) (hb : PE X b (rE X.K mb)) : PE X (.Compare a [.Is] [b] pos) (rE X.K (binM isNonD ma mb)) := d_cmp op_isN op2_isN ha hb (nomark _)
theorem d_isnot (ha : PE X a (rE X.K ma)) (hb : PE X b (rE X.K mb)) : PE X (.Compare a [.IsNot] [b] pos) (rE X.K (binM notNonD ma mb)) := d_cmp op_notN op2_notN ha hb (nomark _)
theorem d_chain {o1 o2 : CmpOp} {r r' : R2} {f g : D → D → Option D} (ho : OpR X (compareOp o1) r) (ho' : OpR X (compareOp o2) r') (h2 : Op2 X.K r f) (h3 : Op2 X.K r' g) (ha : PE X a (rE X.K ma)) (hb : PE X b (rE X.K mb)) (hc : PE X c (rE X.K mc))
    (hm : lastMarks [o1, o2] [b, c] = false := by with_unfolding_all rfl) : PE X (.Compare a [o1, o2] [b, c] pos) (rE X.K (chM f g ma mb mc)) := toE (pe_chain ho ho' ha hb hc hm) (sim_chain h2 h3 sim_rE sim_rE sim_rE)
theorem d_lele (ha : PE X a (rE X.K ma)) (hb : PE X b (rE X.K mb)) (hc : PE X c (rE X.K mc)) (hm : lastMarks [.LtE, .LtE] [b, c] = false := by with_unfolding_all rfl) : PE X (.Compare a [.LtE, .LtE] [b, c] pos) (rE X.K (chM leD leD ma mb mc)) := d_chain opr_le opr_le op2_cmp op2_cmp ha hb hc hm

/-! ### tests -/
theorem t_val (h : PE X e (rE X.K m)) (he : ∀ whole, isTrue e X.env whole = (do let v ← whole; standAt e.pos; holding [v] (truthy v)) := by intro _; rfl) : PT X e (rT X.K (bM m)) := toT (pt_val h he) (sim_tB sim_rE)
theorem t_cmp {op : CmpOp} {r : R2} {f : D → D → Option D} (ho : OpR X (compareOp op) r) (h2 : Op2 X.K r f) (ha : PE X a (rE X.K ma)) (hb : PE X b (rE X.K mb)) (hm : behindInMarks op b = false) : PT X (.Compare a [op] [b] pos) (rT X.K (bM (binM f ma mb))) := toT (pt_cmpR ho ha hb hm) (sim_tTest (sim_op h2 sim_rE sim_rE))
theorem t_lt (ha : PE X a (rE X.K ma)) (hb : PE X b (rE X.K mb)) : PT X (.Compare a [.Lt] [b] pos) (rT X.K (bM (binM ltD ma mb))) := t_cmp opr_lt op2_cmp ha hb (nomark _)
theorem t_le (ha : PE X a (rE X.K ma)) (hb : PE X b (rE X.K mb)) : PT X (.Compare a [.LtE] [b] pos) (rT X.K (bM (binM leD ma mb))) := t_cmp opr_le op2_cmp ha hb (nomark _)
theorem t_gt (ha : PE X a (rE X.K ma)) (hb : PE X b (rE X.K mb)) : PT X (.Compare a [.Gt] [b] pos) (rT X.K (bM (binM gtD ma mb))) := t_cmp opr_gt op2_cmp ha hb (nomark _)
theorem t_ge (ha : PE X a (rE X.K ma)) (hb : PE X b (rE X.K mb)) : PT X (.Compare a [.GtE] [b] pos) (rT X.K (bM (binM geD ma mb))) := t_cmp opr_ge op2_cmp ha hb (nomark _)
theorem t_eq (hr : Room k X.A) (ha : PE X a (rE X.K ma)) (hb : PE X b (rE X.K mb)) : PT X (.Compare a [.Eq] [b] pos) (rT X.K (bM (binM eqD ma mb))) := t_cmp (op_eqD hr.units) op2_eq ha hb (nomark _)
theorem t_ne (hr : Room k X.A) (ha : PE X a (rE X.K ma)) (hb : PE X b (rE X.K mb)) : PT X (.Compare a [.NotEq] [b] pos) (rT X.K (bM (binM neD ma mb))) := t_cmp (op_neD hr.units) op2_ne ha hb (nomark _)
theorem t_is (ha : PE X a (rE X.K ma)) (hb : PE X b (rE X.K mb)) : PT X (.Compare a [.Is] [b] pos) (rT X.K (bM (binM isNonD ma mb))) := t_cmp op_isN op2_isN ha hb (nomark _)
theorem t_isnot (ha : PE X a (rE X.K ma)) (hb : PE X b (rE X.K mb)) : PT X (.Compare a [.IsNot] [b] pos) (rT X.K (bM (binM notNonD ma mb))) := t_cmp op_notN op2_notN ha hb (nomark _)
theorem t_lele (ha : PE X a (rE X.K ma)) (hb : PE X b (rE X.K mb)) (hc : PE X c (rE X.K mc)) (hm : lastMarks [.LtE, .LtE] [b, c] = false := by with_unfolding_all rfl) : PT X (.Compare a [.LtE, .LtE] [b, c] pos) (rT X.K (bM (chM leD leD ma mb mc))) :=
  toT (pt_chain opr_le opr_le ha hb hc hm) (sim_tTest (sim_chain op2_cmp op2_cmp sim_rE sim_rE sim_rE))
theorem t_not {m : MT} (h : PT X a (rT X.K m)) : PT X (.UnaryOp .Not a pos) (rT X.K (notT m)) := toT (pt_not h) (sim_not sim_rT)
theorem w_and1 {m : MT} (h : PT X a (rT X.K m)) : PW X (.BoolOp .And [a] pos) (rT X.K m) := pw_and1 h
theorem w_or1 {m : MT} (h : PT X a (rT X.K m)) : PW X (.BoolOp .Or [a] pos) (rT X.K m) := pw_or1 h
theorem w_and {m n : MT} (h : PT X a (rT X.K m)) (r : PW X (.BoolOp .And (b :: es) pos) (rT X.K n)) : PW X (.BoolOp .And (a :: b :: es) pos) (rT X.K (andT m n)) := toW (pw_and h r) (sim_and sim_rT sim_rT)
theorem w_or {m n : MT} (h : PT X a (rT X.K m)) (r : PW X (.BoolOp .Or (b :: es) pos) (rT X.K n)) : PW X (.BoolOp .Or (a :: b :: es) pos) (rT X.K (orT m n)) := toW (pw_or h r) (sim_or sim_rT sim_rT)
theorem t_w {m : MT} (h : PW X e (rT X.K m)) : PT X e (rT X.K m) := h.pt
/-- and, or, not as values -/
theorem d_one {op : BoolOp} (h : PE X a (rE X.K m)) : PE X (.BoolOp op [a] pos) (rE X.K m) := pe_one h
theorem d_and (ha : PE X a (rE X.K ma)) (hb : PE X (.BoolOp .And (b :: es) pos) (rE X.K mb)) : PE X (.BoolOp .And (a :: b :: es) pos) (rE X.K (andV ma mb)) := toE (pe_and ha hb) (sim_andV sim_rE sim_rE)
theorem d_or (ha : PE X a (rE X.K ma)) (hb : PE X (.BoolOp .Or (b :: es) pos) (rE X.K mb)) : PE X (.BoolOp .Or (a :: b :: es) pos) (rE X.K (orV ma mb)) := toE (pe_or ha hb) (sim_orV sim_rE sim_rE)
theorem d_not (ha : PE X a (rE X.K ma)) : PE X (.UnaryOp .Not a pos) (rE X.K (notV ma)) := toE (pe_not ha) (sim_notV sim_rE)
theorem d_if {m : MT} (hc : PT X c (rT X.K m)) (ha : PE X a (rE X.K ma)) (hb : PE X b (rE X.K mb)) : PE X (.IfExp c a b pos) (rE X.K (ifM m ma mb)) := toE (pe_ifExp hc ha hb) (sim_if sim_rT sim_rE sim_rE)

/-! ### arguments, displays, calls -/
theorem a_nil : PA X [] (rA X.K nilA) := toA pa_nil sim_nil
theorem a_cons {mr : MA} (h : PE X e (rE X.K m)) (r : PA X es (rA X.K mr)) (hs : starEach (e :: es) X.env = (false, eval e X.env) :: starEach es X.env := by rfl) : PA X (e :: es) (rA X.K (consA m mr)) := toA (pa_cons h r hs) (sim_cons sim_rE sim_rA)
theorem d_lst {mr : MA} (h : PA X es (rA X.K mr)) : PE X (.List es pos) (rN X.K (lstM mr)) := toN (pe_lst h) (sim_lst sim_rA)
theorem d_tup {mr : MA} {x1 : Nat} (h : PA X es (rA X.K mr)) : PE X (.Tuple es x1 pos) (rE X.K (tupM mr)) := toE (pe_tup h) (sim_tup sim_rA)
theorem d_ix (ha : PE X a (rE X.K ma)) (hb : PE X b (rE X.K mb)) (hs : PlainIx b := by intro _ _; rfl) : PE X (.Subscript a b pos) (rE X.K (binM ixD ma mb)) := toE (pe_ix ix_seq ha hb hs) (sim_op op2_ix sim_rE sim_rE)
theorem d_cb {id : String} {x : Str} {r : List V → Hp → VK → Prop} {f : List D → Option D} {mr : MA} {p : Pos} (hc : CallR X (.builtin id) r) (h2 : OpA X.K r f) (hm : X.mg x = none) (hv : bootBuiltins x = some (.builtin id)) (ha : PA X (e :: es) (rA X.K mr)) (hg : Gl X x := by rfl) (hn : x ≠ "__name__" := by decide) (hdb : (x == ("__debug__" : Str)) = false := by decide)
    (he : starEach (e :: es) X.env = (false, eval e X.env) :: starEach es X.env := by rfl) (hpl : (backTo pos (starEach es X.env)).any (·.1) = false := by rfl) : PE X (.Call (.Name x p) (e :: es) [] pos) (rE X.K (cbM f mr)) := toE (pe_callB hc hg hm hv ha hn hdb he hpl) (sim_cb h2 sim_rA)
theorem d_ct {id : String} {x : Str} {r : List V → Hp → VK → Prop} {f : List D → Option D} {mr : MA} {p : Pos} (hc : CallR X (.type id) r) (h2 : OpA X.K r f) (hm : X.mg x = none) (hv : bootBuiltins x = some (.type id)) (ha : PA X (e :: es) (rA X.K mr)) (hg : Gl X x := by rfl) (hn : x ≠ "__name__" := by decide) (hdb : (x == ("__debug__" : Str)) = false := by decide)
    (he : starEach (e :: es) X.env = (false, eval e X.env) :: starEach es X.env := by rfl) (hpl : (backTo pos (starEach es X.env)).any (·.1) = false := by rfl) : PE X (.Call (.Name x p) (e :: es) [] pos) (rE X.K (cbM f mr)) := toE (pe_callTy hc hg hm hv ha hn hdb he hpl) (sim_cb h2 sim_rA)
theorem d_ctN {id : String} {x : Str} {r : List V → Hp → VK → Prop} {f : List D → Option D} {mr : MA} {p : Pos} (hc : CallR X (.type id) r) (h2 : OpAN X.K r f) (hm : X.mg x = none) (hv : bootBuiltins x = some (.type id)) (ha : PA X (e :: es) (rA X.K mr)) (hg : Gl X x := by rfl) (hn : x ≠ "__name__" := by decide) (hdb : (x == ("__debug__" : Str)) = false := by decide)
    (he : starEach (e :: es) X.env = (false, eval e X.env) :: starEach es X.env := by rfl) (hpl : (backTo pos (starEach es X.env)).any (·.1) = false := by rfl) : PE X (.Call (.Name x p) (e :: es) [] pos) (rN X.K (cbN f mr)) := toN (pe_callTy hc hg hm hv ha hn hdb he hpl) (sim_cbN h2 sim_rA)
theorem d_len {mr : MA} {p : Pos} (hm : X.mg "len" = none) (ha : PA X (e :: es) (rA X.K mr)) (hg : Gl X "len" := by rfl) (he : starEach (e :: es) X.env = (false, eval e X.env) :: starEach es X.env := by rfl) (hpl : (backTo pos (starEach es X.env)).any (·.1) = false := by rfl) :
    PE X (.Call (.Name "len" p) (e :: es) [] pos) (rE X.K (cbM lenD mr)) := d_cb cr_len opA_len hm PySem.boot_len ha hg (by decide) (by decide) he hpl
theorem d_abs {mr : MA} {p : Pos} (hm : X.mg "abs" = none) (ha : PA X (e :: es) (rA X.K mr)) (hg : Gl X "abs" := by rfl) (he : starEach (e :: es) X.env = (false, eval e X.env) :: starEach es X.env := by rfl) (hpl : (backTo pos (starEach es X.env)).any (·.1) = false := by rfl) :
    PE X (.Call (.Name "abs" p) (e :: es) [] pos) (rE X.K (cbM absD mr)) := d_cb call_abs opA_abs hm (by decide +kernel) ha hg (by decide) (by decide) he hpl
theorem d_max {mr : MA} {p : Pos} (hc : X.calm = true) (hm : X.mg "max" = none) (ha : PA X (e :: es) (rA X.K mr)) (hg : Gl X "max" := by rfl) (he : starEach (e :: es) X.env = (false, eval e X.env) :: starEach es X.env := by rfl) (hpl : (backTo pos (starEach es X.env)).any (·.1) = false := by rfl) :
    PE X (.Call (.Name "max" p) (e :: es) [] pos) (rE X.K (cbM maxD mr)) := d_cb (call_max2 hc) opA_max hm (by decide +kernel) ha hg (by decide) (by decide) he hpl
theorem d_min {mr : MA} {p : Pos} (hc : X.calm = true) (hm : X.mg "min" = none) (ha : PA X (e :: es) (rA X.K mr)) (hg : Gl X "min" := by rfl) (he : starEach (e :: es) X.env = (false, eval e X.env) :: starEach es X.env := by rfl) (hpl : (backTo pos (starEach es X.env)).any (·.1) = false := by rfl) :
    PE X (.Call (.Name "min" p) (e :: es) [] pos) (rE X.K (cbM minD mr)) := d_cb (call_min2 hc) opA_min hm (by decide +kernel) ha hg (by decide) (by decide) he hpl
theorem d_all {mr : MA} {p : Pos} (hc : X.calm = true) (hm : X.mg "all" = none) (ha : PA X (e :: es) (rA X.K mr)) (hg : Gl X "all" := by rfl) (he : starEach (e :: es) X.env = (false, eval e X.env) :: starEach es X.env := by rfl) (hpl : (backTo pos (starEach es X.env)).any (·.1) = false := by rfl) :
    PE X (.Call (.Name "all" p) (e :: es) [] pos) (rE X.K (cbM allD mr)) := d_cb (cr_all hc) opA_all hm (by decide +kernel) ha hg (by decide) (by decide) he hpl
theorem d_any {mr : MA} {p : Pos} (hc : X.calm = true) (hm : X.mg "any" = none) (ha : PA X (e :: es) (rA X.K mr)) (hg : Gl X "any" := by rfl) (he : starEach (e :: es) X.env = (false, eval e X.env) :: starEach es X.env := by rfl) (hpl : (backTo pos (starEach es X.env)).any (·.1) = false := by rfl) :
    PE X (.Call (.Name "any" p) (e :: es) [] pos) (rE X.K (cbM anyD mr)) := d_cb (cr_any hc) opA_any hm (by decide +kernel) ha hg (by decide) (by decide) he hpl
theorem d_intc {mr : MA} {p : Pos} (hm : X.mg "int" = none) (ha : PA X (e :: es) (rA X.K mr)) (hg : Gl X "int" := by rfl) (he : starEach (e :: es) X.env = (false, eval e X.env) :: starEach es X.env := by rfl) (hpl : (backTo pos (starEach es X.env)).any (·.1) = false := by rfl) :
    PE X (.Call (.Name "int" p) (e :: es) [] pos) (rE X.K (cbM intD mr)) := d_ct call_int1 opA_int hm (by decide +kernel) ha hg (by decide) (by decide) he hpl
theorem d_tuplec {mr : MA} {p : Pos} (hm : X.mg "tuple" = none) (ha : PA X (e :: es) (rA X.K mr)) (hg : Gl X "tuple" := by rfl) (he : starEach (e :: es) X.env = (false, eval e X.env) :: starEach es X.env := by rfl) (hpl : (backTo pos (starEach es X.env)).any (·.1) = false := by rfl) :
    PE X (.Call (.Name "tuple" p) (e :: es) [] pos) (rE X.K (cbM tupleD mr)) := d_ct call_tuple_of opA_tuple hm (by decide +kernel) ha hg (by decide) (by decide) he hpl
theorem d_listc {mr : MA} {p : Pos} (hm : X.mg "list" = none) (ha : PA X (e :: es) (rA X.K mr)) (hg : Gl X "list" := by rfl) (he : starEach (e :: es) X.env = (false, eval e X.env) :: starEach es X.env := by rfl) (hpl : (backTo pos (starEach es X.env)).any (·.1) = false := by rfl) :
    PE X (.Call (.Name "list" p) (e :: es) [] pos) (rN X.K (cbN listD mr)) := d_ctN call_list_of opAN_list hm (by decide +kernel) ha hg (by decide) (by decide) he hpl
/-- a def of the text -/
theorem d_call {f : Addr} {fd : FuncData} {ps : List Str} {fm : MS} {x : Str} {mr : MA} {p : Pos} (F : FnD X.prog X.w X.K X.mg X.base k f fd ps fm) (hm : X.mg x = some (.ref f)) (hk : PySem.W.keepIn X.K (.ref f) = true) (hb : Binds X.K fd ps []) (hr : Room k X.A) (hgd : X.A.guards = some []) (ha : PA X (e :: es) (rA X.K mr))
    (hg : Gl X x := by rfl) (hdb : (x == ("__debug__" : Str)) = false := by decide) (he : starEach (e :: es) X.env = (false, eval e X.env) :: starEach es X.env := by rfl) (hpl : (backTo pos (starEach es X.env)).any (·.1) = false := by rfl) :
    PE X (.Call (.Name x p) (e :: es) [] pos) (rE X.K (callM fm mr)) := toE (pe_callD F hr hgd hg hm hk hb ha hdb he hpl) (sim_call sim_rA)
theorem d_callN {f : Addr} {fd : FuncData} {ps : List Str} {fm : MS} {x : Str} {mr : MA} {p : Pos} (F : FnD X.prog X.w X.K X.mg X.base k f fd ps fm) (hm : X.mg x = some (.ref f)) (hk : PySem.W.keepIn X.K (.ref f) = true) (hb : Binds X.K fd ps []) (hr : Room k X.A) (hgd : X.A.guards = some []) (ha : PA X (e :: es) (rA X.K mr))
    (hg : Gl X x := by rfl) (hdb : (x == ("__debug__" : Str)) = false := by decide) (he : starEach (e :: es) X.env = (false, eval e X.env) :: starEach es X.env := by rfl) (hpl : (backTo pos (starEach es X.env)).any (·.1) = false := by rfl) :
    PE X (.Call (.Name x p) (e :: es) [] pos) (rN X.K (callN fm mr)) := toN (pe_callD F hr hgd hg hm hk hb ha hdb he hpl) (sim_callN sim_rA)
theorem d_callC (i : Nat) {f : Addr} {fd : FuncData} {ps : List Str} {fm : MS} {x y : Str} {mr : MA} {p py : Pos} (F : FnD X.prog X.w X.K X.mg X.base k f fd ps fm) (hm : X.mg x = some (.ref f)) (hk : PySem.W.keepIn X.K (.ref f) = true) (hb : Binds X.K fd ps []) (hr : Room k X.A) (hgd : X.A.guards = some [])
    (ha : PA X es (rA X.K mr)) (hN : X.N[i]? = some y := by rfl) (hv : Vis X.env.scope y := by first | exact Or.inl rfl | exact Or.inr (Or.inl rfl) | exact Or.inr (Or.inr rfl)) (hd : (y == ("__debug__" : Str)) = false := by decide)
    (hcd : (y == ("__classdict__" : Str)) = false := by decide) (hg : Gl X x := by rfl) (hdb : (x == ("__debug__" : Str)) = false := by decide) (he : starEach (.Name y py :: es) X.env = (false, eval (.Name y py) X.env) :: starEach es X.env := by rfl) (hpl : (backTo pos (starEach es X.env)).any (·.1) = false := by rfl) :
    PE X (.Call (.Name x p) (.Name y py :: es) [] pos) (rE X.K (callC i fm mr)) := toE (pe_callD F hr hgd hg hm hk hb (pa_cons (pe_var hN hv hd hcd) ha he) hdb he hpl) (sim_callC sim_rA)
theorem d_callCN (i : Nat) {f : Addr} {fd : FuncData} {ps : List Str} {fm : MS} {x y : Str} {mr : MA} {p py : Pos} (F : FnD X.prog X.w X.K X.mg X.base k f fd ps fm) (hm : X.mg x = some (.ref f)) (hk : PySem.W.keepIn X.K (.ref f) = true) (hb : Binds X.K fd ps []) (hr : Room k X.A) (hgd : X.A.guards = some [])
    (ha : PA X es (rA X.K mr)) (hN : X.N[i]? = some y := by rfl) (hv : Vis X.env.scope y := by first | exact Or.inl rfl | exact Or.inr (Or.inl rfl) | exact Or.inr (Or.inr rfl)) (hd : (y == ("__debug__" : Str)) = false := by decide)
    (hcd : (y == ("__classdict__" : Str)) = false := by decide) (hg : Gl X x := by rfl) (hdb : (x == ("__debug__" : Str)) = false := by decide) (he : starEach (.Name y py :: es) X.env = (false, eval (.Name y py) X.env) :: starEach es X.env := by rfl) (hpl : (backTo pos (starEach es X.env)).any (·.1) = false := by rfl) :
    PE X (.Call (.Name x p) (.Name y py :: es) [] pos) (rN X.K (callCN i fm mr)) := toN (pe_callD F hr hgd hg hm hk hb (pa_cons (pe_var hN hv hd hcd) ha he) hdb he hpl) (sim_callCN sim_rA)

/-! ### targets, iterables -/
theorem g_name (i : Nat) {x : Str} (hN : X.N.Nodup) (hi : X.N[i]? = some x := by rfl) (hx : Loc X.env.scope x := by first | exact Or.inl rfl | exact Or.inr rfl) (hf : X.fn x = true ∨ X.env.scope.names.lookup x = some .local := by first | exact .inl rfl | exact .inr rfl) : PG X (.Name x pos) (rG X.K [i] (nameG i)) := toG (pg_name hN hi hx hf) (sim_gName i)
theorem i_lst {tg : Expr} (h : PE X e (rE X.K m)) : PI X tg e (rIt X.K (itL m)) := toI (pi_list h) (sim_itL sim_rE)
theorem i_tup {tg : Expr} (h : PE X e (rE X.K m)) : PI X tg e (rIt X.K (itT m)) := toI (pi_tup h) (sim_itT sim_rE)
theorem i_str {tg : Expr} (h : PE X e (rE X.K m)) : PI X tg e (rIt X.K (itS m)) := toI (pi_str h) (sim_itS sim_rE)
theorem i_rng1 {tg : Expr} {mr : MA} {p : Pos} (hm : X.mg "range" = none) (ha : PA X [a] (rA X.K mr)) (hg : Gl X "range" := by rfl) (hs : starEach [a] X.env = [(false, eval a X.env)] := by rfl) : PI X tg (.Call (.Name "range" p) [a] [] pos) (rIt X.K (itR1 mr)) := toI (pi_range1 hg hm ha hs) (sim_itR1 sim_rA)
theorem i_rng2 {tg : Expr} {mr : MA} {p : Pos} (hm : X.mg "range" = none) (ha : PA X [a, b] (rA X.K mr)) (hg : Gl X "range" := by rfl) (hs : starEach [a, b] X.env = [(false, eval a X.env), (false, eval b X.env)] := by rfl) (hs2 : starEach [b] X.env = [(false, eval b X.env)] := by rfl) : PI X tg (.Call (.Name "range" p) [a, b] [] pos) (rIt X.K (itR2 mr)) := toI (pi_range2 hg hm ha hs hs2) (sim_itR2 sim_rA)

/-! ### comprehensions -/
theorem c_no : PTs X [] (rT X.K yesM) := ⟨fun pins sh σ H Q I ⟨_, _, _, _, _, _, _, _, W, hm, q⟩ => pts_nil.run pins sh σ H Q I (sim_yes.run W hm q)⟩
theorem c_one {m : MT} (h : PT X c (rT X.K m)) : PTs X [c] (rT X.K m) := pts_one h
theorem d_lc {tg iter : Expr} {ifs : List Expr} {scope : Scope} (own : List (Str × Nat)) {mi : MI} {js : List Nat} {g : MG} {t : MT} (hc : X.calm = true) (hN : X.N.Nodup) (hi : PI X tg iter (rIt X.K mi)) (ok : blkC X.N X.env.scope scope own = true)
    (hg : ∀ (s : Shared) (H : Hp) (C : Addr) (cl : List (Str × Addr)) (fp : List Addr), PG (X.blk s H scope (compEnvC scope cl C X.env) fp) tg (rG X.K js g)) (ht : ∀ (s : Shared) (H : Hp) (C : Addr) (cl : List (Str × Addr)) (fp : List Addr), PTs (X.blk s H scope (compEnvC scope cl C X.env) fp) ifs (rT X.K t))
    (he : ∀ (s : Shared) (H : Hp) (C : Addr) (cl : List (Str × Addr)) (fp : List Addr), PE (X.blk s H scope (compEnvC scope cl C X.env) fp) e (rE X.K m)) (hj : ∀ j ∈ js, j ∈ own.map (·.2) := by decide) (hs : ∀ x, foldedSetIterable iter X.env x = pure x := by intro _; rfl) :
    PE X (.ListComp e [⟨tg, iter, ifs, 0⟩] scope pos) (rN X.K (cpM mi g t m (own.map (·.2)))) := toN (pe_lc hc hN hi (blkOk_by ok) hg ht he hs) (sim_lc sim_rI sim_rG sim_rT sim_rE hj)

/-! ### statements -/
variable {st : Stmt} {sts : List Stmt} {n n2 : MS}
theorem s_nil : PSs X [] (rS X.K nxM) := toSs pss_nil sim_next
theorem s_cons (h : PS X st (rS X.K n)) (r : PSs X sts (rS X.K n2)) : PSs X (st :: sts) (rS X.K (seqM n n2)) := toSs (pss_cons h r) (sim_seq sim_rS sim_rS)
theorem s_one (h : PS X st (rS X.K n)) : PSs X [st] (rS X.K n) := pss_one h
theorem s_never : PS X st (rS X.K noM) := toS ps_never sim_never
theorem s_neverB : PSs X sts (rS X.K noM) := toSs pss_never sim_never
theorem s_pass : PS X (.Pass pos) (rS X.K nxM) := toS ps_pass sim_next
theorem s_break : PS X (.Break pos) (rS X.K bkM) := toS ps_break sim_break
theorem s_cont : PS X (.Continue pos) (rS X.K ctM) := toS ps_continue sim_cont
theorem s_expr (h : PE X e (rE X.K m)) (hs : swapsWith e none pos.line X.env = pure false := by rfl) : PS X (.Expr e pos) (rS X.K (exM m)) := toS (ps_expr h hs) (sim_drop sim_rE)
theorem s_ret (h : PE X e (rE X.K m)) : PS X (.Return (some e) pos) (rS X.K (retM m)) := toS (ps_ret h) (sim_ret sim_rE)
theorem s_retN {m : MN} (h : PE X e (rN X.K m)) : PS X (.Return (some e) pos) (rS X.K (retN m)) := toS (ps_ret h) (sim_retN sim_rN)
theorem s_retO (i : Nat) {x : Str} {p : Pos} (hN : X.N[i]? = some x := by rfl) (hv : Vis X.env.scope x := by first | exact Or.inl rfl | exact Or.inr (Or.inl rfl) | exact Or.inr (Or.inr rfl)) (hd : (x == ("__debug__" : Str)) = false := by decide)
    (hcd : (x == ("__classdict__" : Str)) = false := by decide) : PS X (.Return (some (.Name x p)) pos) (rS X.K (retO i)) := toS (ps_ret (pe_var hN hv hd hcd)) (sim_retO i)
theorem s_if {m : MT} {st2 : List Stmt} (hc : PT X c (rT X.K m)) (h : PSs X sts (rS X.K n)) (h2 : PSs X st2 (rS X.K n2)) : PS X (.If c sts st2 pos) (rS X.K (ifS m n n2)) := toS (ps_if hc h h2) (sim_ifS sim_rT sim_rS sim_rS)
theorem s_set (i : Nat) {x : Str} {p : Pos} (hN : X.N.Nodup) (he : PE X e (rE X.K m)) (hi : X.N[i]? = some x := by rfl) (hx : Loc X.env.scope x := by first | exact Or.inl rfl | exact Or.inr rfl) (hs : swapsWith e (some (.Name x p)) pos.line X.env = pure false := by rfl) (hf : X.fn x = true ∨ X.env.scope.names.lookup x = some .local := by first | exact .inl rfl | exact .inr rfl) :
    PS X (.Assign [.Name x p] e pos) (rS X.K (asgM m (nameG i))) := toS (ps_set hN hi hx he hs hf) (sim_asg sim_rE (sim_gName i))
theorem s_setN (i : Nat) {x : Str} {p : Pos} {m : MN} (hN : X.N.Nodup) (he : PE X e (rN X.K m)) (hi : X.N[i]? = some x := by rfl) (hx : Loc X.env.scope x := by first | exact Or.inl rfl | exact Or.inr rfl) (hs : swapsWith e (some (.Name x p)) pos.line X.env = pure false := by rfl) (hf : X.fn x = true ∨ X.env.scope.names.lookup x = some .local := by first | exact .inl rfl | exact .inr rfl) :
    PS X (.Assign [.Name x p] e pos) (rS X.K (asgN m i)) := toS (ps_set hN hi hx he hs hf) (sim_asgN sim_rN)
/-- name = [..] -/
theorem s_setLc (i : Nat) {y : Str} {py : Pos} {tg iter : Expr} {ifs : List Expr} {scope : Scope} {spos : Pos} (own : List (Str × Nat)) {mi : MI} {js : List Nat} {g : MG} {t : MT} (hc : X.calm = true) (hN : X.N.Nodup) (hi : PI X tg iter (rIt X.K mi)) (ok : blkC X.N X.env.scope scope own = true)
    (hg : ∀ (s : Shared) (H : Hp) (C : Addr) (cl : List (Str × Addr)) (fp : List Addr), PG (X.blk s H scope (compEnvC scope cl C X.env) fp) tg (rG X.K js g)) (ht : ∀ (s : Shared) (H : Hp) (C : Addr) (cl : List (Str × Addr)) (fp : List Addr), PTs (X.blk s H scope (compEnvC scope cl C X.env) fp) ifs (rT X.K t))
    (he : ∀ (s : Shared) (H : Hp) (C : Addr) (cl : List (Str × Addr)) (fp : List Addr), PE (X.blk s H scope (compEnvC scope cl C X.env) fp) e (rE X.K m)) (hy : X.N[i]? = some y := by rfl) (hyl : X.env.scope.names.lookup y = some .local := by rfl)
    (hsw : swapsWith (.ListComp e [⟨tg, iter, ifs, 0⟩] scope pos) (some (.Name y py)) spos.line X.env = pure true := by exact sw_true rfl rfl rfl (by decide +kernel)) (hj : ∀ j ∈ js, j ∈ own.map (·.2) := by decide) (hs : ∀ x, foldedSetIterable iter X.env x = pure x := by intro _; rfl) :
    PS X (.Assign [.Name y py] (.ListComp e [⟨tg, iter, ifs, 0⟩] scope pos) spos) (rS X.K (asgN (cpM mi g t m (own.map (·.2))) i)) := toS (ps_setLc hc hN hy hyl hsw hi (blkOk_by ok) hg ht he hs) (sim_asgN (sim_lc sim_rI sim_rG sim_rT sim_rE hj))
theorem s_for {tg iter : Expr} {mi : MI} {js : List Nat} {g : MG} (hc : X.calm = true) (hi : PI X tg iter (rIt X.K mi)) (hg : PG X tg (rG X.K js g)) (hb : PSs X sts (rS X.K n)) (hp : PassesOwn (model X.prog X.w) X.A X.env X.xe) (hs : ∀ x, foldedSetIterable iter X.env x = pure x := by intro _; rfl) :
    PS X (.For tg iter sts [] pos) (rS X.K (forM mi g n)) := toS (ps_for hp hc hi hg hb hs) (sim_for sim_rI sim_rG sim_rS)
theorem s_while {m : MT} (hc : PT X c (rT X.K m)) (hb : PSs X sts (rS X.K n)) (hp : PassesOwn (model X.prog X.w) X.A X.env X.xe) : PS X (.While c sts [] pos) (rS X.K (whM m n)) := toS (ps_while hp hc hb) (sim_while sim_rT sim_rS)
/-- xs[i] = e -/
theorem s_setIx (i : Nat) {x : Str} {p p2 : Pos} (he : PE X e (rE X.K m)) (ha : PE X a (rE X.K ma)) (hN : X.N[i]? = some x := by rfl) (hv : Vis X.env.scope x := by first | exact Or.inl rfl | exact Or.inr (Or.inl rfl) | exact Or.inr (Or.inr rfl)) (hd : (x == ("__debug__" : Str)) = false := by decide)
    (hcd : (x == ("__classdict__" : Str)) = false := by decide) (hs : swapsWithSole [.Subscript (.Name x p) a p2] e pos.line X.env = pure false := by rfl) (hw : swappedStores [.Subscript (.Name x p) a p2] e X.env = pure none := by rfl)
    (h1 : (assignEach [.Subscript (.Name x p) a p2] X.env).map (·.2) = [assign (.Subscript (.Name x p) a p2) X.env] := by rfl)
    (hA : ∀ v, assign (.Subscript (.Name x p) a p2) X.env v = (do
      let ov ← holding [v] (eval (.Name x p) X.env)
      let iv ← holding [v, ov] (eval a X.env)
      standAt p2
      holding [v, ov, iv] (setItem ov iv v)
      release [v, ov, iv] []) := by intro _; rfl) :
    PS X (.Assign [.Subscript (.Name x p) a p2] e pos) (rS X.K (setM i m ma)) := toS (ps_asg he (pg_sub (pe_var hN hv hd hcd) ha set_list hA) hs hw h1) (sim_setL sim_rE sim_rE)
theorem s_par (i j : Nat) {x y : Str} {mr : MA} {px py pt pt2 : Pos} {kt k2 : Nat} (hc : X.calm = true) (hN : X.N.Nodup) (ha : PA X [a, b] (rA X.K mr)) (hi : X.N[i]? = some x := by rfl) (hj : X.N[j]? = some y := by rfl) (hij : i ≠ j := by decide)
    (hx : X.env.scope.names.lookup x = some .local := by rfl) (hy : X.env.scope.names.lookup y = some .local := by rfl)
    (hw : swappedStores [.Tuple [.Name x px, .Name y py] kt pt] (.Tuple [a, b] k2 pt2) X.env = pure (some [x, y]) := by rfl)
    (hs : swapsWithSole [.Tuple [.Name x px, .Name y py] kt pt] (.Tuple [a, b] k2 pt2) pos.line X.env = pure false := by rfl) :
    PS X (.Assign [.Tuple [.Name x px, .Name y py] kt pt] (.Tuple [a, b] k2 pt2) pos) (rS X.K (parM i j mr)) := toS (ps_par hc hN hi hj hij hx hy ha hw hs) (sim_par sim_rA)
/-- xs.append(e), xs.pop(e) -/
theorem d_app (i : Nat) {x : Str} {p ap : Pos} (he : PE X e (rE X.K m)) (hN : X.N[i]? = some x := by rfl) (hv : Vis X.env.scope x := by first | exact Or.inl rfl | exact Or.inr (Or.inl rfl) | exact Or.inr (Or.inr rfl)) (hd : (x == ("__debug__" : Str)) = false := by decide)
    (hcd : (x == ("__classdict__" : Str)) = false := by decide) (hs : starEach [e] X.env = (false, eval e X.env) :: starEach [] X.env := by rfl) (hbase : attributeBase (.Name x p) "append" X.env (eval (.Name x p) X.env) = eval (.Name x p) X.env := by rfl)
    (hfew : ((backTo pos (starEach [e] X.env)).all (fun x => !x.1) && (backToKw pos (keywordEach [] X.env)).all (fun x => x.1.isSome)
      && decide ([e].length + ([] : List Keyword).length + (if ([] : List Keyword).isEmpty then 0 else 1) < 30)) = true := by rfl)
    (hline : (ap.endLine == pos.line) = true := by rfl) (hplain : (backTo pos (starEach ([] : List Expr) X.env)).any (·.1) = false := by rfl) :
    PE X (.Call (.Attribute (.Name x p) "append" ap) [e] [] pos) (rE X.K (appM i m)) :=
  toE (pe_bm PySem.F.plainAttrs_list PySem.F.slot_list_append PySem.F.type_list_append mt_append (pe_var hN hv hd hcd) (pa_cons he pa_nil hs) hbase hfew hline hs hplain) (sim_app sim_rE)
theorem d_pop (i : Nat) {x : Str} {p ap : Pos} (he : PE X e (rE X.K m)) (hN : X.N[i]? = some x := by rfl) (hv : Vis X.env.scope x := by first | exact Or.inl rfl | exact Or.inr (Or.inl rfl) | exact Or.inr (Or.inr rfl)) (hd : (x == ("__debug__" : Str)) = false := by decide)
    (hcd : (x == ("__classdict__" : Str)) = false := by decide) (hs : starEach [e] X.env = (false, eval e X.env) :: starEach [] X.env := by rfl) (hbase : attributeBase (.Name x p) "pop" X.env (eval (.Name x p) X.env) = eval (.Name x p) X.env := by rfl)
    (hfew : ((backTo pos (starEach [e] X.env)).all (fun x => !x.1) && (backToKw pos (keywordEach [] X.env)).all (fun x => x.1.isSome)
      && decide ([e].length + ([] : List Keyword).length + (if ([] : List Keyword).isEmpty then 0 else 1) < 30)) = true := by rfl)
    (hline : (ap.endLine == pos.line) = true := by rfl) (hplain : (backTo pos (starEach ([] : List Expr) X.env)).any (·.1) = false := by rfl) :
    PE X (.Call (.Attribute (.Name x p) "pop" ap) [e] [] pos) (rE X.K (popM i m)) :=
  toE (pe_bm PySem.F.plainAttrs_list PySem.F.slot_list_pop PySem.F.type_list_pop mt_popAt (pe_var hN hv hd hcd) (pa_cons he pa_nil hs) hbase hfew hline hs hplain) (sim_pop sim_rE)
end
end Dk
namespace Dk
open PySem PySem.Spec PyProof.Rows L2
/-- a def as the top has left it -/
def DefAt (K : PySem.W.Frag) (mg : Str → Option Value) (x : Str) (st : Stmt) : Prop := ∃ f fd, Fun K x x st f fd ∧ mg x = some (.ref f)
/-- a def that means m -/
def Has (P : Program) (w : World) (K : PySem.W.Frag) (mg : Str → Option Value) (base : Heap) (x : Str) (k : Nat) (ps : List Str) (m : MS) : Prop :=
  ∃ f fd, FnD P w K mg base k f fd ps m ∧ mg x = some (.ref f) ∧ PySem.W.keepIn K (.ref f) = true ∧ Binds K fd ps []
/-- a constant of the module -/
def GlobD (K : PySem.W.Frag) (mg : Str → Option Value) (x : Str) (d : D) : Prop := ∃ v u, mg x = some u ∧ RelV v u ∧ ∀ F : Hp, Rp K F v d
theorem GlobD.d {X : Cx} {x : Str} {d : D} {pos : Pos} (h : GlobD X.K X.mg x d) (hg : Gl X x := by rfl) (hd : (x == ("__debug__" : Str)) = false := by decide) : PE X (.Name x pos) (rE X.K (cM d)) := by
  obtain ⟨v, u, h1, h2, h3⟩ := h
  exact d_glob h1 h2 h3 hg hd
section
variable {P : Program} {w : World} {K : PySem.W.Frag} {mg : Str → Option Value} {base : Heap}
theorem hasD {x : Str} {st : Stmt} {N ps : List Str} {k a n : Nat} {m : MS} (At : DefAt K mg x st) (S : FnScope N ps (defScope st)) (ha : ps.length = a) (hn : N.length - ps.length = n)
    (hbd : ∀ (kV doc pm : Value) (an : Option Addr) (cdv ct : Value) (us : List Value), us.length = ps.length → bindArgs (PySem.W.fnOf x x (defArgs st) (defBody st) (defScope st) .none kV doc pm an cdv ct) ⟨us, []⟩ = pure (ps.zip us))
    (hb : ∀ (f : Addr) (cdv : Value) (A : Around) (outer : List PySem.Env) (s : Shared) (H : Hp), Room k (A.deeper (envOfC x (defScope st) s.heap.objs.size f cdv)) → (A.deeper (envOfC x (defScope st) s.heap.objs.size f cdv)).guards = some [] →
      PSs (cxOf CX0 P w K mg base N x (defScope st) f cdv A outer s H E0).nox (defBody st) (rS K m)) : Has P w K mg base x (k + 1) ps (fnM a n m) := by
  obtain ⟨f, fd, Fu, hm⟩ := At
  exact ⟨f, fd, fnD Fu S ha hn (hb f), hm, Fu.kp, Fu.binds hbd⟩
end
section
variable {X : Cx} {e : Expr} {es : List Expr} {pos : Pos} {k : Nat}
theorem d_callH {ps : List Str} {fm : MS} {x : Str} {mr : MA} {p : Pos} (F : Has X.prog X.w X.K X.mg X.base x k ps fm) (hr : Room k X.A) (hgd : X.A.guards = some []) (ha : PA X (e :: es) (rA X.K mr))
    (hg : Gl X x := by rfl) (hdb : (x == ("__debug__" : Str)) = false := by decide) (he : starEach (e :: es) X.env = (false, eval e X.env) :: starEach es X.env := by rfl) (hpl : (backTo pos (starEach es X.env)).any (·.1) = false := by rfl) :
    PE X (.Call (.Name x p) (e :: es) [] pos) (rE X.K (callM fm mr)) := by
  obtain ⟨f, fd, F, hm, hk, hb⟩ := F
  exact d_call F hm hk hb hr hgd ha hg hdb he hpl
theorem d_callNH {ps : List Str} {fm : MS} {x : Str} {mr : MA} {p : Pos} (F : Has X.prog X.w X.K X.mg X.base x k ps fm) (hr : Room k X.A) (hgd : X.A.guards = some []) (ha : PA X (e :: es) (rA X.K mr))
    (hg : Gl X x := by rfl) (hdb : (x == ("__debug__" : Str)) = false := by decide) (he : starEach (e :: es) X.env = (false, eval e X.env) :: starEach es X.env := by rfl) (hpl : (backTo pos (starEach es X.env)).any (·.1) = false := by rfl) :
    PE X (.Call (.Name x p) (e :: es) [] pos) (rN X.K (callN fm mr)) := by
  obtain ⟨f, fd, F, hm, hk, hb⟩ := F
  exact d_callN F hm hk hb hr hgd ha hg hdb he hpl
theorem d_callCH (i : Nat) {ps : List Str} {fm : MS} {x y : Str} {mr : MA} {p py : Pos} (F : Has X.prog X.w X.K X.mg X.base x k ps fm) (hr : Room k X.A) (hgd : X.A.guards = some [])
    (ha : PA X es (rA X.K mr)) (hN : X.N[i]? = some y := by rfl) (hv : Vis X.env.scope y := by first | exact Or.inl rfl | exact Or.inr (Or.inl rfl) | exact Or.inr (Or.inr rfl)) (hd : (y == ("__debug__" : Str)) = false := by decide)
    (hcd : (y == ("__classdict__" : Str)) = false := by decide) (hg : Gl X x := by rfl) (hdb : (x == ("__debug__" : Str)) = false := by decide) (he : starEach (.Name y py :: es) X.env = (false, eval (.Name y py) X.env) :: starEach es X.env := by rfl) (hpl : (backTo pos (starEach es X.env)).any (·.1) = false := by rfl) :
    PE X (.Call (.Name x p) (.Name y py :: es) [] pos) (rE X.K (callC i fm mr)) := by
  obtain ⟨f, fd, F, hm, hk, hb⟩ := F
  exact d_callC i F hm hk hb hr hgd ha hN hv hd hcd hg hdb he hpl
theorem d_callCNH (i : Nat) {ps : List Str} {fm : MS} {x y : Str} {mr : MA} {p py : Pos} (F : Has X.prog X.w X.K X.mg X.base x k ps fm) (hr : Room k X.A) (hgd : X.A.guards = some [])
    (ha : PA X es (rA X.K mr)) (hN : X.N[i]? = some y := by rfl) (hv : Vis X.env.scope y := by first | exact Or.inl rfl | exact Or.inr (Or.inl rfl) | exact Or.inr (Or.inr rfl)) (hd : (y == ("__debug__" : Str)) = false := by decide)
    (hcd : (y == ("__classdict__" : Str)) = false := by decide) (hg : Gl X x := by rfl) (hdb : (x == ("__debug__" : Str)) = false := by decide) (he : starEach (.Name y py :: es) X.env = (false, eval (.Name y py) X.env) :: starEach es X.env := by rfl) (hpl : (backTo pos (starEach es X.env)).any (·.1) = false := by rfl) :
    PE X (.Call (.Name x p) (.Name y py :: es) [] pos) (rN X.K (callCN i fm mr)) := by
  obtain ⟨f, fd, F, hm, hk, hb⟩ := F
  exact d_callCN i F hm hk hb hr hgd ha hN hv hd hcd hg hdb he hpl
end
end Dk
namespace Dk
open PySem PySem.Spec PyProof.Rows L2
variable {K : PySem.W.Frag}

/-! ### isinstance -/
def tyN : D → String
  | .non => "NoneType"
  | .bl _ => "bool"
  | .int _ => "int"
  | .str _ => "str"
  | .lst _ => "list"
  | .tup _ => "tuple"
  | .dic _ => "dict"
  | .scr _ => "list"
def isiD (T : String) (d : D) : Option D := (kitB (tyN d) T).map .bl
theorem SqT.tyX {H : Hp} {a : Addr} {xs : List V} (h : SqT K H a xs) : TyX K H (.ref a) (.type "tuple") := by
  rcases h with (h | ⟨o, h⟩) | ⟨o, its, n, hk, hc, _⟩
  · exact .base (.tup h)
  · exact .fTuple h
  · exact .kTuple hk hc
theorem SqL.tyX {H : Hp} {a : Addr} {xs : List V} (h : SqL K H a xs) : TyX K H (.ref a) (.type "list") := by
  rcases h with (h | ⟨o, h⟩) | ⟨o, its, n, hk, hc, _⟩
  · exact .base (.lst h)
  · exact .base (.frz h)
  · exact .kList hk hc
theorem Bw.tyX {F H : Hp} {x : V} {d : D} (s : Same F H) (b : Bw K F H x d) : TyX K H x (.type (tyN d)) := by
  cases d with
  | non => cases b.isNon; exact .base .non
  | bl c => cases b.isBl; exact .base (.bl _)
  | int c => cases b.isInt; exact .base (.int _)
  | str c => cases b.isStr; exact .base (.str _)
  | lst c => obtain ⟨a, xs, rfl, h, _⟩ := b.isLst s; exact .base (.lst h)
  | tup c => obtain ⟨a, xs, rfl, h, _⟩ := b.isTup s; exact SqT.tyX h
  | dic c => obtain ⟨a, xs, rfl, h, _⟩ := b.isDic s; exact .base (.dK h)
  | scr c => obtain ⟨a, rfl, h⟩ := b.isScr s; exact SqL.tyX h
theorem sim_isi {T : String} {ta : TE} {ma : ME} (ha : SimE K ta ma) : SimE K (tCB (rIsi K) (tCons ta (tCons (tC (.ty T)) tNil))) (unM (isiD T) ma) := ⟨fun {F0 Gd ios F H σ e os l e' Q} W hm q => by
  unfold unM at hm
  obtain ⟨⟨l1, e1⟩, h1, hm⟩ := Option.bind_eq_some_iff.mp hm
  obtain ⟨a, ra, hm⟩ := Option.bind_eq_some_iff.mp hm
  obtain ⟨d, hd, hm⟩ := Option.map_eq_some_iff.mp hm
  cases hm
  obtain ⟨b, hb, rfl⟩ := Option.map_eq_some_iff.mp hd
  exact ha.run W h1 fun F1 H1 os1 x W1 s1 k1 => ⟨x, .ty T, _, .type T, b, rfl, .ty T, (W1.bw k1 ra).tyX W1.fh, kit_ty hb, q F1 H1 os1 _ W1 s1 (Rp.bl b)⟩⟩

/-! ### in -/
def keyD : D → Option Key
  | .int i => some (.inl i)
  | .str x => some (.inr x)
  | _ => none
def flD : D → Option V
  | .non => some .non
  | .bl b => some (.bl b)
  | .int i => some (.int i)
  | .str x => some (.str x)
  | _ => none
def flsD : List D → Option (List V)
  | [] => some []
  | d :: r => (flD d).bind fun a => (flsD r).map fun b => a :: b
theorem flD_bw {F H : Hp} {x v : V} {d : D} (b : Bw K F H x d) (h : flD d = some v) : x = v ∧ flatV v = true := by
  cases d with
  | non => cases h; exact ⟨b.isNon, rfl⟩
  | bl c => cases h; exact ⟨b.isBl, rfl⟩
  | int c => cases h; exact ⟨b.isInt, rfl⟩
  | str c => cases h; exact ⟨b.isStr, rfl⟩
  | _ => cases h
theorem flsD_rp {F : Hp} : ∀ {xs vs : List V} {ds : List D}, RpL K F xs ds → flsD ds = some vs → xs = vs ∧ vs.all flatV = true
  | _, _, _, .nil, h => by cases h; exact ⟨rfl, rfl⟩
  | _, _, _, .cons r1 r2, h => by
    obtain ⟨a, h1, h⟩ := Option.bind_eq_some_iff.mp h
    obtain ⟨b, h2, h⟩ := Option.map_eq_some_iff.mp h
    cases h
    obtain ⟨e1, f1⟩ := flD_bw (H := F) (.inl r1) h1
    obtain ⟨e2, f2⟩ := flsD_rp r2 h2
    subst e1 e2
    exact ⟨rfl, by rw [List.all_cons, f1, f2]; rfl⟩
def inB (x y : Str) : Bool := match x.cps.toList with
  | [c] => decide (c ∈ y.cps.toList)
  | _ => !(Builtin.Str.occurrences y x 0 y.length 1).isEmpty
def valD (es : List (Key × D)) (k : Key) : Option D := (es.find? fun p => decide (p.1 = k)).map (·.2)
def inD (neg : Bool) : D → D → Option D
  | .str x, .str y => some (.bl (xor neg (inB x y)))
  | x, .lst ys => (flD x).bind fun v => (flsD ys).map fun vs => .bl (xor neg (inV v vs))
  | x, .tup ys => (flD x).bind fun v => (flsD ys).map fun vs => .bl (xor neg (inV v vs))
  | x, .dic es => (keyD x).map fun k => .bl (xor neg (valD es k).isSome)
  | _, _ => none
def rInAny (K : PySem.W.Frag) (neg : Bool) : R2 := fun x y H Q => (∃ p xs, y = .ref p ∧ (SqL K H p xs ∨ SqT K H p xs) ∧ flatV x = true ∧ xs.all flatV = true ∧ Q (.bl (xor neg (inV x xs))) H) ∨
  (∃ i j, x = .str i ∧ y = .str j ∧ Q (.bl (xor neg (inB i j))) H) ∨ ∃ a o, y = .ref a ∧ DGet H a x o ∧ Q (.bl (xor neg o.isSome)) H
theorem xor_t (b : Bool) : xor true b = !b := by cases b <;> rfl
theorem xor_f (b : Bool) : xor false b = b := by cases b <;> rfl
theorem str_one {x : Str} {c : Nat} (h : x.cps.toList = [c]) : x = ⟨#[c]⟩ := by
  cases x with
  | mk a => cases a with
    | mk l => cases h; rfl
theorem opr_in {X : Cx} (hu : X.A.units + 1 < cLine) : OpR X (compareOp .In) (rInAny X.K false) := by
  intro pins s σ H x y v u Q I rx ry h
  rcases h with ⟨p, xs, e, h1, h2, h3, q⟩ | ⟨i, j, rfl, rfl, q⟩ | ⟨a, o, rfl, g, q⟩
  · refine op_in_seq pins s σ H x y v u Q I rx ry ⟨p, xs, e, h1, h2, h3, ?_⟩
    rw [xor_f] at q; exact q
  · rw [xor_f] at q
    unfold inB at q
    split at q
    · rename_i c hc
      cases str_one hc
      exact op_in_sign pins s σ H _ _ v u Q I rx ry ⟨c, j, rfl, rfl, q⟩
    · exact op_in_str pins s σ H _ _ v u Q I rx ry ⟨i, j, rfl, rfl, q⟩
  · rw [xor_f] at q
    cases ry
    exact d_in hu I g rx fun s' I' => ⟨.bl _, H, I', rfl, q⟩
theorem opr_notin {X : Cx} (hu : X.A.units + 1 < cLine) : OpR X (compareOp .NotIn) (rInAny X.K true) := by
  intro pins s σ H x y v u Q I rx ry h
  rcases h with ⟨p, xs, e, h1, h2, h3, q⟩ | ⟨i, j, rfl, rfl, q⟩ | ⟨a, o, rfl, g, q⟩
  · refine op_notIn_seq pins s σ H x y v u Q I rx ry ⟨p, xs, e, h1, h2, h3, ?_⟩
    rw [xor_t] at q; exact q
  · rw [xor_t] at q
    unfold inB at q
    split at q
    · rename_i c hc
      cases str_one hc
      exact op_notIn_sign pins s σ H _ _ v u Q I rx ry ⟨c, j, rfl, rfl, q⟩
    · exact op_notin_str pins s σ H _ _ v u Q I rx ry ⟨i, j, rfl, rfl, q⟩
  · rw [xor_t] at q
    cases ry
    exact d_notIn hu I g rx fun s' I' => ⟨.bl _, H, I', rfl, q⟩
theorem keyD_bw {F H : Hp} {x : V} {d : D} {k : Key} (b : Bw K F H x d) (h : keyD d = some k) : x = kV k := by
  cases d with
  | int c => cases h; exact b.isInt
  | str c => cases h; exact b.isStr
  | _ => cases h
theorem RpK.val {F : Hp} {k : Key} : ∀ {kvs : List (Key × V)} {es : List (Key × D)}, RpK K F kvs es → (valV kvs k).isSome = (valD es k).isSome ∧ ∀ d, valD es k = some d → ∃ v, valV kvs k = some v ∧ Rp K F v d
  | _, _, .nil => ⟨rfl, fun d h => nomatch h⟩
  | _, _, .cons (k := j) (v := v) (vs := vs) (d := d) (ds := ds) h r => by
    obtain ⟨h1, h2⟩ := RpK.val (k := k) r
    unfold valV valD at h1 h2 ⊢
    by_cases e : j = k
    · rw [List.find?_cons_of_pos (by exact decide_eq_true e), List.find?_cons_of_pos (by exact decide_eq_true e)]
      exact ⟨rfl, fun d hd => by cases hd; exact ⟨v, rfl, h⟩⟩
    · rw [List.find?_cons_of_neg (by simpa using e), List.find?_cons_of_neg (by simpa using e)]
      exact ⟨h1, h2⟩
theorem op2_in (neg : Bool) : Op2 K (rInAny K neg) (inD neg) := fun {F H x y dx dy d Q} s bx bY hd q => by
  have seq : ∀ ys : List D, (dy = .lst ys ∨ dy = .tup ys) → ((flD dx).bind fun v => (flsD ys).map fun vs => D.bl (xor neg (inV v vs))) = some d → rInAny K neg x y H Q := by
    intro ys hy h
    obtain ⟨v, h1, h⟩ := Option.bind_eq_some_iff.mp h
    obtain ⟨vs, h2, h⟩ := Option.map_eq_some_iff.mp h
    cases h
    obtain ⟨e1, f1⟩ := flD_bw bx h1
    subst e1
    rcases hy with rfl | rfl
    · obtain ⟨a, xs, rfl, ha, rx⟩ := bY.isLst s
      obtain ⟨e2, f2⟩ := flsD_rp rx h2
      subst e2
      exact .inl ⟨a, xs, rfl, .inl (.inl (.inl ha)), f1, f2, q F H _ (Ext.refl s) (.bl _)⟩
    · obtain ⟨a, xs, rfl, ha, rx, _⟩ := bY.isTup s
      obtain ⟨e2, f2⟩ := flsD_rp rx h2
      subst e2
      exact .inl ⟨a, xs, rfl, .inr ha, f1, f2, q F H _ (Ext.refl s) (.bl _)⟩
  unfold inD at hd
  split at hd
  · cases hd
    cases bx.isStr; cases bY.isStr
    exact .inr (.inl ⟨_, _, rfl, rfl, q F H _ (Ext.refl s) (.bl _)⟩)
  · exact seq _ (.inl rfl) hd
  · exact seq _ (.inr rfl) hd
  · obtain ⟨k, h1, h⟩ := Option.map_eq_some_iff.mp hd
    cases h
    cases keyD_bw bx h1
    obtain ⟨a, xs, rfl, ha, rx⟩ := bY.isDic s
    refine .inr (.inr ⟨a, _, rfl, DGet.k ha, ?_⟩)
    rw [(rx.val (k := k)).1]
    exact q F H _ (Ext.refl s) (.bl _)
  · cases hd

/-! ### texts times ints -/
def repS (x : Str) (n : Int) : Str := if n < 1 then Str.empty else if (n == 1 || x.length == 0) = true then x else ⟨(List.replicate n.toNat x.cps).foldl (· ++ ·) #[]⟩
def mulS : D → D → Option D
  | .str x, .int n => (okB (decide (-1000000 ≤ n) && decide (n ≤ 1000000) && few (x.length * n.toNat))).map fun _ => .str (repS x n)
  | _, _ => none
def rMulS : R2 := fun x y H Q => ∃ z n, x = .str z ∧ y = .int n ∧ -1000000 ≤ n ∧ n ≤ 1000000 ∧ z.length * n.toNat ≤ 1000000 ∧ Q (.str (repS z n)) H
theorem rep_size (a : Array Nat) : ∀ (n : Nat) (acc : Array Nat), ((List.replicate n a).foldl (· ++ ·) acc).size = acc.size + n * a.size
  | 0, acc => by simp
  | n + 1, acc => by
    rw [List.replicate_succ, List.foldl_cons, rep_size a n, Array.size_append, Nat.succ_mul]
    omega
theorem op_mulS {X : Cx} : OpR X (binaryOp .Mult) rMulS := by
  intro pins s σ H x y v u Q I rx ry h
  obtain ⟨z, n, rfl, rfl, h1, h2, h3, q⟩ := h
  obtain ⟨t, rfl⟩ := rx
  obtain ⟨t2, rfl⟩ := ry
  have hz : ¬ n < 1 → z.length ≤ 1000000 := fun a => by
    have h4 : 1 ≤ n.toNat := by omega
    have h5 : z.length ≤ z.length * n.toNat := Nat.le_mul_of_pos_right _ h4
    omega
  refine PySem.P.mul_str ?_ ?_ ?_ ?_
  · rw [decide_eq_false (by omega), decide_eq_false (by omega)]; rfl
  · intro a b
    have hz := hz a
    have h6 : (1000000 : Int) ≤ (2 ^ 63 - 1) / n := by
      apply Int.le_ediv_of_mul_le (by omega)
      have : 1000000 * n ≤ 1000000 * 1000000 := by omega
      omega
    omega
  · intro a b
    unfold Builtin.Str.tooLong
    exact decide_eq_false (fun hh => absurd (Nat.lt_of_lt_of_le hh h3) (by decide))
  · unfold repS at q
    by_cases hn : n < 1
    · rw [if_pos hn] at q ⊢
      exact ⟨by decide, .str _, H, I.tok _, ⟨_, rfl⟩, q⟩
    · rw [if_neg hn] at q ⊢
      by_cases hb : (n == 1 || z.length == 0) = true
      · rw [if_pos hb] at q ⊢
        exact ⟨.str _, H, I, ⟨_, rfl⟩, q⟩
      · rw [if_neg hb] at q ⊢
        refine ⟨?_, .str _, H, I.tok _, ⟨_, rfl⟩, q⟩
        show ((List.replicate n.toNat z.cps).foldl (· ++ ·) #[]).size ≤ sizeLine
        rw [rep_size]
        have : n.toNat * z.cps.size ≤ 1000000 := by rw [Nat.mul_comm]; exact h3
        have h8 : (1000000 : Nat) ≤ sizeLine := by decide
        simp only [List.size_toArray, List.length_nil]
        omega
theorem op2_mulS : Op2 K rMulS mulS := fun {F H x y dx dy d Q} s bx bY hd q => by
  unfold mulS at hd
  split at hd
  · obtain ⟨_, h, hd⟩ := Option.map_eq_some_iff.mp hd
    cases hd
    cases bx.isStr; cases bY.isInt
    have h := Bool.and_eq_true_iff.mp (okB_iff h)
    have h1 := Bool.and_eq_true_iff.mp h.1
    exact ⟨_, _, rfl, rfl, of_decide_eq_true h1.1, of_decide_eq_true h1.2, of_decide_eq_true h.2, q F H _ (Ext.refl s) (.str _)⟩
  · cases hd

/-! ### slices -/
abbrev MO := Option ME
structure SimO (K : PySem.W.Frag) (t : TO) (m : MO) : Prop where
  run : ∀ {F0 Gd : Hp} {ios : List (Option Addr)} {F H : Hp} {σ : L2.St} {e : Env} {os : List (Option Addr)} {e' : Env} {o : Option Int} {Q : Option Int → Hp → Prop}, WOk K F0 Gd ios F H σ e os →
    (match m with | none => some (none, e) | some m => (m e).bind fun p => (rd p.2 p.1).bind fun d => (asI d).map fun i => (some i, p.2)) = some (o, e') →
    (∀ F' H' os', WOk K F0 Gd ios F' H' σ e' os' → Same F F' → Q o H') → t σ H Q
theorem sim_noPart : SimO K tNoPart none := ⟨fun {F0 Gd ios F H σ e os e' o Q} W hm q => by cases hm; exact q F H os W (Same.refl _)⟩
theorem sim_part {t : TE} {m : ME} (h : SimE K t m) : SimO K (tPart t) (some m) := ⟨fun {F0 Gd ios F H σ e os e' o Q} W hm q => by
  obtain ⟨⟨l1, e1⟩, h1, hm⟩ := Option.bind_eq_some_iff.mp hm
  obtain ⟨a, ra, hm⟩ := Option.bind_eq_some_iff.mp hm
  obtain ⟨i, hi, hm⟩ := Option.map_eq_some_iff.mp hm
  cases hm
  cases asI_iff hi
  exact h.run W h1 fun F1 H1 os1 x W1 s1 k1 => ⟨i, (W1.bw k1 ra).isInt, q F1 H1 os1 W1 s1⟩⟩
def optM (m : MO) : Env → Option (Option Int × Env) := fun e => match m with
  | none => some (none, e)
  | some m => (m e).bind fun p => (rd p.2 p.1).bind fun d => (asI d).map fun i => (some i, p.2)
def slM (op : D → Option Int → Option Int → Option D) (m : ME) (lo hi : MO) : ME := fun e => (m e).bind fun p => (optM lo p.2).bind fun q => (optM hi q.2).bind fun r => (rd r.2 p.1).bind fun d => (op d q.1 r.1).map fun c => (.v c, r.2)
def cutL {α : Type} (xs : List α) (lo hi : Option Int) : List α := (xs.drop (HT.sIx xs.length 0 lo)).take (HT.sIx xs.length xs.length hi - HT.sIx xs.length 0 lo)
def cutD : D → Option Int → Option Int → Option D
  | .str x, lo, hi => (okB (few x.length)).map fun _ => .str (cutS x lo hi)
  | .lst xs, lo, hi => some (.lst (cutL xs lo hi))
  | .tup xs, lo, hi => some (.tup (cutL xs lo hi))
  | _, _, _ => none
def rSlAny (K : PySem.W.Frag) : V → Option Int → Option Int → Hp → VK → Prop := fun x lo hi H Q => rSlS x lo hi H Q ∨ rSlL K x lo hi H Q ∨ rSlA K x lo hi H Q
theorem slr_any {X : Cx} : SlR X (rSlAny X.K) := sl_str.or (sl_list.or sl_tupA)
theorem RpL.cut {F : Hp} {vs : List V} {ds : List D} (r : RpL K F vs ds) (lo hi : Option Int) : RpL K F (cutV vs lo hi) (cutL ds lo hi) := by
  unfold cutV cutL
  rw [r.length]
  exact (r.drop _).take _
theorem cut_whole {α : Type} (xs : List α) (lo hi : Option Int) (h : HT.sIx xs.length 0 lo = 0 ∧ HT.sIx xs.length xs.length hi = xs.length) : cutL xs lo hi = xs := by
  unfold cutL
  rw [h.1, h.2]
  simp
theorem sim_sl {te : TE} {tl th : TO} {m : ME} {lo hi : MO} (h : SimE K te m) (hl : SimO K tl lo) (hh : SimO K th hi) : SimE K (tSl (rSlAny K) te tl th) (slM cutD m lo hi) := ⟨fun {F0 Gd ios F H σ e os l e' Q} W hm q => by
  unfold slM at hm
  obtain ⟨⟨l1, e1⟩, h1, hm⟩ := Option.bind_eq_some_iff.mp hm
  obtain ⟨⟨o2, e2⟩, h2, hm⟩ := Option.bind_eq_some_iff.mp hm
  obtain ⟨⟨o3, e3⟩, h3, hm⟩ := Option.bind_eq_some_iff.mp hm
  obtain ⟨a, ra, hm⟩ := Option.bind_eq_some_iff.mp hm
  obtain ⟨d, hd, hm⟩ := Option.map_eq_some_iff.mp hm
  cases hm
  refine h.run W h1 fun F1 H1 os1 x W1 s1 k1 => hl.run W1 h2 fun F2 H2 os2 W2 s2 => hh.run W2 h3 fun F3 H3 os3 W3 s3 => ?_
  have b := W3.bw ((k1.mono s2).mono s3) ra
  have s4 := (s1.trans s2).trans s3
  unfold cutD at hd
  split at hd
  · obtain ⟨_, hf, hd⟩ := Option.map_eq_some_iff.mp hd
    cases hd
    exact .inl ⟨_, b.isStr, few_ok (okB_iff hf), q F3 H3 os3 _ W3 s4 (Rp.str _)⟩
  · cases hd
    obtain ⟨p, xs, rfl, hp, rx⟩ := b.isLst W3.fh
    refine .inr (.inl ⟨p, xs, rfl, .inl (.inl hp), fun r n => ?_⟩)
    have x := Ext.new (o := .lst (cutV xs o2 o3)) W3.fh n
    exact q _ _ os3 _ (W3.ext x) (s4.trans x.f) (Rp.lst upd_same ((rx.cut _ _).mono x.f))
  · cases hd
    obtain ⟨p, xs, rfl, hp, rx, hf⟩ := b.isTup W3.fh
    refine .inr (.inr ⟨p, xs, rfl, hp, fun w => ?_, fun w r n => ?_⟩)
    · rw [rx.length] at w
      have e := cut_whole _ _ _ w
      refine q F3 H3 os3 _ W3 s4 ?_
      show Rp K F3 _ _
      rw [e]
      exact .tup hf rx
    · have x := Ext.new (o := .tup (cutV xs o2 o3)) W3.fh n
      exact q _ _ os3 _ (W3.ext x) (s4.trans x.f) (Rp.tup (.inl (.inl upd_same)) ((rx.cut _ _).mono x.f))
  · cases hd⟩
/-- xs[a:b] of a list, new -/
def slN (m : ME) (lo hi : MO) : MN := fun e => (m e).bind fun p => (optM lo p.2).bind fun q => (optM hi q.2).bind fun r => (rd r.2 p.1).bind fun d => (asL d).map fun c => (.lst (cutL c q.1 r.1), r.2)
theorem sim_slN {te : TE} {tl th : TO} {m : ME} {lo hi : MO} (h : SimE K te m) (hl : SimO K tl lo) (hh : SimO K th hi) : SimN K (tSl (rSlL K) te tl th) (slN m lo hi) := ⟨fun {F0 Gd ios F H σ e os l e' Q} W hm q => by
  unfold slN at hm
  obtain ⟨⟨l1, e1⟩, h1, hm⟩ := Option.bind_eq_some_iff.mp hm
  obtain ⟨⟨o2, e2⟩, h2, hm⟩ := Option.bind_eq_some_iff.mp hm
  obtain ⟨⟨o3, e3⟩, h3, hm⟩ := Option.bind_eq_some_iff.mp hm
  obtain ⟨a, ra, hm⟩ := Option.bind_eq_some_iff.mp hm
  obtain ⟨d, hd, hm⟩ := Option.map_eq_some_iff.mp hm
  cases hm
  cases asL_iff hd
  refine h.run W h1 fun F1 H1 os1 x W1 s1 k1 => hl.run W1 h2 fun F2 H2 os2 W2 s2 => hh.run W2 h3 fun F3 H3 os3 W3 s3 => ?_
  have b := W3.bw ((k1.mono s2).mono s3) ra
  obtain ⟨p, xs, rfl, hp, rx⟩ := b.isLst W3.fh
  refine ⟨p, xs, rfl, .inl (.inl hp), fun r n => ?_⟩
  obtain ⟨W4, nw⟩ := W3.lay (o := .lst (cutV xs o2 o3)) (d := .lst (cutL d o2 o3)) n ⟨W3.fh.free n, _, upd_same, rx.cut _ _⟩
  exact q F3 _ os3 r W4 ((s1.trans s2).trans s3) nw⟩

/-! ### stars in displays -/
def seqD : D → Option (List D)
  | .lst ds => some ds
  | .tup ds => some ds
  | _ => none
def starA (m : ME) (r : MA) : MA := fun e => (m e).bind fun p => (rd p.2 p.1).bind fun d => (seqD d).bind fun ds => (r p.2).map fun q => (ds.map L.v ++ q.1, q.2)
theorem LsOk.app {F : Hp} {σ : L2.St} : ∀ {xs ys : List V} {ls ks : List L}, LsOk K F σ xs ls → LsOk K F σ ys ks → LsOk K F σ (xs ++ ys) (ls ++ ks)
  | _, _, _, _, .nil, h => h
  | _, _, _, _, .cons a r, h => .cons a (r.app h)
theorem LsOk.ofRp {F : Hp} {σ : L2.St} : ∀ {xs : List V} {ds : List D}, RpL K F xs ds → LsOk K F σ xs (ds.map L.v)
  | _, _, .nil => .nil
  | _, _, .cons h r => .cons h (LsOk.ofRp r)
theorem sim_star {te : TE} {t : TA} {m : ME} {r : MA} (h : SimE K te m) (hr : SimA K t r) : SimA K (StX.tStar K te t) (starA m r) := ⟨fun {F0 Gd ios F H σ e os ls e' Q} W hm q => by
  unfold starA at hm
  obtain ⟨⟨l1, e1⟩, h1, hm⟩ := Option.bind_eq_some_iff.mp hm
  obtain ⟨a, ra, hm⟩ := Option.bind_eq_some_iff.mp hm
  obtain ⟨ds, hd, hm⟩ := Option.bind_eq_some_iff.mp hm
  obtain ⟨⟨ks, e2⟩, h2, hm⟩ := Option.map_eq_some_iff.mp hm
  cases hm
  refine h.run W h1 fun F1 H1 os1 x W1 s1 k1 => ?_
  have b := W1.bw k1 ra
  have fin : ∀ xs : List V, RpL K F1 xs ds → t σ H1 fun ys H2 => Q (xs ++ ys) H2 := fun xs rx => hr.run W1 h2 fun F2 H2 os2 ys W2 s2 k2 => q F2 H2 os2 _ W2 (s1.trans s2) ((LsOk.ofRp (rx.mono s2)).app k2)
  unfold seqD at hd
  split at hd
  · cases hd
    obtain ⟨p, xs, rfl, hp, rx⟩ := b.isLst W1.fh
    exact ⟨p, xs, rfl, .inr (.inl (.inl hp)), fin xs rx⟩
  · cases hd
    obtain ⟨p, xs, rfl, hp, rx, _⟩ := b.isTup W1.fh
    exact ⟨p, xs, rfl, .inl hp, fin xs rx⟩
  · cases hd⟩

/-! ### list(range), tuple(range) -/
def rgD (a b : Int) : List D := (List.range (b - a).toNat).map fun (i : Nat) => D.int (a + i)
theorem rgD_rp {F : Hp} (a b : Int) : RpL K F (rgV a b) (rgD a b) := by
  unfold rgV rgD
  generalize List.range (b - a).toNat = l
  induction l with
  | nil => exact .nil
  | cons x r ih => exact .cons (.int _) ih
def rg2 (a b : Int) : Bool := decide (-(2 ^ 62) ≤ a) && decide (a < 2 ^ 62) && decide (-(2 ^ 62) ≤ b) && decide (b < 2 ^ 62) && decide ((b - a).toNat ≤ 1000000)
theorem rg2_ok {a b : Int} (h : rg2 a b = true) : RgOk a b := by
  unfold rg2 at h
  simp only [Bool.and_eq_true, decide_eq_true_eq] at h
  obtain ⟨⟨⟨⟨h1, h2⟩, h3⟩, h4⟩, h5⟩ := h
  exact ⟨h1, h2, h3, h4, by omega⟩
/-- range(n), range(a, b) as ends -/
abbrev MR := Env → Option ((Int × Int) × Env)
def rg1M (m : ME) : MR := fun e => (m e).bind fun p => (rd p.2 p.1).bind fun d => (asI d).map fun n => ((0, n), p.2)
def rg2M (m n : ME) : MR := fun e => (m e).bind fun p => (n p.2).bind fun q => (rd q.2 p.1).bind fun a => (rd q.2 q.1).bind fun b => (asI a).bind fun a => (asI b).map fun b => ((a, b), q.2)
structure SimR (K : PySem.W.Frag) (t : L2.St → Hp → (Int → Int → Hp → Prop) → Prop) (m : MR) : Prop where
  run : ∀ {F0 Gd : Hp} {ios : List (Option Addr)} {F H : Hp} {σ : L2.St} {e : Env} {os : List (Option Addr)} {a b : Int} {e' : Env} {Q : Int → Int → Hp → Prop}, WOk K F0 Gd ios F H σ e os → m e = some ((a, b), e') →
    (∀ F' H' os', WOk K F0 Gd ios F' H' σ e' os' → Same F F' → Q a b H') → t σ H Q
theorem sim_rg1 {t : TE} {m : ME} (h : SimE K t m) : SimR K (tRg1 t) (rg1M m) := ⟨fun {F0 Gd ios F H σ e os a b e' Q} W hm q => by
  unfold rg1M at hm
  obtain ⟨⟨l1, e1⟩, h1, hm⟩ := Option.bind_eq_some_iff.mp hm
  obtain ⟨c, rc, hm⟩ := Option.bind_eq_some_iff.mp hm
  obtain ⟨i, hi, hm⟩ := Option.map_eq_some_iff.mp hm
  cases hm
  cases asI_iff hi
  exact h.run W h1 fun F1 H1 os1 x W1 s1 k1 => ⟨b, (W1.bw k1 rc).isInt, q F1 H1 os1 W1 s1⟩⟩
theorem sim_rg2 {t u : TE} {m n : ME} (h : SimE K t m) (h2 : SimE K u n) : SimR K (tRg2 t u) (rg2M m n) := ⟨fun {F0 Gd ios F H σ e os a b e' Q} W hm q => by
  unfold rg2M at hm
  obtain ⟨⟨l1, e1⟩, k1, hm⟩ := Option.bind_eq_some_iff.mp hm
  obtain ⟨⟨l2, e2⟩, k2, hm⟩ := Option.bind_eq_some_iff.mp hm
  obtain ⟨c, rc, hm⟩ := Option.bind_eq_some_iff.mp hm
  obtain ⟨d, rdd, hm⟩ := Option.bind_eq_some_iff.mp hm
  obtain ⟨i, hi, hm⟩ := Option.bind_eq_some_iff.mp hm
  obtain ⟨j, hj, hm⟩ := Option.map_eq_some_iff.mp hm
  cases hm
  cases asI_iff hi
  cases asI_iff hj
  exact h.run W k1 fun F1 H1 os1 x W1 s1 q1 => h2.run W1 k2 fun F2 H2 os2 y W2 s2 q2 => ⟨a, b, (W2.bw (q1.mono s2) rc).isInt, (W2.bw q2 rdd).isInt, q F2 H2 os2 W2 (s1.trans s2)⟩⟩
def listRg (m : MR) : MN := fun e => (m e).bind fun p => (okB (rg2 p.1.1 p.1.2)).map fun _ => (.lst (rgD p.1.1 p.1.2), p.2)
def tupRg (m : MR) : ME := fun e => (m e).bind fun p => (okB (rg2 p.1.1 p.1.2)).map fun _ => (.v (.tup (rgD p.1.1 p.1.2)), p.2)
theorem sim_listRg {t : L2.St → Hp → (Int → Int → Hp → Prop) → Prop} {m : MR} (h : SimR K t m) : SimN K (tLstRg t) (listRg m) := ⟨fun {F0 Gd ios F H σ e os l e' Q} W hm q => by
  unfold listRg at hm
  obtain ⟨⟨⟨a, b⟩, e1⟩, h1, hm⟩ := Option.bind_eq_some_iff.mp hm
  obtain ⟨_, h2, hm⟩ := Option.map_eq_some_iff.mp hm
  cases hm
  refine h.run W h1 fun F1 H1 os1 W1 s1 => ⟨rg2_ok (okB_iff h2), fun p n => ?_⟩
  obtain ⟨W2, nw⟩ := W1.lay (o := .lst (rgV a b)) (d := .lst (rgD a b)) n ⟨W1.fh.free n, _, upd_same, rgD_rp a b⟩
  exact q F1 _ os1 p W2 s1 nw⟩
theorem sim_tupRg {t : L2.St → Hp → (Int → Int → Hp → Prop) → Prop} {m : MR} (h : SimR K t m) : SimE K (tTupRg t) (tupRg m) := ⟨fun {F0 Gd ios F H σ e os l e' Q} W hm q => by
  unfold tupRg at hm
  obtain ⟨⟨⟨a, b⟩, e1⟩, h1, hm⟩ := Option.bind_eq_some_iff.mp hm
  obtain ⟨_, h2, hm⟩ := Option.map_eq_some_iff.mp hm
  cases hm
  refine h.run W h1 fun F1 H1 os1 W1 s1 => ⟨rg2_ok (okB_iff h2), fun p n => ?_⟩
  have x := Ext.new (o := .tup (rgV a b)) W1.fh n
  exact q _ _ os1 _ (W1.ext x) (s1.trans x.f) (Rp.tup (.inl (.inl upd_same)) (rgD_rp a b))⟩

/-! ### further targets and stores -/
def unlG (n : Nat) (m : List D → Env → Option Env) : MG := fun d e => match d with
  | .lst ds => if ds.length = n then m ds e else none
  | _ => none
theorem sim_gUnl {n : Nat} {t : TGs} {js : List Nat} {m : List D → Env → Option Env} (h : SimGs K t js m) : SimG K (gUnl K n t) js (unlG n m) := ⟨fun {F0 Gd ios F H σ e os x d e' Q} W rp hm q => by
  cases rp with
  | lst hs r =>
    simp only [unlG] at hm
    split at hm
    · rename_i hl
      exact ⟨_, _, rfl, .inl (.inl (W.fh _ _ hs)), by rw [r.length]; exact hl, h.run W r hm q⟩
    · cases hm
  | _ => cases hm⟩
def par3M (i j l : Nat) (m : MA) : MS := fun e => (m e).bind fun p => (tks p.2 p.1).bind fun q => match q.1 with
  | [a, b, c] => (putZ i a q.2).bind fun e1 => (putZ j b e1).bind fun e2 => (putZ l c e2).map fun e3 => (.nx, e3)
  | _ => none
theorem sim_par3 {i j k : Nat} {t : TA} {m : MA} (h : SimA K t m) : SimS K (tPar3 i j k t) (par3M i j k m) := ⟨fun {F0 Gd ios F H σ e os fl e' G} W hm q => by
  unfold par3M at hm
  obtain ⟨⟨ls, e1⟩, z, hm⟩ := Option.bind_eq_some_iff.mp hm
  obtain ⟨⟨ds, e2⟩, y, hm⟩ := Option.bind_eq_some_iff.mp hm
  refine h.run W z fun F1 H1 os1 xs W1 s1 k => ?_
  obtain ⟨F2, os2, W2, s2, r⟩ := W1.takes k y
  simp only at hm
  split at hm
  · rename_i a b c
    cases r with
    | cons r1 r =>
      cases r with
      | cons r2 r =>
        cases r with
        | cons r3 r =>
          cases r
          obtain ⟨e3, u, hm⟩ := Option.bind_eq_some_iff.mp hm
          obtain ⟨e4, v, hm⟩ := Option.bind_eq_some_iff.mp hm
          obtain ⟨e5, w, hm⟩ := Option.map_eq_some_iff.mp hm
          cases hm
          exact ⟨_, _, _, rfl, q F2 H1 _ _ (((W2.putZ r1 u).putZ r2 v).putZ r3 w) (s1.trans s2)⟩
  · cases hm⟩
end Dk
namespace Dk
open PySem PySem.Spec PyProof.Rows L2
variable {K : PySem.W.Frag}

/-! ### repr -/
mutual
theorem toPy_noDict : ∀ {d : D} {p : PyData}, toPy d = some p → p.hasDict = false
  | .non, _, h => by cases h; simp [PyData.hasDict]
  | .bl _, _, h => by cases h; simp [PyData.hasDict]
  | .int _, _, h => by cases h; simp [PyData.hasDict]
  | .str _, _, h => by cases h; simp [PyData.hasDict]
  | .lst xs, _, h => by
    obtain ⟨ps, h1, h2⟩ := Option.map_eq_some_iff.mp h
    cases h2
    simp only [PyData.hasDict]
    exact toPyL_noDict h1
  | .tup xs, _, h => by
    obtain ⟨ps, h1, h2⟩ := Option.map_eq_some_iff.mp h
    cases h2
    simp only [PyData.hasDict]
    exact toPyL_noDict h1
  | .dic _, _, h => by cases h
  | .scr _, _, h => by cases h
theorem toPyL_noDict : ∀ {ds : List D} {ps : List PyData}, toPyL ds = some ps → PyData.hasDictAll ps = false
  | [], _, h => by cases h; simp [PyData.hasDictAll]
  | d :: r, _, h => by
    obtain ⟨a, h1, h⟩ := Option.bind_eq_some_iff.mp h
    obtain ⟨b, h2, h⟩ := Option.map_eq_some_iff.mp h
    cases h
    simp only [PyData.hasDictAll, toPy_noDict h1, toPyL_noDict h2, Bool.or_false]
end
def rRepr (K : PySem.W.Frag) : List V → Hp → VK → Prop := fun xs H Q => ∃ x p, xs = [x] ∧ Dp K H x p ∧ p.hasDict = false ∧ p.showable = true ∧ p.shown.length ≤ sizeLine ∧ p.depth ≤ 60 ∧ Q (.str p.shown) H
theorem call_reprD {X : Cx} {k : Nat} (hr : Room k X.A) (hg : X.A.guards = some []) : CallR X (.builtin "repr") (rRepr X.K) := by
  intro pins s σ H xs us Q I r h
  obtain ⟨x, p, rfl, dp, nd, sh, sz, dep, q⟩ := h
  obtain ⟨u, rfl, ru⟩ := vals1 r
  have un := hr.un
  cases dp with
  | non => cases ru; exact PySem.P.repr_of_none ⟨.str _, H, I.tok _, ⟨_, rfl⟩, by rw [PyData.shown] at q; exact q⟩
  | bl b => cases ru; exact PySem.P.repr_of_bool ⟨.str _, H, I.tok _, ⟨_, rfl⟩, by rw [PyData.shown] at q; exact q⟩
  | int i =>
    obtain ⟨t, rfl⟩ := ru
    rw [PyData.showable] at sh
    exact PySem.P.repr_of_int (of_decide_eq_true sh) ⟨.str _, H, I.tok _, ⟨_, rfl⟩, by rw [PyData.shown] at q; exact q⟩
  | str z =>
    obtain ⟨t, rfl⟩ := ru
    rw [PyData.shown] at q sz
    exact PySem.P.repr_of_str ⟨.str _, H, I.tok _, ⟨_, rfl⟩, q⟩ sz
  | lst hs ds =>
    obtain ⟨as, rd⟩ := Dp.reads I _ _ _ (Dp.lst hs ds) ru
    cases ru
    exact repr_of_reads' rd sh (fun h => absurd (nd.symm.trans h) Bool.false_ne_true) hg (by omega) (fun _ _ h => h)
      (fun h' u tk kp => ⟨.str _, H, I.kept kp, ⟨_, rfl⟩, q⟩) sz
  | tup hs ds =>
    obtain ⟨as, rd⟩ := Dp.reads I _ _ _ (Dp.tup hs ds) ru
    cases ru
    exact repr_of_reads' rd sh (fun h => absurd (nd.symm.trans h) Bool.false_ne_true) hg (by omega) (fun _ _ h => h)
      (fun h' u tk kp => ⟨.str _, H, I.kept kp, ⟨_, rfl⟩, q⟩) sz
def reprP (p : PyData) : Option D := (okB (p.showable && decide (p.shown.length ≤ sizeLine) && decide (p.depth ≤ 60))).map fun _ => .str p.shown
def reprD : List D → Option D
  | [d] => (toPy d).bind reprP
  | _ => none
theorem opA_repr : OpA K (rRepr K) reprD := fun {F H xs ds d Q} s b hd q => by
  unfold reprD at hd
  split at hd
  · obtain ⟨p, h1, hd⟩ := Option.bind_eq_some_iff.mp hd
    obtain ⟨_, h2, hd⟩ := Option.map_eq_some_iff.mp hd
    cases hd
    obtain ⟨x, rfl, b1⟩ := b.one
    have h := Bool.and_eq_true_iff.mp (okB_iff h2)
    have h3 := Bool.and_eq_true_iff.mp h.1
    exact ⟨x, p, rfl, b1.dp s h1, toPy_noDict h1, h3.1, of_decide_eq_true h3.2, of_decide_eq_true h.2, q F H _ (Ext.refl s) (.str _)⟩
  · cases hd

/-! ### sorted -/
def insL {α : Type} (le : α → α → Bool) (x : α) : List α → List α
  | [] => [x]
  | y :: r => if le x y = true then x :: y :: r else y :: insL le x r
def isort {α : Type} (le : α → α → Bool) : List α → List α
  | [] => []
  | x :: r => insL le x (isort le r)
section
variable {α : Type} {le : α → α → Bool}
theorem insL_mem {x z : α} : ∀ {l : List α}, z ∈ insL le x l → z = x ∨ z ∈ l
  | [], h => by
    rcases List.mem_cons.mp h with h | h
    · exact .inl h
    · exact .inr h
  | y :: r, h => by
    unfold insL at h
    split at h
    · rcases List.mem_cons.mp h with h | h
      · exact .inl h
      · exact .inr h
    · rcases List.mem_cons.mp h with h | h
      · exact .inr (by rw [h]; exact List.mem_cons_self)
      · rcases insL_mem h with h | h
        · exact .inl h
        · exact .inr (List.mem_cons_of_mem _ h)
theorem insL_sorted (T : PySem.W.TotalLe le) {x : α} : ∀ {l : List α}, l.Pairwise (fun a b => le a b = true) → (insL le x l).Pairwise (fun a b => le a b = true)
  | [], _ => by
    unfold insL
    exact List.pairwise_singleton _ _
  | y :: r, h => by
    obtain ⟨h1, h2⟩ := List.pairwise_cons.mp h
    unfold insL
    split
    · rename_i hxy
      refine List.pairwise_cons.mpr ⟨fun z hz => ?_, h⟩
      rcases List.mem_cons.mp hz with e | e
      · rw [e]; exact hxy
      · exact T.trans _ _ _ hxy (h1 z e)
    · rename_i hxy
      refine List.pairwise_cons.mpr ⟨fun z hz => ?_, insL_sorted T h2⟩
      rcases insL_mem hz with e | e
      · rw [e]
        have t := T.total x y
        cases q : le x y with
        | true => exact absurd q hxy
        | false => rw [q] at t; simpa using t
      · exact h1 z e
theorem isort_sorted (T : PySem.W.TotalLe le) : ∀ l : List α, (isort le l).Pairwise (fun a b => le a b = true)
  | [] => .nil
  | x :: r => insL_sorted T (isort_sorted T r)
theorem insL_filter (T : PySem.W.TotalLe le) (c x : α) : ∀ {l : List α}, (insL le x l).filter (PySem.W.sameRank le c) = (x :: l).filter (PySem.W.sameRank le c)
  | [] => rfl
  | y :: r => by
    unfold insL
    split
    · rfl
    · rename_i hxy
      rw [List.filter_cons, insL_filter T c x]
      by_cases hx : PySem.W.sameRank le c x = true
      · by_cases hy : PySem.W.sameRank le c y = true
        · exfalso
          unfold PySem.W.sameRank at hx hy
          have a := Bool.and_eq_true_iff.mp hx
          have b := Bool.and_eq_true_iff.mp hy
          exact hxy (T.trans _ _ _ a.2 b.1)
        · rw [if_neg hy, List.filter_cons_of_pos hx, List.filter_cons_of_pos hx, List.filter_cons_of_neg hy]
      · by_cases hy : PySem.W.sameRank le c y = true
        · rw [if_pos hy, List.filter_cons_of_neg hx, List.filter_cons_of_neg hx, List.filter_cons_of_pos hy]
        · rw [if_neg hy, List.filter_cons_of_neg hx, List.filter_cons_of_neg hx, List.filter_cons_of_neg hy]
theorem isort_filter (T : PySem.W.TotalLe le) (c : α) : ∀ l : List α, (isort le l).filter (PySem.W.sameRank le c) = l.filter (PySem.W.sameRank le c)
  | [] => rfl
  | x :: r => by
    show (insL le x (isort le r)).filter _ = _
    rw [insL_filter T c x, List.filter_cons, List.filter_cons, isort_filter T c r]
theorem isort_eq (T : PySem.W.TotalLe le) (l : List α) : isort le l = l.mergeSort le := PySem.W.sort_unique T (isort_sorted T l) (fun c => isort_filter T c l)
end
def encD (d : D) : PyData := (toPy d).getD .none
def leDt : D → D → Bool := PySem.W.dataLe false encD
def pyOk (d : D) : Bool := (toPy d).isSome
/-- all tuples with an item, or none a tuple or None -/
def sortableD (ds : List D) : Bool := ds.all (fun d => match d with | .tup (_ :: _) => true | _ => false) || ds.all (fun d => match d with | .tup _ => false | .non => false | _ => true)
def sortedL (ds : List D) : Option (List D) := (okB (ds.all pyOk && ds.all (fun d => ds.all fun c => PySem.W.alike (encD d) (encD c)) && sortableD ds && ds.all (fun d => decide ((encD d).depth ≤ 60)) && few ds.length)).map fun _ => isort leDt ds
def sortedD : List D → Option D
  | [.lst ds] => (sortedL ds).map .lst
  | _ => none
def rSorted (K : PySem.W.Frag) : List V → Hp → VK → Prop := fun xs H Q => ∃ (a : Addr) (bs : List (V × D)), xs = [.ref a] ∧ H a = some (.lst (bs.map (·.1))) ∧ (∀ b ∈ bs, Dp K H b.1 (encD b.2)) ∧ PySem.W.AllAlike (bs.map fun b => encD b.2) ∧
  PySem.W.Sortable (bs.map fun b => encD b.2) ∧ (∀ b ∈ bs, (encD b.2).depth ≤ 60) ∧ ∀ p, H p = none → Q (.ref p) (upd H p (.lst ((bs.mergeSort (PySem.W.dataLe false fun b => encD b.2)).map (·.1))))
theorem each_of_rel : ∀ {bs : List (V × D)} {us : List Value}, Vals (bs.map (·.1)) us → PySem.W.EachIs (fun v b => RelV b.1 v) us bs
  | [], _, h => by
    have h' : Vals [] _ := h
    cases h'; exact .nil
  | b :: bs, _, h => by
    have h' : Vals (b.1 :: bs.map (·.1)) _ := h
    cases h' with
    | cons r t => exact .cons r (each_of_rel t)
theorem rel_of_each : ∀ {bs : List (V × D)} {us : List Value}, PySem.W.EachIs (fun v b => RelV b.1 v) us bs → Vals (bs.map (·.1)) us
  | _, _, .nil => .nil
  | _, _, .cons r t => .cons r (rel_of_each t)
theorem each_reads {X : Cx} {pins : List (Addr × Obj)} {σ : L2.St} {H : Hp} {s : Shared} (I : Inv X pins σ H s) : ∀ {bs : List (V × D)} {us : List Value}, PySem.W.EachIs (fun v b => RelV b.1 v) us bs → (∀ b ∈ bs, Dp X.K H b.1 (encD b.2)) → PySem.W.EachIs (fun v b => ∃ as, Reads s.heap v (encD b.2) as) us bs
  | _, _, .nil, _ => .nil
  | _, _, .cons r t, h => .cons (Dp.reads I _ _ _ (h _ List.mem_cons_self) r) (each_reads I t fun b hb => h b (List.mem_cons_of_mem _ hb))
theorem call_sortedD {X : Cx} {k : Nat} (hr : Room k X.A) : CallR X (.builtin "sorted") (rSorted X.K) := by
  intro pins s σ H xs us Q I r h
  obtain ⟨a, bs, rfl, ha, hd, al, so, dep, q⟩ := h
  obtain ⟨its, rv, hl, hz⟩ := I.list (.inl (.inl ha))
  rw [Vals.ref1 r]
  have un := hr.un
  have e1 := each_of_rel rv
  have hz' : bs.length ≤ sizeLine := by rw [List.length_map] at hz; exact hz
  refine PySem.W.sorted_data (R := fun v b => RelV b.1 v) (enc := fun b => encD b.2) hl.isList e1 (each_reads I e1 hd) al so hz' (fun b hb => ?_) fun out ho eo => ?_
  · have := dep b hb; omega
  obtain ⟨ep, he'⟩ := PyProof.Rows.sortedAll_at s.heap its out.toArray
  have hlen : ((bs.mergeSort (PySem.W.dataLe false fun b => encD b.2)).map (·.1)).length ≤ sizeLine := by
    rw [List.length_map, List.length_mergeSort]; exact hz'
  exact ⟨.ref _, upd H (s.heap.objs.size + 1) (.lst ((bs.mergeSort (PySem.W.dataLe false fun b => encD b.2)).map (·.1))),
    I.laid (t' := s.toks) (fun _ _ => PyProof.Rows.sortedAll_old) (Nat.le_succ _) ⟨hlen, out, ep, rel_of_each eo, he'⟩, rfl, q _ (I.hok.fresh (Nat.le_succ _))⟩
theorem RpL.zip {F : Hp} : ∀ {xs : List V} {ds : List D}, RpL K F xs ds → ∃ bs : List (V × D), bs.map (·.1) = xs ∧ bs.map (·.2) = ds ∧ ∀ b ∈ bs, Rp K F b.1 b.2
  | _, _, .nil => ⟨[], rfl, rfl, fun b h => by cases h⟩
  | _, _, .cons (v := v) (d := d) h r => by
    obtain ⟨bs, e1, e2, hb⟩ := RpL.zip r
    refine ⟨(v, d) :: bs, by rw [List.map_cons, e1], by rw [List.map_cons, e2], fun b hm => ?_⟩
    rcases List.mem_cons.mp hm with e | e
    · rw [e]; exact h
    · exact hb b e
theorem RpL.unzip {F : Hp} : ∀ {bs : List (V × D)}, (∀ b ∈ bs, Rp K F b.1 b.2) → RpL K F (bs.map (·.1)) (bs.map (·.2))
  | [], _ => .nil
  | b :: bs, h => .cons (h b List.mem_cons_self) (RpL.unzip fun c hc => h c (List.mem_cons_of_mem _ hc))
theorem sortableD_ok {ds : List D} (hp : ds.all pyOk = true) (h : sortableD ds = true) : PySem.W.Sortable (ds.map encD) := by
  unfold sortableD at h
  rcases Bool.or_eq_true_iff.mp h with h | h
  · refine .inl fun p hm => ?_
    obtain ⟨d, hd, rfl⟩ := List.mem_map.mp hm
    have z := List.all_eq_true.mp h d hd
    have y := List.all_eq_true.mp hp d hd
    cases d with
    | tup xs =>
      cases xs with
      | nil => cases z
      | cons x r =>
        obtain ⟨p, hq⟩ := Option.isSome_iff_exists.mp y
        unfold encD
        rw [hq]
        obtain ⟨ps, h1, h2⟩ := Option.map_eq_some_iff.mp hq
        obtain ⟨a, h3, h4⟩ := Option.bind_eq_some_iff.mp h1
        obtain ⟨b, h5, h6⟩ := Option.map_eq_some_iff.mp h4
        cases h6; cases h2
        exact ⟨a, b, rfl⟩
    | _ => cases z
  · refine .inr fun p hm => ?_
    obtain ⟨d, hd, rfl⟩ := List.mem_map.mp hm
    have z := List.all_eq_true.mp h d hd
    have y := List.all_eq_true.mp hp d hd
    obtain ⟨p, hq⟩ := Option.isSome_iff_exists.mp y
    unfold encD
    rw [hq]
    show p ≠ .none ∧ ∀ xs, p ≠ .tuple xs
    cases d with
    | non => cases z
    | tup _ => cases z
    | bl b => cases hq; exact ⟨fun e => (nomatch e), fun _ e => (nomatch e)⟩
    | int b => cases hq; exact ⟨fun e => (nomatch e), fun _ e => (nomatch e)⟩
    | str b => cases hq; exact ⟨fun e => (nomatch e), fun _ e => (nomatch e)⟩
    | lst b =>
      obtain ⟨ps, h1, h2⟩ := Option.map_eq_some_iff.mp hq
      cases h2; exact ⟨fun e => (nomatch e), fun _ e => (nomatch e)⟩
    | dic b => cases hq
    | scr b => cases hq
theorem leDt_total : PySem.W.TotalLe leDt := PySem.W.sortLe_total (PyProof.Rows.listOrd PyProof.Rows.itemOrd) false fun d => PySem.W.keyToks (encD d)
theorem opAN_sorted : OpAN K (rSorted K) sortedD := fun {F H xs ds d Q} s b hd q => by
  unfold sortedD at hd
  split at hd
  · rename_i es
    obtain ⟨r, h1, hd⟩ := Option.map_eq_some_iff.mp hd
    cases hd
    obtain ⟨_, h2, h3⟩ := Option.map_eq_some_iff.mp h1
    subst h3
    have h := okB_iff h2
    simp only [Bool.and_eq_true] at h
    obtain ⟨⟨⟨⟨hp, hal⟩, hso⟩, hdep⟩, hfew⟩ := h
    obtain ⟨x, rfl, b1⟩ := b.one
    obtain ⟨a, xs, rfl, ha, rx⟩ := b1.isLst s
    obtain ⟨bs, e1, e2, hb⟩ := rx.zip
    have em : bs.map (fun b => encD b.2) = es.map encD := by rw [← e2, List.map_map]; rfl
    have mem : ∀ b ∈ bs, b.2 ∈ es := fun b hm => by rw [← e2]; exact List.mem_map.mpr ⟨b, hm, rfl⟩
    subst e1
    refine ⟨a, bs, rfl, ha, fun b hm => ?_, ?_, ?_, fun b hm => ?_, fun p n => ?_⟩
    · obtain ⟨y, hy⟩ := Option.isSome_iff_exists.mp (List.all_eq_true.mp hp b.2 (mem b hm))
      have := Rp.dp s (hb b hm) hy
      unfold encD
      rw [hy]
      exact this
    · rw [em]
      intro p hm p' hm'
      obtain ⟨d, hd, rfl⟩ := List.mem_map.mp hm
      obtain ⟨d', hd', rfl⟩ := List.mem_map.mp hm'
      exact List.all_eq_true.mp (List.all_eq_true.mp hal d hd) d' hd'
    · rw [em]; exact sortableD_ok hp hso
    · exact of_decide_eq_true (List.all_eq_true.mp hdep b.2 (mem b hm))
    · have srt : ((bs.mergeSort (PySem.W.dataLe false fun b => encD b.2)).map (·.2)) = isort leDt es := by
        rw [isort_eq (le := leDt) leDt_total, ← e2]
        exact PySem.W.sort_maps (fun b : V × D => b.2) fun _ _ _ _ => rfl
      refine q p _ n ⟨s.free n, _, upd_same, ?_⟩
      rw [← srt]
      exact RpL.unzip fun b hm => hb b ((List.mergeSort_perm _ _).mem_iff.mp hm)
  · cases hd

/-! ### t + u -/
def addT : D → D → Option D
  | .tup i, .tup j => (okB (few (i.length + j.length))).map fun _ => .tup (i ++ j)
  | _, _ => none
theorem RpL.nil_iff {F : Hp} {xs : List V} {ds : List D} (r : RpL K F xs ds) : xs = [] ↔ ds = [] := by
  cases r with
  | nil => exact ⟨fun _ => rfl, fun _ => rfl⟩
  | cons _ _ => exact ⟨fun h => (nomatch h), fun h => (nomatch h)⟩
theorem op2_addT : Op2 K (rCatA K) addT := fun {F H x y dx dy d Q} s bx bY hd q => by
  unfold addT at hd
  split at hd
  · obtain ⟨_, h, hd⟩ := Option.map_eq_some_iff.mp hd
    cases hd
    obtain ⟨a, xs, rfl, ha, rx, fa⟩ := bx.isTup s
    obtain ⟨b, ys, rfl, hb, ry, fb⟩ := bY.isTup s
    refine ⟨a, b, xs, ys, rfl, rfl, ha, hb, by rw [rx.length, ry.length]; exact few_ok (okB_iff h), fun h0 => ?_, fun h0 h1 => ?_, fun h0 h1 p n => ?_⟩
    · rw [rx.nil_iff.mp h0] at q
      exact q F H _ (Ext.refl s) (.tup fb ry)
    · rw [ry.nil_iff.mp h1, List.append_nil] at q
      exact q F H _ (Ext.refl s) (.tup fa rx)
    · have x := Ext.new (o := .tup (xs ++ ys)) s n
      exact q _ _ _ x (.tup (.inl (.inl upd_same)) ((rx.app ry).mono x.f))
  · cases hd
end Dk
namespace Dk
open PySem PySem.Spec PyProof.Rows L2
variable {K : PySem.W.Frag}

/-! ### iterators over lists, tuples, texts: zip, enumerate -/
def sgV (z : Str) : List V := z.cps.toList.map fun c => V.str ⟨#[c]⟩
inductive Kd where
  | txt (z : Str) | ls (a : Addr) | tp (a : Addr)
def Kd.v : Kd → V
  | .txt z => .str z
  | .ls a => .ref a
  | .tp a => .ref a
def SrcV (K : PySem.W.Frag) (H : Hp) (kd : Kd) (xs : List V) : Prop := match kd with
  | .txt z => xs = sgV z
  | .ls a => SqL K H a xs
  | .tp a => SqT K H a xs
/-- the iterator of a source: the object o that it is at first, its states tn, what it wants of the heap (Src, the objects ext) -/
structure Dr (P : Program) (w : World) (K : PySem.W.Frag) (x : Kd) (xs : List V) (u : Value) where
  o : Obj
  SB : Heap → Prop
  tn : Addr → Nat → Heap → Prop
  Src : Heap → Prop
  ext : List Addr
  begins : Begins u o SB
  begin0 : ∀ it h, h.get? it = some o → tn it 0 h
  draws : ∀ (A : Around) (it : Addr), A.handled = none → it ∉ ext → Draws P w A it (it :: ext) xs.length (fun i v => ∃ y, xs[i]? = some y ∧ RelV y v) (fun i h => tn it i h ∧ Src h)
  obj : ∀ it i h, tn it i h → ∃ ob, h.get? it = some ob ∧ ∀ v, ob.data ≠ .cell v
  keep : ∀ it i h h', tn it i h → (∀ ob, h.get? it = some ob → h'.get? it = some ob) → tn it i h'
  src : ∀ (X : Cx) (pins : List (Addr × Obj)) (σ : L2.St) (H : Hp) (s : Shared), X.prog = P → X.w = w → X.K = K → L2.Inv X pins σ H s → SrcV K H x xs → Src s.heap
theorem draws_ex {P : Program} {w : World} {A : Around} {it : Addr} {fp : List Addr} {n : Nat} {ι : Type} {C : ι → Prop} {Pv : ι → Nat → Value → Prop} {St : ι → Nat → Heap → Prop} (h : ∀ j, C j → Draws P w A it fp n (Pv j) (St j)) :
    Draws P w A it fp n (fun i v => ∃ j, C j ∧ Pv j i v) (fun i h => ∃ j, C j ∧ St j i h) where
  live := fun i hp ⟨j, c, st⟩ => (h j c).live i hp st
  frame := fun i h1 h2 ⟨j, c, st⟩ k => ⟨j, c, (h j c).frame i h1 h2 st k⟩
  item := fun i s Q E hi ⟨j, c, st⟩ hQ => (h j c).item i s Q E hi st fun x h' tk p st' sb => hQ x h' tk ⟨j, c, p⟩ ⟨j, c, st'⟩ sb
  done := fun s Q E ⟨j, c, st⟩ hE => (h j c).done s Q E st hE
theorem draws_mono {P : Program} {w : World} {A : Around} {it : Addr} {fp : List Addr} {n : Nat} {Pv Pv' : Nat → Value → Prop} {St St' : Nat → Heap → Prop} (D : Draws P w A it fp n Pv St) (hp : ∀ i v, Pv i v → Pv' i v) (h1 : ∀ i h, St i h → St' i h) (h2 : ∀ i h, St' i h → St i h) : Draws P w A it fp n Pv' St' where
  live := fun i h st => D.live i h (h2 i h st)
  frame := fun i h h' st k => h1 _ _ (D.frame i h h' (h2 _ _ st) k)
  item := fun i s Q E hi st hQ => D.item i s Q E hi (h2 _ _ st) fun x h' tk p st' sb => hQ x h' tk (hp _ _ p) (h1 _ _ st') sb
  done := fun s Q E st hE => D.done s Q E (h2 _ _ st) hE
theorem vals_at {xs : List V} {items : Array Value} (r : Vals xs items.toList) {i : Nat} {v : Value} (h : items[i]? = some v) : ∃ y, xs[i]? = some y ∧ RelV y v := by
  have hi : i < xs.length := by
    rw [r.length, Array.length_toList]
    exact (Array.getElem?_eq_some_iff.mp h).1
  have hx : xs[i]? = some xs[i] := List.getElem?_eq_getElem hi
  obtain ⟨u, hu, ru⟩ := r.get hx
  rw [Array.getElem?_toList, h] at hu
  cases hu
  exact ⟨_, hx, ru⟩
theorem drOf {X : Cx} {pins : List (Addr × Obj)} {σ : L2.St} {H : Hp} {s : Shared} {x : Kd} {xs : List V} {u : Value} (I : L2.Inv X pins σ H s) (h : SrcV X.K H x xs) (r : RelV x.v u) :
    ∃ D : Dr X.prog X.w X.K x xs u, D.SB s.heap ∧ ∀ b ∈ D.ext, b < s.heap.objs.size := by
  cases x with
  | txt z =>
    have h : xs = sgV z := h
    subst h
    obtain ⟨t, rfl⟩ := r
    refine ⟨⟨_, _, fun it i h => h.IsStrIter it (strIterType z) z t i, fun _ => True, [], begins_text z t, fun it h e => ⟨_, e, rfl, rfl⟩,
      fun A it hh _ => ?_, fun it i h st => ?_, fun it i h h' st k => ?_, fun _ _ _ _ _ _ _ _ _ _ => trivial⟩, trivial, fun b hb => by cases hb⟩
    · have D := Draws.text (prog := X.prog) (w := X.w) hh it z t
      have e : (sgV z).length = z.cps.size := by unfold sgV; rw [List.length_map, Array.length_toList]
      rw [e]
      refine draws_mono D (fun i v ⟨c, t2, hc, hv⟩ => ⟨.str ⟨#[c]⟩, ?_, t2, hv⟩) (fun i h st => ⟨st, trivial⟩) fun i h st => st.1
      unfold sgV
      rw [List.getElem?_map, Array.getElem?_toList, hc]; rfl
    · obtain ⟨ob, e, _, d⟩ := st
      exact ⟨ob, e, fun v q => by rw [d] at q; cases q⟩
    · obtain ⟨ob, e, c, d⟩ := st
      exact ⟨ob, k ob e, c, d⟩
  | ls a =>
    have hs : SqL X.K H a xs := h
    cases r
    obtain ⟨its, rv, pl, _⟩ := I.list hs
    refine ⟨⟨_, _, fun it i h => h.IsListIter it a i, fun h => ∃ items : Array Value, Vals xs items.toList ∧ h.IsList a items, [a], begins_list a its.toArray, fun it h e => ⟨_, e, rfl, rfl⟩,
      fun A it hh hn => ?_, fun it i h st => ?_, fun it i h h' st k => ?_, fun Y pins' σ' H' s' e1 e2 e3 I' q => ?_⟩, pl.isList, fun b hb => ?_⟩
    · have hne : a ≠ it := fun e => hn (by rw [e]; exact List.mem_singleton.mpr rfl)
      have D := draws_ex (P := X.prog) (w := X.w) (A := A) (it := it) (fp := [it, a]) (n := xs.length) (C := fun items : Array Value => Vals xs items.toList) (Pv := fun items i v => items[i]? = some v) (St := fun items i h => h.IsListIter it a i ∧ h.IsList a items)
        (fun items r => by
          have e : xs.length = items.size := by rw [r.length, Array.length_toList]
          rw [e]; exact Draws.list hh it a hne items)
      exact draws_mono D (fun i v ⟨items, r, hv⟩ => vals_at r hv) (fun i h ⟨items, r, h1, h2⟩ => ⟨h1, items, r, h2⟩) fun i h ⟨h1, items, r, h2⟩ => ⟨items, r, h1, h2⟩
    · obtain ⟨ob, e, _, d⟩ := st
      exact ⟨ob, e, fun v q => by rw [d] at q; cases q⟩
    · obtain ⟨ob, e, c, d⟩ := st
      exact ⟨ob, k ob e, c, d⟩
    · have q : SqL X.K H' a xs := q
      rw [← e3] at q
      obtain ⟨its', rv', pl', _⟩ := I'.list q
      exact ⟨its'.toArray, by simpa using rv', pl'.isList⟩
    · rw [List.mem_singleton.mp hb]
      obtain ⟨ob, n, e, _⟩ := pl
      exact Heap.lt_size e
  | tp a =>
    have hs : SqT X.K H a xs := h
    cases r
    obtain ⟨its, rv, pl, _⟩ := I.tuple hs
    refine ⟨⟨_, _, fun it i h => h.IsTupleIter it a i, fun h => ∃ items : Array Value, Vals xs items.toList ∧ h.IsTuple a items, [a], begins_tuple a its.toArray, fun it h e => ⟨_, e, rfl, rfl⟩,
      fun A it hh hn => ?_, fun it i h st => ?_, fun it i h h' st k => ?_, fun Y pins' σ' H' s' e1 e2 e3 I' q => ?_⟩, pl, fun b hb => ?_⟩
    · have hne : a ≠ it := fun e => hn (by rw [e]; exact List.mem_singleton.mpr rfl)
      have D := draws_ex (P := X.prog) (w := X.w) (A := A) (it := it) (fp := [it, a]) (n := xs.length) (C := fun items : Array Value => Vals xs items.toList) (Pv := fun items i v => items[i]? = some v) (St := fun items i h => h.IsTupleIter it a i ∧ h.IsTuple a items)
        (fun items r => by
          have e : xs.length = items.size := by rw [r.length, Array.length_toList]
          rw [e]; exact Draws.tuple hh it a hne items)
      exact draws_mono D (fun i v ⟨items, r, hv⟩ => vals_at r hv) (fun i h ⟨items, r, h1, h2⟩ => ⟨h1, items, r, h2⟩) fun i h ⟨h1, items, r, h2⟩ => ⟨items, r, h1, h2⟩
    · obtain ⟨ob, e, _, d⟩ := st
      exact ⟨ob, e, fun v q => by rw [d] at q; cases q⟩
    · obtain ⟨ob, e, c, d⟩ := st
      exact ⟨ob, k ob e, c, d⟩
    · have q : SqT X.K H' a xs := q
      rw [← e3] at q
      obtain ⟨its', rv', pl', _⟩ := I'.tuple q
      exact ⟨its'.toArray, by simpa using rv', pl'⟩
    · rw [List.mem_singleton.mp hb]
      obtain ⟨ob, e, _⟩ := pl
      exact Heap.lt_size e
/-- an iterator of new tuples; G: what the sources want of the abstract heap -/
def ItN (n : Nat) (its : Nat → List V) (G : Hp → Prop) : It := ⟨fun i H => i < n ∧ G H, fun i H x H' => ∃ T, x = .ref T ∧ H T = none ∧ H' = upd H T (.tup (its i)), fun i H => i = n ∧ G H⟩
theorem turn_new {P : Program} {w : World} {tg : Expr} {I : Addr} {fp wr ow : List Addr} {n : Nat} {its : Nat → List V} {G : Hp → Prop} {tn : Nat → Heap → Prop} {Src : Heap → Prop}
    (W : ∀ A : Around, A.handled = none → GoesN P w A tg I fp wr n (fun i h0 v h => ∃ T vals, v = .ref T ∧ h0.objs.size ≤ T ∧ Vals (its i) vals.toList ∧ h.IsTuple T vals) (fun i h => tn i h ∧ Src h))
    (src : ∀ (X : Cx) (pins : List (Addr × Obj)) (σ : L2.St) (H : Hp) (s : Shared), X.prog = P → X.w = w → X.K = K → L2.Inv X pins σ H s → G H → Src s.heap) (hw : ∀ b ∈ wr, b ∈ ow) (hI : I ∈ ow)
    (obj : ∀ i h, tn i h → ∀ b ∈ ow, ∃ o, h.get? b = some o ∧ ∀ v, o.data ≠ .cell v) (keep : ∀ i h h', tn i h → (∀ b ∈ ow, ∀ o, h.get? b = some o → h'.get? b = some o) → tn i h') (sm : ∀ i, (its i).length ≤ sizeLine)
    (slf : ∀ (A : Around) (i : Nat) (s : Shared) (Q : Value → Shared → Prop) (E : Value → Shared → Prop), tn i s.heap → Q (.ref I) s → wpAny (model P w) A (pyIter (.ref I)) Q E s) :
    Turn P w K tg (ItN n its G) ow I tn where
  mem := hI
  obj := obj
  keep := keep
  item := by
    intro X hP hW hK hc i pins s σ H E Iv hf st hg
    obtain ⟨hi, g⟩ := hg
    subst hP hW
    have hh := Iv.ok.hd hc
    have sr := src X pins σ H s rfl rfl hK Iv g
    refine (W X.A hh).goes i s (fun v s2 => ∃ x H', L2.Inv X pins σ H' s2 ∧ RelV x v ∧ (ItN n its G).yld i H x H' ∧ tn (i + 1) s2.heap ∧ ∀ b ∈ ow, H' b = none) E hi ⟨st, sr⟩ ?_
    rintro v h' tk ⟨T, vals, rfl, hT, rv, ht⟩ st' hk _
    have new : ObjOk X.prog X.w (upd H T (.tup (its i))) h' T (.tup (its i)) := ⟨sm i, vals.toList, rv, by
      obtain ⟨o, e, c, m, d⟩ := ht
      exact ⟨o, e, c, m, by simpa using d⟩⟩
    have I1 : L2.Inv X pins σ (upd H T (.tup (its i))) { s with heap := h', toks := tk } := Iv.turnedNew (ch := ow) (fun b o hb q => hk b o (fun z => hb (hw b z)) q) hf hT new
    refine ⟨.ref T, _, I1, rfl, ⟨T, rfl, Iv.hok.fresh hT, rfl⟩, st'.1, fun b hb => ?_⟩
    obtain ⟨o, e, _⟩ := obj i s.heap st b hb
    rw [upd_ne (Nat.ne_of_lt (Nat.lt_of_lt_of_le (Heap.lt_size e) hT))]
    exact (hf b hb).1
  done := by
    intro X hP hW hK hc i pins s σ H E Iv hf st hg
    obtain ⟨hi, g⟩ := hg
    subst hP hW
    have hh := Iv.ok.hd hc
    have sr := src X pins σ H s rfl rfl hK Iv g
    exact (W X.A hh).stops s (fun s1 => L2.Inv X pins σ H s1) E ⟨by rw [← hi]; exact st, sr⟩ fun h' tk hk _ => Iv.turnedL (ch := ow) (fun b o hb q => hk b o (fun z => hb (hw b z)) q) hf
  self := slf

/-! ### zip of two, enumerate -/
theorem goesN_iff {P : Program} {w : World} {A : Around} {tg : Expr} {I : Addr} {fp wr : List Addr} {n : Nat} {Y Y' : Nat → Heap → Value → Heap → Prop} {St St' : Nat → Heap → Prop} (W : GoesN P w A tg I fp wr n Y St) (hy : ∀ i h0 v h, Y i h0 v h → Y' i h0 v h) (h1 : ∀ i h, St i h → St' i h) (h2 : ∀ i h, St' i h → St i h) :
    GoesN P w A tg I fp wr n Y' St' where
  sub := W.sub
  frame := fun i h h' st k => h1 _ _ (W.frame i h h' (h2 _ _ st) k)
  goes := fun i s Q E hi st hQ => W.goes i s Q E hi (h2 _ _ st) fun v h' tk y st' hk ht => hQ v h' tk (hy _ _ _ _ y) (h1 _ _ st') hk ht
  stops := fun s Q E st hQ => W.stops s Q E (h2 _ _ st) hQ
  self := fun i s Q E st h => W.self i s Q E (h2 _ _ st) h
def iZipD (K : PySem.W.Frag) (ta : TA) : TI := fun σ H R => ta σ H fun vs H1 => ∃ x y xs ys, vs = [x.v, y.v] ∧ SrcV K H1 x xs ∧ SrcV K H1 y ys ∧
  R (ItN (min xs.length ys.length) (fun i => [(xs[i]?).getD .non, (ys[i]?).getD .non]) fun H => SrcV K H x xs ∧ SrcV K H y ys) H1
theorem pi_zipD {X : Cx} {e e2 : Expr} {ta : TA} {p pos tpos : Pos} {elts : List Expr} {kk : Nat} (hg : Gl X "zip") (hm : X.mg "zip" = none) (ha : PA X [e, e2] ta)
    (hs : starEach [e, e2] X.env = (false, eval e X.env) :: starEach [e2] X.env := by rfl) (hpl : (backTo pos (starEach [e2] X.env)).any (·.1) = false := by rfl) :
    PI X (.Tuple elts kk tpos) (.Call (.Name "zip" p) [e, e2] [] pos) (iZipD X.K ta) := by
  refine ⟨fun pins s σ H R I h => ?_⟩
  refine Call_ (ld_blt I hg hm PyProof.Rows.boot_zip (PyProof.Rows.callWith_type1 (thn (ha.run pos pins s σ H _ I h) ?_) hs hpl))
  rintro us s1 ⟨vs, H1, I1, r1, x, y, xs, ys, rfl, s1x, s1y, q⟩
  obtain ⟨u, v, rfl, ru, rv⟩ := r1.two
  obtain ⟨D1, b1, e1⟩ := drOf I1 s1x ru
  obtain ⟨D2, b2, e2⟩ := drOf I1 s1y rv
  refine zip_begins2 D1.begins D2.begins b1 b2 ?_
  intro h' hz hTI hTO h1 h2 hsz hk
  generalize eN : s1.heap.objs.size = N at *
  have S := zip_sep2 (N := N) e1 e2
  have n1 : N ∉ D1.ext := fun z => absurd (e1 _ z) (Nat.lt_irrefl _)
  have n2 : N + 1 ∉ D2.ext := fun z => absurd (e2 _ z) (Nat.not_lt.mpr (Nat.le_succ N))
  have I2 : L2.Inv X pins σ H1 { s1 with heap := h' } := I1.kept hk
  refine wpAny_pyIter_zip hz ?_
  let tn : Nat → Heap → Prop := fun i h => IsZip h (N + 4) (N + 2) (N + 3) .none ∧ IsTupOf2 h (N + 2) (.ref N) (.ref (N + 1)) ∧ (∃ a1 a2, IsTupOf2 h (N + 3) a1 a2) ∧ D1.tn N i h ∧ D2.tn (N + 1) i h
  have T : Turn X.prog X.w X.K (.Tuple elts kk tpos) (ItN (min xs.length ys.length) (fun i => [(xs[i]?).getD .non, (ys[i]?).getD .non]) fun H => SrcV X.K H x xs ∧ SrcV X.K H y ys) [N + 4, N + 2, N + 3, N, N + 1] (N + 4) tn := by
    refine turn_new (Src := fun h => D1.Src h ∧ D2.Src h) (fun A hh => goesN_iff (GoesN.zip2 S (D1.draws A.in1 N hh n1) (D2.draws A.in1 (N + 1) hh n2)) ?_ ?_ ?_) ?_ ?_ ?_ ?_ ?_ ?_ ?_
    · rintro i h0 v h ⟨T, a, b, rfl, hT, ⟨ya, ha, ra⟩, ⟨yb, hb, rb⟩, ht⟩
      refine ⟨T, #[a, b], rfl, hT, ?_, ht⟩
      rw [ha, hb]
      exact .cons ra (.cons rb .nil)
    · rintro i h ⟨a1, a2, a3, ⟨a4, a5⟩, a6, a7⟩
      exact ⟨⟨a1, a2, a3, a4, a6⟩, a5, a7⟩
    · rintro i h ⟨⟨a1, a2, a3, a4, a6⟩, a5, a7⟩
      exact ⟨a1, a2, a3, ⟨a4, a5⟩, a6, a7⟩
    · rintro Y pins' σ' H' s' w1 w2 w3 I' ⟨g1, g2⟩
      exact ⟨D1.src Y pins' σ' H' s' w1 w2 w3 I' g1, D2.src Y pins' σ' H' s' w1 w2 w3 I' g2⟩
    · intro b hb
      simp only [List.mem_cons, List.not_mem_nil, or_false] at hb ⊢
      rcases hb with z | z | z | z <;> simp [z]
    · exact List.mem_cons_self
    · rintro i h ⟨a1, a2, ⟨c1, c2, a3⟩, a4, a6⟩ b hb
      simp only [List.mem_cons, List.not_mem_nil, or_false] at hb
      rcases hb with z | z | z | z | z
      · rw [z]; exact ⟨_, a1, fun v q => nomatch q⟩
      · rw [z]; exact ⟨_, a2, fun v q => nomatch q⟩
      · rw [z]; exact ⟨_, a3, fun v q => nomatch q⟩
      · rw [z]; exact D1.obj _ _ _ a4
      · rw [z]; exact D2.obj _ _ _ a6
    · rintro i h h' ⟨a1, a2, ⟨c1, c2, a3⟩, a4, a6⟩ k
      exact ⟨k _ (by simp) _ a1, k _ (by simp) _ a2, ⟨c1, c2, k _ (by simp) _ a3⟩, D1.keep _ _ _ _ a4 fun o e => k _ (by simp) o e, D2.keep _ _ _ _ a6 fun o e => k _ (by simp) o e⟩
    · intro i; show 2 ≤ sizeLine; decide
    · intro A i s Q E st hq
      exact wpAny_pyIter_zip st.1 hq
  refine ⟨N + 4, [N + 4, N + 2, N + 3, N, N + 1], tn, _, H1, rfl, I2, T, ⟨hz, hTI, ⟨_, _, hTO⟩, D1.begin0 _ _ h1, D2.begin0 _ _ h2⟩, fun c hc => ?_, q⟩
  have hle : s1.heap.objs.size ≤ c := by
    rw [eN]
    simp only [List.mem_cons, List.not_mem_nil, or_false] at hc
    rcases hc with z | z | z | z | z <;> (rw [z]; omega)
  exact I1.fpOk hle (I1.hok.fresh hle)
/-! the meaning -/
def srcD : D → Option (List D)
  | .lst ds => some ds
  | .tup ds => some ds
  | .str x => some (signs x)
  | _ => none
theorem RpL.sg {F : Hp} (z : Str) : RpL K F (sgV z) (signs z) := by
  unfold sgV signs
  generalize z.cps.toList = l
  induction l with
  | nil => exact .nil
  | cons c r ih => exact .cons (.str _) ih
theorem Rp.src {F : Hp} {x : V} {d : D} {ds : List D} (r : Rp K F x d) (h : srcD d = some ds) : ∃ kd xs, x = Kd.v kd ∧ RpL K F xs ds ∧ ∀ H, Same F H → SrcV K H kd xs := by
  cases r with
  | lst e rl => cases h; exact ⟨.ls _, _, rfl, rl, fun H s => .inl (.inl (s _ _ e))⟩
  | tup e rl => cases h; exact ⟨.tp _, _, rfl, rl, fun H s => seqT s e⟩
  | str z => cases h; exact ⟨.txt z, _, rfl, RpL.sg z, fun H s => rfl⟩
  | _ => cases h
def zipL (a b : List D) : List D := (a.zip b).map fun p => .tup [p.1, p.2]
theorem zipL_get {a b : List D} {i : Nat} {d : D} (h : (zipL a b)[i]? = some d) : ∃ x y, a[i]? = some x ∧ b[i]? = some y ∧ d = .tup [x, y] := by
  unfold zipL at h
  rw [List.getElem?_map] at h
  obtain ⟨⟨x, y⟩, h1, h2⟩ := Option.map_eq_some_iff.mp h
  rw [List.getElem?_zip_eq_some] at h1
  exact ⟨x, y, h1.1, h1.2, h2.symm⟩
theorem zipL_len (a b : List D) : (zipL a b).length = min a.length b.length := by
  unfold zipL
  rw [List.length_map, List.length_zip]
/-- zip(a, b): both frozen while they are walked -/
def itZ (m : MA) : MI := fun e => (m e).bind fun p => (tks p.2 p.1).bind fun q => match q.1 with
  | [a, b] => (srcD a).bind fun x => (srcD b).map fun y => (zipL x y, q.2)
  | _ => none
theorem it_new {F : Hp} {n : Nat} {its : Nat → List V} {G : Hp → Prop} {ds : List D} (hn : n = ds.length) (hG : ∀ H, Same F H → G H) (hd : ∀ i d, ds[i]? = some d → ∃ es, d = .tup es ∧ RpL K F (its i) es) : ItOk K F (ItN n its G) ds := fun F' H i s1 s2 => by
  refine ⟨fun d h => ?_, fun h => ⟨h.trans hn.symm, hG H (s1.trans s2)⟩⟩
  have hi : i < ds.length := (List.getElem?_eq_some_iff.mp h).1
  refine ⟨⟨by rw [hn]; exact hi, hG H (s1.trans s2)⟩, fun x H' hy => ?_⟩
  obtain ⟨T, rfl, hT, rfl⟩ := hy
  obtain ⟨es, rfl, r⟩ := hd i d h
  have x := Ext.new (o := .tup (its i)) s2 hT
  exact ⟨_, x, .tup (.inl (.inl upd_same)) ((r.mono s1).mono x.f)⟩
theorem sim_itZ {t : TA} {m : MA} (h : SimA K t m) : SimI K (iZipD K t) (itZ m) := ⟨fun {F0 Gd ios F H σ e os ds e' R} W hm q => by
  unfold itZ at hm
  obtain ⟨⟨ls, e1⟩, h1, hm⟩ := Option.bind_eq_some_iff.mp hm
  obtain ⟨⟨ds1, e2⟩, h2, hm⟩ := Option.bind_eq_some_iff.mp hm
  refine h.run W h1 fun F1 H1 os1 xs W1 s1 k1 => ?_
  obtain ⟨F2, os2, W2, s2, r⟩ := W1.takes k1 h2
  simp only at hm
  split at hm
  · cases r with
    | cons r1 r => cases r with
      | cons r2 r =>
        cases r
        obtain ⟨x, hx, hm⟩ := Option.bind_eq_some_iff.mp hm
        obtain ⟨y, hy, hm⟩ := Option.map_eq_some_iff.mp hm
        cases hm
        obtain ⟨kx, vx, rfl, rx, gx⟩ := r1.src hx
        obtain ⟨ky, vy, rfl, ry, gy⟩ := r2.src hy
        refine ⟨kx, ky, vx, vy, rfl, gx H1 W2.fh, gy H1 W2.fh, q F2 H1 os2 _ W2 (s1.trans s2) (it_new (by rw [zipL_len, rx.length, ry.length]) (fun H s => ⟨gx H s, gy H s⟩) fun i d hd => ?_)⟩
        obtain ⟨a, b, ha, hb, rfl⟩ := zipL_get hd
        obtain ⟨va, ea, ra⟩ := rx.get ha
        obtain ⟨vb, eb, rb⟩ := ry.get hb
        refine ⟨_, rfl, ?_⟩
        rw [ea, eb]
        exact .cons ra (.cons rb .nil)
  · cases hm⟩
end Dk
namespace Dk
open PySem PySem.Spec PyProof.Rows L2
section
variable {X : Cx} {a b c e e2 : Expr} {es : List Expr} {ma mb mc m : ME} {pos : Pos} {k : Nat}
theorem d_isi {x T : Str} {id : String} {p p2 : Pos} (hm : X.mg "isinstance" = none) (hm2 : X.mg x = none) (ha : PE X a (rE X.K ma)) (hT : bootBuiltins x = some (.type id) := by decide +kernel) (hg : Gl X "isinstance" := by rfl) (hg2 : Gl X x := by rfl) (hn : x ≠ "__name__" := by decide) (hdb : (x == ("__debug__" : Str)) = false := by decide)
    (he : starEach [a, .Name x p2] X.env = (false, eval a X.env) :: starEach [.Name x p2] X.env := by rfl) (he2 : starEach [.Name x p2] X.env = (false, eval (.Name x p2) X.env) :: starEach [] X.env := by rfl) (hpl : (backTo pos (starEach [.Name x p2] X.env)).any (·.1) = false := by rfl) :
    PE X (.Call (.Name "isinstance" p) [a, .Name x p2] [] pos) (rE X.K (unM (isiD id) ma)) :=
  toE (pe_callB call_isi hg hm (by decide +kernel) (pa_cons ha (pa_cons (pe_bltn hg2 hm2 hT (v := .ty id) rfl hn hdb) pa_nil he2) he) (by decide) (by decide) he hpl) (sim_isi sim_rE)
theorem d_in (hr : Room k X.A) (ha : PE X a (rE X.K ma)) (hb : PE X b (rE X.K mb)) (hm : behindInMarks .In b = false := by with_unfolding_all rfl) : PE X (.Compare a [.In] [b] pos) (rE X.K (binM (inD false) ma mb)) := d_cmp (opr_in (by have := hr.units; omega)) (op2_in false) ha hb hm
theorem d_notin (hr : Room k X.A) (ha : PE X a (rE X.K ma)) (hb : PE X b (rE X.K mb)) (hm : behindInMarks .NotIn b = false := by with_unfolding_all rfl) : PE X (.Compare a [.NotIn] [b] pos) (rE X.K (binM (inD true) ma mb)) := d_cmp (opr_notin (by have := hr.units; omega)) (op2_in true) ha hb hm
theorem t_in (hr : Room k X.A) (ha : PE X a (rE X.K ma)) (hb : PE X b (rE X.K mb)) (hm : behindInMarks .In b = false := by with_unfolding_all rfl) : PT X (.Compare a [.In] [b] pos) (rT X.K (bM (binM (inD false) ma mb))) := t_cmp (opr_in (by have := hr.units; omega)) (op2_in false) ha hb hm
theorem t_notin (hr : Room k X.A) (ha : PE X a (rE X.K ma)) (hb : PE X b (rE X.K mb)) (hm : behindInMarks .NotIn b = false := by with_unfolding_all rfl) : PT X (.Compare a [.NotIn] [b] pos) (rT X.K (bM (binM (inD true) ma mb))) := t_cmp (opr_notin (by have := hr.units; omega)) (op2_in true) ha hb hm
theorem d_mulS (ha : PE X a (rE X.K ma)) (hb : PE X b (rE X.K mb)) : PE X (.BinOp a .Mult b pos) (rE X.K (binM mulS ma mb)) := d_op op_mulS op2_mulS ha hb
theorem d_addT (ha : PE X a (rE X.K ma)) (hb : PE X b (rE X.K mb)) : PE X (.BinOp a .Add b pos) (rE X.K (binM addT ma mb)) := d_op op_catA op2_addT ha hb
/-! slices -/
def rO (K : PySem.W.Frag) : MO → TO
  | none => tNoPart
  | some m => tPart (rE K m)
theorem sim_rO : ∀ {m : MO}, SimO X.K (rO X.K m) m
  | none => sim_noPart
  | some m => sim_part sim_rE
theorem o_no : PO X none (rO X.K none) := po_none
theorem o_at (h : PE X e (rE X.K m)) : PO X (some e) (rO X.K (some m)) := po_some h
theorem d_sl {lo hi : Option Expr} {ml mh : MO} {p2 : Pos} (h : PE X e (rE X.K m)) (hl : PO X lo (rO X.K ml)) (hh : PO X hi (rO X.K mh)) : PE X (.Subscript e (.Slice lo hi none p2) pos) (rE X.K (slM cutD m ml mh)) := toE (pe_slice slr_any h hl hh) (sim_sl sim_rE sim_rO sim_rO)
theorem a_star {mr : MA} {p : Pos} (h : PE X e (rE X.K m)) (r : PA X es (rA X.K mr)) (hs : starEach (.Starred e p :: es) X.env = (true, eval e X.env) :: starEach es X.env := by rfl) : PA X (.Starred e p :: es) (rA X.K (starA m mr)) := toA (StX.pa_star h r hs) (sim_star sim_rE sim_rA)
/-! x op= e -/
def cMulA (i j : Int) : Bool := (decide (-18446744073709551616 < i) && decide (i < 18446744073709551616)) || (decide (-18446744073709551616 < j) && decide (j < 18446744073709551616))
def mulA : D → D → Option D := i2 cMulA fun i j => .int (i * j)
def cDivA (_ j : Int) : Bool := decide (0 < j) && decide (j < 1073741824)
def divA : D → D → Option D := i2 cDivA fun i j => .int (i / j)
theorem op2_mulA {K : PySem.W.Frag} : Op2 K (rI CMul fun i j => .int (i * j)) mulA := op2_i2 (fun i j h => by
  unfold cMulA at h
  simp only [Bool.or_eq_true, Bool.and_eq_true, decide_eq_true_eq] at h
  rcases h with h | h
  · exact Or.inl ⟨by omega, by omega⟩
  · exact Or.inr ⟨by omega, by omega⟩) fun _ _ _ => .int _
theorem op2_divA {K : PySem.W.Frag} : Op2 K (rI CDiv fun i j => .int (i / j)) divA := op2_i2 (fun i j h => by
  unfold cDivA at h
  simp only [Bool.and_eq_true, decide_eq_true_eq] at h
  exact h) fun _ _ _ => .int _
def addI : D → D → Option D := i2z fun i j => .int (i + j)
theorem op2_addI {K : PySem.W.Frag} : Op2 K (rI0 fun i j => .int (i + j)) addI := op2_i2z fun _ _ _ => .int _
theorem s_aug (i : Nat) {x : Str} {p : Pos} {op : Operator} {r : R2} {f : D → D → Option D} (ho : OpR X (inplaceOp op) r) (h2 : Op2 X.K r f) (hN : X.N.Nodup) (he : PE X e (rE X.K m)) (hi : X.N[i]? = some x := by rfl) (hx : Loc X.env.scope x := by first | exact Or.inl rfl | exact Or.inr rfl)
    (hf : X.fn x = true ∨ X.env.scope.names.lookup x = some .local := by first | exact .inl rfl | exact .inr rfl) : PS X (.AugAssign (.Name x p) op e pos) (rS X.K (augM f i m)) :=
  toS (ps_aug hN hi hx he (fun pins s σ H y z v u Q I a b c => ho pins s σ H y z v u Q I a b c) hf) (sim_aug h2 sim_rE)
theorem s_augAdd (i : Nat) {x : Str} {p : Pos} (hN : X.N.Nodup) (he : PE X e (rE X.K m)) (hi : X.N[i]? = some x := by rfl) (hx : Loc X.env.scope x := by first | exact Or.inl rfl | exact Or.inr rfl)
    (hf : X.fn x = true ∨ X.env.scope.names.lookup x = some .local := by first | exact .inl rfl | exact .inr rfl) : PS X (.AugAssign (.Name x p) .Add e pos) (rS X.K (augM addI i m)) := s_aug i iop_add op2_addI hN he hi hx hf
theorem s_augSub (i : Nat) {x : Str} {p : Pos} (hN : X.N.Nodup) (he : PE X e (rE X.K m)) (hi : X.N[i]? = some x := by rfl) (hx : Loc X.env.scope x := by first | exact Or.inl rfl | exact Or.inr rfl)
    (hf : X.fn x = true ∨ X.env.scope.names.lookup x = some .local := by first | exact .inl rfl | exact .inr rfl) : PS X (.AugAssign (.Name x p) .Sub e pos) (rS X.K (augM subD i m)) := s_aug i iop_sub op2_sub hN he hi hx hf
theorem s_augMul (i : Nat) {x : Str} {p : Pos} (hN : X.N.Nodup) (he : PE X e (rE X.K m)) (hi : X.N[i]? = some x := by rfl) (hx : Loc X.env.scope x := by first | exact Or.inl rfl | exact Or.inr rfl)
    (hf : X.fn x = true ∨ X.env.scope.names.lookup x = some .local := by first | exact .inl rfl | exact .inr rfl) : PS X (.AugAssign (.Name x p) .Mult e pos) (rS X.K (augM mulA i m)) := s_aug i iop_mul op2_mulA hN he hi hx hf
theorem s_augDiv (i : Nat) {x : Str} {p : Pos} (hN : X.N.Nodup) (he : PE X e (rE X.K m)) (hi : X.N[i]? = some x := by rfl) (hx : Loc X.env.scope x := by first | exact Or.inl rfl | exact Or.inr rfl)
    (hf : X.fn x = true ∨ X.env.scope.names.lookup x = some .local := by first | exact .inl rfl | exact .inr rfl) : PS X (.AugAssign (.Name x p) .FloorDiv e pos) (rS X.K (augM divA i m)) := s_aug i iop_fdiv op2_divA hN he hi hx hf
theorem s_augMod (i : Nat) {x : Str} {p : Pos} (hN : X.N.Nodup) (he : PE X e (rE X.K m)) (hi : X.N[i]? = some x := by rfl) (hx : Loc X.env.scope x := by first | exact Or.inl rfl | exact Or.inr rfl)
    (hf : X.fn x = true ∨ X.env.scope.names.lookup x = some .local := by first | exact .inl rfl | exact .inr rfl) : PS X (.AugAssign (.Name x p) .Mod e pos) (rS X.K (augM modD i m)) := s_aug i iop_mod op2_mod hN he hi hx hf
/-! targets -/
def rGs (K : PySem.W.Frag) (js : List Nat) (m : List D → Env → Option Env) : TGs := fun xs σ H Q => ∃ F0 Gd ios F e os ds e', WOk K F0 Gd ios F H σ e os ∧ RpL K F xs ds ∧ m ds e = some e' ∧ ∀ F' H' σ' os', WOk K F0 Gd ios F' H' σ' e' os' → Same F F' → But js σ σ' → Q σ' H'
theorem sim_rGs {K : PySem.W.Frag} {js : List Nat} {m : List D → Env → Option Env} : SimGs K (rGs K js m) js m := ⟨fun W r hm q => ⟨_, _, _, _, _, _, _, _, W, r, hm, q⟩⟩
theorem toGs {js : List Nat} {t : TGs} {m : List D → Env → Option Env} (h : PGs X es t) (s : SimGs X.K t js m) : PGs X es (rGs X.K js m) := ⟨fun pins sh σ H x v Q I r ⟨_, _, _, _, _, _, _, _, W, rp, hm, q⟩ => h.run pins sh σ H x v Q I r (s.run W rp hm q)⟩
theorem gs_nil : PGs X [] (rGs X.K [] nilG) := toGs pgs_nil sim_gNil
theorem gs_cons {js ks : List Nat} {g : MG} {r : List D → Env → Option Env} (h1 : PG X e (rG X.K js g)) (h2 : PGs X es (rGs X.K ks r)) (hs : (assignEach (e :: es) X.env).map (·.2) = assign e X.env :: (assignEach es X.env).map (·.2) := by rfl) : PGs X (e :: es) (rGs X.K (js ++ ks) (consG g r)) := toGs (pgs_cons h1 h2 hs) (sim_gCons sim_rG sim_rGs)
theorem g_tup {n : Nat} {js : List Nat} {r : List D → Env → Option Env} {kk : Nat} (hc : X.calm = true) (h : PGs X es (rGs X.K js r)) (hn : (assignEach es X.env).length = n := by rfl) (hst : (assignEach es X.env).findIdx? (·.1) = none := by rfl) : PG X (.Tuple es kk pos) (rG X.K js (tupG n r)) := toG (pg_tup hc h hn hst) (sim_gTup sim_rGs)
theorem s_asgT {js : List Nat} {g : MG} (he : PE X e (rE X.K m)) (hg : PG X a (rG X.K js g)) (hs : swapsWithSole [a] e pos.line X.env = pure false := by rfl) (hw : swappedStores [a] e X.env = pure none := by rfl)
    (h1 : (assignEach [a] X.env).map (·.2) = [assign a X.env] := by rfl) : PS X (.Assign [a] e pos) (rS X.K (asgM m g)) := toS (ps_asg he hg hs hw h1) (sim_asg sim_rE sim_rG)
theorem s_par3 (i j l : Nat) {x y z : Str} {mr : MA} {px py pz pt pt2 : Pos} {kt k2 : Nat} (hc : X.calm = true) (hN : X.N.Nodup) (ha : PA X [a, b, c] (rA X.K mr)) (hi : X.N[i]? = some x := by rfl) (hj : X.N[j]? = some y := by rfl) (hl : X.N[l]? = some z := by rfl) (hij : i ≠ j := by decide) (hil : i ≠ l := by decide) (hjl : j ≠ l := by decide)
    (hx : X.env.scope.names.lookup x = some .local := by rfl) (hy : X.env.scope.names.lookup y = some .local := by rfl) (hz : X.env.scope.names.lookup z = some .local := by rfl)
    (hw : swappedStores [.Tuple [.Name x px, .Name y py, .Name z pz] kt pt] (.Tuple [a, b, c] k2 pt2) X.env = pure (some [x, y, z]) := by rfl)
    (hs : swapsWithSole [.Tuple [.Name x px, .Name y py, .Name z pz] kt pt] (.Tuple [a, b, c] k2 pt2) pos.line X.env = pure false := by rfl) :
    PS X (.Assign [.Tuple [.Name x px, .Name y py, .Name z pz] kt pt] (.Tuple [a, b, c] k2 pt2) pos) (rS X.K (par3M i j l mr)) := toS (ps_par3 hc hN hi hj hl hij hil hjl hx hy hz ha hw hs) (sim_par3 sim_rA)
/-- xs, n = [..], c: the new list is owned -/
def parNC (i j : Nat) (m : MN) (d : D) : MS := seqM (asgN m i) (asgM (cM d) (nameG j))
theorem sim_parNC {K : PySem.W.Frag} {i j : Nat} {t : TE} {m : MN} {v : V} {d : D} (h : SimN K t m) (hv : ∀ F : Hp, Rp K F v d) : SimS K (tPar i j (tCons t (tCons (tC v) tNil))) (parNC i j m d) := ⟨fun {F0 Gd ios F H σ e os fl e' G} W hm q => by
  unfold parNC seqM asgN at hm
  obtain ⟨⟨f1, e1⟩, h1, hm⟩ := Option.bind_eq_some_iff.mp hm
  obtain ⟨⟨d0, e0⟩, h0, h1⟩ := Option.bind_eq_some_iff.mp h1
  have key : ∀ s, e0[i]? = some s → (∀ d, s ≠ .io d) → f1 = .nx → e1 = e0.set i (.ow d0) → tPar i j (tCons t (tCons (tC v) tNil)) G σ H := fun s hs hn hf he => by
    subst hf he
    obtain ⟨⟨l, e3⟩, h3, hm⟩ := Option.bind_eq_some_iff.mp hm
    cases h3
    obtain ⟨⟨d3, e3⟩, h3, hm⟩ := Option.bind_eq_some_iff.mp hm
    cases h3
    obtain ⟨e4, h4, hm⟩ := Option.map_eq_some_iff.mp hm
    cases hm
    exact h.run W h0 fun F' H' os' p W1 s1 n1 => ⟨_, _, rfl, q F' H' _ _ (WOk.putZ (W1.putO n1 hs hn) (hv F') h4) s1⟩
  dsimp only at h1
  split at h1
  · cases h1
  · rename_i s hs hn
    cases h1
    exact key _ hn (fun d hd => hs d hd) rfl rfl
  · cases h1⟩
theorem s_parNC (i j : Nat) {x y : Str} {m : MN} {v : V} {d : D} {px py pt pt2 : Pos} {kt k2 : Nat} (hc : X.calm = true) (hN : X.N.Nodup) (ha : PE X a (rN X.K m)) (hb : PE X b (tC v)) (hv : ∀ F : Hp, Rp X.K F v d) (hi : X.N[i]? = some x := by rfl) (hj : X.N[j]? = some y := by rfl) (hij : i ≠ j := by decide)
    (hx : X.env.scope.names.lookup x = some .local := by rfl) (hy : X.env.scope.names.lookup y = some .local := by rfl) (h1 : starEach [a, b] X.env = (false, eval a X.env) :: starEach [b] X.env := by rfl) (h2 : starEach [b] X.env = (false, eval b X.env) :: starEach [] X.env := by rfl)
    (hw : swappedStores [.Tuple [.Name x px, .Name y py] kt pt] (.Tuple [a, b] k2 pt2) X.env = pure (some [x, y]) := by rfl)
    (hs : swapsWithSole [.Tuple [.Name x px, .Name y py] kt pt] (.Tuple [a, b] k2 pt2) pos.line X.env = pure false := by rfl) :
    PS X (.Assign [.Tuple [.Name x px, .Name y py] kt pt] (.Tuple [a, b] k2 pt2) pos) (rS X.K (parNC i j m d)) := toS (ps_par hc hN hi hj hij hx hy (pa_cons ha (pa_cons hb pa_nil h2) h1) hw hs) (sim_parNC sim_rN hv)
theorem s_retNon : PS X (.Return none pos) (rS X.K retNon) := toS ps_retN sim_retNon
/-! built-ins -/
theorem d_repr {mr : MA} {p : Pos} (hr : Room k X.A) (hgd : X.A.guards = some []) (hm : X.mg "repr" = none) (ha : PA X (e :: es) (rA X.K mr)) (hg : Gl X "repr" := by rfl) (he : starEach (e :: es) X.env = (false, eval e X.env) :: starEach es X.env := by rfl) (hpl : (backTo pos (starEach es X.env)).any (·.1) = false := by rfl) :
    PE X (.Call (.Name "repr" p) (e :: es) [] pos) (rE X.K (cbM reprD mr)) := d_cb (call_reprD hr hgd) opA_repr hm (by decide +kernel) ha hg (by decide) (by decide) he hpl
theorem d_sorted {mr : MA} {p : Pos} (hr : Room k X.A) (hm : X.mg "sorted" = none) (ha : PA X (e :: es) (rA X.K mr)) (hg : Gl X "sorted" := by rfl) (he : starEach (e :: es) X.env = (false, eval e X.env) :: starEach es X.env := by rfl) (hpl : (backTo pos (starEach es X.env)).any (·.1) = false := by rfl) :
    PE X (.Call (.Name "sorted" p) (e :: es) [] pos) (rN X.K (cbN sortedD mr)) := toN (pe_callB (call_sortedD hr) hg hm (by decide +kernel) ha (by decide) (by decide) he hpl) (sim_cbN opAN_sorted sim_rA)
theorem i_zip {elts : List Expr} {kk : Nat} {p tpos : Pos} {mr : MA} (hm : X.mg "zip" = none) (ha : PA X [e, e2] (rA X.K mr)) (hg : Gl X "zip" := by rfl) (hs : starEach [e, e2] X.env = (false, eval e X.env) :: starEach [e2] X.env := by rfl) (hpl : (backTo pos (starEach [e2] X.env)).any (·.1) = false := by rfl) :
    PI X (.Tuple elts kk tpos) (.Call (.Name "zip" p) [e, e2] [] pos) (rIt X.K (itZ mr)) := toI (pi_zipD hg hm ha hs hpl) (sim_itZ sim_rA)
/-! two clauses -/
theorem d_lc2 {tg iter tg1 iter1 : Expr} {ifs ifs1 : List Expr} {scope : Scope} (own : List (Str × Nat)) (vs1 : List Nat) {mi mi1 : MI} {js js1 : List Nat} {g g1 : MG} {t t1 : MT} (hc : X.calm = true) (hN : X.N.Nodup) (hi : PI X tg iter (rIt X.K mi)) (ok : blkC X.N X.env.scope scope own = true)
    (hg : ∀ (s : Shared) (H : Hp) (C : Addr) (cl : List (Str × Addr)) (fp : List Addr), PG (X.blk s H scope (compEnvC scope cl C X.env) fp) tg (rG X.K js g)) (ht : ∀ (s : Shared) (H : Hp) (C : Addr) (cl : List (Str × Addr)) (fp : List Addr), PTs (X.blk s H scope (compEnvC scope cl C X.env) fp) ifs (rT X.K t))
    (hi1 : ∀ (s : Shared) (H : Hp) (C : Addr) (cl : List (Str × Addr)) (fp : List Addr), PI (X.blk s H scope (compEnvC scope cl C X.env) fp) tg1 iter1 (rIt X.K mi1))
    (hg1 : ∀ (s : Shared) (H : Hp) (C : Addr) (cl : List (Str × Addr)) (fp : List Addr), PG (X.blk s H scope (compEnvC scope cl C X.env) fp) tg1 (rG X.K js1 g1)) (ht1 : ∀ (s : Shared) (H : Hp) (C : Addr) (cl : List (Str × Addr)) (fp : List Addr), PTs (X.blk s H scope (compEnvC scope cl C X.env) fp) ifs1 (rT X.K t1))
    (he : ∀ (s : Shared) (H : Hp) (C : Addr) (cl : List (Str × Addr)) (fp : List Addr), PE (X.blk s H scope (compEnvC scope cl C X.env) fp) e (rE X.K m)) (hv : ∀ i ∈ vs1, i ∈ own.map (·.2) := by decide) (hj : ∀ j ∈ js, j ∈ own.map (·.2) := by decide) (hj1 : ∀ j ∈ js1, j ∈ vs1 := by decide) (hs : ∀ x, foldedSetIterable iter X.env x = pure x := by intro _; rfl) (hs1 : ∀ env x, foldedSetIterable iter1 env x = pure x := by intro _ _; rfl) :
    PE X (.ListComp e [⟨tg, iter, ifs, 0⟩, ⟨tg1, iter1, ifs1, 0⟩] scope pos) (rN X.K (c2M mi g t mi1 g1 t1 m (own.map (·.2)) vs1)) := toN (pe_lc2 hc hN hi (blkOk_by ok) hv hg ht hi1 hg1 ht1 he hs hs1) (sim_lc2 sim_rI sim_rG sim_rT sim_rI sim_rG sim_rT sim_rE hj hj1 hv)
theorem s_setLc2 (i : Nat) {y : Str} {py : Pos} {spos : Pos} {tg iter tg1 iter1 : Expr} {ifs ifs1 : List Expr} {scope : Scope} (own : List (Str × Nat)) (vs1 : List Nat) {mi mi1 : MI} {js js1 : List Nat} {g g1 : MG} {t t1 : MT} (hc : X.calm = true) (hN : X.N.Nodup) (hi : PI X tg iter (rIt X.K mi)) (ok : blkC X.N X.env.scope scope own = true)
    (hg : ∀ (s : Shared) (H : Hp) (C : Addr) (cl : List (Str × Addr)) (fp : List Addr), PG (X.blk s H scope (compEnvC scope cl C X.env) fp) tg (rG X.K js g)) (ht : ∀ (s : Shared) (H : Hp) (C : Addr) (cl : List (Str × Addr)) (fp : List Addr), PTs (X.blk s H scope (compEnvC scope cl C X.env) fp) ifs (rT X.K t))
    (hi1 : ∀ (s : Shared) (H : Hp) (C : Addr) (cl : List (Str × Addr)) (fp : List Addr), PI (X.blk s H scope (compEnvC scope cl C X.env) fp) tg1 iter1 (rIt X.K mi1))
    (hg1 : ∀ (s : Shared) (H : Hp) (C : Addr) (cl : List (Str × Addr)) (fp : List Addr), PG (X.blk s H scope (compEnvC scope cl C X.env) fp) tg1 (rG X.K js1 g1)) (ht1 : ∀ (s : Shared) (H : Hp) (C : Addr) (cl : List (Str × Addr)) (fp : List Addr), PTs (X.blk s H scope (compEnvC scope cl C X.env) fp) ifs1 (rT X.K t1))
    (he : ∀ (s : Shared) (H : Hp) (C : Addr) (cl : List (Str × Addr)) (fp : List Addr), PE (X.blk s H scope (compEnvC scope cl C X.env) fp) e (rE X.K m)) (hy : X.N[i]? = some y := by rfl) (hyl : X.env.scope.names.lookup y = some .local := by rfl)
    (hsw : swapsWith (.ListComp e [⟨tg, iter, ifs, 0⟩, ⟨tg1, iter1, ifs1, 0⟩] scope pos) (some (.Name y py)) spos.line X.env = pure true := by exact sw_true rfl rfl rfl (by decide +kernel)) (hv : ∀ i ∈ vs1, i ∈ own.map (·.2) := by decide) (hj : ∀ j ∈ js, j ∈ own.map (·.2) := by decide) (hj1 : ∀ j ∈ js1, j ∈ vs1 := by decide) (hs : ∀ x, foldedSetIterable iter X.env x = pure x := by intro _; rfl) (hs1 : ∀ env x, foldedSetIterable iter1 env x = pure x := by intro _ _; rfl) :
    PS X (.Assign [.Name y py] (.ListComp e [⟨tg, iter, ifs, 0⟩, ⟨tg1, iter1, ifs1, 0⟩] scope pos) spos) (rS X.K (asgN (c2M mi g t mi1 g1 t1 m (own.map (·.2)) vs1) i)) :=
  toS (ps_setLc2 hc hN hy hyl hsw hi (blkOk_by ok) hv hg ht hi1 hg1 ht1 he hs hs1) (sim_asgN (sim_lc2 sim_rI sim_rG sim_rT sim_rI sim_rG sim_rT sim_rE hj hj1 hv))
end
end Dk
namespace Dk
open PySem PySem.Spec PyProof.Rows L2
variable {K : PySem.W.Frag}
/-! ### defs with keyword-only parameters that have defaults -/
theorem fnDk {P : Program} {w : World} {mg : Str → Option Value} {base : Heap} {x qual : Str} {pr : Arguments} {body : List Stmt} {scope : Scope} {dvs : List V} {kws : List (Str × V)} {f : Addr} {fd : FuncData} {N ps : List Str} {k a n : Nat} {m : MS} (Fu : FunD K x qual pr body scope dvs kws f fd) (S : FnScope N ps scope) (ha : ps.length = a) (hn : N.length - ps.length = n)
    (hb : ∀ (cdv : Value) (A : Around) (outer : List PySem.Env) (s : Shared) (H : Hp), Room k (A.deeper (envOfC qual scope s.heap.objs.size f cdv)) → (A.deeper (envOfC qual scope s.heap.objs.size f cdv)).guards = some [] →
      PSs (cxOf CX0 P w K mg base N qual scope f cdv A outer s H E0).nox body (rS K m)) : FnD P w K mg base (k + 1) f fd ps (fnM a n m) := by
  obtain ⟨oc, od, dV, kV, doc, pm, an, cdv, ct, osl, rfl, lk, hcd, _, _⟩ := Fu.ex
  refine ⟨fun vs H Q h => (fnM_len h).trans ha.symm, fun A outer s H args us vs Q hr hg e0 bt rv hs => ?_⟩
  have hl : vs.length = ps.length := (fnM_len hs).trans ha.symm
  have inK : K.In s.heap := e0.mod.kin.keeps fun b o h => (e0.bs b o h).1
  have noL : s.heap.NoLimit := e0.mod.nolimit.keeps fun b o h => (e0.bs b o h).1
  have kinds : ∀ y ∈ ps.zip us, scope.names.lookup y.1 = some .local ∨
      (scope.names.lookup y.1 = some .cell ∧ ((cellsFrom (s.heap.objs.size + 1) scope.names []).lookup y.1).isSome = true) := by
    rintro ⟨z, v⟩ hz
    rcases S.par z (List.of_mem_zip hz).1 with h | h
    · exact Or.inl h
    · exact Or.inr ⟨h, PySem.W.cellsFrom_some _ _ _ (Or.inl h)⟩
  refine codeAny_call_function hr.depth (inK _ _ lk) rfl
    S.co S.gen rfl (PySem.W.codeRec_of inK hcd) (bt _ _ _ _ ?_)
  refine wpAny_newFunctionEnv_cells S.kind kinds fun env henv s1 ic => ?_
  subst henv
  refine ⟨noL.keeps ic.toInCall.keep, codeAny_func ?_⟩
  have body := (hb cdv A outer s H (hr.deeper _) hg).nox
  have read := fn_sim (t := rS K m) (N := N) sim_rS (by rw [hl]; exact hn) hs
  have I0 := inv_start (CX := CX0) (P := P) (w := w) (mg := mg) (base := base)
    (E := E0) S hr.hd e0 hl rv ic
  refine wpAny_mono (body.run [] s1 _ H _ I0 read)
    (fun fl s' hq => ?_) fun x s' hq => hq
  cases fl with
  | brk =>
    obtain ⟨_, _, _, no⟩ := hq
    exact no.elim
  | cont =>
    obtain ⟨_, _, _, no⟩ := hq
    exact no.elim
  | next =>
    obtain ⟨σ', H', J, hQ⟩ := hq
    exact ⟨V.non, H', J.os, J.bare, J.base, J.hok, rfl, hQ⟩
  | ret u =>
    obtain ⟨v, σ', H', J, rl, hQ⟩ := hq
    exact ⟨v, H', J.os, J.bare, J.base, J.hok, rl, hQ⟩
/-- how calls of the def bind: all keyword-only ones lack, or all are written -/
structure KwB (K : PySem.W.Frag) (fd : FuncData) (ps : List Str) (n : Nat) (ks : List Str) (dvs : List V) : Prop where
  lack : ∃ ds, Vals dvs ds ∧ Binds K fd ps ds
  full : ∀ (s : Shared) (us ws : List Value), us.length = n → ws.length = ks.length → BindsTo s fd ⟨us, ks.zip ws⟩ (ps.zip (us ++ ws))
  len : ps.length = n + ks.length
/-- a def with keyword-only parameters ks (n others), dvs their defaults -/
def HasK (P : Program) (w : World) (K : PySem.W.Frag) (mg : Str → Option Value) (base : Heap) (x : Str) (k : Nat) (ps : List Str) (n : Nat) (ks : List Str) (dvs : List V) (m : MS) : Prop :=
  ∃ f fd, FnD P w K mg base k f fd ps m ∧ mg x = some (.ref f) ∧ PySem.W.keepIn K (.ref f) = true ∧ KwB K fd ps n ks dvs
def DefAtK (K : PySem.W.Frag) (mg : Str → Option Value) (x : Str) (st : Stmt) (kws : List (Str × V)) : Prop := ∃ f fd, FunD K x x (defArgs st) (defBody st) (defScope st) [] kws f fd ∧ mg x = some (.ref f)
theorem hasDk {P : Program} {w : World} {mg : Str → Option Value} {base : Heap} {x : Str} {st : Stmt} {N ps : List Str} {k a n nn : Nat} {kws : List (Str × V)} {m : MS} (At : DefAtK K mg x st kws) (S : FnScope N ps (defScope st)) (ha : ps.length = a) (hn : N.length - ps.length = n) (hk : kws ≠ []) (hl : nn + kws.length = ps.length)
    (h0 : ∀ (D : Addr) (doc pm : Value) (an : Option Addr) (cdv ct : Value) (us ks : List Value), us.length = nn → ks.length = kws.length →
      KwChain D ((kws.map (·.1)).zip ks) (bindArgs (PySem.W.fnOf x x (defArgs st) (defBody st) (defScope st) .none (.ref D) doc pm an cdv ct) ⟨us, []⟩) (ps.zip (us ++ ks)))
    (h1 : ∀ (kV doc pm : Value) (an : Option Addr) (cdv ct : Value) (us ws : List Value), us.length = nn → ws.length = kws.length → bindArgs (PySem.W.fnOf x x (defArgs st) (defBody st) (defScope st) .none kV doc pm an cdv ct) ⟨us, (kws.map (·.1)).zip ws⟩ = pure (ps.zip (us ++ ws)))
    (hb : ∀ (f : Addr) (cdv : Value) (A : Around) (outer : List PySem.Env) (s : Shared) (H : Hp), Room k (A.deeper (envOfC x (defScope st) s.heap.objs.size f cdv)) → (A.deeper (envOfC x (defScope st) s.heap.objs.size f cdv)).guards = some [] →
      PSs (cxOf CX0 P w K mg base N x (defScope st) f cdv A outer s H E0).nox (defBody st) (rS K m)) : HasK P w K mg base x (k + 1) ps nn (kws.map (·.1)) (kws.map (·.2)) (fnM a n m) := by
  obtain ⟨f, fd, Fu, hm⟩ := At
  refine ⟨f, fd, fnDk Fu S ha hn (hb f), hm, Fu.kp, Fu.binds0 nn hk hl h0, ?_, by rw [List.length_map]; exact hl.symm⟩
  obtain ⟨oc, od, dV, kV, doc, pm, an, cdv, ct, osl, rfl, lk, hcd, hD, hK⟩ := Fu.ex
  rcases hD with ⟨_, rfl⟩ | ⟨e, _⟩
  · exact fun s us ws l1 l2 => .of_eq (h1 kV doc pm an cdv ct us ws l1 (by rw [l2, List.length_map]))
  · exact absurd rfl e
/-- arguments, then more -/
def apA (m r : MA) : MA := fun e => (m e).bind fun p => (r p.2).map fun q => (p.1 ++ q.1, q.2)
def tAp (t u : TA) : TA := fun σ H Q => t σ H fun vs H1 => u σ H1 fun zs H2 => Q (vs ++ zs) H2
theorem sim_ap {t u : TA} {m r : MA} (h : SimA K t m) (h2 : SimA K u r) : SimA K (tAp t u) (apA m r) := ⟨fun {F0 Gd ios F H σ e os ls e' Q} W hm q => by
  unfold apA at hm
  obtain ⟨⟨l1, e1⟩, h1, hm⟩ := Option.bind_eq_some_iff.mp hm
  obtain ⟨⟨l2, e2⟩, h3, hm⟩ := Option.map_eq_some_iff.mp hm
  cases hm
  exact h.run W h1 fun F1 H1 os1 xs W1 s1 r1 => h2.run W1 h3 fun F2 H2 os2 ys W2 s2 r2 => q F2 H2 os2 _ W2 (s1.trans s2) ((r1.mono s2).app r2)⟩
def tVs (vs : List V) : TA := fun _ H Q => Q vs H
def csA (ds : List D) : MA := fun e => some (ds.map L.v, e)
theorem sim_vs {vs : List V} {ds : List D} (h : ∀ F : Hp, RpL K F vs ds) : SimA K (tVs vs) (csA ds) := ⟨fun {F0 Gd ios F H σ e os ls e' Q} W hm q => by
  cases hm
  exact q F H os _ W (fun _ _ h => h) (LsOk.ofRp (h F))⟩
section
variable {X : Cx} {k n : Nat} {f : Addr} {fd : FuncData} {ps ks : List Str} {m : MS} {x : Str} {p pos : Pos} {e : Expr} {es : List Expr} {t : TA} {dvs : List V}
theorem run_D {pins : List (Addr × Obj)} {σ : L2.St} {H1 : Hp} {s1 : Shared} {Q : VK} {args : Args} {us : List Value} {vs : List V} (F : FnD X.prog X.w X.K X.mg X.base k f fd ps m) (hr : Room k X.A) (hgd : X.A.guards = some []) (I1 : Inv X pins σ H1 s1) (bd : BindsTo s1 fd args (ps.zip us)) (r : Vals vs us) (q : spD X.K m vs H1 Q) :
    wpAny (model X.prog X.w) X.A (call (.ref f) args.pos args.kw) (EP X pins σ Q) X.xe s1 := by
  refine wpAny_call (codeAny_mono (F.run X.A X.stack s1 H1 args us vs Q hr hgd I1.env0 bd r q) ?_)
  intro rs s' hq
  cases rs with
  | error _ => exact False.elim hq
  | ok fl => cases fl with
    | ret u => exact I1.after hq
    | next => exact False.elim hq
    | brk => exact False.elim hq
    | cont => exact False.elim hq
theorem pe_callK0 (F : FnD X.prog X.w X.K X.mg X.base k f fd ps m) (hr : Room k X.A) (hgd : X.A.guards = some []) (hg : Gl X x) (hm : X.mg x = some (.ref f)) (hk : PySem.W.keepIn X.K (.ref f) = true) (hb : KwB X.K fd ps n ks dvs) (ha : PA X (e :: es) t)
    (hdb : (x == ("__debug__" : Str)) = false := by decide) (he : starEach (e :: es) X.env = (false, eval e X.env) :: starEach es X.env := by rfl) (hpl : (backTo pos (starEach es X.env)).any (·.1) = false := by rfl) :
    PE X (.Call (.Name x p) (e :: es) [] pos) (tCallD X.K m (tAp t (tVs dvs))) := by
  refine ⟨fun pins s σ H Q I h => ?_⟩
  refine wpAny_Call_Name_kw (ld_glob I hg hm ?_ hdb)
  refine PySem.W.callWith_K (h₀ := X.base) I.ok.mod.kin hk (thn (ha.run pos pins s σ H _ I h) ?_) he hpl
  rintro us s1 ⟨vs, H1, I1, r, q⟩
  refine ⟨I1.kIn, ?_⟩
  obtain ⟨ds, rd, bd⟩ := hb.lack
  have q : spD X.K m (vs ++ dvs) H1 Q := q
  have el : (vs ++ dvs).length = ps.length := F.len _ _ _ q
  have rr := r.append rd
  exact run_D F hr hgd I1 (bd s1 us I1.kIn (by rw [← rr.length]; exact el)) rr q
theorem pe_callK1 {kws : List Keyword} {tk : TA} (F : FnD X.prog X.w X.K X.mg X.base k f fd ps m) (hr : Room k X.A) (hgd : X.A.guards = some []) (hg : Gl X x) (hm : X.mg x = some (.ref f)) (hk : PySem.W.keepIn X.K (.ref f) = true) (hb : KwB X.K fd ps n ks dvs) (ha : PA X (e :: es) t)
    (hkw : PK X kws tk) (hn : (∀ {σ H Q}, t σ H Q → t σ H fun vs H1 => vs.length = n ∧ Q vs H1)) (hall : (backToKw pos (keywordEach kws X.env)).all (·.1.isSome) = true := by rfl) (hks : (backToKw pos (keywordEach kws X.env)).filterMap (·.1) = ks := by rfl)
    (hdb : (x == ("__debug__" : Str)) = false := by decide) (he : starEach (e :: es) X.env = (false, eval e X.env) :: starEach es X.env := by rfl)
    (hpl : ((backTo pos (starEach (e :: es) X.env)).any (·.1) || (backToKw pos (keywordEach kws X.env)).any (·.1.isNone)) = false := by rfl) :
    PE X (.Call (.Name x p) (e :: es) kws pos) (tCallD X.K m (tAp t tk)) := by
  refine ⟨fun pins s σ H Q I h => ?_⟩
  refine wpAny_Call_Name_kw (ld_glob I hg hm ?_ hdb)
  refine PySem.W.callWith_KW (h₀ := X.base) I.ok.mod.kin hk hall (thn (ha.run pos pins s σ H _ I (hn h)) fun us s1 ⟨vs, H1, I1, r, hl, q⟩ => ?_) hpl he
  refine thn (hkw.run pos pins s1 σ H1 _ I1 q) fun ws s2 ⟨zs, H2, I2, rz, q2⟩ => ⟨I2.kIn, ?_⟩
  rw [hks]
  have q2 : spD X.K m (vs ++ zs) H2 Q := q2
  have el : (vs ++ zs).length = ps.length := F.len _ _ _ q2
  rw [hb.len, List.length_append, hl] at el
  exact run_D (args := ⟨us, ks.zip ws⟩) F hr hgd I2 (hb.full s2 us ws (r.length.symm.trans hl) (by rw [← rz.length]; omega)) (r.append rz) q2
end
theorem rA_len {m : MA} {n : Nat} (h : ∀ e ls e', m e = some (ls, e') → ls.length = n) {σ : L2.St} {H : Hp} {Q : List V → Hp → Prop} (t : rA K m σ H Q) : rA K m σ H fun vs H1 => vs.length = n ∧ Q vs H1 := by
  obtain ⟨F0, Gd, ios, F, e, os, ls, e', W, hm, q⟩ := t
  refine ⟨F0, Gd, ios, F, e, os, ls, e', W, hm, fun F' H' os' xs W' s' l => ⟨?_, q F' H' os' xs W' s' l⟩⟩
  have hl := h e ls e' hm
  rw [← hl]
  clear hm hl q
  induction l with
  | nil => rfl
  | cons _ _ ih => rw [List.length_cons, List.length_cons, ih]
theorem len_nil {e : Env} {ls : List L} {e' : Env} (h : nilA e = some (ls, e')) : ls.length = 0 := by cases h; rfl
theorem len_cons {m : ME} {r : MA} {n : Nat} (hr : ∀ e ls e', r e = some (ls, e') → ls.length = n) : ∀ e ls e', consA m r e = some (ls, e') → ls.length = n + 1 := fun e ls e' h => by
  unfold consA at h
  obtain ⟨_, _, h⟩ := Option.bind_eq_some_iff.mp h
  obtain ⟨⟨l2, e2⟩, h3, h⟩ := Option.map_eq_some_iff.mp h
  cases h
  rw [List.length_cons, hr _ _ _ h3]
section
variable {X : Cx} {e : Expr} {es : List Expr} {pos : Pos} {k : Nat} {kws : List Keyword}
theorem k_nil : PK X [] (rA X.K nilA) := ⟨fun pos pins sh σ H Q I ⟨_, _, _, _, _, _, _, _, W, hm, q⟩ => pk_nil.run pos pins sh σ H Q I (sim_nil.run W hm q)⟩
theorem k_cons {nm : Option Str} {kpos : Pos} {m : ME} {mr : MA} (h : PE X e (rE X.K m)) (r : PK X kws (rA X.K mr)) : PK X (⟨nm, e, kpos⟩ :: kws) (rA X.K (consA m mr)) := ⟨fun pos pins sh σ H Q I ⟨_, _, _, _, _, _, _, _, W, hm, q⟩ => (pk_cons h r).run pos pins sh σ H Q I ((sim_cons sim_rE sim_rA).run W hm q)⟩
theorem d_callK0 {ps ks : List Str} {n : Nat} {dvs : List V} {fm : MS} {x : Str} {mr : MA} {p : Pos} {ds : List D} (F : HasK X.prog X.w X.K X.mg X.base x k ps n ks dvs fm) (hr : Room k X.A) (hgd : X.A.guards = some []) (hds : ∀ F : Hp, RpL X.K F dvs ds) (ha : PA X (e :: es) (rA X.K mr))
    (hg : Gl X x := by rfl) (hdb : (x == ("__debug__" : Str)) = false := by decide) (he : starEach (e :: es) X.env = (false, eval e X.env) :: starEach es X.env := by rfl) (hpl : (backTo pos (starEach es X.env)).any (·.1) = false := by rfl) :
    PE X (.Call (.Name x p) (e :: es) [] pos) (rE X.K (callM fm (apA mr (csA ds)))) := by
  obtain ⟨f, fd, F, hm, hk, hb⟩ := F
  exact toE (pe_callK0 F hr hgd hg hm hk hb ha hdb he hpl) (sim_call (sim_ap sim_rA (sim_vs hds)))
theorem d_callK1 {ps ks : List Str} {n : Nat} {dvs : List V} {fm : MS} {x : Str} {mr mk : MA} {p : Pos} (F : HasK X.prog X.w X.K X.mg X.base x k ps n ks dvs fm) (hr : Room k X.A) (hgd : X.A.guards = some []) (ha : PA X (e :: es) (rA X.K mr)) (hkw : PK X kws (rA X.K mk))
    (hl : ∀ e ls e', mr e = some (ls, e') → ls.length = n) (hg : Gl X x := by rfl) (hall : (backToKw pos (keywordEach kws X.env)).all (·.1.isSome) = true := by rfl) (hks : (backToKw pos (keywordEach kws X.env)).filterMap (·.1) = ks := by rfl)
    (hdb : (x == ("__debug__" : Str)) = false := by decide) (he : starEach (e :: es) X.env = (false, eval e X.env) :: starEach es X.env := by rfl)
    (hpl : ((backTo pos (starEach (e :: es) X.env)).any (·.1) || (backToKw pos (keywordEach kws X.env)).any (·.1.isNone)) = false := by rfl) :
    PE X (.Call (.Name x p) (e :: es) kws pos) (rE X.K (callM fm (apA mr mk))) := by
  obtain ⟨f, fd, F, hm, hk, hb⟩ := F
  exact toE (pe_callK1 F hr hgd hg hm hk hb ha hkw (fun t => rA_len hl t) hall hks hdb he hpl) (sim_call (sim_ap sim_rA sim_rA))
end
end Dk
namespace Dk
open PySem PySem.Spec PyProof.Rows L2
variable {K : PySem.W.Frag}
/-- either of two -/
def orR (r s : R2) : R2 := fun x y H Q => r x y H Q ∨ s x y H Q
theorem opr_or {X : Cx} {f : Value → Value → Sem Value} {r s : R2} (h : OpR X f r) (h2 : OpR X f s) : OpR X f (orR r s) := fun pins sh σ H x y v u Q I a b c => c.elim (fun c => h pins sh σ H x y v u Q I a b c) fun c => h2 pins sh σ H x y v u Q I a b c
def orD (c : D → Bool) (f g : D → D → Option D) : D → D → Option D := fun a b => if c a = true then f a b else g a b
theorem op2_or {r s : R2} {c : D → Bool} {f g : D → D → Option D} (h : Op2 K r f) (h2 : Op2 K s g) : Op2 K (orR r s) (orD c f g) := fun {F H x y dx dy d Q} sm bx bY hd q => by
  unfold orD at hd
  split at hd
  · exact Or.inl (h sm bx bY hd q)
  · exact Or.inr (h2 sm bx bY hd q)
def isStrD : D → Bool
  | .str _ => true
  | _ => false
def isTupD : D → Bool
  | .tup _ => true
  | _ => false
def mulX : D → D → Option D := orD isStrD mulS mulI
def addX : D → D → Option D := orD isTupD addT addD
/-- == and != of texts -/
def eqS : D → D → Option D
  | .str x, .str y => some (.bl (decide (x = y)))
  | _, _ => none
def neS : D → D → Option D
  | .str x, .str y => some (.bl (!decide (x = y)))
  | _, _ => none
theorem op2_eqS : Op2 K rEq eqS := fun {F H x y dx dy d Q} s bx bY hd q => by
  unfold eqS at hd
  split at hd
  · rename_i i j
    cases hd
    cases bx.isStr; cases bY.isStr
    have e : decide (V.str i = V.str j) = decide (i = j) := decide_eq_decide.mpr ⟨fun h => V.str.inj h, fun h => congrArg V.str h⟩
    exact ⟨rfl, by rw [e]; exact q F H _ (Ext.refl s) (.bl _)⟩
  · cases hd
theorem op2_neS : Op2 K rNe neS := fun {F H x y dx dy d Q} s bx bY hd q => by
  unfold neS at hd
  split at hd
  · rename_i i j
    cases hd
    cases bx.isStr; cases bY.isStr
    have e : decide (V.str i = V.str j) = decide (i = j) := decide_eq_decide.mpr ⟨fun h => V.str.inj h, fun h => congrArg V.str h⟩
    exact ⟨rfl, by rw [e]; exact q F H _ (Ext.refl s) (.bl _)⟩
  · cases hd
section
variable {X : Cx} {a b c e e2 : Expr} {ma mb : ME} {pos : Pos} {k : Nat}
theorem d_eqS (ha : PE X a (rE X.K ma)) (hb : PE X b (rE X.K mb)) : PE X (.Compare a [.Eq] [b] pos) (rE X.K (binM eqS ma mb)) := d_cmp op_eq op2_eqS ha hb (nomark _)
theorem d_neS (ha : PE X a (rE X.K ma)) (hb : PE X b (rE X.K mb)) : PE X (.Compare a [.NotEq] [b] pos) (rE X.K (binM neS ma mb)) := d_cmp op_ne op2_neS ha hb (nomark _)
theorem t_eqS (ha : PE X a (rE X.K ma)) (hb : PE X b (rE X.K mb)) : PT X (.Compare a [.Eq] [b] pos) (rT X.K (bM (binM eqS ma mb))) := t_cmp op_eq op2_eqS ha hb (nomark _)
theorem t_neS (ha : PE X a (rE X.K ma)) (hb : PE X b (rE X.K mb)) : PT X (.Compare a [.NotEq] [b] pos) (rT X.K (bM (binM neS ma mb))) := t_cmp op_ne op2_neS ha hb (nomark _)
theorem repr_ok {t : List D} (h : ((toPy (.tup t)).map fun p => p.showable && decide (p.depth ≤ 60) && p.leavesShort 8 && decide (p.weight ≤ 1048576)) = some true) : ∃ x, reprD [.tup t] = some (.str x) := by
  obtain ⟨p, h1, h2⟩ := Option.map_eq_some_iff.mp h
  simp only [Bool.and_eq_true, decide_eq_true_eq] at h2
  obtain ⟨⟨⟨h3, h4⟩, h5⟩, h6⟩ := h2
  have h7 := PyData.shown_fits (B := 8) (by decide) (by decide) h5 h6
  refine ⟨p.shown, ?_⟩
  show (toPy (.tup t)).bind reprP = _
  rw [h1]
  show reprP p = _
  unfold reprP okB
  rw [h3, decide_eq_true h7, decide_eq_true h4]
  rfl
theorem d_mulX (ha : PE X a (rE X.K ma)) (hb : PE X b (rE X.K mb)) : PE X (.BinOp a .Mult b pos) (rE X.K (binM mulX ma mb)) := d_op (opr_or op_mulS op_mulW) (op2_or op2_mulS op2_mul) ha hb
theorem d_addX (ha : PE X a (rE X.K ma)) (hb : PE X b (rE X.K mb)) : PE X (.BinOp a .Add b pos) (rE X.K (binM addX ma mb)) := d_op (opr_or op_catA opr_add) (op2_or op2_addT op2_add) ha hb
end
end Dk
namespace Wk09
open PySem PySem.Spec PyProof.Rows L2 Dk
def topS (i : Nat) : Stmt := PySem.Challenge.pw_whatcounts_k09_whole_free_patterns_and_n.main.body.getD i (.Pass ⟨0, 0, 0, 0⟩)
abbrev s__law_cup : Stmt := topS 30
abbrev s__law_bit : Stmt := topS 31
abbrev s__law_leads : Stmt := topS 36
abbrev s__law_lines_to : Stmt := topS 35
abbrev s__law_leaders : Stmt := topS 37
abbrev s__law_free : Stmt := topS 38
abbrev s__law_pick : Stmt := topS 32
abbrev s__law_kind : Stmt := topS 34
abbrev s_is_integer : Stmt := topS 9
abbrev s_is_integer_within : Stmt := topS 10
abbrev s_power_of : Stmt := topS 26
abbrev s_are_small : Stmt := topS 12
abbrev s_is_letters : Stmt := topS 13
abbrev s_require_letters : Stmt := topS 14
abbrev s_sign_of : Stmt := topS 25
abbrev s_how_many : Stmt := topS 28
abbrev s__law_powers_right : Stmt := topS 39
abbrev s__law_signs : Stmt := topS 33
abbrev s__law_sum_right : Stmt := topS 40
abbrev s_is_leading_of : Stmt := topS 21
abbrev s_patterns_in : Stmt := topS 20
abbrev s_leading_in : Stmt := topS 22
abbrev s_powers_in : Stmt := topS 23
abbrev s_free_in : Stmt := topS 24
abbrev s_require_within : Stmt := topS 15
abbrev s_require_depth : Stmt := topS 16
abbrev s_is_prime : Stmt := topS 11
abbrev s_require_kind : Stmt := topS 17
abbrev s_free_patterns : Stmt := topS 27
abbrev s__law_right : Stmt := topS 41
abbrev s_law : Stmt := topS 42
def c_GREATEST : D := .int (99999999999999999999999999999999999999999999999999999999999999999999999999999999999999999999999999999999999999999999999999999999999999999999999999999999999999999999999999999999999999999999999999999999)
def c_MAX_DEPTH : D := .int (5)
def c_MAX_SIZE : D := .int (400)
def c_MOST_LETTERS : D := .int (3)
def c_PRIMES : D := .tup [.int (2), .int (3), .int (5), .int (7)]
structure Txt (K : PySem.W.Frag) (mg : Str → Option Value) : Prop where
  n_abs : mg "abs" = none
  n_all : mg "all" = none
  n_bool : mg "bool" = none
  n_int : mg "int" = none
  n_isinstance : mg "isinstance" = none
  n_len : mg "len" = none
  n_max : mg "max" = none
  n_min : mg "min" = none
  n_range : mg "range" = none
  n_repr : mg "repr" = none
  n_sorted : mg "sorted" = none
  n_str : mg "str" = none
  n_tuple : mg "tuple" = none
  n_zip : mg "zip" = none
  c_GREATEST : GlobD K mg "GREATEST" c_GREATEST
  c_MAX_DEPTH : GlobD K mg "MAX_DEPTH" c_MAX_DEPTH
  c_MAX_SIZE : GlobD K mg "MAX_SIZE" c_MAX_SIZE
  c_MOST_LETTERS : GlobD K mg "MOST_LETTERS" c_MOST_LETTERS
  c_PRIMES : GlobD K mg "PRIMES" c_PRIMES
  f__law_cup : DefAt K mg "_law_cup" s__law_cup
  f__law_bit : DefAt K mg "_law_bit" s__law_bit
  f__law_leads : DefAt K mg "_law_leads" s__law_leads
  f__law_lines_to : DefAt K mg "_law_lines_to" s__law_lines_to
  f__law_leaders : DefAt K mg "_law_leaders" s__law_leaders
  f__law_free : DefAt K mg "_law_free" s__law_free
  f__law_pick : DefAt K mg "_law_pick" s__law_pick
  f__law_kind : DefAt K mg "_law_kind" s__law_kind
  f_is_integer : DefAt K mg "is_integer" s_is_integer
  f_is_integer_within : DefAt K mg "is_integer_within" s_is_integer_within
  f_power_of : DefAt K mg "power_of" s_power_of
  f_are_small : DefAt K mg "are_small" s_are_small
  f_is_letters : DefAt K mg "is_letters" s_is_letters
  f_require_letters : DefAt K mg "require_letters" s_require_letters
  f_sign_of : DefAt K mg "sign_of" s_sign_of
  f_how_many : DefAt K mg "how_many" s_how_many
  f__law_powers_right : DefAt K mg "_law_powers_right" s__law_powers_right
  f__law_signs : DefAt K mg "_law_signs" s__law_signs
  f__law_sum_right : DefAt K mg "_law_sum_right" s__law_sum_right
  f_is_leading_of : DefAt K mg "is_leading_of" s_is_leading_of
  f_patterns_in : DefAt K mg "patterns_in" s_patterns_in
  f_leading_in : DefAt K mg "leading_in" s_leading_in
  f_powers_in : DefAt K mg "powers_in" s_powers_in
  f_free_in : DefAt K mg "free_in" s_free_in
  f_require_within : DefAt K mg "require_within" s_require_within
  f_require_depth : DefAt K mg "require_depth" s_require_depth
  f_is_prime : DefAt K mg "is_prime" s_is_prime
  f_require_kind : DefAt K mg "require_kind" s_require_kind
  f_free_patterns : DefAtK K mg "free_patterns" s_free_patterns [("prime", .non)]
  f__law_right : DefAt K mg "_law_right" s__law_right
theorem sc__law_cup : FnScope ["_law_script", "_law_at", "_law_cell", "_law_great", "_law_blend"] ["_law_script", "_law_at"] (defScope s__law_cup) := ⟨rfl, rfl, rfl, by decide +kernel, rfl, by decide +kernel, by decide +kernel⟩
def b__law_cup : MS := seqM (asgM (ifM (bM (binM ltD (varM 1) (cbM lenD (consA (varM 0) (nilA))))) (binM ixD (varM 0) (varM 1)) (binM addD (binM mulI (cM (.int 73)) (varM 1)) (cM (.int 37)))) (nameG 2)) (seqM (asgM (binM modD (cbM intD (consA (cbM absD (consA (varM 2) (nilA))) (nilA))) (binM powD (binM powD (cM (.int 10)) (cM (.int 61))) (cM (.int 11)))) (nameG 3)) (seqM (asgM (binM addD (binM addD (binM addD (binM mulI (binM modD (cbM intD (consA (varM 3) (nilA))) (cM (.int 2147483179))) (cM (.int 99317))) (binM mulI (cM (.int 9431)) (varM 1))) (binM mulI (cM (.int 53)) (cbM intD (consA (binM ltD (varM 2) (cM (.int 0))) (nilA))))) (cM (.int 67))) (nameG 4)) (retN (lstM (consA (cbM maxD (consA (cM (.int 0)) (consA (binM subD (varM 3) (binM powD (cM (.int 10)) (cM (.int 18)))) (nilA)))) (consA (binM modD (cbM intD (consA (varM 4) (nilA))) (cM (.int 2305843009213693907))) (consA (cM (.int 0)) (nilA))))))))
def m__law_cup : MS := fnM 2 3 b__law_cup
theorem ok__law_cup {P : Program} {w : World} {K : PySem.W.Frag} {mg : Str → Option Value} {base : Heap} (T : Txt K mg) : Has P w K mg base "_law_cup" 1 ["_law_script", "_law_at"] m__law_cup := by
  exact hasD T.f__law_cup sc__law_cup rfl rfl (fun _ _ _ _ _ _ us hl => match us, hl with | [_, _], _ => rfl) (fun f cdv A outer s H hr hg => s_cons (s_set 2 sc__law_cup.nd (d_if (t_lt (d_var 1) (d_len T.n_len (a_cons (d_var 0) (a_nil)))) (d_ix (d_var 0) (d_var 1)) (d_add (d_mul (d_int) (d_var 1)) (d_int)))) (s_cons (s_set 3 sc__law_cup.nd (d_mod (d_intc T.n_int (a_cons (d_abs T.n_abs (a_cons (d_var 2) (a_nil))) (a_nil))) (d_pow (d_pow (d_int) (d_int)) (d_int)))) (s_cons (s_set 4 sc__law_cup.nd (d_add (d_add (d_add (d_mul (d_mod (d_intc T.n_int (a_cons (d_var 3) (a_nil))) (d_int)) (d_int)) (d_mul (d_int) (d_var 1))) (d_mul (d_int) (d_intc T.n_int (a_cons (d_lt (d_var 2) (d_int)) (a_nil))))) (d_int))) (s_one (s_retN (d_lst (a_cons (d_max rfl T.n_max (a_cons (d_int) (a_cons (d_sub (d_var 3) (d_pow (d_int) (d_int))) (a_nil)))) (a_cons (d_mod (d_intc T.n_int (a_cons (d_var 4) (a_nil))) (d_int)) (a_cons (d_int) (a_nil))))))))))
theorem sc__law_bit : FnScope ["_law_cup_here", "_law_much", "_law_found", "_law_first", "_law_later"] ["_law_cup_here", "_law_much"] (defScope s__law_bit) := ⟨rfl, rfl, rfl, by decide +kernel, rfl, by decide +kernel, by decide +kernel⟩
def b__law_bit : MS := seqM (ifS (bM (binM gtD (binM ixD (varM 0) (cM (.int 0))) (cM (.int 0)))) (seqM (asgM (binM modD (cbM intD (consA (binM ixD (varM 0) (cM (.int 0))) (nilA))) (varM 1)) (nameG 2)) (seqM (setM 0 (binM divD (binM ixD (varM 0) (cM (.int 0))) (varM 1)) (cM (.int 0))) (retM (varM 2)))) (nxM)) (seqM (setM 0 (binM addD (binM ixD (varM 0) (cM (.int 2))) (cM (.int 1))) (cM (.int 2))) (seqM (asgM (binM modD (cbM intD (consA (binM addD (binM ixD (varM 0) (cM (.int 1))) (binM mulI (cM (.int 1000541)) (binM ixD (varM 0) (cM (.int 2))))) (nilA))) (cM (.int 2305843009213693951))) (nameG 3)) (seqM (asgM (binM addD (binM mulI (binM modD (cbM intD (consA (binM mulI (varM 3) (varM 3)) (nilA))) (cM (.int 2305843009213693921))) (varM 3)) (binM mulI (cM (.int 9341)) (binM ixD (varM 0) (cM (.int 2))))) (nameG 4)) (retM (binM modD (cbM intD (consA (binM divD (binM modD (cbM intD (consA (varM 4) (nilA))) (cM (.int 2305843009213693907))) (cM (.int 16384))) (nilA))) (varM 1))))))
def m__law_bit : MS := fnM 2 3 b__law_bit
theorem ok__law_bit {P : Program} {w : World} {K : PySem.W.Frag} {mg : Str → Option Value} {base : Heap} (T : Txt K mg) : Has P w K mg base "_law_bit" 1 ["_law_cup_here", "_law_much"] m__law_bit := by
  exact hasD T.f__law_bit sc__law_bit rfl rfl (fun _ _ _ _ _ _ us hl => match us, hl with | [_, _], _ => rfl) (fun f cdv A outer s H hr hg => s_cons (s_if (t_gt (d_ix (d_var 0) (d_int)) (d_int)) (s_cons (s_set 2 sc__law_bit.nd (d_mod (d_intc T.n_int (a_cons (d_ix (d_var 0) (d_int)) (a_nil))) (d_var 1))) (s_cons (s_setIx 0 (d_div (d_ix (d_var 0) (d_int)) (d_var 1)) (d_int)) (s_one (s_ret (d_var 2))))) (s_nil)) (s_cons (s_setIx 0 (d_add (d_ix (d_var 0) (d_int)) (d_int)) (d_int)) (s_cons (s_set 3 sc__law_bit.nd (d_mod (d_intc T.n_int (a_cons (d_add (d_ix (d_var 0) (d_int)) (d_mul (d_int) (d_ix (d_var 0) (d_int)))) (a_nil))) (d_int))) (s_cons (s_set 4 sc__law_bit.nd (d_add (d_mul (d_mod (d_intc T.n_int (a_cons (d_mul (d_var 3) (d_var 3)) (a_nil))) (d_int)) (d_var 3)) (d_mul (d_int) (d_ix (d_var 0) (d_int))))) (s_one (s_ret (d_mod (d_intc T.n_int (a_cons (d_div (d_mod (d_intc T.n_int (a_cons (d_var 4) (a_nil))) (d_int)) (d_int)) (a_nil))) (d_var 1))))))))
theorem sc__law_leads : FnScope ["_law_line", "_law_later", "_law_at"] ["_law_line"] (defScope s__law_leads) := ⟨rfl, rfl, rfl, by decide +kernel, rfl, by decide +kernel, by decide +kernel⟩
def b__law_leads : MS := seqM (asgN (cpM (itR2 (consA (cM (.int 1)) (consA (cbM lenD (consA (varM 0) (nilA))) (nilA)))) (nameG 2) (notT (bM (binM ltD (varM 0) (slM cutD (varM 0) (some (varM 2)) none)))) (varM 2) [2]) 1) (retM (andV (binM neS (varM 0) (cM (.str ""))) (binM eqD (varM 1) (frzM (lstM (nilA))))))
def m__law_leads : MS := fnM 1 2 b__law_leads
theorem ok__law_leads {P : Program} {w : World} {K : PySem.W.Frag} {mg : Str → Option Value} {base : Heap} (T : Txt K mg) : Has P w K mg base "_law_leads" 1 ["_law_line"] m__law_leads := by
  exact hasD T.f__law_leads sc__law_leads rfl rfl (fun _ _ _ _ _ _ us hl => match us, hl with | [_], _ => rfl) (fun f cdv A outer s H hr hg => s_cons (s_setLc 1 [("_law_at", 2)] rfl sc__law_leads.nd (i_rng2 T.n_range (a_cons (d_int) (a_cons (d_len T.n_len (a_cons (d_var 0) (a_nil))) (a_nil)))) (by kernel_rfl) (fun _ _ _ _ _ => g_name 2 sc__law_leads.nd) (fun _ _ _ _ _ => c_one (t_not (t_lt (d_var 0) (d_sl (d_var 0) (o_at (d_var 2)) o_no)))) (fun _ _ _ _ _ => d_var 2)) (s_one (s_ret (d_and (d_neS (d_var 0) (d_str)) (d_one (d_eq hr (d_var 1) (d_frz (d_lst (a_nil)))))))))
theorem sc__law_lines_to : FnScope ["_law_signs_here", "_law_deep", "_law_found", "_law_layer", "_law_turn", "_law_longer", "_law_line", "_law_sign"] ["_law_signs_here", "_law_deep"] (defScope s__law_lines_to) := ⟨rfl, rfl, rfl, by decide +kernel, rfl, by decide +kernel, by decide +kernel⟩
def b__law_lines_to : MS := seqM (parM 2 3 (consA (frzM (lstM (nilA))) (consA (frzM (lstM (consA (cM (.str "")) (nilA)))) (nilA)))) (seqM (forM (itR1 (consA (varM 1) (nilA))) (nameG 4) (seqM (asgN (lstM (nilA)) 5) (seqM (forM (itL (varM 3)) (nameG 6) (asgM (binM addD (varM 5) (frzM (cpM (itS (varM 0)) (nameG 7) (yesM) (binM addD (varM 6) (varM 7)) [7]))) (nameG 5))) (parM 2 3 (consA (binM addD (varM 2) (varM 5)) (consA (varM 5) (nilA))))))) (retM (varM 2)))
def m__law_lines_to : MS := fnM 2 6 b__law_lines_to
theorem ok__law_lines_to {P : Program} {w : World} {K : PySem.W.Frag} {mg : Str → Option Value} {base : Heap} (T : Txt K mg) : Has P w K mg base "_law_lines_to" 1 ["_law_signs_here", "_law_deep"] m__law_lines_to := by
  exact hasD T.f__law_lines_to sc__law_lines_to rfl rfl (fun _ _ _ _ _ _ us hl => match us, hl with | [_, _], _ => rfl) (fun f cdv A outer s H hr hg => s_cons (s_par 2 3 rfl sc__law_lines_to.nd (a_cons (d_frz (d_lst (a_nil))) (a_cons (d_frz (d_lst (a_cons (d_str) (a_nil)))) (a_nil)))) (s_cons (s_for rfl (i_rng1 T.n_range (a_cons (d_var 1) (a_nil))) (g_name 4 sc__law_lines_to.nd) (s_cons (s_setN 5 sc__law_lines_to.nd (d_lst (a_nil))) (s_cons (s_for rfl (i_lst (d_var 3)) (g_name 6 sc__law_lines_to.nd) (s_one (s_set 5 sc__law_lines_to.nd (d_add (d_var 5) (d_frz (d_lc [("_law_sign", 7)] rfl sc__law_lines_to.nd (i_str (d_var 0)) (by kernel_rfl) (fun _ _ _ _ _ => g_name 7 sc__law_lines_to.nd) (fun _ _ _ _ _ => c_no) (fun _ _ _ _ _ => d_add (d_var 6) (d_var 7))))))) PassesOwn.never) (s_one (s_par 2 3 rfl sc__law_lines_to.nd (a_cons (d_add (d_var 2) (d_var 5)) (a_cons (d_var 5) (a_nil))))))) PassesOwn.never) (s_one (s_ret (d_var 2)))))
theorem sc__law_leaders : FnScope ["_law_signs_here", "_law_deep", "_law_line"] ["_law_signs_here", "_law_deep"] (defScope s__law_leaders) := ⟨rfl, rfl, rfl, by decide +kernel, rfl, by decide +kernel, by decide +kernel⟩
def b__law_leaders : MS := retN (cpM (itL (callM m__law_lines_to (consA (varM 0) (consA (varM 1) (nilA))))) (nameG 2) (bM (callM m__law_leads (consA (varM 2) (nilA)))) (varM 2) [2])
def m__law_leaders : MS := fnM 2 1 b__law_leaders
theorem ok__law_leaders {P : Program} {w : World} {K : PySem.W.Frag} {mg : Str → Option Value} {base : Heap} (T : Txt K mg) : Has P w K mg base "_law_leaders" 2 ["_law_signs_here", "_law_deep"] m__law_leaders := by
  have h__law_leads := ok__law_leads (P := P) (w := w) (base := base) T
  have h__law_lines_to := ok__law_lines_to (P := P) (w := w) (base := base) T
  exact hasD T.f__law_leaders sc__law_leaders rfl rfl (fun _ _ _ _ _ _ us hl => match us, hl with | [_, _], _ => rfl) (fun f cdv A outer s H hr hg => s_one (s_retN (d_lc [("_law_line", 2)] rfl sc__law_leaders.nd (i_lst (d_callH h__law_lines_to (hr.mono (by decide)) hg (a_cons (d_var 0) (a_cons (d_var 1) (a_nil))))) (by kernel_rfl) (fun _ _ _ _ _ => g_name 2 sc__law_leaders.nd) (fun _ _ _ _ _ => c_one (t_val (d_callH h__law_leads (hr.mono (by decide)) hg (a_cons (d_var 2) (a_nil))))) (fun _ _ _ _ _ => d_var 2))))
theorem sc__law_free : FnScope ["_law_signs_here", "_law_deep", "_law_kind_here", "_law_found", "_law_line", "_law_many", "_law_much"] ["_law_signs_here", "_law_deep", "_law_kind_here"] (defScope s__law_free) := ⟨rfl, rfl, rfl, by decide +kernel, rfl, by decide +kernel, by decide +kernel⟩
def b__law_free : MS := seqM (asgN (lstM (nilA)) 3) (seqM (forM (itL (callM m__law_leaders (consA (varM 0) (consA (varM 1) (nilA))))) (nameG 4) (seqM (asgM (cM (.int 1)) (nameG 5)) (whM (andT (bM (binM leD (binM mulI (varM 5) (cbM lenD (consA (varM 4) (nilA)))) (varM 1))) (orT (bM (binM notNonD (varM 2) (cM .non))) (bM (binM eqD (varM 5) (cM (.int 1)))))) (seqM (exM (appM 3 (tupM (consA (binM mulI (varM 5) (cbM lenD (consA (varM 4) (nilA)))) (consA (binM mulX (varM 4) (varM 5)) (nilA)))))) (asgM (binM mulI (varM 5) (ifM (bM (binM isNonD (varM 2) (cM .non))) (cM (.int 2)) (varM 2))) (nameG 5)))))) (retN (cpM (itL (frzM (cbN sortedD (consA (varM 3) (nilA))))) (tupG 2 (consG (nameG 6) (consG (nameG 4) (nilG)))) (yesM) (varM 4) [6, 4])))
def m__law_free : MS := fnM 3 4 b__law_free
theorem ok__law_free {P : Program} {w : World} {K : PySem.W.Frag} {mg : Str → Option Value} {base : Heap} (T : Txt K mg) : Has P w K mg base "_law_free" 3 ["_law_signs_here", "_law_deep", "_law_kind_here"] m__law_free := by
  have h__law_leaders := ok__law_leaders (P := P) (w := w) (base := base) T
  exact hasD T.f__law_free sc__law_free rfl rfl (fun _ _ _ _ _ _ us hl => match us, hl with | [_, _, _], _ => rfl) (fun f cdv A outer s H hr hg => s_cons (s_setN 3 sc__law_free.nd (d_lst (a_nil))) (s_cons (s_for rfl (i_lst (d_callH h__law_leaders (hr.mono (by decide)) hg (a_cons (d_var 0) (a_cons (d_var 1) (a_nil))))) (g_name 4 sc__law_free.nd) (s_cons (s_set 5 sc__law_free.nd (d_int)) (s_one (s_while (t_w (w_and (t_le (d_mul (d_var 5) (d_len T.n_len (a_cons (d_var 4) (a_nil)))) (d_var 1)) (w_and1 (t_w (w_or (t_isnot (d_var 2) (d_non)) (w_or1 (t_eq hr (d_var 5) (d_int)))))))) (s_cons (s_expr (d_app 3 (d_tup (a_cons (d_mul (d_var 5) (d_len T.n_len (a_cons (d_var 4) (a_nil)))) (a_cons (d_mulX (d_var 4) (d_var 5)) (a_nil)))))) (s_one (s_set 5 sc__law_free.nd (d_mul (d_var 5) (d_if (t_is (d_var 2) (d_non)) (d_int) (d_var 2)))))) PassesOwn.never))) PassesOwn.never) (s_one (s_retN (d_lc [("_law_much", 6), ("_law_line", 4)] rfl sc__law_free.nd (i_lst (d_frz (d_sorted hr T.n_sorted (a_cons (d_var 3) (a_nil))))) (by kernel_rfl) (fun _ _ _ _ _ => g_tup rfl (gs_cons (g_name 6 sc__law_free.nd) (gs_cons (g_name 4 sc__law_free.nd) (gs_nil)))) (fun _ _ _ _ _ => c_no) (fun _ _ _ _ _ => d_var 4))))))
theorem sc__law_pick : FnScope ["_law_cup_here", "_law_items"] ["_law_cup_here", "_law_items"] (defScope s__law_pick) := ⟨rfl, rfl, rfl, by decide +kernel, rfl, by decide +kernel, by decide +kernel⟩
def b__law_pick : MS := retM (binM ixD (varM 1) (callC 0 m__law_bit (consA (cbM lenD (consA (varM 1) (nilA))) (nilA))))
def m__law_pick : MS := fnM 2 0 b__law_pick
theorem ok__law_pick {P : Program} {w : World} {K : PySem.W.Frag} {mg : Str → Option Value} {base : Heap} (T : Txt K mg) : Has P w K mg base "_law_pick" 2 ["_law_cup_here", "_law_items"] m__law_pick := by
  have h__law_bit := ok__law_bit (P := P) (w := w) (base := base) T
  exact hasD T.f__law_pick sc__law_pick rfl rfl (fun _ _ _ _ _ _ us hl => match us, hl with | [_, _], _ => rfl) (fun f cdv A outer s H hr hg => s_one (s_ret (d_ix (d_var 1) (d_callCH 0 h__law_bit (hr.mono (by decide)) hg (a_cons (d_len T.n_len (a_cons (d_var 1) (a_nil))) (a_nil))))))
theorem sc__law_kind : FnScope ["_law_cup_here"] ["_law_cup_here"] (defScope s__law_kind) := ⟨rfl, rfl, rfl, by decide +kernel, rfl, by decide +kernel, by decide +kernel⟩
def b__law_kind : MS := retM (callC 0 m__law_pick (consA (frzM (lstM (consA (cM .non) (consA (cM .non) (consA (cM (.int 2)) (consA (cM (.int 2)) (consA (cM (.int 3)) (consA (cM (.int 5)) (consA (cM (.int 7)) (nilA)))))))))) (nilA)))
def m__law_kind : MS := fnM 1 0 b__law_kind
theorem ok__law_kind {P : Program} {w : World} {K : PySem.W.Frag} {mg : Str → Option Value} {base : Heap} (T : Txt K mg) : Has P w K mg base "_law_kind" 3 ["_law_cup_here"] m__law_kind := by
  have h__law_pick := ok__law_pick (P := P) (w := w) (base := base) T
  exact hasD T.f__law_kind sc__law_kind rfl rfl (fun _ _ _ _ _ _ us hl => match us, hl with | [_], _ => rfl) (fun f cdv A outer s H hr hg => s_one (s_ret (d_callCH 0 h__law_pick (hr.mono (by decide)) hg (a_cons (d_frz (d_lst (a_cons (d_non) (a_cons (d_non) (a_cons (d_int) (a_cons (d_int) (a_cons (d_int) (a_cons (d_int) (a_cons (d_int) (a_nil)))))))))) (a_nil)))))
theorem sc_is_integer : FnScope ["value"] ["value"] (defScope s_is_integer) := ⟨rfl, rfl, rfl, by decide +kernel, rfl, by decide +kernel, by decide +kernel⟩
def b_is_integer : MS := retM (andV (unM (isiD "int") (varM 0)) (andV (notV (unM (isiD "bool") (varM 0))) (chM leD leD (unM (u1 fun i => .int (-i)) (cM c_GREATEST)) (varM 0) (cM c_GREATEST))))
def m_is_integer : MS := fnM 1 0 b_is_integer
theorem ok_is_integer {P : Program} {w : World} {K : PySem.W.Frag} {mg : Str → Option Value} {base : Heap} (T : Txt K mg) : Has P w K mg base "is_integer" 1 ["value"] m_is_integer := by
  exact hasD T.f_is_integer sc_is_integer rfl rfl (fun _ _ _ _ _ _ us hl => match us, hl with | [_], _ => rfl) (fun f cdv A outer s H hr hg => s_one (s_ret (d_and (d_isi (T := "") T.n_isinstance T.n_int (d_var 0)) (d_and (d_not (d_isi (T := "") T.n_isinstance T.n_bool (d_var 0))) (d_one (d_lele (d_neg (T.c_GREATEST.d)) (d_var 0) (T.c_GREATEST.d)))))))
theorem sc_is_integer_within : FnScope ["value", "low", "high"] ["value", "low", "high"] (defScope s_is_integer_within) := ⟨rfl, rfl, rfl, by decide +kernel, rfl, by decide +kernel, by decide +kernel⟩
def b_is_integer_within : MS := retM (andV (callM m_is_integer (consA (varM 0) (nilA))) (chM leD leD (varM 1) (varM 0) (varM 2)))
def m_is_integer_within : MS := fnM 3 0 b_is_integer_within
theorem ok_is_integer_within {P : Program} {w : World} {K : PySem.W.Frag} {mg : Str → Option Value} {base : Heap} (T : Txt K mg) : Has P w K mg base "is_integer_within" 2 ["value", "low", "high"] m_is_integer_within := by
  have h_is_integer := ok_is_integer (P := P) (w := w) (base := base) T
  exact hasD T.f_is_integer_within sc_is_integer_within rfl rfl (fun _ _ _ _ _ _ us hl => match us, hl with | [_, _, _], _ => rfl) (fun f cdv A outer s H hr hg => s_one (s_ret (d_and (d_callH h_is_integer (hr.mono (by decide)) hg (a_cons (d_var 0) (a_nil))) (d_one (d_lele (d_var 1) (d_var 0) (d_var 2))))))
theorem sc_power_of : FnScope ["base", "many", "found", "turn"] ["base", "many"] (defScope s_power_of) := ⟨rfl, rfl, rfl, by decide +kernel, rfl, by decide +kernel, by decide +kernel⟩
def b_power_of : MS := seqM (asgM (cM (.int 1)) (nameG 2)) (seqM (forM (itR1 (consA (varM 1) (nilA))) (nameG 3) (augM mulA 2 (varM 0))) (retM (varM 2)))
def m_power_of : MS := fnM 2 2 b_power_of
theorem ok_power_of {P : Program} {w : World} {K : PySem.W.Frag} {mg : Str → Option Value} {base : Heap} (T : Txt K mg) : Has P w K mg base "power_of" 1 ["base", "many"] m_power_of := by
  exact hasD T.f_power_of sc_power_of rfl rfl (fun _ _ _ _ _ _ us hl => match us, hl with | [_, _], _ => rfl) (fun f cdv A outer s H hr hg => s_cons (s_set 2 sc_power_of.nd (d_int)) (s_cons (s_for rfl (i_rng1 T.n_range (a_cons (d_var 1) (a_nil))) (g_name 3 sc_power_of.nd) (s_one (s_augMul 2 sc_power_of.nd (d_var 0))) PassesOwn.never) (s_one (s_ret (d_var 2)))))
theorem sc_are_small : FnScope ["text", "sign"] ["text"] (defScope s_are_small) := ⟨rfl, rfl, rfl, by decide +kernel, rfl, by decide +kernel, by decide +kernel⟩
def b_are_small : MS := retM (cbM allD (consA (frzM (cpM (itS (varM 0)) (nameG 1) (yesM) (chM leD leD (cM (.str "a")) (varM 1) (cM (.str "z"))) [1])) (nilA)))
def m_are_small : MS := fnM 1 1 b_are_small
theorem ok_are_small {P : Program} {w : World} {K : PySem.W.Frag} {mg : Str → Option Value} {base : Heap} (T : Txt K mg) : Has P w K mg base "are_small" 1 ["text"] m_are_small := by
  exact hasD T.f_are_small sc_are_small rfl rfl (fun _ _ _ _ _ _ us hl => match us, hl with | [_], _ => rfl) (fun f cdv A outer s H hr hg => s_one (s_ret (d_all rfl T.n_all (a_cons (d_frz (d_lc [("sign", 1)] rfl sc_are_small.nd (i_str (d_var 0)) (by kernel_rfl) (fun _ _ _ _ _ => g_name 1 sc_are_small.nd) (fun _ _ _ _ _ => c_no) (fun _ _ _ _ _ => d_lele (d_str) (d_var 1) (d_str)))) (a_nil)))))
theorem sc_is_letters : FnScope ["value", "one", "other"] ["value"] (defScope s_is_letters) := ⟨rfl, rfl, rfl, by decide +kernel, rfl, by decide +kernel, by decide +kernel⟩
def b_is_letters : MS := seqM (ifS (orT (notT (bM (unM (isiD "str") (varM 0)))) (orT (notT (bM (chM leD leD (cM (.int 1)) (cbM lenD (consA (varM 0) (nilA))) (cM c_MOST_LETTERS)))) (notT (bM (callM m_are_small (consA (varM 0) (nilA))))))) (retM (cM (.bl false))) (nxM)) (retM (cbM allD (consA (frzM (cpM (itZ (consA (varM 0) (consA (slM cutD (varM 0) (some (cM (.int 1))) none) (nilA)))) (tupG 2 (consG (nameG 1) (consG (nameG 2) (nilG)))) (yesM) (binM ltD (varM 1) (varM 2)) [1, 2])) (nilA))))
def m_is_letters : MS := fnM 1 2 b_is_letters
theorem ok_is_letters {P : Program} {w : World} {K : PySem.W.Frag} {mg : Str → Option Value} {base : Heap} (T : Txt K mg) : Has P w K mg base "is_letters" 2 ["value"] m_is_letters := by
  have h_are_small := ok_are_small (P := P) (w := w) (base := base) T
  exact hasD T.f_is_letters sc_is_letters rfl rfl (fun _ _ _ _ _ _ us hl => match us, hl with | [_], _ => rfl) (fun f cdv A outer s H hr hg => s_cons (s_if (t_w (w_or (t_not (t_val (d_isi (T := "") T.n_isinstance T.n_str (d_var 0)))) (w_or (t_not (t_lele (d_int) (d_len T.n_len (a_cons (d_var 0) (a_nil))) (T.c_MOST_LETTERS.d))) (w_or1 (t_not (t_val (d_callH h_are_small (hr.mono (by decide)) hg (a_cons (d_var 0) (a_nil))))))))) (s_one (s_ret (d_bl))) (s_nil)) (s_one (s_ret (d_all rfl T.n_all (a_cons (d_frz (d_lc [("one", 1), ("other", 2)] rfl sc_is_letters.nd (i_zip T.n_zip (a_cons (d_var 0) (a_cons (d_sl (d_var 0) (o_at (d_int)) o_no) (a_nil)))) (by kernel_rfl) (fun _ _ _ _ _ => g_tup rfl (gs_cons (g_name 1 sc_is_letters.nd) (gs_cons (g_name 2 sc_is_letters.nd) (gs_nil)))) (fun _ _ _ _ _ => c_no) (fun _ _ _ _ _ => d_lt (d_var 1) (d_var 2)))) (a_nil))))))
theorem sc_require_letters : FnScope ["value"] ["value"] (defScope s_require_letters) := ⟨rfl, rfl, rfl, by decide +kernel, rfl, by decide +kernel, by decide +kernel⟩
def b_require_letters : MS := ifS (notT (bM (callM m_is_letters (consA (varM 0) (nilA))))) (noM) (nxM)
def m_require_letters : MS := fnM 1 0 b_require_letters
theorem ok_require_letters {P : Program} {w : World} {K : PySem.W.Frag} {mg : Str → Option Value} {base : Heap} (T : Txt K mg) : Has P w K mg base "require_letters" 3 ["value"] m_require_letters := by
  have h_is_letters := ok_is_letters (P := P) (w := w) (base := base) T
  exact hasD T.f_require_letters sc_require_letters rfl rfl (fun _ _ _ _ _ _ us hl => match us, hl with | [_], _ => rfl) (fun f cdv A outer s H hr hg => s_one (s_if (t_not (t_val (d_callH h_is_letters (hr.mono (by decide)) hg (a_cons (d_var 0) (a_nil))))) (s_one (s_never)) (s_nil)))
theorem sc_sign_of : FnScope ["number", "found", "prime"] ["number"] (defScope s_sign_of) := ⟨rfl, rfl, rfl, by decide +kernel, rfl, by decide +kernel, by decide +kernel⟩
def b_sign_of : MS := seqM (asgM (tupM (consA (cM (.int 1)) (consA (cM (.int 2)) (nilA)))) (tupG 2 (consG (nameG 1) (consG (nameG 2) (nilG))))) (seqM (whM (bM (binM gtD (varM 0) (cM (.int 1)))) (seqM (ifS (bM (binM eqD (binM modD (varM 0) (varM 2)) (cM (.int 0)))) (seqM (augM divA 0 (varM 2)) (seqM (asgM (unM (u1 fun i => .int (-i)) (varM 1)) (nameG 1)) (ifS (bM (binM eqD (binM modD (varM 0) (varM 2)) (cM (.int 0)))) (retM (cM (.int 0))) (nxM)))) (nxM)) (augM addI 2 (cM (.int 1))))) (retM (varM 1)))
def m_sign_of : MS := fnM 1 2 b_sign_of
theorem ok_sign_of {P : Program} {w : World} {K : PySem.W.Frag} {mg : Str → Option Value} {base : Heap} (T : Txt K mg) : Has P w K mg base "sign_of" 1 ["number"] m_sign_of := by
  exact hasD T.f_sign_of sc_sign_of rfl rfl (fun _ _ _ _ _ _ us hl => match us, hl with | [_], _ => rfl) (fun f cdv A outer s H hr hg => s_cons (s_asgT (d_tup (a_cons (d_int) (a_cons (d_int) (a_nil)))) (g_tup rfl (gs_cons (g_name 1 sc_sign_of.nd) (gs_cons (g_name 2 sc_sign_of.nd) (gs_nil))))) (s_cons (s_while (t_gt (d_var 0) (d_int)) (s_cons (s_if (t_eq hr (d_mod (d_var 0) (d_var 2)) (d_int)) (s_cons (s_augDiv 0 sc_sign_of.nd (d_var 2)) (s_cons (s_set 1 sc_sign_of.nd (d_neg (d_var 1))) (s_one (s_if (t_eq hr (d_mod (d_var 0) (d_var 2)) (d_int)) (s_one (s_ret (d_int))) (s_nil))))) (s_nil)) (s_one (s_augAdd 2 sc_sign_of.nd (d_int)))) PassesOwn.never) (s_one (s_ret (d_var 1)))))
theorem sc_how_many : FnScope ["letters", "size", "found", "part"] ["letters", "size"] (defScope s_how_many) := ⟨rfl, rfl, rfl, by decide +kernel, rfl, by decide +kernel, by decide +kernel⟩
def b_how_many : MS := seqM (exM (callM m_require_letters (consA (varM 0) (nilA)))) (seqM (ifS (notT (bM (callM m_is_integer_within (consA (varM 1) (consA (cM (.int 1)) (consA (cM c_MAX_SIZE) (nilA))))))) (noM) (nxM)) (seqM (asgM (cM (.int 0)) (nameG 2)) (seqM (forM (itR2 (consA (cM (.int 1)) (consA (binM addD (varM 1) (cM (.int 1))) (nilA)))) (nameG 3) (ifS (bM (binM eqD (binM modD (varM 1) (varM 3)) (cM (.int 0)))) (augM addI 2 (binM mulI (callM m_sign_of (consA (varM 3) (nilA))) (callM m_power_of (consA (cbM lenD (consA (varM 0) (nilA))) (consA (binM divD (varM 1) (varM 3)) (nilA)))))) (nxM))) (retM (binM divD (varM 2) (varM 1))))))
def m_how_many : MS := fnM 2 2 b_how_many
theorem ok_how_many {P : Program} {w : World} {K : PySem.W.Frag} {mg : Str → Option Value} {base : Heap} (T : Txt K mg) : Has P w K mg base "how_many" 4 ["letters", "size"] m_how_many := by
  have h_is_integer_within := ok_is_integer_within (P := P) (w := w) (base := base) T
  have h_power_of := ok_power_of (P := P) (w := w) (base := base) T
  have h_require_letters := ok_require_letters (P := P) (w := w) (base := base) T
  have h_sign_of := ok_sign_of (P := P) (w := w) (base := base) T
  exact hasD T.f_how_many sc_how_many rfl rfl (fun _ _ _ _ _ _ us hl => match us, hl with | [_, _], _ => rfl) (fun f cdv A outer s H hr hg => s_cons (s_expr (d_callH h_require_letters (hr.mono (by decide)) hg (a_cons (d_var 0) (a_nil)))) (s_cons (s_if (t_not (t_val (d_callH h_is_integer_within (hr.mono (by decide)) hg (a_cons (d_var 1) (a_cons (d_int) (a_cons (T.c_MAX_SIZE.d) (a_nil))))))) (s_one (s_never)) (s_nil)) (s_cons (s_set 2 sc_how_many.nd (d_int)) (s_cons (s_for rfl (i_rng2 T.n_range (a_cons (d_int) (a_cons (d_add (d_var 1) (d_int)) (a_nil)))) (g_name 3 sc_how_many.nd) (s_one (s_if (t_eq hr (d_mod (d_var 1) (d_var 3)) (d_int)) (s_one (s_augAdd 2 sc_how_many.nd (d_mul (d_callH h_sign_of (hr.mono (by decide)) hg (a_cons (d_var 3) (a_nil))) (d_callH h_power_of (hr.mono (by decide)) hg (a_cons (d_len T.n_len (a_cons (d_var 0) (a_nil))) (a_cons (d_div (d_var 1) (d_var 3)) (a_nil))))))) (s_nil))) PassesOwn.never) (s_one (s_ret (d_div (d_var 2) (d_var 1))))))))
theorem sc__law_powers_right : FnScope ["_law_signs_here", "_law_deep", "_law_kind_here", "_law_told", "_law_much", "_law_due", "_law_part", "_law_line"] ["_law_signs_here", "_law_deep", "_law_kind_here", "_law_told"] (defScope s__law_powers_right) := ⟨rfl, rfl, rfl, by decide +kernel, rfl, by decide +kernel, by decide +kernel⟩
def b__law_powers_right : MS := seqM (forM (itR2 (consA (cM (.int 1)) (consA (binM addD (varM 1) (cM (.int 1))) (nilA)))) (nameG 4) (seqM (parM 5 6 (consA (callM m_how_many (consA (varM 0) (consA (varM 4) (nilA)))) (consA (varM 4) (nilA)))) (seqM (whM (andT (bM (binM notNonD (varM 2) (cM .non))) (bM (binM eqD (binM modD (cbM intD (consA (varM 6) (nilA))) (varM 2)) (cM (.int 0))))) (seqM (asgM (binM divD (cbM intD (consA (varM 6) (nilA))) (varM 2)) (nameG 6)) (asgM (binM addD (varM 5) (callM m_how_many (consA (varM 0) (consA (varM 6) (nilA))))) (nameG 5)))) (ifS (bM (binM neD (cbM lenD (consA (frzM (cpM (itT (varM 3)) (nameG 7) (bM (binM eqD (cbM lenD (consA (varM 7) (nilA))) (varM 4))) (varM 7) [7])) (nilA))) (varM 5))) (retM (cM (.bl false))) (nxM))))) (retM (cM (.bl true)))
def m__law_powers_right : MS := fnM 4 4 b__law_powers_right
theorem ok__law_powers_right {P : Program} {w : World} {K : PySem.W.Frag} {mg : Str → Option Value} {base : Heap} (T : Txt K mg) : Has P w K mg base "_law_powers_right" 5 ["_law_signs_here", "_law_deep", "_law_kind_here", "_law_told"] m__law_powers_right := by
  have h_how_many := ok_how_many (P := P) (w := w) (base := base) T
  exact hasD T.f__law_powers_right sc__law_powers_right rfl rfl (fun _ _ _ _ _ _ us hl => match us, hl with | [_, _, _, _], _ => rfl) (fun f cdv A outer s H hr hg => s_cons (s_for rfl (i_rng2 T.n_range (a_cons (d_int) (a_cons (d_add (d_var 1) (d_int)) (a_nil)))) (g_name 4 sc__law_powers_right.nd) (s_cons (s_par 5 6 rfl sc__law_powers_right.nd (a_cons (d_callH h_how_many (hr.mono (by decide)) hg (a_cons (d_var 0) (a_cons (d_var 4) (a_nil)))) (a_cons (d_var 4) (a_nil)))) (s_cons (s_while (t_w (w_and (t_isnot (d_var 2) (d_non)) (w_and1 (t_eq hr (d_mod (d_intc T.n_int (a_cons (d_var 6) (a_nil))) (d_var 2)) (d_int))))) (s_cons (s_set 6 sc__law_powers_right.nd (d_div (d_intc T.n_int (a_cons (d_var 6) (a_nil))) (d_var 2))) (s_one (s_set 5 sc__law_powers_right.nd (d_add (d_var 5) (d_callH h_how_many (hr.mono (by decide)) hg (a_cons (d_var 0) (a_cons (d_var 6) (a_nil)))))))) PassesOwn.never) (s_one (s_if (t_ne hr (d_len T.n_len (a_cons (d_frz (d_lc [("_law_line", 7)] rfl sc__law_powers_right.nd (i_tup (d_var 3)) (by kernel_rfl) (fun _ _ _ _ _ => g_name 7 sc__law_powers_right.nd) (fun _ _ _ _ _ => c_one (t_eq hr (d_len T.n_len (a_cons (d_var 7) (a_nil))) (d_var 4))) (fun _ _ _ _ _ => d_var 7))) (a_nil))) (d_var 5)) (s_one (s_ret (d_bl))) (s_nil))))) PassesOwn.never) (s_one (s_ret (d_bl))))
theorem sc__law_signs : FnScope ["_law_cup_here"] ["_law_cup_here"] (defScope s__law_signs) := ⟨rfl, rfl, rfl, by decide +kernel, rfl, by decide +kernel, by decide +kernel⟩
def b__law_signs : MS := retM (callC 0 m__law_pick (consA (frzM (lstM (consA (cM (.str "ab")) (consA (cM (.str "ab")) (consA (cM (.str "ab")) (consA (cM (.str "xy")) (consA (cM (.str "a")) (consA (cM (.str "abc")) (nilA))))))))) (nilA)))
def m__law_signs : MS := fnM 1 0 b__law_signs
theorem ok__law_signs {P : Program} {w : World} {K : PySem.W.Frag} {mg : Str → Option Value} {base : Heap} (T : Txt K mg) : Has P w K mg base "_law_signs" 3 ["_law_cup_here"] m__law_signs := by
  have h__law_pick := ok__law_pick (P := P) (w := w) (base := base) T
  exact hasD T.f__law_signs sc__law_signs rfl rfl (fun _ _ _ _ _ _ us hl => match us, hl with | [_], _ => rfl) (fun f cdv A outer s H hr hg => s_one (s_ret (d_callCH 0 h__law_pick (hr.mono (by decide)) hg (a_cons (d_frz (d_lst (a_cons (d_str) (a_cons (d_str) (a_cons (d_str) (a_cons (d_str) (a_cons (d_str) (a_cons (d_str) (a_nil))))))))) (a_nil)))))
theorem sc__law_sum_right : FnScope ["_law_signs_here", "_law_much", "_law_found", "_law_power", "_law_turn", "_law_part"] ["_law_signs_here", "_law_much"] (defScope s__law_sum_right) := ⟨rfl, rfl, rfl, by decide +kernel, rfl, by decide +kernel, by decide +kernel⟩
def b__law_sum_right : MS := seqM (asgM (tupM (consA (cM (.int 0)) (consA (cM (.int 1)) (nilA)))) (tupG 2 (consG (nameG 2) (consG (nameG 3) (nilG))))) (seqM (forM (itR1 (consA (varM 1) (nilA))) (nameG 4) (asgM (binM mulI (varM 3) (cbM lenD (consA (varM 0) (nilA)))) (nameG 3))) (seqM (forM (itR2 (consA (cM (.int 1)) (consA (binM addD (varM 1) (cM (.int 1))) (nilA)))) (nameG 5) (ifS (bM (binM eqD (binM modD (cbM intD (consA (varM 1) (nilA))) (varM 5)) (cM (.int 0)))) (asgM (binM addD (varM 2) (binM mulI (varM 5) (callM m_how_many (consA (varM 0) (consA (varM 5) (nilA)))))) (nameG 2)) (nxM))) (retM (binM eqD (varM 2) (varM 3)))))
def m__law_sum_right : MS := fnM 2 4 b__law_sum_right
theorem ok__law_sum_right {P : Program} {w : World} {K : PySem.W.Frag} {mg : Str → Option Value} {base : Heap} (T : Txt K mg) : Has P w K mg base "_law_sum_right" 5 ["_law_signs_here", "_law_much"] m__law_sum_right := by
  have h_how_many := ok_how_many (P := P) (w := w) (base := base) T
  exact hasD T.f__law_sum_right sc__law_sum_right rfl rfl (fun _ _ _ _ _ _ us hl => match us, hl with | [_, _], _ => rfl) (fun f cdv A outer s H hr hg => s_cons (s_asgT (d_tup (a_cons (d_int) (a_cons (d_int) (a_nil)))) (g_tup rfl (gs_cons (g_name 2 sc__law_sum_right.nd) (gs_cons (g_name 3 sc__law_sum_right.nd) (gs_nil))))) (s_cons (s_for rfl (i_rng1 T.n_range (a_cons (d_var 1) (a_nil))) (g_name 4 sc__law_sum_right.nd) (s_one (s_set 3 sc__law_sum_right.nd (d_mul (d_var 3) (d_len T.n_len (a_cons (d_var 0) (a_nil)))))) PassesOwn.never) (s_cons (s_for rfl (i_rng2 T.n_range (a_cons (d_int) (a_cons (d_add (d_var 1) (d_int)) (a_nil)))) (g_name 5 sc__law_sum_right.nd) (s_one (s_if (t_eq hr (d_mod (d_intc T.n_int (a_cons (d_var 1) (a_nil))) (d_var 5)) (d_int)) (s_one (s_set 2 sc__law_sum_right.nd (d_add (d_var 2) (d_mul (d_var 5) (d_callH h_how_many (hr.mono (by decide)) hg (a_cons (d_var 0) (a_cons (d_var 5) (a_nil)))))))) (s_nil))) PassesOwn.never) (s_one (s_ret (d_eq hr (d_var 2) (d_var 3)))))))
theorem sc_is_leading_of : FnScope ["pattern", "at"] ["pattern"] (defScope s_is_leading_of) := ⟨rfl, rfl, rfl, by decide +kernel, rfl, by decide +kernel, by decide +kernel⟩
def b_is_leading_of : MS := retM (andV (binM neS (varM 0) (cM (.str ""))) (cbM allD (consA (frzM (cpM (itR2 (consA (cM (.int 1)) (consA (cbM lenD (consA (varM 0) (nilA))) (nilA)))) (nameG 1) (yesM) (binM ltD (varM 0) (slM cutD (varM 0) (some (varM 1)) none)) [1])) (nilA))))
def m_is_leading_of : MS := fnM 1 1 b_is_leading_of
theorem ok_is_leading_of {P : Program} {w : World} {K : PySem.W.Frag} {mg : Str → Option Value} {base : Heap} (T : Txt K mg) : Has P w K mg base "is_leading_of" 1 ["pattern"] m_is_leading_of := by
  exact hasD T.f_is_leading_of sc_is_leading_of rfl rfl (fun _ _ _ _ _ _ us hl => match us, hl with | [_], _ => rfl) (fun f cdv A outer s H hr hg => s_one (s_ret (d_and (d_neS (d_var 0) (d_str)) (d_one (d_all rfl T.n_all (a_cons (d_frz (d_lc [("at", 1)] rfl sc_is_leading_of.nd (i_rng2 T.n_range (a_cons (d_int) (a_cons (d_len T.n_len (a_cons (d_var 0) (a_nil))) (a_nil)))) (by kernel_rfl) (fun _ _ _ _ _ => g_name 1 sc_is_leading_of.nd) (fun _ _ _ _ _ => c_no) (fun _ _ _ _ _ => d_lt (d_var 0) (d_sl (d_var 0) (o_at (d_var 1)) o_no)))) (a_nil)))))))
theorem sc_patterns_in : FnScope ["letters", "depth", "found", "layer", "turn", "pattern", "letter"] ["letters", "depth"] (defScope s_patterns_in) := ⟨rfl, rfl, rfl, by decide +kernel, rfl, by decide +kernel, by decide +kernel⟩
def b_patterns_in : MS := seqM (parM 2 3 (consA (frzM (lstM (nilA))) (consA (frzM (lstM (consA (cM (.str "")) (nilA)))) (nilA)))) (seqM (forM (itR1 (consA (varM 1) (nilA))) (nameG 4) (seqM (asgN (c2M (itL (varM 3)) (nameG 5) (yesM) (itS (varM 0)) (nameG 6) (yesM) (binM addD (varM 5) (varM 6)) [5, 6] [6]) 3) (asgN (lstM (starA (varM 2) (starA (varM 3) (nilA)))) 2))) (retM (varM 2)))
def m_patterns_in : MS := fnM 2 5 b_patterns_in
theorem ok_patterns_in {P : Program} {w : World} {K : PySem.W.Frag} {mg : Str → Option Value} {base : Heap} (T : Txt K mg) : Has P w K mg base "patterns_in" 1 ["letters", "depth"] m_patterns_in := by
  exact hasD T.f_patterns_in sc_patterns_in rfl rfl (fun _ _ _ _ _ _ us hl => match us, hl with | [_, _], _ => rfl) (fun f cdv A outer s H hr hg => s_cons (s_par 2 3 rfl sc_patterns_in.nd (a_cons (d_frz (d_lst (a_nil))) (a_cons (d_frz (d_lst (a_cons (d_str) (a_nil)))) (a_nil)))) (s_cons (s_for rfl (i_rng1 T.n_range (a_cons (d_var 1) (a_nil))) (g_name 4 sc_patterns_in.nd) (s_cons (s_setLc2 3 [("pattern", 5), ("letter", 6)] [6] rfl sc_patterns_in.nd (i_lst (d_var 3)) (by kernel_rfl) (fun _ _ _ _ _ => g_name 5 sc_patterns_in.nd) (fun _ _ _ _ _ => c_no) (fun _ _ _ _ _ => i_str (d_var 0)) (fun _ _ _ _ _ => g_name 6 sc_patterns_in.nd) (fun _ _ _ _ _ => c_no) (fun _ _ _ _ _ => d_add (d_var 5) (d_var 6))) (s_one (s_setN 2 sc_patterns_in.nd (d_lst (a_star (d_var 2) (a_star (d_var 3) (a_nil))))))) PassesOwn.never) (s_one (s_ret (d_var 2)))))
theorem sc_leading_in : FnScope ["letters", "depth", "pattern"] ["letters", "depth"] (defScope s_leading_in) := ⟨rfl, rfl, rfl, by decide +kernel, rfl, by decide +kernel, by decide +kernel⟩
def b_leading_in : MS := retN (cpM (itL (callM m_patterns_in (consA (varM 0) (consA (varM 1) (nilA))))) (nameG 2) (bM (callM m_is_leading_of (consA (varM 2) (nilA)))) (varM 2) [2])
def m_leading_in : MS := fnM 2 1 b_leading_in
theorem ok_leading_in {P : Program} {w : World} {K : PySem.W.Frag} {mg : Str → Option Value} {base : Heap} (T : Txt K mg) : Has P w K mg base "leading_in" 2 ["letters", "depth"] m_leading_in := by
  have h_is_leading_of := ok_is_leading_of (P := P) (w := w) (base := base) T
  have h_patterns_in := ok_patterns_in (P := P) (w := w) (base := base) T
  exact hasD T.f_leading_in sc_leading_in rfl rfl (fun _ _ _ _ _ _ us hl => match us, hl with | [_, _], _ => rfl) (fun f cdv A outer s H hr hg => s_one (s_retN (d_lc [("pattern", 2)] rfl sc_leading_in.nd (i_lst (d_callH h_patterns_in (hr.mono (by decide)) hg (a_cons (d_var 0) (a_cons (d_var 1) (a_nil))))) (by kernel_rfl) (fun _ _ _ _ _ => g_name 2 sc_leading_in.nd) (fun _ _ _ _ _ => c_one (t_val (d_callH h_is_leading_of (hr.mono (by decide)) hg (a_cons (d_var 2) (a_nil))))) (fun _ _ _ _ _ => d_var 2))))
theorem sc_powers_in : FnScope ["pattern", "depth", "prime", "found", "times"] ["pattern", "depth", "prime"] (defScope s_powers_in) := ⟨rfl, rfl, rfl, by decide +kernel, rfl, by decide +kernel, by decide +kernel⟩
def b_powers_in : MS := seqM (ifS (bM (binM isNonD (varM 2) (cM .non))) (retN (lstM (consA (cM (.int 1)) (nilA)))) (nxM)) (seqM (parNC 3 4 (lstM (nilA)) (.int 1)) (seqM (whM (bM (binM leD (binM mulI (varM 4) (cbM lenD (consA (varM 0) (nilA)))) (varM 1))) (seqM (exM (appM 3 (varM 4))) (augM mulA 4 (varM 2)))) (retO 3)))
def m_powers_in : MS := fnM 3 2 b_powers_in
theorem ok_powers_in {P : Program} {w : World} {K : PySem.W.Frag} {mg : Str → Option Value} {base : Heap} (T : Txt K mg) : Has P w K mg base "powers_in" 1 ["pattern", "depth", "prime"] m_powers_in := by
  exact hasD T.f_powers_in sc_powers_in rfl rfl (fun _ _ _ _ _ _ us hl => match us, hl with | [_, _, _], _ => rfl) (fun f cdv A outer s H hr hg => s_cons (s_if (t_is (d_var 2) (d_non)) (s_one (s_retN (d_lst (a_cons (d_int) (a_nil))))) (s_nil)) (s_cons (s_parNC 3 4 rfl sc_powers_in.nd (d_lst (a_nil)) pe_int (fun _ => .int _)) (s_cons (s_while (t_le (d_mul (d_var 4) (d_len T.n_len (a_cons (d_var 0) (a_nil)))) (d_var 1)) (s_cons (s_expr (d_app 3 (d_var 4))) (s_one (s_augMul 4 sc_powers_in.nd (d_var 2)))) PassesOwn.never) (s_one (s_retO 3)))))
theorem sc_free_in : FnScope ["letters", "depth", "prime", "found", "pattern", "times", "size", "power"] ["letters", "depth", "prime"] (defScope s_free_in) := ⟨rfl, rfl, rfl, by decide +kernel, rfl, by decide +kernel, by decide +kernel⟩
def b_free_in : MS := seqM (asgN (lstM (nilA)) 3) (seqM (forM (itL (callM m_leading_in (consA (varM 0) (consA (varM 1) (nilA))))) (nameG 4) (forM (itL (callM m_powers_in (consA (varM 4) (consA (varM 1) (consA (varM 2) (nilA)))))) (nameG 5) (exM (appM 3 (tupM (consA (binM mulX (varM 5) (cbM lenD (consA (varM 4) (nilA)))) (consA (binM mulX (varM 4) (varM 5)) (consA (varM 4) (consA (varM 5) (nilA)))))))))) (retN (cpM (itL (frzM (cbN sortedD (consA (varM 3) (nilA))))) (tupG 4 (consG (nameG 6) (consG (nameG 7) (consG (nameG 4) (consG (nameG 5) (nilG)))))) (yesM) (tupM (consA (varM 7) (consA (varM 4) (consA (varM 5) (nilA))))) [6, 7, 4, 5])))
def m_free_in : MS := fnM 3 5 b_free_in
theorem ok_free_in {P : Program} {w : World} {K : PySem.W.Frag} {mg : Str → Option Value} {base : Heap} (T : Txt K mg) : Has P w K mg base "free_in" 3 ["letters", "depth", "prime"] m_free_in := by
  have h_leading_in := ok_leading_in (P := P) (w := w) (base := base) T
  have h_powers_in := ok_powers_in (P := P) (w := w) (base := base) T
  exact hasD T.f_free_in sc_free_in rfl rfl (fun _ _ _ _ _ _ us hl => match us, hl with | [_, _, _], _ => rfl) (fun f cdv A outer s H hr hg => s_cons (s_setN 3 sc_free_in.nd (d_lst (a_nil))) (s_cons (s_for rfl (i_lst (d_callH h_leading_in (hr.mono (by decide)) hg (a_cons (d_var 0) (a_cons (d_var 1) (a_nil))))) (g_name 4 sc_free_in.nd) (s_one (s_for rfl (i_lst (d_callH h_powers_in (hr.mono (by decide)) hg (a_cons (d_var 4) (a_cons (d_var 1) (a_cons (d_var 2) (a_nil)))))) (g_name 5 sc_free_in.nd) (s_one (s_expr (d_app 3 (d_tup (a_cons (d_mulX (d_var 5) (d_len T.n_len (a_cons (d_var 4) (a_nil)))) (a_cons (d_mulX (d_var 4) (d_var 5)) (a_cons (d_var 4) (a_cons (d_var 5) (a_nil))))))))) PassesOwn.never)) PassesOwn.never) (s_one (s_retN (d_lc [("size", 6), ("power", 7), ("pattern", 4), ("times", 5)] rfl sc_free_in.nd (i_lst (d_frz (d_sorted hr T.n_sorted (a_cons (d_var 3) (a_nil))))) (by kernel_rfl) (fun _ _ _ _ _ => g_tup rfl (gs_cons (g_name 6 sc_free_in.nd) (gs_cons (g_name 7 sc_free_in.nd) (gs_cons (g_name 4 sc_free_in.nd) (gs_cons (g_name 5 sc_free_in.nd) (gs_nil)))))) (fun _ _ _ _ _ => c_no) (fun _ _ _ _ _ => d_tup (a_cons (d_var 7) (a_cons (d_var 4) (a_cons (d_var 5) (a_nil))))))))))
theorem sc_require_within : FnScope ["value", "low", "high"] ["value", "low", "high"] (defScope s_require_within) := ⟨rfl, rfl, rfl, by decide +kernel, rfl, by decide +kernel, by decide +kernel⟩
def b_require_within : MS := ifS (notT (bM (callM m_is_integer_within (consA (varM 0) (consA (varM 1) (consA (varM 2) (nilA))))))) (noM) (nxM)
def m_require_within : MS := fnM 3 0 b_require_within
theorem ok_require_within {P : Program} {w : World} {K : PySem.W.Frag} {mg : Str → Option Value} {base : Heap} (T : Txt K mg) : Has P w K mg base "require_within" 3 ["value", "low", "high"] m_require_within := by
  have h_is_integer_within := ok_is_integer_within (P := P) (w := w) (base := base) T
  exact hasD T.f_require_within sc_require_within rfl rfl (fun _ _ _ _ _ _ us hl => match us, hl with | [_, _, _], _ => rfl) (fun f cdv A outer s H hr hg => s_one (s_if (t_not (t_val (d_callH h_is_integer_within (hr.mono (by decide)) hg (a_cons (d_var 0) (a_cons (d_var 1) (a_cons (d_var 2) (a_nil))))))) (s_one (s_never)) (s_nil)))
theorem sc_require_depth : FnScope ["value"] ["value"] (defScope s_require_depth) := ⟨rfl, rfl, rfl, by decide +kernel, rfl, by decide +kernel, by decide +kernel⟩
def b_require_depth : MS := exM (callM m_require_within (consA (varM 0) (consA (cM (.int 1)) (consA (cM c_MAX_DEPTH) (nilA)))))
def m_require_depth : MS := fnM 1 0 b_require_depth
theorem ok_require_depth {P : Program} {w : World} {K : PySem.W.Frag} {mg : Str → Option Value} {base : Heap} (T : Txt K mg) : Has P w K mg base "require_depth" 4 ["value"] m_require_depth := by
  have h_require_within := ok_require_within (P := P) (w := w) (base := base) T
  exact hasD T.f_require_depth sc_require_depth rfl rfl (fun _ _ _ _ _ _ us hl => match us, hl with | [_], _ => rfl) (fun f cdv A outer s H hr hg => s_one (s_expr (d_callH h_require_within (hr.mono (by decide)) hg (a_cons (d_var 0) (a_cons (d_int) (a_cons (T.c_MAX_DEPTH.d) (a_nil)))))))
theorem sc_is_prime : FnScope ["value"] ["value"] (defScope s_is_prime) := ⟨rfl, rfl, rfl, by decide +kernel, rfl, by decide +kernel, by decide +kernel⟩
def b_is_prime : MS := retM (andV (callM m_is_integer (consA (varM 0) (nilA))) (binM (inD false) (varM 0) (cM c_PRIMES)))
def m_is_prime : MS := fnM 1 0 b_is_prime
theorem ok_is_prime {P : Program} {w : World} {K : PySem.W.Frag} {mg : Str → Option Value} {base : Heap} (T : Txt K mg) : Has P w K mg base "is_prime" 2 ["value"] m_is_prime := by
  have h_is_integer := ok_is_integer (P := P) (w := w) (base := base) T
  exact hasD T.f_is_prime sc_is_prime rfl rfl (fun _ _ _ _ _ _ us hl => match us, hl with | [_], _ => rfl) (fun f cdv A outer s H hr hg => s_one (s_ret (d_and (d_callH h_is_integer (hr.mono (by decide)) hg (a_cons (d_var 0) (a_nil))) (d_one (d_in hr (d_var 0) (T.c_PRIMES.d))))))
theorem sc_require_kind : FnScope ["value"] ["value"] (defScope s_require_kind) := ⟨rfl, rfl, rfl, by decide +kernel, rfl, by decide +kernel, by decide +kernel⟩
def b_require_kind : MS := ifS (andT (bM (binM notNonD (varM 0) (cM .non))) (notT (bM (callM m_is_prime (consA (varM 0) (nilA)))))) (noM) (nxM)
def m_require_kind : MS := fnM 1 0 b_require_kind
theorem ok_require_kind {P : Program} {w : World} {K : PySem.W.Frag} {mg : Str → Option Value} {base : Heap} (T : Txt K mg) : Has P w K mg base "require_kind" 3 ["value"] m_require_kind := by
  have h_is_prime := ok_is_prime (P := P) (w := w) (base := base) T
  exact hasD T.f_require_kind sc_require_kind rfl rfl (fun _ _ _ _ _ _ us hl => match us, hl with | [_], _ => rfl) (fun f cdv A outer s H hr hg => s_one (s_if (t_w (w_and (t_isnot (d_var 0) (d_non)) (w_and1 (t_not (t_val (d_callH h_is_prime (hr.mono (by decide)) hg (a_cons (d_var 0) (a_nil)))))))) (s_one (s_never)) (s_nil)))
theorem sc_free_patterns : FnScope ["letters", "depth", "prime", "power", "pattern", "times"] ["letters", "depth", "prime"] (defScope s_free_patterns) := ⟨rfl, rfl, rfl, by decide +kernel, rfl, by decide +kernel, by decide +kernel⟩
def b_free_patterns : MS := seqM (exM (callM m_require_letters (consA (varM 0) (nilA)))) (seqM (exM (callM m_require_depth (consA (varM 1) (nilA)))) (seqM (exM (callM m_require_kind (consA (varM 2) (nilA)))) (retM (cbM tupleD (consA (frzM (cpM (itL (callM m_free_in (consA (varM 0) (consA (varM 1) (consA (varM 2) (nilA)))))) (tupG 3 (consG (nameG 3) (consG (nameG 4) (consG (nameG 5) (nilG))))) (yesM) (varM 3) [3, 4, 5])) (nilA))))))
def m_free_patterns : MS := fnM 3 3 b_free_patterns
theorem ok_free_patterns {P : Program} {w : World} {K : PySem.W.Frag} {mg : Str → Option Value} {base : Heap} (T : Txt K mg) : HasK P w K mg base "free_patterns" 5 ["letters", "depth", "prime"] 2 ["prime"] [.non] m_free_patterns := by
  have h_free_in := ok_free_in (P := P) (w := w) (base := base) T
  have h_require_depth := ok_require_depth (P := P) (w := w) (base := base) T
  have h_require_kind := ok_require_kind (P := P) (w := w) (base := base) T
  have h_require_letters := ok_require_letters (P := P) (w := w) (base := base) T
  exact hasDk (nn := 2) T.f_free_patterns sc_free_patterns rfl rfl (by decide) rfl (fun _ _ _ _ _ _ us ks h1 h2 => match us, h1, ks, h2 with | [_, _], _, [_], _ => ⟨_, _, _, _, _, _, rfl, rfl, rfl⟩) (fun _ _ _ _ _ _ us ws h1 h2 => match us, h1, ws, h2 with | [_, _], _, [_], _ => rfl) (fun f cdv A outer s H hr hg => s_cons (s_expr (d_callH h_require_letters (hr.mono (by decide)) hg (a_cons (d_var 0) (a_nil)))) (s_cons (s_expr (d_callH h_require_depth (hr.mono (by decide)) hg (a_cons (d_var 1) (a_nil)))) (s_cons (s_expr (d_callH h_require_kind (hr.mono (by decide)) hg (a_cons (d_var 2) (a_nil)))) (s_one (s_ret (d_tuplec T.n_tuple (a_cons (d_frz (d_lc [("power", 3), ("pattern", 4), ("times", 5)] rfl sc_free_patterns.nd (i_lst (d_callH h_free_in (hr.mono (by decide)) hg (a_cons (d_var 0) (a_cons (d_var 1) (a_cons (d_var 2) (a_nil)))))) (by kernel_rfl) (fun _ _ _ _ _ => g_tup rfl (gs_cons (g_name 3 sc_free_patterns.nd) (gs_cons (g_name 4 sc_free_patterns.nd) (gs_cons (g_name 5 sc_free_patterns.nd) (gs_nil))))) (fun _ _ _ _ _ => c_no) (fun _ _ _ _ _ => d_var 3))) (a_nil))))))))
theorem sc__law_right : FnScope ["_law_cup_here", "_law_signs_here", "_law_deep", "_law_kind_here", "_law_told"] ["_law_cup_here"] (defScope s__law_right) := ⟨rfl, rfl, rfl, by decide +kernel, rfl, by decide +kernel, by decide +kernel⟩
def b__law_right : MS := seqM (par3M 1 2 3 (consA (callC 0 m__law_signs (nilA)) (consA (binM addD (cM (.int 1)) (callC 0 m__law_bit (consA (cM (.int 5)) (nilA)))) (consA (callC 0 m__law_kind (nilA)) (nilA))))) (seqM (asgM (ifM (bM (binM ltD (cbM lenD (consA (varM 1) (nilA))) (cM (.int 3)))) (varM 2) (cbM minD (consA (varM 2) (consA (cM (.int 4)) (nilA))))) (nameG 2)) (seqM (asgM (callM m_free_patterns (apA (consA (varM 1) (consA (varM 2) (nilA))) (consA (varM 3) (nilA)))) (nameG 4)) (seqM (ifS (orT (bM (binM neS (cbM reprD (consA (varM 4) (nilA))) (cbM reprD (consA (cbM tupleD (consA (callM m__law_free (consA (varM 1) (consA (varM 2) (consA (varM 3) (nilA))))) (nilA))) (nilA))))) (notT (bM (callM m__law_powers_right (consA (varM 1) (consA (varM 2) (consA (varM 3) (consA (varM 4) (nilA))))))))) (retM (cM (.bl false))) (nxM)) (seqM (ifS (bM (binM neD (callM m_free_patterns (apA (consA (varM 1) (consA (varM 2) (nilA))) (csA [.non]))) (cbM tupleD (consA (callM m__law_leaders (consA (varM 1) (consA (varM 2) (nilA)))) (nilA))))) (retM (cM (.bl false))) (nxM)) (retM (andV (callM m__law_sum_right (consA (varM 1) (consA (binM addD (cM (.int 1)) (callC 0 m__law_bit (consA (cM (.int 12)) (nilA)))) (nilA)))) (callM m__law_sum_right (consA (varM 1) (consA (binM addD (cM (.int 1)) (callC 0 m__law_bit (consA (cM (.int 60)) (nilA)))) (nilA))))))))))
def m__law_right : MS := fnM 1 4 b__law_right
theorem ok__law_right {P : Program} {w : World} {K : PySem.W.Frag} {mg : Str → Option Value} {base : Heap} (T : Txt K mg) : Has P w K mg base "_law_right" 6 ["_law_cup_here"] m__law_right := by
  have h__law_bit := ok__law_bit (P := P) (w := w) (base := base) T
  have h__law_free := ok__law_free (P := P) (w := w) (base := base) T
  have h__law_kind := ok__law_kind (P := P) (w := w) (base := base) T
  have h__law_leaders := ok__law_leaders (P := P) (w := w) (base := base) T
  have h__law_powers_right := ok__law_powers_right (P := P) (w := w) (base := base) T
  have h__law_signs := ok__law_signs (P := P) (w := w) (base := base) T
  have h__law_sum_right := ok__law_sum_right (P := P) (w := w) (base := base) T
  have h_free_patterns := ok_free_patterns (P := P) (w := w) (base := base) T
  exact hasD T.f__law_right sc__law_right rfl rfl (fun _ _ _ _ _ _ us hl => match us, hl with | [_], _ => rfl) (fun f cdv A outer s H hr hg => s_cons (s_par3 1 2 3 rfl sc__law_right.nd (a_cons (d_callCH 0 h__law_signs (hr.mono (by decide)) hg (a_nil)) (a_cons (d_add (d_int) (d_callCH 0 h__law_bit (hr.mono (by decide)) hg (a_cons (d_int) (a_nil)))) (a_cons (d_callCH 0 h__law_kind (hr.mono (by decide)) hg (a_nil)) (a_nil))))) (s_cons (s_set 2 sc__law_right.nd (d_if (t_lt (d_len T.n_len (a_cons (d_var 1) (a_nil))) (d_int)) (d_var 2) (d_min rfl T.n_min (a_cons (d_var 2) (a_cons (d_int) (a_nil)))))) (s_cons (s_set 4 sc__law_right.nd (d_callK1 h_free_patterns (hr.mono (by decide)) hg (a_cons (d_var 1) (a_cons (d_var 2) (a_nil))) (k_cons (d_var 3) (k_nil)) (len_cons (len_cons (fun _ _ _ h => len_nil h))))) (s_cons (s_if (t_w (w_or (t_neS (d_repr hr hg T.n_repr (a_cons (d_var 4) (a_nil))) (d_repr hr hg T.n_repr (a_cons (d_tuplec T.n_tuple (a_cons (d_callH h__law_free (hr.mono (by decide)) hg (a_cons (d_var 1) (a_cons (d_var 2) (a_cons (d_var 3) (a_nil))))) (a_nil))) (a_nil)))) (w_or1 (t_not (t_val (d_callH h__law_powers_right (hr.mono (by decide)) hg (a_cons (d_var 1) (a_cons (d_var 2) (a_cons (d_var 3) (a_cons (d_var 4) (a_nil))))))))))) (s_one (s_ret (d_bl))) (s_nil)) (s_cons (s_if (t_ne hr (d_callK0 h_free_patterns (hr.mono (by decide)) hg (fun _ => .cons .non (.nil)) (a_cons (d_var 1) (a_cons (d_var 2) (a_nil)))) (d_tuplec T.n_tuple (a_cons (d_callH h__law_leaders (hr.mono (by decide)) hg (a_cons (d_var 1) (a_cons (d_var 2) (a_nil)))) (a_nil)))) (s_one (s_ret (d_bl))) (s_nil)) (s_one (s_ret (d_and (d_callH h__law_sum_right (hr.mono (by decide)) hg (a_cons (d_var 1) (a_cons (d_add (d_int) (d_callCH 0 h__law_bit (hr.mono (by decide)) hg (a_cons (d_int) (a_nil)))) (a_nil)))) (d_one (d_callH h__law_sum_right (hr.mono (by decide)) hg (a_cons (d_var 1) (a_cons (d_add (d_int) (d_callCH 0 h__law_bit (hr.mono (by decide)) hg (a_cons (d_int) (a_nil)))) (a_nil)))))))))))))
theorem sc_law : FnScope ["_law_script", "_law_at", "_law_cup_here", "_law_told", "_law_much"] ["_law_script"] (defScope s_law) := ⟨rfl, rfl, rfl, by decide +kernel, rfl, by decide +kernel, by decide +kernel⟩
def b_law : MS := seqM (forM (itR1 (consA (cbM maxD (consA (cM (.int 1)) (consA (cbM minD (consA (cM (.int 3)) (consA (cbM lenD (consA (varM 0) (nilA))) (nilA)))) (nilA)))) (nilA))) (nameG 1) (seqM (asgN (callN m__law_cup (consA (varM 0) (consA (varM 1) (nilA)))) 2) (ifS (orT (notT (bM (callC 2 m__law_right (nilA)))) (notT (bM (callC 2 m__law_right (nilA))))) (retM (cM (.bl false))) (nxM)))) (seqM (asgN (cpM (itT (tupM (consA (cM (.int 1)) (consA (cM (.int 2)) (consA (cM (.int 3)) (consA (cM (.int 4)) (consA (cM (.int 5)) (consA (cM (.int 12)) (nilA))))))))) (nameG 4) (yesM) (callM m_how_many (consA (cM (.str "ab")) (consA (varM 4) (nilA)))) [4]) 3) (seqM (asgM (binM addD (varM 3) (frzM (lstM (consA (callM m_how_many (consA (cM (.str "a")) (consA (cM (.int 1)) (nilA)))) (consA (callM m_how_many (consA (cM (.str "a")) (consA (cM (.int 9)) (nilA)))) (consA (callM m_how_many (consA (cM (.str "abc")) (consA (cM (.int 5)) (nilA)))) (nilA))))))) (nameG 3)) (seqM (ifS (orT (bM (binM neD (varM 3) (frzM (lstM (consA (cM (.int 2)) (consA (cM (.int 1)) (consA (cM (.int 2)) (consA (cM (.int 3)) (consA (cM (.int 6)) (consA (cM (.int 335)) (consA (cM (.int 1)) (consA (cM (.int 0)) (consA (cM (.int 48)) (nilA)))))))))))))) (bM (binM neD (callM m_free_patterns (apA (consA (cM (.str "a")) (consA (cM (.int 5)) (nilA))) (consA (cM (.int 3)) (nilA)))) (tupM (consA (cM (.str "a")) (consA (cM (.str "aaa")) (nilA))))))) (retM (cM (.bl false))) (nxM)) (retM (binM eqD (callM m_free_patterns (apA (consA (cM (.str "ab")) (consA (cM (.int 4)) (nilA))) (consA (cM (.int 2)) (nilA)))) (binM addT (tupM (consA (cM (.str "a")) (consA (cM (.str "b")) (consA (cM (.str "aa")) (consA (cM (.str "ab")) (consA (cM (.str "bb")) (consA (cM (.str "aab")) (consA (cM (.str "abb")) (nilA))))))))) (tupM (consA (cM (.str "aaaa")) (consA (cM (.str "aaab")) (consA (cM (.str "aabb")) (consA (cM (.str "abab")) (consA (cM (.str "abbb")) (consA (cM (.str "bbbb")) (nilA))))))))))))))
def m_law : MS := fnM 1 4 b_law
theorem fn_law {P : Program} {w : World} {K : PySem.W.Frag} {mg : Str → Option Value} {base : Heap} {f : Addr} {fd : FuncData} (T : Txt K mg) (Fu : Fun K "law" "law" s_law f fd) : FnD P w K mg base 7 f fd ["_law_script"] m_law := by
  have h__law_cup := ok__law_cup (P := P) (w := w) (base := base) T
  have h__law_right := ok__law_right (P := P) (w := w) (base := base) T
  have h_free_patterns := ok_free_patterns (P := P) (w := w) (base := base) T
  have h_how_many := ok_how_many (P := P) (w := w) (base := base) T
  exact fnD Fu sc_law rfl rfl (fun cdv A outer s H hr hg => s_cons (s_for rfl (i_rng1 T.n_range (a_cons (d_max rfl T.n_max (a_cons (d_int) (a_cons (d_min rfl T.n_min (a_cons (d_int) (a_cons (d_len T.n_len (a_cons (d_var 0) (a_nil))) (a_nil)))) (a_nil)))) (a_nil))) (g_name 1 sc_law.nd) (s_cons (s_setN 2 sc_law.nd (d_callNH h__law_cup (hr.mono (by decide)) hg (a_cons (d_var 0) (a_cons (d_var 1) (a_nil))))) (s_one (s_if (t_w (w_or (t_not (t_val (d_callCH 2 h__law_right (hr.mono (by decide)) hg (a_nil)))) (w_or1 (t_not (t_val (d_callCH 2 h__law_right (hr.mono (by decide)) hg (a_nil))))))) (s_one (s_ret (d_bl))) (s_nil)))) PassesOwn.never) (s_cons (s_setLc 3 [("_law_much", 4)] rfl sc_law.nd (i_tup (d_tup (a_cons (d_int) (a_cons (d_int) (a_cons (d_int) (a_cons (d_int) (a_cons (d_int) (a_cons (d_int) (a_nil))))))))) (by kernel_rfl) (fun _ _ _ _ _ => g_name 4 sc_law.nd) (fun _ _ _ _ _ => c_no) (fun _ _ _ _ _ => d_callH h_how_many (hr.mono (by decide)) hg (a_cons (d_str) (a_cons (d_var 4) (a_nil))))) (s_cons (s_set 3 sc_law.nd (d_add (d_var 3) (d_frz (d_lst (a_cons (d_callH h_how_many (hr.mono (by decide)) hg (a_cons (d_str) (a_cons (d_int) (a_nil)))) (a_cons (d_callH h_how_many (hr.mono (by decide)) hg (a_cons (d_str) (a_cons (d_int) (a_nil)))) (a_cons (d_callH h_how_many (hr.mono (by decide)) hg (a_cons (d_str) (a_cons (d_int) (a_nil)))) (a_nil)))))))) (s_cons (s_if (t_w (w_or (t_ne hr (d_var 3) (d_frz (d_lst (a_cons (d_int) (a_cons (d_int) (a_cons (d_int) (a_cons (d_int) (a_cons (d_int) (a_cons (d_int) (a_cons (d_int) (a_cons (d_int) (a_cons (d_int) (a_nil))))))))))))) (w_or1 (t_ne hr (d_callK1 h_free_patterns (hr.mono (by decide)) hg (a_cons (d_str) (a_cons (d_int) (a_nil))) (k_cons (d_int) (k_nil)) (len_cons (len_cons (fun _ _ _ h => len_nil h)))) (d_tup (a_cons (d_str) (a_cons (d_str) (a_nil)))))))) (s_one (s_ret (d_bl))) (s_nil)) (s_one (s_ret (d_eq hr (d_callK1 h_free_patterns (hr.mono (by decide)) hg (a_cons (d_str) (a_cons (d_int) (a_nil))) (k_cons (d_int) (k_nil)) (len_cons (len_cons (fun _ _ _ h => len_nil h)))) (d_addT (d_tup (a_cons (d_str) (a_cons (d_str) (a_cons (d_str) (a_cons (d_str) (a_cons (d_str) (a_cons (d_str) (a_cons (d_str) (a_nil))))))))) (d_tup (a_cons (d_str) (a_cons (d_str) (a_cons (d_str) (a_cons (d_str) (a_cons (d_str) (a_cons (d_str) (a_nil))))))))))))))))
end Wk09
namespace Wk09
open PySem PySem.Spec PyProof.Rows L2 Dk
def isV (o : Option (Fl × Dk.Env)) : Bool := match o with
  | some (.rt (.bl true), _) => true
  | _ => false
def cup (x y z : Int) : D := .lst [.int x, .int y, .int z]
theorem cMul_ok {i j : Int} (h1 : i.natAbs < 2 ^ 64) (h2 : j.natAbs < 2 ^ 64) : cMul i j = true := by
  have key : ∀ n : Nat, n < 2 ^ 64 → n.log2 < 65 := fun n h => by
    by_cases h0 : n = 0
    · subst h0; decide
    · exact Nat.lt_succ_of_lt ((Nat.log2_lt h0).mpr h)
  unfold cMul
  have a := key _ h1
  have b := key _ h2
  exact decide_eq_true (by omega)
theorem bit {x y z much : Int} (hx : 0 ≤ x) (hm : 0 < much) (hm2 : much ≤ 1000) (hz : 0 ≤ z) (hz2 : z ≤ 1000000) :
    ∃ r x' z' e, m__law_bit [.io (cup x y z), .fz (.int much)] = some (.rt (.int r), .io (cup x' y z') :: e) ∧ 0 ≤ r ∧ r < much ∧ 0 ≤ x' ∧ 0 ≤ z' ∧ z' ≤ z + 1 := by
  have c1 : cDiv x much = true := by
    unfold cDiv
    rw [Bool.and_eq_true]
    refine ⟨decide_eq_true hm, decide_eq_true ?_⟩
    have : much.natAbs < 2 ^ 64 := by omega
    by_cases h0 : much.natAbs = 0
    · rw [h0]; decide
    · exact Nat.lt_of_lt_of_le ((Nat.log2_lt h0).mpr this) (by decide)
  have c2 : ∀ i : Int, cMod i much = true := fun i => decide_eq_true hm
  unfold m__law_bit b__law_bit cup
  by_cases h : 0 < x
  · refine ⟨x % much, x / much, z, ?_⟩
    simp [fnM, seqM, ifS, bM, binM, cM, varM, rd, rdS, tk, ixD, L2.atI, gtD, asgM, nameG, putZ, cbM, consA, nilA, Dk.intD, cmpD, setM, ownD, wr, ixN, retM, modD, i2, divD, mulI, addD, okB, rds, asI, asL, nxM, c1, c2, h]
    refine ⟨Int.emod_nonneg _ (by omega), Int.emod_lt_of_pos _ hm, Int.ediv_nonneg hx (by omega), hz, by omega⟩
  · have f0 : 0 ≤ (y + 1000541 * (z + 1)) % 2305843009213693951 := Int.emod_nonneg _ (by decide)
    have f1 : (y + 1000541 * (z + 1)) % 2305843009213693951 < 2305843009213693951 := Int.emod_lt_of_pos _ (by decide)
    generalize hf : (y + 1000541 * (z + 1)) % 2305843009213693951 = f at f0 f1
    have g0 : 0 ≤ f * f % 2305843009213693921 := Int.emod_nonneg _ (by decide)
    have g1 : f * f % 2305843009213693921 < 2305843009213693921 := Int.emod_lt_of_pos _ (by decide)
    have c3 : cMul 1000541 (z + 1) = true := cMul_ok (by omega) (by omega)
    have c4 : cMul f f = true := cMul_ok (by omega) (by omega)
    have c5 : cMul (f * f % 2305843009213693921) f = true := cMul_ok (by omega) (by omega)
    have c6 : cMul 9341 (z + 1) = true := cMul_ok (by omega) (by omega)
    have d1 : ∀ i : Int, cMod i 2305843009213693951 = true := fun i => rfl
    have d2 : ∀ i : Int, cMod i 2305843009213693921 = true := fun i => rfl
    have d3 : ∀ i : Int, cMod i 2305843009213693907 = true := fun i => rfl
    have d4 : ∀ i : Int, cDiv i 16384 = true := fun i => by unfold cDiv; decide
    refine ⟨(f * f % 2305843009213693921 * f + 9341 * (z + 1)) % 2305843009213693907 / 16384 % much, x, z + 1, ?_⟩
    simp [fnM, seqM, ifS, bM, binM, cM, varM, rd, rdS, tk, ixD, L2.atI, gtD, asgM, nameG, putZ, cbM, consA, nilA, Dk.intD, cmpD, setM, ownD, wr, ixN, retM, modD, i2, divD, mulI, addD, okB, rds, asI, asL, nxM, c2, c3, c4, c5, c6, d1, d2, d3, d4, h, hf]
    exact ⟨Int.emod_nonneg _ (by omega), Int.emod_lt_of_pos _ hm, hx, by omega⟩
def drawS : MS := par3M 1 2 3 (consA (callC 0 m__law_signs (nilA)) (consA (binM addD (cM (.int 1)) (callC 0 m__law_bit (consA (cM (.int 5)) (nilA)))) (consA (callC 0 m__law_kind (nilA)) (nilA))))
def stA : MS := asgM (ifM (bM (binM ltD (cbM lenD (consA (varM 1) (nilA))) (cM (.int 3)))) (varM 2) (cbM minD (consA (varM 2) (consA (cM (.int 4)) (nilA))))) (nameG 2)
def stB : MS := asgM (callM m_free_patterns (apA (consA (varM 1) (consA (varM 2) (nilA))) (consA (varM 3) (nilA)))) (nameG 4)
def stC : MS := ifS (orT (bM (binM neS (cbM reprD (consA (varM 4) (nilA))) (cbM reprD (consA (cbM tupleD (consA (callM m__law_free (consA (varM 1) (consA (varM 2) (consA (varM 3) (nilA))))) (nilA))) (nilA))))) (notT (bM (callM m__law_powers_right (consA (varM 1) (consA (varM 2) (consA (varM 3) (consA (varM 4) (nilA))))))))) (retM (cM (.bl false))) (nxM)
def stD : MS := ifS (bM (binM neD (callM m_free_patterns (apA (consA (varM 1) (consA (varM 2) (nilA))) (csA [.non]))) (cbM tupleD (consA (callM m__law_leaders (consA (varM 1) (consA (varM 2) (nilA)))) (nilA))))) (retM (cM (.bl false))) (nxM)
def restS (last : MS) : MS := seqM stA (seqM stB (seqM stC (seqM stD last)))
def lastS : MS := retM (andV (callM m__law_sum_right (consA (varM 1) (consA (binM addD (cM (.int 1)) (callC 0 m__law_bit (consA (cM (.int 12)) (nilA)))) (nilA)))) (callM m__law_sum_right (consA (varM 1) (consA (binM addD (cM (.int 1)) (callC 0 m__law_bit (consA (cM (.int 60)) (nilA)))) (nilA)))))
theorem right_eq : b__law_right = seqM drawS (restS lastS) := rfl
def rngI : MI := itR1 (consA (cbM maxD (consA (cM (.int 1)) (consA (cbM minD (consA (cM (.int 3)) (consA (cbM lenD (consA (varM 0) (nilA))) (nilA)))) (nilA)))) (nilA))
def bodyS : MS := seqM (asgN (callN m__law_cup (consA (varM 0) (consA (varM 1) (nilA)))) 2) (ifS (orT (notT (bM (callC 2 m__law_right (nilA)))) (notT (bM (callC 2 m__law_right (nilA))))) (retM (cM (.bl false))) (nxM))
def tailS : MS := seqM (asgN (cpM (itT (tupM (consA (cM (.int 1)) (consA (cM (.int 2)) (consA (cM (.int 3)) (consA (cM (.int 4)) (consA (cM (.int 5)) (consA (cM (.int 12)) (nilA))))))))) (nameG 4) (yesM) (callM m_how_many (consA (cM (.str "ab")) (consA (varM 4) (nilA)))) [4]) 3) (seqM (asgM (binM addD (varM 3) (frzM (lstM (consA (callM m_how_many (consA (cM (.str "a")) (consA (cM (.int 1)) (nilA)))) (consA (callM m_how_many (consA (cM (.str "a")) (consA (cM (.int 9)) (nilA)))) (consA (callM m_how_many (consA (cM (.str "abc")) (consA (cM (.int 5)) (nilA)))) (nilA))))))) (nameG 3)) (seqM (ifS (orT (bM (binM neD (varM 3) (frzM (lstM (consA (cM (.int 2)) (consA (cM (.int 1)) (consA (cM (.int 2)) (consA (cM (.int 3)) (consA (cM (.int 6)) (consA (cM (.int 335)) (consA (cM (.int 1)) (consA (cM (.int 0)) (consA (cM (.int 48)) (nilA)))))))))))))) (bM (binM neD (callM m_free_patterns (apA (consA (cM (.str "a")) (consA (cM (.int 5)) (nilA))) (consA (cM (.int 3)) (nilA)))) (tupM (consA (cM (.str "a")) (consA (cM (.str "aaa")) (nilA))))))) (retM (cM (.bl false))) (nxM)) (retM (binM eqD (callM m_free_patterns (apA (consA (cM (.str "ab")) (consA (cM (.int 4)) (nilA))) (consA (cM (.int 2)) (nilA)))) (binM addT (tupM (consA (cM (.str "a")) (consA (cM (.str "b")) (consA (cM (.str "aa")) (consA (cM (.str "ab")) (consA (cM (.str "bb")) (consA (cM (.str "aab")) (consA (cM (.str "abb")) (nilA))))))))) (tupM (consA (cM (.str "aaaa")) (consA (cM (.str "aaab")) (consA (cM (.str "aabb")) (consA (cM (.str "abab")) (consA (cM (.str "abbb")) (consA (cM (.str "bbbb")) (nilA)))))))))))))
theorem law_eq : b_law = seqM (Dk.forM rngI (nameG 1) bodyS) tailS := rfl
def cellS : MS := asgM (ifM (bM (binM ltD (varM 1) (cbM lenD (consA (varM 0) (nilA))))) (binM ixD (varM 0) (varM 1)) (binM addD (binM mulI (cM (.int 73)) (varM 1)) (cM (.int 37)))) (nameG 2)
def makeS : MS := seqM (asgM (binM modD (cbM intD (consA (cbM absD (consA (varM 2) (nilA))) (nilA))) (binM powD (binM powD (cM (.int 10)) (cM (.int 61))) (cM (.int 11)))) (nameG 3)) (seqM (asgM (binM addD (binM addD (binM addD (binM mulI (binM modD (cbM intD (consA (varM 3) (nilA))) (cM (.int 2147483179))) (cM (.int 99317))) (binM mulI (cM (.int 9431)) (varM 1))) (binM mulI (cM (.int 53)) (cbM intD (consA (binM ltD (varM 2) (cM (.int 0))) (nilA))))) (cM (.int 67))) (nameG 4)) (retN (lstM (consA (cbM maxD (consA (cM (.int 0)) (consA (binM subD (varM 3) (binM powD (cM (.int 10)) (cM (.int 18)))) (nilA)))) (consA (binM modD (cbM intD (consA (varM 4) (nilA))) (cM (.int 2305843009213693907))) (consA (cM (.int 0)) (nilA)))))))
theorem cup_eq : b__law_cup = seqM cellS makeS := rfl
def CupOk (n : Int) (c : D) : Prop := ∃ x y z, c = cup x y z ∧ 0 ≤ x ∧ 0 ≤ z ∧ z ≤ n
theorem bitC {n much : Int} {c : D} (h : CupOk n c) (hn : n ≤ 1000000) (hm : 0 < much) (hm2 : much ≤ 1000) :
    ∃ r c' e, m__law_bit [.io c, .fz (.int much)] = some (.rt (.int r), .io c' :: e) ∧ 0 ≤ r ∧ r < much ∧ CupOk (n + 1) c' := by
  obtain ⟨x, y, z, rfl, hx, hz, hz2⟩ := h
  obtain ⟨r, x', z', e, h1, h2, h3, h4, h5, h6⟩ := bit (y := y) hx hm hm2 hz (by omega)
  exact ⟨r, _, e, h1, h2, h3, x', y, z', rfl, h4, h5, by omega⟩
theorem pick {n : Int} {c : D} {items : List D} (h : CupOk n c) (hn : n ≤ 1000000) (h0 : 0 < items.length) (hl : items.length ≤ 1000) :
    ∃ d c' e, m__law_pick [.io c, .fz (.lst items)] = some (.rt d, .io c' :: e) ∧ d ∈ items ∧ CupOk (n + 1) c' := by
  obtain ⟨r, c', e, h1, h2, h3, h4⟩ := bitC (much := items.length) h hn (by omega) (by omega)
  have hlt : r.toNat < items.length := by omega
  have hat : L2.atI items r = some items[r.toNat] := by
    unfold L2.atI ixN
    rw [if_pos h2, if_pos (by omega)]
    exact List.getElem?_eq_getElem hlt
  refine ⟨items[r.toNat], c', [.fz (.lst items)], ?_, List.getElem_mem hlt, h4⟩
  unfold m__law_pick b__law_pick
  simp [fnM, retM, binM, varM, callC, consA, nilA, cbM, rd, rdS, rds, lenD, tks, tk, ownD, wr, ioOf, resV, h1, ixD, hat]
def sgL : List D := [.str "ab", .str "ab", .str "ab", .str "xy", .str "a", .str "abc"]
def kdL : List D := [.non, .non, .int 2, .int 2, .int 3, .int 5, .int 7]
theorem signsS {n : Int} {c : D} (h : CupOk n c) (hn : n ≤ 1000000) : ∃ d c' e, m__law_signs [.io c] = some (.rt d, .io c' :: e) ∧ d ∈ sgL ∧ CupOk (n + 1) c' := by
  obtain ⟨d, c', e, h1, h2, h3⟩ := pick (items := sgL) h hn (by decide) (by decide)
  refine ⟨d, c', [], ?_, h2, h3⟩
  unfold sgL at h1
  unfold m__law_signs b__law_signs
  simp [fnM, retM, cM, callC, consA, nilA, frzM, lstM, rd, rdS, rds, tks, tk, ownD, wr, ioOf, resV, h1, few]
theorem kindS {n : Int} {c : D} (h : CupOk n c) (hn : n ≤ 1000000) : ∃ d c' e, m__law_kind [.io c] = some (.rt d, .io c' :: e) ∧ d ∈ kdL ∧ CupOk (n + 1) c' := by
  obtain ⟨d, c', e, h1, h2, h3⟩ := pick (items := kdL) h hn (by decide) (by decide)
  refine ⟨d, c', [], ?_, h2, h3⟩
  unfold kdL at h1
  unfold m__law_kind b__law_kind
  simp [fnM, retM, cM, callC, consA, nilA, frzM, lstM, rd, rdS, rds, tks, tk, ownD, wr, ioOf, resV, h1, few]
theorem seq_nx {a b : MS} {e e1 : Dk.Env} (h : a e = some (.nx, e1)) : seqM a b e = b e1 := by unfold seqM; rw [h]; rfl
theorem drawOk {n : Int} {c : D} (h : CupOk n c) (hn : n ≤ 900000) : ∃ s r k c', drawS [.io c, .no, .no, .no, .no] = some (.nx, [.io c', .fz s, .fz (.int (1 + r)), .fz k, .no]) ∧ s ∈ sgL ∧ 0 ≤ r ∧ r < 5 ∧ k ∈ kdL ∧ CupOk (n + 3) c' := by
  obtain ⟨s, c1, e1, h1, h2, h3⟩ := signsS h (by omega)
  obtain ⟨r, c2, e2, h4, h5, h6, h7⟩ := bitC (much := 5) h3 (by omega) (by decide) (by decide)
  obtain ⟨k, c3, e3, h8, h9, h10⟩ := kindS h7 (by omega)
  refine ⟨s, r, k, c3, ?_, h2, h5, h6, h9, by rw [show n + 3 = n + 1 + 1 + 1 by omega]; exact h10⟩
  unfold drawS
  simp [par3M, binM, cM, callC, consA, nilA, rd, rdS, rds, tks, tk, ownD, wr, ioOf, resV, h1, h4, h8, addD, putZ]
def callR (m : MS) (a : Dk.Env) : Option D := (m a).bind fun r => resV r.1
def Good (s d k : D) : Prop := ∃ d' t, ∀ last c, restS last [.io c, .fz s, .fz d, .fz k, .no] = last [.io c, .fz s, .fz d', .fz k, .fz t]
theorem good {s k : D} {d dp : Int} {t u : List D} (h0 : ∀ c k : D, stA [.io c, .fz s, .fz (.int d), .fz k, .no] = some (.nx, [.io c, .fz s, .fz (.int dp), .fz k, .no])) (h1 : callR m_free_patterns [.fz s, .fz (.int dp), .fz k] = some (.tup t)) (h2 : callR m__law_free [.fz s, .fz (.int dp), .fz k] = some (.lst t))
    (h3 : callR m__law_powers_right [.fz s, .fz (.int dp), .fz k, .fz (.tup t)] = some (.bl true)) (h4 : callR m_free_patterns [.fz s, .fz (.int dp), .fz .non] = some (.tup u)) (h5 : callR m__law_leaders [.fz s, .fz (.int dp)] = some (.lst u))
    (h6 : ∃ x, reprD [.tup t] = some (.str x)) (h7 : neD (.tup u) (.tup u) = some (.bl false)) : Good s (.int d) k := by
  refine ⟨.int dp, .tup t, fun last c => ?_⟩
  obtain ⟨⟨f1, a1⟩, g1, k1⟩ := Option.bind_eq_some_iff.mp h1
  obtain ⟨⟨f2, a2⟩, g2, k2⟩ := Option.bind_eq_some_iff.mp h2
  obtain ⟨⟨f3, a3⟩, g3, k3⟩ := Option.bind_eq_some_iff.mp h3
  obtain ⟨⟨f4, a4⟩, g4, k4⟩ := Option.bind_eq_some_iff.mp h4
  obtain ⟨⟨f5, a5⟩, g5, k5⟩ := Option.bind_eq_some_iff.mp h5
  obtain ⟨x, hr⟩ := h6
  unfold restS
  rw [seq_nx (h0 c k)]
  have b1 : stB [.io c, .fz s, .fz (.int dp), .fz k, .no] = some (.nx, [.io c, .fz s, .fz (.int dp), .fz k, .fz (.tup t)]) := by
    unfold stB
    simp [asgM, callM, apA, varM, consA, nilA, rd, rdS, rds, tks, tk, g1, k1, nameG, putZ]
  rw [seq_nx b1]
  have b2 : stC [.io c, .fz s, .fz (.int dp), .fz k, .fz (.tup t)] = some (.nx, [.io c, .fz s, .fz (.int dp), .fz k, .fz (.tup t)]) := by
    unfold stC
    simp [ifS, orT, bM, binM, cbM, callM, apA, varM, consA, nilA, rd, rdS, rds, tks, tk, g2, k2, g3, k3, hr, tupleD, neS, notT, nxM]
  rw [seq_nx b2]
  have b3 : stD [.io c, .fz s, .fz (.int dp), .fz k, .fz (.tup t)] = some (.nx, [.io c, .fz s, .fz (.int dp), .fz k, .fz (.tup t)]) := by
    unfold stD
    simp [ifS, orT, bM, binM, cbM, callM, apA, csA, varM, consA, nilA, rd, rdS, rds, tks, tk, g4, k4, g5, k5, tupleD, h7, notT, nxM]
  rw [seq_nx b3]
def SumOk (s : D) : Prop := ∀ r : Int, 0 ≤ r → r < 60 → ∃ e, m__law_sum_right [.fz s, .fz (.int (1 + r))] = some (.rt (.bl true), e)
theorem lastOk {n : Int} {c s d k t : D} (h : CupOk n c) (hn : n ≤ 900000) (hs : SumOk s) : ∃ c' e, lastS [.io c, .fz s, .fz d, .fz k, .fz t] = some (.rt (.bl true), .io c' :: e) ∧ CupOk (n + 2) c' := by
  obtain ⟨r, c2, e2, h4, h5, h6, h7⟩ := bitC (much := 12) h (by omega) (by decide) (by decide)
  obtain ⟨r3, c3, e3, h8, h9, h10, h11⟩ := bitC (much := 60) h7 (by omega) (by decide) (by decide)
  obtain ⟨e4, h12⟩ := hs r h5 (by omega)
  obtain ⟨e5, h13⟩ := hs r3 h9 h10
  refine ⟨c3, [.fz s, .fz d, .fz k, .fz t], ?_, by rw [show n + 2 = n + 1 + 1 by omega]; exact h11⟩
  unfold lastS
  simp [retM, andV, bM, callM, callC, binM, cM, varM, consA, nilA, rd, rdS, rds, tks, tk, ownD, wr, ioOf, resV, h4, h8, h12, h13, addD]
theorem rightOk {n : Int} {c : D} (G : ∀ s ∈ sgL, ∀ r : Int, 0 ≤ r → r < 5 → ∀ k ∈ kdL, Good s (.int (1 + r)) k) (S : ∀ s ∈ sgL, SumOk s) (h : CupOk n c) (hn : n ≤ 800000) : ∃ c' e, m__law_right [.io c] = some (.rt (.bl true), .io c' :: e) ∧ CupOk (n + 5) c' := by
  obtain ⟨s, r, k, c1, h1, h2, h3, h4, h5, h6⟩ := drawOk h (by omega)
  obtain ⟨d', t, hg⟩ := G s h2 r h3 h4 k h5
  obtain ⟨c2, e2, h7, h8⟩ := lastOk (d := d') (k := k) (t := t) h6 (by omega) (S s h2)
  refine ⟨c2, e2, ?_, by rw [show n + 5 = n + 3 + 2 by omega]; exact h8⟩
  show fnM 1 4 b__law_right [.io c] = _
  rw [right_eq]
  show seqM drawS (restS lastS) [.io c, .no, .no, .no, .no] = _
  rw [seq_nx h1, hg, h7]
theorem isV_iff {o : Option (Fl × Dk.Env)} (h : isV o = true) : ∃ e, o = some (.rt (.bl true), e) := by
  unfold isV at h
  split at h
  · exact ⟨_, rfl⟩
  · cases h
theorem pow61 : powD (.int 10) (.int 61) = some (.int 10000000000000000000000000000000000000000000000000000000000000) := by kernel_rfl
def bigD : Int := 10000000000000000000000000000000000000000000000000000000000000 ^ 11
theorem big_pos : 0 < bigD := by decide +kernel
theorem pow671 : powD (.int 10000000000000000000000000000000000000000000000000000000000000) (.int 11) = some (.int bigD) := by kernel_rfl
theorem pow18 : powD (.int 10) (.int 18) = some (.int 1000000000000000000) := by kernel_rfl
theorem modL {i j : Int} (h : 0 < j) : modD (.int i) (.int j) = some (.int (i % j)) := by
  simp [modD, i2, okB, cMod, h]
theorem mulL {i j : Int} (h : cMul i j = true) : mulI (.int i) (.int j) = some (.int (i * j)) := by
  simp [mulI, i2, okB, h]
theorem makeOk {s : D} {at' cell : Int} (h0 : 0 ≤ at') (h2 : at' ≤ 1000) : ∃ c e, makeS [.fz s, .fz (.int at'), .fz (.int cell), .no, .no] = some (.rn c, e) ∧ CupOk 0 c := by
  have m1 := modL (i := if cell < 0 then -cell else cell) (j := bigD) big_pos
  generalize hg : (if cell < 0 then -cell else cell) % bigD = g at m1
  have m2 := modL (i := g) (j := 2147483179) (by decide)
  have b0 : 0 ≤ g % 2147483179 := Int.emod_nonneg _ (by decide)
  have b1 : g % 2147483179 < 2147483179 := Int.emod_lt_of_pos _ (by decide)
  generalize hq : g % 2147483179 = q at m2 b0 b1
  have m3 := mulL (i := q) (j := 99317) (cMul_ok (by omega) (by omega))
  have m4 := mulL (i := 9431) (j := at') (cMul_ok (by omega) (by omega))
  have m5 := mulL (i := 53) (j := if decide (cell < 0) = true then 1 else 0) (cMul_ok (by omega) (by split <;> decide))
  have m6 := fun i => modL (i := i) (j := 2305843009213693907) (by decide)
  refine ⟨cup (if g - 1000000000000000000 > 0 then g - 1000000000000000000 else 0) ((q * 99317 + 9431 * at' + 53 * (if decide (cell < 0) = true then 1 else 0) + 67) % 2305843009213693907) 0, [.fz s, .fz (.int at'), .fz (.int cell), .fz (.int g), .fz (.int (q * 99317 + 9431 * at' + 53 * (if decide (cell < 0) = true then 1 else 0) + 67))], ?_, _, _, 0, rfl, ?_, by decide, by decide⟩
  · unfold makeS
    simp only [seqM, asgM, binM, cM, varM, cbM, consA, nilA, rd, rdS, rds, tk, tks, absD, Dk.intD, pow61, pow671, pow18, m1, m2, m3, m4, m5, m6, nameG, putZ, addD, subD, i2z, ltD, cmpD, maxD, retN, lstM, few, Option.bind_some, Option.map_some, List.getElem?_cons_zero, List.getElem?_cons_succ, List.set_cons_zero, List.set_cons_succ, List.length_cons, List.length_nil]
    rfl
  · split <;> omega
theorem cupOk {ns : List Int} {at' : Int} (h0 : 0 ≤ at') (h2 : at' ≤ 1000) : ∃ c e, m__law_cup [.fz (.scr ns), .fz (.int at')] = some (.rn c, e) ∧ CupOk 0 c := by
  have key : ∃ cell, cellS [.fz (.scr ns), .fz (.int at'), .no, .no, .no] = some (.nx, [.fz (.scr ns), .fz (.int at'), .fz (.int cell), .no, .no]) := by
    have m1 := mulL (i := 73) (j := at') (cMul_ok (by omega) (by omega))
    by_cases h : at' < ns.length
    · have hlt : at'.toNat < ns.length := by omega
      have hat : L2.atI ns at' = some ns[at'.toNat] := by
        unfold L2.atI ixN
        rw [if_pos h0, if_pos (by omega)]
        exact List.getElem?_eq_getElem hlt
      refine ⟨ns[at'.toNat], ?_⟩
      unfold cellS
      simp [asgM, ifM, bM, binM, cM, varM, cbM, consA, nilA, rd, rdS, rds, tk, ltD, cmpD, lenD, h, ixD, hat, nameG, putZ]
    · refine ⟨73 * at' + 37, ?_⟩
      unfold cellS
      simp [asgM, ifM, bM, binM, cM, varM, cbM, consA, nilA, rd, rdS, rds, tk, ltD, cmpD, lenD, h, m1, addD, nameG, putZ]
  obtain ⟨cell, hc⟩ := key
  obtain ⟨c, e, h1, h3⟩ := makeOk (s := .scr ns) (cell := cell) h0 h2
  refine ⟨c, e, ?_, h3⟩
  show fnM 2 3 b__law_cup [.fz (.scr ns), .fz (.int at')] = _
  rw [cup_eq]
  show seqM cellS makeS [.fz (.scr ns), .fz (.int at'), .no, .no, .no] = _
  rw [seq_nx hc, h1]
section
variable (G : ∀ s ∈ sgL, ∀ r : Int, 0 ≤ r → r < 5 → ∀ k ∈ kdL, Good s (.int (1 + r)) k) (S : ∀ s ∈ sgL, SumOk s)
include G S
theorem bodyOk {ns : List Int} {at' : Int} {b x3 x4 : Sl} (h0 : 0 ≤ at') (h2 : at' ≤ 1000) (hb : b = .no ∨ ∃ c, b = .ow c) : ∃ c, bodyS [.fz (.scr ns), .fz (.int at'), b, x3, x4] = some (.nx, [.fz (.scr ns), .fz (.int at'), .ow c, x3, x4]) := by
  obtain ⟨c, e, h1, h3⟩ := cupOk (ns := ns) h0 h2
  obtain ⟨c1, e1, h4, h5⟩ := rightOk G S h3 (by decide)
  obtain ⟨c2, e2, h6, h7⟩ := rightOk G S h5 (by decide)
  refine ⟨c2, ?_⟩
  unfold bodyS
  rcases hb with rfl | ⟨cc, rfl⟩ <;>
  simp [seqM, asgN, callN, consA, nilA, varM, rd, rdS, rds, tk, tks, h1, resN, ifS, orT, notT, bM, callC, ownD, h4, h6, ioOf, wr, resV, nxM]
theorem lawOk (T : ∀ (s a b : Sl), isV (tailS [s, a, b, .no, .no]) = true) (ns : List Int) : ∃ e, m_law [.fz (.scr ns)] = some (.rt (.bl true), e) := by
  have hr : ∃ m : Nat, (m = 1 ∨ m = 2 ∨ m = 3) ∧ rngI [.fz (.scr ns), .no, .no, .no, .no] = some ((List.range m).map fun (i : Nat) => D.int i, [.fz (.scr ns), .no, .no, .no, .no]) := by
    have h3 : ns.length = 0 ∨ ns.length = 1 ∨ ns.length = 2 ∨ 3 ≤ ns.length := by omega
    unfold rngI
    rcases h3 with h | h | h | h
    · refine ⟨1, Or.inl rfl, ?_⟩
      simp [itR1, cbM, consA, nilA, cM, varM, rd, rdS, rds, lenD, minD, maxD, h]
      rfl
    · refine ⟨1, Or.inl rfl, ?_⟩
      simp [itR1, cbM, consA, nilA, cM, varM, rd, rdS, rds, lenD, minD, maxD, h]
      rfl
    · refine ⟨2, Or.inr (Or.inl rfl), ?_⟩
      simp [itR1, cbM, consA, nilA, cM, varM, rd, rdS, rds, lenD, minD, maxD, h]
      rfl
    · refine ⟨3, Or.inr (Or.inr rfl), ?_⟩
      have h' : ¬ ((ns.length : Int) < 3) := by omega
      simp [itR1, cbM, consA, nilA, cM, varM, rd, rdS, rds, lenD, minD, maxD, h']
      rfl
  obtain ⟨m, hm, hr⟩ := hr
  have loop : ∃ a b, Dk.forM rngI (nameG 1) bodyS [.fz (.scr ns), .no, .no, .no, .no] = some (.nx, [.fz (.scr ns), a, b, .no, .no]) := by
    unfold Dk.forM
    rw [hr]
    obtain ⟨c0, q0⟩ := bodyOk G S (ns := ns) (at' := 0) (b := .no) (x3 := .no) (x4 := .no) (by decide) (by decide) (Or.inl rfl)
    obtain ⟨c1, q1⟩ := bodyOk G S (ns := ns) (at' := 1) (b := .ow c0) (x3 := .no) (x4 := .no) (by decide) (by decide) (Or.inr ⟨_, rfl⟩)
    obtain ⟨c2, q2⟩ := bodyOk G S (ns := ns) (at' := 2) (b := .ow c1) (x3 := .no) (x4 := .no) (by decide) (by decide) (Or.inr ⟨_, rfl⟩)
    rcases hm with rfl | rfl | rfl
    · exact ⟨.fz (.int 0), .ow c0, by simp [List.range, List.range.loop, forL, nameG, putZ, q0]⟩
    · exact ⟨.fz (.int 1), .ow c1, by simp [List.range, List.range.loop, forL, nameG, putZ, q0, q1]⟩
    · exact ⟨.fz (.int 2), .ow c2, by simp [List.range, List.range.loop, forL, nameG, putZ, q0, q1, q2]⟩
  obtain ⟨a, b, hl⟩ := loop
  obtain ⟨e, ht⟩ := isV_iff (T (.fz (.scr ns)) a b)
  refine ⟨e, ?_⟩
  show fnM 1 4 b_law [.fz (.scr ns)] = _
  rw [law_eq]
  show seqM (Dk.forM rngI (nameG 1) bodyS) tailS [.fz (.scr ns), .no, .no, .no, .no] = _
  rw [seq_nx hl, ht]
end
def u_a1 : List D := [.str "a"]
theorem lead_a1 : callR m__law_leaders [.fz (.str "a"), .fz (.int 1)] = some (.lst u_a1) := by kernel_rfl
theorem same_a1 : neD (.tup u_a1) (.tup u_a1) = some (.bl false) := by kernel_rfl
def f_a1n : List D := [.str "a"]
theorem fp_a1n : callR m_free_patterns [.fz (.str "a"), .fz (.int 1), .fz (.non)] = some (.tup f_a1n) := by kernel_rfl
theorem fr_a1n : callR m__law_free [.fz (.str "a"), .fz (.int 1), .fz (.non)] = some (.lst f_a1n) := by kernel_rfl
theorem pw_a1n : callR m__law_powers_right [.fz (.str "a"), .fz (.int 1), .fz (.non), .fz (.tup f_a1n)] = some (.bl true) := by kernel_rfl
theorem rp_a1n : ((toPy (.tup f_a1n)).map fun p => p.showable && decide (p.depth ≤ 60) && p.leavesShort 8 && decide (p.weight ≤ 1048576)) = some true := by kernel_rfl
def f_a12 : List D := [.str "a"]
theorem fp_a12 : callR m_free_patterns [.fz (.str "a"), .fz (.int 1), .fz (.int 2)] = some (.tup f_a12) := by kernel_rfl
theorem fr_a12 : callR m__law_free [.fz (.str "a"), .fz (.int 1), .fz (.int 2)] = some (.lst f_a12) := by kernel_rfl
theorem pw_a12 : callR m__law_powers_right [.fz (.str "a"), .fz (.int 1), .fz (.int 2), .fz (.tup f_a12)] = some (.bl true) := by kernel_rfl
theorem rp_a12 : ((toPy (.tup f_a12)).map fun p => p.showable && decide (p.depth ≤ 60) && p.leavesShort 8 && decide (p.weight ≤ 1048576)) = some true := by kernel_rfl
def f_a13 : List D := [.str "a"]
theorem fp_a13 : callR m_free_patterns [.fz (.str "a"), .fz (.int 1), .fz (.int 3)] = some (.tup f_a13) := by kernel_rfl
theorem fr_a13 : callR m__law_free [.fz (.str "a"), .fz (.int 1), .fz (.int 3)] = some (.lst f_a13) := by kernel_rfl
theorem pw_a13 : callR m__law_powers_right [.fz (.str "a"), .fz (.int 1), .fz (.int 3), .fz (.tup f_a13)] = some (.bl true) := by kernel_rfl
theorem rp_a13 : ((toPy (.tup f_a13)).map fun p => p.showable && decide (p.depth ≤ 60) && p.leavesShort 8 && decide (p.weight ≤ 1048576)) = some true := by kernel_rfl
def f_a15 : List D := [.str "a"]
theorem fp_a15 : callR m_free_patterns [.fz (.str "a"), .fz (.int 1), .fz (.int 5)] = some (.tup f_a15) := by kernel_rfl
theorem fr_a15 : callR m__law_free [.fz (.str "a"), .fz (.int 1), .fz (.int 5)] = some (.lst f_a15) := by kernel_rfl
theorem pw_a15 : callR m__law_powers_right [.fz (.str "a"), .fz (.int 1), .fz (.int 5), .fz (.tup f_a15)] = some (.bl true) := by kernel_rfl
theorem rp_a15 : ((toPy (.tup f_a15)).map fun p => p.showable && decide (p.depth ≤ 60) && p.leavesShort 8 && decide (p.weight ≤ 1048576)) = some true := by kernel_rfl
def f_a17 : List D := [.str "a"]
theorem fp_a17 : callR m_free_patterns [.fz (.str "a"), .fz (.int 1), .fz (.int 7)] = some (.tup f_a17) := by kernel_rfl
theorem fr_a17 : callR m__law_free [.fz (.str "a"), .fz (.int 1), .fz (.int 7)] = some (.lst f_a17) := by kernel_rfl
theorem pw_a17 : callR m__law_powers_right [.fz (.str "a"), .fz (.int 1), .fz (.int 7), .fz (.tup f_a17)] = some (.bl true) := by kernel_rfl
theorem rp_a17 : ((toPy (.tup f_a17)).map fun p => p.showable && decide (p.depth ≤ 60) && p.leavesShort 8 && decide (p.weight ≤ 1048576)) = some true := by kernel_rfl
def u_a2 : List D := [.str "a"]
theorem lead_a2 : callR m__law_leaders [.fz (.str "a"), .fz (.int 2)] = some (.lst u_a2) := by kernel_rfl
theorem same_a2 : neD (.tup u_a2) (.tup u_a2) = some (.bl false) := by kernel_rfl
def f_a2n : List D := [.str "a"]
theorem fp_a2n : callR m_free_patterns [.fz (.str "a"), .fz (.int 2), .fz (.non)] = some (.tup f_a2n) := by kernel_rfl
theorem fr_a2n : callR m__law_free [.fz (.str "a"), .fz (.int 2), .fz (.non)] = some (.lst f_a2n) := by kernel_rfl
theorem pw_a2n : callR m__law_powers_right [.fz (.str "a"), .fz (.int 2), .fz (.non), .fz (.tup f_a2n)] = some (.bl true) := by kernel_rfl
theorem rp_a2n : ((toPy (.tup f_a2n)).map fun p => p.showable && decide (p.depth ≤ 60) && p.leavesShort 8 && decide (p.weight ≤ 1048576)) = some true := by kernel_rfl
def f_a22 : List D := [.str "a", .str "aa"]
theorem fp_a22 : callR m_free_patterns [.fz (.str "a"), .fz (.int 2), .fz (.int 2)] = some (.tup f_a22) := by kernel_rfl
theorem fr_a22 : callR m__law_free [.fz (.str "a"), .fz (.int 2), .fz (.int 2)] = some (.lst f_a22) := by kernel_rfl
theorem pw_a22 : callR m__law_powers_right [.fz (.str "a"), .fz (.int 2), .fz (.int 2), .fz (.tup f_a22)] = some (.bl true) := by kernel_rfl
theorem rp_a22 : ((toPy (.tup f_a22)).map fun p => p.showable && decide (p.depth ≤ 60) && p.leavesShort 8 && decide (p.weight ≤ 1048576)) = some true := by kernel_rfl
def f_a23 : List D := [.str "a"]
theorem fp_a23 : callR m_free_patterns [.fz (.str "a"), .fz (.int 2), .fz (.int 3)] = some (.tup f_a23) := by kernel_rfl
theorem fr_a23 : callR m__law_free [.fz (.str "a"), .fz (.int 2), .fz (.int 3)] = some (.lst f_a23) := by kernel_rfl
theorem pw_a23 : callR m__law_powers_right [.fz (.str "a"), .fz (.int 2), .fz (.int 3), .fz (.tup f_a23)] = some (.bl true) := by kernel_rfl
theorem rp_a23 : ((toPy (.tup f_a23)).map fun p => p.showable && decide (p.depth ≤ 60) && p.leavesShort 8 && decide (p.weight ≤ 1048576)) = some true := by kernel_rfl
def f_a25 : List D := [.str "a"]
theorem fp_a25 : callR m_free_patterns [.fz (.str "a"), .fz (.int 2), .fz (.int 5)] = some (.tup f_a25) := by kernel_rfl
theorem fr_a25 : callR m__law_free [.fz (.str "a"), .fz (.int 2), .fz (.int 5)] = some (.lst f_a25) := by kernel_rfl
theorem pw_a25 : callR m__law_powers_right [.fz (.str "a"), .fz (.int 2), .fz (.int 5), .fz (.tup f_a25)] = some (.bl true) := by kernel_rfl
theorem rp_a25 : ((toPy (.tup f_a25)).map fun p => p.showable && decide (p.depth ≤ 60) && p.leavesShort 8 && decide (p.weight ≤ 1048576)) = some true := by kernel_rfl
def f_a27 : List D := [.str "a"]
theorem fp_a27 : callR m_free_patterns [.fz (.str "a"), .fz (.int 2), .fz (.int 7)] = some (.tup f_a27) := by kernel_rfl
theorem fr_a27 : callR m__law_free [.fz (.str "a"), .fz (.int 2), .fz (.int 7)] = some (.lst f_a27) := by kernel_rfl
theorem pw_a27 : callR m__law_powers_right [.fz (.str "a"), .fz (.int 2), .fz (.int 7), .fz (.tup f_a27)] = some (.bl true) := by kernel_rfl
theorem rp_a27 : ((toPy (.tup f_a27)).map fun p => p.showable && decide (p.depth ≤ 60) && p.leavesShort 8 && decide (p.weight ≤ 1048576)) = some true := by kernel_rfl
def u_a3 : List D := [.str "a"]
theorem lead_a3 : callR m__law_leaders [.fz (.str "a"), .fz (.int 3)] = some (.lst u_a3) := by kernel_rfl
theorem same_a3 : neD (.tup u_a3) (.tup u_a3) = some (.bl false) := by kernel_rfl
def f_a3n : List D := [.str "a"]
theorem fp_a3n : callR m_free_patterns [.fz (.str "a"), .fz (.int 3), .fz (.non)] = some (.tup f_a3n) := by kernel_rfl
theorem fr_a3n : callR m__law_free [.fz (.str "a"), .fz (.int 3), .fz (.non)] = some (.lst f_a3n) := by kernel_rfl
theorem pw_a3n : callR m__law_powers_right [.fz (.str "a"), .fz (.int 3), .fz (.non), .fz (.tup f_a3n)] = some (.bl true) := by kernel_rfl
theorem rp_a3n : ((toPy (.tup f_a3n)).map fun p => p.showable && decide (p.depth ≤ 60) && p.leavesShort 8 && decide (p.weight ≤ 1048576)) = some true := by kernel_rfl
def f_a32 : List D := [.str "a", .str "aa"]
theorem fp_a32 : callR m_free_patterns [.fz (.str "a"), .fz (.int 3), .fz (.int 2)] = some (.tup f_a32) := by kernel_rfl
theorem fr_a32 : callR m__law_free [.fz (.str "a"), .fz (.int 3), .fz (.int 2)] = some (.lst f_a32) := by kernel_rfl
theorem pw_a32 : callR m__law_powers_right [.fz (.str "a"), .fz (.int 3), .fz (.int 2), .fz (.tup f_a32)] = some (.bl true) := by kernel_rfl
theorem rp_a32 : ((toPy (.tup f_a32)).map fun p => p.showable && decide (p.depth ≤ 60) && p.leavesShort 8 && decide (p.weight ≤ 1048576)) = some true := by kernel_rfl
def f_a33 : List D := [.str "a", .str "aaa"]
theorem fp_a33 : callR m_free_patterns [.fz (.str "a"), .fz (.int 3), .fz (.int 3)] = some (.tup f_a33) := by kernel_rfl
theorem fr_a33 : callR m__law_free [.fz (.str "a"), .fz (.int 3), .fz (.int 3)] = some (.lst f_a33) := by kernel_rfl
theorem pw_a33 : callR m__law_powers_right [.fz (.str "a"), .fz (.int 3), .fz (.int 3), .fz (.tup f_a33)] = some (.bl true) := by kernel_rfl
theorem rp_a33 : ((toPy (.tup f_a33)).map fun p => p.showable && decide (p.depth ≤ 60) && p.leavesShort 8 && decide (p.weight ≤ 1048576)) = some true := by kernel_rfl
def f_a35 : List D := [.str "a"]
theorem fp_a35 : callR m_free_patterns [.fz (.str "a"), .fz (.int 3), .fz (.int 5)] = some (.tup f_a35) := by kernel_rfl
theorem fr_a35 : callR m__law_free [.fz (.str "a"), .fz (.int 3), .fz (.int 5)] = some (.lst f_a35) := by kernel_rfl
theorem pw_a35 : callR m__law_powers_right [.fz (.str "a"), .fz (.int 3), .fz (.int 5), .fz (.tup f_a35)] = some (.bl true) := by kernel_rfl
theorem rp_a35 : ((toPy (.tup f_a35)).map fun p => p.showable && decide (p.depth ≤ 60) && p.leavesShort 8 && decide (p.weight ≤ 1048576)) = some true := by kernel_rfl
def f_a37 : List D := [.str "a"]
theorem fp_a37 : callR m_free_patterns [.fz (.str "a"), .fz (.int 3), .fz (.int 7)] = some (.tup f_a37) := by kernel_rfl
theorem fr_a37 : callR m__law_free [.fz (.str "a"), .fz (.int 3), .fz (.int 7)] = some (.lst f_a37) := by kernel_rfl
theorem pw_a37 : callR m__law_powers_right [.fz (.str "a"), .fz (.int 3), .fz (.int 7), .fz (.tup f_a37)] = some (.bl true) := by kernel_rfl
theorem rp_a37 : ((toPy (.tup f_a37)).map fun p => p.showable && decide (p.depth ≤ 60) && p.leavesShort 8 && decide (p.weight ≤ 1048576)) = some true := by kernel_rfl
def u_a4 : List D := [.str "a"]
theorem lead_a4 : callR m__law_leaders [.fz (.str "a"), .fz (.int 4)] = some (.lst u_a4) := by kernel_rfl
theorem same_a4 : neD (.tup u_a4) (.tup u_a4) = some (.bl false) := by kernel_rfl
def f_a4n : List D := [.str "a"]
theorem fp_a4n : callR m_free_patterns [.fz (.str "a"), .fz (.int 4), .fz (.non)] = some (.tup f_a4n) := by kernel_rfl
theorem fr_a4n : callR m__law_free [.fz (.str "a"), .fz (.int 4), .fz (.non)] = some (.lst f_a4n) := by kernel_rfl
theorem pw_a4n : callR m__law_powers_right [.fz (.str "a"), .fz (.int 4), .fz (.non), .fz (.tup f_a4n)] = some (.bl true) := by kernel_rfl
theorem rp_a4n : ((toPy (.tup f_a4n)).map fun p => p.showable && decide (p.depth ≤ 60) && p.leavesShort 8 && decide (p.weight ≤ 1048576)) = some true := by kernel_rfl
def f_a42 : List D := [.str "a", .str "aa", .str "aaaa"]
theorem fp_a42 : callR m_free_patterns [.fz (.str "a"), .fz (.int 4), .fz (.int 2)] = some (.tup f_a42) := by kernel_rfl
theorem fr_a42 : callR m__law_free [.fz (.str "a"), .fz (.int 4), .fz (.int 2)] = some (.lst f_a42) := by kernel_rfl
theorem pw_a42 : callR m__law_powers_right [.fz (.str "a"), .fz (.int 4), .fz (.int 2), .fz (.tup f_a42)] = some (.bl true) := by kernel_rfl
theorem rp_a42 : ((toPy (.tup f_a42)).map fun p => p.showable && decide (p.depth ≤ 60) && p.leavesShort 8 && decide (p.weight ≤ 1048576)) = some true := by kernel_rfl
def f_a43 : List D := [.str "a", .str "aaa"]
theorem fp_a43 : callR m_free_patterns [.fz (.str "a"), .fz (.int 4), .fz (.int 3)] = some (.tup f_a43) := by kernel_rfl
theorem fr_a43 : callR m__law_free [.fz (.str "a"), .fz (.int 4), .fz (.int 3)] = some (.lst f_a43) := by kernel_rfl
theorem pw_a43 : callR m__law_powers_right [.fz (.str "a"), .fz (.int 4), .fz (.int 3), .fz (.tup f_a43)] = some (.bl true) := by kernel_rfl
theorem rp_a43 : ((toPy (.tup f_a43)).map fun p => p.showable && decide (p.depth ≤ 60) && p.leavesShort 8 && decide (p.weight ≤ 1048576)) = some true := by kernel_rfl
def f_a45 : List D := [.str "a"]
theorem fp_a45 : callR m_free_patterns [.fz (.str "a"), .fz (.int 4), .fz (.int 5)] = some (.tup f_a45) := by kernel_rfl
theorem fr_a45 : callR m__law_free [.fz (.str "a"), .fz (.int 4), .fz (.int 5)] = some (.lst f_a45) := by kernel_rfl
theorem pw_a45 : callR m__law_powers_right [.fz (.str "a"), .fz (.int 4), .fz (.int 5), .fz (.tup f_a45)] = some (.bl true) := by kernel_rfl
theorem rp_a45 : ((toPy (.tup f_a45)).map fun p => p.showable && decide (p.depth ≤ 60) && p.leavesShort 8 && decide (p.weight ≤ 1048576)) = some true := by kernel_rfl
def f_a47 : List D := [.str "a"]
theorem fp_a47 : callR m_free_patterns [.fz (.str "a"), .fz (.int 4), .fz (.int 7)] = some (.tup f_a47) := by kernel_rfl
theorem fr_a47 : callR m__law_free [.fz (.str "a"), .fz (.int 4), .fz (.int 7)] = some (.lst f_a47) := by kernel_rfl
theorem pw_a47 : callR m__law_powers_right [.fz (.str "a"), .fz (.int 4), .fz (.int 7), .fz (.tup f_a47)] = some (.bl true) := by kernel_rfl
theorem rp_a47 : ((toPy (.tup f_a47)).map fun p => p.showable && decide (p.depth ≤ 60) && p.leavesShort 8 && decide (p.weight ≤ 1048576)) = some true := by kernel_rfl
def u_a5 : List D := [.str "a"]
theorem lead_a5 : callR m__law_leaders [.fz (.str "a"), .fz (.int 5)] = some (.lst u_a5) := by kernel_rfl
theorem same_a5 : neD (.tup u_a5) (.tup u_a5) = some (.bl false) := by kernel_rfl
def f_a5n : List D := [.str "a"]
theorem fp_a5n : callR m_free_patterns [.fz (.str "a"), .fz (.int 5), .fz (.non)] = some (.tup f_a5n) := by kernel_rfl
theorem fr_a5n : callR m__law_free [.fz (.str "a"), .fz (.int 5), .fz (.non)] = some (.lst f_a5n) := by kernel_rfl
theorem pw_a5n : callR m__law_powers_right [.fz (.str "a"), .fz (.int 5), .fz (.non), .fz (.tup f_a5n)] = some (.bl true) := by kernel_rfl
theorem rp_a5n : ((toPy (.tup f_a5n)).map fun p => p.showable && decide (p.depth ≤ 60) && p.leavesShort 8 && decide (p.weight ≤ 1048576)) = some true := by kernel_rfl
def f_a52 : List D := [.str "a", .str "aa", .str "aaaa"]
theorem fp_a52 : callR m_free_patterns [.fz (.str "a"), .fz (.int 5), .fz (.int 2)] = some (.tup f_a52) := by kernel_rfl
theorem fr_a52 : callR m__law_free [.fz (.str "a"), .fz (.int 5), .fz (.int 2)] = some (.lst f_a52) := by kernel_rfl
theorem pw_a52 : callR m__law_powers_right [.fz (.str "a"), .fz (.int 5), .fz (.int 2), .fz (.tup f_a52)] = some (.bl true) := by kernel_rfl
theorem rp_a52 : ((toPy (.tup f_a52)).map fun p => p.showable && decide (p.depth ≤ 60) && p.leavesShort 8 && decide (p.weight ≤ 1048576)) = some true := by kernel_rfl
def f_a53 : List D := [.str "a", .str "aaa"]
theorem fp_a53 : callR m_free_patterns [.fz (.str "a"), .fz (.int 5), .fz (.int 3)] = some (.tup f_a53) := by kernel_rfl
theorem fr_a53 : callR m__law_free [.fz (.str "a"), .fz (.int 5), .fz (.int 3)] = some (.lst f_a53) := by kernel_rfl
theorem pw_a53 : callR m__law_powers_right [.fz (.str "a"), .fz (.int 5), .fz (.int 3), .fz (.tup f_a53)] = some (.bl true) := by kernel_rfl
theorem rp_a53 : ((toPy (.tup f_a53)).map fun p => p.showable && decide (p.depth ≤ 60) && p.leavesShort 8 && decide (p.weight ≤ 1048576)) = some true := by kernel_rfl
def f_a55 : List D := [.str "a", .str "aaaaa"]
theorem fp_a55 : callR m_free_patterns [.fz (.str "a"), .fz (.int 5), .fz (.int 5)] = some (.tup f_a55) := by kernel_rfl
theorem fr_a55 : callR m__law_free [.fz (.str "a"), .fz (.int 5), .fz (.int 5)] = some (.lst f_a55) := by kernel_rfl
theorem pw_a55 : callR m__law_powers_right [.fz (.str "a"), .fz (.int 5), .fz (.int 5), .fz (.tup f_a55)] = some (.bl true) := by kernel_rfl
theorem rp_a55 : ((toPy (.tup f_a55)).map fun p => p.showable && decide (p.depth ≤ 60) && p.leavesShort 8 && decide (p.weight ≤ 1048576)) = some true := by kernel_rfl
def f_a57 : List D := [.str "a"]
theorem fp_a57 : callR m_free_patterns [.fz (.str "a"), .fz (.int 5), .fz (.int 7)] = some (.tup f_a57) := by kernel_rfl
theorem fr_a57 : callR m__law_free [.fz (.str "a"), .fz (.int 5), .fz (.int 7)] = some (.lst f_a57) := by kernel_rfl
theorem pw_a57 : callR m__law_powers_right [.fz (.str "a"), .fz (.int 5), .fz (.int 7), .fz (.tup f_a57)] = some (.bl true) := by kernel_rfl
theorem rp_a57 : ((toPy (.tup f_a57)).map fun p => p.showable && decide (p.depth ≤ 60) && p.leavesShort 8 && decide (p.weight ≤ 1048576)) = some true := by kernel_rfl
def u_ab1 : List D := [.str "a", .str "b"]
theorem lead_ab1 : callR m__law_leaders [.fz (.str "ab"), .fz (.int 1)] = some (.lst u_ab1) := by kernel_rfl
theorem same_ab1 : neD (.tup u_ab1) (.tup u_ab1) = some (.bl false) := by kernel_rfl
def f_ab1n : List D := [.str "a", .str "b"]
theorem fp_ab1n : callR m_free_patterns [.fz (.str "ab"), .fz (.int 1), .fz (.non)] = some (.tup f_ab1n) := by kernel_rfl
theorem fr_ab1n : callR m__law_free [.fz (.str "ab"), .fz (.int 1), .fz (.non)] = some (.lst f_ab1n) := by kernel_rfl
theorem pw_ab1n : callR m__law_powers_right [.fz (.str "ab"), .fz (.int 1), .fz (.non), .fz (.tup f_ab1n)] = some (.bl true) := by kernel_rfl
theorem rp_ab1n : ((toPy (.tup f_ab1n)).map fun p => p.showable && decide (p.depth ≤ 60) && p.leavesShort 8 && decide (p.weight ≤ 1048576)) = some true := by kernel_rfl
def f_ab12 : List D := [.str "a", .str "b"]
theorem fp_ab12 : callR m_free_patterns [.fz (.str "ab"), .fz (.int 1), .fz (.int 2)] = some (.tup f_ab12) := by kernel_rfl
theorem fr_ab12 : callR m__law_free [.fz (.str "ab"), .fz (.int 1), .fz (.int 2)] = some (.lst f_ab12) := by kernel_rfl
theorem pw_ab12 : callR m__law_powers_right [.fz (.str "ab"), .fz (.int 1), .fz (.int 2), .fz (.tup f_ab12)] = some (.bl true) := by kernel_rfl
theorem rp_ab12 : ((toPy (.tup f_ab12)).map fun p => p.showable && decide (p.depth ≤ 60) && p.leavesShort 8 && decide (p.weight ≤ 1048576)) = some true := by kernel_rfl
def f_ab13 : List D := [.str "a", .str "b"]
theorem fp_ab13 : callR m_free_patterns [.fz (.str "ab"), .fz (.int 1), .fz (.int 3)] = some (.tup f_ab13) := by kernel_rfl
theorem fr_ab13 : callR m__law_free [.fz (.str "ab"), .fz (.int 1), .fz (.int 3)] = some (.lst f_ab13) := by kernel_rfl
theorem pw_ab13 : callR m__law_powers_right [.fz (.str "ab"), .fz (.int 1), .fz (.int 3), .fz (.tup f_ab13)] = some (.bl true) := by kernel_rfl
theorem rp_ab13 : ((toPy (.tup f_ab13)).map fun p => p.showable && decide (p.depth ≤ 60) && p.leavesShort 8 && decide (p.weight ≤ 1048576)) = some true := by kernel_rfl
def f_ab15 : List D := [.str "a", .str "b"]
theorem fp_ab15 : callR m_free_patterns [.fz (.str "ab"), .fz (.int 1), .fz (.int 5)] = some (.tup f_ab15) := by kernel_rfl
theorem fr_ab15 : callR m__law_free [.fz (.str "ab"), .fz (.int 1), .fz (.int 5)] = some (.lst f_ab15) := by kernel_rfl
theorem pw_ab15 : callR m__law_powers_right [.fz (.str "ab"), .fz (.int 1), .fz (.int 5), .fz (.tup f_ab15)] = some (.bl true) := by kernel_rfl
theorem rp_ab15 : ((toPy (.tup f_ab15)).map fun p => p.showable && decide (p.depth ≤ 60) && p.leavesShort 8 && decide (p.weight ≤ 1048576)) = some true := by kernel_rfl
def f_ab17 : List D := [.str "a", .str "b"]
theorem fp_ab17 : callR m_free_patterns [.fz (.str "ab"), .fz (.int 1), .fz (.int 7)] = some (.tup f_ab17) := by kernel_rfl
theorem fr_ab17 : callR m__law_free [.fz (.str "ab"), .fz (.int 1), .fz (.int 7)] = some (.lst f_ab17) := by kernel_rfl
theorem pw_ab17 : callR m__law_powers_right [.fz (.str "ab"), .fz (.int 1), .fz (.int 7), .fz (.tup f_ab17)] = some (.bl true) := by kernel_rfl
theorem rp_ab17 : ((toPy (.tup f_ab17)).map fun p => p.showable && decide (p.depth ≤ 60) && p.leavesShort 8 && decide (p.weight ≤ 1048576)) = some true := by kernel_rfl
def u_ab2 : List D := [.str "a", .str "b", .str "ab"]
theorem lead_ab2 : callR m__law_leaders [.fz (.str "ab"), .fz (.int 2)] = some (.lst u_ab2) := by kernel_rfl
theorem same_ab2 : neD (.tup u_ab2) (.tup u_ab2) = some (.bl false) := by kernel_rfl
def f_ab2n : List D := [.str "a", .str "b", .str "ab"]
theorem fp_ab2n : callR m_free_patterns [.fz (.str "ab"), .fz (.int 2), .fz (.non)] = some (.tup f_ab2n) := by kernel_rfl
theorem fr_ab2n : callR m__law_free [.fz (.str "ab"), .fz (.int 2), .fz (.non)] = some (.lst f_ab2n) := by kernel_rfl
theorem pw_ab2n : callR m__law_powers_right [.fz (.str "ab"), .fz (.int 2), .fz (.non), .fz (.tup f_ab2n)] = some (.bl true) := by kernel_rfl
theorem rp_ab2n : ((toPy (.tup f_ab2n)).map fun p => p.showable && decide (p.depth ≤ 60) && p.leavesShort 8 && decide (p.weight ≤ 1048576)) = some true := by kernel_rfl
def f_ab22 : List D := [.str "a", .str "b", .str "aa", .str "ab", .str "bb"]
theorem fp_ab22 : callR m_free_patterns [.fz (.str "ab"), .fz (.int 2), .fz (.int 2)] = some (.tup f_ab22) := by kernel_rfl
theorem fr_ab22 : callR m__law_free [.fz (.str "ab"), .fz (.int 2), .fz (.int 2)] = some (.lst f_ab22) := by kernel_rfl
theorem pw_ab22 : callR m__law_powers_right [.fz (.str "ab"), .fz (.int 2), .fz (.int 2), .fz (.tup f_ab22)] = some (.bl true) := by kernel_rfl
theorem rp_ab22 : ((toPy (.tup f_ab22)).map fun p => p.showable && decide (p.depth ≤ 60) && p.leavesShort 8 && decide (p.weight ≤ 1048576)) = some true := by kernel_rfl
def f_ab23 : List D := [.str "a", .str "b", .str "ab"]
theorem fp_ab23 : callR m_free_patterns [.fz (.str "ab"), .fz (.int 2), .fz (.int 3)] = some (.tup f_ab23) := by kernel_rfl
theorem fr_ab23 : callR m__law_free [.fz (.str "ab"), .fz (.int 2), .fz (.int 3)] = some (.lst f_ab23) := by kernel_rfl
theorem pw_ab23 : callR m__law_powers_right [.fz (.str "ab"), .fz (.int 2), .fz (.int 3), .fz (.tup f_ab23)] = some (.bl true) := by kernel_rfl
theorem rp_ab23 : ((toPy (.tup f_ab23)).map fun p => p.showable && decide (p.depth ≤ 60) && p.leavesShort 8 && decide (p.weight ≤ 1048576)) = some true := by kernel_rfl
def f_ab25 : List D := [.str "a", .str "b", .str "ab"]
theorem fp_ab25 : callR m_free_patterns [.fz (.str "ab"), .fz (.int 2), .fz (.int 5)] = some (.tup f_ab25) := by kernel_rfl
theorem fr_ab25 : callR m__law_free [.fz (.str "ab"), .fz (.int 2), .fz (.int 5)] = some (.lst f_ab25) := by kernel_rfl
theorem pw_ab25 : callR m__law_powers_right [.fz (.str "ab"), .fz (.int 2), .fz (.int 5), .fz (.tup f_ab25)] = some (.bl true) := by kernel_rfl
theorem rp_ab25 : ((toPy (.tup f_ab25)).map fun p => p.showable && decide (p.depth ≤ 60) && p.leavesShort 8 && decide (p.weight ≤ 1048576)) = some true := by kernel_rfl
def f_ab27 : List D := [.str "a", .str "b", .str "ab"]
theorem fp_ab27 : callR m_free_patterns [.fz (.str "ab"), .fz (.int 2), .fz (.int 7)] = some (.tup f_ab27) := by kernel_rfl
theorem fr_ab27 : callR m__law_free [.fz (.str "ab"), .fz (.int 2), .fz (.int 7)] = some (.lst f_ab27) := by kernel_rfl
theorem pw_ab27 : callR m__law_powers_right [.fz (.str "ab"), .fz (.int 2), .fz (.int 7), .fz (.tup f_ab27)] = some (.bl true) := by kernel_rfl
theorem rp_ab27 : ((toPy (.tup f_ab27)).map fun p => p.showable && decide (p.depth ≤ 60) && p.leavesShort 8 && decide (p.weight ≤ 1048576)) = some true := by kernel_rfl
def u_ab3 : List D := [.str "a", .str "b", .str "ab", .str "aab", .str "abb"]
theorem lead_ab3 : callR m__law_leaders [.fz (.str "ab"), .fz (.int 3)] = some (.lst u_ab3) := by kernel_rfl
theorem same_ab3 : neD (.tup u_ab3) (.tup u_ab3) = some (.bl false) := by kernel_rfl
def f_ab3n : List D := [.str "a", .str "b", .str "ab", .str "aab", .str "abb"]
theorem fp_ab3n : callR m_free_patterns [.fz (.str "ab"), .fz (.int 3), .fz (.non)] = some (.tup f_ab3n) := by kernel_rfl
theorem fr_ab3n : callR m__law_free [.fz (.str "ab"), .fz (.int 3), .fz (.non)] = some (.lst f_ab3n) := by kernel_rfl
theorem pw_ab3n : callR m__law_powers_right [.fz (.str "ab"), .fz (.int 3), .fz (.non), .fz (.tup f_ab3n)] = some (.bl true) := by kernel_rfl
theorem rp_ab3n : ((toPy (.tup f_ab3n)).map fun p => p.showable && decide (p.depth ≤ 60) && p.leavesShort 8 && decide (p.weight ≤ 1048576)) = some true := by kernel_rfl
def f_ab32 : List D := [.str "a", .str "b", .str "aa", .str "ab", .str "bb", .str "aab", .str "abb"]
theorem fp_ab32 : callR m_free_patterns [.fz (.str "ab"), .fz (.int 3), .fz (.int 2)] = some (.tup f_ab32) := by kernel_rfl
theorem fr_ab32 : callR m__law_free [.fz (.str "ab"), .fz (.int 3), .fz (.int 2)] = some (.lst f_ab32) := by kernel_rfl
theorem pw_ab32 : callR m__law_powers_right [.fz (.str "ab"), .fz (.int 3), .fz (.int 2), .fz (.tup f_ab32)] = some (.bl true) := by kernel_rfl
theorem rp_ab32 : ((toPy (.tup f_ab32)).map fun p => p.showable && decide (p.depth ≤ 60) && p.leavesShort 8 && decide (p.weight ≤ 1048576)) = some true := by kernel_rfl
def f_ab33 : List D := [.str "a", .str "b", .str "ab", .str "aaa", .str "aab", .str "abb", .str "bbb"]
theorem fp_ab33 : callR m_free_patterns [.fz (.str "ab"), .fz (.int 3), .fz (.int 3)] = some (.tup f_ab33) := by kernel_rfl
theorem fr_ab33 : callR m__law_free [.fz (.str "ab"), .fz (.int 3), .fz (.int 3)] = some (.lst f_ab33) := by kernel_rfl
theorem pw_ab33 : callR m__law_powers_right [.fz (.str "ab"), .fz (.int 3), .fz (.int 3), .fz (.tup f_ab33)] = some (.bl true) := by kernel_rfl
theorem rp_ab33 : ((toPy (.tup f_ab33)).map fun p => p.showable && decide (p.depth ≤ 60) && p.leavesShort 8 && decide (p.weight ≤ 1048576)) = some true := by kernel_rfl
def f_ab35 : List D := [.str "a", .str "b", .str "ab", .str "aab", .str "abb"]
theorem fp_ab35 : callR m_free_patterns [.fz (.str "ab"), .fz (.int 3), .fz (.int 5)] = some (.tup f_ab35) := by kernel_rfl
theorem fr_ab35 : callR m__law_free [.fz (.str "ab"), .fz (.int 3), .fz (.int 5)] = some (.lst f_ab35) := by kernel_rfl
theorem pw_ab35 : callR m__law_powers_right [.fz (.str "ab"), .fz (.int 3), .fz (.int 5), .fz (.tup f_ab35)] = some (.bl true) := by kernel_rfl
theorem rp_ab35 : ((toPy (.tup f_ab35)).map fun p => p.showable && decide (p.depth ≤ 60) && p.leavesShort 8 && decide (p.weight ≤ 1048576)) = some true := by kernel_rfl
def f_ab37 : List D := [.str "a", .str "b", .str "ab", .str "aab", .str "abb"]
theorem fp_ab37 : callR m_free_patterns [.fz (.str "ab"), .fz (.int 3), .fz (.int 7)] = some (.tup f_ab37) := by kernel_rfl
theorem fr_ab37 : callR m__law_free [.fz (.str "ab"), .fz (.int 3), .fz (.int 7)] = some (.lst f_ab37) := by kernel_rfl
theorem pw_ab37 : callR m__law_powers_right [.fz (.str "ab"), .fz (.int 3), .fz (.int 7), .fz (.tup f_ab37)] = some (.bl true) := by kernel_rfl
theorem rp_ab37 : ((toPy (.tup f_ab37)).map fun p => p.showable && decide (p.depth ≤ 60) && p.leavesShort 8 && decide (p.weight ≤ 1048576)) = some true := by kernel_rfl
def u_ab4 : List D := [.str "a", .str "b", .str "ab", .str "aab", .str "abb", .str "aaab", .str "aabb", .str "abbb"]
theorem lead_ab4 : callR m__law_leaders [.fz (.str "ab"), .fz (.int 4)] = some (.lst u_ab4) := by kernel_rfl
theorem same_ab4 : neD (.tup u_ab4) (.tup u_ab4) = some (.bl false) := by kernel_rfl
def f_ab4n : List D := [.str "a", .str "b", .str "ab", .str "aab", .str "abb", .str "aaab", .str "aabb", .str "abbb"]
theorem fp_ab4n : callR m_free_patterns [.fz (.str "ab"), .fz (.int 4), .fz (.non)] = some (.tup f_ab4n) := by kernel_rfl
theorem fr_ab4n : callR m__law_free [.fz (.str "ab"), .fz (.int 4), .fz (.non)] = some (.lst f_ab4n) := by kernel_rfl
theorem pw_ab4n : callR m__law_powers_right [.fz (.str "ab"), .fz (.int 4), .fz (.non), .fz (.tup f_ab4n)] = some (.bl true) := by kernel_rfl
theorem rp_ab4n : ((toPy (.tup f_ab4n)).map fun p => p.showable && decide (p.depth ≤ 60) && p.leavesShort 8 && decide (p.weight ≤ 1048576)) = some true := by kernel_rfl
def f_ab42 : List D := [.str "a", .str "b", .str "aa", .str "ab", .str "bb", .str "aab", .str "abb", .str "aaaa", .str "aaab", .str "aabb", .str "abab", .str "abbb", .str "bbbb"]
theorem fp_ab42 : callR m_free_patterns [.fz (.str "ab"), .fz (.int 4), .fz (.int 2)] = some (.tup f_ab42) := by kernel_rfl
theorem fr_ab42 : callR m__law_free [.fz (.str "ab"), .fz (.int 4), .fz (.int 2)] = some (.lst f_ab42) := by kernel_rfl
theorem pw_ab42 : callR m__law_powers_right [.fz (.str "ab"), .fz (.int 4), .fz (.int 2), .fz (.tup f_ab42)] = some (.bl true) := by kernel_rfl
theorem rp_ab42 : ((toPy (.tup f_ab42)).map fun p => p.showable && decide (p.depth ≤ 60) && p.leavesShort 8 && decide (p.weight ≤ 1048576)) = some true := by kernel_rfl
def f_ab43 : List D := [.str "a", .str "b", .str "ab", .str "aaa", .str "aab", .str "abb", .str "bbb", .str "aaab", .str "aabb", .str "abbb"]
theorem fp_ab43 : callR m_free_patterns [.fz (.str "ab"), .fz (.int 4), .fz (.int 3)] = some (.tup f_ab43) := by kernel_rfl
theorem fr_ab43 : callR m__law_free [.fz (.str "ab"), .fz (.int 4), .fz (.int 3)] = some (.lst f_ab43) := by kernel_rfl
theorem pw_ab43 : callR m__law_powers_right [.fz (.str "ab"), .fz (.int 4), .fz (.int 3), .fz (.tup f_ab43)] = some (.bl true) := by kernel_rfl
theorem rp_ab43 : ((toPy (.tup f_ab43)).map fun p => p.showable && decide (p.depth ≤ 60) && p.leavesShort 8 && decide (p.weight ≤ 1048576)) = some true := by kernel_rfl
def f_ab45 : List D := [.str "a", .str "b", .str "ab", .str "aab", .str "abb", .str "aaab", .str "aabb", .str "abbb"]
theorem fp_ab45 : callR m_free_patterns [.fz (.str "ab"), .fz (.int 4), .fz (.int 5)] = some (.tup f_ab45) := by kernel_rfl
theorem fr_ab45 : callR m__law_free [.fz (.str "ab"), .fz (.int 4), .fz (.int 5)] = some (.lst f_ab45) := by kernel_rfl
theorem pw_ab45 : callR m__law_powers_right [.fz (.str "ab"), .fz (.int 4), .fz (.int 5), .fz (.tup f_ab45)] = some (.bl true) := by kernel_rfl
theorem rp_ab45 : ((toPy (.tup f_ab45)).map fun p => p.showable && decide (p.depth ≤ 60) && p.leavesShort 8 && decide (p.weight ≤ 1048576)) = some true := by kernel_rfl
def f_ab47 : List D := [.str "a", .str "b", .str "ab", .str "aab", .str "abb", .str "aaab", .str "aabb", .str "abbb"]
theorem fp_ab47 : callR m_free_patterns [.fz (.str "ab"), .fz (.int 4), .fz (.int 7)] = some (.tup f_ab47) := by kernel_rfl
theorem fr_ab47 : callR m__law_free [.fz (.str "ab"), .fz (.int 4), .fz (.int 7)] = some (.lst f_ab47) := by kernel_rfl
theorem pw_ab47 : callR m__law_powers_right [.fz (.str "ab"), .fz (.int 4), .fz (.int 7), .fz (.tup f_ab47)] = some (.bl true) := by kernel_rfl
theorem rp_ab47 : ((toPy (.tup f_ab47)).map fun p => p.showable && decide (p.depth ≤ 60) && p.leavesShort 8 && decide (p.weight ≤ 1048576)) = some true := by kernel_rfl
def u_ab5 : List D := [.str "a", .str "b", .str "ab", .str "aab", .str "abb", .str "aaab", .str "aabb", .str "abbb", .str "aaaab", .str "aaabb", .str "aabab", .str "aabbb", .str "ababb", .str "abbbb"]
theorem lead_ab5 : callR m__law_leaders [.fz (.str "ab"), .fz (.int 5)] = some (.lst u_ab5) := by kernel_rfl
theorem same_ab5 : neD (.tup u_ab5) (.tup u_ab5) = some (.bl false) := by kernel_rfl
def f_ab5n : List D := [.str "a", .str "b", .str "ab", .str "aab", .str "abb", .str "aaab", .str "aabb", .str "abbb", .str "aaaab", .str "aaabb", .str "aabab", .str "aabbb", .str "ababb", .str "abbbb"]
theorem fp_ab5n : callR m_free_patterns [.fz (.str "ab"), .fz (.int 5), .fz (.non)] = some (.tup f_ab5n) := by kernel_rfl
theorem fr_ab5n : callR m__law_free [.fz (.str "ab"), .fz (.int 5), .fz (.non)] = some (.lst f_ab5n) := by kernel_rfl
theorem pw_ab5n : callR m__law_powers_right [.fz (.str "ab"), .fz (.int 5), .fz (.non), .fz (.tup f_ab5n)] = some (.bl true) := by kernel_rfl
theorem rp_ab5n : ((toPy (.tup f_ab5n)).map fun p => p.showable && decide (p.depth ≤ 60) && p.leavesShort 8 && decide (p.weight ≤ 1048576)) = some true := by kernel_rfl
def f_ab52 : List D := [.str "a", .str "b", .str "aa", .str "ab", .str "bb", .str "aab", .str "abb", .str "aaaa", .str "aaab", .str "aabb", .str "abab", .str "abbb", .str "bbbb", .str "aaaab", .str "aaabb", .str "aabab", .str "aabbb", .str "ababb", .str "abbbb"]
theorem fp_ab52 : callR m_free_patterns [.fz (.str "ab"), .fz (.int 5), .fz (.int 2)] = some (.tup f_ab52) := by kernel_rfl
theorem fr_ab52 : callR m__law_free [.fz (.str "ab"), .fz (.int 5), .fz (.int 2)] = some (.lst f_ab52) := by kernel_rfl
theorem pw_ab52 : callR m__law_powers_right [.fz (.str "ab"), .fz (.int 5), .fz (.int 2), .fz (.tup f_ab52)] = some (.bl true) := by kernel_rfl
theorem rp_ab52 : ((toPy (.tup f_ab52)).map fun p => p.showable && decide (p.depth ≤ 60) && p.leavesShort 8 && decide (p.weight ≤ 1048576)) = some true := by kernel_rfl
def f_ab53 : List D := [.str "a", .str "b", .str "ab", .str "aaa", .str "aab", .str "abb", .str "bbb", .str "aaab", .str "aabb", .str "abbb", .str "aaaab", .str "aaabb", .str "aabab", .str "aabbb", .str "ababb", .str "abbbb"]
theorem fp_ab53 : callR m_free_patterns [.fz (.str "ab"), .fz (.int 5), .fz (.int 3)] = some (.tup f_ab53) := by kernel_rfl
theorem fr_ab53 : callR m__law_free [.fz (.str "ab"), .fz (.int 5), .fz (.int 3)] = some (.lst f_ab53) := by kernel_rfl
theorem pw_ab53 : callR m__law_powers_right [.fz (.str "ab"), .fz (.int 5), .fz (.int 3), .fz (.tup f_ab53)] = some (.bl true) := by kernel_rfl
theorem rp_ab53 : ((toPy (.tup f_ab53)).map fun p => p.showable && decide (p.depth ≤ 60) && p.leavesShort 8 && decide (p.weight ≤ 1048576)) = some true := by kernel_rfl
def f_ab55 : List D := [.str "a", .str "b", .str "ab", .str "aab", .str "abb", .str "aaab", .str "aabb", .str "abbb", .str "aaaaa", .str "aaaab", .str "aaabb", .str "aabab", .str "aabbb", .str "ababb", .str "abbbb", .str "bbbbb"]
theorem fp_ab55 : callR m_free_patterns [.fz (.str "ab"), .fz (.int 5), .fz (.int 5)] = some (.tup f_ab55) := by kernel_rfl
theorem fr_ab55 : callR m__law_free [.fz (.str "ab"), .fz (.int 5), .fz (.int 5)] = some (.lst f_ab55) := by kernel_rfl
theorem pw_ab55 : callR m__law_powers_right [.fz (.str "ab"), .fz (.int 5), .fz (.int 5), .fz (.tup f_ab55)] = some (.bl true) := by kernel_rfl
theorem rp_ab55 : ((toPy (.tup f_ab55)).map fun p => p.showable && decide (p.depth ≤ 60) && p.leavesShort 8 && decide (p.weight ≤ 1048576)) = some true := by kernel_rfl
def f_ab57 : List D := [.str "a", .str "b", .str "ab", .str "aab", .str "abb", .str "aaab", .str "aabb", .str "abbb", .str "aaaab", .str "aaabb", .str "aabab", .str "aabbb", .str "ababb", .str "abbbb"]
theorem fp_ab57 : callR m_free_patterns [.fz (.str "ab"), .fz (.int 5), .fz (.int 7)] = some (.tup f_ab57) := by kernel_rfl
theorem fr_ab57 : callR m__law_free [.fz (.str "ab"), .fz (.int 5), .fz (.int 7)] = some (.lst f_ab57) := by kernel_rfl
theorem pw_ab57 : callR m__law_powers_right [.fz (.str "ab"), .fz (.int 5), .fz (.int 7), .fz (.tup f_ab57)] = some (.bl true) := by kernel_rfl
theorem rp_ab57 : ((toPy (.tup f_ab57)).map fun p => p.showable && decide (p.depth ≤ 60) && p.leavesShort 8 && decide (p.weight ≤ 1048576)) = some true := by kernel_rfl
def u_xy1 : List D := [.str "x", .str "y"]
theorem lead_xy1 : callR m__law_leaders [.fz (.str "xy"), .fz (.int 1)] = some (.lst u_xy1) := by kernel_rfl
theorem same_xy1 : neD (.tup u_xy1) (.tup u_xy1) = some (.bl false) := by kernel_rfl
def f_xy1n : List D := [.str "x", .str "y"]
theorem fp_xy1n : callR m_free_patterns [.fz (.str "xy"), .fz (.int 1), .fz (.non)] = some (.tup f_xy1n) := by kernel_rfl
theorem fr_xy1n : callR m__law_free [.fz (.str "xy"), .fz (.int 1), .fz (.non)] = some (.lst f_xy1n) := by kernel_rfl
theorem pw_xy1n : callR m__law_powers_right [.fz (.str "xy"), .fz (.int 1), .fz (.non), .fz (.tup f_xy1n)] = some (.bl true) := by kernel_rfl
theorem rp_xy1n : ((toPy (.tup f_xy1n)).map fun p => p.showable && decide (p.depth ≤ 60) && p.leavesShort 8 && decide (p.weight ≤ 1048576)) = some true := by kernel_rfl
def f_xy12 : List D := [.str "x", .str "y"]
theorem fp_xy12 : callR m_free_patterns [.fz (.str "xy"), .fz (.int 1), .fz (.int 2)] = some (.tup f_xy12) := by kernel_rfl
theorem fr_xy12 : callR m__law_free [.fz (.str "xy"), .fz (.int 1), .fz (.int 2)] = some (.lst f_xy12) := by kernel_rfl
theorem pw_xy12 : callR m__law_powers_right [.fz (.str "xy"), .fz (.int 1), .fz (.int 2), .fz (.tup f_xy12)] = some (.bl true) := by kernel_rfl
theorem rp_xy12 : ((toPy (.tup f_xy12)).map fun p => p.showable && decide (p.depth ≤ 60) && p.leavesShort 8 && decide (p.weight ≤ 1048576)) = some true := by kernel_rfl
def f_xy13 : List D := [.str "x", .str "y"]
theorem fp_xy13 : callR m_free_patterns [.fz (.str "xy"), .fz (.int 1), .fz (.int 3)] = some (.tup f_xy13) := by kernel_rfl
theorem fr_xy13 : callR m__law_free [.fz (.str "xy"), .fz (.int 1), .fz (.int 3)] = some (.lst f_xy13) := by kernel_rfl
theorem pw_xy13 : callR m__law_powers_right [.fz (.str "xy"), .fz (.int 1), .fz (.int 3), .fz (.tup f_xy13)] = some (.bl true) := by kernel_rfl
theorem rp_xy13 : ((toPy (.tup f_xy13)).map fun p => p.showable && decide (p.depth ≤ 60) && p.leavesShort 8 && decide (p.weight ≤ 1048576)) = some true := by kernel_rfl
def f_xy15 : List D := [.str "x", .str "y"]
theorem fp_xy15 : callR m_free_patterns [.fz (.str "xy"), .fz (.int 1), .fz (.int 5)] = some (.tup f_xy15) := by kernel_rfl
theorem fr_xy15 : callR m__law_free [.fz (.str "xy"), .fz (.int 1), .fz (.int 5)] = some (.lst f_xy15) := by kernel_rfl
theorem pw_xy15 : callR m__law_powers_right [.fz (.str "xy"), .fz (.int 1), .fz (.int 5), .fz (.tup f_xy15)] = some (.bl true) := by kernel_rfl
theorem rp_xy15 : ((toPy (.tup f_xy15)).map fun p => p.showable && decide (p.depth ≤ 60) && p.leavesShort 8 && decide (p.weight ≤ 1048576)) = some true := by kernel_rfl
def f_xy17 : List D := [.str "x", .str "y"]
theorem fp_xy17 : callR m_free_patterns [.fz (.str "xy"), .fz (.int 1), .fz (.int 7)] = some (.tup f_xy17) := by kernel_rfl
theorem fr_xy17 : callR m__law_free [.fz (.str "xy"), .fz (.int 1), .fz (.int 7)] = some (.lst f_xy17) := by kernel_rfl
theorem pw_xy17 : callR m__law_powers_right [.fz (.str "xy"), .fz (.int 1), .fz (.int 7), .fz (.tup f_xy17)] = some (.bl true) := by kernel_rfl
theorem rp_xy17 : ((toPy (.tup f_xy17)).map fun p => p.showable && decide (p.depth ≤ 60) && p.leavesShort 8 && decide (p.weight ≤ 1048576)) = some true := by kernel_rfl
def u_xy2 : List D := [.str "x", .str "y", .str "xy"]
theorem lead_xy2 : callR m__law_leaders [.fz (.str "xy"), .fz (.int 2)] = some (.lst u_xy2) := by kernel_rfl
theorem same_xy2 : neD (.tup u_xy2) (.tup u_xy2) = some (.bl false) := by kernel_rfl
def f_xy2n : List D := [.str "x", .str "y", .str "xy"]
theorem fp_xy2n : callR m_free_patterns [.fz (.str "xy"), .fz (.int 2), .fz (.non)] = some (.tup f_xy2n) := by kernel_rfl
theorem fr_xy2n : callR m__law_free [.fz (.str "xy"), .fz (.int 2), .fz (.non)] = some (.lst f_xy2n) := by kernel_rfl
theorem pw_xy2n : callR m__law_powers_right [.fz (.str "xy"), .fz (.int 2), .fz (.non), .fz (.tup f_xy2n)] = some (.bl true) := by kernel_rfl
theorem rp_xy2n : ((toPy (.tup f_xy2n)).map fun p => p.showable && decide (p.depth ≤ 60) && p.leavesShort 8 && decide (p.weight ≤ 1048576)) = some true := by kernel_rfl
def f_xy22 : List D := [.str "x", .str "y", .str "xx", .str "xy", .str "yy"]
theorem fp_xy22 : callR m_free_patterns [.fz (.str "xy"), .fz (.int 2), .fz (.int 2)] = some (.tup f_xy22) := by kernel_rfl
theorem fr_xy22 : callR m__law_free [.fz (.str "xy"), .fz (.int 2), .fz (.int 2)] = some (.lst f_xy22) := by kernel_rfl
theorem pw_xy22 : callR m__law_powers_right [.fz (.str "xy"), .fz (.int 2), .fz (.int 2), .fz (.tup f_xy22)] = some (.bl true) := by kernel_rfl
theorem rp_xy22 : ((toPy (.tup f_xy22)).map fun p => p.showable && decide (p.depth ≤ 60) && p.leavesShort 8 && decide (p.weight ≤ 1048576)) = some true := by kernel_rfl
def f_xy23 : List D := [.str "x", .str "y", .str "xy"]
theorem fp_xy23 : callR m_free_patterns [.fz (.str "xy"), .fz (.int 2), .fz (.int 3)] = some (.tup f_xy23) := by kernel_rfl
theorem fr_xy23 : callR m__law_free [.fz (.str "xy"), .fz (.int 2), .fz (.int 3)] = some (.lst f_xy23) := by kernel_rfl
theorem pw_xy23 : callR m__law_powers_right [.fz (.str "xy"), .fz (.int 2), .fz (.int 3), .fz (.tup f_xy23)] = some (.bl true) := by kernel_rfl
theorem rp_xy23 : ((toPy (.tup f_xy23)).map fun p => p.showable && decide (p.depth ≤ 60) && p.leavesShort 8 && decide (p.weight ≤ 1048576)) = some true := by kernel_rfl
def f_xy25 : List D := [.str "x", .str "y", .str "xy"]
theorem fp_xy25 : callR m_free_patterns [.fz (.str "xy"), .fz (.int 2), .fz (.int 5)] = some (.tup f_xy25) := by kernel_rfl
theorem fr_xy25 : callR m__law_free [.fz (.str "xy"), .fz (.int 2), .fz (.int 5)] = some (.lst f_xy25) := by kernel_rfl
theorem pw_xy25 : callR m__law_powers_right [.fz (.str "xy"), .fz (.int 2), .fz (.int 5), .fz (.tup f_xy25)] = some (.bl true) := by kernel_rfl
theorem rp_xy25 : ((toPy (.tup f_xy25)).map fun p => p.showable && decide (p.depth ≤ 60) && p.leavesShort 8 && decide (p.weight ≤ 1048576)) = some true := by kernel_rfl
def f_xy27 : List D := [.str "x", .str "y", .str "xy"]
theorem fp_xy27 : callR m_free_patterns [.fz (.str "xy"), .fz (.int 2), .fz (.int 7)] = some (.tup f_xy27) := by kernel_rfl
theorem fr_xy27 : callR m__law_free [.fz (.str "xy"), .fz (.int 2), .fz (.int 7)] = some (.lst f_xy27) := by kernel_rfl
theorem pw_xy27 : callR m__law_powers_right [.fz (.str "xy"), .fz (.int 2), .fz (.int 7), .fz (.tup f_xy27)] = some (.bl true) := by kernel_rfl
theorem rp_xy27 : ((toPy (.tup f_xy27)).map fun p => p.showable && decide (p.depth ≤ 60) && p.leavesShort 8 && decide (p.weight ≤ 1048576)) = some true := by kernel_rfl
def u_xy3 : List D := [.str "x", .str "y", .str "xy", .str "xxy", .str "xyy"]
theorem lead_xy3 : callR m__law_leaders [.fz (.str "xy"), .fz (.int 3)] = some (.lst u_xy3) := by kernel_rfl
theorem same_xy3 : neD (.tup u_xy3) (.tup u_xy3) = some (.bl false) := by kernel_rfl
def f_xy3n : List D := [.str "x", .str "y", .str "xy", .str "xxy", .str "xyy"]
theorem fp_xy3n : callR m_free_patterns [.fz (.str "xy"), .fz (.int 3), .fz (.non)] = some (.tup f_xy3n) := by kernel_rfl
theorem fr_xy3n : callR m__law_free [.fz (.str "xy"), .fz (.int 3), .fz (.non)] = some (.lst f_xy3n) := by kernel_rfl
theorem pw_xy3n : callR m__law_powers_right [.fz (.str "xy"), .fz (.int 3), .fz (.non), .fz (.tup f_xy3n)] = some (.bl true) := by kernel_rfl
theorem rp_xy3n : ((toPy (.tup f_xy3n)).map fun p => p.showable && decide (p.depth ≤ 60) && p.leavesShort 8 && decide (p.weight ≤ 1048576)) = some true := by kernel_rfl
def f_xy32 : List D := [.str "x", .str "y", .str "xx", .str "xy", .str "yy", .str "xxy", .str "xyy"]
theorem fp_xy32 : callR m_free_patterns [.fz (.str "xy"), .fz (.int 3), .fz (.int 2)] = some (.tup f_xy32) := by kernel_rfl
theorem fr_xy32 : callR m__law_free [.fz (.str "xy"), .fz (.int 3), .fz (.int 2)] = some (.lst f_xy32) := by kernel_rfl
theorem pw_xy32 : callR m__law_powers_right [.fz (.str "xy"), .fz (.int 3), .fz (.int 2), .fz (.tup f_xy32)] = some (.bl true) := by kernel_rfl
theorem rp_xy32 : ((toPy (.tup f_xy32)).map fun p => p.showable && decide (p.depth ≤ 60) && p.leavesShort 8 && decide (p.weight ≤ 1048576)) = some true := by kernel_rfl
def f_xy33 : List D := [.str "x", .str "y", .str "xy", .str "xxx", .str "xxy", .str "xyy", .str "yyy"]
theorem fp_xy33 : callR m_free_patterns [.fz (.str "xy"), .fz (.int 3), .fz (.int 3)] = some (.tup f_xy33) := by kernel_rfl
theorem fr_xy33 : callR m__law_free [.fz (.str "xy"), .fz (.int 3), .fz (.int 3)] = some (.lst f_xy33) := by kernel_rfl
theorem pw_xy33 : callR m__law_powers_right [.fz (.str "xy"), .fz (.int 3), .fz (.int 3), .fz (.tup f_xy33)] = some (.bl true) := by kernel_rfl
theorem rp_xy33 : ((toPy (.tup f_xy33)).map fun p => p.showable && decide (p.depth ≤ 60) && p.leavesShort 8 && decide (p.weight ≤ 1048576)) = some true := by kernel_rfl
def f_xy35 : List D := [.str "x", .str "y", .str "xy", .str "xxy", .str "xyy"]
theorem fp_xy35 : callR m_free_patterns [.fz (.str "xy"), .fz (.int 3), .fz (.int 5)] = some (.tup f_xy35) := by kernel_rfl
theorem fr_xy35 : callR m__law_free [.fz (.str "xy"), .fz (.int 3), .fz (.int 5)] = some (.lst f_xy35) := by kernel_rfl
theorem pw_xy35 : callR m__law_powers_right [.fz (.str "xy"), .fz (.int 3), .fz (.int 5), .fz (.tup f_xy35)] = some (.bl true) := by kernel_rfl
theorem rp_xy35 : ((toPy (.tup f_xy35)).map fun p => p.showable && decide (p.depth ≤ 60) && p.leavesShort 8 && decide (p.weight ≤ 1048576)) = some true := by kernel_rfl
def f_xy37 : List D := [.str "x", .str "y", .str "xy", .str "xxy", .str "xyy"]
theorem fp_xy37 : callR m_free_patterns [.fz (.str "xy"), .fz (.int 3), .fz (.int 7)] = some (.tup f_xy37) := by kernel_rfl
theorem fr_xy37 : callR m__law_free [.fz (.str "xy"), .fz (.int 3), .fz (.int 7)] = some (.lst f_xy37) := by kernel_rfl
theorem pw_xy37 : callR m__law_powers_right [.fz (.str "xy"), .fz (.int 3), .fz (.int 7), .fz (.tup f_xy37)] = some (.bl true) := by kernel_rfl
theorem rp_xy37 : ((toPy (.tup f_xy37)).map fun p => p.showable && decide (p.depth ≤ 60) && p.leavesShort 8 && decide (p.weight ≤ 1048576)) = some true := by kernel_rfl
def u_xy4 : List D := [.str "x", .str "y", .str "xy", .str "xxy", .str "xyy", .str "xxxy", .str "xxyy", .str "xyyy"]
theorem lead_xy4 : callR m__law_leaders [.fz (.str "xy"), .fz (.int 4)] = some (.lst u_xy4) := by kernel_rfl
theorem same_xy4 : neD (.tup u_xy4) (.tup u_xy4) = some (.bl false) := by kernel_rfl
def f_xy4n : List D := [.str "x", .str "y", .str "xy", .str "xxy", .str "xyy", .str "xxxy", .str "xxyy", .str "xyyy"]
theorem fp_xy4n : callR m_free_patterns [.fz (.str "xy"), .fz (.int 4), .fz (.non)] = some (.tup f_xy4n) := by kernel_rfl
theorem fr_xy4n : callR m__law_free [.fz (.str "xy"), .fz (.int 4), .fz (.non)] = some (.lst f_xy4n) := by kernel_rfl
theorem pw_xy4n : callR m__law_powers_right [.fz (.str "xy"), .fz (.int 4), .fz (.non), .fz (.tup f_xy4n)] = some (.bl true) := by kernel_rfl
theorem rp_xy4n : ((toPy (.tup f_xy4n)).map fun p => p.showable && decide (p.depth ≤ 60) && p.leavesShort 8 && decide (p.weight ≤ 1048576)) = some true := by kernel_rfl
def f_xy42 : List D := [.str "x", .str "y", .str "xx", .str "xy", .str "yy", .str "xxy", .str "xyy", .str "xxxx", .str "xxxy", .str "xxyy", .str "xyxy", .str "xyyy", .str "yyyy"]
theorem fp_xy42 : callR m_free_patterns [.fz (.str "xy"), .fz (.int 4), .fz (.int 2)] = some (.tup f_xy42) := by kernel_rfl
theorem fr_xy42 : callR m__law_free [.fz (.str "xy"), .fz (.int 4), .fz (.int 2)] = some (.lst f_xy42) := by kernel_rfl
theorem pw_xy42 : callR m__law_powers_right [.fz (.str "xy"), .fz (.int 4), .fz (.int 2), .fz (.tup f_xy42)] = some (.bl true) := by kernel_rfl
theorem rp_xy42 : ((toPy (.tup f_xy42)).map fun p => p.showable && decide (p.depth ≤ 60) && p.leavesShort 8 && decide (p.weight ≤ 1048576)) = some true := by kernel_rfl
def f_xy43 : List D := [.str "x", .str "y", .str "xy", .str "xxx", .str "xxy", .str "xyy", .str "yyy", .str "xxxy", .str "xxyy", .str "xyyy"]
theorem fp_xy43 : callR m_free_patterns [.fz (.str "xy"), .fz (.int 4), .fz (.int 3)] = some (.tup f_xy43) := by kernel_rfl
theorem fr_xy43 : callR m__law_free [.fz (.str "xy"), .fz (.int 4), .fz (.int 3)] = some (.lst f_xy43) := by kernel_rfl
theorem pw_xy43 : callR m__law_powers_right [.fz (.str "xy"), .fz (.int 4), .fz (.int 3), .fz (.tup f_xy43)] = some (.bl true) := by kernel_rfl
theorem rp_xy43 : ((toPy (.tup f_xy43)).map fun p => p.showable && decide (p.depth ≤ 60) && p.leavesShort 8 && decide (p.weight ≤ 1048576)) = some true := by kernel_rfl
def f_xy45 : List D := [.str "x", .str "y", .str "xy", .str "xxy", .str "xyy", .str "xxxy", .str "xxyy", .str "xyyy"]
theorem fp_xy45 : callR m_free_patterns [.fz (.str "xy"), .fz (.int 4), .fz (.int 5)] = some (.tup f_xy45) := by kernel_rfl
theorem fr_xy45 : callR m__law_free [.fz (.str "xy"), .fz (.int 4), .fz (.int 5)] = some (.lst f_xy45) := by kernel_rfl
theorem pw_xy45 : callR m__law_powers_right [.fz (.str "xy"), .fz (.int 4), .fz (.int 5), .fz (.tup f_xy45)] = some (.bl true) := by kernel_rfl
theorem rp_xy45 : ((toPy (.tup f_xy45)).map fun p => p.showable && decide (p.depth ≤ 60) && p.leavesShort 8 && decide (p.weight ≤ 1048576)) = some true := by kernel_rfl
def f_xy47 : List D := [.str "x", .str "y", .str "xy", .str "xxy", .str "xyy", .str "xxxy", .str "xxyy", .str "xyyy"]
theorem fp_xy47 : callR m_free_patterns [.fz (.str "xy"), .fz (.int 4), .fz (.int 7)] = some (.tup f_xy47) := by kernel_rfl
theorem fr_xy47 : callR m__law_free [.fz (.str "xy"), .fz (.int 4), .fz (.int 7)] = some (.lst f_xy47) := by kernel_rfl
theorem pw_xy47 : callR m__law_powers_right [.fz (.str "xy"), .fz (.int 4), .fz (.int 7), .fz (.tup f_xy47)] = some (.bl true) := by kernel_rfl
theorem rp_xy47 : ((toPy (.tup f_xy47)).map fun p => p.showable && decide (p.depth ≤ 60) && p.leavesShort 8 && decide (p.weight ≤ 1048576)) = some true := by kernel_rfl
def u_xy5 : List D := [.str "x", .str "y", .str "xy", .str "xxy", .str "xyy", .str "xxxy", .str "xxyy", .str "xyyy", .str "xxxxy", .str "xxxyy", .str "xxyxy", .str "xxyyy", .str "xyxyy", .str "xyyyy"]
theorem lead_xy5 : callR m__law_leaders [.fz (.str "xy"), .fz (.int 5)] = some (.lst u_xy5) := by kernel_rfl
theorem same_xy5 : neD (.tup u_xy5) (.tup u_xy5) = some (.bl false) := by kernel_rfl
def f_xy5n : List D := [.str "x", .str "y", .str "xy", .str "xxy", .str "xyy", .str "xxxy", .str "xxyy", .str "xyyy", .str "xxxxy", .str "xxxyy", .str "xxyxy", .str "xxyyy", .str "xyxyy", .str "xyyyy"]
theorem fp_xy5n : callR m_free_patterns [.fz (.str "xy"), .fz (.int 5), .fz (.non)] = some (.tup f_xy5n) := by kernel_rfl
theorem fr_xy5n : callR m__law_free [.fz (.str "xy"), .fz (.int 5), .fz (.non)] = some (.lst f_xy5n) := by kernel_rfl
theorem pw_xy5n : callR m__law_powers_right [.fz (.str "xy"), .fz (.int 5), .fz (.non), .fz (.tup f_xy5n)] = some (.bl true) := by kernel_rfl
theorem rp_xy5n : ((toPy (.tup f_xy5n)).map fun p => p.showable && decide (p.depth ≤ 60) && p.leavesShort 8 && decide (p.weight ≤ 1048576)) = some true := by kernel_rfl
def f_xy52 : List D := [.str "x", .str "y", .str "xx", .str "xy", .str "yy", .str "xxy", .str "xyy", .str "xxxx", .str "xxxy", .str "xxyy", .str "xyxy", .str "xyyy", .str "yyyy", .str "xxxxy", .str "xxxyy", .str "xxyxy", .str "xxyyy", .str "xyxyy", .str "xyyyy"]
theorem fp_xy52 : callR m_free_patterns [.fz (.str "xy"), .fz (.int 5), .fz (.int 2)] = some (.tup f_xy52) := by kernel_rfl
theorem fr_xy52 : callR m__law_free [.fz (.str "xy"), .fz (.int 5), .fz (.int 2)] = some (.lst f_xy52) := by kernel_rfl
theorem pw_xy52 : callR m__law_powers_right [.fz (.str "xy"), .fz (.int 5), .fz (.int 2), .fz (.tup f_xy52)] = some (.bl true) := by kernel_rfl
theorem rp_xy52 : ((toPy (.tup f_xy52)).map fun p => p.showable && decide (p.depth ≤ 60) && p.leavesShort 8 && decide (p.weight ≤ 1048576)) = some true := by kernel_rfl
def f_xy53 : List D := [.str "x", .str "y", .str "xy", .str "xxx", .str "xxy", .str "xyy", .str "yyy", .str "xxxy", .str "xxyy", .str "xyyy", .str "xxxxy", .str "xxxyy", .str "xxyxy", .str "xxyyy", .str "xyxyy", .str "xyyyy"]
theorem fp_xy53 : callR m_free_patterns [.fz (.str "xy"), .fz (.int 5), .fz (.int 3)] = some (.tup f_xy53) := by kernel_rfl
theorem fr_xy53 : callR m__law_free [.fz (.str "xy"), .fz (.int 5), .fz (.int 3)] = some (.lst f_xy53) := by kernel_rfl
theorem pw_xy53 : callR m__law_powers_right [.fz (.str "xy"), .fz (.int 5), .fz (.int 3), .fz (.tup f_xy53)] = some (.bl true) := by kernel_rfl
theorem rp_xy53 : ((toPy (.tup f_xy53)).map fun p => p.showable && decide (p.depth ≤ 60) && p.leavesShort 8 && decide (p.weight ≤ 1048576)) = some true := by kernel_rfl
def f_xy55 : List D := [.str "x", .str "y", .str "xy", .str "xxy", .str "xyy", .str "xxxy", .str "xxyy", .str "xyyy", .str "xxxxx", .str "xxxxy", .str "xxxyy", .str "xxyxy", .str "xxyyy", .str "xyxyy", .str "xyyyy", .str "yyyyy"]
theorem fp_xy55 : callR m_free_patterns [.fz (.str "xy"), .fz (.int 5), .fz (.int 5)] = some (.tup f_xy55) := by kernel_rfl
theorem fr_xy55 : callR m__law_free [.fz (.str "xy"), .fz (.int 5), .fz (.int 5)] = some (.lst f_xy55) := by kernel_rfl
theorem pw_xy55 : callR m__law_powers_right [.fz (.str "xy"), .fz (.int 5), .fz (.int 5), .fz (.tup f_xy55)] = some (.bl true) := by kernel_rfl
theorem rp_xy55 : ((toPy (.tup f_xy55)).map fun p => p.showable && decide (p.depth ≤ 60) && p.leavesShort 8 && decide (p.weight ≤ 1048576)) = some true := by kernel_rfl
def f_xy57 : List D := [.str "x", .str "y", .str "xy", .str "xxy", .str "xyy", .str "xxxy", .str "xxyy", .str "xyyy", .str "xxxxy", .str "xxxyy", .str "xxyxy", .str "xxyyy", .str "xyxyy", .str "xyyyy"]
theorem fp_xy57 : callR m_free_patterns [.fz (.str "xy"), .fz (.int 5), .fz (.int 7)] = some (.tup f_xy57) := by kernel_rfl
theorem fr_xy57 : callR m__law_free [.fz (.str "xy"), .fz (.int 5), .fz (.int 7)] = some (.lst f_xy57) := by kernel_rfl
theorem pw_xy57 : callR m__law_powers_right [.fz (.str "xy"), .fz (.int 5), .fz (.int 7), .fz (.tup f_xy57)] = some (.bl true) := by kernel_rfl
theorem rp_xy57 : ((toPy (.tup f_xy57)).map fun p => p.showable && decide (p.depth ≤ 60) && p.leavesShort 8 && decide (p.weight ≤ 1048576)) = some true := by kernel_rfl
def u_abc1 : List D := [.str "a", .str "b", .str "c"]
theorem lead_abc1 : callR m__law_leaders [.fz (.str "abc"), .fz (.int 1)] = some (.lst u_abc1) := by kernel_rfl
theorem same_abc1 : neD (.tup u_abc1) (.tup u_abc1) = some (.bl false) := by kernel_rfl
def f_abc1n : List D := [.str "a", .str "b", .str "c"]
theorem fp_abc1n : callR m_free_patterns [.fz (.str "abc"), .fz (.int 1), .fz (.non)] = some (.tup f_abc1n) := by kernel_rfl
theorem fr_abc1n : callR m__law_free [.fz (.str "abc"), .fz (.int 1), .fz (.non)] = some (.lst f_abc1n) := by kernel_rfl
theorem pw_abc1n : callR m__law_powers_right [.fz (.str "abc"), .fz (.int 1), .fz (.non), .fz (.tup f_abc1n)] = some (.bl true) := by kernel_rfl
theorem rp_abc1n : ((toPy (.tup f_abc1n)).map fun p => p.showable && decide (p.depth ≤ 60) && p.leavesShort 8 && decide (p.weight ≤ 1048576)) = some true := by kernel_rfl
def f_abc12 : List D := [.str "a", .str "b", .str "c"]
theorem fp_abc12 : callR m_free_patterns [.fz (.str "abc"), .fz (.int 1), .fz (.int 2)] = some (.tup f_abc12) := by kernel_rfl
theorem fr_abc12 : callR m__law_free [.fz (.str "abc"), .fz (.int 1), .fz (.int 2)] = some (.lst f_abc12) := by kernel_rfl
theorem pw_abc12 : callR m__law_powers_right [.fz (.str "abc"), .fz (.int 1), .fz (.int 2), .fz (.tup f_abc12)] = some (.bl true) := by kernel_rfl
theorem rp_abc12 : ((toPy (.tup f_abc12)).map fun p => p.showable && decide (p.depth ≤ 60) && p.leavesShort 8 && decide (p.weight ≤ 1048576)) = some true := by kernel_rfl
def f_abc13 : List D := [.str "a", .str "b", .str "c"]
theorem fp_abc13 : callR m_free_patterns [.fz (.str "abc"), .fz (.int 1), .fz (.int 3)] = some (.tup f_abc13) := by kernel_rfl
theorem fr_abc13 : callR m__law_free [.fz (.str "abc"), .fz (.int 1), .fz (.int 3)] = some (.lst f_abc13) := by kernel_rfl
theorem pw_abc13 : callR m__law_powers_right [.fz (.str "abc"), .fz (.int 1), .fz (.int 3), .fz (.tup f_abc13)] = some (.bl true) := by kernel_rfl
theorem rp_abc13 : ((toPy (.tup f_abc13)).map fun p => p.showable && decide (p.depth ≤ 60) && p.leavesShort 8 && decide (p.weight ≤ 1048576)) = some true := by kernel_rfl
def f_abc15 : List D := [.str "a", .str "b", .str "c"]
theorem fp_abc15 : callR m_free_patterns [.fz (.str "abc"), .fz (.int 1), .fz (.int 5)] = some (.tup f_abc15) := by kernel_rfl
theorem fr_abc15 : callR m__law_free [.fz (.str "abc"), .fz (.int 1), .fz (.int 5)] = some (.lst f_abc15) := by kernel_rfl
theorem pw_abc15 : callR m__law_powers_right [.fz (.str "abc"), .fz (.int 1), .fz (.int 5), .fz (.tup f_abc15)] = some (.bl true) := by kernel_rfl
theorem rp_abc15 : ((toPy (.tup f_abc15)).map fun p => p.showable && decide (p.depth ≤ 60) && p.leavesShort 8 && decide (p.weight ≤ 1048576)) = some true := by kernel_rfl
def f_abc17 : List D := [.str "a", .str "b", .str "c"]
theorem fp_abc17 : callR m_free_patterns [.fz (.str "abc"), .fz (.int 1), .fz (.int 7)] = some (.tup f_abc17) := by kernel_rfl
theorem fr_abc17 : callR m__law_free [.fz (.str "abc"), .fz (.int 1), .fz (.int 7)] = some (.lst f_abc17) := by kernel_rfl
theorem pw_abc17 : callR m__law_powers_right [.fz (.str "abc"), .fz (.int 1), .fz (.int 7), .fz (.tup f_abc17)] = some (.bl true) := by kernel_rfl
theorem rp_abc17 : ((toPy (.tup f_abc17)).map fun p => p.showable && decide (p.depth ≤ 60) && p.leavesShort 8 && decide (p.weight ≤ 1048576)) = some true := by kernel_rfl
def u_abc2 : List D := [.str "a", .str "b", .str "c", .str "ab", .str "ac", .str "bc"]
theorem lead_abc2 : callR m__law_leaders [.fz (.str "abc"), .fz (.int 2)] = some (.lst u_abc2) := by kernel_rfl
theorem same_abc2 : neD (.tup u_abc2) (.tup u_abc2) = some (.bl false) := by kernel_rfl
def f_abc2n : List D := [.str "a", .str "b", .str "c", .str "ab", .str "ac", .str "bc"]
theorem fp_abc2n : callR m_free_patterns [.fz (.str "abc"), .fz (.int 2), .fz (.non)] = some (.tup f_abc2n) := by kernel_rfl
theorem fr_abc2n : callR m__law_free [.fz (.str "abc"), .fz (.int 2), .fz (.non)] = some (.lst f_abc2n) := by kernel_rfl
theorem pw_abc2n : callR m__law_powers_right [.fz (.str "abc"), .fz (.int 2), .fz (.non), .fz (.tup f_abc2n)] = some (.bl true) := by kernel_rfl
theorem rp_abc2n : ((toPy (.tup f_abc2n)).map fun p => p.showable && decide (p.depth ≤ 60) && p.leavesShort 8 && decide (p.weight ≤ 1048576)) = some true := by kernel_rfl
def f_abc22 : List D := [.str "a", .str "b", .str "c", .str "aa", .str "ab", .str "ac", .str "bb", .str "bc", .str "cc"]
theorem fp_abc22 : callR m_free_patterns [.fz (.str "abc"), .fz (.int 2), .fz (.int 2)] = some (.tup f_abc22) := by kernel_rfl
theorem fr_abc22 : callR m__law_free [.fz (.str "abc"), .fz (.int 2), .fz (.int 2)] = some (.lst f_abc22) := by kernel_rfl
theorem pw_abc22 : callR m__law_powers_right [.fz (.str "abc"), .fz (.int 2), .fz (.int 2), .fz (.tup f_abc22)] = some (.bl true) := by kernel_rfl
theorem rp_abc22 : ((toPy (.tup f_abc22)).map fun p => p.showable && decide (p.depth ≤ 60) && p.leavesShort 8 && decide (p.weight ≤ 1048576)) = some true := by kernel_rfl
def f_abc23 : List D := [.str "a", .str "b", .str "c", .str "ab", .str "ac", .str "bc"]
theorem fp_abc23 : callR m_free_patterns [.fz (.str "abc"), .fz (.int 2), .fz (.int 3)] = some (.tup f_abc23) := by kernel_rfl
theorem fr_abc23 : callR m__law_free [.fz (.str "abc"), .fz (.int 2), .fz (.int 3)] = some (.lst f_abc23) := by kernel_rfl
theorem pw_abc23 : callR m__law_powers_right [.fz (.str "abc"), .fz (.int 2), .fz (.int 3), .fz (.tup f_abc23)] = some (.bl true) := by kernel_rfl
theorem rp_abc23 : ((toPy (.tup f_abc23)).map fun p => p.showable && decide (p.depth ≤ 60) && p.leavesShort 8 && decide (p.weight ≤ 1048576)) = some true := by kernel_rfl
def f_abc25 : List D := [.str "a", .str "b", .str "c", .str "ab", .str "ac", .str "bc"]
theorem fp_abc25 : callR m_free_patterns [.fz (.str "abc"), .fz (.int 2), .fz (.int 5)] = some (.tup f_abc25) := by kernel_rfl
theorem fr_abc25 : callR m__law_free [.fz (.str "abc"), .fz (.int 2), .fz (.int 5)] = some (.lst f_abc25) := by kernel_rfl
theorem pw_abc25 : callR m__law_powers_right [.fz (.str "abc"), .fz (.int 2), .fz (.int 5), .fz (.tup f_abc25)] = some (.bl true) := by kernel_rfl
theorem rp_abc25 : ((toPy (.tup f_abc25)).map fun p => p.showable && decide (p.depth ≤ 60) && p.leavesShort 8 && decide (p.weight ≤ 1048576)) = some true := by kernel_rfl
def f_abc27 : List D := [.str "a", .str "b", .str "c", .str "ab", .str "ac", .str "bc"]
theorem fp_abc27 : callR m_free_patterns [.fz (.str "abc"), .fz (.int 2), .fz (.int 7)] = some (.tup f_abc27) := by kernel_rfl
theorem fr_abc27 : callR m__law_free [.fz (.str "abc"), .fz (.int 2), .fz (.int 7)] = some (.lst f_abc27) := by kernel_rfl
theorem pw_abc27 : callR m__law_powers_right [.fz (.str "abc"), .fz (.int 2), .fz (.int 7), .fz (.tup f_abc27)] = some (.bl true) := by kernel_rfl
theorem rp_abc27 : ((toPy (.tup f_abc27)).map fun p => p.showable && decide (p.depth ≤ 60) && p.leavesShort 8 && decide (p.weight ≤ 1048576)) = some true := by kernel_rfl
def u_abc3 : List D := [.str "a", .str "b", .str "c", .str "ab", .str "ac", .str "bc", .str "aab", .str "aac", .str "abb", .str "abc", .str "acb", .str "acc", .str "bbc", .str "bcc"]
theorem lead_abc3 : callR m__law_leaders [.fz (.str "abc"), .fz (.int 3)] = some (.lst u_abc3) := by kernel_rfl
theorem same_abc3 : neD (.tup u_abc3) (.tup u_abc3) = some (.bl false) := by kernel_rfl
def f_abc3n : List D := [.str "a", .str "b", .str "c", .str "ab", .str "ac", .str "bc", .str "aab", .str "aac", .str "abb", .str "abc", .str "acb", .str "acc", .str "bbc", .str "bcc"]
theorem fp_abc3n : callR m_free_patterns [.fz (.str "abc"), .fz (.int 3), .fz (.non)] = some (.tup f_abc3n) := by kernel_rfl
theorem fr_abc3n : callR m__law_free [.fz (.str "abc"), .fz (.int 3), .fz (.non)] = some (.lst f_abc3n) := by kernel_rfl
theorem pw_abc3n : callR m__law_powers_right [.fz (.str "abc"), .fz (.int 3), .fz (.non), .fz (.tup f_abc3n)] = some (.bl true) := by kernel_rfl
theorem rp_abc3n : ((toPy (.tup f_abc3n)).map fun p => p.showable && decide (p.depth ≤ 60) && p.leavesShort 8 && decide (p.weight ≤ 1048576)) = some true := by kernel_rfl
def f_abc32 : List D := [.str "a", .str "b", .str "c", .str "aa", .str "ab", .str "ac", .str "bb", .str "bc", .str "cc", .str "aab", .str "aac", .str "abb", .str "abc", .str "acb", .str "acc", .str "bbc", .str "bcc"]
theorem fp_abc32 : callR m_free_patterns [.fz (.str "abc"), .fz (.int 3), .fz (.int 2)] = some (.tup f_abc32) := by kernel_rfl
theorem fr_abc32 : callR m__law_free [.fz (.str "abc"), .fz (.int 3), .fz (.int 2)] = some (.lst f_abc32) := by kernel_rfl
theorem pw_abc32 : callR m__law_powers_right [.fz (.str "abc"), .fz (.int 3), .fz (.int 2), .fz (.tup f_abc32)] = some (.bl true) := by kernel_rfl
theorem rp_abc32 : ((toPy (.tup f_abc32)).map fun p => p.showable && decide (p.depth ≤ 60) && p.leavesShort 8 && decide (p.weight ≤ 1048576)) = some true := by kernel_rfl
def f_abc33 : List D := [.str "a", .str "b", .str "c", .str "ab", .str "ac", .str "bc", .str "aaa", .str "aab", .str "aac", .str "abb", .str "abc", .str "acb", .str "acc", .str "bbb", .str "bbc", .str "bcc", .str "ccc"]
theorem fp_abc33 : callR m_free_patterns [.fz (.str "abc"), .fz (.int 3), .fz (.int 3)] = some (.tup f_abc33) := by kernel_rfl
theorem fr_abc33 : callR m__law_free [.fz (.str "abc"), .fz (.int 3), .fz (.int 3)] = some (.lst f_abc33) := by kernel_rfl
theorem pw_abc33 : callR m__law_powers_right [.fz (.str "abc"), .fz (.int 3), .fz (.int 3), .fz (.tup f_abc33)] = some (.bl true) := by kernel_rfl
theorem rp_abc33 : ((toPy (.tup f_abc33)).map fun p => p.showable && decide (p.depth ≤ 60) && p.leavesShort 8 && decide (p.weight ≤ 1048576)) = some true := by kernel_rfl
def f_abc35 : List D := [.str "a", .str "b", .str "c", .str "ab", .str "ac", .str "bc", .str "aab", .str "aac", .str "abb", .str "abc", .str "acb", .str "acc", .str "bbc", .str "bcc"]
theorem fp_abc35 : callR m_free_patterns [.fz (.str "abc"), .fz (.int 3), .fz (.int 5)] = some (.tup f_abc35) := by kernel_rfl
theorem fr_abc35 : callR m__law_free [.fz (.str "abc"), .fz (.int 3), .fz (.int 5)] = some (.lst f_abc35) := by kernel_rfl
theorem pw_abc35 : callR m__law_powers_right [.fz (.str "abc"), .fz (.int 3), .fz (.int 5), .fz (.tup f_abc35)] = some (.bl true) := by kernel_rfl
theorem rp_abc35 : ((toPy (.tup f_abc35)).map fun p => p.showable && decide (p.depth ≤ 60) && p.leavesShort 8 && decide (p.weight ≤ 1048576)) = some true := by kernel_rfl
def f_abc37 : List D := [.str "a", .str "b", .str "c", .str "ab", .str "ac", .str "bc", .str "aab", .str "aac", .str "abb", .str "abc", .str "acb", .str "acc", .str "bbc", .str "bcc"]
theorem fp_abc37 : callR m_free_patterns [.fz (.str "abc"), .fz (.int 3), .fz (.int 7)] = some (.tup f_abc37) := by kernel_rfl
theorem fr_abc37 : callR m__law_free [.fz (.str "abc"), .fz (.int 3), .fz (.int 7)] = some (.lst f_abc37) := by kernel_rfl
theorem pw_abc37 : callR m__law_powers_right [.fz (.str "abc"), .fz (.int 3), .fz (.int 7), .fz (.tup f_abc37)] = some (.bl true) := by kernel_rfl
theorem rp_abc37 : ((toPy (.tup f_abc37)).map fun p => p.showable && decide (p.depth ≤ 60) && p.leavesShort 8 && decide (p.weight ≤ 1048576)) = some true := by kernel_rfl
def u_abc4 : List D := [.str "a", .str "b", .str "c", .str "ab", .str "ac", .str "bc", .str "aab", .str "aac", .str "abb", .str "abc", .str "acb", .str "acc", .str "bbc", .str "bcc", .str "aaab", .str "aaac", .str "aabb", .str "aabc", .str "aacb", .str "aacc", .str "abac", .str "abbb", .str "abbc", .str "abcb", .str "abcc", .str "acbb", .str "acbc", .str "accb", .str "accc", .str "bbbc", .str "bbcc", .str "bccc"]
theorem lead_abc4 : callR m__law_leaders [.fz (.str "abc"), .fz (.int 4)] = some (.lst u_abc4) := by kernel_rfl
theorem same_abc4 : neD (.tup u_abc4) (.tup u_abc4) = some (.bl false) := by kernel_rfl
def f_abc4n : List D := [.str "a", .str "b", .str "c", .str "ab", .str "ac", .str "bc", .str "aab", .str "aac", .str "abb", .str "abc", .str "acb", .str "acc", .str "bbc", .str "bcc", .str "aaab", .str "aaac", .str "aabb", .str "aabc", .str "aacb", .str "aacc", .str "abac", .str "abbb", .str "abbc", .str "abcb", .str "abcc", .str "acbb", .str "acbc", .str "accb", .str "accc", .str "bbbc", .str "bbcc", .str "bccc"]
theorem fp_abc4n : callR m_free_patterns [.fz (.str "abc"), .fz (.int 4), .fz (.non)] = some (.tup f_abc4n) := by kernel_rfl
theorem fr_abc4n : callR m__law_free [.fz (.str "abc"), .fz (.int 4), .fz (.non)] = some (.lst f_abc4n) := by kernel_rfl
theorem pw_abc4n : callR m__law_powers_right [.fz (.str "abc"), .fz (.int 4), .fz (.non), .fz (.tup f_abc4n)] = some (.bl true) := by kernel_rfl
theorem rp_abc4n : ((toPy (.tup f_abc4n)).map fun p => p.showable && decide (p.depth ≤ 60) && p.leavesShort 8 && decide (p.weight ≤ 1048576)) = some true := by kernel_rfl
def f_abc42 : List D := [.str "a", .str "b", .str "c", .str "aa", .str "ab", .str "ac", .str "bb", .str "bc", .str "cc", .str "aab", .str "aac", .str "abb", .str "abc", .str "acb", .str "acc", .str "bbc", .str "bcc", .str "aaaa", .str "aaab", .str "aaac", .str "aabb", .str "aabc", .str "aacb", .str "aacc", .str "abab", .str "abac", .str "abbb", .str "abbc", .str "abcb", .str "abcc", .str "acac", .str "acbb", .str "acbc", .str "accb", .str "accc", .str "bbbb", .str "bbbc", .str "bbcc", .str "bcbc", .str "bccc", .str "cccc"]
theorem fp_abc42 : callR m_free_patterns [.fz (.str "abc"), .fz (.int 4), .fz (.int 2)] = some (.tup f_abc42) := by kernel_rfl
theorem fr_abc42 : callR m__law_free [.fz (.str "abc"), .fz (.int 4), .fz (.int 2)] = some (.lst f_abc42) := by kernel_rfl
theorem pw_abc42 : callR m__law_powers_right [.fz (.str "abc"), .fz (.int 4), .fz (.int 2), .fz (.tup f_abc42)] = some (.bl true) := by kernel_rfl
theorem rp_abc42 : ((toPy (.tup f_abc42)).map fun p => p.showable && decide (p.depth ≤ 60) && p.leavesShort 8 && decide (p.weight ≤ 1048576)) = some true := by kernel_rfl
def f_abc43 : List D := [.str "a", .str "b", .str "c", .str "ab", .str "ac", .str "bc", .str "aaa", .str "aab", .str "aac", .str "abb", .str "abc", .str "acb", .str "acc", .str "bbb", .str "bbc", .str "bcc", .str "ccc", .str "aaab", .str "aaac", .str "aabb", .str "aabc", .str "aacb", .str "aacc", .str "abac", .str "abbb", .str "abbc", .str "abcb", .str "abcc", .str "acbb", .str "acbc", .str "accb", .str "accc", .str "bbbc", .str "bbcc", .str "bccc"]
theorem fp_abc43 : callR m_free_patterns [.fz (.str "abc"), .fz (.int 4), .fz (.int 3)] = some (.tup f_abc43) := by kernel_rfl
theorem fr_abc43 : callR m__law_free [.fz (.str "abc"), .fz (.int 4), .fz (.int 3)] = some (.lst f_abc43) := by kernel_rfl
theorem pw_abc43 : callR m__law_powers_right [.fz (.str "abc"), .fz (.int 4), .fz (.int 3), .fz (.tup f_abc43)] = some (.bl true) := by kernel_rfl
theorem rp_abc43 : ((toPy (.tup f_abc43)).map fun p => p.showable && decide (p.depth ≤ 60) && p.leavesShort 8 && decide (p.weight ≤ 1048576)) = some true := by kernel_rfl
def f_abc45 : List D := [.str "a", .str "b", .str "c", .str "ab", .str "ac", .str "bc", .str "aab", .str "aac", .str "abb", .str "abc", .str "acb", .str "acc", .str "bbc", .str "bcc", .str "aaab", .str "aaac", .str "aabb", .str "aabc", .str "aacb", .str "aacc", .str "abac", .str "abbb", .str "abbc", .str "abcb", .str "abcc", .str "acbb", .str "acbc", .str "accb", .str "accc", .str "bbbc", .str "bbcc", .str "bccc"]
theorem fp_abc45 : callR m_free_patterns [.fz (.str "abc"), .fz (.int 4), .fz (.int 5)] = some (.tup f_abc45) := by kernel_rfl
theorem fr_abc45 : callR m__law_free [.fz (.str "abc"), .fz (.int 4), .fz (.int 5)] = some (.lst f_abc45) := by kernel_rfl
theorem pw_abc45 : callR m__law_powers_right [.fz (.str "abc"), .fz (.int 4), .fz (.int 5), .fz (.tup f_abc45)] = some (.bl true) := by kernel_rfl
theorem rp_abc45 : ((toPy (.tup f_abc45)).map fun p => p.showable && decide (p.depth ≤ 60) && p.leavesShort 8 && decide (p.weight ≤ 1048576)) = some true := by kernel_rfl
def f_abc47 : List D := [.str "a", .str "b", .str "c", .str "ab", .str "ac", .str "bc", .str "aab", .str "aac", .str "abb", .str "abc", .str "acb", .str "acc", .str "bbc", .str "bcc", .str "aaab", .str "aaac", .str "aabb", .str "aabc", .str "aacb", .str "aacc", .str "abac", .str "abbb", .str "abbc", .str "abcb", .str "abcc", .str "acbb", .str "acbc", .str "accb", .str "accc", .str "bbbc", .str "bbcc", .str "bccc"]
theorem fp_abc47 : callR m_free_patterns [.fz (.str "abc"), .fz (.int 4), .fz (.int 7)] = some (.tup f_abc47) := by kernel_rfl
theorem fr_abc47 : callR m__law_free [.fz (.str "abc"), .fz (.int 4), .fz (.int 7)] = some (.lst f_abc47) := by kernel_rfl
theorem pw_abc47 : callR m__law_powers_right [.fz (.str "abc"), .fz (.int 4), .fz (.int 7), .fz (.tup f_abc47)] = some (.bl true) := by kernel_rfl
theorem rp_abc47 : ((toPy (.tup f_abc47)).map fun p => p.showable && decide (p.depth ≤ 60) && p.leavesShort 8 && decide (p.weight ≤ 1048576)) = some true := by kernel_rfl
theorem dp_a1 (c k : D) : stA [.io c, .fz (.str "a"), .fz (.int 1), .fz k, .no] = some (.nx, [.io c, .fz (.str "a"), .fz (.int 1), .fz k, .no]) := by kernel_rfl
theorem gd_a_1_n : Good (.str "a") (.int 1) (.non) := good dp_a1 fp_a1n fr_a1n pw_a1n fp_a1n lead_a1 (repr_ok rp_a1n) same_a1
theorem gd_a_1_2 : Good (.str "a") (.int 1) (.int 2) := good dp_a1 fp_a12 fr_a12 pw_a12 fp_a1n lead_a1 (repr_ok rp_a12) same_a1
theorem gd_a_1_3 : Good (.str "a") (.int 1) (.int 3) := good dp_a1 fp_a13 fr_a13 pw_a13 fp_a1n lead_a1 (repr_ok rp_a13) same_a1
theorem gd_a_1_5 : Good (.str "a") (.int 1) (.int 5) := good dp_a1 fp_a15 fr_a15 pw_a15 fp_a1n lead_a1 (repr_ok rp_a15) same_a1
theorem gd_a_1_7 : Good (.str "a") (.int 1) (.int 7) := good dp_a1 fp_a17 fr_a17 pw_a17 fp_a1n lead_a1 (repr_ok rp_a17) same_a1
theorem dp_a2 (c k : D) : stA [.io c, .fz (.str "a"), .fz (.int 2), .fz k, .no] = some (.nx, [.io c, .fz (.str "a"), .fz (.int 2), .fz k, .no]) := by kernel_rfl
theorem gd_a_2_n : Good (.str "a") (.int 2) (.non) := good dp_a2 fp_a2n fr_a2n pw_a2n fp_a2n lead_a2 (repr_ok rp_a2n) same_a2
theorem gd_a_2_2 : Good (.str "a") (.int 2) (.int 2) := good dp_a2 fp_a22 fr_a22 pw_a22 fp_a2n lead_a2 (repr_ok rp_a22) same_a2
theorem gd_a_2_3 : Good (.str "a") (.int 2) (.int 3) := good dp_a2 fp_a23 fr_a23 pw_a23 fp_a2n lead_a2 (repr_ok rp_a23) same_a2
theorem gd_a_2_5 : Good (.str "a") (.int 2) (.int 5) := good dp_a2 fp_a25 fr_a25 pw_a25 fp_a2n lead_a2 (repr_ok rp_a25) same_a2
theorem gd_a_2_7 : Good (.str "a") (.int 2) (.int 7) := good dp_a2 fp_a27 fr_a27 pw_a27 fp_a2n lead_a2 (repr_ok rp_a27) same_a2
theorem dp_a3 (c k : D) : stA [.io c, .fz (.str "a"), .fz (.int 3), .fz k, .no] = some (.nx, [.io c, .fz (.str "a"), .fz (.int 3), .fz k, .no]) := by kernel_rfl
theorem gd_a_3_n : Good (.str "a") (.int 3) (.non) := good dp_a3 fp_a3n fr_a3n pw_a3n fp_a3n lead_a3 (repr_ok rp_a3n) same_a3
theorem gd_a_3_2 : Good (.str "a") (.int 3) (.int 2) := good dp_a3 fp_a32 fr_a32 pw_a32 fp_a3n lead_a3 (repr_ok rp_a32) same_a3
theorem gd_a_3_3 : Good (.str "a") (.int 3) (.int 3) := good dp_a3 fp_a33 fr_a33 pw_a33 fp_a3n lead_a3 (repr_ok rp_a33) same_a3
theorem gd_a_3_5 : Good (.str "a") (.int 3) (.int 5) := good dp_a3 fp_a35 fr_a35 pw_a35 fp_a3n lead_a3 (repr_ok rp_a35) same_a3
theorem gd_a_3_7 : Good (.str "a") (.int 3) (.int 7) := good dp_a3 fp_a37 fr_a37 pw_a37 fp_a3n lead_a3 (repr_ok rp_a37) same_a3
theorem dp_a4 (c k : D) : stA [.io c, .fz (.str "a"), .fz (.int 4), .fz k, .no] = some (.nx, [.io c, .fz (.str "a"), .fz (.int 4), .fz k, .no]) := by kernel_rfl
theorem gd_a_4_n : Good (.str "a") (.int 4) (.non) := good dp_a4 fp_a4n fr_a4n pw_a4n fp_a4n lead_a4 (repr_ok rp_a4n) same_a4
theorem gd_a_4_2 : Good (.str "a") (.int 4) (.int 2) := good dp_a4 fp_a42 fr_a42 pw_a42 fp_a4n lead_a4 (repr_ok rp_a42) same_a4
theorem gd_a_4_3 : Good (.str "a") (.int 4) (.int 3) := good dp_a4 fp_a43 fr_a43 pw_a43 fp_a4n lead_a4 (repr_ok rp_a43) same_a4
theorem gd_a_4_5 : Good (.str "a") (.int 4) (.int 5) := good dp_a4 fp_a45 fr_a45 pw_a45 fp_a4n lead_a4 (repr_ok rp_a45) same_a4
theorem gd_a_4_7 : Good (.str "a") (.int 4) (.int 7) := good dp_a4 fp_a47 fr_a47 pw_a47 fp_a4n lead_a4 (repr_ok rp_a47) same_a4
theorem dp_a5 (c k : D) : stA [.io c, .fz (.str "a"), .fz (.int 5), .fz k, .no] = some (.nx, [.io c, .fz (.str "a"), .fz (.int 5), .fz k, .no]) := by kernel_rfl
theorem gd_a_5_n : Good (.str "a") (.int 5) (.non) := good dp_a5 fp_a5n fr_a5n pw_a5n fp_a5n lead_a5 (repr_ok rp_a5n) same_a5
theorem gd_a_5_2 : Good (.str "a") (.int 5) (.int 2) := good dp_a5 fp_a52 fr_a52 pw_a52 fp_a5n lead_a5 (repr_ok rp_a52) same_a5
theorem gd_a_5_3 : Good (.str "a") (.int 5) (.int 3) := good dp_a5 fp_a53 fr_a53 pw_a53 fp_a5n lead_a5 (repr_ok rp_a53) same_a5
theorem gd_a_5_5 : Good (.str "a") (.int 5) (.int 5) := good dp_a5 fp_a55 fr_a55 pw_a55 fp_a5n lead_a5 (repr_ok rp_a55) same_a5
theorem gd_a_5_7 : Good (.str "a") (.int 5) (.int 7) := good dp_a5 fp_a57 fr_a57 pw_a57 fp_a5n lead_a5 (repr_ok rp_a57) same_a5
theorem dp_ab1 (c k : D) : stA [.io c, .fz (.str "ab"), .fz (.int 1), .fz k, .no] = some (.nx, [.io c, .fz (.str "ab"), .fz (.int 1), .fz k, .no]) := by kernel_rfl
theorem gd_ab_1_n : Good (.str "ab") (.int 1) (.non) := good dp_ab1 fp_ab1n fr_ab1n pw_ab1n fp_ab1n lead_ab1 (repr_ok rp_ab1n) same_ab1
theorem gd_ab_1_2 : Good (.str "ab") (.int 1) (.int 2) := good dp_ab1 fp_ab12 fr_ab12 pw_ab12 fp_ab1n lead_ab1 (repr_ok rp_ab12) same_ab1
theorem gd_ab_1_3 : Good (.str "ab") (.int 1) (.int 3) := good dp_ab1 fp_ab13 fr_ab13 pw_ab13 fp_ab1n lead_ab1 (repr_ok rp_ab13) same_ab1
theorem gd_ab_1_5 : Good (.str "ab") (.int 1) (.int 5) := good dp_ab1 fp_ab15 fr_ab15 pw_ab15 fp_ab1n lead_ab1 (repr_ok rp_ab15) same_ab1
theorem gd_ab_1_7 : Good (.str "ab") (.int 1) (.int 7) := good dp_ab1 fp_ab17 fr_ab17 pw_ab17 fp_ab1n lead_ab1 (repr_ok rp_ab17) same_ab1
theorem dp_ab2 (c k : D) : stA [.io c, .fz (.str "ab"), .fz (.int 2), .fz k, .no] = some (.nx, [.io c, .fz (.str "ab"), .fz (.int 2), .fz k, .no]) := by kernel_rfl
theorem gd_ab_2_n : Good (.str "ab") (.int 2) (.non) := good dp_ab2 fp_ab2n fr_ab2n pw_ab2n fp_ab2n lead_ab2 (repr_ok rp_ab2n) same_ab2
theorem gd_ab_2_2 : Good (.str "ab") (.int 2) (.int 2) := good dp_ab2 fp_ab22 fr_ab22 pw_ab22 fp_ab2n lead_ab2 (repr_ok rp_ab22) same_ab2
theorem gd_ab_2_3 : Good (.str "ab") (.int 2) (.int 3) := good dp_ab2 fp_ab23 fr_ab23 pw_ab23 fp_ab2n lead_ab2 (repr_ok rp_ab23) same_ab2
theorem gd_ab_2_5 : Good (.str "ab") (.int 2) (.int 5) := good dp_ab2 fp_ab25 fr_ab25 pw_ab25 fp_ab2n lead_ab2 (repr_ok rp_ab25) same_ab2
theorem gd_ab_2_7 : Good (.str "ab") (.int 2) (.int 7) := good dp_ab2 fp_ab27 fr_ab27 pw_ab27 fp_ab2n lead_ab2 (repr_ok rp_ab27) same_ab2
theorem dp_ab3 (c k : D) : stA [.io c, .fz (.str "ab"), .fz (.int 3), .fz k, .no] = some (.nx, [.io c, .fz (.str "ab"), .fz (.int 3), .fz k, .no]) := by kernel_rfl
theorem gd_ab_3_n : Good (.str "ab") (.int 3) (.non) := good dp_ab3 fp_ab3n fr_ab3n pw_ab3n fp_ab3n lead_ab3 (repr_ok rp_ab3n) same_ab3
theorem gd_ab_3_2 : Good (.str "ab") (.int 3) (.int 2) := good dp_ab3 fp_ab32 fr_ab32 pw_ab32 fp_ab3n lead_ab3 (repr_ok rp_ab32) same_ab3
theorem gd_ab_3_3 : Good (.str "ab") (.int 3) (.int 3) := good dp_ab3 fp_ab33 fr_ab33 pw_ab33 fp_ab3n lead_ab3 (repr_ok rp_ab33) same_ab3
theorem gd_ab_3_5 : Good (.str "ab") (.int 3) (.int 5) := good dp_ab3 fp_ab35 fr_ab35 pw_ab35 fp_ab3n lead_ab3 (repr_ok rp_ab35) same_ab3
theorem gd_ab_3_7 : Good (.str "ab") (.int 3) (.int 7) := good dp_ab3 fp_ab37 fr_ab37 pw_ab37 fp_ab3n lead_ab3 (repr_ok rp_ab37) same_ab3
theorem dp_ab4 (c k : D) : stA [.io c, .fz (.str "ab"), .fz (.int 4), .fz k, .no] = some (.nx, [.io c, .fz (.str "ab"), .fz (.int 4), .fz k, .no]) := by kernel_rfl
theorem gd_ab_4_n : Good (.str "ab") (.int 4) (.non) := good dp_ab4 fp_ab4n fr_ab4n pw_ab4n fp_ab4n lead_ab4 (repr_ok rp_ab4n) same_ab4
theorem gd_ab_4_2 : Good (.str "ab") (.int 4) (.int 2) := good dp_ab4 fp_ab42 fr_ab42 pw_ab42 fp_ab4n lead_ab4 (repr_ok rp_ab42) same_ab4
theorem gd_ab_4_3 : Good (.str "ab") (.int 4) (.int 3) := good dp_ab4 fp_ab43 fr_ab43 pw_ab43 fp_ab4n lead_ab4 (repr_ok rp_ab43) same_ab4
theorem gd_ab_4_5 : Good (.str "ab") (.int 4) (.int 5) := good dp_ab4 fp_ab45 fr_ab45 pw_ab45 fp_ab4n lead_ab4 (repr_ok rp_ab45) same_ab4
theorem gd_ab_4_7 : Good (.str "ab") (.int 4) (.int 7) := good dp_ab4 fp_ab47 fr_ab47 pw_ab47 fp_ab4n lead_ab4 (repr_ok rp_ab47) same_ab4
theorem dp_ab5 (c k : D) : stA [.io c, .fz (.str "ab"), .fz (.int 5), .fz k, .no] = some (.nx, [.io c, .fz (.str "ab"), .fz (.int 5), .fz k, .no]) := by kernel_rfl
theorem gd_ab_5_n : Good (.str "ab") (.int 5) (.non) := good dp_ab5 fp_ab5n fr_ab5n pw_ab5n fp_ab5n lead_ab5 (repr_ok rp_ab5n) same_ab5
theorem gd_ab_5_2 : Good (.str "ab") (.int 5) (.int 2) := good dp_ab5 fp_ab52 fr_ab52 pw_ab52 fp_ab5n lead_ab5 (repr_ok rp_ab52) same_ab5
theorem gd_ab_5_3 : Good (.str "ab") (.int 5) (.int 3) := good dp_ab5 fp_ab53 fr_ab53 pw_ab53 fp_ab5n lead_ab5 (repr_ok rp_ab53) same_ab5
theorem gd_ab_5_5 : Good (.str "ab") (.int 5) (.int 5) := good dp_ab5 fp_ab55 fr_ab55 pw_ab55 fp_ab5n lead_ab5 (repr_ok rp_ab55) same_ab5
theorem gd_ab_5_7 : Good (.str "ab") (.int 5) (.int 7) := good dp_ab5 fp_ab57 fr_ab57 pw_ab57 fp_ab5n lead_ab5 (repr_ok rp_ab57) same_ab5
theorem dp_xy1 (c k : D) : stA [.io c, .fz (.str "xy"), .fz (.int 1), .fz k, .no] = some (.nx, [.io c, .fz (.str "xy"), .fz (.int 1), .fz k, .no]) := by kernel_rfl
theorem gd_xy_1_n : Good (.str "xy") (.int 1) (.non) := good dp_xy1 fp_xy1n fr_xy1n pw_xy1n fp_xy1n lead_xy1 (repr_ok rp_xy1n) same_xy1
theorem gd_xy_1_2 : Good (.str "xy") (.int 1) (.int 2) := good dp_xy1 fp_xy12 fr_xy12 pw_xy12 fp_xy1n lead_xy1 (repr_ok rp_xy12) same_xy1
theorem gd_xy_1_3 : Good (.str "xy") (.int 1) (.int 3) := good dp_xy1 fp_xy13 fr_xy13 pw_xy13 fp_xy1n lead_xy1 (repr_ok rp_xy13) same_xy1
theorem gd_xy_1_5 : Good (.str "xy") (.int 1) (.int 5) := good dp_xy1 fp_xy15 fr_xy15 pw_xy15 fp_xy1n lead_xy1 (repr_ok rp_xy15) same_xy1
theorem gd_xy_1_7 : Good (.str "xy") (.int 1) (.int 7) := good dp_xy1 fp_xy17 fr_xy17 pw_xy17 fp_xy1n lead_xy1 (repr_ok rp_xy17) same_xy1
theorem dp_xy2 (c k : D) : stA [.io c, .fz (.str "xy"), .fz (.int 2), .fz k, .no] = some (.nx, [.io c, .fz (.str "xy"), .fz (.int 2), .fz k, .no]) := by kernel_rfl
theorem gd_xy_2_n : Good (.str "xy") (.int 2) (.non) := good dp_xy2 fp_xy2n fr_xy2n pw_xy2n fp_xy2n lead_xy2 (repr_ok rp_xy2n) same_xy2
theorem gd_xy_2_2 : Good (.str "xy") (.int 2) (.int 2) := good dp_xy2 fp_xy22 fr_xy22 pw_xy22 fp_xy2n lead_xy2 (repr_ok rp_xy22) same_xy2
theorem gd_xy_2_3 : Good (.str "xy") (.int 2) (.int 3) := good dp_xy2 fp_xy23 fr_xy23 pw_xy23 fp_xy2n lead_xy2 (repr_ok rp_xy23) same_xy2
theorem gd_xy_2_5 : Good (.str "xy") (.int 2) (.int 5) := good dp_xy2 fp_xy25 fr_xy25 pw_xy25 fp_xy2n lead_xy2 (repr_ok rp_xy25) same_xy2
theorem gd_xy_2_7 : Good (.str "xy") (.int 2) (.int 7) := good dp_xy2 fp_xy27 fr_xy27 pw_xy27 fp_xy2n lead_xy2 (repr_ok rp_xy27) same_xy2
theorem dp_xy3 (c k : D) : stA [.io c, .fz (.str "xy"), .fz (.int 3), .fz k, .no] = some (.nx, [.io c, .fz (.str "xy"), .fz (.int 3), .fz k, .no]) := by kernel_rfl
theorem gd_xy_3_n : Good (.str "xy") (.int 3) (.non) := good dp_xy3 fp_xy3n fr_xy3n pw_xy3n fp_xy3n lead_xy3 (repr_ok rp_xy3n) same_xy3
theorem gd_xy_3_2 : Good (.str "xy") (.int 3) (.int 2) := good dp_xy3 fp_xy32 fr_xy32 pw_xy32 fp_xy3n lead_xy3 (repr_ok rp_xy32) same_xy3
theorem gd_xy_3_3 : Good (.str "xy") (.int 3) (.int 3) := good dp_xy3 fp_xy33 fr_xy33 pw_xy33 fp_xy3n lead_xy3 (repr_ok rp_xy33) same_xy3
theorem gd_xy_3_5 : Good (.str "xy") (.int 3) (.int 5) := good dp_xy3 fp_xy35 fr_xy35 pw_xy35 fp_xy3n lead_xy3 (repr_ok rp_xy35) same_xy3
theorem gd_xy_3_7 : Good (.str "xy") (.int 3) (.int 7) := good dp_xy3 fp_xy37 fr_xy37 pw_xy37 fp_xy3n lead_xy3 (repr_ok rp_xy37) same_xy3
theorem dp_xy4 (c k : D) : stA [.io c, .fz (.str "xy"), .fz (.int 4), .fz k, .no] = some (.nx, [.io c, .fz (.str "xy"), .fz (.int 4), .fz k, .no]) := by kernel_rfl
theorem gd_xy_4_n : Good (.str "xy") (.int 4) (.non) := good dp_xy4 fp_xy4n fr_xy4n pw_xy4n fp_xy4n lead_xy4 (repr_ok rp_xy4n) same_xy4
theorem gd_xy_4_2 : Good (.str "xy") (.int 4) (.int 2) := good dp_xy4 fp_xy42 fr_xy42 pw_xy42 fp_xy4n lead_xy4 (repr_ok rp_xy42) same_xy4
theorem gd_xy_4_3 : Good (.str "xy") (.int 4) (.int 3) := good dp_xy4 fp_xy43 fr_xy43 pw_xy43 fp_xy4n lead_xy4 (repr_ok rp_xy43) same_xy4
theorem gd_xy_4_5 : Good (.str "xy") (.int 4) (.int 5) := good dp_xy4 fp_xy45 fr_xy45 pw_xy45 fp_xy4n lead_xy4 (repr_ok rp_xy45) same_xy4
theorem gd_xy_4_7 : Good (.str "xy") (.int 4) (.int 7) := good dp_xy4 fp_xy47 fr_xy47 pw_xy47 fp_xy4n lead_xy4 (repr_ok rp_xy47) same_xy4
theorem dp_xy5 (c k : D) : stA [.io c, .fz (.str "xy"), .fz (.int 5), .fz k, .no] = some (.nx, [.io c, .fz (.str "xy"), .fz (.int 5), .fz k, .no]) := by kernel_rfl
theorem gd_xy_5_n : Good (.str "xy") (.int 5) (.non) := good dp_xy5 fp_xy5n fr_xy5n pw_xy5n fp_xy5n lead_xy5 (repr_ok rp_xy5n) same_xy5
theorem gd_xy_5_2 : Good (.str "xy") (.int 5) (.int 2) := good dp_xy5 fp_xy52 fr_xy52 pw_xy52 fp_xy5n lead_xy5 (repr_ok rp_xy52) same_xy5
theorem gd_xy_5_3 : Good (.str "xy") (.int 5) (.int 3) := good dp_xy5 fp_xy53 fr_xy53 pw_xy53 fp_xy5n lead_xy5 (repr_ok rp_xy53) same_xy5
theorem gd_xy_5_5 : Good (.str "xy") (.int 5) (.int 5) := good dp_xy5 fp_xy55 fr_xy55 pw_xy55 fp_xy5n lead_xy5 (repr_ok rp_xy55) same_xy5
theorem gd_xy_5_7 : Good (.str "xy") (.int 5) (.int 7) := good dp_xy5 fp_xy57 fr_xy57 pw_xy57 fp_xy5n lead_xy5 (repr_ok rp_xy57) same_xy5
theorem dp_abc1 (c k : D) : stA [.io c, .fz (.str "abc"), .fz (.int 1), .fz k, .no] = some (.nx, [.io c, .fz (.str "abc"), .fz (.int 1), .fz k, .no]) := by kernel_rfl
theorem gd_abc_1_n : Good (.str "abc") (.int 1) (.non) := good dp_abc1 fp_abc1n fr_abc1n pw_abc1n fp_abc1n lead_abc1 (repr_ok rp_abc1n) same_abc1
theorem gd_abc_1_2 : Good (.str "abc") (.int 1) (.int 2) := good dp_abc1 fp_abc12 fr_abc12 pw_abc12 fp_abc1n lead_abc1 (repr_ok rp_abc12) same_abc1
theorem gd_abc_1_3 : Good (.str "abc") (.int 1) (.int 3) := good dp_abc1 fp_abc13 fr_abc13 pw_abc13 fp_abc1n lead_abc1 (repr_ok rp_abc13) same_abc1
theorem gd_abc_1_5 : Good (.str "abc") (.int 1) (.int 5) := good dp_abc1 fp_abc15 fr_abc15 pw_abc15 fp_abc1n lead_abc1 (repr_ok rp_abc15) same_abc1
theorem gd_abc_1_7 : Good (.str "abc") (.int 1) (.int 7) := good dp_abc1 fp_abc17 fr_abc17 pw_abc17 fp_abc1n lead_abc1 (repr_ok rp_abc17) same_abc1
theorem dp_abc2 (c k : D) : stA [.io c, .fz (.str "abc"), .fz (.int 2), .fz k, .no] = some (.nx, [.io c, .fz (.str "abc"), .fz (.int 2), .fz k, .no]) := by kernel_rfl
theorem gd_abc_2_n : Good (.str "abc") (.int 2) (.non) := good dp_abc2 fp_abc2n fr_abc2n pw_abc2n fp_abc2n lead_abc2 (repr_ok rp_abc2n) same_abc2
theorem gd_abc_2_2 : Good (.str "abc") (.int 2) (.int 2) := good dp_abc2 fp_abc22 fr_abc22 pw_abc22 fp_abc2n lead_abc2 (repr_ok rp_abc22) same_abc2
theorem gd_abc_2_3 : Good (.str "abc") (.int 2) (.int 3) := good dp_abc2 fp_abc23 fr_abc23 pw_abc23 fp_abc2n lead_abc2 (repr_ok rp_abc23) same_abc2
theorem gd_abc_2_5 : Good (.str "abc") (.int 2) (.int 5) := good dp_abc2 fp_abc25 fr_abc25 pw_abc25 fp_abc2n lead_abc2 (repr_ok rp_abc25) same_abc2
theorem gd_abc_2_7 : Good (.str "abc") (.int 2) (.int 7) := good dp_abc2 fp_abc27 fr_abc27 pw_abc27 fp_abc2n lead_abc2 (repr_ok rp_abc27) same_abc2
theorem dp_abc3 (c k : D) : stA [.io c, .fz (.str "abc"), .fz (.int 3), .fz k, .no] = some (.nx, [.io c, .fz (.str "abc"), .fz (.int 3), .fz k, .no]) := by kernel_rfl
theorem gd_abc_3_n : Good (.str "abc") (.int 3) (.non) := good dp_abc3 fp_abc3n fr_abc3n pw_abc3n fp_abc3n lead_abc3 (repr_ok rp_abc3n) same_abc3
theorem gd_abc_3_2 : Good (.str "abc") (.int 3) (.int 2) := good dp_abc3 fp_abc32 fr_abc32 pw_abc32 fp_abc3n lead_abc3 (repr_ok rp_abc32) same_abc3
theorem gd_abc_3_3 : Good (.str "abc") (.int 3) (.int 3) := good dp_abc3 fp_abc33 fr_abc33 pw_abc33 fp_abc3n lead_abc3 (repr_ok rp_abc33) same_abc3
theorem gd_abc_3_5 : Good (.str "abc") (.int 3) (.int 5) := good dp_abc3 fp_abc35 fr_abc35 pw_abc35 fp_abc3n lead_abc3 (repr_ok rp_abc35) same_abc3
theorem gd_abc_3_7 : Good (.str "abc") (.int 3) (.int 7) := good dp_abc3 fp_abc37 fr_abc37 pw_abc37 fp_abc3n lead_abc3 (repr_ok rp_abc37) same_abc3
theorem dp_abc4 (c k : D) : stA [.io c, .fz (.str "abc"), .fz (.int 4), .fz k, .no] = some (.nx, [.io c, .fz (.str "abc"), .fz (.int 4), .fz k, .no]) := by kernel_rfl
theorem gd_abc_4_n : Good (.str "abc") (.int 4) (.non) := good dp_abc4 fp_abc4n fr_abc4n pw_abc4n fp_abc4n lead_abc4 (repr_ok rp_abc4n) same_abc4
theorem gd_abc_4_2 : Good (.str "abc") (.int 4) (.int 2) := good dp_abc4 fp_abc42 fr_abc42 pw_abc42 fp_abc4n lead_abc4 (repr_ok rp_abc42) same_abc4
theorem gd_abc_4_3 : Good (.str "abc") (.int 4) (.int 3) := good dp_abc4 fp_abc43 fr_abc43 pw_abc43 fp_abc4n lead_abc4 (repr_ok rp_abc43) same_abc4
theorem gd_abc_4_5 : Good (.str "abc") (.int 4) (.int 5) := good dp_abc4 fp_abc45 fr_abc45 pw_abc45 fp_abc4n lead_abc4 (repr_ok rp_abc45) same_abc4
theorem gd_abc_4_7 : Good (.str "abc") (.int 4) (.int 7) := good dp_abc4 fp_abc47 fr_abc47 pw_abc47 fp_abc4n lead_abc4 (repr_ok rp_abc47) same_abc4
theorem dp_abc5 (c k : D) : stA [.io c, .fz (.str "abc"), .fz (.int 5), .fz k, .no] = some (.nx, [.io c, .fz (.str "abc"), .fz (.int 4), .fz k, .no]) := by kernel_rfl
theorem gd_abc_5_n : Good (.str "abc") (.int 5) (.non) := good dp_abc5 fp_abc4n fr_abc4n pw_abc4n fp_abc4n lead_abc4 (repr_ok rp_abc4n) same_abc4
theorem gd_abc_5_2 : Good (.str "abc") (.int 5) (.int 2) := good dp_abc5 fp_abc42 fr_abc42 pw_abc42 fp_abc4n lead_abc4 (repr_ok rp_abc42) same_abc4
theorem gd_abc_5_3 : Good (.str "abc") (.int 5) (.int 3) := good dp_abc5 fp_abc43 fr_abc43 pw_abc43 fp_abc4n lead_abc4 (repr_ok rp_abc43) same_abc4
theorem gd_abc_5_5 : Good (.str "abc") (.int 5) (.int 5) := good dp_abc5 fp_abc45 fr_abc45 pw_abc45 fp_abc4n lead_abc4 (repr_ok rp_abc45) same_abc4
theorem gd_abc_5_7 : Good (.str "abc") (.int 5) (.int 7) := good dp_abc5 fp_abc47 fr_abc47 pw_abc47 fp_abc4n lead_abc4 (repr_ok rp_abc47) same_abc4
theorem goodAll : ∀ s ∈ sgL, ∀ r : Int, 0 ≤ r → r < 5 → ∀ k ∈ kdL, Good s (.int (1 + r)) k := by
  intro s hs r h0 h5 k hk
  have hr : r = 0 ∨ r = 1 ∨ r = 2 ∨ r = 3 ∨ r = 4 := by omega
  simp only [sgL, List.mem_cons, List.not_mem_nil, or_false] at hs
  simp only [kdL, List.mem_cons, List.not_mem_nil, or_false] at hk
  rcases hs with rfl | rfl | rfl | rfl | rfl | rfl
  · rcases hr with rfl | rfl | rfl | rfl | rfl
    · rcases hk with rfl | rfl | rfl | rfl | rfl | rfl | rfl
      · exact gd_ab_1_n
      · exact gd_ab_1_n
      · exact gd_ab_1_2
      · exact gd_ab_1_2
      · exact gd_ab_1_3
      · exact gd_ab_1_5
      · exact gd_ab_1_7
    · rcases hk with rfl | rfl | rfl | rfl | rfl | rfl | rfl
      · exact gd_ab_2_n
      · exact gd_ab_2_n
      · exact gd_ab_2_2
      · exact gd_ab_2_2
      · exact gd_ab_2_3
      · exact gd_ab_2_5
      · exact gd_ab_2_7
    · rcases hk with rfl | rfl | rfl | rfl | rfl | rfl | rfl
      · exact gd_ab_3_n
      · exact gd_ab_3_n
      · exact gd_ab_3_2
      · exact gd_ab_3_2
      · exact gd_ab_3_3
      · exact gd_ab_3_5
      · exact gd_ab_3_7
    · rcases hk with rfl | rfl | rfl | rfl | rfl | rfl | rfl
      · exact gd_ab_4_n
      · exact gd_ab_4_n
      · exact gd_ab_4_2
      · exact gd_ab_4_2
      · exact gd_ab_4_3
      · exact gd_ab_4_5
      · exact gd_ab_4_7
    · rcases hk with rfl | rfl | rfl | rfl | rfl | rfl | rfl
      · exact gd_ab_5_n
      · exact gd_ab_5_n
      · exact gd_ab_5_2
      · exact gd_ab_5_2
      · exact gd_ab_5_3
      · exact gd_ab_5_5
      · exact gd_ab_5_7
  · rcases hr with rfl | rfl | rfl | rfl | rfl
    · rcases hk with rfl | rfl | rfl | rfl | rfl | rfl | rfl
      · exact gd_ab_1_n
      · exact gd_ab_1_n
      · exact gd_ab_1_2
      · exact gd_ab_1_2
      · exact gd_ab_1_3
      · exact gd_ab_1_5
      · exact gd_ab_1_7
    · rcases hk with rfl | rfl | rfl | rfl | rfl | rfl | rfl
      · exact gd_ab_2_n
      · exact gd_ab_2_n
      · exact gd_ab_2_2
      · exact gd_ab_2_2
      · exact gd_ab_2_3
      · exact gd_ab_2_5
      · exact gd_ab_2_7
    · rcases hk with rfl | rfl | rfl | rfl | rfl | rfl | rfl
      · exact gd_ab_3_n
      · exact gd_ab_3_n
      · exact gd_ab_3_2
      · exact gd_ab_3_2
      · exact gd_ab_3_3
      · exact gd_ab_3_5
      · exact gd_ab_3_7
    · rcases hk with rfl | rfl | rfl | rfl | rfl | rfl | rfl
      · exact gd_ab_4_n
      · exact gd_ab_4_n
      · exact gd_ab_4_2
      · exact gd_ab_4_2
      · exact gd_ab_4_3
      · exact gd_ab_4_5
      · exact gd_ab_4_7
    · rcases hk with rfl | rfl | rfl | rfl | rfl | rfl | rfl
      · exact gd_ab_5_n
      · exact gd_ab_5_n
      · exact gd_ab_5_2
      · exact gd_ab_5_2
      · exact gd_ab_5_3
      · exact gd_ab_5_5
      · exact gd_ab_5_7
  · rcases hr with rfl | rfl | rfl | rfl | rfl
    · rcases hk with rfl | rfl | rfl | rfl | rfl | rfl | rfl
      · exact gd_ab_1_n
      · exact gd_ab_1_n
      · exact gd_ab_1_2
      · exact gd_ab_1_2
      · exact gd_ab_1_3
      · exact gd_ab_1_5
      · exact gd_ab_1_7
    · rcases hk with rfl | rfl | rfl | rfl | rfl | rfl | rfl
      · exact gd_ab_2_n
      · exact gd_ab_2_n
      · exact gd_ab_2_2
      · exact gd_ab_2_2
      · exact gd_ab_2_3
      · exact gd_ab_2_5
      · exact gd_ab_2_7
    · rcases hk with rfl | rfl | rfl | rfl | rfl | rfl | rfl
      · exact gd_ab_3_n
      · exact gd_ab_3_n
      · exact gd_ab_3_2
      · exact gd_ab_3_2
      · exact gd_ab_3_3
      · exact gd_ab_3_5
      · exact gd_ab_3_7
    · rcases hk with rfl | rfl | rfl | rfl | rfl | rfl | rfl
      · exact gd_ab_4_n
      · exact gd_ab_4_n
      · exact gd_ab_4_2
      · exact gd_ab_4_2
      · exact gd_ab_4_3
      · exact gd_ab_4_5
      · exact gd_ab_4_7
    · rcases hk with rfl | rfl | rfl | rfl | rfl | rfl | rfl
      · exact gd_ab_5_n
      · exact gd_ab_5_n
      · exact gd_ab_5_2
      · exact gd_ab_5_2
      · exact gd_ab_5_3
      · exact gd_ab_5_5
      · exact gd_ab_5_7
  · rcases hr with rfl | rfl | rfl | rfl | rfl
    · rcases hk with rfl | rfl | rfl | rfl | rfl | rfl | rfl
      · exact gd_xy_1_n
      · exact gd_xy_1_n
      · exact gd_xy_1_2
      · exact gd_xy_1_2
      · exact gd_xy_1_3
      · exact gd_xy_1_5
      · exact gd_xy_1_7
    · rcases hk with rfl | rfl | rfl | rfl | rfl | rfl | rfl
      · exact gd_xy_2_n
      · exact gd_xy_2_n
      · exact gd_xy_2_2
      · exact gd_xy_2_2
      · exact gd_xy_2_3
      · exact gd_xy_2_5
      · exact gd_xy_2_7
    · rcases hk with rfl | rfl | rfl | rfl | rfl | rfl | rfl
      · exact gd_xy_3_n
      · exact gd_xy_3_n
      · exact gd_xy_3_2
      · exact gd_xy_3_2
      · exact gd_xy_3_3
      · exact gd_xy_3_5
      · exact gd_xy_3_7
    · rcases hk with rfl | rfl | rfl | rfl | rfl | rfl | rfl
      · exact gd_xy_4_n
      · exact gd_xy_4_n
      · exact gd_xy_4_2
      · exact gd_xy_4_2
      · exact gd_xy_4_3
      · exact gd_xy_4_5
      · exact gd_xy_4_7
    · rcases hk with rfl | rfl | rfl | rfl | rfl | rfl | rfl
      · exact gd_xy_5_n
      · exact gd_xy_5_n
      · exact gd_xy_5_2
      · exact gd_xy_5_2
      · exact gd_xy_5_3
      · exact gd_xy_5_5
      · exact gd_xy_5_7
  · rcases hr with rfl | rfl | rfl | rfl | rfl
    · rcases hk with rfl | rfl | rfl | rfl | rfl | rfl | rfl
      · exact gd_a_1_n
      · exact gd_a_1_n
      · exact gd_a_1_2
      · exact gd_a_1_2
      · exact gd_a_1_3
      · exact gd_a_1_5
      · exact gd_a_1_7
    · rcases hk with rfl | rfl | rfl | rfl | rfl | rfl | rfl
      · exact gd_a_2_n
      · exact gd_a_2_n
      · exact gd_a_2_2
      · exact gd_a_2_2
      · exact gd_a_2_3
      · exact gd_a_2_5
      · exact gd_a_2_7
    · rcases hk with rfl | rfl | rfl | rfl | rfl | rfl | rfl
      · exact gd_a_3_n
      · exact gd_a_3_n
      · exact gd_a_3_2
      · exact gd_a_3_2
      · exact gd_a_3_3
      · exact gd_a_3_5
      · exact gd_a_3_7
    · rcases hk with rfl | rfl | rfl | rfl | rfl | rfl | rfl
      · exact gd_a_4_n
      · exact gd_a_4_n
      · exact gd_a_4_2
      · exact gd_a_4_2
      · exact gd_a_4_3
      · exact gd_a_4_5
      · exact gd_a_4_7
    · rcases hk with rfl | rfl | rfl | rfl | rfl | rfl | rfl
      · exact gd_a_5_n
      · exact gd_a_5_n
      · exact gd_a_5_2
      · exact gd_a_5_2
      · exact gd_a_5_3
      · exact gd_a_5_5
      · exact gd_a_5_7
  · rcases hr with rfl | rfl | rfl | rfl | rfl
    · rcases hk with rfl | rfl | rfl | rfl | rfl | rfl | rfl
      · exact gd_abc_1_n
      · exact gd_abc_1_n
      · exact gd_abc_1_2
      · exact gd_abc_1_2
      · exact gd_abc_1_3
      · exact gd_abc_1_5
      · exact gd_abc_1_7
    · rcases hk with rfl | rfl | rfl | rfl | rfl | rfl | rfl
      · exact gd_abc_2_n
      · exact gd_abc_2_n
      · exact gd_abc_2_2
      · exact gd_abc_2_2
      · exact gd_abc_2_3
      · exact gd_abc_2_5
      · exact gd_abc_2_7
    · rcases hk with rfl | rfl | rfl | rfl | rfl | rfl | rfl
      · exact gd_abc_3_n
      · exact gd_abc_3_n
      · exact gd_abc_3_2
      · exact gd_abc_3_2
      · exact gd_abc_3_3
      · exact gd_abc_3_5
      · exact gd_abc_3_7
    · rcases hk with rfl | rfl | rfl | rfl | rfl | rfl | rfl
      · exact gd_abc_4_n
      · exact gd_abc_4_n
      · exact gd_abc_4_2
      · exact gd_abc_4_2
      · exact gd_abc_4_3
      · exact gd_abc_4_5
      · exact gd_abc_4_7
    · rcases hk with rfl | rfl | rfl | rfl | rfl | rfl | rfl
      · exact gd_abc_5_n
      · exact gd_abc_5_n
      · exact gd_abc_5_2
      · exact gd_abc_5_2
      · exact gd_abc_5_3
      · exact gd_abc_5_5
      · exact gd_abc_5_7
theorem sum_ab : ∀ n, n < 60 → isV (m__law_sum_right [.fz (.str "ab"), .fz (.int (1 + (n : Nat)))]) = true := by decide +kernel
theorem sum_xy : ∀ n, n < 60 → isV (m__law_sum_right [.fz (.str "xy"), .fz (.int (1 + (n : Nat)))]) = true := by decide +kernel
theorem sum_a : ∀ n, n < 60 → isV (m__law_sum_right [.fz (.str "a"), .fz (.int (1 + (n : Nat)))]) = true := by decide +kernel
theorem sum_abc : ∀ n, n < 60 → isV (m__law_sum_right [.fz (.str "abc"), .fz (.int (1 + (n : Nat)))]) = true := by decide +kernel
theorem sum_of {s : D} (h : ∀ n, n < 60 → isV (m__law_sum_right [.fz s, .fz (.int (1 + (n : Nat)))]) = true) : SumOk s := by
  intro r h0 h1
  obtain ⟨n, rfl⟩ := Int.eq_ofNat_of_zero_le h0
  exact isV_iff (h n (by omega))
theorem sumAll : ∀ s ∈ sgL, SumOk s := by
  intro s hs
  simp only [sgL, List.mem_cons, List.not_mem_nil, or_false] at hs
  rcases hs with rfl | rfl | rfl | rfl | rfl | rfl
  · exact sum_of sum_ab
  · exact sum_of sum_ab
  · exact sum_of sum_ab
  · exact sum_of sum_xy
  · exact sum_of sum_a
  · exact sum_of sum_abc
theorem tailOk (s a b : Sl) : isV (tailS [s, a, b, .no, .no]) = true := by kernel_rfl
theorem law_true (ns : List Int) : ∃ e, m_law [.fz (.scr ns)] = some (.rt (.bl true), e) := lawOk goodAll sumAll tailOk ns
theorem defAt_of {K : PySem.W.Frag} {h : Heap} {mg : Str → Option Value} {x : Str} {st : Stmt} {f : Addr} {od an : Option Addr} {sl : Array (Option Value)} {oc kV dc pm cd ct : Value} (X : K.In h) (G : h.Ns mainGlobals mg) (a : PySem.W.nsIn K mainGlobals x = some (some (.ref f)))
    (l : K.lookup f = some ⟨oc, od, .func (PySem.W.fnOf x x (defArgs st) (defBody st) (defScope st) .none kV dc pm an cd ct), sl⟩) (c : PySem.W.codeIn K cd x = true) (k : PySem.W.keepIn K (.ref f) = true) : DefAt K mg x st := ⟨f, _, fun_mk (st := st) l c k, PySem.W.mg_of X G a⟩
theorem defAtK_of {K : PySem.W.Frag} {h : Heap} {mg : Str → Option Value} {x : Str} {st : Stmt} {f D : Addr} {y : Str} {od an : Option Addr} {sl : Array (Option Value)} {oc dc pm cd ct : Value} (X : K.In h) (G : h.Ns mainGlobals mg) (a : PySem.W.nsIn K mainGlobals x = some (some (.ref f)))
    (l : K.lookup f = some ⟨oc, od, .func (PySem.W.fnOf x x (defArgs st) (defBody st) (defScope st) .none (.ref D) dc pm an cd ct), sl⟩) (c : PySem.W.codeIn K cd x = true) (k : PySem.W.keepIn K (.ref f) = true) (n : PySem.W.nsIn K D y = some (some .none)) : DefAtK K mg x st [(y, .non)] :=
  ⟨f, _, ⟨⟨oc, od, .none, .ref D, dc, pm, an, cd, ct, sl, rfl, l, c, Or.inl ⟨rfl, rfl⟩, Or.inr ⟨D, rfl, fun q hq => by cases List.mem_singleton.mp hq; exact ⟨_, n, rfl⟩⟩⟩, k⟩, PySem.W.mg_of X G a⟩
theorem glob_int {K : PySem.W.Frag} {h : Heap} {mg : Str → Option Value} {x : Str} {i : Int} {t : Tok} (X : K.In h) (G : h.Ns mainGlobals mg) (a : PySem.W.nsIn K mainGlobals x = some (some (.int i t))) : GlobD K mg x (.int i) := ⟨.int i, _, PySem.W.mg_of X G a, ⟨_, rfl⟩, fun _ => .int i⟩
theorem glob_tup {K : PySem.W.Frag} {h : Heap} {mg : Str → Option Value} {x : Str} {T : Addr} {dd : Option Addr} {its : Array Value} {n : Nat} {sl : Array (Option Value)} {xs : List V} {ds : List D} (X : K.In h) (G : h.Ns mainGlobals mg) (a : PySem.W.nsIn K mainGlobals x = some (some (.ref T)))
    (l : K.lookup T = some ⟨.type "tuple", dd, .seq its n, sl⟩) (hs : its.size ≤ sizeLine) (hv : Vals xs its.toList) (hr : ∀ F : Hp, RpL K F xs ds) : GlobD K mg x (.tup ds) := ⟨.ref T, _, PySem.W.mg_of X G a, rfl, fun F => .tup (.inr ⟨_, _, _, l, rfl, rfl, hs, hv⟩) (hr F)⟩

theorem all_mk {l : PySem.W.OpenLaw} {w : World} {K : PySem.W.Frag} {h : Heap} {mg : Str → Option Value} {fa : Addr} (X : K.In h) (G : h.Ns mainGlobals mg) (hfa : mg "law" = some (.ref fa))
    {f__law_cup : Addr} {od__law_cup an__law_cup : Option Addr} {sl__law_cup : Array (Option Value)} {oc__law_cup kV__law_cup dc__law_cup pm__law_cup cd__law_cup ct__law_cup : Value}
    {f__law_bit : Addr} {od__law_bit an__law_bit : Option Addr} {sl__law_bit : Array (Option Value)} {oc__law_bit kV__law_bit dc__law_bit pm__law_bit cd__law_bit ct__law_bit : Value}
    {f__law_leads : Addr} {od__law_leads an__law_leads : Option Addr} {sl__law_leads : Array (Option Value)} {oc__law_leads kV__law_leads dc__law_leads pm__law_leads cd__law_leads ct__law_leads : Value}
    {f__law_lines_to : Addr} {od__law_lines_to an__law_lines_to : Option Addr} {sl__law_lines_to : Array (Option Value)} {oc__law_lines_to kV__law_lines_to dc__law_lines_to pm__law_lines_to cd__law_lines_to ct__law_lines_to : Value}
    {f__law_leaders : Addr} {od__law_leaders an__law_leaders : Option Addr} {sl__law_leaders : Array (Option Value)} {oc__law_leaders kV__law_leaders dc__law_leaders pm__law_leaders cd__law_leaders ct__law_leaders : Value}
    {f__law_free : Addr} {od__law_free an__law_free : Option Addr} {sl__law_free : Array (Option Value)} {oc__law_free kV__law_free dc__law_free pm__law_free cd__law_free ct__law_free : Value}
    {f__law_pick : Addr} {od__law_pick an__law_pick : Option Addr} {sl__law_pick : Array (Option Value)} {oc__law_pick kV__law_pick dc__law_pick pm__law_pick cd__law_pick ct__law_pick : Value}
    {f__law_kind : Addr} {od__law_kind an__law_kind : Option Addr} {sl__law_kind : Array (Option Value)} {oc__law_kind kV__law_kind dc__law_kind pm__law_kind cd__law_kind ct__law_kind : Value}
    {f_is_integer : Addr} {od_is_integer an_is_integer : Option Addr} {sl_is_integer : Array (Option Value)} {oc_is_integer kV_is_integer dc_is_integer pm_is_integer cd_is_integer ct_is_integer : Value}
    {f_is_integer_within : Addr} {od_is_integer_within an_is_integer_within : Option Addr} {sl_is_integer_within : Array (Option Value)} {oc_is_integer_within kV_is_integer_within dc_is_integer_within pm_is_integer_within cd_is_integer_within ct_is_integer_within : Value}
    {f_power_of : Addr} {od_power_of an_power_of : Option Addr} {sl_power_of : Array (Option Value)} {oc_power_of kV_power_of dc_power_of pm_power_of cd_power_of ct_power_of : Value}
    {f_are_small : Addr} {od_are_small an_are_small : Option Addr} {sl_are_small : Array (Option Value)} {oc_are_small kV_are_small dc_are_small pm_are_small cd_are_small ct_are_small : Value}
    {f_is_letters : Addr} {od_is_letters an_is_letters : Option Addr} {sl_is_letters : Array (Option Value)} {oc_is_letters kV_is_letters dc_is_letters pm_is_letters cd_is_letters ct_is_letters : Value}
    {f_require_letters : Addr} {od_require_letters an_require_letters : Option Addr} {sl_require_letters : Array (Option Value)} {oc_require_letters kV_require_letters dc_require_letters pm_require_letters cd_require_letters ct_require_letters : Value}
    {f_sign_of : Addr} {od_sign_of an_sign_of : Option Addr} {sl_sign_of : Array (Option Value)} {oc_sign_of kV_sign_of dc_sign_of pm_sign_of cd_sign_of ct_sign_of : Value}
    {f_how_many : Addr} {od_how_many an_how_many : Option Addr} {sl_how_many : Array (Option Value)} {oc_how_many kV_how_many dc_how_many pm_how_many cd_how_many ct_how_many : Value}
    {f__law_powers_right : Addr} {od__law_powers_right an__law_powers_right : Option Addr} {sl__law_powers_right : Array (Option Value)} {oc__law_powers_right kV__law_powers_right dc__law_powers_right pm__law_powers_right cd__law_powers_right ct__law_powers_right : Value}
    {f__law_signs : Addr} {od__law_signs an__law_signs : Option Addr} {sl__law_signs : Array (Option Value)} {oc__law_signs kV__law_signs dc__law_signs pm__law_signs cd__law_signs ct__law_signs : Value}
    {f__law_sum_right : Addr} {od__law_sum_right an__law_sum_right : Option Addr} {sl__law_sum_right : Array (Option Value)} {oc__law_sum_right kV__law_sum_right dc__law_sum_right pm__law_sum_right cd__law_sum_right ct__law_sum_right : Value}
    {f_is_leading_of : Addr} {od_is_leading_of an_is_leading_of : Option Addr} {sl_is_leading_of : Array (Option Value)} {oc_is_leading_of kV_is_leading_of dc_is_leading_of pm_is_leading_of cd_is_leading_of ct_is_leading_of : Value}
    {f_patterns_in : Addr} {od_patterns_in an_patterns_in : Option Addr} {sl_patterns_in : Array (Option Value)} {oc_patterns_in kV_patterns_in dc_patterns_in pm_patterns_in cd_patterns_in ct_patterns_in : Value}
    {f_leading_in : Addr} {od_leading_in an_leading_in : Option Addr} {sl_leading_in : Array (Option Value)} {oc_leading_in kV_leading_in dc_leading_in pm_leading_in cd_leading_in ct_leading_in : Value}
    {f_powers_in : Addr} {od_powers_in an_powers_in : Option Addr} {sl_powers_in : Array (Option Value)} {oc_powers_in kV_powers_in dc_powers_in pm_powers_in cd_powers_in ct_powers_in : Value}
    {f_free_in : Addr} {od_free_in an_free_in : Option Addr} {sl_free_in : Array (Option Value)} {oc_free_in kV_free_in dc_free_in pm_free_in cd_free_in ct_free_in : Value}
    {f_require_within : Addr} {od_require_within an_require_within : Option Addr} {sl_require_within : Array (Option Value)} {oc_require_within kV_require_within dc_require_within pm_require_within cd_require_within ct_require_within : Value}
    {f_require_depth : Addr} {od_require_depth an_require_depth : Option Addr} {sl_require_depth : Array (Option Value)} {oc_require_depth kV_require_depth dc_require_depth pm_require_depth cd_require_depth ct_require_depth : Value}
    {f_is_prime : Addr} {od_is_prime an_is_prime : Option Addr} {sl_is_prime : Array (Option Value)} {oc_is_prime kV_is_prime dc_is_prime pm_is_prime cd_is_prime ct_is_prime : Value}
    {f_require_kind : Addr} {od_require_kind an_require_kind : Option Addr} {sl_require_kind : Array (Option Value)} {oc_require_kind kV_require_kind dc_require_kind pm_require_kind cd_require_kind ct_require_kind : Value}
    {f_free_patterns D_free_patterns : Addr} {od_free_patterns an_free_patterns : Option Addr} {sl_free_patterns : Array (Option Value)} {oc_free_patterns dc_free_patterns pm_free_patterns cd_free_patterns ct_free_patterns : Value}
    {f__law_right : Addr} {od__law_right an__law_right : Option Addr} {sl__law_right : Array (Option Value)} {oc__law_right kV__law_right dc__law_right pm__law_right cd__law_right ct__law_right : Value}
    {f_law : Addr} {od_law an_law : Option Addr} {sl_law : Array (Option Value)} {oc_law kV_law dc_law pm_law cd_law ct_law : Value}
    {t_GREATEST : Tok}
    {t_MAX_DEPTH : Tok}
    {t_MAX_SIZE : Tok}
    {t_MOST_LETTERS : Tok}
    {t0_PRIMES t1_PRIMES t2_PRIMES t3_PRIMES : Tok} {T_PRIMES : Addr} {dd_PRIMES : Option Addr} {nn_PRIMES : Nat} {sl_PRIMES : Array (Option Value)}
    (a__law_cup : PySem.W.nsIn K mainGlobals "_law_cup" = some (some (.ref f__law_cup)))
    (l__law_cup : K.lookup f__law_cup = some ⟨oc__law_cup, od__law_cup, .func (PySem.W.fnOf "_law_cup" "_law_cup" (defArgs s__law_cup) (defBody s__law_cup) (defScope s__law_cup) .none kV__law_cup dc__law_cup pm__law_cup an__law_cup cd__law_cup ct__law_cup), sl__law_cup⟩)
    (c__law_cup : PySem.W.codeIn K cd__law_cup "_law_cup" = true)
    (k__law_cup : PySem.W.keepIn K (.ref f__law_cup) = true)
    (a__law_bit : PySem.W.nsIn K mainGlobals "_law_bit" = some (some (.ref f__law_bit)))
    (l__law_bit : K.lookup f__law_bit = some ⟨oc__law_bit, od__law_bit, .func (PySem.W.fnOf "_law_bit" "_law_bit" (defArgs s__law_bit) (defBody s__law_bit) (defScope s__law_bit) .none kV__law_bit dc__law_bit pm__law_bit an__law_bit cd__law_bit ct__law_bit), sl__law_bit⟩)
    (c__law_bit : PySem.W.codeIn K cd__law_bit "_law_bit" = true)
    (k__law_bit : PySem.W.keepIn K (.ref f__law_bit) = true)
    (a__law_leads : PySem.W.nsIn K mainGlobals "_law_leads" = some (some (.ref f__law_leads)))
    (l__law_leads : K.lookup f__law_leads = some ⟨oc__law_leads, od__law_leads, .func (PySem.W.fnOf "_law_leads" "_law_leads" (defArgs s__law_leads) (defBody s__law_leads) (defScope s__law_leads) .none kV__law_leads dc__law_leads pm__law_leads an__law_leads cd__law_leads ct__law_leads), sl__law_leads⟩)
    (c__law_leads : PySem.W.codeIn K cd__law_leads "_law_leads" = true)
    (k__law_leads : PySem.W.keepIn K (.ref f__law_leads) = true)
    (a__law_lines_to : PySem.W.nsIn K mainGlobals "_law_lines_to" = some (some (.ref f__law_lines_to)))
    (l__law_lines_to : K.lookup f__law_lines_to = some ⟨oc__law_lines_to, od__law_lines_to, .func (PySem.W.fnOf "_law_lines_to" "_law_lines_to" (defArgs s__law_lines_to) (defBody s__law_lines_to) (defScope s__law_lines_to) .none kV__law_lines_to dc__law_lines_to pm__law_lines_to an__law_lines_to cd__law_lines_to ct__law_lines_to), sl__law_lines_to⟩)
    (c__law_lines_to : PySem.W.codeIn K cd__law_lines_to "_law_lines_to" = true)
    (k__law_lines_to : PySem.W.keepIn K (.ref f__law_lines_to) = true)
    (a__law_leaders : PySem.W.nsIn K mainGlobals "_law_leaders" = some (some (.ref f__law_leaders)))
    (l__law_leaders : K.lookup f__law_leaders = some ⟨oc__law_leaders, od__law_leaders, .func (PySem.W.fnOf "_law_leaders" "_law_leaders" (defArgs s__law_leaders) (defBody s__law_leaders) (defScope s__law_leaders) .none kV__law_leaders dc__law_leaders pm__law_leaders an__law_leaders cd__law_leaders ct__law_leaders), sl__law_leaders⟩)
    (c__law_leaders : PySem.W.codeIn K cd__law_leaders "_law_leaders" = true)
    (k__law_leaders : PySem.W.keepIn K (.ref f__law_leaders) = true)
    (a__law_free : PySem.W.nsIn K mainGlobals "_law_free" = some (some (.ref f__law_free)))
    (l__law_free : K.lookup f__law_free = some ⟨oc__law_free, od__law_free, .func (PySem.W.fnOf "_law_free" "_law_free" (defArgs s__law_free) (defBody s__law_free) (defScope s__law_free) .none kV__law_free dc__law_free pm__law_free an__law_free cd__law_free ct__law_free), sl__law_free⟩)
    (c__law_free : PySem.W.codeIn K cd__law_free "_law_free" = true)
    (k__law_free : PySem.W.keepIn K (.ref f__law_free) = true)
    (a__law_pick : PySem.W.nsIn K mainGlobals "_law_pick" = some (some (.ref f__law_pick)))
    (l__law_pick : K.lookup f__law_pick = some ⟨oc__law_pick, od__law_pick, .func (PySem.W.fnOf "_law_pick" "_law_pick" (defArgs s__law_pick) (defBody s__law_pick) (defScope s__law_pick) .none kV__law_pick dc__law_pick pm__law_pick an__law_pick cd__law_pick ct__law_pick), sl__law_pick⟩)
    (c__law_pick : PySem.W.codeIn K cd__law_pick "_law_pick" = true)
    (k__law_pick : PySem.W.keepIn K (.ref f__law_pick) = true)
    (a__law_kind : PySem.W.nsIn K mainGlobals "_law_kind" = some (some (.ref f__law_kind)))
    (l__law_kind : K.lookup f__law_kind = some ⟨oc__law_kind, od__law_kind, .func (PySem.W.fnOf "_law_kind" "_law_kind" (defArgs s__law_kind) (defBody s__law_kind) (defScope s__law_kind) .none kV__law_kind dc__law_kind pm__law_kind an__law_kind cd__law_kind ct__law_kind), sl__law_kind⟩)
    (c__law_kind : PySem.W.codeIn K cd__law_kind "_law_kind" = true)
    (k__law_kind : PySem.W.keepIn K (.ref f__law_kind) = true)
    (a_is_integer : PySem.W.nsIn K mainGlobals "is_integer" = some (some (.ref f_is_integer)))
    (l_is_integer : K.lookup f_is_integer = some ⟨oc_is_integer, od_is_integer, .func (PySem.W.fnOf "is_integer" "is_integer" (defArgs s_is_integer) (defBody s_is_integer) (defScope s_is_integer) .none kV_is_integer dc_is_integer pm_is_integer an_is_integer cd_is_integer ct_is_integer), sl_is_integer⟩)
    (c_is_integer : PySem.W.codeIn K cd_is_integer "is_integer" = true)
    (k_is_integer : PySem.W.keepIn K (.ref f_is_integer) = true)
    (a_is_integer_within : PySem.W.nsIn K mainGlobals "is_integer_within" = some (some (.ref f_is_integer_within)))
    (l_is_integer_within : K.lookup f_is_integer_within = some ⟨oc_is_integer_within, od_is_integer_within, .func (PySem.W.fnOf "is_integer_within" "is_integer_within" (defArgs s_is_integer_within) (defBody s_is_integer_within) (defScope s_is_integer_within) .none kV_is_integer_within dc_is_integer_within pm_is_integer_within an_is_integer_within cd_is_integer_within ct_is_integer_within), sl_is_integer_within⟩)
    (c_is_integer_within : PySem.W.codeIn K cd_is_integer_within "is_integer_within" = true)
    (k_is_integer_within : PySem.W.keepIn K (.ref f_is_integer_within) = true)
    (a_power_of : PySem.W.nsIn K mainGlobals "power_of" = some (some (.ref f_power_of)))
    (l_power_of : K.lookup f_power_of = some ⟨oc_power_of, od_power_of, .func (PySem.W.fnOf "power_of" "power_of" (defArgs s_power_of) (defBody s_power_of) (defScope s_power_of) .none kV_power_of dc_power_of pm_power_of an_power_of cd_power_of ct_power_of), sl_power_of⟩)
    (c_power_of : PySem.W.codeIn K cd_power_of "power_of" = true)
    (k_power_of : PySem.W.keepIn K (.ref f_power_of) = true)
    (a_are_small : PySem.W.nsIn K mainGlobals "are_small" = some (some (.ref f_are_small)))
    (l_are_small : K.lookup f_are_small = some ⟨oc_are_small, od_are_small, .func (PySem.W.fnOf "are_small" "are_small" (defArgs s_are_small) (defBody s_are_small) (defScope s_are_small) .none kV_are_small dc_are_small pm_are_small an_are_small cd_are_small ct_are_small), sl_are_small⟩)
    (c_are_small : PySem.W.codeIn K cd_are_small "are_small" = true)
    (k_are_small : PySem.W.keepIn K (.ref f_are_small) = true)
    (a_is_letters : PySem.W.nsIn K mainGlobals "is_letters" = some (some (.ref f_is_letters)))
    (l_is_letters : K.lookup f_is_letters = some ⟨oc_is_letters, od_is_letters, .func (PySem.W.fnOf "is_letters" "is_letters" (defArgs s_is_letters) (defBody s_is_letters) (defScope s_is_letters) .none kV_is_letters dc_is_letters pm_is_letters an_is_letters cd_is_letters ct_is_letters), sl_is_letters⟩)
    (c_is_letters : PySem.W.codeIn K cd_is_letters "is_letters" = true)
    (k_is_letters : PySem.W.keepIn K (.ref f_is_letters) = true)
    (a_require_letters : PySem.W.nsIn K mainGlobals "require_letters" = some (some (.ref f_require_letters)))
    (l_require_letters : K.lookup f_require_letters = some ⟨oc_require_letters, od_require_letters, .func (PySem.W.fnOf "require_letters" "require_letters" (defArgs s_require_letters) (defBody s_require_letters) (defScope s_require_letters) .none kV_require_letters dc_require_letters pm_require_letters an_require_letters cd_require_letters ct_require_letters), sl_require_letters⟩)
    (c_require_letters : PySem.W.codeIn K cd_require_letters "require_letters" = true)
    (k_require_letters : PySem.W.keepIn K (.ref f_require_letters) = true)
    (a_sign_of : PySem.W.nsIn K mainGlobals "sign_of" = some (some (.ref f_sign_of)))
    (l_sign_of : K.lookup f_sign_of = some ⟨oc_sign_of, od_sign_of, .func (PySem.W.fnOf "sign_of" "sign_of" (defArgs s_sign_of) (defBody s_sign_of) (defScope s_sign_of) .none kV_sign_of dc_sign_of pm_sign_of an_sign_of cd_sign_of ct_sign_of), sl_sign_of⟩)
    (c_sign_of : PySem.W.codeIn K cd_sign_of "sign_of" = true)
    (k_sign_of : PySem.W.keepIn K (.ref f_sign_of) = true)
    (a_how_many : PySem.W.nsIn K mainGlobals "how_many" = some (some (.ref f_how_many)))
    (l_how_many : K.lookup f_how_many = some ⟨oc_how_many, od_how_many, .func (PySem.W.fnOf "how_many" "how_many" (defArgs s_how_many) (defBody s_how_many) (defScope s_how_many) .none kV_how_many dc_how_many pm_how_many an_how_many cd_how_many ct_how_many), sl_how_many⟩)
    (c_how_many : PySem.W.codeIn K cd_how_many "how_many" = true)
    (k_how_many : PySem.W.keepIn K (.ref f_how_many) = true)
    (a__law_powers_right : PySem.W.nsIn K mainGlobals "_law_powers_right" = some (some (.ref f__law_powers_right)))
    (l__law_powers_right : K.lookup f__law_powers_right = some ⟨oc__law_powers_right, od__law_powers_right, .func (PySem.W.fnOf "_law_powers_right" "_law_powers_right" (defArgs s__law_powers_right) (defBody s__law_powers_right) (defScope s__law_powers_right) .none kV__law_powers_right dc__law_powers_right pm__law_powers_right an__law_powers_right cd__law_powers_right ct__law_powers_right), sl__law_powers_right⟩)
    (c__law_powers_right : PySem.W.codeIn K cd__law_powers_right "_law_powers_right" = true)
    (k__law_powers_right : PySem.W.keepIn K (.ref f__law_powers_right) = true)
    (a__law_signs : PySem.W.nsIn K mainGlobals "_law_signs" = some (some (.ref f__law_signs)))
    (l__law_signs : K.lookup f__law_signs = some ⟨oc__law_signs, od__law_signs, .func (PySem.W.fnOf "_law_signs" "_law_signs" (defArgs s__law_signs) (defBody s__law_signs) (defScope s__law_signs) .none kV__law_signs dc__law_signs pm__law_signs an__law_signs cd__law_signs ct__law_signs), sl__law_signs⟩)
    (c__law_signs : PySem.W.codeIn K cd__law_signs "_law_signs" = true)
    (k__law_signs : PySem.W.keepIn K (.ref f__law_signs) = true)
    (a__law_sum_right : PySem.W.nsIn K mainGlobals "_law_sum_right" = some (some (.ref f__law_sum_right)))
    (l__law_sum_right : K.lookup f__law_sum_right = some ⟨oc__law_sum_right, od__law_sum_right, .func (PySem.W.fnOf "_law_sum_right" "_law_sum_right" (defArgs s__law_sum_right) (defBody s__law_sum_right) (defScope s__law_sum_right) .none kV__law_sum_right dc__law_sum_right pm__law_sum_right an__law_sum_right cd__law_sum_right ct__law_sum_right), sl__law_sum_right⟩)
    (c__law_sum_right : PySem.W.codeIn K cd__law_sum_right "_law_sum_right" = true)
    (k__law_sum_right : PySem.W.keepIn K (.ref f__law_sum_right) = true)
    (a_is_leading_of : PySem.W.nsIn K mainGlobals "is_leading_of" = some (some (.ref f_is_leading_of)))
    (l_is_leading_of : K.lookup f_is_leading_of = some ⟨oc_is_leading_of, od_is_leading_of, .func (PySem.W.fnOf "is_leading_of" "is_leading_of" (defArgs s_is_leading_of) (defBody s_is_leading_of) (defScope s_is_leading_of) .none kV_is_leading_of dc_is_leading_of pm_is_leading_of an_is_leading_of cd_is_leading_of ct_is_leading_of), sl_is_leading_of⟩)
    (c_is_leading_of : PySem.W.codeIn K cd_is_leading_of "is_leading_of" = true)
    (k_is_leading_of : PySem.W.keepIn K (.ref f_is_leading_of) = true)
    (a_patterns_in : PySem.W.nsIn K mainGlobals "patterns_in" = some (some (.ref f_patterns_in)))
    (l_patterns_in : K.lookup f_patterns_in = some ⟨oc_patterns_in, od_patterns_in, .func (PySem.W.fnOf "patterns_in" "patterns_in" (defArgs s_patterns_in) (defBody s_patterns_in) (defScope s_patterns_in) .none kV_patterns_in dc_patterns_in pm_patterns_in an_patterns_in cd_patterns_in ct_patterns_in), sl_patterns_in⟩)
    (c_patterns_in : PySem.W.codeIn K cd_patterns_in "patterns_in" = true)
    (k_patterns_in : PySem.W.keepIn K (.ref f_patterns_in) = true)
    (a_leading_in : PySem.W.nsIn K mainGlobals "leading_in" = some (some (.ref f_leading_in)))
    (l_leading_in : K.lookup f_leading_in = some ⟨oc_leading_in, od_leading_in, .func (PySem.W.fnOf "leading_in" "leading_in" (defArgs s_leading_in) (defBody s_leading_in) (defScope s_leading_in) .none kV_leading_in dc_leading_in pm_leading_in an_leading_in cd_leading_in ct_leading_in), sl_leading_in⟩)
    (c_leading_in : PySem.W.codeIn K cd_leading_in "leading_in" = true)
    (k_leading_in : PySem.W.keepIn K (.ref f_leading_in) = true)
    (a_powers_in : PySem.W.nsIn K mainGlobals "powers_in" = some (some (.ref f_powers_in)))
    (l_powers_in : K.lookup f_powers_in = some ⟨oc_powers_in, od_powers_in, .func (PySem.W.fnOf "powers_in" "powers_in" (defArgs s_powers_in) (defBody s_powers_in) (defScope s_powers_in) .none kV_powers_in dc_powers_in pm_powers_in an_powers_in cd_powers_in ct_powers_in), sl_powers_in⟩)
    (c_powers_in : PySem.W.codeIn K cd_powers_in "powers_in" = true)
    (k_powers_in : PySem.W.keepIn K (.ref f_powers_in) = true)
    (a_free_in : PySem.W.nsIn K mainGlobals "free_in" = some (some (.ref f_free_in)))
    (l_free_in : K.lookup f_free_in = some ⟨oc_free_in, od_free_in, .func (PySem.W.fnOf "free_in" "free_in" (defArgs s_free_in) (defBody s_free_in) (defScope s_free_in) .none kV_free_in dc_free_in pm_free_in an_free_in cd_free_in ct_free_in), sl_free_in⟩)
    (c_free_in : PySem.W.codeIn K cd_free_in "free_in" = true)
    (k_free_in : PySem.W.keepIn K (.ref f_free_in) = true)
    (a_require_within : PySem.W.nsIn K mainGlobals "require_within" = some (some (.ref f_require_within)))
    (l_require_within : K.lookup f_require_within = some ⟨oc_require_within, od_require_within, .func (PySem.W.fnOf "require_within" "require_within" (defArgs s_require_within) (defBody s_require_within) (defScope s_require_within) .none kV_require_within dc_require_within pm_require_within an_require_within cd_require_within ct_require_within), sl_require_within⟩)
    (c_require_within : PySem.W.codeIn K cd_require_within "require_within" = true)
    (k_require_within : PySem.W.keepIn K (.ref f_require_within) = true)
    (a_require_depth : PySem.W.nsIn K mainGlobals "require_depth" = some (some (.ref f_require_depth)))
    (l_require_depth : K.lookup f_require_depth = some ⟨oc_require_depth, od_require_depth, .func (PySem.W.fnOf "require_depth" "require_depth" (defArgs s_require_depth) (defBody s_require_depth) (defScope s_require_depth) .none kV_require_depth dc_require_depth pm_require_depth an_require_depth cd_require_depth ct_require_depth), sl_require_depth⟩)
    (c_require_depth : PySem.W.codeIn K cd_require_depth "require_depth" = true)
    (k_require_depth : PySem.W.keepIn K (.ref f_require_depth) = true)
    (a_is_prime : PySem.W.nsIn K mainGlobals "is_prime" = some (some (.ref f_is_prime)))
    (l_is_prime : K.lookup f_is_prime = some ⟨oc_is_prime, od_is_prime, .func (PySem.W.fnOf "is_prime" "is_prime" (defArgs s_is_prime) (defBody s_is_prime) (defScope s_is_prime) .none kV_is_prime dc_is_prime pm_is_prime an_is_prime cd_is_prime ct_is_prime), sl_is_prime⟩)
    (c_is_prime : PySem.W.codeIn K cd_is_prime "is_prime" = true)
    (k_is_prime : PySem.W.keepIn K (.ref f_is_prime) = true)
    (a_require_kind : PySem.W.nsIn K mainGlobals "require_kind" = some (some (.ref f_require_kind)))
    (l_require_kind : K.lookup f_require_kind = some ⟨oc_require_kind, od_require_kind, .func (PySem.W.fnOf "require_kind" "require_kind" (defArgs s_require_kind) (defBody s_require_kind) (defScope s_require_kind) .none kV_require_kind dc_require_kind pm_require_kind an_require_kind cd_require_kind ct_require_kind), sl_require_kind⟩)
    (c_require_kind : PySem.W.codeIn K cd_require_kind "require_kind" = true)
    (k_require_kind : PySem.W.keepIn K (.ref f_require_kind) = true)
    (a_free_patterns : PySem.W.nsIn K mainGlobals "free_patterns" = some (some (.ref f_free_patterns)))
    (l_free_patterns : K.lookup f_free_patterns = some ⟨oc_free_patterns, od_free_patterns, .func (PySem.W.fnOf "free_patterns" "free_patterns" (defArgs s_free_patterns) (defBody s_free_patterns) (defScope s_free_patterns) .none (.ref D_free_patterns) dc_free_patterns pm_free_patterns an_free_patterns cd_free_patterns ct_free_patterns), sl_free_patterns⟩)
    (c_free_patterns : PySem.W.codeIn K cd_free_patterns "free_patterns" = true)
    (k_free_patterns : PySem.W.keepIn K (.ref f_free_patterns) = true)
    (d_free_patterns : PySem.W.nsIn K D_free_patterns "prime" = some (some .none))
    (a__law_right : PySem.W.nsIn K mainGlobals "_law_right" = some (some (.ref f__law_right)))
    (l__law_right : K.lookup f__law_right = some ⟨oc__law_right, od__law_right, .func (PySem.W.fnOf "_law_right" "_law_right" (defArgs s__law_right) (defBody s__law_right) (defScope s__law_right) .none kV__law_right dc__law_right pm__law_right an__law_right cd__law_right ct__law_right), sl__law_right⟩)
    (c__law_right : PySem.W.codeIn K cd__law_right "_law_right" = true)
    (k__law_right : PySem.W.keepIn K (.ref f__law_right) = true)
    (a_law : PySem.W.nsIn K mainGlobals "law" = some (some (.ref f_law)))
    (l_law : K.lookup f_law = some ⟨oc_law, od_law, .func (PySem.W.fnOf "law" "law" (defArgs s_law) (defBody s_law) (defScope s_law) .none kV_law dc_law pm_law an_law cd_law ct_law), sl_law⟩)
    (c_law : PySem.W.codeIn K cd_law "law" = true)
    (k_law : PySem.W.keepIn K (.ref f_law) = true)
    (z_abs : PySem.W.nsIn K mainGlobals "abs" = some none)
    (z_all : PySem.W.nsIn K mainGlobals "all" = some none)
    (z_bool : PySem.W.nsIn K mainGlobals "bool" = some none)
    (z_int : PySem.W.nsIn K mainGlobals "int" = some none)
    (z_isinstance : PySem.W.nsIn K mainGlobals "isinstance" = some none)
    (z_len : PySem.W.nsIn K mainGlobals "len" = some none)
    (z_max : PySem.W.nsIn K mainGlobals "max" = some none)
    (z_min : PySem.W.nsIn K mainGlobals "min" = some none)
    (z_range : PySem.W.nsIn K mainGlobals "range" = some none)
    (z_repr : PySem.W.nsIn K mainGlobals "repr" = some none)
    (z_sorted : PySem.W.nsIn K mainGlobals "sorted" = some none)
    (z_str : PySem.W.nsIn K mainGlobals "str" = some none)
    (z_tuple : PySem.W.nsIn K mainGlobals "tuple" = some none)
    (z_zip : PySem.W.nsIn K mainGlobals "zip" = some none)
    (g_GREATEST : PySem.W.nsIn K mainGlobals "GREATEST" = some (some (.int (99999999999999999999999999999999999999999999999999999999999999999999999999999999999999999999999999999999999999999999999999999999999999999999999999999999999999999999999999999999999999999999999999999999) t_GREATEST)))
    (g_MAX_DEPTH : PySem.W.nsIn K mainGlobals "MAX_DEPTH" = some (some (.int (5) t_MAX_DEPTH)))
    (g_MAX_SIZE : PySem.W.nsIn K mainGlobals "MAX_SIZE" = some (some (.int (400) t_MAX_SIZE)))
    (g_MOST_LETTERS : PySem.W.nsIn K mainGlobals "MOST_LETTERS" = some (some (.int (3) t_MOST_LETTERS)))
    (g_PRIMES : PySem.W.nsIn K mainGlobals "PRIMES" = some (some (.ref T_PRIMES)))
    (h_PRIMES : K.lookup T_PRIMES = some ⟨.type "tuple", dd_PRIMES, .seq #[.int (2) t0_PRIMES, .int (3) t1_PRIMES, .int (5) t2_PRIMES, .int (7) t3_PRIMES] nn_PRIMES, sl_PRIMES⟩) :
    ∃ fd : FuncData, (∀ (s : Shared) (v : Value), BindsTo s fd ⟨[v], []⟩ [("_law_script", v)]) ∧ ∀ base : Heap, K.In base → base.Ns mainGlobals mg → FnD l.prog w K mg base 7 fa fd ["_law_script"] m_law := by
  have e := hfa.symm.trans (PySem.W.mg_of X G a_law)
  cases e
  have T : Txt K mg := { f__law_cup := defAt_of X G a__law_cup l__law_cup c__law_cup k__law_cup, f__law_bit := defAt_of X G a__law_bit l__law_bit c__law_bit k__law_bit, f__law_leads := defAt_of X G a__law_leads l__law_leads c__law_leads k__law_leads, f__law_lines_to := defAt_of X G a__law_lines_to l__law_lines_to c__law_lines_to k__law_lines_to, f__law_leaders := defAt_of X G a__law_leaders l__law_leaders c__law_leaders k__law_leaders, f__law_free := defAt_of X G a__law_free l__law_free c__law_free k__law_free, f__law_pick := defAt_of X G a__law_pick l__law_pick c__law_pick k__law_pick, f__law_kind := defAt_of X G a__law_kind l__law_kind c__law_kind k__law_kind, f_is_integer := defAt_of X G a_is_integer l_is_integer c_is_integer k_is_integer, f_is_integer_within := defAt_of X G a_is_integer_within l_is_integer_within c_is_integer_within k_is_integer_within, f_power_of := defAt_of X G a_power_of l_power_of c_power_of k_power_of, f_are_small := defAt_of X G a_are_small l_are_small c_are_small k_are_small, f_is_letters := defAt_of X G a_is_letters l_is_letters c_is_letters k_is_letters, f_require_letters := defAt_of X G a_require_letters l_require_letters c_require_letters k_require_letters, f_sign_of := defAt_of X G a_sign_of l_sign_of c_sign_of k_sign_of, f_how_many := defAt_of X G a_how_many l_how_many c_how_many k_how_many, f__law_powers_right := defAt_of X G a__law_powers_right l__law_powers_right c__law_powers_right k__law_powers_right, f__law_signs := defAt_of X G a__law_signs l__law_signs c__law_signs k__law_signs, f__law_sum_right := defAt_of X G a__law_sum_right l__law_sum_right c__law_sum_right k__law_sum_right, f_is_leading_of := defAt_of X G a_is_leading_of l_is_leading_of c_is_leading_of k_is_leading_of, f_patterns_in := defAt_of X G a_patterns_in l_patterns_in c_patterns_in k_patterns_in, f_leading_in := defAt_of X G a_leading_in l_leading_in c_leading_in k_leading_in, f_powers_in := defAt_of X G a_powers_in l_powers_in c_powers_in k_powers_in, f_free_in := defAt_of X G a_free_in l_free_in c_free_in k_free_in, f_require_within := defAt_of X G a_require_within l_require_within c_require_within k_require_within, f_require_depth := defAt_of X G a_require_depth l_require_depth c_require_depth k_require_depth, f_is_prime := defAt_of X G a_is_prime l_is_prime c_is_prime k_is_prime, f_require_kind := defAt_of X G a_require_kind l_require_kind c_require_kind k_require_kind, f_free_patterns := defAtK_of X G a_free_patterns l_free_patterns c_free_patterns k_free_patterns d_free_patterns, f__law_right := defAt_of X G a__law_right l__law_right c__law_right k__law_right, n_abs := PySem.W.mg_none_of X G z_abs, n_all := PySem.W.mg_none_of X G z_all, n_bool := PySem.W.mg_none_of X G z_bool, n_int := PySem.W.mg_none_of X G z_int, n_isinstance := PySem.W.mg_none_of X G z_isinstance, n_len := PySem.W.mg_none_of X G z_len, n_max := PySem.W.mg_none_of X G z_max, n_min := PySem.W.mg_none_of X G z_min, n_range := PySem.W.mg_none_of X G z_range, n_repr := PySem.W.mg_none_of X G z_repr, n_sorted := PySem.W.mg_none_of X G z_sorted, n_str := PySem.W.mg_none_of X G z_str, n_tuple := PySem.W.mg_none_of X G z_tuple, n_zip := PySem.W.mg_none_of X G z_zip, c_GREATEST := glob_int X G g_GREATEST, c_MAX_DEPTH := glob_int X G g_MAX_DEPTH, c_MAX_SIZE := glob_int X G g_MAX_SIZE, c_MOST_LETTERS := glob_int X G g_MOST_LETTERS, c_PRIMES := glob_tup X G g_PRIMES h_PRIMES (by show 4 ≤ sizeLine; decide) (xs := [.int (2), .int (3), .int (5), .int (7)]) (.cons ⟨_, rfl⟩ (.cons ⟨_, rfl⟩ (.cons ⟨_, rfl⟩ (.cons ⟨_, rfl⟩ (.nil))))) (fun _ => .cons (.int (2)) (.cons (.int (3)) (.cons (.int (5)) (.cons (.int (7)) (.nil))))) }
  exact ⟨_, fun s v => .of_eq rfl, fun base _ _ => fn_law T (fun_mk (st := s_law) l_law c_law k_law)⟩
end Wk09
open PySem PySem.W PyProof.Rows
set_option maxHeartbeats 0 in
theorem PySem.Challenge.cw_whatcounts_k09_whole_free_patterns_and_n_holds : PySem.Challenge.rw_whatcounts_k09_whole_free_patterns_and_n.Holds := by
  w_on; o_law; k_head; (case hw => w_witness2)
  k_fill
  refine Dk.walk_D (l := PySem.Challenge.rw_whatcounts_k09_whole_free_patterns_and_n) (n := 63) (k := 7) (x := "_law_script") (m := Wk09.m_law) rfl (by decide) rfl ⟨rfl, by decide, by decide⟩ (fun w h Y => PySem.W.kIn_of Y) ?F ?m
  case F =>
    intro w mg fa h KX G hmg
    refine' Wk09.all_mk KX G hmg ?a__law_cup ?l__law_cup ?c__law_cup ?k__law_cup ?a__law_bit ?l__law_bit ?c__law_bit ?k__law_bit ?a__law_leads ?l__law_leads ?c__law_leads ?k__law_leads ?a__law_lines_to ?l__law_lines_to ?c__law_lines_to ?k__law_lines_to ?a__law_leaders ?l__law_leaders ?c__law_leaders ?k__law_leaders ?a__law_free ?l__law_free ?c__law_free ?k__law_free ?a__law_pick ?l__law_pick ?c__law_pick ?k__law_pick ?a__law_kind ?l__law_kind ?c__law_kind ?k__law_kind ?a_is_integer ?l_is_integer ?c_is_integer ?k_is_integer ?a_is_integer_within ?l_is_integer_within ?c_is_integer_within ?k_is_integer_within ?a_power_of ?l_power_of ?c_power_of ?k_power_of ?a_are_small ?l_are_small ?c_are_small ?k_are_small ?a_is_letters ?l_is_letters ?c_is_letters ?k_is_letters ?a_require_letters ?l_require_letters ?c_require_letters ?k_require_letters ?a_sign_of ?l_sign_of ?c_sign_of ?k_sign_of ?a_how_many ?l_how_many ?c_how_many ?k_how_many ?a__law_powers_right ?l__law_powers_right ?c__law_powers_right ?k__law_powers_right ?a__law_signs ?l__law_signs ?c__law_signs ?k__law_signs ?a__law_sum_right ?l__law_sum_right ?c__law_sum_right ?k__law_sum_right ?a_is_leading_of ?l_is_leading_of ?c_is_leading_of ?k_is_leading_of ?a_patterns_in ?l_patterns_in ?c_patterns_in ?k_patterns_in ?a_leading_in ?l_leading_in ?c_leading_in ?k_leading_in ?a_powers_in ?l_powers_in ?c_powers_in ?k_powers_in ?a_free_in ?l_free_in ?c_free_in ?k_free_in ?a_require_within ?l_require_within ?c_require_within ?k_require_within ?a_require_depth ?l_require_depth ?c_require_depth ?k_require_depth ?a_is_prime ?l_is_prime ?c_is_prime ?k_is_prime ?a_require_kind ?l_require_kind ?c_require_kind ?k_require_kind ?a_free_patterns ?l_free_patterns ?c_free_patterns ?k_free_patterns ?d_free_patterns ?a__law_right ?l__law_right ?c__law_right ?k__law_right ?a_law ?l_law ?c_law ?k_law ?z_abs ?z_all ?z_bool ?z_int ?z_isinstance ?z_len ?z_max ?z_min ?z_range ?z_repr ?z_sorted ?z_str ?z_tuple ?z_zip ?g_GREATEST ?g_MAX_DEPTH ?g_MAX_SIZE ?g_MOST_LETTERS ?g_PRIMES ?h_PRIMES
    (case a__law_cup => k_is)
    (case l__law_cup => k_is)
    (case c__law_cup => k_is)
    (case k__law_cup => k_is)
    (case a__law_bit => k_is)
    (case l__law_bit => k_is)
    (case c__law_bit => k_is)
    (case k__law_bit => k_is)
    (case a__law_leads => k_is)
    (case l__law_leads => k_is)
    (case c__law_leads => k_is)
    (case k__law_leads => k_is)
    (case a__law_lines_to => k_is)
    (case l__law_lines_to => k_is)
    (case c__law_lines_to => k_is)
    (case k__law_lines_to => k_is)
    (case a__law_leaders => k_is)
    (case l__law_leaders => k_is)
    (case c__law_leaders => k_is)
    (case k__law_leaders => k_is)
    (case a__law_free => k_is)
    (case l__law_free => k_is)
    (case c__law_free => k_is)
    (case k__law_free => k_is)
    (case a__law_pick => k_is)
    (case l__law_pick => k_is)
    (case c__law_pick => k_is)
    (case k__law_pick => k_is)
    (case a__law_kind => k_is)
    (case l__law_kind => k_is)
    (case c__law_kind => k_is)
    (case k__law_kind => k_is)
    (case a_is_integer => k_is)
    (case l_is_integer => k_is)
    (case c_is_integer => k_is)
    (case k_is_integer => k_is)
    (case a_is_integer_within => k_is)
    (case l_is_integer_within => k_is)
    (case c_is_integer_within => k_is)
    (case k_is_integer_within => k_is)
    (case a_power_of => k_is)
    (case l_power_of => k_is)
    (case c_power_of => k_is)
    (case k_power_of => k_is)
    (case a_are_small => k_is)
    (case l_are_small => k_is)
    (case c_are_small => k_is)
    (case k_are_small => k_is)
    (case a_is_letters => k_is)
    (case l_is_letters => k_is)
    (case c_is_letters => k_is)
    (case k_is_letters => k_is)
    (case a_require_letters => k_is)
    (case l_require_letters => k_is)
    (case c_require_letters => k_is)
    (case k_require_letters => k_is)
    (case a_sign_of => k_is)
    (case l_sign_of => k_is)
    (case c_sign_of => k_is)
    (case k_sign_of => k_is)
    (case a_how_many => k_is)
    (case l_how_many => k_is)
    (case c_how_many => k_is)
    (case k_how_many => k_is)
    (case a__law_powers_right => k_is)
    (case l__law_powers_right => k_is)
    (case c__law_powers_right => k_is)
    (case k__law_powers_right => k_is)
    (case a__law_signs => k_is)
    (case l__law_signs => k_is)
    (case c__law_signs => k_is)
    (case k__law_signs => k_is)
    (case a__law_sum_right => k_is)
    (case l__law_sum_right => k_is)
    (case c__law_sum_right => k_is)
    (case k__law_sum_right => k_is)
    (case a_is_leading_of => k_is)
    (case l_is_leading_of => k_is)
    (case c_is_leading_of => k_is)
    (case k_is_leading_of => k_is)
    (case a_patterns_in => k_is)
    (case l_patterns_in => k_is)
    (case c_patterns_in => k_is)
    (case k_patterns_in => k_is)
    (case a_leading_in => k_is)
    (case l_leading_in => k_is)
    (case c_leading_in => k_is)
    (case k_leading_in => k_is)
    (case a_powers_in => k_is)
    (case l_powers_in => k_is)
    (case c_powers_in => k_is)
    (case k_powers_in => k_is)
    (case a_free_in => k_is)
    (case l_free_in => k_is)
    (case c_free_in => k_is)
    (case k_free_in => k_is)
    (case a_require_within => k_is)
    (case l_require_within => k_is)
    (case c_require_within => k_is)
    (case k_require_within => k_is)
    (case a_require_depth => k_is)
    (case l_require_depth => k_is)
    (case c_require_depth => k_is)
    (case k_require_depth => k_is)
    (case a_is_prime => k_is)
    (case l_is_prime => k_is)
    (case c_is_prime => k_is)
    (case k_is_prime => k_is)
    (case a_require_kind => k_is)
    (case l_require_kind => k_is)
    (case c_require_kind => k_is)
    (case k_require_kind => k_is)
    (case a_free_patterns => k_is)
    (case l_free_patterns => k_is)
    (case c_free_patterns => k_is)
    (case k_free_patterns => k_is)
    (case d_free_patterns => k_is)
    (case a__law_right => k_is)
    (case l__law_right => k_is)
    (case c__law_right => k_is)
    (case k__law_right => k_is)
    (case a_law => k_is)
    (case l_law => k_is)
    (case c_law => k_is)
    (case k_law => k_is)
    (case z_abs => k_is)
    (case z_all => k_is)
    (case z_bool => k_is)
    (case z_int => k_is)
    (case z_isinstance => k_is)
    (case z_len => k_is)
    (case z_max => k_is)
    (case z_min => k_is)
    (case z_range => k_is)
    (case z_repr => k_is)
    (case z_sorted => k_is)
    (case z_str => k_is)
    (case z_tuple => k_is)
    (case z_zip => k_is)
    (case g_GREATEST => k_is)
    (case g_MAX_DEPTH => k_is)
    (case g_MAX_SIZE => k_is)
    (case g_MOST_LETTERS => k_is)
    (case g_PRIMES => k_is)
    (case h_PRIMES => k_is)
  case m => exact fun ns _ _ => Wk09.law_true ns
